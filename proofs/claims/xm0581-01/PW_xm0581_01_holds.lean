import PyProof.Rows.All
import Wide.All
import OpenK.AllK
import Wide.FinOn
import PySem.Challenge.RW_xm0581_01
open PySem PySem.W PyProof.Rows PySem.Calls PySem.Spec
set_option Elab.async false
set_option maxRecDepth 100000
set_option maxHeartbeats 8000000
set_option linter.unusedVariables false
set_option linter.unusedSimpArgs false

namespace Mine
/-- nothing is run -/
def LeftNone (p : Program) : Prop := LeftO (view p []) (view p []) [] (fun _ => true) (fun _ => ()) (fun _ => ()) 2000
theorem PySem.W.holds_open {r : OpenRow} {q : Program} {loose : List Str} {Xt : Shared → Bool} {XP : (Str → Option Value) → Heap → Prop} {α : Type} {Yf : Shared → α} {Ya : World → α} {YP : World → Heap → Prop} {d : DefRec} {kwd : List (Str × Expr)} {N : Nat}
    (left : LeftNone r.prog) (hY : ∀ w s, Yf s = Ya w → YP w s.heap) (hYk : ∀ w h h', YP w h → (∀ b o, h.get? b = some o → h'.get? b = some o) → YP w h')
    (hX : ∀ s, Xt s = true → XP (s.heap.nsMap mainGlobals) s.heap) (hXk : ∀ mg h h', XP mg h → (∀ b o, h.get? b = some o → h'.get? b = some o) → XP mg h')
    (hdef : defOf q r.name = some (d, kwd)) (hp : r.prog.theDef r.name = some (d.params, d.body, d.scope)) (hk : kwWritten? d.params.kwonlyargs d.params.kw_defaults = some kwd) (hRf : ∀ s, Xt s = true → RecFacts r.records s.heap) (hwr : (!r.writes || r.records.isEmpty) = true)
    (k1 : r.wellSaid = true) (ok : (chainsOk q && opensWell r.prog && (frees r.toRowW && r.within.isEmpty)) = true) (hb : r.prog.bare) (hw : r.toRowW.promised)
    (call : LeftO r.prog q loose Xt Yf Ya N ∧ WalkO q loose XP YP r.toRowW d kwd fun f vs => PySem.call f vs) : r.Holds :=
  _root_.PySem.W.holds_open call.1 hY hYk hX hXk hdef hp hk hRf hwr k1 ok hb hw call.2
open_top hd for PySem.Challenge.rw_xm0581_01
theorem left_of_boot {p q : Program} {loose : List Str} {Xt : Shared → Bool} {α : Type} {Yf : Shared → α} {Ya : World → α} {N : Nat} {m₀ : Nat} {ann : Option Value}
    (e : opening p = plainProg p.main.scope.names) (hN : Nat.ble 600 N = true) (f : ∀ s, fenceModules? p s = some s)
    (size : ∀ w : World, ((boot_heap w.params).isNs mainGlobals && (#[] : Array GenState).size == 0, (boot_heap w.params).objs.size, (boot_heap w.params).nsMap mainGlobals "__annotations__") = (true, m₀, ann))
    (run : ∀ (w : World) (os : OsState), (topRun treeTable p w m₀ ann N ⟨boot_heap w.params, #[], boot_drawn, boot_toks, os⟩ (topStub p)).map (fun s₁ => (staticsOk (importedModules p.main.body) (boot_heap w.params) s₁.heap && namesBound p s₁.heap && gensDone s₁ && laidKept (boot_heap w.params) s₁.heap, openSeen q loose (importedModules p.main.body) Xt true s₁, Yf s₁)) = some (true, openGood q loose, Ya w)) :
    LeftO p q loose Xt Yf Ya N := fun w => by
  obtain ⟨⟨h, gs, d, k, os⟩, e1, e'⟩ := Option.map_eq_some_iff.mp (boot_open e hN f w)
  obtain ⟨rfl, rfl, rfl, rfl⟩ : h = boot_heap w.params ∧ gs = #[] ∧ d = boot_drawn ∧ k = boot_toks := by simpa using e'
  obtain ⟨z1, z2, z3⟩ : _ ∧ _ ∧ _ := by simpa only [Prod.mk.injEq] using size w
  obtain ⟨s₁, r, l⟩ := Option.map_eq_some_iff.mp (run w os)
  obtain ⟨l1, l2, l3⟩ : _ ∧ _ ∧ _ := by simpa only [Prod.mk.injEq] using l
  have t : topFrom treeTable p w N ⟨boot_heap w.params, #[], boot_drawn, boot_toks, os⟩ = some s₁ := by
    unfold topFrom
    dsimp only
    rw [z1, z2, z3, r]
    show (match staticsOk (importedModules p.main.body) (boot_heap w.params) s₁.heap && namesBound p s₁.heap && gensDone s₁ && laidKept (boot_heap w.params) s₁.heap with | true => _ | false => _) = _
    rw [l1]
  unfold openEnds
  rw [e1]
  show (topFrom treeTable p w N _).map _ = _
  rw [t]
  exact congrArg some (Prod.ext l2 l3)



theorem left_of_row {p q : Program} {loose : List Str} {Xt : Shared → Bool} {α : Type} {Yf : Shared → α} {Ya : World → α} {N : Nat} {m₀ : Nat} {ann : Option Value} (row : String)
    (e : opening p = plainProg p.main.scope.names) (hN : Nat.ble 600 N = true) (f : ∀ s, fenceModules? p s = some s)
    (size : ∀ w : World, ((boot_heap w.params).isNs mainGlobals && (#[] : Array GenState).size == 0, (boot_heap w.params).objs.size, (boot_heap w.params).nsMap mainGlobals "__annotations__") = (true, m₀, ann))
    (rf : ∀ (w : World) (os : OsState), (topRun treeTable p (w.withFollow row false) m₀ ann N ⟨boot_heap (w.withFollow row false).params, #[], boot_drawn, boot_toks, os⟩ (topStub p)).map (fun s₁ => (staticsOk (importedModules p.main.body) (boot_heap (w.withFollow row false).params) s₁.heap && namesBound p s₁.heap && gensDone s₁ && laidKept (boot_heap (w.withFollow row false).params) s₁.heap, openSeen q loose (importedModules p.main.body) Xt true s₁, Yf s₁)) = some (true, openGood q loose, Ya (w.withFollow row false)))
    (rt : ∀ (w : World) (os : OsState), (topRun treeTable p (w.withFollow row true) m₀ ann N ⟨boot_heap (w.withFollow row true).params, #[], boot_drawn, boot_toks, os⟩ (topStub p)).map (fun s₁ => (staticsOk (importedModules p.main.body) (boot_heap (w.withFollow row true).params) s₁.heap && namesBound p s₁.heap && gensDone s₁ && laidKept (boot_heap (w.withFollow row true).params) s₁.heap, openSeen q loose (importedModules p.main.body) Xt true s₁, Yf s₁)) = some (true, openGood q loose, Ya (w.withFollow row true))) :
    LeftO p q loose Xt Yf Ya N := left_of_boot e hN f size (byRow2 row rf rt)
/-- what the head looks at -/
noncomputable abbrev headX (s : Shared) : Bool := xlAt hd.view_39 [] s && recOk PySem.Challenge.rw_xm0581_01.row.records s
noncomputable abbrev headK : Hook := kHook hd.heap_39 [2, 3, 15, 16, 18, 19, 21, 22, 23, 25, 26, 28, 29, 37, 39, 40, 42, 43, 44, 46, 47, 49, 50, 51, 53, 54, 56, 57, 58, 60, 61, 63, 64, 65, 66, 67, 68, 69, 72, 74, 75, 77, 78, 79, 81, 82, 84, 85, 93, 94, 95, 97, 98, 100, 101, 102, 103, 104, 105, 106, 109, 111, 112, 114, 115, 116, 118, 119, 121, 122, 123, 125, 126, 128, 129, 130, 132, 133, 135, 136, 137, 139, 140, 142, 143, 144, 147, 148, 149, 151, 152, 154, 155, 156, 158, 159, 161, 162, 163, 165, 166, 168, 169, 170, 172, 173, 175, 176, 177, 180, 181, 182, 184, 185, 187, 188] (by intro P; rfl)
/-- the top comes through, in a world of the one kind and of the other -/
theorem run_f : ∀ (w : World) (os : OsState), (topRun treeTable PySem.Challenge.rw_xm0581_01.row.prog (w.withFollow "special-get-raises" false) 11 (some (.ref 6)) 2442 ⟨boot_heap (w.withFollow "special-get-raises" false).params, #[], boot_drawn, boot_toks, os⟩ (topStub PySem.Challenge.rw_xm0581_01.row.prog)).map (fun s₁ => (staticsOk (importedModules PySem.Challenge.rw_xm0581_01.row.prog.main.body) (boot_heap (w.withFollow "special-get-raises" false).params) s₁.heap && namesBound PySem.Challenge.rw_xm0581_01.row.prog s₁.heap && gensDone s₁ && laidKept (boot_heap (w.withFollow "special-get-raises" false).params) s₁.heap, openSeen hd.view_39 [Str.ofString "RANKS", Str.ofString "Adt"] (importedModules PySem.Challenge.rw_xm0581_01.row.prog.main.body) headX true s₁, headK.obs s₁)) = some (true, openGood hd.view_39 [Str.ofString "RANKS", Str.ofString "Adt"], headK.val (w.withFollow "special-get-raises" false)) := by
  intro w os
  kernel_rfl!
theorem run_t : ∀ (w : World) (os : OsState), (topRun treeTable PySem.Challenge.rw_xm0581_01.row.prog (w.withFollow "special-get-raises" true) 11 (some (.ref 6)) 2442 ⟨boot_heap (w.withFollow "special-get-raises" true).params, #[], boot_drawn, boot_toks, os⟩ (topStub PySem.Challenge.rw_xm0581_01.row.prog)).map (fun s₁ => (staticsOk (importedModules PySem.Challenge.rw_xm0581_01.row.prog.main.body) (boot_heap (w.withFollow "special-get-raises" true).params) s₁.heap && namesBound PySem.Challenge.rw_xm0581_01.row.prog s₁.heap && gensDone s₁ && laidKept (boot_heap (w.withFollow "special-get-raises" true).params) s₁.heap, openSeen hd.view_39 [Str.ofString "RANKS", Str.ofString "Adt"] (importedModules PySem.Challenge.rw_xm0581_01.row.prog.main.body) headX true s₁, headK.obs s₁)) = some (true, openGood hd.view_39 [Str.ofString "RANKS", Str.ofString "Adt"], headK.val (w.withFollow "special-get-raises" true)) := by
  intro w os
  kernel_rfl!
theorem left_real : LeftO PySem.Challenge.rw_xm0581_01.row.prog hd.view_39 [Str.ofString "RANKS", Str.ofString "Adt"] (fun s => xlAt hd.view_39 [] s && recOk PySem.Challenge.rw_xm0581_01.row.records s) headK.obs headK.val 2442 :=
  left_of_row (m₀ := 11) (ann := some (.ref 6)) "special-get-raises" (by kernel_rfl!) (by decide) (by intro s; kernel_rfl!) (by intro w; kernel_rfl!) run_f run_t

noncomputable abbrev Pg := PySem.Challenge.rw_xm0581_01.row.prog
noncomputable abbrev LZ := looseW hd.view_39 [Str.ofString "RANKS", Str.ofString "Adt"]
abbrev Led := List (Addr × Obj)

/-- what a call of the def at f with these values gives: Z holds of the heap ahead, the ledger news stands; all that news does not name is kept -/
def Sp (w : World) (mean : ExcName → Option Value) (mg mb : Str → Option Value) (f : Addr) (d u : Nat) (vs : List Value) (Z : Heap → Prop) (news : Led) (Post : Heap → Led → Value → Prop) : Prop :=
  ∀ (dp un : Nat) (gd : Option (List Code)) (cn : Str) (cs : Scope) (a : Addr) (ccd : Value) (cl : List (Str × Addr)) (outer : List Env) (A₀ : Around) (base h₀ : Heap) (L : Addr) (m : Str → Option Value) (s : Shared) (Q E : Value → Shared → Prop),
    Below A₀ base outer h₀ → Fr h₀ L s.heap m → (hd.heap_39 w.params).In h₀ → News h₀ L s.heap news → Top hd.view_39 LZ mean mg mb h₀ → cs.kind = .function →
    dp + d < recursionLimit → un + u < cLine → Z s.heap →
    (∀ r news' h' tk', Fr h₀ L h' m → News h₀ L h' news' → (∀ b o, s.heap.get? b = some o → (∀ p ∈ news, p.1 ≠ b) → h'.get? b = some o) → Post s.heap news' r → Q r { s with heap := h', toks := tk' }) →
    wpAny (model Pg w) (ktrTop dp un gd cn cs L a ccd cl outer) (call (.ref f) vs) Q E s

/-- what of a ledger is not named by another -/
inductive Rest (as : List Addr) : Led → Led → Prop
  | nil : Rest as [] []
  | keep {p : Addr × Obj} {l r : Led} : (∀ a ∈ as, p.1 ≠ a) → Rest as l r → Rest as (p :: l) (p :: r)
  | drop {p : Addr × Obj} {l r : Led} : Rest as l r → Rest as (p :: l) r
  | all {l : Led} : (∀ p ∈ l, ∀ a ∈ as, p.1 ≠ a) → Rest as l l
  | app {l l2 r2 : Led} : (∀ p ∈ l, ∀ a ∈ as, p.1 ≠ a) → Rest as l2 r2 → Rest as (l ++ l2) (l ++ r2)
theorem Rest.ok {as : List Addr} {l r : Led} (h : Rest as l r) : ∀ p ∈ r, p ∈ l ∧ ∀ a ∈ as, p.1 ≠ a := by
  induction h with
  | nil => exact fun _ h => nomatch h
  | keep hp _ ih =>
    intro q hq
    rcases List.mem_cons.mp hq with rfl | hq
    · exact ⟨.head _, hp⟩
    · exact ⟨.tail _ (ih q hq).1, (ih q hq).2⟩
  | drop _ ih => exact fun q hq => ⟨.tail _ (ih q hq).1, (ih q hq).2⟩
  | all h => exact fun q hq => ⟨hq, h q hq⟩
  | app h _ ih =>
    intro q hq
    rcases List.mem_append.mp hq with hq | hq
    · exact ⟨List.mem_append.mpr (.inl hq), h q hq⟩
    · exact ⟨List.mem_append.mpr (.inr (ih q hq).1), (ih q hq).2⟩

theorem rm0 {dp A R : Nat} (h : dp + A < R) : dp < R := Nat.lt_of_le_of_lt (Nat.le_add_right _ _) h
theorem rm1 {dp A B R : Nat} (h : dp + A < R) (k : Nat.ble B A = true) : dp + B < R := Nat.lt_of_le_of_lt (Nat.add_le_add_left (Nat.le_of_ble_eq_true k) _) h
theorem rm {dp A B R : Nat} (h : dp + A < R) (k : Nat.ble (1 + B) A = true) : dp + 1 + B < R := by rw [Nat.add_assoc]; exact rm1 h k
theorem un3 {un A B R : Nat} (h : un + A < R) (k : Nat.ble (3 + B) A = true) : un + 3 + B < R := by rw [Nat.add_assoc]; exact rm1 h k
theorem rmn {dp n R : Nat} (h : dp + (n + 1 + 7) < R) : dp + 1 + (n + 7) < R := by omega
theorem unn {un n R : Nat} (h : un + 8 * (n + 1 + 7) < R) : un + 3 + 8 * (n + 7) < R := by omega
theorem Sp.use {w : World} {mean : ExcName → Option Value} {mg mb : Str → Option Value} {f : Addr} {d u : Nat} {vs : List Value} {Z : Heap → Prop} {news : Led} {Post : Heap → Led → Value → Prop} (C : Sp w mean mg mb f d u vs Z news Post)
    {dp un : Nat} {gd : Option (List Code)} {cn : Str} {cs : Scope} {a : Addr} {ccd : Value} {cl : List (Str × Addr)} {outer : List Env} {A₀ : Around} {base h₀ : Heap} {L : Addr} {m : Str → Option Value} {s : Shared} {Q E : Value → Shared → Prop} {led rest : Led}
    (B : Below A₀ base outer h₀) (F : Fr h₀ L s.heap m) (X : (hd.heap_39 w.params).In h₀) (N : News h₀ L s.heap led) (T : Top hd.view_39 LZ mean mg mb h₀) (hk : cs.kind = .function)
    (hd : dp + d < recursionLimit) (hu : un + u < cLine) (hs : ∀ p ∈ news, p ∈ led) (hz : Z s.heap) (hr : Rest (news.map (·.1)) led rest)
    (ret : ∀ r news' h' tk', Fr h₀ L h' m → News h₀ L h' (news' ++ rest) → (∀ b o, s.heap.get? b = some o → (∀ p ∈ news, p.1 ≠ b) → h'.get? b = some o) → Post s.heap news' r → Q r { s with heap := h', toks := tk' }) :
    wpAny (model Pg w) (ktrTop dp un gd cn cs L a ccd cl outer) (call (.ref f) vs) Q E s := by
  refine C _ _ _ _ _ _ _ _ _ _ _ _ _ _ _ _ _ B F X (fun p hp => N p (hs p hp)) T hk hd hu hz ?_
  intro r news' h' tk' F' N' K' hP
  refine ret r news' h' tk' F' (fun p hp => ?_) K' hP
  rcases List.mem_append.mp hp with hp | hp
  · exact N' p hp
  · obtain ⟨h1, h2⟩ := hr.ok p hp
    exact ⟨K' _ _ (N p h1).1 fun q hq => (h2 q.1 (List.mem_map_of_mem hq)).symm, (N p h1).2⟩

theorem keep_of {H g h' : Heap} {L' : Addr} {m' : Str → Option Value} {news : Led} (k : GSub H g (news.map (·.1))) (F : Fr g L' h' m') : ∀ b o, H.get? b = some o → (∀ p ∈ news, p.1 ≠ b) → h'.get? b = some o :=
  fun b o e h => F.keep b o (k b o e fun hm => by obtain ⟨p, hp, e'⟩ := List.mem_map.mp hm; exact h p hp e')
/-- what a step in a def's body made is new to the call -/
theorem fresh_of {H g h' : Heap} {L' : Addr} {news led : Led} (k : GSub H g (news.map (·.1))) (N : News g L' h' led) {p : Addr × Obj} (hp : p ∈ led) (hn : ∀ q ∈ news, q.1 ≠ p.1) : H.get? p.1 = none := by
  cases e : H.get? p.1 with
  | none => rfl
  | some o =>
    have := k _ _ e fun hm => by obtain ⟨q, hq, e'⟩ := List.mem_map.mp hm; exact hn q hq e'
    rw [(N p hp).2.2] at this; cases this
theorem base_list {H g : Heap} {l : Addr} {vs : Array Value} {news : Led} (hl : H.IsList l vs) (k : GSub H g (news.map (·.1))) (hn : ∀ p ∈ news, p.1 ≠ l) : g.IsList l vs :=
  let ⟨o, ho, r⟩ := hl
  ⟨o, k _ _ ho fun hm => by obtain ⟨q, hq, e'⟩ := List.mem_map.mp hm; exact hn q hq e', r⟩

theorem base_list0 {H g : Heap} {l : Addr} {vs : Array Value} (hl : H.IsList l vs) (k : GSub H g []) : g.IsList l vs :=
  let ⟨o, ho, r⟩ := hl
  ⟨o, k _ _ ho List.not_mem_nil, r⟩

inductive Way | bi | co | inn
  deriving DecidableEq
def Way.s : Way → Str
  | .bi => Str.ofString "bi"
  | .co => Str.ofString "co"
  | .inn => Str.ofString "in"
def Way.n : Way → Nat
  | .bi => 0
  | .co => 1
  | .inn => 2
/-- the stricter one -/
def Way.max (a b : Way) : Way := if a.n ≥ b.n then a else b
/-- one within the other -/
def Way.mul : Way → Way → Way
  | .bi, _ => .bi
  | _, .bi => .bi
  | .inn, _ => .inn
  | _, .inn => .inn
  | .co, .co => .co

def jarO (a b : Int) (ta tb : Tok) : Obj := { cls := .type "list", data := .seq #[.int a ta, .int b tb] }

theorem fits_one {a x z : Int} : IntMulOk a ([x, Int.fmod z 2147483647].getD (Int.toNat 1) 0) := by
  refine IntMulOk.of_right (intBits_le_64 ?_ ?_)
  · show -(2 ^ 64) < Int.fmod z 2147483647
    have := Int.fmod_nonneg_of_pos z (b := 2147483647) (by decide)
    omega
  · show Int.fmod z 2147483647 < 2 ^ 64
    have := Int.fmod_lt_of_pos z (b := 2147483647) (by decide)
    omega

/-- what a call that draws from the jar and lays nothing of its own gives -/
def JarP0 (jar : Addr) (P : Value → Prop) (_ : Heap) (n' : Led) (r : Value) : Prop :=
  ∃ x' y' tx' ty', n' = [(jar, jarO x' y' tx' ty')] ∧ 0 ≤ x' ∧ 0 ≤ y' ∧ y' < 2147483647 ∧ P r

/-- the names of a type: regions, no region, an odd one; types -/
inductive Nm | ra | rb | rst | rnone | rsev | pT | pU | pV
  deriving DecidableEq
def NmV : Nm → Value → Prop
  | .ra, v => ∃ t, v = .str (Str.ofString "'a") t
  | .rb, v => ∃ t, v = .str (Str.ofString "'b") t
  | .rst, v => ∃ t, v = .str (Str.ofString "'static") t
  | .rnone, v => v = .none
  | .rsev, v => ∃ t, v = .int 7 t
  | .pT, v => ∃ t, v = .str (Str.ofString "T") t
  | .pU, v => ∃ t, v = .str (Str.ofString "U") t
  | .pV, v => ∃ t, v = .str (Str.ofString "V") t

theorem mem_ways3 {v : Value} {t1 t2 t3 : Tok} (h : v ∈ [Value.str (Str.ofString "bi") t1, .str (Str.ofString "co") t2, .str (Str.ofString "in") t3]) : ∃ (a : Way) (t : Tok), v = .str a.s t := by
  simp only [List.mem_cons, List.not_mem_nil, or_false] at h
  rcases h with rfl | rfl | rfl
  · exact ⟨.bi, t1, rfl⟩
  · exact ⟨.co, t2, rfl⟩
  · exact ⟨.inn, t3, rfl⟩
theorem mem_ways4 {v : Value} {t1 t2 t3 t4 : Tok} (h : v ∈ [Value.str (Str.ofString "co") t1, .str (Str.ofString "co") t2, .str (Str.ofString "in") t3, .str (Str.ofString "bi") t4]) : ∃ (a : Way) (t : Tok), v = .str a.s t := by
  simp only [List.mem_cons, List.not_mem_nil, or_false] at h
  rcases h with rfl | rfl | rfl | rfl
  · exact ⟨.co, t1, rfl⟩
  · exact ⟨.co, t2, rfl⟩
  · exact ⟨.inn, t3, rfl⟩
  · exact ⟨.bi, t4, rfl⟩
def Nm.isP : Nm → Bool
  | .pT | .pU | .pV => true
  | _ => false
theorem mem_names3 {v : Value} {t1 t2 t3 : Tok} (h : v ∈ [Value.str (Str.ofString "T") t1, .str (Str.ofString "U") t2, .str (Str.ofString "V") t3]) : ∃ x : Nm, x.isP = true ∧ NmV x v := by
  simp only [List.mem_cons, List.not_mem_nil, or_false] at h
  rcases h with rfl | rfl | rfl
  · exact ⟨.pT, rfl, t1, rfl⟩
  · exact ⟨.pU, rfl, t2, rfl⟩
  · exact ⟨.pV, rfl, t3, rfl⟩
theorem mem_regions {v : Value} {t1 t2 t3 t4 t5 : Tok} (h : v ∈ [Value.str (Str.ofString "'a") t1, .str (Str.ofString "'b") t2, .str (Str.ofString "'a") t3, .none, .str (Str.ofString "'static") t4, .int 7 t5]) : ∃ x : Nm, x.isP = false ∧ NmV x v := by
  simp only [List.mem_cons, List.not_mem_nil, or_false] at h
  rcases h with rfl | rfl | rfl | rfl | rfl | rfl
  · exact ⟨.ra, rfl, t1, rfl⟩
  · exact ⟨.rb, rfl, t2, rfl⟩
  · exact ⟨.ra, rfl, t3, rfl⟩
  · exact ⟨.rnone, rfl, rfl⟩
  · exact ⟨.rst, rfl, t4, rfl⟩
  · exact ⟨.rsev, rfl, t5, rfl⟩

theorem news_sub {h₀ h : Heap} {L : Addr} {news led : Led} (N : News h₀ L h led) (hs : ∀ p ∈ news, p ∈ led) : News h₀ L h news := fun p hp => N p (hs p hp)
/-- what a call that changes nothing gives -/
def PureP (P : Value → Prop) (_ : Heap) (_ : Led) (r : Value) : Prop := P r

section
variable {w : World} {mean : ExcName → Option Value} {mg mb : Str → Option Value} {f : Addr} {d u : Nat} {vs : List Value} {Z : Heap → Prop} {P : Value → Prop}
    {dp un : Nat} {gd : Option (List Code)} {cn : Str} {cs : Scope} {a : Addr} {ccd : Value} {cl : List (Str × Addr)} {outer : List Env} {A₀ : Around} {base h₀ : Heap} {L : Addr} {m : Str → Option Value} {s : Shared} {Q E : Value → Shared → Prop} {led rest : Led}
theorem pure_use (C : Sp w mean mg mb f d u vs Z [] (PureP P))
    (B : Below A₀ base outer h₀) (F : Fr h₀ L s.heap m) (X : (hd.heap_39 w.params).In h₀) (N : News h₀ L s.heap led) (T : Top hd.view_39 LZ mean mg mb h₀) (hk : cs.kind = .function)
    (hd : dp + d < recursionLimit) (hu : un + u < cLine) (hz : Z s.heap)
    (ret : ∀ r h' tk', Fr h₀ L h' m → News h₀ L h' led → (∀ b o, s.heap.get? b = some o → h'.get? b = some o) → P r → Q r { s with heap := h', toks := tk' }) :
    wpAny (model Pg w) (ktrTop dp un gd cn cs L a ccd cl outer) (call (.ref f) vs) Q E s := by
  refine C.use (rest := led) B F X N T hk hd hu (fun p hp => nomatch hp) hz (.all fun p _ a ha => nomatch ha) ?_
  intro r news' h' tk' F' N' K' hP
  exact ret r h' tk' F' (news_sub N' fun p hp => List.mem_append.mpr (.inr hp)) (fun b o e => K' b o e fun p hp => nomatch hp) hP
theorem jar_use {jar : Addr} {x y : Int} {tx ty : Tok} (C : Sp w mean mg mb f d u vs Z [(jar, jarO x y tx ty)] (JarP0 jar P))
    (B : Below A₀ base outer h₀) (F : Fr h₀ L s.heap m) (X : (hd.heap_39 w.params).In h₀) (N : News h₀ L s.heap led) (T : Top hd.view_39 LZ mean mg mb h₀) (hk : cs.kind = .function)
    (hd : dp + d < recursionLimit) (hu : un + u < cLine) (hm : (jar, jarO x y tx ty) ∈ led) (hz : Z s.heap) (hr : Rest [jar] led rest)
    (ret : ∀ x' y' tx' ty' r h' tk', Fr h₀ L h' m → News h₀ L h' ((jar, jarO x' y' tx' ty') :: rest) → (∀ b o, s.heap.get? b = some o → b ≠ jar → h'.get? b = some o) → 0 ≤ x' → 0 ≤ y' → y' < 2147483647 → P r → Q r { s with heap := h', toks := tk' }) :
    wpAny (model Pg w) (ktrTop dp un gd cn cs L a ccd cl outer) (call (.ref f) vs) Q E s := by
  refine C.use (rest := rest) B F X N T hk hd hu (fun p hp => by rw [List.mem_singleton.mp hp]; exact hm) hz hr ?_
  rintro r news' h' tk' F' N' K' ⟨x', y', tx', ty', rfl, hx, hy, hy2, hP⟩
  exact ret x' y' tx' ty' r h' tk' F' N' (fun b o e hb => K' b o e fun p hp => by rw [List.mem_singleton.mp hp]; exact fun e => hb e.symm) hx hy hy2 hP
end
theorem way_eq (a b : Way) : (a.s == b.s) = (a == b) := by cases a <;> cases b <;> decide +kernel
theorem way_any (a : Way) : ∀ ws : List Way, (ws.map Way.s).any (· == a.s) = ws.any (· == a)
  | [] => rfl
  | b :: r => by rw [List.map_cons, List.any_cons, List.any_cons, way_any a r, way_eq]
/-- the road of ways -/
def road (ws : List Way) : Way := if ws.any (· == .bi) then .bi else if ws.any (· == .inn) then .inn else .co
/-- the strictest of ways -/
def strictest (ws : List Way) : Way := if ws.any (· == .inn) then .inn else if ws.any (· == .co) then .co else .bi
theorem road_bi {ws : List Way} (h : ws.any (· == .bi) = true) {t : Tok} : ∃ t', Value.str (Str.ofString "bi") t = .str (road ws).s t' := ⟨t, by rw [road, if_pos h]; rfl⟩
theorem road_in {ws : List Way} (h : ws.any (· == .bi) = false) (h2 : ws.any (· == .inn) = true) {t : Tok} : ∃ t', Value.str (Str.ofString "in") t = .str (road ws).s t' := ⟨t, by rw [road, h, h2]; rfl⟩
theorem road_co {ws : List Way} (h : ws.any (· == .bi) = false) (h2 : ws.any (· == .inn) = false) {t : Tok} : ∃ t', Value.str (Str.ofString "co") t = .str (road ws).s t' := ⟨t, by rw [road, h, h2]; rfl⟩
theorem strictest_in {ws : List Way} (h : ws.any (· == .inn) = true) {t : Tok} : ∃ t', Value.str (Str.ofString "in") t = .str (strictest ws).s t' := ⟨t, by rw [strictest, if_pos h]; rfl⟩
theorem strictest_co {ws : List Way} (h : ws.any (· == .inn) = false) (h2 : ws.any (· == .co) = true) {t : Tok} : ∃ t', Value.str (Str.ofString "co") t = .str (strictest ws).s t' := ⟨t, by rw [strictest, h, h2]; rfl⟩
theorem strictest_bi {ws : List Way} (h : ws.any (· == .inn) = false) (h2 : ws.any (· == .co) = false) {t : Tok} : ∃ t', Value.str (Str.ofString "bi") t = .str (strictest ws).s t' := ⟨t, by rw [strictest, h, h2]; rfl⟩

section
variable {prog : Program} {w : World} {A : Around} {E : Value → Shared → Prop} {s : Shared} {h₀ : Heap} {L l : Addr} {led : Led} {vs : List Value} {n : Nat}
theorem inWaysB {k : Str} {t : Tok} {ws : List Way} {m : Str → Option Value} (a : Way) {Q : Value → Shared → Prop} (hk : k = a.s) (F : Fr h₀ L s.heap m) (hl : h₀.IsList l vs.toArray) (hi : StrsAre vs (ws.map Way.s))
    (h : Q (.bool (ws.any (· == a))) s) : wpAny (model prog w) A (compareOp .In (.str k t) (.ref l)) Q E s := by
  subst hk
  refine in_list_strs (hl.at fun o e => F.keep l o e) hi ?_
  rw [way_any]
  exact h
theorem inWays {k : Str} {t : Tok} {ws : List Way} (a : Way) {Q : Value → Shared → Prop} (hk : k = a.s) (N : News h₀ L s.heap led) (hm : (l, listOf vs.toArray n) ∈ led) (hi : StrsAre vs (ws.map Way.s))
    (h : Q (.bool (ws.any (· == a))) s) : wpAny (model prog w) A (compareOp .In (.str k t) (.ref l)) Q E s := by
  subst hk
  refine in_list_strs (N.isList hm) hi ?_
  rw [way_any]
  exact h
end

section
variable {prog : Program} {w : World} {A : Around} {E : Value → Shared → Prop} {s : Shared} {h₀ : Heap} {L l : Addr} {led : Led} {vs : List Value} {n : Nat}
theorem lenB {m : Str → Option Value} {Q : Value → Shared → Prop} (F : Fr h₀ L s.heap m) (hl : h₀.IsList l vs.toArray) (hz : vs.length < 1000)
    (h : Q (.int vs.length (s.toks + 1)) { s with toks := s.toks + 1 + 1 }) : wpAny (model prog w) A (call (.builtin "len") [.ref l]) Q E s :=
  len_list (hl.at fun o e => F.keep l o e) (by rw [List.size_toArray]; omega) (by rw [List.size_toArray]; exact h)
theorem itemB {m : Str → Option Value} {value slice : PySem.Expr} {k : Int} {u : Tok} {Q : Value → Shared → Prop} (F : Fr h₀ L s.heap m) (hl : h₀.IsList l vs.toArray) (h0 : 0 ≤ k) (h1 : k < vs.length) (hz : vs.length < 1000)
    (h : ∀ v, vs[k.toNat]? = some v → Q v s) (hs : subscripted slice false (.ref l) (.int k u) = operate [.ref l, .int k u] (getItem (.ref l) (.int k u)) := by with_unfolding_all rfl) :
    wpAny (model prog w) A (subscriptTail value slice (.ref l) (.int k u)) Q E s := by
  have hk : k.toNat < vs.length := by omega
  have e : vs[k.toNat]? = some vs[k.toNat] := List.getElem?_eq_getElem hk
  exact item_litK (hl.at fun o e => F.keep l o e) h0 (by omega) e (h _ e) hs
end
section
variable {prog : Program} {w : World} {A : Around} {E : Value → Shared → Prop} {s : Shared} {h₀ : Heap} {L : Addr} {m : Str → Option Value} {led : Led}
theorem newTupleM {vs : List Value} {Q : Value → Shared → Prop} (F : Fr h₀ L s.heap m) (N : News h₀ L s.heap led) (hsz : vs.length ≤ 100)
    (h : ∀ D h', Fr h₀ L h' m → News h₀ L h' ((D, { cls := .type "tuple", data := .seq vs.toArray }) :: led) → (∀ p ∈ led, p.1 < D) → Q (.ref D) { s with heap := h' }) : wpAny (model prog w) A (newTuple vs) Q E s :=
  newTuple_N F N (fun h' F' N' => h _ h' F' N' fun p hp => Heap.lt_size (N p hp).1) (by rw [sizeLine_eq]; omega)
theorem appendM {D : Addr} {its : Array Value} {n : Nat} {v : Value} {led' : Led} {Q : Value → Shared → Prop} (F : Fr h₀ L s.heap m) (N : News h₀ L s.heap led) (U : Upd D (listOf its n) (listOf (its.push v) (n + 1)) led led') (hz : its.size ≤ 16384)
    (h : ∀ h', Fr h₀ L h' m → News h₀ L h' led' → Q .none { s with heap := h' }) : wpAny (model prog w) A (call (.builtin "list.append") [.ref D, v]) Q E s :=
  append_K F N U h (by rw [sizeLine_eq]; omega)
theorem newListM {vs : List Value} {Q : Value → Shared → Prop} (F : Fr h₀ L s.heap m) (N : News h₀ L s.heap led) (hsz : vs.length ≤ 100)
    (h : ∀ D h', Fr h₀ L h' m → News h₀ L h' ((D, listOf vs.toArray 0) :: led) → (∀ p ∈ led, p.1 < D) → Q (.ref D) { s with heap := h' }) : wpAny (model prog w) A (newList vs) Q E s :=
  newList_N F N (fun h' F' N' => h _ h' F' N' fun p hp => Heap.lt_size (N p hp).1) (by rw [sizeLine_eq]; omega)
end

/-- two addresses differ -/
def Df (a b : Nat) : Prop := a ≠ b
theorem Df.ne {a b : Nat} (h : Df a b) : @Ne Nat a b := h
theorem df_all {p : Nat} {l : List Nat} (h : ∀ q ∈ l, Df p q) : ∀ a ∈ l, @Ne Nat p a := h
theorem Rest.dropIn {as : List Addr} {p : Addr × Obj} {l r : Led} (_ : p.1 ∈ as) (h : Rest as l r) : Rest as (p :: l) r := .drop h
theorem ne_lt {l : Led} {a b : Addr} {o : Obj} (h : ∀ p ∈ l, p.1 < b) (m : (a, o) ∈ l) : @Ne Nat a b := Nat.ne_of_lt (h _ m)
theorem ne_gt {l : Led} {a b : Addr} {o : Obj} (h : ∀ p ∈ l, p.1 < b) (m : (a, o) ∈ l) : @Ne Nat b a := Nat.ne_of_gt (h _ m)
theorem sub_nil {l : Led} : ∀ p ∈ ([] : Led), p ∈ l := fun _ h => nomatch h
theorem sub_self {l : Led} : ∀ p ∈ l, p ∈ l := fun _ h => h
theorem sub_cons {x : Addr × Obj} {l l2 : Led} (h : x ∈ l2) (h2 : ∀ p ∈ l, p ∈ l2) : ∀ p ∈ x :: l, p ∈ l2 := List.forall_mem_cons.mpr ⟨h, h2⟩
theorem sub_tl {x : Addr × Obj} {l l2 : Led} (h : ∀ p ∈ l, p ∈ l2) : ∀ p ∈ l, p ∈ x :: l2 := fun p hp => List.Mem.tail _ (h p hp)
theorem sub_l {l l1 l2 : Led} (h : ∀ p ∈ l, p ∈ l1) : ∀ p ∈ l, p ∈ l1 ++ l2 := fun p hp => List.mem_append_left _ (h p hp)
theorem sub_r {l l1 l2 : Led} (h : ∀ p ∈ l, p ∈ l2) : ∀ p ∈ l, p ∈ l1 ++ l2 := fun p hp => List.mem_append_right _ (h p hp)
theorem sub_app {l l' l2 : Led} (h : ∀ p ∈ l, p ∈ l2) (h2 : ∀ p ∈ l', p ∈ l2) : ∀ p ∈ l ++ l', p ∈ l2 := List.forall_mem_append.mpr ⟨h, h2⟩
theorem nea_nil {a : Addr} : ∀ b ∈ ([] : List Addr), @Ne Nat a b := fun _ h => nomatch h
theorem nea_cons {a b : Addr} {l : List Addr} (h : @Ne Nat a b) (h2 : ∀ c ∈ l, @Ne Nat a c) : ∀ c ∈ b :: l, @Ne Nat a c := List.forall_mem_cons.mpr ⟨h, h2⟩
theorem nea_app {l l' : Led} {d : Addr} (h : ∀ p ∈ l, p.1 ≠ d) (h2 : ∀ p ∈ l', p.1 ≠ d) : ∀ p ∈ l ++ l', p.1 ≠ d := List.forall_mem_append.mpr ⟨h, h2⟩
theorem neall_nil {d : Addr} : ∀ p ∈ ([] : Led), p.1 ≠ d := fun _ h => nomatch h
theorem neall_cons {x : Addr × Obj} {l : Led} {d : Addr} (h : @Ne Nat x.1 d) (h2 : ∀ p ∈ l, p.1 ≠ d) : ∀ p ∈ x :: l, p.1 ≠ d := List.forall_mem_cons.mpr ⟨h, h2⟩
theorem Rest.d1 {a : Addr} {as : List Addr} {o : Obj} {l r : Led} (h : Rest (a :: as) l r) : Rest (a :: as) ((a, o) :: l) r := .drop h
theorem Rest.d2 {b1 a : Addr} {as : List Addr} {o : Obj} {l r : Led} (h : Rest (b1 :: a :: as) l r) : Rest (b1 :: a :: as) ((a, o) :: l) r := .drop h
theorem Rest.d3 {b1 b2 a : Addr} {as : List Addr} {o : Obj} {l r : Led} (h : Rest (b1 :: b2 :: a :: as) l r) : Rest (b1 :: b2 :: a :: as) ((a, o) :: l) r := .drop h
theorem Rest.d4 {b1 b2 b3 a : Addr} {as : List Addr} {o : Obj} {l r : Led} (h : Rest (b1 :: b2 :: b3 :: a :: as) l r) : Rest (b1 :: b2 :: b3 :: a :: as) ((a, o) :: l) r := .drop h
theorem Rest.d5 {b1 b2 b3 b4 a : Addr} {as : List Addr} {o : Obj} {l r : Led} (h : Rest (b1 :: b2 :: b3 :: b4 :: a :: as) l r) : Rest (b1 :: b2 :: b3 :: b4 :: a :: as) ((a, o) :: l) r := .drop h
theorem Rest.d6 {b1 b2 b3 b4 b5 a : Addr} {as : List Addr} {o : Obj} {l r : Led} (h : Rest (b1 :: b2 :: b3 :: b4 :: b5 :: a :: as) l r) : Rest (b1 :: b2 :: b3 :: b4 :: b5 :: a :: as) ((a, o) :: l) r := .drop h
theorem Rest.d7 {b1 b2 b3 b4 b5 b6 a : Addr} {as : List Addr} {o : Obj} {l r : Led} (h : Rest (b1 :: b2 :: b3 :: b4 :: b5 :: b6 :: a :: as) l r) : Rest (b1 :: b2 :: b3 :: b4 :: b5 :: b6 :: a :: as) ((a, o) :: l) r := .drop h
theorem Rest.d8 {b1 b2 b3 b4 b5 b6 b7 a : Addr} {as : List Addr} {o : Obj} {l r : Led} (h : Rest (b1 :: b2 :: b3 :: b4 :: b5 :: b6 :: b7 :: a :: as) l r) : Rest (b1 :: b2 :: b3 :: b4 :: b5 :: b6 :: b7 :: a :: as) ((a, o) :: l) r := .drop h
theorem Rest.d9 {b1 b2 b3 b4 b5 b6 b7 b8 a : Addr} {as : List Addr} {o : Obj} {l r : Led} (h : Rest (b1 :: b2 :: b3 :: b4 :: b5 :: b6 :: b7 :: b8 :: a :: as) l r) : Rest (b1 :: b2 :: b3 :: b4 :: b5 :: b6 :: b7 :: b8 :: a :: as) ((a, o) :: l) r := .drop h
theorem Rest.d10 {b1 b2 b3 b4 b5 b6 b7 b8 b9 a : Addr} {as : List Addr} {o : Obj} {l r : Led} (h : Rest (b1 :: b2 :: b3 :: b4 :: b5 :: b6 :: b7 :: b8 :: b9 :: a :: as) l r) : Rest (b1 :: b2 :: b3 :: b4 :: b5 :: b6 :: b7 :: b8 :: b9 :: a :: as) ((a, o) :: l) r := .drop h
theorem Rest.d11 {b1 b2 b3 b4 b5 b6 b7 b8 b9 b10 a : Addr} {as : List Addr} {o : Obj} {l r : Led} (h : Rest (b1 :: b2 :: b3 :: b4 :: b5 :: b6 :: b7 :: b8 :: b9 :: b10 :: a :: as) l r) : Rest (b1 :: b2 :: b3 :: b4 :: b5 :: b6 :: b7 :: b8 :: b9 :: b10 :: a :: as) ((a, o) :: l) r := .drop h
theorem mem_inl2 {x : Addr × Obj} {l1 l2 : Led} (h : x ∈ l1) : List.Mem x (l1 ++ l2) := List.mem_append.mpr (.inl h)
theorem mem_inr2 {x : Addr × Obj} {l1 l2 : Led} (h : x ∈ l2) : List.Mem x (l1 ++ l2) := List.mem_append.mpr (.inr h)
theorem far1 {a L : Nat} (h : a < L) : @Ne Nat (L + 1) a := by omega
theorem far2 {a L : Nat} (h : a < L) : @Ne Nat (L + 1 + 1) a := by omega
theorem far3 {a L : Nat} (h : a < L) : @Ne Nat (L + 1 + 1 + 1) a := by omega
theorem far4 {a L : Nat} (h : a < L) : @Ne Nat (L + 1 + 1 + 1 + 1) a := by omega
theorem ne_mem {l : Led} {a b : Addr} {o : Obj} (h : ∀ p ∈ l, @Ne Nat p.1 b) (m : (a, o) ∈ l) : @Ne Nat a b := h _ m
theorem ne_mem' {l : Led} {a b : Addr} {o : Obj} (h : ∀ p ∈ l, @Ne Nat p.1 b) (m : (a, o) ∈ l) : @Ne Nat b a := (h _ m).symm
theorem df_mem {l : List Nat} {a b : Nat} (h : ∀ p ∈ l, Df p b) (m : a ∈ l) : @Ne Nat a b := h _ m
theorem df_mem2 {l l2 : List Nat} {a b : Nat} (h : ∀ p ∈ l, ∀ q ∈ l2, Df p q) (m : a ∈ l) (m2 : b ∈ l2) : @Ne Nat a b := h _ m _ m2
theorem df_allm {l l2 : List Nat} {p : Nat} (h : ∀ p ∈ l2, ∀ q ∈ l, Df p q) (m : p ∈ l2) : ∀ a ∈ l, @Ne Nat p a := h _ m
theorem inall_nil {l : Led} : ∀ a ∈ ([] : List Addr), ∃ o, (a, o) ∈ l := fun _ h => nomatch h
theorem inall_cons {l : Led} {a : Addr} {o : Obj} {as : List Addr} (h : (a, o) ∈ l) (h2 : ∀ a ∈ as, ∃ o, (a, o) ∈ l) : ∀ b ∈ a :: as, ∃ o, (b, o) ∈ l := List.forall_mem_cons.mpr ⟨⟨o, h⟩, h2⟩
theorem off1_all {a : Addr} : ∀ {l : Led}, LCg.Off1 a l → ∀ p ∈ l, @Ne Nat p.1 a
  | [], _ => fun _ h => nomatch h
  | _ :: _, h => List.forall_mem_cons.mpr ⟨h.1, off1_all h.2⟩
theorem ne_up {a b : Nat} (h : a ≠ b) : a + 1 ≠ b + 1 := fun e => h (Nat.succ.inj e)
theorem ne_u1 (L : Nat) : L + 1 ≠ L := Nat.ne_of_gt (Nat.lt_succ_self _)
theorem ne_u2 (L : Nat) : L + 1 + 1 ≠ L := Nat.ne_of_gt (Nat.lt_succ_of_lt (Nat.lt_succ_self _))
theorem ne_u3 (L : Nat) : L + 1 + 1 + 1 ≠ L := Nat.ne_of_gt (Nat.lt_succ_of_lt (Nat.lt_succ_of_lt (Nat.lt_succ_self _)))
theorem ne_u4 (L : Nat) : L + 1 + 1 + 1 + 1 ≠ L := Nat.ne_of_gt (Nat.lt_succ_of_lt (Nat.lt_succ_of_lt (Nat.lt_succ_of_lt (Nat.lt_succ_self _))))
theorem five_df {dx row rl pl tl : Nat} (h1 : dx < row) (h2 : row < rl) (h3 : rl < pl) (h4 : pl < tl) : (∀ p ∈ [dx], Df p row) ∧ (∀ p ∈ [dx, row], Df p rl) ∧ (∀ p ∈ [dx, row, rl], Df p pl) ∧ ∀ p ∈ [dx, row, rl, pl], Df p tl := by
  have a2 := Nat.lt_trans h1 h2
  have a3 := Nat.lt_trans a2 h3
  have b3 := Nat.lt_trans h2 h3
  have a4 := Nat.lt_trans a3 h4
  have b4 := Nat.lt_trans b3 h4
  have c4 := Nat.lt_trans h3 h4
  simp only [List.forall_mem_cons, List.not_mem_nil, false_implies, implies_true, and_true]
  exact ⟨Nat.ne_of_lt h1, ⟨Nat.ne_of_lt a2, Nat.ne_of_lt h2⟩, ⟨Nat.ne_of_lt a3, Nat.ne_of_lt b3, Nat.ne_of_lt h3⟩, Nat.ne_of_lt a4, Nat.ne_of_lt b4, Nat.ne_of_lt c4, Nat.ne_of_lt h4⟩

section
variable {prog : Program} {w : World} {A₀ A : Around} {s : Shared} {base h₀ : Heap} {outer : List Env} {L : Addr} {m mg mb : Str → Option Value} {env : Env} {news : List (Addr × Obj)} {K : Frag} {p : Program} {loose : List Str} {mean : ExcName → Option Value}
/-- a def with captured names is entered; what the ground loses is the ledger alone -/
theorem code_defCG {R : Result → Shared → Prop} {name qual : Str} {params : Arguments} {body : List Stmt} {scope : Scope} {dV kV doc pm cdv ct oc : Value} {an od : Option Addr} {osl : Array (Option Value)} {f : Addr} {args : Args} {binds : List (Str × Value)}
    (B : Below A₀ base outer h₀) (F : Fr h₀ L s.heap m) (X₀ : K.In h₀) (N : News h₀ L s.heap news) (T : Top p loose mean mg mb h₀) (hA : A.frames = some (env :: outer)) (hf : env.frame = some L) (hke : env.scope.kind = .function)
    (ho : K.lookup f = some ⟨oc, od, .func (fnOf name qual params body scope dV kV doc pm an cdv ct), osl⟩) (hcd : codeIn K cdv qual = true) (hroom : A.depth < recursionLimit)
    (hbind : BindsTo s (fnOf name qual params body scope dV kV doc pm an cdv ct) args binds) (hkind : (binds.all fun y => scope.names.lookup y.1 == some .local || scope.names.lookup y.1 == some .cell) = true)
    (hnd : ((cellsFrom 0 scope.names []).map (·.1)).Nodup)
    (h : ∀ g L' h₁ tk cells, Fr h₀ L g m → Fr g L' h₁ (bindL (envOfC qual scope L' f cdv).kindOf binds fun _ => none) → News g L' h₁ (cells ++ news) →
      CellsAre (bindC (envOfC qual scope L' f cdv).kindOf binds fun _ => none) (cellsFrom (L' + 1) scope.names []) cells → Below A base (env :: outer) g → K.In g → Top p loose mean mg mb g → GSub s.heap g (news.map (·.1)) → (∀ p ∈ news, p.1 < L') →
      wpAny (model prog w) (A.deeper (envOfC qual scope L' f cdv)) (execs body (envOfC qual scope L' f cdv))
        (fun fl s' => LeaveK h₀ L m g R (match fl with | .ret v => v | _ => .none) s')
        (fun e s' => wpAny (model prog w) (A.deeper (envOfC qual scope L' f cdv)) (leaving (envOfC qual scope L' f cdv) e) (fun _ s'' => R (.error e) s'') (fun e' s'' => R (.error e') s'') s')
        { s with heap := h₁, toks := tk })
    (hco : scope.isCoroutine = false) (hgen : scope.isGenerator = false) (hk : scope.kind = .function) : codeAny (model prog w) A (.call (.ref f) args) R s := by
  obtain ⟨FG, BG, st, lv⟩ := groundX (R := R) B F N hA hf hke
  have hcode := codeRec_of (X₀.keeps F.keep) hcd
  have hobj := (X₀.keeps F.keep) _ _ ho
  refine codeAny_call_function hroom hobj rfl hco hgen rfl hcode (hbind _ _ _ _ ?_)
  refine wpAny_newFunctionEnv_cells hk (kindsX hkind _) fun env' he s' x => ?_
  subst he
  refine ⟨(T.nolimit.keeps F.keep).keeps x.toInCall.keep, codeAny_func ?_⟩
  obtain ⟨h₁, tk, rfl, _⟩ := x.done
  have old := x.toInCall.keep
  obtain ⟨cells, NC, Y⟩ := Cl.news (h₀ := s.heap) (Nat.le_refl _) fun n c hm => ⟨x.cell n c (lookup_of_mem_nodup (cellsFrom_names scope.names 0 (s.heap.objs.size + 1) [] [] rfl ▸ hnd) hm), x.above n c hm⟩
  have here : Fr (hideAll s.heap (news.map (·.1))) s.heap.objs.size h₁ (bindL (envOfC qual scope s.heap.objs.size f cdv).kindOf binds fun _ => none) :=
    ⟨x.toInCall.ns, fun b o e => old b o (of_hideAll _ e), Nat.le_of_eq (hideAll_size _ _)⟩
  have led : News (hideAll s.heap (news.map (·.1))) s.heap.objs.size h₁ (cells ++ news) := by
    intro q hq
    rcases List.mem_append.mp hq with hq | hq
    · obtain ⟨c1, c2, c3⟩ := NC q hq
      refine ⟨c1, c2, ?_⟩
      cases e : (hideAll s.heap (news.map (·.1))).get? q.1 with
      | none => rfl
      | some o => rw [of_hideAll _ e] at c3; cases c3
    · exact ⟨old _ _ (N q hq).1, Nat.ne_of_lt (Heap.lt_size (N q hq).1), hideAll_none _ (List.mem_map_of_mem hq)⟩
  exact wpAny_mono (h _ s.heap.objs.size h₁ tk cells FG here led Y BG (X₀.keeps st) (T.keeps st) (fun b o e n => hideAll_get _ e n) fun q hq => Heap.lt_size (N q hq).1) (fun fl s' hl => lv _ _ hl) fun _ _ y => y
end

section
open Sem (wp)
/-- enumerate over a tuple -/
theorem enum_new_tuple (l : Addr) (items : Array Value) (n : Nat) (dct : Option Addr) (sl : Array (Option Value)) :
    Meets (Builtin.«enumerate.__new__» ⟨[.type "enumerate", .ref l], []⟩) (fun _ R s => s.heap.get? l = some { cls := .type "tuple", dict := dct, data := .seq items n, slots := sl } ∧
      R (.ok (.ret (.ref (s.heap.push { cls := .type "tuple_iterator", data := .fields #[.ref l, .int 0 0] }).objs.size)))
        { s with heap := (s.heap.push { cls := .type "tuple_iterator", data := .fields #[.ref l, .int 0 0] }).push { cls := .type "enumerate", data := .fields #[.none, .bool false, .ref s.heap.objs.size, rawInt 0, .none, .none] } }) :=
  .of_wp fun prog w A R s h => by
    obtain ⟨hp, g, d, tk, os⟩ := s
    obtain ⟨hl, h⟩ := h
    have hsub := sub_enumerate
    have hT : IsTup (Shared.heap ⟨hp, g, d, tk, os⟩) l items := ⟨_, hl, rfl, n, rfl⟩
    wp_walk using AutoSeq1.wpAny_loadPart' hl
    refine wpAny_stack_any fun st => wpAny_pure ?_
    split
    · rename_i c _ _ _ _ _
      cases (c == Value.type "enumerate")
      · wp_walk using AutoSeq1.wpAny_loadPart' hl, iter_tuple hT
        exact ⟨_, rfl, h⟩
      · wp_walk using AutoSeq1.wpAny_loadPart' hl, iter_tuple hT
        exact ⟨_, rfl, h⟩
    · wp_walk using AutoSeq1.wpAny_loadPart' hl, iter_tuple hT
      exact ⟨_, rfl, h⟩
section
variable {prog : Program} {w : World} {A : Around} {E : Value → Shared → Prop} {s : Shared}
theorem enumT_call {l : Addr} {items : Array Value} {Q : Value → Shared → Prop} (hT : IsTup s.heap l items)
    (h : ∀ h', IsEnum h' (s.heap.objs.size + 1) s.heap.objs.size 0 .none → IsTupIter h' s.heap.objs.size l 0 → (∀ b o, s.heap.get? b = some o → h'.get? b = some o) → Q (.ref (s.heap.objs.size + 1)) { s with heap := h' }) :
    wpAny (model prog w) A (call (.type "enumerate") [.ref l]) Q E s := by
  obtain ⟨⟨c, dct, dt, sl⟩, hl, hc, n, hd⟩ := hT
  replace hc : c = .type "tuple" := hc
  replace hd : dt = .seq items n := hd
  subst hc hd
  refine callType_new F.called_enumerate (by decide) (F.typeCall_enumerate_1 _) (F.newCall_enumerate_1 _) (fun obj => F.args_object_init_2 obj _) F.entry_enumerate_new (enum_new_tuple l items n dct sl) ⟨hl, ?_⟩
  generalize hi : s.heap.push { cls := .type "tuple_iterator", data := .fields #[.ref l, .int 0 0] } = h₁
  have hz : h₁.objs.size = s.heap.objs.size + 1 := by rw [← hi, Heap.size_push]
  have he := Heap.get?_push_size h₁ (o := { cls := .type "enumerate", data := .fields #[.none, .bool false, .ref s.heap.objs.size, rawInt 0, .none, .none] }) rfl
  show _ ∧ _
  rw [hz] at he ⊢
  refine ⟨⟨_, he, rfl⟩, h _ he ⟨{ cls := .type "tuple_iterator", data := .fields #[.ref l, .int 0 0] }, Heap.get?_push_of_some _ ?_, rfl, rfl⟩ fun b o x => Heap.get?_push_of_some _ ?_⟩
  · rw [← hi]; exact Heap.get?_push_size _ rfl
  · rw [← hi]; exact Heap.get?_push_of_some _ x
theorem tup_next {it t : Addr} {i : Nat} {items : Array Value} {x : Value} {Q : Value → Shared → Prop} (hit : IsTupIter s.heap it t i) (ht : IsTup s.heap t items) (hx : items[i]? = some x)
    (hQ : ∀ h', IsTupIter h' it t (i + 1) → Heap.SameBut it s.heap h' → Q x { s with heap := h' }) : wpAny (model prog w) A (Builtin.SmallTypes.nextOf (.ref it)) Q E s := by
  obtain ⟨o, ho, hc, hd⟩ := id hit
  obtain ⟨ot, hot, _, nt, hdt⟩ := ht
  unfold Builtin.SmallTypes.nextOf
  refine wpAny_bind (wpAny_callSpecial?_slot (name := Str.ofString "__next__") hit.typeIs F.slot_tuple_iterator_next
    (wpAny_call_entry F.slot_tuple_iterator_next hit.typeIs F.entry_tuple_iterator_next ?_ (F.args_tuple_iterator_next_1 _)))
  show wpAny _ _ (field (.ref it) 0 >>= _) _ _ s
  refine wpAny_bind (wpAny_field ho hd (x := .ref t) rfl ?_)
  show wpAny _ _ (if (Value.ref t == Value.none) = true then _ else _) _ _ s
  rw [if_neg (show ¬ ((Value.ref t == Value.none) = true) from Bool.false_ne_true)]
  show wpAny _ _ (field (.ref it) 1 >>= _) _ _ s
  refine wpAny_bind (wpAny_field ho hd (x := .int i 0) rfl ?_)
  show wpAny _ _ (seqItems? (.ref t) >>= _) _ _ s
  refine wpAny_bind (wpAny_seqItems hot hdt ?_)
  simp only [Int.toNat_natCast, hx]
  refine wpAny_bind (wpAny_setField ho hd (by simp) (wpAny_pure ⟨x, rfl, wpAny_pure (hQ _ ?_ (Heap.SameBut.update ..))⟩))
  refine ⟨_, Heap.get?_update_self _ ho (Obj.isFreed_of_fields (Obj.data_mapFields hd _)), (Obj.cls_mapFields ..).trans hc, ?_⟩
  rw [Obj.data_mapFields hd]
  simp [rawInt]
theorem tup_stop {it t : Addr} {i : Nat} {items : Array Value} {Q : Value → Shared → Prop} (hh : A.handled = none) (hit : IsTupIter s.heap it t i) (ht : IsTup s.heap t items) (hx : items[i]? = none)
    (hE : ∀ h' e, Heap.ExtBut it s.heap h' → (∃ o, h'.get? e = some o ∧ o.cls = .type "StopIteration") → E (.ref e) { s with heap := h' }) : wpAny (model prog w) A (Builtin.SmallTypes.nextOf (.ref it)) Q E s := by
  obtain ⟨o, ho, hc, hd⟩ := id hit
  obtain ⟨ot, hot, _, nt, hdt⟩ := ht
  unfold Builtin.SmallTypes.nextOf
  refine wpAny_bind (wpAny_callSpecial?_slot (name := Str.ofString "__next__") hit.typeIs F.slot_tuple_iterator_next
    (wpAny_call_entry F.slot_tuple_iterator_next hit.typeIs F.entry_tuple_iterator_next ?_ (F.args_tuple_iterator_next_1 _)))
  show wpAny _ _ (field (.ref it) 0 >>= _) _ _ s
  refine wpAny_bind (wpAny_field ho hd (x := .ref t) rfl ?_)
  show wpAny _ _ (if (Value.ref t == Value.none) = true then _ else _) _ _ s
  rw [if_neg (show ¬ ((Value.ref t == Value.none) = true) from Bool.false_ne_true)]
  show wpAny _ _ (field (.ref it) 1 >>= _) _ _ s
  refine wpAny_bind (wpAny_field ho hd (x := .int i 0) rfl ?_)
  show wpAny _ _ (seqItems? (.ref t) >>= _) _ _ s
  refine wpAny_bind (wpAny_seqItems hot hdt ?_)
  simp only [Int.toNat_natCast, hx]
  refine wpAny_bind (wpAny_rule (wpAny_bind (wpAny_setField ho hd (by simp) ?_)))
  show wpAny _ _ (newExc (.type "StopIteration") [] >>= _) _ _ _
  refine wpAny_bind ?_
  simp only [newExc, newTuple]
  refine wpAny_bind (wpAny_newObj_type ?_ (by size_fits))
  refine wpAny_bind (m := firstArgMember _ _) (wpAny_of_eq (a := Value.none) (by first | rfl | (simp only [firstArgMember]; rfl)) ?_)
  refine wpAny_newObj_type ?_ (by size_fits)
  simp only [raiseNew]
  refine wpAny_bind (wpAny_handled ?_)
  first | rw [show A.in1.handled = none from hh] | rw [hh]
  refine wpAny_bind (wpAny_pure (wpAny_throw ?_))
  exact hE _ _ (((Heap.SameBut.update ..).extBut.push _).push _) ⟨_, Heap.get?_push_size _ rfl, rfl⟩
end
theorem tup_draws {prog : Program} {w : World} {A : Around} (hh : A.handled = none) (it t : Addr) (hne : t ≠ it) (items : Array Value) :
    Draws prog w A it [it, t] items.size (fun i v => items[i]? = some v) (fun i h => IsTupIter h it t i ∧ IsTup h t items) where
  live := fun _ _ st => let ⟨o, ho, _⟩ := st.1; ⟨o, ho⟩
  frame := fun _ _ _ st hk => by
    obtain ⟨⟨o, ho, r⟩, ⟨o', ho', r'⟩⟩ := st
    exact ⟨⟨o, hk it (by simp) o ho, r⟩, ⟨o', hk t (by simp) o' ho', r'⟩⟩
  item := fun i s Q E hi st hQ => by
    refine tup_next st.1 st.2 (x := items[i]) (by simp [hi]) fun h' hit' hs' => ?_
    exact hQ _ h' s.toks (by simp [hi]) ⟨hit', st.2.extBut hs'.extBut hne⟩ hs'
  done := fun s Q E st hE => tup_stop hh st.1 st.2 (by simp) hE
end

section
open PyProof.V
abbrev wayD (a : Way) : PyData := .str a.s
theorem ways_canLay : ∀ ws : List Way, PyData.canLayAll0 (ws.map wayD) = true
  | [] => rfl
  | a :: r => by
    have h : PyData.canLay0 (wayD a) = true := by cases a <;> decide +kernel
    simp [PyData.canLayAll0, ways_canLay r, h]
theorem ways_depth : ∀ ws : List Way, PyData.depthAll (ws.map wayD) = 0
  | [] => rfl
  | a :: r => by simp [PyData.depthAll, PyData.depth, ways_depth r]
theorem ways_shaped (ws : List Way) : SeqAt.shaped (.list (ws.map wayD)) = true := by
  simp [SeqAt.shaped, PyData.canLay0, PyData.depth, ways_canLay ws, ways_depth ws]
theorem ways_same1 (a b : Way) : PySem.Spec.same (wayD a) (wayD b) = decide (a = b) := by
  cases a <;> cases b <;> decide +kernel
theorem ways_sameAll : ∀ ws us : List Way, PySem.Spec.sameAll (ws.map wayD) (us.map wayD) = decide (ws = us)
  | [], [] => by simp [PySem.Spec.sameAll]
  | [], _ :: _ => by simp [PySem.Spec.sameAll]
  | _ :: _, [] => by simp [PySem.Spec.sameAll]
  | a :: r, b :: t => by
    simp only [List.map_cons, PySem.Spec.sameAll, ways_sameAll r t, ways_same1]
    by_cases h : a = b <;> by_cases h' : r = t <;> simp [h, h']
theorem ways_same (ws us : List Way) : PySem.Spec.same (.list (ws.map wayD)) (.list (us.map wayD)) = decide (ws = us) := by
  simp only [PySem.Spec.same]; exact ways_sameAll ws us
theorem ways_carried : ∀ {ws : List Way} {vs : List Value}, StrsAre vs (ws.map Way.s) → CarriedAll vs (ws.map wayD)
  | [], _, .nil => .nil
  | _ :: _, _, .cons _ t r => .cons (.str _ t) (ways_carried r)
section
variable {prog : Program} {w : World} {A : Around} {E : Value → Shared → Prop} {s : Shared} {a b : Addr} {xs ys : List Value} {ws us : List Way} {Q : Value → Shared → Prop}
theorem eq_ways (ha : s.heap.IsList a xs.toArray) (hb : s.heap.IsList b ys.toArray) (hi : StrsAre xs (ws.map Way.s)) (hj : StrsAre ys (us.map Way.s)) (hu : A.units + 64 < cLine) (h : Q (.bool (decide (ws = us))) s) :
    wpAny (model prog w) A (compareOp .Eq (.ref a) (.ref b)) Q E s :=
  eq_dataH_same (reads_newData ha (ways_carried hi)) (reads_newData hb (ways_carried hj)) (ways_shaped _) (ways_shaped _) hu (SeqAt.noMix_of_shape (.list .str) rfl _ _ (list_map_has fun _ => rfl) (list_map_has fun _ => rfl)) (by rw [ways_same]; exact h)
theorem ne_ways (ha : s.heap.IsList a xs.toArray) (hb : s.heap.IsList b ys.toArray) (hi : StrsAre xs (ws.map Way.s)) (hj : StrsAre ys (us.map Way.s)) (hu : A.units + 64 < cLine) (h : Q (.bool (!decide (ws = us))) s) :
    wpAny (model prog w) A (compareOp .NotEq (.ref a) (.ref b)) Q E s :=
  ne_dataH_same (reads_newData ha (ways_carried hi)) (reads_newData hb (ways_carried hj)) (ways_shaped _) (ways_shaped _) hu (SeqAt.noMix_of_shape (.list .str) rfl _ _ (list_map_has fun _ => rfl) (list_map_has fun _ => rfl)) (by rw [ways_same]; exact h)
end
end

abbrev tupO (vs : List Value) : Obj := { cls := .type "tuple", data := .seq vs.toArray }

/-- a type of the law's own -/
inductive Ty
  | int
  | oth
  | par (x : Nm)
  | ref (r : Nm) (b : Bool) (t : Ty)
  | box (t : Ty)
  | arr (t : Ty)
  | tup (a b : Ty)
  | adt (r1 r2 : Nm) (a b : Ty)
def Ty.depth : Ty → Nat
  | .int => 0
  | .oth => 0
  | .par _ => 0
  | .ref _ _ t => t.depth + 1
  | .box t => t.depth + 1
  | .arr t => t.depth + 1
  | .tup a b => Nat.max a.depth b.depth + 1
  | .adt _ _ a b => Nat.max a.depth b.depth + 1

/-- the ledger bears a type at a value -/
inductive TyIn (l : Led) : Value → Ty → Prop
  | int {a : Addr} {t1 t2 : Tok} : (a, tupO [.str (Str.ofString "int") t1, .str (Str.ofString "u8") t2]) ∈ l → TyIn l (.ref a) .int
  | oth {a : Addr} {t1 : Tok} : (a, tupO [.str (Str.ofString "bool") t1]) ∈ l → TyIn l (.ref a) .oth
  | par {a : Addr} {t1 : Tok} {v : Value} {x : Nm} : (a, tupO [.str (Str.ofString "param") t1, v]) ∈ l → x.isP = true → NmV x v → TyIn l (.ref a) (.par x)
  | ref {a c : Addr} {t1 : Tok} {v : Value} {r : Nm} {b : Bool} {t : Ty} : (a, tupO [.str (Str.ofString "ref") t1, v, .bool b, .ref c]) ∈ l → r.isP = false → NmV r v → TyIn l (.ref c) t → TyIn l (.ref a) (.ref r b t)
  | box {a c : Addr} {t1 : Tok} {t : Ty} : (a, tupO [.str (Str.ofString "box") t1, .ref c]) ∈ l → TyIn l (.ref c) t → TyIn l (.ref a) (.box t)
  | arr {a c : Addr} {t1 t2 : Tok} {t : Ty} : (a, tupO [.str (Str.ofString "array") t1, .ref c, .int 3 t2]) ∈ l → TyIn l (.ref c) t → TyIn l (.ref a) (.arr t)
  | tup {a p c d : Addr} {t1 : Tok} {t u : Ty} : (a, tupO [.str (Str.ofString "tuple") t1, .ref p]) ∈ l → (p, tupO [.ref c, .ref d]) ∈ l → TyIn l (.ref c) t → TyIn l (.ref d) u → TyIn l (.ref a) (.tup t u)
  | adt {a q p c d : Addr} {t1 t2 : Tok} {v1 v2 : Value} {r1 r2 : Nm} {t u : Ty} : (a, tupO [.str (Str.ofString "adt") t1, .str (Str.ofString "m::E") t2, .ref q, .ref p]) ∈ l → (q, tupO [v1, v2]) ∈ l → r1.isP = false → NmV r1 v1 → r2.isP = false → NmV r2 v2 →
      (p, tupO [.ref c, .ref d]) ∈ l → TyIn l (.ref c) t → TyIn l (.ref d) u → TyIn l (.ref a) (.adt r1 r2 t u)
theorem TyIn.mono {l l' : Led} {v : Value} {t : Ty} (h : TyIn l v t) (hs : ∀ p ∈ l, p ∈ l') : TyIn l' v t := by
  induction h with
  | int h => exact .int (hs _ h)
  | oth h => exact .oth (hs _ h)
  | par h p n => exact .par (hs _ h) p n
  | ref h p n _ ih => exact .ref (hs _ h) p n ih
  | box h _ ih => exact .box (hs _ h) ih
  | arr h _ ih => exact .arr (hs _ h) ih
  | tup h1 h2 _ _ i1 i2 => exact .tup (hs _ h1) (hs _ h2) i1 i2
  | adt h1 h2 p1 n1 p2 n2 h3 _ _ i1 i2 => exact .adt (hs _ h1) (hs _ h2) p1 n1 p2 n2 (hs _ h3) i1 i2

/-- the ledger bears uses at the items of a list -/
inductive UsIn (l : Led) : List Value → List (Nm × List Way) → Prop
  | nil : UsIn l [] []
  | cons {a q : Addr} {v : Value} {n : Nm} {wvs vs : List Value} {ws : List Way} {k : Nat} {us : List (Nm × List Way)} : (a, tupO [v, .ref q]) ∈ l → NmV n v → (q, listOf wvs.toArray k) ∈ l → StrsAre wvs (ws.map Way.s) → UsIn l vs us → UsIn l (.ref a :: vs) ((n, ws) :: us)
theorem UsIn.mono {l l' : Led} {vs : List Value} {us : List (Nm × List Way)} (h : UsIn l vs us) (hs : ∀ p ∈ l, p ∈ l') : UsIn l' vs us := by
  induction h with
  | nil => exact .nil
  | cons h1 n h2 s _ ih => exact .cons (hs _ h1) n (hs _ h2) s ih
theorem UsIn.append {l : Led} {vs vs' : List Value} {us us' : List (Nm × List Way)} (h : UsIn l vs us) (h' : UsIn l vs' us') : UsIn l (vs ++ vs') (us ++ us') := by
  induction h with
  | nil => exact h'
  | cons h1 n h2 s _ ih => exact .cons h1 n h2 s ih
theorem UsIn.length {l : Led} {vs : List Value} {us : List (Nm × List Way)} (h : UsIn l vs us) : vs.length = us.length := by
  induction h with
  | nil => rfl
  | cons _ _ _ _ _ ih => simp [ih]
theorem StrsAre.app {vs vs' : List Value} {xs xs' : List Str} (h : StrsAre vs xs) (h' : StrsAre vs' xs') : StrsAre (vs ++ vs') (xs ++ xs') := by
  induction h with
  | nil => exact h'
  | cons y t _ ih => exact .cons y t ih
theorem ways_app {vs vs' : List Value} {ws ws' : List Way} (h : StrsAre vs (ws.map Way.s)) (h' : StrsAre vs' (ws'.map Way.s)) : StrsAre (vs ++ vs') ((ws ++ ws').map Way.s) := by
  rw [List.map_append]; exact StrsAre.app h h'
theorem strs_len {vs : List Value} {xs : List Str} (h : StrsAre vs xs) : vs.length = xs.length := by
  induction h with
  | nil => rfl
  | cons y t _ ih => simp [ih]
theorem ways_len {vs : List Value} {ws : List Way} (h : StrsAre vs (ws.map Way.s)) : vs.length = ws.length := by rw [strs_len h, List.length_map]

/-- what is known of the enum -/
structure Known where
  k0 : Way
  k1 : Way
  k2 : Way
  k3 : Way
def Known.vals (K : Known) (t0 t1 t2 t3 : Tok) : List Value := [.str K.k0.s t0, .str K.k1.s t1, .str K.k2.s t2, .str K.k3.s t3]

/-- the uses in a type, by the law's own reckoning -/
def uses (K : Known) : Ty → List Way → List (Nm × List Way)
  | .int, _ => []
  | .oth, _ => []
  | .par x, ws => [(x, ws)]
  | .ref r b t, ws => (r, ws) :: uses K t (ws ++ [if b then .inn else .co])
  | .box t, ws => uses K t ws
  | .arr t, ws => uses K t ws
  | .tup a b, ws => uses K a ws ++ uses K b ws
  | .adt r1 r2 a b, ws => [(r1, ws ++ [K.k0]), (r2, ws ++ [K.k1])] ++ ((uses K a ws).map (fun u => (u.1, u.2 ++ [K.k2])) ++ (uses K b ws).map (fun u => (u.1, u.2 ++ [K.k3])))
def enumUses (K : Known) (r1 r2 : Nm) (ua ub : List (Nm × List Way)) (ws : List Way) : List (Nm × List Way) :=
  [(r1, ws ++ [K.k0]), (r2, ws ++ [K.k1])] ++ (ua.map (fun u => (u.1, u.2 ++ [K.k2])) ++ ub.map (fun u => (u.1, u.2 ++ [K.k3])))

theorem uses_length (K : Known) : ∀ (t : Ty) (ws : List Way), (uses K t ws).length + 2 ≤ 4 ^ (t.depth + 1)
  | .int, _ => by simp [uses, Ty.depth]
  | .oth, _ => by simp [uses, Ty.depth]
  | .par _, _ => by simp [uses, Ty.depth]
  | .ref _ b t, ws => by
    have := uses_length K t (ws ++ [if b then .inn else .co])
    simp only [uses, Ty.depth, List.length_cons]
    rw [Nat.pow_succ]
    have h1 : 4 ≤ 4 ^ (t.depth + 1) := by rw [Nat.pow_succ]; have := Nat.one_le_pow t.depth 4 (by decide); omega
    omega
  | .box t, ws => by
    have := uses_length K t ws
    simp only [uses, Ty.depth]
    rw [Nat.pow_succ]; omega
  | .arr t, ws => by
    have := uses_length K t ws
    simp only [uses, Ty.depth]
    rw [Nat.pow_succ]; omega
  | .tup a b, ws => by
    have h1 := uses_length K a ws
    have h2 := uses_length K b ws
    simp only [uses, Ty.depth, List.length_append]
    have e1 : 4 ^ (a.depth + 1) ≤ 4 ^ (Nat.max a.depth b.depth + 1) := Nat.pow_le_pow_right (by decide) (Nat.succ_le_succ (Nat.le_max_left _ _))
    have e2 : 4 ^ (b.depth + 1) ≤ 4 ^ (Nat.max a.depth b.depth + 1) := Nat.pow_le_pow_right (by decide) (Nat.succ_le_succ (Nat.le_max_right _ _))
    rw [Nat.pow_succ]; omega
  | .adt r1 r2 a b, ws => by
    have h1 := uses_length K a ws
    have h2 := uses_length K b ws
    simp only [uses, Ty.depth, List.length_append, List.length_map, List.length_cons, List.length_nil]
    have e1 : 4 ^ (a.depth + 1) ≤ 4 ^ (Nat.max a.depth b.depth + 1) := Nat.pow_le_pow_right (by decide) (Nat.succ_le_succ (Nat.le_max_left _ _))
    have e2 : 4 ^ (b.depth + 1) ≤ 4 ^ (Nat.max a.depth b.depth + 1) := Nat.pow_le_pow_right (by decide) (Nat.succ_le_succ (Nat.le_max_right _ _))
    rw [Nat.pow_succ]; omega
theorem uses_ways (K : Known) : ∀ (t : Ty) (ws : List Way), ∀ u ∈ uses K t ws, u.2.length ≤ ws.length + t.depth
  | .int, _, u, hu => by simp [uses] at hu
  | .oth, _, u, hu => by simp [uses] at hu
  | .par _, ws, u, hu => by
    simp only [uses, List.mem_singleton] at hu
    subst hu; exact Nat.le_refl _
  | .ref r b t, ws, u, hu => by
    simp only [uses, List.mem_cons] at hu
    rcases hu with rfl | hu
    · exact Nat.le_add_right _ _
    · have := uses_ways K t _ u hu
      simp only [Ty.depth, List.length_append, List.length_cons, List.length_nil] at this ⊢
      omega
  | .box t, ws, u, hu => by have := uses_ways K t ws u hu; simp only [Ty.depth]; omega
  | .arr t, ws, u, hu => by have := uses_ways K t ws u hu; simp only [Ty.depth]; omega
  | .tup a b, ws, u, hu => by
    have e1 := Nat.le_max_left a.depth b.depth
    have e2 := Nat.le_max_right a.depth b.depth
    simp only [uses, List.mem_append] at hu
    simp only [Ty.depth]
    change _ ≤ _ + ((max a.depth b.depth) + 1)
    rcases hu with hu | hu
    · have := uses_ways K a ws u hu; omega
    · have := uses_ways K b ws u hu; omega
  | .adt r1 r2 a b, ws, u, hu => by
    have e1 := Nat.le_max_left a.depth b.depth
    have e2 := Nat.le_max_right a.depth b.depth
    simp only [uses, List.mem_append, List.mem_cons, List.not_mem_nil, or_false, List.mem_map] at hu
    simp only [Ty.depth]
    change _ ≤ _ + ((max a.depth b.depth) + 1)
    rcases hu with (rfl | rfl) | ⟨v, hv, rfl⟩ | ⟨v, hv, rfl⟩
    · simp
    · simp
    · have := uses_ways K a ws v hv; simp only [List.length_append, List.length_cons, List.length_nil]; omega
    · have := uses_ways K b ws v hv; simp only [List.length_append, List.length_cons, List.length_nil]; omega

theorem sub_right {l l2 l3 : Led} (h : ∀ p ∈ l2, p ∈ l3) : ∀ p ∈ l ++ l2, p ∈ l ++ l3 := fun p hp => (List.mem_append.mp hp).elim (fun h' => List.mem_append.mpr (.inl h')) fun h' => List.mem_append.mpr (.inr (h p h'))
theorem rest_one {l : Led} {a : Addr} (h : ∀ p ∈ l, p.1 ≠ a) : ∀ p ∈ l, ∀ b ∈ [a], p.1 ≠ b := fun p hp b hb => by rw [List.mem_singleton.mp hb]; exact h p hp
theorem rest_two {l : Led} {a c : Addr} (h : ∀ p ∈ l, p.1 ≠ a) (h2 : ∀ p ∈ l, p.1 ≠ c) : ∀ p ∈ l, ∀ b ∈ [a, c], p.1 ≠ b := fun p hp b hb => by
  rcases List.mem_cons.mp hb with rfl | hb
  · exact h p hp
  · rw [List.mem_singleton.mp hb]; exact h2 p hp
theorem end_jar {H g h₀ h' : Heap} {L L' : Addr} {led new : Led} {jar : Addr} {oj : Obj} (kG : GSub H g [jar]) (N' : News g L' h' led) (kN : News h₀ L h' led) (hr : Rest [jar] led new) (hj : (jar, oj) ∈ led) :
    News h₀ L h' ((jar, oj) :: new) ∧ (∀ p ∈ new, H.get? p.1 = none) ∧ ∀ p ∈ new, p ∈ led := by
  refine ⟨fun p hp => ?_, fun p hp => ?_, fun p hp => (hr.ok p hp).1⟩
  · rcases List.mem_cons.mp hp with rfl | hp
    · exact kN _ hj
    · exact kN _ (hr.ok p hp).1
  · cases e : H.get? p.1 with
    | none => rfl
    | some o =>
      have := kG _ _ e fun hm => (hr.ok p hp).2 jar (.head _) (List.mem_singleton.mp hm)
      rw [(N' p (hr.ok p hp).1).2.2] at this; cases this
def At (H : Heap) (frz : Led) : Prop := ∀ p ∈ frz, H.get? p.1 = some p.2
theorem At.list {H : Heap} {frz : Led} {l : Addr} {vs : List Value} {k : Nat} (h : At H frz) (hm : (l, listOf vs.toArray k) ∈ frz) : H.IsList l vs.toArray := ⟨_, h _ hm, rfl, _, rfl⟩
theorem At.tup {H : Heap} {frz : Led} {l : Addr} {vs : List Value} (h : At H frz) (hm : (l, tupO vs) ∈ frz) : IsTup H l vs.toArray := ⟨_, h _ hm, rfl, _, rfl⟩
theorem base_frz {H g : Heap} {frz : Led} {jar : Addr} (hz : ∀ p ∈ frz, H.get? p.1 = some p.2) (k : GSub H g [jar]) (hne : ∀ p ∈ frz, p.1 ≠ jar) : At g frz := fun p hp => k _ _ (hz p hp) fun hm => hne p hp (List.mem_singleton.mp hm)
section
variable {prog : Program} {w : World} {A : Around} {E : Value → Shared → Prop} {s : Shared} {h₀ : Heap} {L : Addr} {m : Str → Option Value} {led : Led}
theorem addL {l b : Addr} {v1 v2 : List Value} {Q : Value → Shared → Prop} (F : Fr h₀ L s.heap m) (N : News h₀ L s.heap led) (hl : s.heap.IsList l v1.toArray) (hb : s.heap.IsList b v2.toArray) (hz : v1.length + v2.length ≤ 16384)
    (h : ∀ D h', Fr h₀ L h' m → News h₀ L h' ((D, listOf (v1 ++ v2).toArray 0) :: led) → (∀ p ∈ led, p.1 < D) → Q (.ref D) { s with heap := h' }) : wpAny (model prog w) A (binaryOp .Add (.ref l) (.ref b)) Q E s :=
  add_arrays F N hl hb (fun h' F' N' => h _ h' F' N' fun p hp => Heap.lt_size (N p hp).1) (by rw [sizeLine_eq, List.size_toArray, List.size_toArray]; omega)
theorem itemC {value slice : PySem.Expr} {l : Addr} {vs : List Value} {k : Int} {u : Tok} {v : Value} {Q : Value → Shared → Prop} (F : Fr h₀ L s.heap m) (hl : h₀.IsList l vs.toArray) (h0 : 0 ≤ k) (h1 : k < 2 ^ 63) (hx : vs[k.toNat]? = some v) (h : Q v s)
    (hs : subscripted slice false (.ref l) (.int k u) = operate [.ref l, .int k u] (getItem (.ref l) (.int k u)) := by with_unfolding_all rfl) :
    wpAny (model prog w) A (subscriptTail value slice (.ref l) (.int k u)) Q E s := item_litK (hl.at fun o e => F.keep l o e) h0 h1 hx h hs
theorem itemT {value slice : PySem.Expr} {l : Addr} {vs : List Value} {k : Int} {u : Tok} {v : Value} {Q : Value → Shared → Prop} (F : Fr h₀ L s.heap m) (hl : IsTup h₀ l vs.toArray) (h0 : 0 ≤ k) (h1 : k < 2 ^ 62) (hx : vs[k.toNat]? = some v) (h : Q v s)
    (hs : subscripted slice false (.ref l) (.int k u) = operate [.ref l, .int k u] (getItem (.ref l) (.int k u)) := by with_unfolding_all rfl) :
    wpAny (model prog w) A (subscriptTail value slice (.ref l) (.int k u)) Q E s := by
  have hk : k.toNat < vs.length := by
    rcases Nat.lt_or_ge k.toNat vs.length with h | h
    · exact h
    · rw [List.getElem?_eq_none h] at hx; cases hx
  refine item_tupleT (hl.keeps fun b o e => F.keep b o e) (by omega) (by omega) (j := k.toNat) (seqIndex_of h0 (by omega)) hx h hs
theorem list_base {l : Addr} {vs : List Value} (F : Fr h₀ L s.heap m) (hl : h₀.IsList l vs.toArray) : s.heap.IsList l vs.toArray := hl.at fun o e => F.keep l o e
end
/-- a turn's end: the iterator stands, the rest is as J says -/
def TurnEnd (h₀ : Heap) (L : Addr) (e : Addr × Obj) (Jn : (Str → Option Value) → Led → Prop) (s₁ s₂ : Shared) : Prop :=
  ∃ h' tk m' led', s₂ = { s₁ with heap := h', toks := tk } ∧ Fr h₀ L h' m' ∧ News h₀ L h' (e :: led') ∧ (∀ p ∈ led', p.1 ≠ e.1) ∧ Jn m' led'
def TurnPost (h₀ : Heap) (L : Addr) (e : Addr × Obj) (Jn : (Str → Option Value) → Led → Prop) (s₁ : Shared) (Q : Flow → Shared → Prop) (f : Flow) (s₂ : Shared) : Prop :=
  match f with
  | .ret v => Q (.ret v) s₂
  | .brk => Q .next s₂
  | _ => TurnEnd h₀ L e Jn s₁ s₂
section
variable {prog : Program} {w : World} {A : Around} {E : Value → Shared → Prop} {s : Shared} {env : Env} {h₀ : Heap} {target : Expr} {body : List Stmt} {Q : Flow → Shared → Prop}
theorem turns_core {I : Addr} {fp : List Addr} {n : Nat} {P : Nat → Value → Prop} {St : Nat → Heap → Prop} {m₀ : Str → Option Value} {led : Led} {hp : Heap} {tk0 : Nat}
    (W : KTurns prog w A target I fp [I] n (fun i v _ => P i v) (fun i v h => P i v ∧ St (i + 1) h) St)
    (hobj : ∀ i h, St i h → ∃ it, h.get? I = some it) (hfp : ∀ b ∈ fp, b = I ∨ ∃ o, h₀.get? b = some o) (hI : h₀.get? I = none) (hLI : env.locals ≠ I) (hLf : ∀ o, h₀.get? env.locals ≠ some o)
    (hst : St 0 hp) (F : Fr h₀ env.locals hp m₀) (N : News h₀ env.locals hp led) (hn : ∀ p ∈ led, p.1 ≠ I)
    (J : Nat → (Str → Option Value) → Led → Prop) (h0 : J 0 m₀ led)
    (step : ∀ it i v m₁ led₁ h₁ tk₁, i < n → P i v → J i m₁ led₁ → (∀ p ∈ led₁, p.1 ≠ I) → Fr h₀ env.locals h₁ m₁ → News h₀ env.locals h₁ ((I, it) :: led₁) →
      wpAny (model prog w) A (assign target env v) (fun _ s₃ => wpAny (model prog w) A (execs body env) (TurnPost h₀ env.locals (I, it) (J (i + 1)) { s with heap := h₁, toks := tk₁ } Q) E s₃) E { s with heap := h₁, toks := tk₁ })
    (done : ∀ h' tk m' led', Fr h₀ env.locals h' m' → News h₀ env.locals h' led' → J n m' led' → Q .next { s with heap := h', toks := tk }) :
    TurnsAt prog w A h₀ env target body Q E (.ref I) { s with heap := hp, toks := tk0 } := by
  refine ⟨I, fp, [I], n, _, _, St, m₀, led, J, rfl, W, ?_, ?_, ?_, hst, F, N, h0, ?_, ?_⟩
  · intro hm
    rcases hfp _ hm with e | ⟨o, e⟩
    · exact hLI e
    · exact hLf o e
  · intro b hb; rw [List.mem_singleton.mp hb]; exact hI
  · intro p hp hm; exact hn p hp (List.mem_singleton.mp hm)
  · intro i v m₁ led₁ h₁ tk₁ own hin hP hJ hoff hown hget hall hst₁ F₁ N₁
    obtain ⟨it, hit⟩ := hobj _ _ hst₁
    have hI' : I ∈ fp := W.sub I (List.mem_singleton.mpr rfl)
    have hmem := hall I hI' hI it hit
    have off : ∀ p ∈ led₁, p.1 ≠ I := fun p hp e => hoff p hp (List.mem_singleton.mpr e)
    have N₂ : News h₀ env.locals h₁ ((I, it) :: led₁) := fun p hp => by
      rcases List.mem_cons.mp hp with rfl | hp
      · exact N₁ _ (List.mem_append_left _ hmem)
      · exact N₁ _ (List.mem_append_right _ hp)
    have fin : ∀ s₃, TurnEnd h₀ env.locals (I, it) (J (i + 1)) { s with heap := h₁, toks := tk₁ } s₃ → LoopStepU h₀ env.locals [I] own (J (i + 1)) { s with heap := h₁, toks := tk₁ } .next s₃ := by
      rintro s₃ ⟨h', tk, m', led', e, F', N', ho, hJ'⟩
      refine ⟨rfl, h', tk, m', led', e, F', ?_, fun p hp hm => ho p hp (List.mem_singleton.mp hm), hJ'⟩
      rintro ⟨pa, po⟩ hp
      rcases List.mem_append.mp hp with hp | hp
      · have h2 : h₁.get? pa = some po := hget _ hp
        rcases hfp pa (hown _ hp) with h3 | ⟨o, h3⟩
        · subst h3
          have : it = po := Option.some.inj (hit.symm.trans h2)
          subst this
          exact N' _ (.head _)
        · have h4 : h₀.get? pa = none := (N₁ _ (List.mem_append_left _ hp)).2.2
          rw [h3] at h4; cases h4
      · exact N' _ (.tail _ hp)
    refine wpAny_mono (step it i v m₁ led₁ h₁ tk₁ hin hP hJ off F₁ N₂) (fun _ s₂ h₂ => wpAny_mono h₂ (fun f s₃ p => ?_) fun _ _ e => e) fun _ _ e => e
    cases f with
    | ret v => exact p
    | brk => exact p
    | next => exact fin _ p
    | cont => exact fin _ p
  · intro h' tk m' led' F' N' _ hJ
    exact done h' tk m' led' F' N' hJ

theorem iter_base {ax : Addr} {vs : List Value} {m₀ : Str → Option Value} {led : Led} (hh : A.handled = none) (hl : h₀.IsList ax vs.toArray) (F : Fr h₀ env.locals s.heap m₀) (N : News h₀ env.locals s.heap led)
    (J : Nat → (Str → Option Value) → Led → Prop) (h0 : J 0 m₀ led)
    (step : ∀ I it i v m₁ led₁ h₁ tk₁, vs[i]? = some v → J i m₁ led₁ → (∀ p ∈ led, p.1 < I) → (∀ p ∈ led₁, p.1 ≠ I) → Fr h₀ env.locals h₁ m₁ → News h₀ env.locals h₁ ((I, it) :: led₁) →
      wpAny (model prog w) A (assign target env v) (fun _ s₃ => wpAny (model prog w) A (execs body env) (TurnPost h₀ env.locals (I, it) (J (i + 1)) { s with heap := h₁, toks := tk₁ } Q) E s₃) E { s with heap := h₁, toks := tk₁ })
    (done : ∀ h' tk m' led', Fr h₀ env.locals h' m' → News h₀ env.locals h' led' → J vs.length m' led' → Q .next { s with heap := h', toks := tk }) :
    wpAny (model prog w) A (pyIter (.ref ax)) (fun it s₂ => TurnsAt prog w A h₀ env target body Q E it s₂) E s := by
  have hls : s.heap.IsList ax vs.toArray := hl.at fun o e => F.keep ax o e
  obtain ⟨ol, hol, hol'⟩ := id hl
  have hlt : ax < s.heap.objs.size := Heap.lt_size (F.keep _ _ hol)
  have hne : ax ≠ s.heap.objs.size := Nat.ne_of_lt hlt
  have hlen : vs.toArray.size = vs.length := by simp
  refine wpAny_pyIter_list hls ?_
  have W := Walks.list (prog := prog) (w := w) hh s.heap.objs.size ax hne vs.toArray
  rw [hlen] at W
  have hLn : ∀ o, h₀.get? env.locals ≠ some o := fun o e => absurd (Heap.lt_size e) (Nat.not_lt.mpr F.above)
  refine turns_core (tk0 := s.toks) (KTurns.ofWalks W fun i v s Q E st q => letGo_listiter st.1 q) (fun i h st => ?_) (fun b hb => ?_) (next_is_new F) (fun e => ?_) hLn ?_ (F.push _) (fun p hp => ⟨Heap.get?_push_of_some _ (N p hp).1, (N p hp).2⟩) (fun p hp e => ?_) J h0 ?_ done
  · obtain ⟨it, hit, _⟩ := st.1
    exact ⟨it, hit⟩
  · rcases List.mem_cons.mp hb with rfl | hb
    · exact .inl rfl
    · rw [List.mem_singleton.mp hb]; exact .inr ⟨ol, hol⟩
  · exact absurd F.ns.lt (e ▸ Nat.lt_irrefl _)
  · exact ⟨⟨_, Heap.get?_push_size _ rfl, rfl, rfl⟩, hls.at fun o e => Heap.get?_push_of_some _ e⟩
  · exact absurd (Heap.lt_size (N p hp).1) (e ▸ Nat.lt_irrefl _)
  · intro it i v m₁ led₁ h₁ tk₁ _ hP hJ off F₁ N₁
    exact step _ it i v m₁ led₁ h₁ tk₁ (by simpa using hP) hJ (fun p hp => Heap.lt_size (N p hp).1) off F₁ N₁

theorem for_base {y : Str} {py pos : Pos} {ax : Addr} {vs : List Value} {m₀ : Str → Option Value} {led : Led} (hh : A.handled = none) (hl : h₀.IsList ax vs.toArray) (F : Fr h₀ env.locals s.heap m₀) (N : News h₀ env.locals s.heap led)
    (J : Nat → (Str → Option Value) → Led → Prop) (h0 : J 0 m₀ led)
    (hy : ∀ Q', Q' (.ref ax) s → wpAny (model prog w) A (eval (.Name y py) env) Q' E s)
    (step : ∀ I it i v m₁ led₁ h₁ tk₁, vs[i]? = some v → J i m₁ led₁ → (∀ p ∈ led, p.1 < I) → (∀ p ∈ led₁, p.1 ≠ I) → Fr h₀ env.locals h₁ m₁ → News h₀ env.locals h₁ ((I, it) :: led₁) →
      wpAny (model prog w) A (assign target env v) (fun _ s₃ => wpAny (model prog w) A (execs body env) (TurnPost h₀ env.locals (I, it) (J (i + 1)) { s with heap := h₁, toks := tk₁ } Q) E s₃) E { s with heap := h₁, toks := tk₁ })
    (done : ∀ h' tk m' led', Fr h₀ env.locals h' m' → News h₀ env.locals h' led' → J vs.length m' led' → Q .next { s with heap := h', toks := tk })
    (hE : PassesOwn (model prog w) A env E) :
    wpAny (model prog w) A (exec (.For target (.Name y py) body [] pos) env) Q E s :=
  For_turns F (hy _ (iter_base hh hl F N J h0 step done)) (by intro _; rfl) hE

theorem usIn_get {l : Led} : ∀ {vs : List Value} {us : List (Nm × List Way)}, UsIn l vs us → ∀ {i : Nat} {v : Value}, vs[i]? = some v → ∃ a q nv n wvs ws k, v = .ref a ∧ (a, tupO [nv, .ref q]) ∈ l ∧ NmV n nv ∧ (q, listOf wvs.toArray k) ∈ l ∧ StrsAre wvs (ws.map Way.s) ∧ us[i]? = some (n, ws)
  | _, _, .nil, i, v, h => by simp at h
  | _, _, .cons h1 hn h2 hs r, 0, v, h => by
    have e := Option.some.inj h
    exact ⟨_, _, _, _, _, _, _, e.symm, h1, hn, h2, hs, rfl⟩
  | _, _, .cons h1 hn h2 hs r, i + 1, v, h => usIn_get r (i := i) (by simpa using h)

/-- a loop over uses that appends one use a turn to a list of its own -/
def AppJ (je : Addr × Obj) (frz rest : Led) (ul : Addr) (pre : List (Nm × List Way)) (xs : List Str) (m₀ : Str → Option Value) (g : Nm × List Way → Nm × List Way) (fus : List (Nm × List Way)) (i : Nat) (m : Str → Option Value) (led : Led) : Prop :=
  ∃ uvals k nw, led = (ul, listOf uvals.toArray k) :: je :: (rest ++ nw) ∧ (∀ p ∈ nw, p.1 ≠ ul ∧ p.1 ≠ je.1) ∧ UsIn (frz ++ (rest ++ nw)) uvals (pre ++ (fus.take i).map g) ∧ (∀ z, xs.contains z = false → m z = m₀ z)
theorem iter_uses {fa ul : Addr} {fvs uvals : List Value} {fus pre : List (Nm × List Way)} {frz rest led : Led} {je : Addr × Obj} {k : Nat} {m₀ : Str → Option Value} (xs : List Str) (g : Nm × List Way → Nm × List Way)
    (hh : A.handled = none) (hl : h₀.IsList fa fvs.toArray) (F : Fr h₀ env.locals s.heap m₀) (N : News h₀ env.locals s.heap led) (hun : m₀ (Str.ofString "uses") = some (.ref ul)) {ua : Array Value} (hu : (ul, listOf ua k) ∈ led) (hua : ua = uvals.toArray) (hje : je ∈ led) (hjn : je.1 ≠ ul) (hr : Rest [ul, je.1] led rest)
    (U : UsIn frz fvs fus) (V : UsIn (frz ++ rest) uvals pre) (hz : pre.length + fus.length < 10000)
    (turn : ∀ (R : Led) I it a q nv n wvs ws kk uvals' k' (u : Str → Option Value) h₁ tk₁, (a, tupO [nv, .ref q]) ∈ frz → NmV n nv → (q, listOf wvs.toArray kk) ∈ frz → StrsAre wvs (ws.map Way.s) → (n, ws) ∈ fus → uvals'.length < 10000 → ul ≠ I → je.1 ≠ I → (∀ p ∈ R, p.1 ≠ ul) → (∀ p ∈ R, p.1 ≠ je.1) → (∀ p ∈ R, p.1 ≠ I) →
      Fr h₀ env.locals h₁ (fun z => if xs.contains z then u z else m₀ z) → News h₀ env.locals h₁ ((I, it) :: (ul, listOf uvals'.toArray k') :: je :: R) →
      wpAny (model prog w) A (assign target env (.ref a)) (fun _ s₃ => wpAny (model prog w) A (execs body env) (TurnPost h₀ env.locals (I, it)
        (fun m' led' => ∃ t q' wvs' k'' kk' nw', (t, tupO [nv, .ref q']) ∈ nw' ∧ (q', listOf wvs'.toArray kk') ∈ nw' ∧ StrsAre wvs' ((g (n, ws)).2.map Way.s) ∧ led' = (ul, listOf (uvals' ++ [Value.ref t]).toArray k'') :: je :: (R ++ nw') ∧ (∀ p ∈ nw', p.1 ≠ ul ∧ p.1 ≠ je.1) ∧ (∀ z, xs.contains z = false → m' z = m₀ z)) { s with heap := h₁, toks := tk₁ } Q) E s₃) E { s with heap := h₁, toks := tk₁ })
    (hg : ∀ x, (g x).1 = x.1)
    (done : ∀ uvals' k' nw (u : Str → Option Value) h' tk, (∀ p ∈ nw, p.1 ≠ ul) → (∀ p ∈ nw, p.1 ≠ je.1) → (∀ p ∈ rest, p.1 ≠ ul) → (∀ p ∈ rest, p.1 ≠ je.1) → UsIn (frz ++ (rest ++ nw)) uvals' (pre ++ fus.map g) → Fr h₀ env.locals h' (fun z => if xs.contains z then u z else m₀ z) → News h₀ env.locals h' ((ul, listOf uvals'.toArray k') :: je :: (rest ++ nw)) → Q .next { s with heap := h', toks := tk }) :
    wpAny (model prog w) A (pyIter (.ref fa)) (fun it s₂ => TurnsAt prog w A h₀ env target body Q E it s₂) E s := by
  subst hua
  have hro : ∀ p ∈ rest, p.1 ≠ ul := fun p hp => (hr.ok p hp).2 _ (.head _)
  have hrj : ∀ p ∈ rest, p.1 ≠ je.1 := fun p hp => (hr.ok p hp).2 _ (.tail _ (.head _))
  have mapeq : ∀ {m : Str → Option Value}, (∀ z, xs.contains z = false → m z = m₀ z) → m = fun z => if xs.contains z then m z else m₀ z := by
    intro m hm
    funext z
    cases hc : xs.contains z with
    | true => simp
    | false => simp [hm z hc]
  refine iter_base hh hl F (led := (ul, listOf uvals.toArray k) :: je :: rest) (fun p hp => ?_) (AppJ je frz rest ul pre xs m₀ g fus) ⟨uvals, k, [], by simp, (fun p hp => nomatch hp), by simpa using V, fun _ _ => rfl⟩ ?_ ?_
  · rcases List.mem_cons.mp hp with rfl | hp
    · exact N _ hu
    · rcases List.mem_cons.mp hp with rfl | hp
      · exact N _ hje
      · exact N _ (hr.ok p hp).1
  · rintro I it i v m₁ led₁ h₁ tk₁ hv ⟨uvals', k', nw, rfl, hnu, V', hm⟩ hlt hoff F₁ N₁
    obtain ⟨a, q, nv, n, wvs, ws, kk, rfl, h1, hn, h2, hs, hus⟩ := usIn_get U hv
    have hi : i < fus.length := by
      rcases Nat.lt_or_ge i fus.length with h | h
      · exact h
      · rw [List.getElem?_eq_none h] at hus; cases hus
    have hlen := V'.length
    rw [List.length_append, List.length_map, List.length_take] at hlen
    rw [mapeq hm] at F₁
    have e1 : ul ≠ I := hoff _ (.head _)
    have e4 : je.1 ≠ I := hoff _ (.tail _ (.head _))
    have e2 : ∀ p ∈ rest, p.1 ≠ I := fun p hp => hoff p (.tail _ (.tail _ (List.mem_append.mpr (.inl hp))))
    have e3 : ∀ p ∈ nw, p.1 ≠ I := fun p hp => hoff p (.tail _ (.tail _ (List.mem_append.mpr (.inr hp))))
    have et : fus.take (i + 1) = fus.take i ++ [(n, ws)] := by simp [List.take_add_one, hus]
    refine wpAny_mono (turn (rest ++ nw) I it a q nv n wvs ws kk uvals' k' m₁ h₁ tk₁ h1 hn h2 hs (List.mem_of_getElem? hus) (by omega) e1 e4 (fun p hp => (List.mem_append.mp hp).elim (hro p) fun h => (hnu p h).1) (fun p hp => (List.mem_append.mp hp).elim (hrj p) fun h => (hnu p h).2) (fun p hp => (List.mem_append.mp hp).elim (e2 p) (e3 p)) F₁ N₁) (fun _ s₂ h₂ => wpAny_mono h₂ (fun f s₃ p => ?_) fun _ _ e => e) fun _ _ e => e
    have up : TurnEnd h₀ env.locals (I, it) (fun m' led' => ∃ t q' wvs' k'' kk' nw', (t, tupO [nv, .ref q']) ∈ nw' ∧ (q', listOf wvs'.toArray kk') ∈ nw' ∧ StrsAre wvs' ((g (n, ws)).2.map Way.s) ∧ led' = (ul, listOf (uvals' ++ [Value.ref t]).toArray k'') :: je :: ((rest ++ nw) ++ nw') ∧ (∀ p ∈ nw', p.1 ≠ ul ∧ p.1 ≠ je.1) ∧ (∀ z, xs.contains z = false → m' z = m₀ z)) { s with heap := h₁, toks := tk₁ } s₃ →
        TurnEnd h₀ env.locals (I, it) (AppJ je frz rest ul pre xs m₀ g fus (i + 1)) { s with heap := h₁, toks := tk₁ } s₃ := by
      rintro ⟨h', tk, m', led', e, F', N', ho, t, q', wvs', k'', kk', nw', ht, hq, hs', rfl, hnu', hm'⟩
      refine ⟨h', tk, m', _, e, F', N', ho, uvals' ++ [Value.ref t], k'', nw ++ nw', by rw [List.append_assoc], ?_, ?_, hm'⟩
      · intro p hp
        exact (List.mem_append.mp hp).elim (hnu p) (hnu' p)
      · rw [et, List.map_append, show pre ++ (List.map g (fus.take i) ++ List.map g [(n, ws)]) = (pre ++ List.map g (fus.take i)) ++ List.map g [(n, ws)] from (List.append_assoc ..).symm]
        refine UsIn.append (V'.mono ?_) ?_
        · intro p hp
          rcases List.mem_append.mp hp with hp | hp
          · exact List.mem_append.mpr (.inl hp)
          · rcases List.mem_append.mp hp with hp | hp
            · exact List.mem_append.mpr (.inr (List.mem_append.mpr (.inl hp)))
            · exact List.mem_append.mpr (.inr (List.mem_append.mpr (.inr (List.mem_append.mpr (.inl hp)))))
        · have up : ∀ p ∈ nw', p ∈ frz ++ (rest ++ (nw ++ nw')) := fun p hp => List.mem_append.mpr (.inr (List.mem_append.mpr (.inr (List.mem_append.mpr (.inr hp)))))
          show UsIn _ [.ref t] [g (n, ws)]
          have e : g (n, ws) = (n, (g (n, ws)).2) := Prod.ext (hg (n, ws)) rfl
          rw [e]
          exact .cons (up _ ht) hn (up _ hq) hs' .nil
    cases f with
    | ret v => exact p
    | brk => exact p
    | next => exact up p
    | cont => exact up p
  · rintro h' tk m' led' F' N' ⟨uvals', k', nw, rfl, hnu, V', hm⟩
    rw [U.length, List.take_length] at V'
    rw [mapeq hm] at F'
    exact done uvals' k' nw m' h' tk (fun p hp => (hnu p hp).1) (fun p hp => (hnu p hp).2) hro hrj V' F' N'

theorem app_end {R led : Led} {je : Addr × Obj} {I ul t q' : Addr} {it : Obj} {uvals' wvs' : List Value} {its : Array Value} {ws' : List Way} {k'' kk' tk tk₁ : Nat} {nv : Value} {m₀ m' : Str → Option Value} {h₁ h' : Heap} {xs : List Str}
    (F : Fr h₀ env.locals h' m') (N : News h₀ env.locals h' led) (hI : (I, it) ∈ led) (hu : (ul, listOf its k'') ∈ led) (eu : its = (uvals' ++ [Value.ref t]).toArray) (ht : (t, tupO [nv, .ref q']) ∈ led) (hq : (q', listOf wvs'.toArray kk') ∈ led)
    (hje : je ∈ led) (hs : ∀ p ∈ R, p ∈ led) (p1 : t ≠ je.1) (p2 : q' ≠ je.1) (p3 : je.1 ≠ I) (o1 : t ≠ ul) (o2 : q' ≠ ul) (o3 : t ≠ I) (o4 : q' ≠ I) (o5 : ul ≠ I) (r1 : ∀ p ∈ R, p.1 ≠ I) (hst : StrsAre wvs' (ws'.map Way.s)) (hm : ∀ z, xs.contains z = false → m' z = m₀ z) :
    TurnPost h₀ env.locals (I, it) (fun m' led' => ∃ t q' wvs' k'' kk' nw', (t, tupO [nv, .ref q']) ∈ nw' ∧ (q', listOf wvs'.toArray kk') ∈ nw' ∧ StrsAre wvs' (ws'.map Way.s) ∧ led' = (ul, listOf (uvals' ++ [Value.ref t]).toArray k'') :: je :: (R ++ nw') ∧ (∀ p ∈ nw', p.1 ≠ ul ∧ p.1 ≠ je.1) ∧ (∀ z, xs.contains z = false → m' z = m₀ z)) { s with heap := h₁, toks := tk₁ } Q .next { s with heap := h', toks := tk } := by
  refine ⟨h', tk, m', _, rfl, F, ?_, ?_, t, q', wvs', k'', kk', [(t, tupO [nv, .ref q']), (q', listOf wvs'.toArray kk')], .head _, .tail _ (.head _), hst, rfl, ?_, hm⟩
  · intro p hp
    rcases List.mem_cons.mp hp with rfl | hp
    · exact N _ hI
    · rcases List.mem_cons.mp hp with rfl | hp
      · rw [← eu]; exact N _ hu
      · rcases List.mem_cons.mp hp with rfl | hp
        · exact N _ hje
        · rcases List.mem_append.mp hp with hp | hp
          · exact N _ (hs p hp)
          · rcases List.mem_cons.mp hp with rfl | hp
            · exact N _ ht
            · rw [List.mem_singleton.mp hp]; exact N _ hq
  · intro p hp
    rcases List.mem_cons.mp hp with rfl | hp
    · exact o5
    · rcases List.mem_cons.mp hp with rfl | hp
      · exact p3
      · rcases List.mem_append.mp hp with hp | hp
        · exact r1 p hp
        · rcases List.mem_cons.mp hp with rfl | hp
          · exact o3
          · rw [List.mem_singleton.mp hp]; exact o4
  · intro p hp
    rcases List.mem_cons.mp hp with rfl | hp
    · exact ⟨o1, p1⟩
    · rw [List.mem_singleton.mp hp]; exact ⟨o2, p2⟩
end

def TyPost (jar : Addr) (frz : Led) (K : Known) (ws : List Way) (n : Nat) (H : Heap) (n' : Led) (r : Value) : Prop :=
  ∃ x' y' tx' ty' new a ta ua uvs k t, n' = (jar, jarO x' y' tx' ty') :: new ∧ 0 ≤ x' ∧ 0 ≤ y' ∧ y' < 2147483647 ∧ (∀ p ∈ new, H.get? p.1 = none) ∧ r = .ref a ∧ (a, tupO [.ref ta, .ref ua]) ∈ new ∧
    (ua, listOf uvs.toArray k) ∈ new ∧ TyIn (frz ++ new) (.ref ta) t ∧ UsIn (frz ++ new) uvs (uses K t ws) ∧ t.depth ≤ n

def TypeSpec (w : World) (mean : ExcName → Option Value) (mg mb : Str → Option Value) (n : Nat) : Prop :=
  ∀ {jar : Addr} {x y : Int} {tx ty : Tok} {k : Int} {tk : Tok} {rd kn : Addr} {rvs : List Value} {kr kk : Nat} {ws : List Way} {K : Known} {t0 t1 t2 t3 : Tok}, 0 ≤ x → 0 ≤ y → y < 2147483647 → k = (n : Int) → rd ≠ jar → kn ≠ jar → StrsAre rvs (ws.map Way.s) → ws.length + n < 80 → n ≤ 3 →
    Sp w mean mg mb 162 (n + 7) (8 * (n + 7)) [.ref jar, .int k tk, .ref rd, .ref kn] (fun H => At H [(rd, listOf rvs.toArray kr), (kn, listOf (K.vals t0 t1 t2 t3).toArray kk)]) [(jar, jarO x y tx ty)] (TyPost jar [(rd, listOf rvs.toArray kr), (kn, listOf (K.vals t0 t1 t2 t3).toArray kk)] K ws n)

theorem at_two {H : Heap} {p q : Addr × Obj} (h1 : H.get? p.1 = some p.2) (h2 : H.get? q.1 = some q.2) : At H [p, q] := fun r hr => by
  rcases List.mem_cons.mp hr with rfl | hr
  · exact h1
  · rw [List.mem_singleton.mp hr]; exact h2
theorem at_1 {H : Heap} {a : Addr} {o : Obj} {l : Led} (h : At H ((a, o) :: l)) : H.get? a = some o := h _ (.head _)
theorem at_2 {H : Heap} {a : Addr} {o : Obj} {p : Addr × Obj} {l : Led} (h : At H (p :: (a, o) :: l)) : H.get? a = some o := h _ (.tail _ (.head _))
theorem at_app {H : Heap} {l1 l2 : Led} (h1 : At H l1) (h2 : At H l2) : At H (l1 ++ l2) := fun r hr => (List.mem_append.mp hr).elim (h1 r) (h2 r)
theorem at_news {h₀ h : Heap} {L : Addr} {led l : Led} (N : News h₀ L h led) (hs : ∀ p ∈ l, p ∈ led) : At h l := fun r hr => (N r (hs r hr)).1
theorem at_base {h₀ h : Heap} {L : Addr} {m : Str → Option Value} {l : Led} (F : Fr h₀ L h m) (hz : At h₀ l) : At h l := fun r hr => F.keep _ _ (hz r hr)
theorem ne_two {p q : Addr × Obj} {jar : Addr} (h1 : p.1 ≠ jar) (h2 : q.1 ≠ jar) : ∀ r ∈ [p, q], r.1 ≠ jar := fun r hr => by
  rcases List.mem_cons.mp hr with rfl | hr
  · exact h1
  · rw [List.mem_singleton.mp hr]; exact h2
theorem mem_inl {x : Addr × Obj} {l1 l2 : Led} (h : x ∈ l1) : x ∈ l1 ++ l2 := List.mem_append.mpr (.inl h)
theorem mem_inr {x : Addr × Obj} {l1 l2 : Led} (h : x ∈ l2) : x ∈ l1 ++ l2 := List.mem_append.mpr (.inr h)
theorem uses_small {K : Known} {t : Ty} {ws : List Way} {n : Nat} (hd : t.depth ≤ n) (hn : n ≤ 3) : (uses K t ws).length < 500 := by
  have h1 := uses_length K t ws
  have h2 : 4 ^ (t.depth + 1) ≤ 4 ^ 4 := Nat.pow_le_pow_right (by decide) (by omega)
  omega
theorem uses_near {K : Known} {t : Ty} {ws : List Way} {n : Nat} (hd : t.depth ≤ n) (hb : ws.length + n < 90) : ∀ z ∈ uses K t ws, z.2.length < 100 := fun z hz => by
  have := uses_ways K t ws z hz
  omega
theorem uses_in {K : Known} {r : Nm} {b : Bool} {t : Ty} {ws : List Way} {l : Led} {vs : List Value} (hb : b = true) (h : UsIn l vs ((r, ws) :: uses K t (ws ++ [.inn]))) : UsIn l vs (uses K (.ref r b t) ws) := by subst hb; exact h
theorem uses_co {K : Known} {r : Nm} {b : Bool} {t : Ty} {ws : List Way} {l : Led} {vs : List Value} (hb : b = false) (h : UsIn l vs ((r, ws) :: uses K t (ws ++ [.co]))) : UsIn l vs (uses K (.ref r b t) ws) := by subst hb; exact h
theorem depth_two {a b : Ty} {n : Nat} (h1 : a.depth ≤ n) (h2 : b.depth ≤ n) : Nat.max a.depth b.depth + 1 ≤ n + 1 := Nat.succ_le_succ (Nat.max_le.mpr ⟨h1, h2⟩)
theorem mem_two {v : Value} {a b : Addr} (h : v ∈ [Value.ref a, Value.ref b]) : v = .ref a ∨ v = .ref b := by
  simpa using h

section
variable {w : World} {mean : ExcName → Option Value} {mg mb : Str → Option Value} {n : Nat}
    {dp un : Nat} {gd : Option (List Code)} {cn : Str} {cs : Scope} {a : Addr} {ccd : Value} {cl : List (Str × Addr)} {outer : List Env} {A₀ : Around} {base h₀ : Heap} {L : Addr} {m : Str → Option Value} {s : Shared} {Q E : Value → Shared → Prop} {led rest : Led}
    {jar : Addr} {x y : Int} {tx ty : Tok} {k : Int} {tk : Tok} {rd kn : Addr} {rvs : List Value} {kr kk : Nat} {ws : List Way} {K : Known} {t0 t1 t2 t3 : Tok}
theorem type_call (IH : TypeSpec w mean mg mb n)
    (B : Below A₀ base outer h₀) (F : Fr h₀ L s.heap m) (X : (hd.heap_39 w.params).In h₀) (N : News h₀ L s.heap led) (T : Top hd.view_39 LZ mean mg mb h₀) (hk : cs.kind = .function)
    (hd : dp + (n + 7) < recursionLimit) (hu : un + 8 * (n + 7) < cLine) (hm : (jar, jarO x y tx ty) ∈ led)
    (h1 : s.heap.get? rd = some (listOf rvs.toArray kr)) (h2 : s.heap.get? kn = some (listOf (K.vals t0 t1 t2 t3).toArray kk)) (W : StrsAre rvs (ws.map Way.s)) (hx : 0 ≤ x) (hy : 0 ≤ y) (hy2 : y < 2147483647) (hkn : k = (n : Int)) (e1 : rd ≠ jar) (e2 : kn ≠ jar) (hb : ws.length + n < 80) (hn : n ≤ 3)
    (hr : Rest [jar] led rest)
    (ret : ∀ x' y' tx' ty' nw a ta ua uvs kq t h' tk', Fr h₀ L h' m → News h₀ L h' ((jar, jarO x' y' tx' ty') :: (rest ++ nw)) → 0 ≤ x' → 0 ≤ y' → y' < 2147483647 → (∀ p ∈ nw, p.1 ≠ jar) → (a, tupO [.ref ta, .ref ua]) ∈ nw → (ua, listOf uvs.toArray kq) ∈ nw →
      TyIn ([(rd, listOf rvs.toArray kr), (kn, listOf (K.vals t0 t1 t2 t3).toArray kk)] ++ nw) (.ref ta) t → UsIn ([(rd, listOf rvs.toArray kr), (kn, listOf (K.vals t0 t1 t2 t3).toArray kk)] ++ nw) uvs (uses K t ws) → uvs.length < 500 → t.depth ≤ n → Q (.ref a) { s with heap := h', toks := tk' }) :
    wpAny (model Pg w) (ktrTop dp un gd cn cs L a ccd cl outer) (call (.ref 162) [.ref jar, .int k tk, .ref rd, .ref kn]) Q E s := by
  refine (IH hx hy hy2 hkn e1 e2 W hb hn).use (rest := rest) B F X N T hk hd hu (fun p hp => by rw [List.mem_singleton.mp hp]; exact hm) (at_two h1 h2) hr ?_
  rintro r news' h' tk' F' N' K' ⟨x', y', tx', ty', new, a', ta, ua, uvs, kq, t, rfl, hx', hy', hy2', hf, rfl, m1, m2, hT, hU, hd'⟩
  refine ret x' y' tx' ty' new a' ta ua uvs kq t h' tk' F' (news_sub N' ?_) hx' hy' hy2' (fun p hp e => ?_) m1 m2 hT hU (by rw [hU.length]; exact uses_small hd' hn) hd'
  · intro p hp
    rcases List.mem_cons.mp hp with rfl | hp
    · exact .head _
    · rcases List.mem_append.mp hp with hp | hp
      · exact .tail _ (List.mem_append.mpr (.inr hp))
      · exact .tail _ (List.mem_append.mpr (.inl hp))
  · have := hf p hp
    rw [e, (N _ hm).1] at this; cases this
end

/-- the hashes and marks of a row's own names -/
structure RowK where
  h1 : Int
  h2 : Int
  h3 : Int
  h4 : Int
  t1 : Tok
  t2 : Tok
  t3 : Tok
  t4 : Tok
abbrev rowD (k : RowK) (rl pl tl : Addr) (hc : Bool) : Obj :=
  dictOf [⟨k.h1, .str (Str.ofString "regions") k.t1, .ref rl⟩, ⟨k.h2, .str (Str.ofString "params") k.t2, .ref pl⟩, ⟨k.h3, .str (Str.ofString "told") k.t3, .ref tl⟩, ⟨k.h4, .str (Str.ofString "has_changed") k.t4, .bool hc⟩] 4

/-- told ways, one noted -/
def noteW (ws : List Way) (p : Nat) (a : Way) : List Way := ws.set p ((ws.getD p .bi).max a)

section
variable {prog : Program} {w : World} {A : Around} {E : Value → Shared → Prop} {s : Shared} {h₀ : Heap} {L : Addr} {m : Str → Option Value} {led led' : Led}
theorem setM {D : Addr} {vs : List Value} {n : Nat} {k : Int} {t : Tok} {x : Value} {Q : Unit → Shared → Prop} (F : Fr h₀ L s.heap m) (N : News h₀ L s.heap led) (U : Upd D (listOf vs.toArray n) (listOf (vs.set k.toNat x).toArray n) led led') (h0 : 0 ≤ k) (h1 : k < vs.length) (hz : vs.length < 1000)
    (h : ∀ h', Fr h₀ L h' m → News h₀ L h' led' → Q () { s with heap := h' }) : wpAny (model prog w) A (setItem (.ref D) (.int k t) x) Q E s := by
  obtain ⟨pre, post, rfl, rfl, a, b⟩ := U.split
  have z := N (D, listOf vs.toArray n) (List.mem_append.mpr (.inr (.head _)))
  have hs : vs.toArray.size = vs.length := List.size_toArray ..
  refine ki_setAt z.1 h0 (by omega) (by omega) (h _ (F.change (Heap.SameBut.update ..) z.2.1 z.2.2) (ki_turn _ N a b ?_ ?_))
  · show vs.toArray.setIfInBounds k.toNat x = (vs.set k.toNat x).toArray
    apply Array.toList_inj.mp
    simp
  · simp
theorem itemW {value slice : PySem.Expr} {D : Addr} {vs : List Value} {n : Nat} {ws : List Way} {k : Int} {u : Tok} {Q : Value → Shared → Prop} (N : News h₀ L s.heap led) (hm : (D, listOf vs.toArray n) ∈ led) (hi : StrsAre vs (ws.map Way.s)) (h0 : 0 ≤ k) (h1 : k < ws.length) (hz : ws.length < 1000)
    (h : ∀ t, Q (.str (ws.getD k.toNat .bi).s t) s) (hs : subscripted slice false (.ref D) (.int k u) = operate [.ref D, .int k u] (getItem (.ref D) (.int k u)) := by with_unfolding_all rfl) :
    wpAny (model prog w) A (subscriptTail value slice (.ref D) (.int k u)) Q E s := by
  have key : ∀ {vs : List Value} {ws : List Way}, StrsAre vs (ws.map Way.s) → ∀ i, i < ws.length → ∃ t, vs[i]? = some (.str (ws.getD i .bi).s t) := by
    intro vs ws hi
    induction ws generalizing vs with
    | nil => intro i h; exact absurd h (Nat.not_lt_zero _)
    | cons a r ih =>
      cases hi with
      | cons y t hr =>
        intro i h
        cases i with
        | zero => exact ⟨t, rfl⟩
        | succ i => simpa using ih hr i (Nat.lt_of_succ_lt_succ h)
  obtain ⟨t, e⟩ := key hi k.toNat (by omega)
  exact item_litK (N.isList hm) h0 (by omega) e (h t) hs
end
theorem ways_set {vs : List Value} {ws : List Way} (h : StrsAre vs (ws.map Way.s)) (i : Nat) (a : Way) (t : Tok) : StrsAre (vs.set i (.str a.s t)) ((ws.set i a).map Way.s) := by
  induction ws generalizing vs i with
  | nil => cases h; exact .nil
  | cons b r ih =>
    cases h with
    | cons y t' hr =>
      cases i with
      | zero => exact .cons _ _ hr
      | succ i => exact .cons _ _ (ih hr i)
theorem note_get {ws : List Way} {i : Nat} (h : i < ws.length) (a : Way) : (noteW ws i a).getD i .bi = (ws.getD i .bi).max a := by
  unfold noteW
  simp [List.getD_eq_getElem?_getD, h]
theorem note_same {ws : List Way} {i : Nat} (h : i < ws.length) {a : Way} (e : (((ws.getD i .bi).max a).s != (ws.getD i .bi).s) = false) : noteW ws i a = ws := by
  have e2 : (ws.getD i .bi).max a = ws.getD i .bi := by
    have := way_eq ((ws.getD i .bi).max a) (ws.getD i .bi)
    rw [bne, this] at e
    simpa using e
  unfold noteW
  rw [e2]
  apply List.ext_getElem?
  intro j
  by_cases hj : i = j
  · subst hj; simp [List.getD_eq_getElem?_getD, h]
  · simp [List.getElem?_set, hj]
theorem note_change {ws : List Way} {i : Nat} (h : i < ws.length) {a : Way} (e : (((ws.getD i .bi).max a).s != (ws.getD i .bi).s) = true) : (noteW ws i a != ws) = true := by
  rw [bne_iff_ne]
  intro e2
  have e3 := note_get h a
  rw [e2] at e3
  rw [← e3] at e
  simp at e
/-- the regions of a row's own, and its types -/
inductive RegsV : List Value → List Nm → Prop
  | nil : RegsV [] []
  | one (t : Tok) : RegsV [.str (Str.ofString "'a") t] [.ra]
  | two (t u : Tok) : RegsV [.str (Str.ofString "'a") t, .str (Str.ofString "'b") u] [.ra, .rb]
inductive ParsV : List Value → List Nm → Prop
  | one (t : Tok) : ParsV [.str (Str.ofString "T") t] [.pT]
  | two (t u : Tok) : ParsV [.str (Str.ofString "T") t, .str (Str.ofString "U") u] [.pT, .pU]
def Nm.at (names : List Nm) (x : Nm) : Option Nat := names.findIdx? (· == x)
/-- what a use of a name notes -/
def noteN (names : List Nm) (ws : List Way) (x : Nm) (a : Way) : List Way :=
  match x.at names with
  | some i => noteW ws i a
  | none => ws
theorem noteN_length (names : List Nm) (ws : List Way) (x : Nm) (a : Way) : (noteN names ws x a).length = ws.length := by
  unfold noteN; split <;> simp [noteW]
section
variable {prog : Program} {w : World} {A : Around} {E : Value → Shared → Prop} {s : Shared}
theorem eqBool_strNone {x : Str} {t : Tok} {Q : Bool → Shared → Prop} (h : Q false s) : wpAny (model prog w) A (eqBool (.str x t) .none) Q E s := by
  unfold eqBool
  show wpAny _ _ (if (Value.str x t == Value.none) = true then (rule "eq-bool.same-object" >>= fun _ => pure true) else (richCompare .Eq (.str x t) .none >>= truthOfDropped)) Q E s
  rw [if_neg (by simp)]
  exact wpAny_bind (EqNone.eq_str_none (wpAny_truthy_bool h))
theorem eqBool_strInt {x : Str} {t u : Tok} {k : Int} {Q : Bool → Shared → Prop} (h : Q false s) : wpAny (model prog w) A (eqBool (.str x t) (.int k u)) Q E s := by
  unfold eqBool
  show wpAny _ _ (if (Value.str x t == Value.int k u) = true then (rule "eq-bool.same-object" >>= fun _ => pure true) else (richCompare .Eq (.str x t) (.int k u) >>= truthOfDropped)) Q E s
  rw [if_neg (by simp)]
  exact wpAny_bind (EqMixed.eq_str_int (wpAny_truthy_bool h))
theorem in_strs_other {l : Addr} {vs : List Value} {ys : List Str} {x : Value} {Q : Value → Shared → Prop} (hl : s.heap.IsList l vs.toArray) (hi : StrsAre vs ys) (hx : x = .none ∨ ∃ k t, x = .int k t)
    (h : Q (.bool false) s) : wpAny (model prog w) A (compareOp .In x (.ref l)) Q E s := by
  have key : ∀ {vs : List Value} {ys : List Str}, StrsAre vs ys → ∀ y, y ∈ vs → MeetsSeq.EqGives y x false := by
    intro vs ys hi
    induction hi with
    | nil => intro y hy; cases hy
    | cons a t _ ih =>
      intro y hy
      rcases List.mem_cons.mp hy with rfl | hy
      · rcases hx with rfl | ⟨k, u, rfl⟩
        · exact fun _ _ _ _ _ _ h => eqBool_strNone h
        · exact fun _ _ _ _ _ _ h => eqBool_strInt h
      · exact ih y hy
  exact SeqInW.in_listW (fun _ => false) (fun y hy => key hi y (by simpa using hy)) hl (by
    have e : vs.toArray.any (fun _ => false) = false := by simp
    rw [e]; exact h)
theorem isStrOf_at {k : Str} : ∀ {vs : List Value} {ys : List Str}, StrsAre vs ys → ∀ (j : Nat) (h : j < vs.length) (h' : j < ys.length), isStrOf k vs[j] = (ys[j] == k)
  | _, _, .nil, j, h, _ => absurd h (Nat.not_lt_zero _)
  | _, _, .cons a t r, 0, _, _ => rfl
  | _, _, .cons a t r, j + 1, h, h' => isStrOf_at r j (Nat.lt_of_succ_lt_succ h) (Nat.lt_of_succ_lt_succ h')
theorem index_strs {l : Addr} {vs : List Value} {ys : List Str} {k : Str} {t : Tok} {Q : Value → Shared → Prop} (hl : s.heap.IsList l vs.toArray) (hi : StrsAre vs ys) (j : Nat) (hj : j < ys.length) (he : (ys[j] == k) = true) (hno : ∀ (i : Nat) (h : i < ys.length), i < j → (ys[i] == k) = false) (hz : ys.length < 1000)
    (h : Q (.int j s.toks) { s with toks := s.toks + 1 }) : wpAny (model prog w) A (call (.builtin "list.index") [.ref l, .str k t]) Q E s := by
  obtain ⟨⟨cls, dd, data, sl⟩, ho, hc, n, hd⟩ := id hl
  simp only at hc hd
  subst hc hd
  have hlen := strs_len hi
  refine call_meets PySem.F.slot_list_index ⟨_, ho, rfl⟩ PySem.F.entry_list_index (PySem.F.args_list_index_2 _ _)
    (SeqAt.list_indexAt l vs.toArray n dd sl (.str k t) (isStrOf k) j (by simpa [hlen] using hj) (by omega) ?_ ?_) ⟨ho, fun y hy => (eq_isStrOf k t hi y (by simpa using hy)).at _ _, h⟩
  · show isStrOf k vs[j] = true
    rw [isStrOf_at hi j (by omega) hj]
    exact he
  · intro i his hlt
    show isStrOf k vs[i] = false
    rw [isStrOf_at hi i (by simpa using his) (by omega)]
    exact hno i (by omega) hlt
theorem index_second {l : Addr} {a b : Str} {t u tk : Tok} {Q : Value → Shared → Prop} (hl : s.heap.IsList l [Value.str a t, .str b u].toArray) (hab : (a == b) = false)
    (h : Q (.int ((1 : Nat) : Int) s.toks) { s with toks := s.toks + 1 }) : wpAny (model prog w) A (call (.builtin "list.index") [.ref l, .str b tk]) Q E s :=
  index_strs hl (.cons _ _ (.cons _ _ .nil)) 1 (by simp) (by simp) (fun i h1 h2 => by
    have : i = 0 := by omega
    subst this
    exact hab) (by simp) h
end

/-- the ledger bears places and ways at the items of a list -/
inductive PwIn (l : Led) : List Value → List (Nat × Way) → Prop
  | nil : PwIn l [] []
  | cons {a : Addr} {p : Nat} {x : Way} {tp tx : Tok} {vs : List Value} {ps : List (Nat × Way)} : (a, tupO [.int (p : Int) tp, .str x.s tx]) ∈ l → PwIn l vs ps → PwIn l (.ref a :: vs) ((p, x) :: ps)
theorem PwIn.mono {l l' : Led} {vs : List Value} {ps : List (Nat × Way)} (h : PwIn l vs ps) (hs : ∀ p ∈ l, p ∈ l') : PwIn l' vs ps := by
  induction h with
  | nil => exact .nil
  | cons h1 _ ih => exact .cons (hs _ h1) ih
theorem PwIn.append {l : Led} {vs vs' : List Value} {ps ps' : List (Nat × Way)} (h : PwIn l vs ps) (h' : PwIn l vs' ps') : PwIn l (vs ++ vs') (ps ++ ps') := by
  induction h with
  | nil => exact h'
  | cons h1 _ ih => exact .cons h1 ih
theorem PwIn.length {l : Led} {vs : List Value} {ps : List (Nat × Way)} (h : PwIn l vs ps) : vs.length = ps.length := by
  induction h with
  | nil => rfl
  | cons _ _ ih => simp [ih]
theorem pwIn_get {l : Led} : ∀ {vs : List Value} {ps : List (Nat × Way)}, PwIn l vs ps → ∀ {i : Nat} {v : Value}, vs[i]? = some v → ∃ a p x tp tx, v = .ref a ∧ (a, tupO [.int ((p : Nat) : Int) tp, .str (Way.s x) tx]) ∈ l ∧ ps[i]? = some (p, x)
  | _, _, .nil, i, v, h => by simp at h
  | _, _, .cons h1 r, 0, v, h => by
    have e := Option.some.inj h
    exact ⟨_, _, _, _, _, e.symm, h1, rfl⟩
  | _, _, .cons h1 r, i + 1, v, h => pwIn_get r (i := i) (by simpa using h)
/-- told ways and whether they have changed: one noted at a place -/
def stepW (st : List Way × Bool) (pw : Nat × Way) : List Way × Bool := (noteW st.1 pw.1 pw.2, st.2 || (noteW st.1 pw.1 pw.2 != st.1))
theorem stepW_length (st : List Way × Bool) (pw : Nat × Way) : (stepW st pw).1.length = st.1.length := by simp [stepW, noteW]
theorem stepsW_length (l : List (Nat × Way)) : ∀ (st : List Way × Bool), (l.foldl stepW st).1.length = st.1.length := by
  induction l with
  | nil => intro st; rfl
  | cons a r ih => intro st; rw [List.foldl_cons, ih, stepW_length]
section
variable {prog : Program} {w : World} {A : Around} {E : Value → Shared → Prop} {s : Shared} {env : Env} {h₀ : Heap} {target : Expr} {body : List Stmt} {Q : Flow → Shared → Prop}
def NoteT (row dx rl pl tl : Addr) (rk : RowK) (n : Nat) (rest : Led) (xs : List Str) (m₀ : Str → Option Value) (ws' : List Way) (hc' : Bool) (m' : Str → Option Value) (led' : Led) : Prop :=
  ∃ ts' : List Value, led' = (row, instObj 67 dx) :: (dx, rowD rk rl pl tl hc') :: (tl, listOf ts'.toArray n) :: rest ∧ StrsAre ts' (ws'.map Way.s) ∧ (∀ z, xs.contains z = false → m' z = m₀ z)
def NoteJ (row dx rl pl tl : Addr) (rk : RowK) (n : Nat) (rest : Led) (pws : List (Nat × Way)) (w0 : List Way) (xs : List Str) (m₀ : Str → Option Value) (i : Nat) (m : Str → Option Value) (led : Led) : Prop :=
  ∃ ts : List Value, led = (row, instObj 67 dx) :: (dx, rowD rk rl pl tl ((pws.take i).foldl stepW (w0, false)).2) :: (tl, listOf ts.toArray n) :: rest ∧ StrsAre ts (((pws.take i).foldl stepW (w0, false)).1.map Way.s) ∧ ∀ z, xs.contains z = false → m z = m₀ z
theorem iter_notes {wl row dx rl pl tl : Addr} {rk : RowK} {wvs ts0 : List Value} {pws : List (Nat × Way)} {w0 : List Way} {n : Nat} {frz rest led : Led} {m₀ : Str → Option Value} (xs : List Str)
    (hh : A.handled = none) (hl : h₀.IsList wl wvs.toArray) (F : Fr h₀ env.locals s.heap m₀) (N : News h₀ env.locals s.heap led)
    (e1 : (row, instObj 67 dx) ∈ led) (e2 : (dx, rowD rk rl pl tl false) ∈ led) (e3 : (tl, listOf ts0.toArray n) ∈ led) (hr : ∀ p ∈ rest, p ∈ led)
    (P : PwIn frz wvs pws) (V : StrsAre ts0 (w0.map Way.s)) (hb : ∀ z ∈ pws, z.1 < w0.length)
    (turn : ∀ I it a p x tp tx ts hc ws (u : Str → Option Value) h₁ tk₁, (a, tupO [.int ((p : Nat) : Int) tp, .str (Way.s x) tx]) ∈ frz → p < w0.length → ws.length = w0.length → StrsAre ts (ws.map Way.s) → row ≠ I → dx ≠ I → tl ≠ I → (∀ q ∈ rest, q.1 ≠ I) →
      Fr h₀ env.locals h₁ (fun z => if xs.contains z then u z else m₀ z) → News h₀ env.locals h₁ ((I, it) :: (row, instObj 67 dx) :: (dx, rowD rk rl pl tl hc) :: (tl, listOf ts.toArray n) :: rest) →
      wpAny (model prog w) A (assign target env (.ref a)) (fun _ s₃ => wpAny (model prog w) A (execs body env) (TurnPost h₀ env.locals (I, it)
        (NoteT row dx rl pl tl rk n rest xs m₀ (noteW ws p x) (hc || (noteW ws p x != ws))) { s with heap := h₁, toks := tk₁ } Q) E s₃) E { s with heap := h₁, toks := tk₁ })
    (done : ∀ (ts' : List Value) (u : Str → Option Value) h' tk, StrsAre ts' ((pws.foldl stepW (w0, false)).1.map Way.s) → Fr h₀ env.locals h' (fun z => if xs.contains z then u z else m₀ z) → News h₀ env.locals h' ((row, instObj 67 dx) :: (dx, rowD rk rl pl tl (pws.foldl stepW (w0, false)).2) :: (tl, listOf ts'.toArray n) :: rest) → Q .next { s with heap := h', toks := tk }) :
    wpAny (model prog w) A (pyIter (.ref wl)) (fun it s₂ => TurnsAt prog w A h₀ env target body Q E it s₂) E s := by
  have mapeq : ∀ {m : Str → Option Value}, (∀ z, xs.contains z = false → m z = m₀ z) → m = fun z => if xs.contains z then m z else m₀ z := by
    intro m hm
    funext z
    cases hc : xs.contains z with
    | true => simp
    | false => simp [hm z hc]
  refine iter_base hh hl F (led := (row, instObj 67 dx) :: (dx, rowD rk rl pl tl false) :: (tl, listOf ts0.toArray n) :: rest) (fun p hp => ?_) (NoteJ row dx rl pl tl rk n rest pws w0 xs m₀) ⟨ts0, rfl, V, fun _ _ => rfl⟩ ?_ ?_
  · rcases List.mem_cons.mp hp with rfl | hp
    · exact N _ e1
    · rcases List.mem_cons.mp hp with rfl | hp
      · exact N _ e2
      · rcases List.mem_cons.mp hp with rfl | hp
        · exact N _ e3
        · exact N _ (hr p hp)
  · rintro I it i v m₁ led₁ h₁ tk₁ hv ⟨ts, rfl, V', hm⟩ hlt hoff F₁ N₁
    obtain ⟨a, p, x, tp, tx, rfl, h1, hp⟩ := pwIn_get P hv
    rw [mapeq hm] at F₁
    have et : pws.take (i + 1) = pws.take i ++ [(p, x)] := by simp [List.take_add_one, hp]
    have hmem : (p, x) ∈ pws := List.mem_of_getElem? hp
    refine wpAny_mono (turn I it a p x tp tx ts _ _ m₁ h₁ tk₁ h1 (hb _ hmem) (stepsW_length _ _) V' (hoff _ (.head _)) (hoff _ (.tail _ (.head _))) (hoff _ (.tail _ (.tail _ (.head _)))) (fun q hq => hoff q (.tail _ (.tail _ (.tail _ hq)))) F₁ N₁) (fun _ s₂ h₂ => wpAny_mono h₂ (fun f s₃ g => ?_) fun _ _ e => e) fun _ _ e => e
    have up : TurnEnd h₀ env.locals (I, it) (NoteT row dx rl pl tl rk n rest xs m₀ (stepW ((pws.take i).foldl stepW (w0, false)) (p, x)).1 (stepW ((pws.take i).foldl stepW (w0, false)) (p, x)).2) { s with heap := h₁, toks := tk₁ } s₃ → TurnEnd h₀ env.locals (I, it) (NoteJ row dx rl pl tl rk n rest pws w0 xs m₀ (i + 1)) { s with heap := h₁, toks := tk₁ } s₃ := by
      rintro ⟨h', tk, m', led', e, F', N', ho, ts', rfl, hs', hm'⟩
      refine ⟨h', tk, m', _, e, F', N', ho, ts', ?_, ?_, hm'⟩
      · rw [et, List.foldl_append]; rfl
      · rw [et, List.foldl_append]; exact hs'
    cases f with
    | ret v => exact g
    | brk => exact g
    | next => exact up g
    | cont => exact up g
  · rintro h' tk m' led' F' N' ⟨ts', rfl, V', hm⟩
    rw [P.length, List.take_length] at V' N'
    rw [mapeq hm] at F'
    exact done ts' m' h' tk V' F' N'
theorem notes_end {row dx rl pl tl : Addr} {rk : RowK} {hc : Bool} {I : Addr} {it : Obj} {tk tk₁ : Nat} {m₀ m' : Str → Option Value} {h₁ h' : Heap} {xs : List Str} {ws : List Way} {ts' : List Value} {n : Nat} {rest led : Led}
    (F : Fr h₀ env.locals h' m') (N : News h₀ env.locals h' led) (hI : (I, it) ∈ led) (e1 : (row, instObj 67 dx) ∈ led) (e2 : (dx, rowD rk rl pl tl hc) ∈ led) (e3 : (tl, listOf ts'.toArray n) ∈ led) (hr : ∀ p ∈ rest, p ∈ led)
    (o1 : row ≠ I) (o2 : dx ≠ I) (o3 : tl ≠ I) (o4 : ∀ q ∈ rest, q.1 ≠ I) (hst : StrsAre ts' (ws.map Way.s)) (hm : ∀ z, xs.contains z = false → m' z = m₀ z) :
    TurnPost h₀ env.locals (I, it) (NoteT row dx rl pl tl rk n rest xs m₀ ws hc) { s with heap := h₁, toks := tk₁ } Q .next { s with heap := h', toks := tk } := by
  refine ⟨h', tk, m', _, rfl, F, ?_, ?_, ts', rfl, hst, hm⟩
  · intro p hp
    rcases List.mem_cons.mp hp with rfl | hp
    · exact N _ hI
    · rcases List.mem_cons.mp hp with rfl | hp
      · exact N _ e1
      · rcases List.mem_cons.mp hp with rfl | hp
        · exact N _ e2
        · rcases List.mem_cons.mp hp with rfl | hp
          · exact N _ e3
          · exact N _ (hr p hp)
  · intro p hp
    rcases List.mem_cons.mp hp with rfl | hp
    · exact o1
    · rcases List.mem_cons.mp hp with rfl | hp
      · exact o2
      · rcases List.mem_cons.mp hp with rfl | hp
        · exact o3
        · exact o4 p hp
end
theorem strs_rep (t : Tok) : ∀ n : Nat, StrsAre (List.replicate n (Value.str (Str.ofString "bi") t)) ((List.replicate n Way.bi).map Way.s)
  | 0 => .nil
  | n + 1 => .cons _ _ (strs_rep t n)
theorem fresh0 {H g h' : Heap} {L' : Addr} {led : Led} (k : GSub H g []) (N : News g L' h' led) : ∀ p ∈ led, H.get? p.1 = none := fun p hp => by
  cases e : H.get? p.1 with
  | none => rfl
  | some o =>
    have := k _ _ e List.not_mem_nil
    rw [(N p hp).2.2] at this; cases this

/-- told ways and whether they have changed: one noted at a name -/
def stepN (names : List Nm) (st : List Way × Bool) (u : Nm × Way) : List Way × Bool := (noteN names st.1 u.1 u.2, st.2 || (noteN names st.1 u.1 u.2 != st.1))
theorem stepN_length (names : List Nm) (st : List Way × Bool) (u : Nm × Way) : (stepN names st u).1.length = st.1.length := noteN_length ..
theorem stepsN_length (names : List Nm) (l : List (Nm × Way)) : ∀ (st : List Way × Bool), (l.foldl (stepN names) st).1.length = st.1.length := by
  induction l with
  | nil => intro st; rfl
  | cons a r ih => intro st; rw [List.foldl_cons, ih, stepN_length]
/-- the notes that a walk over a type lays down -/
def marks (K : Known) : Ty → Way → List (Nm × Way)
  | .int, _ => []
  | .oth, _ => []
  | .par x, a => [(x, a)]
  | .ref r b t, a => (r, a) :: marks K t (a.mul (if b then .inn else .co))
  | .box t, a => marks K t a
  | .arr t, a => marks K t a
  | .tup t u, a => marks K t a ++ marks K u a
  | .adt r1 r2 t u, a => (r1, a.mul K.k0) :: (r2, a.mul K.k1) :: (marks K t (a.mul K.k2) ++ marks K u (a.mul K.k3))
theorem max_bi (a : Way) : a.max .bi = a := by cases a <;> rfl
theorem noteW_bi (ws : List Way) (i : Nat) : noteW ws i .bi = ws := by
  unfold noteW
  rw [max_bi]
  apply List.ext_getElem?
  intro j
  by_cases hj : i = j
  · subst hj
    by_cases h : i < ws.length
    · simp [List.getD_eq_getElem?_getD, h]
    · simp [h]
  · simp [List.getElem?_set, hj]
theorem noteN_bi (names : List Nm) (ws : List Way) (x : Nm) : noteN names ws x .bi = ws := by
  unfold noteN
  split
  · exact noteW_bi ..
  · rfl
theorem stepN_bi (names : List Nm) (st : List Way × Bool) (x : Nm) : stepN names st (x, .bi) = st := by
  obtain ⟨ws, hc⟩ := st
  simp [stepN, noteN_bi]
theorem mul_bi (a : Way) : a.mul .bi = .bi := by cases a <;> rfl
theorem bi_mul (a : Way) : Way.mul .bi a = .bi := by cases a <;> rfl
theorem marks_bi (K : Known) (names : List Nm) : ∀ (t : Ty) (st : List Way × Bool), (marks K t .bi).foldl (stepN names) st = st
  | .int, st => rfl
  | .oth, st => rfl
  | .par x, st => by simp [marks, stepN_bi]
  | .ref r b t, st => by rw [marks, List.foldl_cons, stepN_bi, bi_mul, marks_bi]
  | .box t, st => by rw [marks, marks_bi]
  | .arr t, st => by rw [marks, marks_bi]
  | .tup t u, st => by rw [marks, List.foldl_append, marks_bi, marks_bi]
  | .adt r1 r2 t u, st => by rw [marks, List.foldl_cons, List.foldl_cons, List.foldl_append, bi_mul, bi_mul, bi_mul, bi_mul, stepN_bi, stepN_bi, marks_bi, marks_bi]
theorem way_bi {x : Way} (h : (x.s != Str.ofString "bi") = false) : x = .bi := by cases x <;> first | rfl | (exact absurd h (by decide +kernel))
theorem way_bi' {x : Way} (h : (x.s == Str.ofString "bi") = true) : x = .bi := by cases x <;> first | rfl | (exact absurd h (by decide +kernel))

/-- a turn's end: the iterators stand, the rest is as J says -/
def TurnEndN (h₀ : Heap) (L : Addr) (its : Led) (Jn : (Str → Option Value) → Led → Prop) (s₁ s₂ : Shared) : Prop :=
  ∃ h' tk m' led', s₂ = { s₁ with heap := h', toks := tk } ∧ Fr h₀ L h' m' ∧ News h₀ L h' (its ++ led') ∧ (∀ p ∈ led', p.1 ∉ its.map (·.1)) ∧ Jn m' led'
def TurnPostN (h₀ : Heap) (L : Addr) (its : Led) (Jn : (Str → Option Value) → Led → Prop) (s₁ : Shared) (Q : Flow → Shared → Prop) (f : Flow) (s₂ : Shared) : Prop :=
  match f with
  | .ret v => Q (.ret v) s₂
  | .brk => Q .next s₂
  | _ => TurnEndN h₀ L its Jn s₁ s₂
theorem two_of {its : Led} {a b : Addr} (h : its.map (·.1) = [a, b]) : ∃ oa ob, its = [(a, oa), (b, ob)] := by
  cases its with
  | nil => cases h
  | cons p r =>
    cases r with
    | nil => cases h
    | cons q r =>
      cases r with
      | nil =>
        obtain ⟨pa, po⟩ := p
        obtain ⟨qa, qo⟩ := q
        simp only [List.map_cons, List.map_nil, List.cons.injEq, and_true] at h
        obtain ⟨rfl, rfl⟩ := h
        exact ⟨_, _, rfl⟩
      | cons z r => simp at h
section
variable {prog : Program} {w : World} {A : Around} {E : Value → Shared → Prop} {s : Shared} {env : Env} {h₀ : Heap} {target : Expr} {body : List Stmt} {Q : Flow → Shared → Prop}
theorem turns_coreN {I : Addr} {fp wr : List Addr} {n : Nat} {P Md : Nat → Value → Heap → Prop} {St : Nat → Heap → Prop} {m₀ : Str → Option Value} {led : Led} {hp : Heap} {tk0 : Nat}
    (W : KTurns prog w A target I fp wr n P Md St)
    (hobj : ∀ i h, St i h → ∃ its : Led, its.map (·.1) = wr ∧ ∀ p ∈ its, h.get? p.1 = some p.2) (hfp : ∀ b ∈ fp, b ∈ wr ∨ ∃ o, h₀.get? b = some o) (hI : ∀ b ∈ wr, h₀.get? b = none ∧ env.locals ≠ b) (hLf : ∀ o, h₀.get? env.locals ≠ some o)
    (hst : St 0 hp) (F : Fr h₀ env.locals hp m₀) (N : News h₀ env.locals hp led) (hn : ∀ p ∈ led, p.1 ∉ wr)
    (J : Nat → (Str → Option Value) → Led → Prop) (h0 : J 0 m₀ led)
    (step : ∀ (its : Led) i v m₁ led₁ h₁ tk₁, its.map (·.1) = wr → i < n → P i v h₁ → J i m₁ led₁ → (∀ p ∈ led₁, p.1 ∉ wr) → Fr h₀ env.locals h₁ m₁ → News h₀ env.locals h₁ (its ++ led₁) →
      wpAny (model prog w) A (assign target env v) (fun _ s₃ => wpAny (model prog w) A (execs body env) (TurnPostN h₀ env.locals its (J (i + 1)) { s with heap := h₁, toks := tk₁ } Q) E s₃) E { s with heap := h₁, toks := tk₁ })
    (done : ∀ h' tk m' led', Fr h₀ env.locals h' m' → News h₀ env.locals h' led' → J n m' led' → Q .next { s with heap := h', toks := tk }) :
    TurnsAt prog w A h₀ env target body Q E (.ref I) { s with heap := hp, toks := tk0 } := by
  refine ⟨I, fp, wr, n, _, _, St, m₀, led, J, rfl, W, ?_, fun b hb => (hI b hb).1, hn, hst, F, N, h0, ?_, ?_⟩
  · intro hm
    rcases hfp _ hm with e | ⟨o, e⟩
    · exact (hI _ e).2 rfl
    · exact hLf o e
  · intro i v m₁ led₁ h₁ tk₁ own hin hP hJ hoff hown hget hall hst₁ F₁ N₁
    obtain ⟨its, hits, hval⟩ := hobj _ _ hst₁
    have N₂ : News h₀ env.locals h₁ (its ++ led₁) := fun p hp => by
      rcases List.mem_append.mp hp with hp | hp
      · have h1 : p.1 ∈ wr := by rw [← hits]; exact List.mem_map_of_mem hp
        exact N₁ _ (List.mem_append_left _ (hall p.1 (W.sub _ h1) (hI _ h1).1 p.2 (hval p hp)))
      · exact N₁ _ (List.mem_append_right _ hp)
    have fin : ∀ s₃, TurnEndN h₀ env.locals its (J (i + 1)) { s with heap := h₁, toks := tk₁ } s₃ → LoopStepU h₀ env.locals wr own (J (i + 1)) { s with heap := h₁, toks := tk₁ } .next s₃ := by
      rintro s₃ ⟨h', tk, m', led', e, F', N', ho, hJ'⟩
      refine ⟨rfl, h', tk, m', led', e, F', ?_, fun p hp => by rw [← hits]; exact ho p hp, hJ'⟩
      rintro ⟨pa, po⟩ hp
      rcases List.mem_append.mp hp with hp | hp
      · have h2 : h₁.get? pa = some po := hget _ hp
        rcases hfp pa (hown _ hp) with h3 | ⟨o, h3⟩
        · rw [← hits] at h3
          obtain ⟨⟨qa, qo⟩, hq, hqe⟩ := List.mem_map.mp h3
          have hqe' : qa = pa := hqe
          subst hqe'
          have h5 : h₁.get? qa = some qo := hval _ hq
          have h6 : qo = po := Option.some.inj (h5.symm.trans h2)
          subst h6
          exact N' _ (List.mem_append_left _ hq)
        · have h4 : h₀.get? pa = none := (N₁ _ (List.mem_append_left _ hp)).2.2
          rw [h3] at h4; cases h4
      · exact N' _ (List.mem_append_right _ hp)
    refine wpAny_mono (step its i v m₁ led₁ h₁ tk₁ hits hin hP hJ hoff F₁ N₂) (fun _ s₂ h₂ => wpAny_mono h₂ (fun f s₃ p => ?_) fun _ _ e => e) fun _ _ e => e
    cases f with
    | ret v => exact p
    | brk => exact p
    | next => exact fin _ p
    | cont => exact fin _ p
  · intro h' tk m' led' F' N' _ hJ
    exact done h' tk m' led' F' N' hJ

/-- a loop over enumerate(t), t a tuple of the ground -/
theorem iter_enum {elts : List Expr} {k : Nat} {pos : Pos} {l : Addr} {vs : List Value} {m₀ : Str → Option Value} {led : Led} (hh : A.handled = none) (hl : IsTup h₀ l vs.toArray) (F : Fr h₀ env.locals s.heap m₀) (N : News h₀ env.locals s.heap led)
    (J : Nat → (Str → Option Value) → Led → Prop) (h0 : J 0 m₀ led)
    (step : ∀ e it oe oi i T t x m₁ led₁ h₁ tk₁, vs[i]? = some x → IsTup h₁ T [Value.int ((i : Nat) : Int) t, x].toArray → J i m₁ led₁ → (∀ p ∈ led₁, p.1 ≠ e) → (∀ p ∈ led₁, p.1 ≠ it) → Fr h₀ env.locals h₁ m₁ → News h₀ env.locals h₁ ((e, oe) :: (it, oi) :: led₁) →
      wpAny (model prog w) A (assign (.Tuple elts k pos) env (.ref T)) (fun _ s₃ => wpAny (model prog w) A (execs body env) (TurnPostN h₀ env.locals [(e, oe), (it, oi)] (J (i + 1)) { s with heap := h₁, toks := tk₁ } Q) E s₃) E { s with heap := h₁, toks := tk₁ })
    (done : ∀ h' tk m' led', Fr h₀ env.locals h' m' → News h₀ env.locals h' led' → J vs.length m' led' → Q .next { s with heap := h', toks := tk }) :
    wpAny (model prog w) A (call (.type "enumerate") [.ref l]) (fun xv s₁ => wpAny (model prog w) A (pyIter xv) (fun it s₂ => TurnsAt prog w A h₀ env (.Tuple elts k pos) body Q E it s₂) E s₁) E s := by
  have hls : IsTup s.heap l vs.toArray := hl.keeps fun b o e => F.keep b o e
  obtain ⟨ol, hol, hol'⟩ := id hl
  have hlt : l < s.heap.objs.size := Heap.lt_size (F.keep _ _ hol)
  have hne : l ≠ s.heap.objs.size := Nat.ne_of_lt hlt
  have hne1 : l ≠ s.heap.objs.size + 1 := Nat.ne_of_lt (Nat.lt_succ_of_lt hlt)
  have hLs : env.locals < s.heap.objs.size := F.ns.lt
  have hlen : vs.toArray.size = vs.length := by simp
  refine enumT_call hls fun h' hE hI hk => ?_
  refine wpAny_pyIter_enum hE ?_
  have hLn : ∀ o, h₀.get? env.locals ≠ some o := fun o e => absurd (Heap.lt_size e) (Nat.not_lt.mpr F.above)
  have old : ∀ b, s.heap.objs.size ≤ b → h₀.get? b = none := fun b hb => by
    cases e : h₀.get? b with
    | none => rfl
    | some o => exact absurd (Heap.lt_size (F.keep _ _ e)) (Nat.not_lt.mpr hb)
  have W := WalksT.enumerateD (tup_draws (prog := prog) (w := w) (A := A.in1) hh s.heap.objs.size l hne vs.toArray) (s.heap.objs.size + 1) (Nat.succ_ne_self _) (by simp; exact fun e => hne1 e.symm) (by simp)
  rw [hlen] at W
  refine turns_coreN (tk0 := s.toks) (KTurns.ofWalksU W.toU) ?_ ?_ ?_ hLn ?_ (F.keeps hk) (N.grown hk) ?_ J h0 ?_ done
  · rintro i h ⟨⟨old, he⟩, ⟨oi, hoi, _⟩, _⟩
    have he' : ∃ oe, h.get? (s.heap.objs.size + 1) = some oe := ⟨_, he⟩
    obtain ⟨oe, hoe⟩ := he'
    refine ⟨[(s.heap.objs.size + 1, oe), (s.heap.objs.size, oi)], rfl, fun p hp => ?_⟩
    rcases List.mem_cons.mp hp with rfl | hp
    · exact hoe
    · rw [List.mem_singleton.mp hp]; exact hoi
  · intro b hb
    simp only [List.mem_cons, List.not_mem_nil, or_false] at hb ⊢
    rcases hb with rfl | rfl | rfl
    · exact .inl (.inl rfl)
    · exact .inl (.inr rfl)
    · exact .inr ⟨ol, hol⟩
  · intro b hb
    simp only [List.mem_cons, List.not_mem_nil, or_false] at hb
    rcases hb with rfl | rfl
    · exact ⟨old _ (Nat.le_succ _), Nat.ne_of_lt (Nat.lt_succ_of_lt hLs)⟩
    · exact ⟨old _ (Nat.le_refl _), Nat.ne_of_lt hLs⟩
  · exact ⟨⟨_, hE⟩, hI, hls.keeps hk⟩
  · intro p hp hb
    have h1 := Heap.lt_size (N p hp).1
    simp only [List.mem_cons, List.not_mem_nil, or_false] at hb
    rcases hb with e | e
    · exact Nat.ne_of_lt (Nat.lt_succ_of_lt h1) e
    · exact Nat.ne_of_lt h1 e
  · rintro its i v m₁ led₁ h₁ tk₁ hits hin ⟨T, vals, rfl, ⟨t, x, hx, rfl⟩, hT⟩ hJ hoff F₁ N₁
    obtain ⟨oe, oi, rfl⟩ := two_of hits
    refine step _ _ oe oi i T t x m₁ led₁ h₁ tk₁ (by simpa using hx) hT hJ (fun p hp e => hoff p hp (by rw [e]; exact .head _)) (fun p hp e => hoff p hp (by rw [e]; exact .tail _ (.head _))) F₁ N₁
end

section
open PyProof.Rows.LCg
/-- a turn of a comprehension is done: the ledger stands as it stood -/
def CEnd (s : Shared) (h₀ : Heap) (L : Addr) (m : Str → Option Value) (I : Addr) (oI : Obj) (C : Addr) (oC : Obj) (D : Addr) (ys : List Value) (led : Led) (P : List Value → Prop) (ys' : List Value) (s₂ : Shared) : Prop :=
  ∃ h' tk', s₂ = { s with heap := h', toks := tk' } ∧ Fr h₀ L h' m ∧ News h₀ L h' ((I, oI) :: (C, oC) :: (D, lst ys) :: led) ∧ P ys'
section
variable {prog : Program} {w : World} {A : Around} {E : Value → Shared → Prop} {s : Shared} {h₀ : Heap} {L : Addr} {m : Str → Option Value} {env : Env}
/-- a list comprehension over pairs of a made list, with one test, that leaves the ledger as it stands -/
theorem comp_pairs {ct elt iter : Expr} {x x₂ : Str} {px px₂ tp : Pos} {tkk : Nat} {scope : Scope} {cl : List (Str × Addr)} {pos : Pos} {Q : Value → Shared → Prop} {ax : Addr} {its : List Value} {k : Nat} {led : Led}
    (hh : A.handled = none) (hclos : closureFor scope env = pure cl) (hcell : ∀ y ∈ scope.names, y.2 ≠ .cell) (hkind : scope.kind = .function)
    (hnames : ∀ y ∈ scope.names, y.2 = .local → scope.names.lookup y.1 = some .local) (hx : scope.names.lookup x = some .local) (hx₂ : scope.names.lookup x₂ = some .local) (hxx : ¬ x = x₂)
    (hiter : ∀ Q' : Value → Shared → Prop, Q' (.ref ax) s → wpAny (model prog w) A (eval iter env) Q' E s)
    (F : Fr h₀ L s.heap m) (N : News h₀ L s.heap led) (hsrc : (ax, listOf its.toArray k) ∈ led) (hsz : its.length ≤ 10000)
    (V : Nat → Value → Value → Prop) (hpair : ∀ i v, its[i]? = some v → ∃ t a b, v = Value.ref t ∧ (t, tupO [a, b]) ∈ led ∧ V i a b)
    (P : Nat → List Value → Prop) (h0 : P 0 [])
    (turn : ∀ i t a b I oI C oC D m₂ ys h tk (E' : Value → Shared → Prop), its[i]? = some (.ref t) → V i a b → P i ys → NsObj oC m₂ → m₂ x = some a → m₂ x₂ = some b → Fr h₀ L h m → News h₀ L h ((I, oI) :: (C, oC) :: (D, lst ys) :: led) → Off3 I C D led → ((@Ne Nat I C) ∧ (@Ne Nat I D) ∧ (@Ne Nat C D)) →
      wpAny (model prog w) A (isTrue ct (compEnvC scope cl C env) (eval ct (compEnvC scope cl C env))) (fun ok s' => if ok = true then
        wpAny (model prog w) A (eval elt (compEnvC scope cl C env)) (fun y s₂ => CEnd s h₀ L m I oI C oC D ys led (P (i + 1)) (ys ++ [y]) s₂) E' s'
        else CEnd s h₀ L m I oI C oC D ys led (P (i + 1)) ys s') E' { s with heap := h, toks := tk })
    (done : ∀ D ys h tk, P its.length ys → Fr h₀ L h m → News h₀ L h ((D, lst ys) :: led) → Off1 D led → Q (.ref D) { s with heap := h, toks := tk })
    (hs : ∀ x, foldedSetIterable iter env x = pure x := by intro _; rfl) :
    wpAny (model prog w) A (eval (.ListComp elt [⟨.Tuple [.Name x px, .Name x₂ px₂] tkk tp, iter, [ct], 0⟩] scope pos) env) Q E s := by
  rw [eval_ListComp]
  refine wpAny_comprehension_free (use := none) rfl hs hclos hkind hnames (hiter _ ?_)
  have hl : s.heap.IsList ax its.toArray := N.isList hsrc
  have hlt : ax < s.heap.objs.size := Heap.lt_size (N _ hsrc).1
  refine wpAny_pyIter_list hl ?_
  have up : ∀ b o, s.heap.get? b = some o → (s.heap.push { cls := .type "list_iterator", data := .fields #[.ref ax, .int 0 0] }).get? b = some o := fun b o e => Heap.get?_push_of_some _ e
  generalize hI : s.heap.objs.size = I
  have hIlt : I < (s.heap.push { cls := .type "list_iterator", data := .fields #[.ref ax, .int 0 0] }).objs.size := by rw [Heap.size_push, hI]; exact Nat.lt_succ_self _
  have hitI : (s.heap.push { cls := .type "list_iterator", data := .fields #[.ref ax, .int 0 0] }).IsListIter I ax 0 := ⟨_, hI ▸ Heap.get?_push_size _ rfl, rfl, rfl⟩
  have hI₀ : h₀.get? I = none := hI ▸ next_is_new F
  have hIL : L ≠ I := hI ▸ Nat.ne_of_lt F.ns.lt
  have hneI : ax ≠ I := hI ▸ Nat.ne_of_lt hlt
  have offI : ∀ p ∈ led, p.1 ≠ I := fun p hp => hI ▸ Nat.ne_of_lt (Heap.lt_size (N p hp).1)
  have F₁ := F.keeps up
  have N₁ := N.grown up
  generalize s.heap.push { cls := .type "list_iterator", data := .fields #[.ref ax, .int 0 0] } = H₁ at hIlt hitI F₁ N₁
  refine wpAny_newObj_type (wpAny_newFunctionEnv hcell (by intro y hy; simp at hy) (fun h₁ hns₁ hsb₁ => ?_) hkind)
  dsimp only at hns₁ hsb₁ ⊢
  have hacc₀ : (H₁.push { cls := .type "list", dict := none, data := .seq ([] : List Value).toArray }).get? H₁.objs.size = some (lst []) := Heap.get?_push_size _ rfl
  have up₂ : ∀ b o, H₁.get? b = some o → (H₁.push { cls := .type "list", dict := none, data := .seq ([] : List Value).toArray }).get? b = some o := fun b o e => Heap.get?_push_of_some _ e
  have hCz : (H₁.push { cls := .type "list", dict := none, data := .seq ([] : List Value).toArray }).objs.size = H₁.objs.size + 1 := Heap.size_push ..
  generalize H₁.push { cls := .type "list", dict := none, data := .seq ([] : List Value).toArray } = H₂ at hns₁ hsb₁ hacc₀ up₂ hCz ⊢
  generalize hD : H₁.objs.size = D at hacc₀ hCz ⊢
  generalize hC : H₂.objs.size = C at hns₁ hsb₁ hCz ⊢
  have hDC : D ≠ C := by rw [hCz]; exact Nat.ne_of_lt (Nat.lt_succ_self _)
  have below : ∀ b, b < D → b ≠ C ∧ b ≠ D := fun b hb => ⟨by rw [hCz]; exact Nat.ne_of_lt (Nat.lt_succ_of_lt hb), Nat.ne_of_lt hb⟩
  have old : ∀ b o, H₁.get? b = some o → h₁.get? b = some o := fun b o e => hsb₁.extBut b o (below b (hD ▸ Heap.lt_size e)).1 (Heap.get?_push_of_some _ (up₂ b o e))
  have hacc : h₁.get? D = some (lst []) := hsb₁.extBut _ _ hDC (Heap.get?_push_of_some _ hacc₀)
  have fresh₀ : ∀ a, D ≤ a → h₀.get? a = none := fun a ha => by
    cases e : h₀.get? a with
    | none => rfl
    | some o' => exact absurd (Heap.lt_size (F₁.keep a o' e)) (Nat.not_lt.mpr (hD ▸ ha))
  have hD₀ : h₀.get? D = none := fresh₀ _ (Nat.le_refl _)
  have hC₀ : h₀.get? C = none := fresh₀ _ (by rw [hCz]; exact Nat.le_succ _)
  have hLlt : L < D := hD ▸ F₁.ns.lt
  have hDL : D ≠ L := Ne.symm (below L hLlt).2
  have hCL : C ≠ L := Ne.symm (below L hLlt).1
  have hCI : I ≠ C := (below I (hD ▸ hIlt)).1
  have hDI : I ≠ D := (below I (hD ▸ hIlt)).2
  have off₀ : Off3 I C D led := Off3.of fun p hp => ⟨offI p hp, (below _ (hD ▸ Heap.lt_size (N₁ p hp).1)).1, (below _ (hD ▸ Heap.lt_size (N₁ p hp).1)).2⟩
  have off3 := off₀.mem
  have W := Walks.list (prog := prog) (w := w) hh I ax hneI its.toArray
  have hlen : its.toArray.size = its.length := by simp
  have loop : ∀ s₃ : Shared, s₃ = { s with heap := h₁, toks := s.toks + ([] : List (Str × Value)).length } →
      codeAny (model prog w) A (.compLoop (.ListComp elt [⟨.Tuple [.Name x px, .Name x₂ px₂] tkk tp, iter, [ct], 0⟩] scope pos) 0 (.ref I) (.ref D) (compEnvC scope cl C env)) (compPost (model prog w) A E none Q (.ref D) C) s₃ := by
    rintro s₃ rfl
    refine kct_loop
      (fun q s' => ∃ h' tk i ys m', s' = { s with heap := h', toks := tk } ∧ i ≤ its.length ∧ q = its.length + 1 - i ∧ ys.length ≤ i ∧ h'.IsListIter I ax i ∧ Fr h₀ L h' m ∧ h'.Ns C m' ∧ News h₀ L h' ((D, lst ys) :: led) ∧ P i ys) ?_ (its.length + 1)
      ⟨h₁, _, 0, [], _, rfl, Nat.zero_le _, rfl, Nat.le_refl _, ?_, F₁.keeps old, hns₁, fun p hp => ?_, h0⟩
    · rintro q s' ⟨h', tk, i, ys, m', rfl, hi, rfl, hyl, hit', F', hn', N', hP⟩
      have NL : News h₀ L h' led := fun p hp => N' p (.tail _ hp)
      have hl' : h'.IsList ax its.toArray := News.isList NL hsrc
      by_cases hlt' : i < its.length
      · refine W.item i _ _ _ (by rw [hlen]; exact hlt') ⟨hit', hl'⟩ fun v h₂ tk₂ hPv hst₂ hk₂ => ?_
        have hv : its[i]? = some v := by simpa using hPv
        obtain ⟨t, a, b, rfl, hmt, hV⟩ := hpair i v hv
        have N₂ : News h₀ L h₂ ((D, lst ys) :: led) := news_but N' hk₂ fun p hp => by
          rcases List.mem_cons.mp hp with rfl | hp
          · exact Ne.symm hDI
          · exact (off3 p hp).1
        have ht : IsTup h₂ t #[a, b] := ⟨_, (N₂ _ (.tail _ hmt)).1, rfl, _, rfl⟩
        refine letGo_listiter hst₂.1 ?_
        have up₃ : ∀ c o, c ≠ I → h'.get? c = some o → h₂.get? c = some o := fun c o hc e => hk₂ c o (by simpa using hc) e
        refine kcp_assign (env := compEnvC scope cl C env) hh ht (lookup_relabel_local hx) (lookup_relabel_local hx₂) (by simp [compEnvC, relabel, hkind]) (hn'.at' fun o e => up₃ _ o (Ne.symm hCI) e) fun h₄ tk₄ hn₄ hs₄ => ?_
        have up₄ : ∀ c o, c ≠ I → c ≠ C → h'.get? c = some o → h₄.get? c = some o := fun c o h1 h2 e => hs₄ c o h2 (up₃ c o h1 e)
        obtain ⟨oI, heI, hoI⟩ := id hst₂.1
        have heI₄ : h₄.get? I = some oI := hs₄ I _ hCI heI
        obtain ⟨oC, heC, hoC⟩ := ns_obj hn₄
        have F₄ : Fr h₀ L h₄ m := ⟨F'.ns.at' fun o e => up₄ _ o hIL (Ne.symm hCL) e, fun c o e => up₄ c o (fun q => by rw [q, hI₀] at e; cases e) (fun q => by rw [q, hC₀] at e; cases e) (F'.keep c o e), F'.above⟩
        have N₄ : News h₀ L h₄ ((I, oI) :: (C, oC) :: (D, lst ys) :: led) := fun q hq => by
          rcases List.mem_cons.mp hq with rfl | hq
          · exact ⟨heI₄, Ne.symm hIL, hI₀⟩
          · rcases List.mem_cons.mp hq with rfl | hq
            · exact ⟨heC, hCL, hC₀⟩
            · have z := N' q hq
              refine ⟨up₄ _ _ ?_ ?_ z.1, z.2⟩
              · rcases List.mem_cons.mp hq with rfl | hq
                · exact Ne.symm hDI
                · exact (off3 q hq).1
              · rcases List.mem_cons.mp hq with rfl | hq
                · exact hDC
                · exact (off3 q hq).2.1
        have fin : ∀ (ys' : List Value) (h₅ : Heap) (tk₅ : Nat), ys'.length ≤ i + 1 → Fr h₀ L h₅ m → News h₀ L h₅ ((I, oI) :: (C, oC) :: (D, lst ys') :: led) → P (i + 1) ys' →
            ∃ q', q' < its.length + 1 - i ∧ ∃ h' tk i ys m', ({ s with heap := h₅, toks := tk₅ } : Shared) = { s with heap := h', toks := tk } ∧ i ≤ its.length ∧ q' = its.length + 1 - i ∧ ys.length ≤ i ∧ h'.IsListIter I ax i ∧ Fr h₀ L h' m ∧ h'.Ns C m' ∧ News h₀ L h' ((D, lst ys) :: led) ∧ P i ys := by
          intro ys' h₅ tk₅ hl₅ F₅ N₅ P₅
          have zI := (N₅ (I, oI) (.head _)).1
          have zC := (N₅ (C, oC) (.tail _ (.head _))).1
          exact ⟨its.length + 1 - (i + 1), by omega, h₅, tk₅, i + 1, ys', _, rfl, hlt', rfl, hl₅, ⟨oI, zI, hoI⟩, F₅, hoC.ns zC, fun q hq => N₅ q (.tail _ (.tail _ hq)), P₅⟩
        refine wpAny_mono (turn i t a b I oI C oC D _ ys h₄ tk₄ _ hv hV hP hoC (by simp [hxx]) (by simp) F₄ N₄ off₀ ⟨hCI, hDI, Ne.symm hDC⟩) (fun okb s₅ h₅ => ?_) fun _ _ e => e
        cases okb with
        | false =>
          simp only [Bool.false_eq_true, if_false] at h₅ ⊢
          obtain ⟨h₅, tk₅, rfl, F₅, N₅, P₅⟩ := h₅
          exact fin ys h₅ tk₅ (Nat.le_succ_of_le hyl) F₅ N₅ P₅
        | true =>
          simp only [if_true] at h₅ ⊢
          refine wpAny_mono h₅ (fun y s₆ h₆ => ?_) fun _ _ e => e
          obtain ⟨h₅, tk₅, rfl, F₅, N₅, P₅⟩ := h₆
          have zI := (N₅ (I, oI) (.head _)).1
          have zC := (N₅ (C, oC) (.tail _ (.head _))).1
          have zD := (N₅ (D, lst ys) (.tail _ (.tail _ (.head _)))).1
          refine append_at (hsz := by show ys.toArray.size ≤ sizeLine; rw [List.size_toArray, sizeLine_eq]; omega) zD fun h₆ hs₆ hD₆ => ?_
          refine fin (ys ++ [y]) h₆ _ (by rw [List.length_append, List.length_singleton]; exact Nat.succ_le_succ hyl) (F₅.change hs₆ hDL hD₀) (fun q hq => ?_) P₅
          rcases List.mem_cons.mp hq with rfl | hq
          · exact ⟨hs₆.extBut I oI hDI zI, Ne.symm hIL, hI₀⟩
          rcases List.mem_cons.mp hq with rfl | hq
          · exact ⟨hs₆.extBut _ oC (Ne.symm hDC) zC, hCL, hC₀⟩
          rcases List.mem_cons.mp hq with rfl | hq
          · exact ⟨hD₆.trans (congrArg some (lst_snoc ys y)), hDL, hD₀⟩
          · exact ⟨hs₆.extBut _ _ (off3 q hq).2.2 (N₅ q (.tail _ (.tail _ (.tail _ hq)))).1, (N₅ q (.tail _ (.tail _ (.tail _ hq)))).2⟩
      · have hin : i = its.length := Nat.le_antisymm hi (Nat.not_lt.mp hlt')
        subst hin
        refine W.done _ _ _ ⟨by rw [hlen]; exact hit', hl'⟩ fun h₂ tk₂ hk₂ => ?_
        have F₂ := fr_but F' hk₂ hIL hI₀
        have N₂ : News h₀ L h₂ ((D, lst ys) :: led) := news_but N' hk₂ fun p hp => by
          rcases List.mem_cons.mp hp with rfl | hp
          · exact Ne.symm hDI
          · exact (off3 p hp).1
        have hn₂ : h₂.Ns C m' := hn'.at' fun o e => hk₂ _ o (by simpa using Ne.symm hCI) e
        refine ⟨m', hn₂, fun h'' hs'' => done D ys h'' tk₂ hP (F₂.change hs'' hCL hC₀) (fun p hp => ?_) off₀.one⟩
        refine ⟨hs''.extBut _ _ ?_ (N₂ p hp).1, (N₂ p hp).2⟩
        rcases List.mem_cons.mp hp with rfl | hp
        · exact hDC
        · exact (off3 p hp).2.1
    · obtain ⟨oI, heI, hoI⟩ := hitI
      exact ⟨oI, old _ _ heI, hoI⟩
    · rcases List.mem_cons.mp hp with rfl | hp
      · exact ⟨hacc, hDL, hD₀⟩
      · exact ⟨old _ _ (N₁ p hp).1, (N₁ p hp).2⟩
  have hst₁ : h₁.IsListIter I ax 0 ∧ h₁.IsList ax its.toArray := by
    obtain ⟨oI, heI, hoI⟩ := hitI
    have NL : News h₀ L h₁ led := fun p hp => ⟨old _ _ (N₁ p hp).1, (N₁ p hp).2⟩
    exact ⟨⟨oI, old _ _ heI, hoI⟩, News.isList NL hsrc⟩
  exact codeAny_compStart_list (loop _ rfl) (W.self 0 _ _ _ hst₁ (loop _ rfl))
end
end

section
open PyProof.Rows.LCg
theorem off1_mk {a : Addr} : ∀ {l : Led}, (∀ p ∈ l, p.1 ≠ a) → Off1 a l
  | [], _ => trivial
  | _ :: _, h => ⟨h _ (.head _), off1_mk fun p hp => h p (.tail _ hp)⟩
/-- the frame of a block one of whose names is a cell -/
theorem env_cell {M : Model} {A : Around} {E : Value → Shared → Prop} {s : Shared} {scope : Scope} {globals : Addr} {cl : List (Str × Addr)} {qual : Str} {env : Env} {x d g f : Str} {Q : Env → Shared → Prop}
    (hn : scope.names = [(d, .local), (x, .cell), (g, .globalImplicit), (f, .free)])
    (h : ∀ h', h'.get? s.heap.objs.size = some { cls := .type "dict", data := .dict #[] } → h'.get? (s.heap.objs.size + 1) = some { cls := .type "cell", data := .cell none } → (∀ b o, s.heap.get? b = some o → h'.get? b = some o) →
      Q { scope := scope, locals := s.heap.objs.size, globals := globals, cells := (x, s.heap.objs.size + 1) :: cl, qual := qual, func := none, code := env.code, frame := env.frame, builtins := env.builtins } { s with heap := h' }) :
    wpAny M A (newFunctionEnv scope globals cl [] qual none .none (some env)) Q E s := by
  simp only [newFunctionEnv, hn, Option.isSome_some, if_true]
  refine wpAny_bind (wpAny_alloc ?_)
  simp only [List.forIn_cons, List.forIn_nil, beq_self_eq_true, if_true, pure_bind, bind_assoc, show (NameKind.local == NameKind.cell) = false from rfl, show (NameKind.globalImplicit == NameKind.cell) = false from rfl, show (NameKind.free == NameKind.cell) = false from rfl, Bool.false_eq_true, if_false]
  refine wpAny_bind (wpAny_alloc ?_)
  have z : (s.heap.push { cls := .type "dict", data := .dict #[] }).objs.size = s.heap.objs.size + 1 := Heap.size_push ..
  refine wpAny_pure ?_
  show Q _ _
  rw [show ({ s with heap := s.heap.push { cls := .type "dict", data := .dict #[] } } : Shared).heap.objs.size = s.heap.objs.size + 1 from z]
  refine h _ (Heap.get?_push_of_some _ (Heap.get?_push_size _ rfl)) ?_ fun b o e => Heap.get?_push_of_some _ (Heap.get?_push_of_some _ e)
  rw [← z]; exact Heap.get?_push_size _ rfl
section
variable {prog : Program} {w : World} {A : Around} {E : Value → Shared → Prop} {s : Shared} {h₀ : Heap} {L : Addr} {m : Str → Option Value} {env : Env}
def CellSrc (s : Shared) (h₀ : Heap) (L : Addr) (m : Str → Option Value) (led : Led) (n : Nat) (xv : Value) (s₁ : Shared) : Prop :=
  ∃ r t u v h tk, xv = .ref r ∧ s₁ = { s with heap := h, toks := tk } ∧ Fr h₀ L h m ∧ News h₀ L h led ∧ IsRange h r 0 (n : Int) 1 t u v
def CellEnd (s : Shared) (h₀ : Heap) (L : Addr) (m : Str → Option Value) (four : Led) (led : Led) (P : List Value → Prop) (ys' : List Value) (s₂ : Shared) : Prop :=
  ∃ h' tk', s₂ = { s with heap := h', toks := tk' } ∧ Fr h₀ L h' m ∧ News h₀ L h' (four ++ led) ∧ P ys'
/-- a list comprehension over a range whose name is a cell: the ledger stands as it stood -/
theorem comp_cell {elt iter : Expr} {x y d g f : Str} {px py : Pos} {scope : Scope} {cl : List (Str × Addr)} {pos spos : Pos} {Q : Flow → Shared → Prop} {n : Nat} {led : Led}
    (F₀ : Fr h₀ L s.heap m) (N₀ : News h₀ L s.heap led) (hh : A.handled = none) (hLe : env.locals = L) (hsw : swapsWith (.ListComp elt [⟨.Name x px, iter, [], 0⟩] scope pos) (some (.Name y py)) spos.line env = pure true)
    (hclos : closureFor scope env = pure cl) (hn : scope.names = [(d, .local), (x, .cell), (g, .globalImplicit), (f, .free)]) (hkind : scope.kind = .function)
    (hnames : ∀ z ∈ scope.names, z.2 = .local → scope.names.lookup z.1 = some .local) (hx : (relabel scope env).names.lookup x = some .cell) (hrk : (relabel scope env).kind = .function)
    (hy : env.kindOf y = some .local) (hp : (env.scope.kind == .class || (env.scope.kind == .module && env.locals != env.globals)) = false) (hsz : n ≤ 10000)
    (h : wpAny (model prog w) A (eval iter env) (CellSrc s h₀ L m led n) E s) (P : Nat → List Value → Prop) (h0 : P 0 [])
    (turn : ∀ i I oI C oC c oc D ys h tk t (E' : Value → Shared → Prop), i < n → P i ys → oc.data = .cell (some (.int ((i : Nat) : Int) t)) → Fr h₀ L h m → News h₀ L h ([(I, oI), (C, oC), (c, oc), (D, lst ys)] ++ led) → Off3 I C D led → Off1 c led → ((@Ne Nat I C) ∧ (@Ne Nat I D) ∧ (@Ne Nat C D) ∧ (@Ne Nat I c) ∧ (@Ne Nat C c) ∧ (@Ne Nat D c)) →
      wpAny (model prog w) A (eval elt (compEnvC scope ((x, c) :: cl) C env)) (fun y s₂ => CellEnd s h₀ L m [(I, oI), (C, oC), (c, oc), (D, lst ys)] led (P (i + 1)) (ys ++ [y]) s₂) E' { s with heap := h, toks := tk })
    (done : ∀ D ys h tk, P n ys → Fr h₀ L h (fun z => if z = y then some (.ref D) else m z) → News h₀ L h ((D, lst ys) :: led) → Off1 D led → Q .next { s with heap := h, toks := tk })
    (hs : ∀ x, foldedSetIterable iter env x = pure x := by intro _; rfl) :
    wpAny (model prog w) A (exec (.Assign [.Name y py] (.ListComp elt [⟨.Name x px, iter, [], 0⟩] scope pos) spos) env) Q E s := by
  subst hLe
  rw [exec_Assign_Name_used _ _ _ _ hsw]
  refine wpAny_bind (wpAny_standAt (wpAny_bind ?_))
  show wpAny _ A (do let _ ← comprehension (.ListComp elt [⟨.Name x px, iter, [], 0⟩] scope pos) scope env _ (newList []) false (eval iter env) (some (assign (.Name y py) env))) _ _ s
  refine wpAny_bind (wpAny_mono (wpAny_comprehension_free (use := some (assign (.Name y py) env)) (Q := fun _ s' => Q .next s') rfl hs hclos hkind hnames
    (wpAny_mono h (fun xv s₁ h₁ => ?_) fun _ _ e => e)) (fun _ s' hq => wpAny_pure (wpAny_pure hq)) fun _ _ e => e)
  obtain ⟨r, rt, ru, rv, H₀, tk₀, rfl, rfl, F, N, hr⟩ := h₁
  refine wpAny_pyIter_range hr (small_one (by omega) (by omega) (by omega) (by omega)) ?_
  rw [show Builtin.Range.rangeSize 0 (n : Int) 1 = (n : Int) from rangeSize_nat _ _]
  dsimp only
  have hitI : (H₀.push { cls := .type "range_iterator", data := .fields #[rawInt 0, rawInt (n : Int), rawInt 1] }).get? H₀.objs.size = some { cls := .type "range_iterator", data := .fields #[rawInt 0, rawInt (n : Int), rawInt 1] } := Heap.get?_push_size _ rfl
  have F₁ := F.keeps fun b o e => Heap.get?_push_of_some { cls := .type "range_iterator", data := .fields #[rawInt 0, rawInt (n : Int), rawInt 1] } e
  have N₁ := N.grown fun b o e => Heap.get?_push_of_some { cls := .type "range_iterator", data := .fields #[rawInt 0, rawInt (n : Int), rawInt 1] } e
  have hI₀ : h₀.get? H₀.objs.size = none := next_is_new F
  have hIL : env.locals ≠ H₀.objs.size := Nat.ne_of_lt F.ns.lt
  have offI : ∀ p ∈ led, p.1 ≠ H₀.objs.size := fun p hp => Nat.ne_of_lt (Heap.lt_size (N p hp).1)
  have hIlt : H₀.objs.size < (H₀.push { cls := .type "range_iterator", data := .fields #[rawInt 0, rawInt (n : Int), rawInt 1] }).objs.size := by rw [Heap.size_push]; exact Nat.lt_succ_self _
  generalize H₀.push { cls := .type "range_iterator", data := .fields #[rawInt 0, rawInt (n : Int), rawInt 1] } = H₁ at hitI F₁ N₁ hIlt ⊢
  generalize H₀.objs.size = I at hitI hI₀ hIL offI hIlt ⊢
  refine wpAny_newObj_type (env_cell hn fun h₁ hC₁ hc₁ old₁ => ?_)
  dsimp only at hC₁ hc₁ old₁ ⊢
  have hacc₀ : (H₁.push { cls := .type "list", dict := none, data := .seq ([] : List Value).toArray }).get? H₁.objs.size = some (lst []) := Heap.get?_push_size _ rfl
  have up₂ : ∀ b o, H₁.get? b = some o → (H₁.push { cls := .type "list", dict := none, data := .seq ([] : List Value).toArray }).get? b = some o := fun b o e => Heap.get?_push_of_some _ e
  have hCz : (H₁.push { cls := .type "list", dict := none, data := .seq ([] : List Value).toArray }).objs.size = H₁.objs.size + 1 := Heap.size_push ..
  generalize H₁.push { cls := .type "list", dict := none, data := .seq ([] : List Value).toArray } = H₂ at hC₁ hc₁ old₁ hacc₀ up₂ hCz ⊢
  generalize hD : H₁.objs.size = D at hacc₀ hCz ⊢
  generalize hC : H₂.objs.size = C at hC₁ hc₁ hCz ⊢
  have hDC : D < C := by rw [hCz]; exact Nat.lt_succ_self _
  have below : ∀ b, b < D → b ≠ C ∧ b ≠ D ∧ b ≠ C + 1 := fun b hb => ⟨Nat.ne_of_lt (Nat.lt_trans hb hDC), Nat.ne_of_lt hb, Nat.ne_of_lt (Nat.lt_succ_of_lt (Nat.lt_trans hb hDC))⟩
  have old : ∀ b o, H₁.get? b = some o → h₁.get? b = some o := fun b o e => old₁ b o (up₂ b o e)
  have hacc : h₁.get? D = some (lst []) := old₁ _ _ hacc₀
  have fresh₀ : ∀ a, D ≤ a → h₀.get? a = none := fun a ha => by
    cases e : h₀.get? a with
    | none => rfl
    | some o' => exact absurd (Heap.lt_size (F₁.keep a o' e)) (Nat.not_lt.mpr (hD ▸ ha))
  have hD₀ : h₀.get? D = none := fresh₀ _ (Nat.le_refl _)
  have hC₀ : h₀.get? C = none := fresh₀ _ (Nat.le_of_lt hDC)
  have hc₀ : h₀.get? (C + 1) = none := fresh₀ _ (Nat.le_succ_of_le (Nat.le_of_lt hDC))
  have hLlt : env.locals < D := hD ▸ F₁.ns.lt
  have hDL : D ≠ env.locals := Ne.symm (below _ hLlt).2.1
  have hCL : C ≠ env.locals := Ne.symm (below _ hLlt).1
  have hcL : C + 1 ≠ env.locals := Ne.symm (below _ hLlt).2.2
  have hIltD : I < D := hD ▸ hIlt
  have hCI : I ≠ C := (below I hIltD).1
  have hDI : I ≠ D := (below I hIltD).2.1
  have hcI : I ≠ C + 1 := (below I hIltD).2.2
  have hcC : C ≠ C + 1 := Nat.ne_of_lt (Nat.lt_succ_self _)
  have hcD : D ≠ C + 1 := Nat.ne_of_lt (Nat.lt_succ_of_lt hDC)
  have hltD : ∀ p ∈ led, p.1 < D := fun p hp => hD ▸ Heap.lt_size (N₁ p hp).1
  have off₀ : Off3 I C D led := Off3.of fun p hp => ⟨offI p hp, (below _ (hltD p hp)).1, (below _ (hltD p hp)).2.1⟩
  have off₁ : ∀ p ∈ led, p.1 ≠ C + 1 := fun p hp => (below _ (hltD p hp)).2.2
  have off₁' : Off1 (C + 1) led := off1_mk off₁
  have off3 := off₀.mem
  generalize hc : C + 1 = c at hc₁ hc₀ hcL hcI hcC hcD off₁ off₁' ⊢
  have W := range_walks (prog := prog) (w := w) (I := I) hh 0 n
  have hCns : ∀ {h' : Heap} {o}, h'.get? C = some o → o = ({ cls := .type "dict", data := .dict #[] } : Obj) → h'.Ns C fun _ => none := by
    rintro h' o e rfl
    exact ⟨_, #[], _, e, rfl, (fun e' he => by simp at he), fun _ => rfl⟩
  have loop : ∀ s₃ : Shared, s₃ = { s with heap := h₁, toks := tk₀ } →
      codeAny (model prog w) A (.compLoop (.ListComp elt [⟨.Name x px, iter, [], 0⟩] scope pos) 0 (.ref I) (.ref D) (compEnvC scope ((x, c) :: cl) C env)) (compPost (model prog w) A E (some (assign (.Name y py) env)) (fun _ s' => Q .next s') (.ref D) C) s₃ := by
    rintro s₃ rfl
    refine codeAny_compLoop_tests
      (fun q s' => ∃ h' tk i ys v₀, s' = { s with heap := h', toks := tk } ∧ i ≤ n ∧ q = n + 1 - i ∧ ys.length = i ∧ IsRangeIter h' I (0 + (i : Nat) * 1) ((n : Int) - (i : Nat)) 1 ∧ Fr h₀ env.locals h' m ∧ (∃ oc, h'.get? c = some oc ∧ oc.data = .cell v₀) ∧ News h₀ env.locals h' ((C, { cls := .type "dict", data := .dict #[] }) :: (D, lst ys) :: led) ∧ P i ys) ?_ (n + 1)
      ⟨h₁, _, 0, [], _, rfl, Nat.zero_le _, rfl, rfl, ?_, F₁.keeps old, ⟨_, hc₁, rfl⟩, fun p hp => ?_, h0⟩
    · rintro q s' ⟨h', tk, i, ys, v₀, rfl, hi, rfl, hyl, hit', F', ⟨oc, hoc, hod⟩, N', hP⟩
      by_cases hlt' : i < n
      · refine W.item i _ _ _ hlt' hit' fun v h₂ tk₂ hPv hst₂ hk₂ => ?_
        obtain ⟨t, rfl⟩ := hPv
        have up₃ : ∀ b o, b ≠ I → h'.get? b = some o → h₂.get? b = some o := fun b o hb e => hk₂ b o (by simpa using hb) e
        refine wpAny_assign_Name (wpAny_storeName_cell (c := c) (v₀ := v₀) hrk hx (by simp [compEnvC]) ⟨oc, up₃ _ _ (Ne.symm hcI) hoc, hod⟩ fun h₄ hc₄ hs₄ => ?_)
        refine wpAny_tests_nil ?_
        simp only [if_true]
        obtain ⟨oc', hoc', hod'⟩ := hc₄
        have up₄ : ∀ b o, b ≠ I → b ≠ c → h'.get? b = some o → h₄.get? b = some o := fun b o h1 h2 e => hs₄.extBut b o h2 (up₃ b o h1 e)
        have hst₂' : h₂.get? I = some _ := hst₂
        have heI₄ : h₄.get? I = some _ := hs₄.extBut I _ hcI hst₂'
        have F₄ : Fr h₀ env.locals h₄ m := ⟨F'.ns.at' fun o e => up₄ _ o hIL (Ne.symm hcL) e, fun b o e => up₄ b o (fun q => by rw [q, hI₀] at e; cases e) (fun q => by rw [q, hc₀] at e; cases e) (F'.keep b o e), F'.above⟩
        have N₄ : ∀ oI, h₄.get? I = some oI → News h₀ env.locals h₄ ([(I, oI), (C, { cls := .type "dict", data := .dict #[] }), (c, oc'), (D, lst ys)] ++ led) := fun oI hoI p hp => by
          rcases List.mem_cons.mp hp with rfl | hp
          · exact ⟨hoI, Ne.symm hIL, hI₀⟩
          rcases List.mem_cons.mp hp with rfl | hp
          · have z := N' _ (.head _)
            exact ⟨up₄ _ _ (Ne.symm hCI) hcC z.1, z.2⟩
          rcases List.mem_cons.mp hp with rfl | hp
          · exact ⟨hoc', hcL, hc₀⟩
          rcases List.mem_cons.mp hp with rfl | hp
          · have z := N' _ (.tail _ (.head _))
            exact ⟨up₄ _ _ (Ne.symm hDI) hcD z.1, z.2⟩
          · have z := N' _ (.tail _ (.tail _ hp))
            exact ⟨up₄ _ _ (off3 _ hp).1 (off₁ _ hp) z.1, z.2⟩
        refine wpAny_mono (turn i I _ C _ c oc' D ys h₄ tk₂ t _ hlt' hP (by rw [hod', show (0 : Int) + (i : Int) = (i : Int) from Int.zero_add _]) F₄ (N₄ _ heI₄) off₀ off₁' ⟨hCI, hDI, Ne.symm (Nat.ne_of_lt hDC), hcI, hcC, hcD⟩) (fun z s₆ h₆ => ?_) fun _ _ e => e
        obtain ⟨h₅, tk₅, rfl, F₅, N₅, P₅⟩ := h₆
        have zI := (N₅ _ (.head _)).1
        have zc := (N₅ (c, oc') (.tail _ (.tail _ (.head _)))).1
        have zD := (N₅ (D, lst ys) (.tail _ (.tail _ (.tail _ (.head _))))).1
        refine append_at (hsz := by show ys.toArray.size ≤ sizeLine; rw [List.size_toArray, sizeLine_eq]; omega) zD fun h₆ hs₆ hD₆ => ?_
        refine ⟨n + 1 - (i + 1), by omega, h₆, tk₅, i + 1, ys ++ [z], _, rfl, hlt', rfl, by rw [List.length_append, List.length_singleton, hyl], hs₆.extBut I _ hDI zI, F₅.change hs₆ hDL hD₀, ⟨oc', hs₆.extBut c oc' (Ne.symm hcD) zc, hod'⟩, fun p hp => ?_, P₅⟩
        rcases List.mem_cons.mp hp with rfl | hp
        · have z' := N₅ _ (.tail _ (.head _))
          exact ⟨hs₆.extBut _ _ (Ne.symm (Nat.ne_of_lt hDC)) z'.1, z'.2⟩
        rcases List.mem_cons.mp hp with rfl | hp
        · exact ⟨hD₆.trans (congrArg some (lst_snoc ys z)), hDL, hD₀⟩
        · have z' := N₅ p (.tail _ (.tail _ (.tail _ (.tail _ hp))))
          exact ⟨hs₆.extBut _ _ (off3 _ hp).2.2 z'.1, z'.2⟩
      · have hin : i = n := Nat.le_antisymm hi (Nat.not_lt.mp hlt')
        subst hin
        refine W.done _ _ _ hit' fun h₂ tk₂ hk₂ => ?_
        have F₂ := fr_but F' hk₂ hIL hI₀
        have N₂ : News h₀ env.locals h₂ ((C, { cls := .type "dict", data := .dict #[] }) :: (D, lst ys) :: led) := news_but N' hk₂ fun p hp => by
          rcases List.mem_cons.mp hp with rfl | hp
          · exact Ne.symm hCI
          rcases List.mem_cons.mp hp with rfl | hp
          · exact Ne.symm hDI
          · exact (off3 p hp).1
        show wpAny _ A (assign (.Name y py) env (.ref D)) _ _ _
        refine wpAny_assign_Name (wpAny_storeName_local hy F₂.ns (fun h₅ hn₅ hs₅ => ?_) hp)
        have hL₀ : h₀.get? env.locals = none := Heap.get?_none_of_le F₂.above
        have F₅ : Fr h₀ env.locals h₅ (fun z => if z = y then some (.ref D) else m z) := ⟨hn₅, fun b o e => hs₅.extBut b o (fun q => by rw [q, hL₀] at e; cases e) (F₂.keep b o e), F₂.above⟩
        have N₅ : News h₀ env.locals h₅ ((C, { cls := .type "dict", data := .dict #[] }) :: (D, lst ys) :: led) := fun p hp => ⟨hs₅.extBut _ _ (N₂ p hp).2.1 (N₂ p hp).1, (N₂ p hp).2⟩
        refine ⟨_, hCns (N₅ _ (.head _)).1 rfl, fun h'' hs'' => done D ys h'' _ hP (F₅.change hs'' hCL hC₀) (fun p hp => ?_) off₀.one⟩
        have z' := N₅ p (.tail _ hp)
        refine ⟨hs''.extBut _ _ ?_ z'.1, z'.2⟩
        rcases List.mem_cons.mp hp with rfl | hp
        · exact Nat.ne_of_lt hDC
        · exact (off3 p hp).2.1
    · show h₁.get? I = some _
      have := old _ _ hitI
      simpa [rawInt] using this
    · rcases List.mem_cons.mp hp with rfl | hp
      · exact ⟨hC₁, hCL, hC₀⟩
      rcases List.mem_cons.mp hp with rfl | hp
      · exact ⟨hacc, hDL, hD₀⟩
      · exact ⟨old _ _ (N₁ p hp).1, (N₁ p hp).2⟩
  have hst₁ : IsRangeIter h₁ I (0 + ((0 : Nat) : Int) * 1) ((n : Int) - ((0 : Nat) : Int)) 1 := by
    show h₁.get? I = some _
    have := old _ _ hitI
    simpa [rawInt] using this
  exact codeAny_compStart_list (loop _ rfl) (W.self 0 _ _ _ hst₁ (loop _ rfl))
end
end

/-- one list behind another, not to be worked out -/
def Cat (a b : Led) : Led := a ++ b
section
open PyProof.Rows.LCg
section
variable {prog : Program} {w : World} {A : Around} {E : Value → Shared → Prop} {s : Shared} {h₀ : Heap} {L : Addr} {m : Str → Option Value} {env : Env}
theorem comp_from {elt : Expr} {x : Str} {scope : Scope} {cl : List (Str × Addr)} {S : Led → Prop} {P : Nat → Value → Prop} {Fin : List Value → Led → Prop} {n : Nat} (J : Nat → List Value → Led → Prop)
    (turn : ∀ i v I oI C oC D m₂ ys led h tk (E' : Value → Shared → Prop), i < n → P i v → J i ys led → NsObj oC m₂ → m₂ x = some v → Fr h₀ L h m → News h₀ L h ((I, oI) :: (C, oC) :: (D, lst ys) :: led) → Off3 I C D led → ((@Ne Nat I C) ∧ (@Ne Nat I D) ∧ (@Ne Nat C D)) →
      wpAny (model prog w) A (eval elt (compEnvC scope cl C env)) (CompEnd h₀ L m { s with heap := h, toks := tk } I oI C oC D (lst ys) S (fun y news' => J (i + 1) (ys ++ [y]) news')) E' { s with heap := h, toks := tk })
    (done : ∀ ys led, J n ys led → Fin ys led) : ∀ k i ys led, i + k = n → J i ys led → CompRest prog w A h₀ L m env elt x scope cl s S P Fin k i ys led
  | 0, i, ys, led, e, hJ => CompRest.zero (done ys led (by rw [← e]; exact hJ))
  | k + 1, i, ys, led, e, hJ => CompRest.succ fun v I oI C oC D m₂ h tk E' hv hC hx F N off ne => by
    refine wpAny_mono (turn i v I oI C oC D m₂ ys led h tk E' (by omega) hv hJ hC hx F N off ne) (fun y s₂ hh => ?_) fun _ _ e => e
    obtain ⟨h', tk', news', e', F', N', o', S', J'⟩ := hh
    exact ⟨h', tk', news', e', F', N', o', S', comp_from J turn done k (i + 1) (ys ++ [y]) news' (by omega) J'⟩
theorem comp_turns {elt : Expr} {x : Str} {scope : Scope} {cl : List (Str × Addr)} {S : Led → Prop} {P : Nat → Value → Prop} {Fin : List Value → Led → Prop} {n : Nat} {led : Led} (J : Nat → List Value → Led → Prop) (h0 : J 0 [] led)
    (turn : ∀ i v I oI C oC D m₂ ys led h tk (E' : Value → Shared → Prop), i < n → P i v → J i ys led → NsObj oC m₂ → m₂ x = some v → Fr h₀ L h m → News h₀ L h ((I, oI) :: (C, oC) :: (D, lst ys) :: led) → Off3 I C D led → ((@Ne Nat I C) ∧ (@Ne Nat I D) ∧ (@Ne Nat C D)) →
      wpAny (model prog w) A (eval elt (compEnvC scope cl C env)) (CompEnd h₀ L m { s with heap := h, toks := tk } I oI C oC D (lst ys) S (fun y news' => J (i + 1) (ys ++ [y]) news')) E' { s with heap := h, toks := tk })
    (done : ∀ ys led, J n ys led → Fin ys led) : CompRest prog w A h₀ L m env elt x scope cl s S P Fin n 0 [] led :=
  comp_from J turn done n 0 [] led (Nat.zero_add n) h0
/-- a turn's end where the ledger is another -/
theorem comp_turn_end {I C D : Addr} {oI oC : Obj} {ys : List Value} {s₁ : Shared} {h' : Heap} {tk : Nat} {all led' : Led} {J : Value → Led → Prop} {y : Value}
    (F : Fr h₀ L h' m) (N : News h₀ L h' all) (hI : (I, oI) ∈ all) (hC : (C, oC) ∈ all) (hD : (D, lst ys) ∈ all) (hs : ∀ p ∈ led', p ∈ all)
    (oI' : ∀ p ∈ led', p.1 ≠ I) (oC' : ∀ p ∈ led', p.1 ≠ C) (oD' : ∀ p ∈ led', p.1 ≠ D) (hJ : J y led') :
    CompEnd h₀ L m s₁ I oI C oC D (lst ys) (fun _ => True) J y { s₁ with heap := h', toks := tk } := by
  refine CompEnd.intro F N led' ?_ (Off3.of fun p hp => ⟨oI' p hp, oC' p hp, oD' p hp⟩) trivial hJ
  intro p hp
  rcases List.mem_cons.mp hp with rfl | hp
  · exact hI
  rcases List.mem_cons.mp hp with rfl | hp
  · exact hC
  rcases List.mem_cons.mp hp with rfl | hp
  · exact hD
  · exact hs p hp
theorem off3_all {I C D : Addr} {l : Led} (h : Off3 I C D l) : (∀ p ∈ l, p.1 ≠ I) ∧ (∀ p ∈ l, p.1 ≠ C) ∧ (∀ p ∈ l, p.1 ≠ D) := ⟨fun p hp => (h.mem p hp).1, fun p hp => (h.mem p hp).2.1, fun p hp => (h.mem p hp).2.2⟩
end
theorem off3_left {I C D : Addr} {l l2 : Led} (h : Off3 I C D (l ++ l2)) : Off3 I C D l := Off3.of fun p hp => h.mem p (List.mem_append.mpr (.inl hp))
theorem off3_right {I C D : Addr} {l l2 : Led} (h : Off3 I C D (l ++ l2)) : (∀ p ∈ l2, p.1 ≠ I) ∧ (∀ p ∈ l2, p.1 ≠ C) ∧ (∀ p ∈ l2, p.1 ≠ D) := off3_all (Off3.of fun p hp => h.mem p (List.mem_append.mpr (.inr hp)))
def Halt (p : Prop) : Prop := p
theorem halt {p : Prop} (h : Halt p) : p := h
section
variable {prog : Program} {w : World} {A : Around} {E : Value → Shared → Prop} {s : Shared} {h₀ : Heap} {L : Addr} {m : Str → Option Value} {env : Env}
/-- a comprehension whose turns lay what they lay behind the ledger -/
theorem comp_grow {elt : Expr} {x : Str} {scope : Scope} {cl : List (Str × Addr)} {P : Nat → Value → Prop} {Fin : List Value → Led → Prop} {n : Nat} {led : Led} (R : Nat → List Value → Led → Prop) (h0 : R 0 [] [])
    (turn : ∀ i v I oI C oC D m₂ ys nw h tk (E' : Value → Shared → Prop), i < n → P i v → R i ys nw → NsObj oC m₂ → m₂ x = some v → Fr h₀ L h m → News h₀ L h ((I, oI) :: (C, oC) :: (D, lst ys) :: (led ++ nw)) → Off3 I C D led → (∀ p ∈ nw, p.1 ≠ I) → (∀ p ∈ nw, p.1 ≠ C) → (∀ p ∈ nw, p.1 ≠ D) → @Ne Nat I C → @Ne Nat I D → @Ne Nat C D →
      wpAny (model prog w) A (eval elt (compEnvC scope cl C env)) (CompEnd h₀ L m { s with heap := h, toks := tk } I oI C oC D (lst ys) (fun _ => True) (fun y news' => ∃ nw', news' = Cat led nw' ∧ R (i + 1) (ys ++ [y]) nw')) E' { s with heap := h, toks := tk })
    (done : ∀ ys nw, R n ys nw → Fin ys (led ++ nw)) : CompRest prog w A h₀ L m env elt x scope cl s (fun _ => True) P Fin n 0 [] led := by
  refine comp_turns (fun i ys l => ∃ nw, l = Cat led nw ∧ R i ys nw) ⟨[], (List.append_nil led).symm, h0⟩ ?_ ?_
  · rintro i v I oI C oC D m₂ ys _ h tk E' hi hv ⟨nw, rfl, hR⟩ hC hx F N off ne
    obtain ⟨q1, q2, q3⟩ := off3_right off
    exact turn i v I oI C oC D m₂ ys nw h tk E' hi hv hR hC hx F N (off3_left off) q1 q2 q3 ne.1 ne.2.1 ne.2.2
  · rintro ys _ ⟨nw, rfl, hR⟩
    exact done ys nw hR
/-- the same where every turn draws from the jar -/
theorem comp_draws {elt : Expr} {x : Str} {scope : Scope} {cl : List (Str × Addr)} {P : Nat → Value → Prop} {Fin : List Value → Led → Prop} {n : Nat} {led : Led} {jar : Addr} {jx jy : Int} {jtx jty : Tok} (R : Nat → List Value → Led → Prop) (h0 : R 0 [] []) (hx0 : 0 ≤ jx) (hy0 : 0 ≤ jy) (hy1 : jy < 2147483647) (hjl : ∀ p ∈ led, p.1 ≠ jar)
    (turn : ∀ i v I oI C oC D m₂ ys nw h tk x' y' tx' ty' (E' : Value → Shared → Prop), i < n → P i v → R i ys nw → 0 ≤ x' → 0 ≤ y' → y' < 2147483647 → (∀ p ∈ nw, p.1 ≠ jar) → (∀ q ∈ led, ∀ p ∈ nw, p.1 ≠ q.1) → NsObj oC m₂ → m₂ x = some v → Fr h₀ L h m → News h₀ L h ((I, oI) :: (C, oC) :: (D, lst ys) :: (jar, jarO x' y' tx' ty') :: (led ++ nw)) → Off3 I C D led → @Ne Nat jar I → @Ne Nat jar C → @Ne Nat jar D → (∀ p ∈ nw, p.1 ≠ I) → (∀ p ∈ nw, p.1 ≠ C) → (∀ p ∈ nw, p.1 ≠ D) → @Ne Nat I C → @Ne Nat I D → @Ne Nat C D →
      wpAny (model prog w) A (eval elt (compEnvC scope cl C env)) (CompEnd h₀ L m { s with heap := h, toks := tk } I oI C oC D (lst ys) (fun _ => True) (fun y news' => ∃ x' y' tx' ty' nw', news' = (jar, jarO x' y' tx' ty') :: Cat led nw' ∧ 0 ≤ x' ∧ 0 ≤ y' ∧ y' < 2147483647 ∧ (∀ p ∈ nw', p.1 ≠ jar) ∧ (∀ q ∈ led, ∀ p ∈ nw', p.1 ≠ q.1) ∧ R (i + 1) (ys ++ [y]) nw')) E' { s with heap := h, toks := tk })
    (done : ∀ ys nw x' y' tx' ty', 0 ≤ x' → 0 ≤ y' → y' < 2147483647 → (∀ p ∈ nw, p.1 ≠ jar) → (∀ q ∈ led, ∀ p ∈ nw, p.1 ≠ q.1) → R n ys nw → Fin ys ((jar, jarO x' y' tx' ty') :: (led ++ nw))) : CompRest prog w A h₀ L m env elt x scope cl s (fun _ => True) P Fin n 0 [] ((jar, jarO jx jy jtx jty) :: led) := by
  refine comp_turns (fun i ys l => ∃ x' y' tx' ty' nw, l = (jar, jarO x' y' tx' ty') :: Cat led nw ∧ 0 ≤ x' ∧ 0 ≤ y' ∧ y' < 2147483647 ∧ (∀ p ∈ nw, p.1 ≠ jar) ∧ (∀ q ∈ led, ∀ p ∈ nw, p.1 ≠ q.1) ∧ R i ys nw) ⟨jx, jy, jtx, jty, [], congrArg _ (List.append_nil led).symm, hx0, hy0, hy1, (fun p hp => nomatch hp), (fun q _ p hp => nomatch hp), h0⟩ ?_ ?_
  · rintro i v I oI C oC D m₂ ys _ h tk E' hi hv ⟨x', y', tx', ty', nw, rfl, b1, b2, b3, hj, hq, hR⟩ hC hx F N off ne
    obtain ⟨oj, off⟩ := off
    obtain ⟨q1, q2, q3⟩ := off3_right off
    exact turn i v I oI C oC D m₂ ys nw h tk x' y' tx' ty' E' hi hv hR b1 b2 b3 hj hq hC hx F N (off3_left off) oj.1 oj.2.1 oj.2.2 q1 q2 q3 ne.1 ne.2.1 ne.2.2
  · rintro ys _ ⟨x', y', tx', ty', nw, rfl, b1, b2, b3, hj, hq, hR⟩
    exact done ys nw x' y' tx' ty' b1 b2 b3 hj hq hR
end
theorem PwIn.snoc {l : Led} {vs : List Value} {ps : List (Nat × Way)} (h : PwIn l vs ps) {a : Addr} {p : Nat} {x : Way} {tp tx : Tok} : PwIn (l ++ [(a, tupO [.int (p : Int) tp, .str x.s tx])]) (vs ++ [.ref a]) (ps ++ [(p, x)]) :=
  PwIn.append (h.mono fun _ hq => List.mem_append.mpr (.inl hq)) (.cons (List.mem_append.mpr (.inr (.head _))) .nil)
/-- places and their ways, the first i of a written list -/
def Known.pws (K : Known) : List (Nat × Way) := [(0, K.k0), (1, K.k1), (2, K.k2), (3, K.k3)]
def Known.list (K : Known) : List Way := [K.k0, K.k1, K.k2, K.k3]
theorem Known.vals_are (K : Known) (t0 t1 t2 t3 : Tok) : StrsAre (K.vals t0 t1 t2 t3) (K.list.map Way.s) := .cons _ _ (.cons _ _ (.cons _ _ (.cons _ _ .nil)))
theorem Known.pws_take (K : Known) {i : Nat} (h : i < 4) : K.pws.take (i + 1) = K.pws.take i ++ [(i, K.list.getD i .bi)] := by
  match i, h with
  | 0, _ => rfl
  | 1, _ => rfl
  | 2, _ => rfl
  | 3, _ => rfl
theorem Known.noted (K : Known) : (K.pws.foldl stepW (List.replicate 4 .bi, false)).1 = K.list := by
  obtain ⟨a, b, c, d⟩ := K
  cases a <;> cases b <;> cases c <;> cases d <;> rfl
theorem kpws_lt (K : Known) : ∀ z ∈ K.pws, z.1 < 4 := by
  intro z hz
  simp only [Known.pws, List.mem_cons, List.not_mem_nil, or_false] at hz
  rcases hz with rfl | rfl | rfl | rfl <;> exact Nat.le_of_ble_eq_true rfl
/-- what of a ledger is kept: what is named by others, and an end that is not written out, goes -/
inductive Keep (as : List Addr) : Led → Led → Prop
  | nil : Keep as [] []
  | keep {p : Addr × Obj} {l r : Led} : (∀ a ∈ as, p.1 ≠ a) → Keep as l r → Keep as (p :: l) (p :: r)
  | drop {p : Addr × Obj} {l r : Led} : Keep as l r → Keep as (p :: l) r
  | none {l : Led} : Keep as l []
  | all {l : Led} : Keep as l l
theorem Keep.sub {as : List Addr} {l r : Led} (h : Keep as l r) : ∀ p ∈ r, p ∈ l := by
  induction h with
  | nil => exact fun _ h => nomatch h
  | keep _ _ ih =>
    intro q hq
    rcases List.mem_cons.mp hq with rfl | hq
    · exact .head _
    · exact .tail _ (ih q hq)
  | drop _ ih => exact fun q hq => .tail _ (ih q hq)
  | none => exact fun _ h => nomatch h
  | all => exact fun _ h => h
theorem Keep.d1 {a : Addr} {as : List Addr} {o : Obj} {l r : Led} (h : Keep (a :: as) l r) : Keep (a :: as) ((a, o) :: l) r := .drop h
theorem Keep.d2 {b a : Addr} {as : List Addr} {o : Obj} {l r : Led} (h : Keep (b :: a :: as) l r) : Keep (b :: a :: as) ((a, o) :: l) r := .drop h
def KeepMe (l : Led) : Prop := True
theorem Keep.allOf {as : List Addr} {l : Led} (h : KeepMe l) : Keep as l l := .all
theorem news_keep {as : List Addr} {h₀ h : Heap} {L : Addr} {led rest : Led} (N : News h₀ L h led) (K : Keep as led rest) : News h₀ L h rest := news_sub N K.sub
end

section
variable {prog : Program} {w : World} {A : Around} {E : Value → Shared → Prop} {s : Shared} {env : Env} {h₀ : Heap} {target : Expr} {body : List Stmt} {Q : Flow → Shared → Prop}
theorem one_of' {its : Led} {a : Addr} (h : its.map (·.1) = [a]) : ∃ oa, its = [(a, oa)] := by
  cases its with
  | nil => cases h
  | cons p r =>
    cases r with
    | nil =>
      obtain ⟨pa, po⟩ := p
      simp only [List.map_cons, List.map_nil, List.cons.injEq, and_true] at h
      subst h
      exact ⟨_, rfl⟩
    | cons q r => simp at h
/-- a loop over range(n) -/
theorem iter_range {r : Addr} {n : Nat} {t u v : Tok} {m₀ : Str → Option Value} {led : Led} (hh : A.handled = none) (hr : IsRange s.heap r 0 (n : Int) 1 t u v) (hsz : n ≤ 10000) (F : Fr h₀ env.locals s.heap m₀) (N : News h₀ env.locals s.heap led)
    (J : Nat → (Str → Option Value) → Led → Prop) (h0 : J 0 m₀ led)
    (step : ∀ I it i tt m₁ led₁ h₁ tk₁, i < n → J i m₁ led₁ → (∀ p ∈ led₁, p.1 ≠ I) → Fr h₀ env.locals h₁ m₁ → News h₀ env.locals h₁ ((I, it) :: led₁) →
      wpAny (model prog w) A (assign target env (.int ((i : Nat) : Int) tt)) (fun _ s₃ => wpAny (model prog w) A (execs body env) (TurnPostN h₀ env.locals [(I, it)] (J (i + 1)) { s with heap := h₁, toks := tk₁ } Q) E s₃) E { s with heap := h₁, toks := tk₁ })
    (done : ∀ h' tk m' led', Fr h₀ env.locals h' m' → News h₀ env.locals h' led' → J n m' led' → Q .next { s with heap := h', toks := tk })
    (hgo : ∀ I v, letOwnedTupleGo target (.ref I) v = pure () := by intro _ _; rfl) :
    wpAny (model prog w) A (pyIter (.ref r)) (fun it s₂ => TurnsAt prog w A h₀ env target body Q E it s₂) E s := by
  have hLs : env.locals < s.heap.objs.size := F.ns.lt
  have hLn : ∀ o, h₀.get? env.locals ≠ some o := fun o e => absurd (Heap.lt_size e) (Nat.not_lt.mpr F.above)
  refine wpAny_pyIter_range hr (small_one (by omega) (by omega) (by omega) (by omega)) ?_
  rw [show Builtin.Range.rangeSize 0 (n : Int) 1 = (n : Int) from rangeSize_nat _ _]
  have W := LCg.range_walks (prog := prog) (w := w) (I := s.heap.objs.size) hh 0 n
  refine turns_coreN (tk0 := s.toks) (KTurns.ofWalks W fun i v s Q E st q => by rw [hgo]; exact wpAny_pure q) ?_ ?_ ?_ hLn ?_ (F.push _) (fun p hp => ⟨Heap.get?_push_of_some _ (N p hp).1, (N p hp).2⟩) ?_ J h0 ?_ done
  · intro i h st
    have st' : h.get? s.heap.objs.size = some _ := st
    exact ⟨[(s.heap.objs.size, _)], rfl, fun p hp => by rw [List.mem_singleton.mp hp]; exact st'⟩
  · intro b hb
    exact .inl hb
  · intro b hb
    rw [List.mem_singleton.mp hb]
    exact ⟨next_is_new F, Nat.ne_of_lt hLs⟩
  · show Heap.get? _ _ = some _
    simpa [rawInt] using Heap.get?_push_size s.heap (o := { cls := .type "range_iterator", data := .fields #[rawInt 0, rawInt (n : Int), rawInt 1] }) rfl
  · intro p hp hb
    exact Nat.ne_of_lt (Heap.lt_size (N p hp).1) (List.mem_singleton.mp hb)
  · rintro its i v m₁ led₁ h₁ tk₁ hits hin ⟨tt, rfl⟩ hJ hoff F₁ N₁
    obtain ⟨oi, rfl⟩ := one_of' hits
    rw [Int.zero_add]
    exact step _ oi i tt m₁ led₁ h₁ tk₁ hin hJ (fun p hp e => hoff p hp (by rw [e]; exact .head _)) F₁ N₁
end

theorem RegsV.len {vs : List Value} {gs : List Nm} (h : RegsV vs gs) : vs.length ≤ 2 ∧ vs.length = gs.length := by cases h <;> exact ⟨by simp, rfl⟩
theorem ParsV.len {vs : List Value} {gs : List Nm} (h : ParsV vs gs) : vs.length ≤ 2 ∧ vs.length = gs.length ∧ 1 ≤ vs.length := by cases h <;> exact ⟨by simp, rfl, by simp⟩
def Nm.str : Nm → Str
  | .ra => Str.ofString "'a"
  | .rb => Str.ofString "'b"
  | .rst => Str.ofString "'static"
  | .rnone => Str.ofString ""
  | .rsev => Str.ofString ""
  | .pT => Str.ofString "T"
  | .pU => Str.ofString "U"
  | .pV => Str.ofString "V"
theorem RegsV.strs {vs : List Value} {gs : List Nm} (h : RegsV vs gs) : StrsAre vs (gs.map Nm.str) := by
  cases h
  · exact .nil
  · exact .cons _ _ .nil
  · exact .cons _ _ (.cons _ _ .nil)
theorem ParsV.strs {vs : List Value} {gs : List Nm} (h : ParsV vs gs) : StrsAre vs (gs.map Nm.str) := by
  cases h
  · exact .cons _ _ .nil
  · exact .cons _ _ (.cons _ _ .nil)
theorem names_strs {rs ps : List Value} {rgs pgs : List Nm} (R : RegsV rs rgs) (P : ParsV ps pgs) : StrsAre (rs ++ ps) ((rgs ++ pgs).map Nm.str) := by
  rw [List.map_append]; exact StrsAre.app R.strs P.strs
section
variable {prog : Program} {w : World} {A : Around} {E : Value → Shared → Prop} {s : Shared} {h₀ : Heap} {L l : Addr} {m : Str → Option Value} {news : Led} {value slice : PySem.Expr} {k : Int} {tk : Tok} {n : Nat} {Q : Value → Shared → Prop}
theorem regs_slice {t u : Tok} (F : Fr h₀ L s.heap m) (N : News h₀ L s.heap news) (hm : (l, listOf [Value.str (Str.ofString "'a") t, .str (Str.ofString "'b") u].toArray n) ∈ news) (h0 : 0 ≤ k) (h2 : k < 3)
    (h : ∀ D rs rgs h', Fr h₀ L h' m → News h₀ L h' ((D, listOf (List.toArray rs) 0) :: news) → (∀ p ∈ news, p.1 < D) → RegsV rs rgs → rs.length ≤ 2 → rs.length = rgs.length → Q (.ref D) { s with heap := h' })
    (hs : subscripted slice false (.ref l) (.ref s.heap.objs.size) = operate [.ref s.heap.objs.size, .ref l] (getItem (.ref l) (.ref s.heap.objs.size))) (ht : ∀ r, letTemporaryGo value (.ref l) r = pure ()) :
    wpAny (model prog w) A (subscriptTail value slice (.ref l) (.ref s.heap.objs.size)) Q E { s with heap := s.heap.push { cls := .type "slice", data := .fields #[.none, .int k tk, .none] } } := by
  have hk : k = ((k.toNat : Nat) : Int) := by omega
  refine kmk_slice F N (News.isList N hm) (lo := none) (hi := some k) (by constructor) (by constructor) (fun D h' F' N' l1 => ?_) hs ht (by simp [sizeLine_eq])
  rw [hk, slicePick_upto'] at N'
  match hj : k.toNat with
  | 0 => rw [hj] at N'; exact h D [] [] h' F' N' l1 .nil (by simp) rfl
  | 1 => rw [hj] at N'; exact h D [.str (Str.ofString "'a") t] [.ra] h' F' N' l1 (.one _) (by simp) rfl
  | 2 => rw [hj] at N'; exact h D [.str (Str.ofString "'a") t, .str (Str.ofString "'b") u] [.ra, .rb] h' F' N' l1 (.two _ _) (by simp) rfl
  | j + 3 => omega
theorem pars_slice {t u : Tok} (F : Fr h₀ L s.heap m) (N : News h₀ L s.heap news) (hm : (l, listOf [Value.str (Str.ofString "T") t, .str (Str.ofString "U") u].toArray n) ∈ news) (h0 : 1 ≤ k) (h2 : k < 3)
    (h : ∀ D ps pgs h', Fr h₀ L h' m → News h₀ L h' ((D, listOf (List.toArray ps) 0) :: news) → (∀ p ∈ news, p.1 < D) → ParsV ps pgs → ps.length ≤ 2 → ps.length = pgs.length → 1 ≤ ps.length → Q (.ref D) { s with heap := h' })
    (hs : subscripted slice false (.ref l) (.ref s.heap.objs.size) = operate [.ref s.heap.objs.size, .ref l] (getItem (.ref l) (.ref s.heap.objs.size))) (ht : ∀ r, letTemporaryGo value (.ref l) r = pure ()) :
    wpAny (model prog w) A (subscriptTail value slice (.ref l) (.ref s.heap.objs.size)) Q E { s with heap := s.heap.push { cls := .type "slice", data := .fields #[.none, .int k tk, .none] } } := by
  have hk : k = ((k.toNat : Nat) : Int) := by omega
  refine kmk_slice F N (News.isList N hm) (lo := none) (hi := some k) (by constructor) (by constructor) (fun D h' F' N' l1 => ?_) hs ht (by simp [sizeLine_eq])
  rw [hk, slicePick_upto'] at N'
  match hj : k.toNat with
  | 0 => omega
  | 1 => rw [hj] at N'; exact h D [.str (Str.ofString "T") t] [.pT] h' F' N' l1 (.one _) (by simp) rfl (by simp)
  | 2 => rw [hj] at N'; exact h D [.str (Str.ofString "T") t, .str (Str.ofString "U") u] [.pT, .pU] h' F' N' l1 (.two _ _) (by simp) rfl (by simp)
  | j + 3 => omega
end
/-- a turn that laid a place and its way -/
theorem comp_turn_pw {h₀ : Heap} {L : Addr} {m : Str → Option Value} {I C D : Addr} {oI oC : Obj} {ys : List Value} {s₁ : Shared} {h' : Heap} {tk : Nat} {all led nw : Led} {pws pws' : List (Nat × Way)} {T : Addr} {i : Nat} {x : Way} {tp tx : Tok}
    (hpw : pws' = pws ++ [(i, x)]) (hT : (T, tupO [.int (i : Int) tp, .str x.s tx]) ∈ all) (F : Fr h₀ L h' m) (N : News h₀ L h' all) (hI : (I, oI) ∈ all) (hC : (C, oC) ∈ all) (hD : (D, LCg.lst ys) ∈ all) (hs : ∀ p ∈ led, p ∈ all) (hs2 : ∀ p ∈ nw, p ∈ all)
    (o1 : ∀ p ∈ led, p.1 ≠ I) (o2 : ∀ p ∈ led, p.1 ≠ C) (o3 : ∀ p ∈ led, p.1 ≠ D) (p1 : ∀ p ∈ nw, p.1 ≠ I) (p2 : ∀ p ∈ nw, p.1 ≠ C) (p3 : ∀ p ∈ nw, p.1 ≠ D) (q1 : @Ne Nat T I) (q2 : @Ne Nat T C) (q3 : @Ne Nat T D) (hR : PwIn nw ys pws) :
    LCg.CompEnd h₀ L m s₁ I oI C oC D (LCg.lst ys) (fun _ => True) (fun y news' => ∃ nw', news' = Cat led nw' ∧ PwIn nw' (ys ++ [y]) pws') (.ref T) { s₁ with heap := h', toks := tk } := by
  subst hpw
  have mem : ∀ {P : Addr × Obj → Prop}, (∀ p ∈ led, P p) → (∀ p ∈ nw, P p) → P (T, tupO [.int (i : Int) tp, .str x.s tx]) → ∀ p ∈ led ++ (nw ++ [(T, tupO [.int (i : Int) tp, .str x.s tx])]), P p := by
    intro P a b c p hp
    rcases List.mem_append.mp hp with hp | hp
    · exact a p hp
    rcases List.mem_append.mp hp with hp | hp
    · exact b p hp
    · rw [List.mem_singleton.mp hp]; exact c
  exact comp_turn_end F N hI hC hD (mem (P := fun p => p ∈ all) hs hs2 hT) (mem (P := fun p => p.1 ≠ I) o1 p1 q1) (mem (P := fun p => p.1 ≠ C) o2 p2 q2) (mem (P := fun p => p.1 ≠ D) o3 p3 q3) ⟨_, rfl, hR.snoc⟩
/-- the same where the turn drew from the jar -/
theorem comp_turn_pwj {h₀ : Heap} {L : Addr} {m : Str → Option Value} {I C D jar : Addr} {oI oC : Obj} {ys : List Value} {s₁ : Shared} {h' : Heap} {tk : Nat} {all led nw : Led} {T : Addr} {v : Int} {x : Way} {tp tx : Tok} {jx jy : Int} {jtx jty : Tok} {n b : Nat}
    (hT : (T, tupO [.int v tp, .str x.s tx]) ∈ all) (hJ : (jar, jarO jx jy jtx jty) ∈ all) (j1 : 0 ≤ jx) (j2 : 0 ≤ jy) (j3 : jy < 2147483647) (hv0 : 0 ≤ v) (hv1 : v < (b : Int))
    (F : Fr h₀ L h' m) (N : News h₀ L h' all) (hI : (I, oI) ∈ all) (hC : (C, oC) ∈ all) (hD : (D, LCg.lst ys) ∈ all) (hs : ∀ p ∈ led, p ∈ all) (hs2 : ∀ p ∈ nw, p ∈ all)
    (o1 : ∀ p ∈ led, p.1 ≠ I) (o2 : ∀ p ∈ led, p.1 ≠ C) (o3 : ∀ p ∈ led, p.1 ≠ D) (p1 : ∀ p ∈ nw, p.1 ≠ I) (p2 : ∀ p ∈ nw, p.1 ≠ C) (p3 : ∀ p ∈ nw, p.1 ≠ D) (p4 : ∀ p ∈ nw, p.1 ≠ jar) (hq : ∀ q ∈ led, ∀ p ∈ nw, p.1 ≠ q.1) (hTq : ∀ q ∈ led, q.1 ≠ T) (q1 : @Ne Nat T I) (q2 : @Ne Nat T C) (q3 : @Ne Nat T D) (q4 : @Ne Nat T jar) (r1 : @Ne Nat jar I) (r2 : @Ne Nat jar C) (r3 : @Ne Nat jar D)
    (hR0 : ∃ pws : List (Nat × Way), PwIn nw ys pws ∧ pws.length = n ∧ ∀ z ∈ pws, z.1 < b) :
    LCg.CompEnd h₀ L m s₁ I oI C oC D (LCg.lst ys) (fun _ => True) (fun y news' => ∃ x' y' tx' ty' nw', news' = (jar, jarO x' y' tx' ty') :: Cat led nw' ∧ 0 ≤ x' ∧ 0 ≤ y' ∧ y' < 2147483647 ∧ (∀ p ∈ nw', p.1 ≠ jar) ∧ (∀ q ∈ led, ∀ p ∈ nw', p.1 ≠ q.1) ∧ ∃ pws' : List (Nat × Way), PwIn nw' (ys ++ [y]) pws' ∧ pws'.length = n + 1 ∧ ∀ z ∈ pws', z.1 < b) (.ref T) { s₁ with heap := h', toks := tk } := by
  obtain ⟨pws, hR⟩ := hR0
  obtain ⟨i, rfl⟩ := Int.eq_ofNat_of_zero_le hv0
  have hib : i < b := by omega
  have mem : ∀ {P : Addr × Obj → Prop}, P (jar, jarO jx jy jtx jty) → (∀ p ∈ led, P p) → (∀ p ∈ nw, P p) → P (T, tupO [.int (i : Int) tp, .str x.s tx]) → ∀ p ∈ (jar, jarO jx jy jtx jty) :: (led ++ (nw ++ [(T, tupO [.int (i : Int) tp, .str x.s tx])])), P p := by
    intro P j a b c p hp
    rcases List.mem_cons.mp hp with rfl | hp
    · exact j
    rcases List.mem_append.mp hp with hp | hp
    · exact a p hp
    rcases List.mem_append.mp hp with hp | hp
    · exact b p hp
    · rw [List.mem_singleton.mp hp]; exact c
  refine comp_turn_end F N hI hC hD (mem (P := fun p => p ∈ all) hJ hs hs2 hT) (mem (P := fun p => p.1 ≠ I) r1 o1 p1 q1) (mem (P := fun p => p.1 ≠ C) r2 o2 p2 q2) (mem (P := fun p => p.1 ≠ D) r3 o3 p3 q3) ⟨_, _, _, _, _, rfl, j1, j2, j3, ?_, ?_, pws ++ [(i, x)], hR.1.snoc, ?_, ?_⟩
  · intro p hp
    rcases List.mem_append.mp hp with hp | hp
    · exact p4 p hp
    · rw [List.mem_singleton.mp hp]; exact q4
  · intro q hq' p hp
    rcases List.mem_append.mp hp with hp | hp
    · exact hq q hq' p hp
    · rw [List.mem_singleton.mp hp]; exact (hTq q hq').symm
  · rw [List.length_append, hR.2.1]; rfl
  · intro z hz
    rcases List.mem_append.mp hz with hz | hz
    · exact hR.2.2 z hz
    · rw [List.mem_singleton.mp hz]; exact hib
theorem rangeSize_to {b : Int} (h : 0 ≤ b) : Builtin.Range.rangeSize 0 b 1 = ((b.toNat : Nat) : Int) := by rw [rangeSize_nat, Int.sub_zero]
theorem names_len {rs ps : List Value} {rgs pgs : List Nm} (R : RegsV rs rgs) (P : ParsV ps pgs) : (rs ++ ps).length = rs.length + ps.length ∧ (rgs ++ pgs).length = rs.length + ps.length ∧ rs.length ≤ 2 ∧ ps.length ≤ 2 ∧ 1 ≤ ps.length :=
  ⟨List.length_append, by rw [List.length_append, R.len.2, P.len.2.1], R.len.1, P.len.1, P.len.2.2⟩
theorem names_b {rs ps : List Value} {rgs pgs : List Nm} (R : RegsV rs rgs) (P : ParsV ps pgs) : ∃ b : Nat, b = rs.length + ps.length ∧ (rs ++ ps).length = b ∧ (rgs ++ pgs).length = b ∧ 1 ≤ b ∧ b ≤ 4 := by
  have h := names_len R P
  exact ⟨_, rfl, h.1, h.2.1, by omega, by omega⟩
/-- the ways noted at a place -/
def atPlace (pws : List (Nat × Way)) (k : Nat) : List Way := (pws.filter fun z => z.1 == k).map (·.2)
def befores (pws : List (Nat × Way)) (n : Nat) : List Way := (List.range n).map fun k => strictest (atPlace pws k)
theorem befores_succ (pws : List (Nat × Way)) (n : Nat) : befores pws (n + 1) = befores pws n ++ [strictest (atPlace pws n)] := by
  unfold befores; rw [List.range_succ, List.map_append]; rfl
theorem atPlace_yes {pws : List (Nat × Way)} {i p k : Nat} {x : Way} (h : pws[i]? = some (p, x)) (e : p = k) : atPlace (pws.take (i + 1)) k = atPlace (pws.take i) k ++ [x] := by
  subst e
  simp [atPlace, List.take_add_one, h]
theorem atPlace_no {pws : List (Nat × Way)} {i p k : Nat} {x : Way} (h : pws[i]? = some (p, x)) (e : ¬ p = k) : atPlace (pws.take (i + 1)) k = atPlace (pws.take i) k := by
  simp [atPlace, List.take_add_one, h, e]
theorem ways_snoc {vs : List Value} {ws : List Way} (h : StrsAre vs (ws.map Way.s)) (a : Way) (t : Tok) : StrsAre (vs ++ [.str a.s t]) ((ws ++ [a]).map Way.s) := ways_app h (ws' := [a]) (.cons _ _ .nil)
/-- a place and its way as values -/
def PV (pws : List (Nat × Way)) (i : Nat) (a b : Value) : Prop := ∃ p x tp tx, a = .int ((p : Nat) : Int) tp ∧ b = .str (Way.s x) tx ∧ pws[i]? = some (p, x)
theorem pw_pairs {nw led : Led} {ys : List Value} {pws : List (Nat × Way)} (h : PwIn nw ys pws) (hs : ∀ p ∈ nw, p ∈ led) : ∀ i v, ys[i]? = some v → ∃ t a b, v = Value.ref t ∧ (t, tupO [a, b]) ∈ led ∧ PV pws i a b := by
  intro i v hv
  obtain ⟨a, p, x, tp, tx, rfl, hm, hp⟩ := pwIn_get h hv
  exact ⟨a, _, _, rfl, hs _ hm, p, x, tp, tx, rfl, rfl, hp⟩
theorem ways_one (a : Way) (t : Tok) : StrsAre [Value.str a.s t] ([a].map Way.s) := .cons _ _ .nil

theorem Way.max_comm' (a b : Way) : a.max b = b.max a := by cases a <;> cases b <;> rfl
theorem Way.max_assoc' (a b c : Way) : (a.max b).max c = a.max (b.max c) := by cases a <;> cases b <;> cases c <;> rfl
theorem bi_max (a : Way) : Way.max .bi a = a := by cases a <;> rfl
theorem strictest_cons (a : Way) (r : List Way) : strictest (a :: r) = a.max (strictest r) := by
  unfold strictest
  cases a <;> cases h1 : r.any (· == .inn) <;> cases h2 : r.any (· == .co) <;> simp [h1, h2] <;> rfl
theorem strictest_nil : strictest [] = .bi := rfl
theorem strictest_append (l r : List Way) : strictest (l ++ r) = (strictest l).max (strictest r) := by
  induction l with
  | nil => rw [List.nil_append, strictest_nil, bi_max]
  | cons a l ih => rw [List.cons_append, strictest_cons, strictest_cons, ih, Way.max_assoc']
theorem noteW_length (ws : List Way) (i : Nat) (a : Way) : (noteW ws i a).length = ws.length := by simp [noteW]
theorem noteW_at (ws : List Way) (i k : Nat) (a : Way) (hk : k < ws.length) : (noteW ws i a).getD k .bi = if i = k then (ws.getD k .bi).max a else ws.getD k .bi := by
  unfold noteW
  by_cases h : i = k
  · subst h; simp [List.getD_eq_getElem?_getD, hk]
  · simp [List.getD_eq_getElem?_getD, List.getElem?_set, h]
/-- what is told at a place, after notes -/
theorem told_at (l : List (Nat × Way)) : ∀ (st : List Way × Bool) (k : Nat), k < st.1.length → (l.foldl stepW st).1.getD k .bi = (st.1.getD k .bi).max (strictest (atPlace l k)) := by
  induction l with
  | nil => intro st k hk; show _ = Way.max _ (strictest []); rw [strictest_nil, max_bi]; rfl
  | cons z r ih =>
    intro st k hk
    rw [List.foldl_cons, ih _ _ (by rw [stepW_length]; exact hk)]
    show Way.max ((noteW st.1 z.1 z.2).getD k .bi) _ = _
    rw [noteW_at _ _ _ _ hk]
    by_cases h : z.1 = k
    · have e : atPlace (z :: r) k = z.2 :: atPlace r k := by simp [atPlace, h]
      rw [if_pos h, e, strictest_cons, Way.max_assoc']
    · have e : atPlace (z :: r) k = atPlace r k := by simp [atPlace, h]
      rw [if_neg h, e]
theorem ways_ext {l r : List Way} (h : l.length = r.length) (e : ∀ k, k < l.length → l.getD k .bi = r.getD k .bi) : l = r := by
  apply List.ext_getElem h
  intro k h1 h2
  have := e k h1
  simpa [List.getD_eq_getElem?_getD, h1, h2] using this
theorem told_befores (pws : List (Nat × Way)) (b : Nat) : (pws.foldl stepW (List.replicate b .bi, false)).1 = befores pws b := by
  apply ways_ext
  · rw [stepsW_length, List.length_replicate]; simp [befores]
  · intro k hk
    rw [stepsW_length, List.length_replicate] at hk
    rw [told_at _ _ _ (by rw [List.length_replicate]; exact hk)]
    have e1 : (List.replicate b Way.bi).getD k .bi = .bi := by simp [List.getD_eq_getElem?_getD, hk]
    rw [e1, bi_max]
    simp [befores, List.getD_eq_getElem?_getD, hk]
theorem max_stays {x a s : Way} (h : (x.max a).max s = x) : x.max a = x := by revert h; cases x <;> cases a <;> cases s <;> decide
theorem noteW_out {ws : List Way} {i : Nat} (h : ¬ i < ws.length) (a : Way) : noteW ws i a = ws := by
  unfold noteW; exact List.set_eq_of_length_le (by omega)
theorem noteW_idem {ws : List Way} {i : Nat} {a : Way} (h : (ws.getD i .bi).max a = ws.getD i .bi) : noteW ws i a = ws := by
  apply ways_ext (noteW_length ..)
  intro k hk
  rw [noteW_length] at hk
  rw [noteW_at _ _ _ _ hk]
  by_cases e : i = k
  · subst e; rw [if_pos rfl, h]
  · rw [if_neg e]
/-- whether something has changed is whether what is told has -/
theorem told_changed (l : List (Nat × Way)) : ∀ (ws : List Way) (hc : Bool), (l.foldl stepW (ws, hc)).2 = (hc || ((l.foldl stepW (ws, hc)).1 != ws)) := by
  induction l with
  | nil => intro ws hc; simp
  | cons z r ih =>
    intro ws hc
    have e : (z :: r).foldl stepW (ws, hc) = r.foldl stepW (noteW ws z.1 z.2, hc || (noteW ws z.1 z.2 != ws)) := rfl
    rw [e, ih]
    have len : (r.foldl stepW (noteW ws z.1 z.2, hc || (noteW ws z.1 z.2 != ws))).1.length = ws.length := by rw [stepsW_length]; exact noteW_length ..
    by_cases hf : (r.foldl stepW (noteW ws z.1 z.2, hc || (noteW ws z.1 z.2 != ws))).1 = ws
    · have hn : noteW ws z.1 z.2 = ws := by
        by_cases hz : z.1 < ws.length
        · have h1 := told_at r (noteW ws z.1 z.2, hc || (noteW ws z.1 z.2 != ws)) z.1 (by show z.1 < (noteW ws z.1 z.2).length; rw [noteW_length]; exact hz)
          rw [hf] at h1
          have h2 := noteW_at ws z.1 z.1 z.2 hz
          rw [if_pos rfl] at h2
          rw [show ((noteW ws z.1 z.2, hc || (noteW ws z.1 z.2 != ws)) : List Way × Bool).1 = noteW ws z.1 z.2 from rfl, h2] at h1
          exact noteW_idem (max_stays h1.symm)
        · exact noteW_out hz _
      rw [hn] at hf ⊢
      simp
    · have h3 : ((r.foldl stepW (noteW ws z.1 z.2, hc || (noteW ws z.1 z.2 != ws))).1 != ws) = true := by simpa using hf
      rw [h3]
      by_cases hn : noteW ws z.1 z.2 = ws
      · rw [hn] at h3 ⊢
        have h4 : (ws != ws) = false := by simp
        rw [h4, Bool.or_false] at h3
        simp [h3]
      · have h4 : (noteW ws z.1 z.2 != ws) = true := by simpa using hn
        simp [h4]
theorem strictest_bi_iff (ws : List Way) : strictest ws = .bi ↔ ∀ a ∈ ws, a = .bi := by
  induction ws with
  | nil => simp [strictest_nil]
  | cons a r ih =>
    rw [strictest_cons, List.forall_mem_cons, ← ih]
    cases a <;> cases strictest r <;> decide
theorem rep_bi_iff (ws : List Way) : (ws = List.replicate ws.length .bi) ↔ strictest ws = .bi := by
  rw [strictest_bi_iff]
  constructor
  · intro h a ha
    rw [h] at ha
    exact List.eq_of_mem_replicate ha
  · intro h
    exact List.eq_replicate_iff.mpr ⟨rfl, h⟩
theorem before_changed (pws : List (Nat × Way)) (b : Nat) : (pws.foldl stepW (List.replicate b .bi, false)).2 = (strictest (befores pws b) != .bi) := by
  rw [told_changed, told_befores, Bool.false_or]
  have hl : (befores pws b).length = b := by simp [befores]
  have h := rep_bi_iff (befores pws b)
  rw [hl] at h
  by_cases e : strictest (befores pws b) = .bi
  · have e2 := h.mpr e
    rw [e]
    rw [← e2]; simp
  · have e2 : ¬ befores pws b = List.replicate b .bi := fun q => e (h.mp q)
    have a1 : (befores pws b != List.replicate b .bi) = true := by simpa using e2
    have a2 : (strictest (befores pws b) != .bi) = true := by simpa using e
    rw [a1, a2]
/-- notes at names are notes at places -/
def toPlace (names : List Nm) (u : Nm × Way) : Option (Nat × Way) := (u.1.at names).map fun i => (i, u.2)
theorem stepN_place (names : List Nm) (l : List (Nm × Way)) : ∀ st : List Way × Bool, l.foldl (stepN names) st = (l.filterMap (toPlace names)).foldl stepW st := by
  induction l with
  | nil => intro st; rfl
  | cons u r ih =>
    intro st
    rw [List.foldl_cons, ih]
    cases h : u.1.at names with
    | none =>
      have e : toPlace names u = none := by simp [toPlace, h]
      rw [List.filterMap_cons_none e]
      congr 1
      simp [stepN, noteN, h]
    | some i =>
      have e : toPlace names u = some (i, u.2) := by simp [toPlace, h]
      rw [List.filterMap_cons_some e, List.foldl_cons]
      congr 1
      simp [stepN, stepW, noteN, h]
theorem road_nil : road [] = .co := rfl
theorem road_snoc (ws : List Way) (a : Way) : road (ws ++ [a]) = (road ws).mul a := by
  unfold road
  cases a <;> cases h1 : ws.any (· == .bi) <;> cases h2 : ws.any (· == .inn) <;> simp [h1, h2] <;> rfl
theorem mul_assoc' (a b c : Way) : (a.mul b).mul c = a.mul (b.mul c) := by cases a <;> cases b <;> cases c <;> rfl
theorem mul_comm' (a b : Way) : a.mul b = b.mul a := by cases a <;> cases b <;> rfl
/-- a use and the strictness of its road -/
def roadU (u : Nm × List Way) : Nm × Way := (u.1, road u.2)
theorem mul_swap (a b c : Way) : (a.mul b).mul c = (a.mul c).mul b := by cases a <;> cases b <;> cases c <;> rfl
theorem mul_swap2 (a b c : Way) : a.mul (b.mul c) = (a.mul c).mul b := by cases a <;> cases b <;> cases c <;> rfl
theorem mul_co (a : Way) : a.mul .co = a := by cases a <;> rfl
/-- the marks of a walk are the uses, each with its road -/
theorem uses_marks (K : Known) : ∀ (t : Ty) (ws : List Way) (c : Way), (uses K t ws).map (fun u => (u.1, (road u.2).mul c)) = marks K t ((road ws).mul c)
  | .int, _, _ => rfl
  | .oth, _, _ => rfl
  | .par x, ws, c => rfl
  | .ref r b t, ws, c => by
    rw [uses, marks, List.map_cons, uses_marks K t, road_snoc, mul_swap]
  | .box t, ws, c => by rw [uses, marks, uses_marks K t]
  | .arr t, ws, c => by rw [uses, marks, uses_marks K t]
  | .tup t u, ws, c => by rw [uses, marks, List.map_append, uses_marks K t, uses_marks K u]
  | .adt r1 r2 t u, ws, c => by
    have h1 := uses_marks K t ws (K.k2.mul c)
    have h2 := uses_marks K u ws (K.k3.mul c)
    rw [mul_swap2] at h1 h2
    rw [uses, marks, List.map_append, List.map_append, List.map_map, List.map_map, ← h1, ← h2]
    simp only [List.map_cons, List.map_nil, road_snoc, List.cons_append, List.nil_append, Function.comp_def, mul_assoc']
    rw [mul_comm' c K.k0, mul_comm' c K.k1]
theorem marks_road (K : Known) (t : Ty) (ws : List Way) : marks K t (road ws) = (uses K t ws).map roadU := by
  have h := uses_marks K t ws .co
  rw [mul_co] at h
  rw [← h]
  simp only [mul_co]
  rfl
theorem at_names {rs ps : List Value} {rgs pgs : List Nm} (R : RegsV rs rgs) (P : ParsV ps pgs) (k : Nat) (hk : k < (rgs ++ pgs).length) (x : Nm) : (x.at (rgs ++ pgs) = some k) ↔ x = (rgs ++ pgs).getD k .ra := by
  cases R <;> cases P <;> simp only [List.nil_append, List.cons_append, List.length_cons, List.length_nil] at hk ⊢ <;>
    (rcases k with _ | _ | _ | _ | k) <;> first | omega | (cases x <;> decide)
/-- the roads of the uses of a name -/
def roadsOf (us : List (Nm × List Way)) (x : Nm) : List Way := (us.filter fun u => u.1 == x).map fun u => road u.2
theorem atPlace_roads {rs ps : List Value} {rgs pgs : List Nm} (R : RegsV rs rgs) (P : ParsV ps pgs) (k : Nat) (hk : k < (rgs ++ pgs).length) : ∀ us : List (Nm × List Way), atPlace ((us.map roadU).filterMap (toPlace (rgs ++ pgs))) k = roadsOf us ((rgs ++ pgs).getD k .ra)
  | [] => rfl
  | u :: r => by
    have ih := atPlace_roads R P k hk r
    have h := at_names R P k hk u.1
    generalize (rgs ++ pgs).getD k .ra = y at h ih ⊢
    rw [List.map_cons]
    cases e : u.1.at (rgs ++ pgs) with
    | none =>
      have n1 : toPlace (rgs ++ pgs) (roadU u) = none := by simp [toPlace, roadU, e]
      have n2 : ¬ u.1 = y := fun q => by rw [h.mpr q] at e; cases e
      rw [List.filterMap_cons_none n1, ih]
      simp [roadsOf, n2]
    | some i =>
      have n1 : toPlace (rgs ++ pgs) (roadU u) = some (i, road u.2) := by simp [toPlace, roadU, e]
      rw [List.filterMap_cons_some n1]
      by_cases q : i = k
      · subst q
        have n2 : u.1 = y := h.mp e
        have : atPlace ((i, road u.2) :: (r.map roadU).filterMap (toPlace (rgs ++ pgs))) i = road u.2 :: atPlace ((r.map roadU).filterMap (toPlace (rgs ++ pgs))) i := by simp [atPlace]
        rw [this, ih]
        simp [roadsOf, n2]
      · have n2 : ¬ u.1 = y := fun q' => by rw [h.mpr q'] at e; exact q (Option.some.inj e).symm
        have : atPlace ((i, road u.2) :: (r.map roadU).filterMap (toPlace (rgs ++ pgs))) k = atPlace ((r.map roadU).filterMap (toPlace (rgs ++ pgs))) k := by simp [atPlace, q]
        rw [this, ih]
        simp [roadsOf, n2]
/-- what is due at every place -/
def dues (pws : List (Nat × Way)) (us : List (Nm × List Way)) (names : List Nm) (n : Nat) : List Way := (List.range n).map fun k => strictest ([strictest (atPlace pws k)] ++ roadsOf us (names.getD k .ra))
theorem dues_succ (pws : List (Nat × Way)) (us : List (Nm × List Way)) (names : List Nm) (n : Nat) : dues pws us names (n + 1) = dues pws us names n ++ [strictest ([strictest (atPlace pws n)] ++ roadsOf us (names.getD n .ra))] := by
  unfold dues; rw [List.range_succ, List.map_append]; rfl
theorem befores_at {pws : List (Nat × Way)} {n k : Nat} (hk : k < n) : (befores pws n).getD k .bi = strictest (atPlace pws k) := by
  simp [befores, List.getD_eq_getElem?_getD, hk]
theorem strictest_one (a : Way) : strictest [a] = a := by cases a <;> rfl
theorem told_due {rs ps : List Value} {rgs pgs : List Nm} (R : RegsV rs rgs) (P : ParsV ps pgs) (pws : List (Nat × Way)) (us : List (Nm × List Way)) (hc : Bool) (n : Nat) (hn : (rgs ++ pgs).length = n) :
    ((us.map roadU).foldl (stepN (rgs ++ pgs)) (befores pws n, hc)).1 = dues pws us (rgs ++ pgs) n := by
  have hl : (befores pws n).length = n := by simp [befores]
  rw [stepN_place]
  apply ways_ext
  · rw [stepsW_length]; simp [befores, dues]
  · intro k hk
    rw [stepsW_length] at hk
    have hk' : k < n := by rw [← hl]; exact hk
    rw [told_at _ _ _ hk, atPlace_roads R P k (by omega)]
    show Way.max ((befores pws n).getD k .bi) _ = _
    rw [befores_at hk']
    have e : (dues pws us (rgs ++ pgs) n).getD k .bi = strictest ([strictest (atPlace pws k)] ++ roadsOf us ((rgs ++ pgs).getD k .ra)) := by
      simp [dues, List.getD_eq_getElem?_getD, hk']
    rw [e, strictest_append, strictest_one]
theorem max_eq_bi {a b : Way} (h : a.max b = .bi) : a = .bi ∧ b = .bi := by revert h; cases a <;> cases b <;> decide
theorem strictest_le {l r : List Way} (hl : l.length = r.length) (h : ∀ k, k < l.length → ∃ s : Way, r.getD k .bi = (l.getD k .bi).max s) (e : strictest r = .bi) : strictest l = .bi := by
  rw [strictest_bi_iff] at e ⊢
  intro a ha
  obtain ⟨k, hk, rfl⟩ := List.mem_iff_getElem.mp ha
  obtain ⟨s, hs⟩ := h k hk
  have h2 : r.getD k .bi = .bi := by
    have hk2 : k < r.length := by omega
    rw [List.getD_eq_getElem?_getD, List.getElem?_eq_getElem hk2]
    exact e _ (List.getElem_mem hk2)
  rw [h2] at hs
  have := (max_eq_bi hs.symm).1
  simpa [List.getD_eq_getElem?_getD, hk] using this
theorem due_changed {rs ps : List Value} {rgs pgs : List Nm} (R : RegsV rs rgs) (P : ParsV ps pgs) (pws : List (Nat × Way)) (us : List (Nm × List Way)) (n : Nat) (hn : (rgs ++ pgs).length = n) :
    ((us.map roadU).foldl (stepN (rgs ++ pgs)) (befores pws n, strictest (befores pws n) != .bi)).2 = (strictest (dues pws us (rgs ++ pgs) n) != .bi) := by
  have hl : (befores pws n).length = n := by simp [befores]
  have hd := told_due R P pws us (strictest (befores pws n) != .bi) n hn
  rw [stepN_place] at hd ⊢
  rw [told_changed, hd]
  have hl2 : (dues pws us (rgs ++ pgs) n).length = n := by simp [dues]
  by_cases hb : strictest (befores pws n) = .bi
  · have e1 := (rep_bi_iff (befores pws n)).mpr hb
    rw [hl] at e1
    have h := rep_bi_iff (dues pws us (rgs ++ pgs) n)
    rw [hl2] at h
    rw [hb, e1]
    by_cases e : strictest (dues pws us (rgs ++ pgs) n) = .bi
    · rw [e, ← h.mpr e]; simp
    · have e2 : ¬ dues pws us (rgs ++ pgs) n = List.replicate n .bi := fun q => e (h.mp q)
      have a1 : (dues pws us (rgs ++ pgs) n != List.replicate n .bi) = true := by simpa using e2
      have a2 : (strictest (dues pws us (rgs ++ pgs) n) != .bi) = true := by simpa using e
      rw [a1, a2]; rfl
  · have e : ¬ strictest (dues pws us (rgs ++ pgs) n) = .bi := by
      intro q
      refine hb (strictest_le (by rw [hl, hl2]) (fun k hk => ?_) q)
      rw [hl] at hk
      refine ⟨strictest (roadsOf us ((rgs ++ pgs).getD k .ra)), ?_⟩
      rw [befores_at hk]
      have e : (dues pws us (rgs ++ pgs) n).getD k .bi = strictest ([strictest (atPlace pws k)] ++ roadsOf us ((rgs ++ pgs).getD k .ra)) := by
        simp [dues, List.getD_eq_getElem?_getD, hk]
      rw [e, strictest_append, strictest_one]
    have a1 : (strictest (befores pws n) != .bi) = true := by simpa using hb
    have a2 : (strictest (dues pws us (rgs ++ pgs) n) != .bi) = true := by simpa using e
    rw [a1, a2]; rfl

/-- the law's main def, as the top holds it -/
noncomputable def fnR (w : World) : FuncData := match (hd.heap_39 w.params).lookup 181 with
  | some o => (match o.data with
    | .func f => f
    | _ => default)
  | none => default
noncomputable def scR (w : World) : Scope := (fnR w).scope
noncomputable def bodyR (w : World) (k : Nat) : List Stmt := match (fnR w).body with
  | .stmts b => b.drop k
  | _ => []
noncomputable abbrev envR (w : World) (L : Addr) : Env := envOfC (Str.ofString "_law_right") (scR w) L 181 (.ref 180)
def Nm.own : Nm → Bool
  | .ra | .rb | .pT | .pU => true
  | _ => false
section
variable {prog : Program} {w : World} {A : Around} {E : Value → Shared → Prop} {s : Shared} {Q : Value → Shared → Prop}
theorem eq_name {x y : Nm} {v : Value} {t : Tok} (hv : NmV x v) (hy : y.own = true) (h : Q (.bool (x == y)) s) : wpAny (model prog w) A (compareOp .Eq v (.str y.str t)) Q E s := by
  have one : ∀ (z : Nm) (u : Tok), (z.str == y.str) = (z == y) → x = z → v = .str z.str u → wpAny (model prog w) A (compareOp .Eq v (.str y.str t)) Q E s := by
    rintro z u e rfl rfl
    refine eq_str ?_
    rw [e]; exact h
  cases x
  case rnone =>
    have e : v = .none := hv
    subst e
    refine EqNone.eq_none_str ?_
    have e : (Nm.rnone == y) = false := by cases y <;> first | rfl | (revert hy; decide)
    rw [e] at h; exact h
  case rsev =>
    obtain ⟨u, rfl⟩ := hv
    refine EqMixed.eq_int_str ?_
    have e : (Nm.rsev == y) = false := by cases y <;> first | rfl | (revert hy; decide)
    rw [e] at h; exact h
  all_goals
    obtain ⟨u, hu⟩ := hv
    refine one _ u ?_ rfl hu
    revert hy
    cases y <;> decide +kernel
end
theorem own_names {rs ps : List Value} {rgs pgs : List Nm} (R : RegsV rs rgs) (P : ParsV ps pgs) : ∀ i, i < (rgs ++ pgs).length → ((rgs ++ pgs).getD i .ra).own = true := by
  intro i hi
  cases R <;> cases P <;> simp only [List.nil_append, List.cons_append, List.length_cons, List.length_nil] at hi ⊢ <;> (rcases i with _ | _ | _ | _ | i) <;> first | omega | decide
theorem strs_at {vs : List Value} {xs : List Nm} (h : StrsAre vs (xs.map Nm.str)) : ∀ i, i < xs.length → ∃ t, vs[i]? = some (.str (xs.getD i .ra).str t) := by
  induction xs generalizing vs with
  | nil => intro i h; exact absurd h (Nat.not_lt_zero _)
  | cons a r ih =>
    cases h with
    | cons y t hr =>
      intro i h
      cases i with
      | zero => exact ⟨t, rfl⟩
      | succ i => simpa using ih hr i (Nat.lt_of_succ_lt_succ h)
section
variable {prog : Program} {w : World} {A : Around} {E : Value → Shared → Prop} {s : Shared} {h₀ : Heap} {L : Addr} {led : Led}
theorem itemN {value slice : PySem.Expr} {D : Addr} {rs ps : List Value} {rgs pgs : List Nm} {n i : Nat} {u : Tok} {Q : Value → Shared → Prop} (N : News h₀ L s.heap led) (hm : (D, listOf (rs ++ ps).toArray n) ∈ led) (R : RegsV rs rgs) (P : ParsV ps pgs) (h1 : i < (rgs ++ pgs).length)
    (h : ∀ t, Q (.str ((rgs ++ pgs).getD i .ra).str t) s) (hs : subscripted slice false (.ref D) (.int (i : Int) u) = operate [.ref D, .int (i : Int) u] (getItem (.ref D) (.int (i : Int) u)) := by with_unfolding_all rfl) :
    wpAny (model prog w) A (subscriptTail value slice (.ref D) (.int (i : Int) u)) Q E s := by
  obtain ⟨t, e⟩ := strs_at (names_strs R P) i h1
  have hl := names_len R P
  exact item_litK (N.isList hm) (Int.natCast_nonneg i) (by omega) (by rw [Int.toNat_natCast]; exact e) (h t) hs
end
theorem roads_yes {us : List (Nm × List Way)} {i : Nat} {x y : Nm} {ws : List Way} (h : us[i]? = some (x, ws)) (e : (x == y) = true) : roadsOf (us.take (i + 1)) y = roadsOf (us.take i) y ++ [road ws] := by
  simp [roadsOf, List.take_add_one, h, e]
theorem roads_no {us : List (Nm × List Way)} {i : Nat} {x y : Nm} {ws : List Way} (h : us[i]? = some (x, ws)) (e : (x == y) = false) : roadsOf (us.take (i + 1)) y = roadsOf (us.take i) y := by
  simp [roadsOf, List.take_add_one, h, e]
/-- a use as values -/
def UV (frz : Led) (us : List (Nm × List Way)) (i : Nat) (a b : Value) : Prop := ∃ x ws q wvs k, NmV x a ∧ b = .ref q ∧ (q, listOf (List.toArray wvs) k) ∈ frz ∧ StrsAre wvs (ws.map Way.s) ∧ us[i]? = some (x, ws)
theorem us_pairs {frz led : Led} {uvs : List Value} {us : List (Nm × List Way)} (h : UsIn frz uvs us) (hs : ∀ p ∈ frz, p ∈ led) : ∀ i v, uvs[i]? = some v → ∃ t a b, v = Value.ref t ∧ (t, tupO [a, b]) ∈ led ∧ UV frz us i a b := by
  intro i v hv
  obtain ⟨a, q, nv, n, wvs, ws, k, rfl, h1, hn, h2, hw, hu⟩ := usIn_get h hv
  exact ⟨a, nv, .ref q, rfl, hs _ h1, n, ws, q, wvs, k, hn, rfl, h2, hw, hu⟩
/-- between the turns of the law's last loop -/
def DueJ (du cA : Addr) (rest : Led) (pws : List (Nat × Way)) (us : List (Nm × List Way)) (names : List Nm) (m₀ : Str → Option Value) (i : Nat) (m : Str → Option Value) (led : Led) : Prop :=
  ∃ dvs kd oA v, led = (du, listOf (List.toArray dvs) kd) :: (cA, oA) :: rest ∧ oA.data = .cell v ∧ StrsAre dvs ((dues pws us names i).map Way.s) ∧ m = m₀
theorem dues_length (pws : List (Nat × Way)) (us : List (Nm × List Way)) (names : List Nm) (n : Nat) : (dues pws us names n).length = n := by simp [dues]
theorem befores_length (pws : List (Nat × Way)) (n : Nat) : (befores pws n).length = n := by simp [befores]
theorem known_of {vs : List Value} {K : Known} (h : StrsAre vs (K.list.map Way.s)) : ∃ t0 t1 t2 t3, vs = K.vals t0 t1 t2 t3 := by
  cases h with
  | cons _ a h => cases h with
    | cons _ b h => cases h with
      | cons _ c h => cases h with
        | cons _ d h => cases h with
          | nil => exact ⟨a, b, c, d, rfl⟩
theorem name_head {g : Heap} {L : Addr} {h : Heap} {a : Addr} {o : Obj} {l : Led} (_ : News g L h ((a, o) :: l)) : ∃ d, d = a := ⟨a, rfl⟩
theorem fr_map {g : Heap} {L : Addr} {h : Heap} {m : Str → Option Value} (_ : Fr g L h m) : ∃ m', m' = m := ⟨m, rfl⟩
section
variable {prog : Program} {w : World} {A : Around} {E : Value → Shared → Prop} {s : Shared} {env : Env} {h₀ : Heap} {Q : Flow → Shared → Prop}
theorem due_end {I du cA : Addr} {it oA : Obj} {its : Array Value} {dvs : List Value} {kd tk tk₁ i : Nat} {rest led : Led} {pws : List (Nat × Way)} {us : List (Nm × List Way)} {names : List Nm} {m₀ : Str → Option Value} {h₁ h' : Heap} {v : Option Value}
    (F : Fr h₀ env.locals h' m₀) (N : News h₀ env.locals h' led) (hI : (I, it) ∈ led) (hu : (du, listOf its kd) ∈ led) (eu : its = dvs.toArray) (hcA : (cA, oA) ∈ led) (dA : oA.data = .cell v) (hs : ∀ p ∈ rest, p ∈ led)
    (o1 : @Ne Nat du I) (o2 : @Ne Nat cA I) (o3 : ∀ p ∈ rest, p.1 ≠ I) (V : StrsAre dvs ((dues pws us names (i + 1)).map Way.s)) :
    TurnPostN h₀ env.locals [(I, it)] (DueJ du cA rest pws us names m₀ (i + 1)) { s with heap := h₁, toks := tk₁ } Q .next { s with heap := h', toks := tk } := by
  subst eu
  refine ⟨h', tk, m₀, _, rfl, F, fun p hp => ?_, fun p hp hb => ?_, dvs, kd, oA, v, rfl, dA, V, rfl⟩
  · rcases List.mem_cons.mp hp with rfl | hp
    · exact N _ hI
    rcases List.mem_cons.mp hp with rfl | hp
    · exact N _ hu
    rcases List.mem_cons.mp hp with rfl | hp
    · exact N _ hcA
    · exact N _ (hs p hp)
  · have hb := List.mem_singleton.mp hb
    rcases List.mem_cons.mp hp with rfl | hp
    · exact o1 hb
    rcases List.mem_cons.mp hp with rfl | hp
    · exact o2 hb
    · exact o3 p hp hb
end
section
variable {prog : Program} {w : World} {A : Around} {E : Value → Shared → Prop} {s : Shared} {a b : Addr} {xs ys : List Value} {ws : List Way} {Q : Value → Shared → Prop}
theorem eq_waysT (ha : s.heap.IsList a xs.toArray) (hb : s.heap.IsList b ys.toArray) (hi : StrsAre xs (ws.map Way.s)) (hj : StrsAre ys (ws.map Way.s)) (hu : A.units + 64 < cLine) (h : Q (.bool true) s) :
    wpAny (model prog w) A (compareOp .Eq (.ref a) (.ref b)) Q E s := eq_ways ha hb hi hj hu (by rw [decide_eq_true rfl]; exact h)
theorem ne_way {x : Way} {t u : Tok} (h : Q (.bool (x != .bi)) s) : wpAny (model prog w) A (compareOp .NotEq (.str x.s t) (.str (Str.ofString "bi") u)) Q E s := by
  refine ne_str ?_
  have e : (x.s != Str.ofString "bi") = (x != .bi) := by cases x <;> decide +kernel
  rw [e]; exact h
end
theorem roads_length (us : List (Nm × List Way)) (y : Nm) : (roadsOf us y).length ≤ us.length := by
  unfold roadsOf; rw [List.length_map]; exact List.length_filter_le _ _

local macro_rules | `(tactic| k_ne) => `(tactic| first | with_reducible assumption | exact Ne.symm (by with_reducible assumption) | exact ne_lt (by with_reducible assumption) (by k_mem) | exact ne_gt (by with_reducible assumption) (by k_mem) | exact df_mem (by with_reducible assumption) (by k_mem) | exact Ne.symm (df_mem (by with_reducible assumption) (by k_mem)) | exact df_mem2 (by with_reducible assumption) (by k_mem) (by k_mem) | exact Ne.symm (df_mem2 (by with_reducible assumption) (by k_mem) (by k_mem)) | exact ne_mem (by with_reducible assumption) (by k_mem) | exact ne_mem' (by with_reducible assumption) (by k_mem) | ((repeat with_reducible refine ne_up ?_); (with_reducible first | exact ne_u1 _ | exact ne_u2 _ | exact ne_u3 _ | exact ne_u4 _ | exact Ne.symm (ne_u1 _) | exact Ne.symm (ne_u2 _) | exact Ne.symm (ne_u3 _) | exact Ne.symm (ne_u4 _))))
local macro_rules | `(tactic| k_mem) => `(tactic| first | with_reducible assumption | ((with_reducible first | refine mem_inl ?_ | refine mem_inl2 ?_); assumption) | ((with_reducible first | refine mem_inr ?_ | refine mem_inr2 ?_); k_mem) | assumption)
local macro_rules | `(tactic| k_all) => `(tactic| first | with_reducible assumption | ((with_reducible refine nea_app ?_ ?_) <;> k_all))

theorem stricter_ok {w mean mg mb} {a b : Way} {t₁ t₂ : Tok} :
    Sp w mean mg mb 22 1 10 [.str a.s t₁, .str b.s t₂] (fun _ => True) [] (PureP fun r => ∃ t, r = .str (a.max b).s t) := by
  unfold Sp Pg LZ
  k_fill
  intro dp un gd cn cs aa ccd cl outer A₀ base h₀ L m s Q E B F X N T hk hd hu hz hret
  refine wpAny_call ?_
  k_dflt (refine code_defG (by k_asm) (by k_asm) (by k_asm) (by k_asm) (by k_asm) (by exact rfl) (by exact rfl) (by assumption) (by k_is) (by k_is) (by first | exact rm0 (by assumption) | ktr_room) (by exact BindsTo.of_eq rfl) (by exact locs rfl) ?_ (by exact rfl) (by exact rfl) (by exact rfl) (by decide); k_whole)
  intro g' L' h' FG' F' N' B' X' T' kG'
  (try dsimp only)
  (try k_fold)
  (try ((with_reducible show wpAny _ _ _ _ _ _); k_gentoks))
  cases a <;> cases b <;> (try dsimp only [Way.s, Way.max, Way.n, Nat.reduceLeDiff, ge_iff_le, if_true, if_false, reduceIte])
  all_goals (w_top off; repeat' (first | (k_unfold; (try dsimp only)) | ((with_reducible show wpAny _ _ (compareOp CmpOp.In _ (Value.ref _)) _ _ _); first | (k_dflt (first | refine inWaysB .bi rfl (by k_asm) (by with_reducible assumption) (by assumption) ?_ | refine inWaysB .co rfl (by k_asm) (by with_reducible assumption) (by assumption) ?_ | refine inWaysB .inn rfl (by k_asm) (by with_reducible assumption) (by assumption) ?_); k_whole; (try ((with_reducible show wpAny _ _ _ _ _ _); k_gentoks)))) | (k_end; wrow_close) | walk1 | (dsimp only; walk1) | (leave1; (try dsimp only))))
  all_goals exact hret _ _ _ _ (by assumption) (by assumption) (keep_of (by assumption) (by assumption)) ⟨_, rfl⟩
theorem within_ok {w mean mg mb} {a b : Way} {t₁ t₂ : Tok} :
    Sp w mean mg mb 29 1 10 [.str a.s t₁, .str b.s t₂] (fun _ => True) [] (PureP fun r => ∃ t, r = .str (a.mul b).s t) := by
  unfold Sp Pg LZ
  k_fill
  intro dp un gd cn cs aa ccd cl outer A₀ base h₀ L m s Q E B F X N T hk hd hu hz hret
  refine wpAny_call ?_
  k_dflt (refine code_defG (by k_asm) (by k_asm) (by k_asm) (by k_asm) (by k_asm) (by exact rfl) (by exact rfl) (by assumption) (by k_is) (by k_is) (by first | exact rm0 (by assumption) | ktr_room) (by exact BindsTo.of_eq rfl) (by exact locs rfl) ?_ (by exact rfl) (by exact rfl) (by exact rfl) (by decide); k_whole)
  intro g' L' h' FG' F' N' B' X' T' kG'
  (try dsimp only)
  (try k_fold)
  (try ((with_reducible show wpAny _ _ _ _ _ _); k_gentoks))
  cases a <;> cases b <;> (try dsimp only [Way.s, Way.mul])
  all_goals (w_top off; repeat' (first | (k_unfold; (try dsimp only)) | ((with_reducible show wpAny _ _ (compareOp CmpOp.In _ (Value.ref _)) _ _ _); first | (k_dflt (first | refine inWaysB .bi rfl (by k_asm) (by with_reducible assumption) (by assumption) ?_ | refine inWaysB .co rfl (by k_asm) (by with_reducible assumption) (by assumption) ?_ | refine inWaysB .inn rfl (by k_asm) (by with_reducible assumption) (by assumption) ?_); k_whole; (try ((with_reducible show wpAny _ _ _ _ _ _); k_gentoks)))) | (k_end; wrow_close) | walk1 | (dsimp only; walk1) | (leave1; (try dsimp only))))
  all_goals exact hret _ _ _ _ (by assumption) (by assumption) (keep_of (by assumption) (by assumption)) ⟨_, rfl⟩
theorem road_ok {w mean mg mb} {l : Addr} {vs : List Value} {ws : List Way} (hi : StrsAre vs (ws.map Way.s)) :
    Sp w mean mg mb 136 1 10 [.ref l] (fun H => H.IsList l vs.toArray) [] (PureP fun r => ∃ t, r = .str (road ws).s t) := by
  unfold Sp Pg LZ
  k_fill
  intro dp un gd cn cs aa ccd cl outer A₀ base h₀ L m s Q E B F X N T hk hd hu hz hret
  refine wpAny_call ?_
  k_dflt (refine code_defG (by k_asm) (by k_asm) (by k_asm) (by k_asm) (by k_asm) (by exact rfl) (by exact rfl) (by assumption) (by k_is) (by k_is) (by first | exact rm0 (by assumption) | ktr_room) (by exact BindsTo.of_eq rfl) (by exact locs rfl) ?_ (by exact rfl) (by exact rfl) (by exact rfl) (by decide); k_whole)
  intro g' L' h' FG' F' N' B' X' T' kG'
  (try dsimp only)
  (try k_fold)
  (try ((with_reducible show wpAny _ _ _ _ _ _); k_gentoks))
  have gl := base_list0 hz (by assumption)
  (w_top off; repeat' (first | (k_unfold; (try dsimp only)) | ((with_reducible show wpAny _ _ (compareOp CmpOp.In _ (Value.ref _)) _ _ _); first | (k_dflt (first | refine inWaysB .bi rfl (by k_asm) (by with_reducible assumption) (by assumption) ?_ | refine inWaysB .co rfl (by k_asm) (by with_reducible assumption) (by assumption) ?_ | refine inWaysB .inn rfl (by k_asm) (by with_reducible assumption) (by assumption) ?_); k_whole; (try ((with_reducible show wpAny _ _ _ _ _ _); k_gentoks)))) | (k_end; wrow_close) | walk1 | (dsimp only; walk1) | (leave1; (try dsimp only))))
  · exact hret _ _ _ _ (by assumption) (by assumption) (keep_of (by assumption) (by assumption)) (road_bi (by assumption))
  · exact hret _ _ _ _ (by assumption) (by assumption) (keep_of (by assumption) (by assumption)) (road_in (by assumption) (by assumption))
  · exact hret _ _ _ _ (by assumption) (by assumption) (keep_of (by assumption) (by assumption)) (road_co (by assumption) (by assumption))
theorem strictest_ok {w mean mg mb} {l : Addr} {vs : List Value} {ws : List Way} (hi : StrsAre vs (ws.map Way.s)) :
    Sp w mean mg mb 143 1 10 [.ref l] (fun H => H.IsList l vs.toArray) [] (PureP fun r => ∃ t, r = .str (strictest ws).s t) := by
  unfold Sp Pg LZ
  k_fill
  intro dp un gd cn cs aa ccd cl outer A₀ base h₀ L m s Q E B F X N T hk hd hu hz hret
  refine wpAny_call ?_
  k_dflt (refine code_defG (by k_asm) (by k_asm) (by k_asm) (by k_asm) (by k_asm) (by exact rfl) (by exact rfl) (by assumption) (by k_is) (by k_is) (by first | exact rm0 (by assumption) | ktr_room) (by exact BindsTo.of_eq rfl) (by exact locs rfl) ?_ (by exact rfl) (by exact rfl) (by exact rfl) (by decide); k_whole)
  intro g' L' h' FG' F' N' B' X' T' kG'
  (try dsimp only)
  (try k_fold)
  (try ((with_reducible show wpAny _ _ _ _ _ _); k_gentoks))
  have gl := base_list0 hz (by assumption)
  (w_top off; repeat' (first | (k_unfold; (try dsimp only)) | ((with_reducible show wpAny _ _ (compareOp CmpOp.In _ (Value.ref _)) _ _ _); first | (k_dflt (first | refine inWaysB .bi rfl (by k_asm) (by with_reducible assumption) (by assumption) ?_ | refine inWaysB .co rfl (by k_asm) (by with_reducible assumption) (by assumption) ?_ | refine inWaysB .inn rfl (by k_asm) (by with_reducible assumption) (by assumption) ?_); k_whole; (try ((with_reducible show wpAny _ _ _ _ _ _); k_gentoks)))) | (k_end; wrow_close) | walk1 | (dsimp only; walk1) | (leave1; (try dsimp only))))
  · exact hret _ _ _ _ (by assumption) (by assumption) (keep_of (by assumption) (by assumption)) (strictest_in (by assumption))
  · exact hret _ _ _ _ (by assumption) (by assumption) (keep_of (by assumption) (by assumption)) (strictest_co (by assumption) (by assumption))
  · exact hret _ _ _ _ (by assumption) (by assumption) (keep_of (by assumption) (by assumption)) (strictest_bi (by assumption) (by assumption))

section
variable {w : World} {mean : ExcName → Option Value} {mg mb : Str → Option Value}
    {dp un : Nat} {gd : Option (List Code)} {cn : Str} {cs : Scope} {aa : Addr} {ccd : Value} {cl : List (Str × Addr)} {outer : List Env} {A₀ : Around} {base h₀ : Heap} {L : Addr} {m : Str → Option Value} {s : Shared} {Q E : Value → Shared → Prop} {led : Led}
    (B : Below A₀ base outer h₀) (F : Fr h₀ L s.heap m) (X : (hd.heap_39 w.params).In h₀) (N : News h₀ L s.heap led) (T : Top hd.view_39 LZ mean mg mb h₀) (hk : cs.kind = .function)
include B F X N T hk
theorem stricter_call {a b : Way} {t₁ t₂ : Tok} (hd : dp + 1 < recursionLimit) (hu : un + 10 < cLine)
    (ret : ∀ t' h' tk', Fr h₀ L h' m → News h₀ L h' led → Q (.str (a.max b).s t') { s with heap := h', toks := tk' }) :
    wpAny (model Pg w) (ktrTop dp un gd cn cs L aa ccd cl outer) (call (.ref 22) [.str a.s t₁, .str b.s t₂]) Q E s :=
  pure_use stricter_ok B F X N T hk hd hu trivial fun r h' tk' F' N' _ ⟨t, e⟩ => by rw [e]; exact ret t h' tk' F' N'
theorem within_call {a b : Way} {t₁ t₂ : Tok} (hd : dp + 1 < recursionLimit) (hu : un + 10 < cLine)
    (ret : ∀ t' h' tk', Fr h₀ L h' m → News h₀ L h' led → Q (.str (a.mul b).s t') { s with heap := h', toks := tk' }) :
    wpAny (model Pg w) (ktrTop dp un gd cn cs L aa ccd cl outer) (call (.ref 29) [.str a.s t₁, .str b.s t₂]) Q E s :=
  pure_use within_ok B F X N T hk hd hu trivial fun r h' tk' F' N' _ ⟨t, e⟩ => by rw [e]; exact ret t h' tk' F' N'
theorem road_call {l : Addr} {vs : List Value} {ws : List Way} {k : Nat} (hd : dp + 1 < recursionLimit) (hu : un + 10 < cLine) (hl : (l, listOf vs.toArray k) ∈ led) (hi : StrsAre vs (ws.map Way.s))
    (ret : ∀ t' h' tk', Fr h₀ L h' m → News h₀ L h' led → Q (.str (road ws).s t') { s with heap := h', toks := tk' }) :
    wpAny (model Pg w) (ktrTop dp un gd cn cs L aa ccd cl outer) (call (.ref 136) [.ref l]) Q E s :=
  pure_use (road_ok hi) B F X N T hk hd hu (N.isList hl) fun r h' tk' F' N' _ ⟨t, e⟩ => by rw [e]; exact ret t h' tk' F' N'
theorem strictest_call {l : Addr} {vs : List Value} {ws : List Way} {k : Nat} (hd : dp + 1 < recursionLimit) (hu : un + 10 < cLine) (hl : (l, listOf vs.toArray k) ∈ led) (hi : StrsAre vs (ws.map Way.s))
    (ret : ∀ t' h' tk', Fr h₀ L h' m → News h₀ L h' led → Q (.str (strictest ws).s t') { s with heap := h', toks := tk' }) :
    wpAny (model Pg w) (ktrTop dp un gd cn cs L aa ccd cl outer) (call (.ref 143) [.ref l]) Q E s :=
  pure_use (strictest_ok hi) B F X N T hk hd hu (N.isList hl) fun r h' tk' F' N' _ ⟨t, e⟩ => by rw [e]; exact ret t h' tk' F' N'
end

theorem dip_ok {w mean mg mb} {jar : Addr} {x y : Int} {tx ty : Tok} {top : Int} {tt : Tok} (hx : 0 ≤ x) (hy : 0 ≤ y) (hy2 : y < 2147483647) (htop : 0 < top) (htop2 : top < 1000) :
    Sp w mean mg mb 122 1 10 [.ref jar, .int top tt] (fun _ => True) [(jar, jarO x y tx ty)] (JarP0 jar fun r => ∃ v t, r = .int v t ∧ 0 ≤ v ∧ v < top) := by
  unfold Sp Pg LZ
  k_fill
  intro dp un gd cn cs aa ccd cl outer A₀ base h₀ L m s Q E B F X N T hk hd hu hz hret
  refine wpAny_call ?_
  k_dflt (refine code_defG (by k_asm) (by k_asm) (by k_asm) (by k_asm) (by k_asm) (by exact rfl) (by exact rfl) (by assumption) (by k_is) (by k_is) (by first | exact rm0 (by assumption) | ktr_room) (by exact BindsTo.of_eq rfl) (by exact locs rfl) ?_ (by exact rfl) (by exact rfl) (by exact rfl) (by decide); k_whole)
  intro g' L' h' FG' F' N' B' X' T' kG'
  (try dsimp only)
  (try k_fold)
  (try ((with_reducible show wpAny _ _ _ _ _ _); k_gentoks))
  dsimp only [jarO] at *
  (w_top off; repeat' (first | (k_unfold; (try dsimp only)) | ((with_reducible show wpAny _ _ (binaryOp Operator.Mult (Value.int _ _) (Value.int _ _)) _ _ _); first | (with_reducible refine mul_int ?_ fits_one; (try ((with_reducible show wpAny _ _ _ _ _ _); k_gentoks)))) | (k_end; wrow_close) | walk1 | (dsimp only; walk1) | (leave1; (try dsimp only))))
  · refine hret _ _ _ _ (by assumption) (by assumption) (keep_of (by assumption) (by assumption)) ⟨_, _, _, _, rfl, Int.fdiv_nonneg hx (by omega), hy, hy2, _, _, rfl, ?_, ?_⟩
    · exact Int.fmod_nonneg_of_pos _ htop
    · exact Int.fmod_lt_of_pos _ htop
  · refine hret _ _ _ _ (by assumption) (by assumption) (keep_of (by assumption) (by assumption)) ⟨_, _, _, _, rfl, hx, ?_, ?_, _, _, rfl, ?_, ?_⟩
    · exact Int.fmod_nonneg_of_pos _ (by decide)
    · exact Int.fmod_lt_of_pos _ (by decide)
    · exact Int.fmod_nonneg_of_pos _ htop
    · exact Int.fmod_lt_of_pos _ htop

section
variable {w : World} {mean : ExcName → Option Value} {mg mb : Str → Option Value}
    {dp un : Nat} {gd : Option (List Code)} {cn : Str} {cs : Scope} {aa : Addr} {ccd : Value} {cl : List (Str × Addr)} {outer : List Env} {A₀ : Around} {base h₀ : Heap} {L : Addr} {m : Str → Option Value} {s : Shared} {Q E : Value → Shared → Prop} {led rest : Led} {jar : Addr} {x y : Int} {tx ty : Tok}
    (B : Below A₀ base outer h₀) (F : Fr h₀ L s.heap m) (X : (hd.heap_39 w.params).In h₀) (N : News h₀ L s.heap led) (T : Top hd.view_39 LZ mean mg mb h₀) (hk : cs.kind = .function)
include B F X N T hk
theorem dip_call {top : Int} {tt : Tok} (hd : dp + 1 < recursionLimit) (hu : un + 10 < cLine) (hm : (jar, jarO x y tx ty) ∈ led) (hr : Rest [jar] led rest) (hx : 0 ≤ x) (hy : 0 ≤ y) (hy2 : y < 2147483647) (h0 : 0 < top) (h1 : top < 1000)
    (ret : ∀ x' y' tx' ty' v' t' h' tk', Fr h₀ L h' m → News h₀ L h' ((jar, jarO x' y' tx' ty') :: rest) → 0 ≤ x' → 0 ≤ y' → y' < 2147483647 → 0 ≤ v' → v' < top → Q (.int v' t') { s with heap := h', toks := tk' }) :
    wpAny (model Pg w) (ktrTop dp un gd cn cs L aa ccd cl outer) (call (.ref 122) [.ref jar, .int top tt]) Q E s :=
  jar_use (dip_ok hx hy hy2 h0 h1) B F X N T hk hd hu hm trivial hr fun x' y' tx' ty' r h' tk' F' N' _ hx' hy' hy2' ⟨v, t, e, a, b⟩ => by rw [e]; exact ret x' y' tx' ty' v t h' tk' F' N' hx' hy' hy2' a b
end

theorem one_ok {w mean mg mb} {jar : Addr} {x y : Int} {tx ty : Tok} {th : Addr} {vs : List Value} (hx : 0 ≤ x) (hy : 0 ≤ y) (hy2 : y < 2147483647) (h0 : 0 < vs.length) (h1 : vs.length < 1000) (hj : jar ≠ th) :
    Sp w mean mg mb 129 2 20 [.ref jar, .ref th] (fun H => H.IsList th vs.toArray) [(jar, jarO x y tx ty)] (JarP0 jar fun r => r ∈ vs) := by
  unfold Sp Pg LZ
  k_fill
  intro dp un gd cn cs aa ccd cl outer A₀ base h₀ L m s Q E B F X N T hk hd hu hz hret
  refine wpAny_call ?_
  k_dflt (refine code_defG (by k_asm) (by k_asm) (by k_asm) (by k_asm) (by k_asm) (by exact rfl) (by exact rfl) (by assumption) (by k_is) (by k_is) (by first | exact rm0 (by assumption) | ktr_room) (by exact BindsTo.of_eq rfl) (by exact locs rfl) ?_ (by exact rfl) (by exact rfl) (by exact rfl) (by decide); k_whole)
  intro g' L' h' FG' F' N' B' X' T' kG'
  (try dsimp only)
  (try k_fold)
  (try ((with_reducible show wpAny _ _ _ _ _ _); k_gentoks))
  have gl := base_list hz (by assumption) (fun p hp => by rw [List.mem_singleton.mp hp]; exact hj)
  (w_top off; repeat' (first | (k_unfold; (try dsimp only)) | ((with_reducible show wpAny _ _ (call (Value.builtin _) _) _ _ _); first | ((with_reducible show wpAny _ _ (call (Value.builtin "len") [Value.ref _]) _ _ _); with_unfolding_all (refine lenB (by k_asm) (by with_reducible assumption) (by assumption) ?_; k_whole); (try ((with_reducible show wpAny _ _ _ _ _ _); k_gentoks)))) | ((with_reducible show wpAny _ _ (subscriptTail _ _ (Value.ref _) (Value.int _ _)) _ _ _); first | (with_unfolding_all (refine itemB (by k_asm) (by with_reducible assumption) (by assumption) (by assumption) (by assumption) ?_ (by with_unfolding_all rfl); k_whole); intro v' hv'; (try ((with_reducible show wpAny _ _ _ _ _ _); k_gentoks)))) | ((with_reducible show wpAny _ _ (call (Value.ref _) _) _ _ _); first | ((with_reducible show wpAny _ _ (call (Value.ref 122) _) _ _ _); k_dflt (refine dip_call (by k_asm) (by k_asm) (by k_asm) (by k_asm) (by k_asm) (by first | exact rfl | assumption) (by first | exact rm (by assumption) (by rfl) | ktr_room) (by first | exact un3 (by assumption) (by rfl) | ktr_units) (by k_mem) (by ((repeat' (first | (with_reducible first | exact Rest.nil | refine' Rest.d1 ?_ | refine' Rest.d2 ?_ | refine' Rest.d3 ?_ | refine' Rest.d4 ?_ | refine' Rest.d5 ?_ | refine' Rest.d6 ?_ | refine' Rest.d7 ?_ | refine' Rest.d8 ?_ | refine' Rest.d9 ?_ | refine' Rest.d10 ?_ | refine' Rest.d11 ?_) | (refine' Rest.keep (by ((repeat' (first | with_reducible exact nea_nil | exact df_all (by with_reducible assumption) | exact df_allm (by with_reducible assumption) (by k_mem) | refine nea_cons (by k_ne) ?_)); done)) ?_) | exact Rest.all (by with_reducible assumption) | exact Rest.all (rest_one (by with_reducible assumption)) | exact Rest.all (rest_two (by with_reducible assumption) (by with_reducible assumption)) | (with_reducible first | refine' Rest.app (by assumption) ?_ | refine' Rest.app (rest_one (by assumption)) ?_ | refine' Rest.app (rest_two (by assumption) (by assumption)) ?_ | refine' Rest.drop ?_))); done)) (by assumption) (by assumption) (by assumption) (by first | assumption | decide | exact Nat.le_of_ble_eq_true rfl | omega) (by first | assumption | decide | omega) ?_; k_whole); intro x' y' tx' ty' v' t' h' tk' F' N' hx' hy' hy2' hv0' hv1'; (try k_fold); (try ((with_reducible show wpAny _ _ _ _ _ _); k_gentoks)))) | (k_end; wrow_close) | walk1 | (dsimp only; walk1) | (leave1; (try dsimp only))))
  exact hret _ _ _ _ (by assumption) (by assumption) (keep_of (by assumption) (by assumption)) ⟨_, _, _, _, rfl, by assumption, by assumption, by assumption, List.mem_of_getElem? (by assumption)⟩

section
variable {w : World} {mean : ExcName → Option Value} {mg mb : Str → Option Value}
    {dp un : Nat} {gd : Option (List Code)} {cn : Str} {cs : Scope} {aa : Addr} {ccd : Value} {cl : List (Str × Addr)} {outer : List Env} {A₀ : Around} {base h₀ : Heap} {L : Addr} {m : Str → Option Value} {s : Shared} {Q E : Value → Shared → Prop} {led rest : Led} {jar : Addr} {x y : Int} {tx ty : Tok}
    (B : Below A₀ base outer h₀) (F : Fr h₀ L s.heap m) (X : (hd.heap_39 w.params).In h₀) (N : News h₀ L s.heap led) (T : Top hd.view_39 LZ mean mg mb h₀) (hk : cs.kind = .function)
include B F X N T hk
theorem one_any {th : Addr} {vs : List Value} {k : Nat} {D : Value → Prop} (hd : dp + 2 < recursionLimit) (hu : un + 20 < cLine) (hm : (jar, jarO x y tx ty) ∈ led) (hr : Rest [jar] led rest) (hx : 0 ≤ x) (hy : 0 ≤ y) (hy2 : y < 2147483647)
    (ht : (th, listOf vs.toArray k) ∈ led) (hD : ∀ v, v ∈ vs → D v) (h0 : 0 < vs.length) (h1 : vs.length < 1000) (hj : jar ≠ th)
    (ret : ∀ x' y' tx' ty' r h' tk', Fr h₀ L h' m → News h₀ L h' ((jar, jarO x' y' tx' ty') :: rest) → 0 ≤ x' → 0 ≤ y' → y' < 2147483647 → D r → Q r { s with heap := h', toks := tk' }) :
    wpAny (model Pg w) (ktrTop dp un gd cn cs L aa ccd cl outer) (call (.ref 129) [.ref jar, .ref th]) Q E s :=
  jar_use (one_ok hx hy hy2 h0 h1 hj) B F X N T hk hd hu hm (N.isList ht) hr fun x' y' tx' ty' r h' tk' F' N' _ hx' hy' hy2' e => ret x' y' tx' ty' r h' tk' F' N' hx' hy' hy2' (hD r e)
theorem one_ways {th : Addr} {vs : List Value} {k : Nat} (hd : dp + 2 < recursionLimit) (hu : un + 20 < cLine) (hm : (jar, jarO x y tx ty) ∈ led) (hr : Rest [jar] led rest) (hx : 0 ≤ x) (hy : 0 ≤ y) (hy2 : y < 2147483647)
    (ht : (th, listOf vs.toArray k) ∈ led) (hD : ∀ v, v ∈ vs → ∃ (a : Way) (t : Tok), v = .str a.s t) (h0 : 0 < vs.length) (h1 : vs.length < 1000) (hj : jar ≠ th)
    (ret : ∀ x' y' tx' ty' (a : Way) t' h' tk', Fr h₀ L h' m → News h₀ L h' ((jar, jarO x' y' tx' ty') :: rest) → 0 ≤ x' → 0 ≤ y' → y' < 2147483647 → Q (.str a.s t') { s with heap := h', toks := tk' }) :
    wpAny (model Pg w) (ktrTop dp un gd cn cs L aa ccd cl outer) (call (.ref 129) [.ref jar, .ref th]) Q E s :=
  one_any B F X N T hk hd hu hm hr hx hy hy2 ht hD h0 h1 hj fun x' y' tx' ty' r h' tk' F' N' hx' hy' hy2' ⟨a, t, e⟩ => by rw [e]; exact ret x' y' tx' ty' a t h' tk' F' N' hx' hy' hy2'
end

theorem region_ok {w mean mg mb} {jar : Addr} {x y : Int} {tx ty : Tok} (hx : 0 ≤ x) (hy : 0 ≤ y) (hy2 : y < 2147483647) :
    Sp w mean mg mb 155 3 30 [.ref jar] (fun _ => True) [(jar, jarO x y tx ty)] (JarP0 jar fun r => ∃ n : Nm, n.isP = false ∧ NmV n r) := by
  unfold Sp Pg LZ
  k_fill
  intro dp un gd cn cs aa ccd cl outer A₀ base h₀ L m s Q E B F X N T hk hd hu hz hret
  refine wpAny_call ?_
  k_dflt (refine code_defG (by k_asm) (by k_asm) (by k_asm) (by k_asm) (by k_asm) (by exact rfl) (by exact rfl) (by assumption) (by k_is) (by k_is) (by first | exact rm0 (by assumption) | ktr_room) (by exact BindsTo.of_eq rfl) (by exact locs rfl) ?_ (by exact rfl) (by exact rfl) (by exact rfl) (by decide); k_whole)
  intro g' L' h' FG' F' N' B' X' T' kG'
  (try dsimp only)
  (try k_fold)
  (try ((with_reducible show wpAny _ _ _ _ _ _); k_gentoks))
  (w_top off; repeat' (first | (k_unfold; (try dsimp only)) | ((with_reducible show wpAny _ _ (newList _) _ _ _); first | (k_dflt (refine newListM (by k_asm) (by k_asm) (by exact Nat.le_of_ble_eq_true rfl) ?_; k_whole); intro D' h' F' N' l1; (try k_sweep); (try ((with_reducible show wpAny _ _ _ _ _ _); k_gentoks)))) | ((with_reducible show wpAny _ _ (call (Value.ref _) _) _ _ _); first | ((with_reducible show wpAny _ _ (call (Value.ref 129) _) _ _ _); k_dflt (refine one_any (by k_asm) (by k_asm) (by k_asm) (by k_asm) (by k_asm) (by first | exact rfl | assumption) (by first | exact rm (by assumption) (by rfl) | ktr_room) (by first | exact un3 (by assumption) (by rfl) | ktr_units) (by k_mem) (by ((repeat' (first | (with_reducible first | exact Rest.nil | refine' Rest.d1 ?_ | refine' Rest.d2 ?_ | refine' Rest.d3 ?_ | refine' Rest.d4 ?_ | refine' Rest.d5 ?_ | refine' Rest.d6 ?_ | refine' Rest.d7 ?_ | refine' Rest.d8 ?_ | refine' Rest.d9 ?_ | refine' Rest.d10 ?_ | refine' Rest.d11 ?_) | (refine' Rest.keep (by ((repeat' (first | with_reducible exact nea_nil | exact df_all (by with_reducible assumption) | exact df_allm (by with_reducible assumption) (by k_mem) | refine nea_cons (by k_ne) ?_)); done)) ?_) | exact Rest.all (by with_reducible assumption) | exact Rest.all (rest_one (by with_reducible assumption)) | exact Rest.all (rest_two (by with_reducible assumption) (by with_reducible assumption)) | (with_reducible first | refine' Rest.app (by assumption) ?_ | refine' Rest.app (rest_one (by assumption)) ?_ | refine' Rest.app (rest_two (by assumption) (by assumption)) ?_ | refine' Rest.drop ?_))); done)) (by assumption) (by assumption) (by assumption) (by k_mem) (by exact fun _ => mem_regions) (by exact Nat.le_of_ble_eq_true rfl) (by exact Nat.le_of_ble_eq_true rfl) (by k_ne) ?_; k_whole); intro x' y' tx' ty' r' h' tk' F' N' hx' hy' hy2' hr'; obtain ⟨n', hi', hn'⟩ := hr'; (try k_fold); (try ((with_reducible show wpAny _ _ _ _ _ _); k_gentoks)))) | (k_end; wrow_close) | walk1 | (dsimp only; walk1) | (leave1; (try dsimp only))))
  exact hret _ _ _ _ (by assumption) (news_sub (by assumption) (by ((repeat' (first | (with_reducible first | exact sub_nil | exact sub_self | refine sub_app ?_ ?_ | refine sub_cons ?_ ?_) | ((repeat with_reducible first | exact sub_self | exact sub_l sub_self | refine sub_tl ?_ | refine sub_r ?_); done) | ((with_reducible show _ ∈ _); k_mem) | (refine sub_cons (by k_mem) ?_))); done))) (keep_of (by assumption) (by assumption)) ⟨_, _, _, _, rfl, by assumption, by assumption, by assumption, _, by assumption, by assumption⟩

section
variable {w : World} {mean : ExcName → Option Value} {mg mb : Str → Option Value}
    {dp un : Nat} {gd : Option (List Code)} {cn : Str} {cs : Scope} {aa : Addr} {ccd : Value} {cl : List (Str × Addr)} {outer : List Env} {A₀ : Around} {base h₀ : Heap} {L : Addr} {m : Str → Option Value} {s : Shared} {Q E : Value → Shared → Prop} {led rest : Led} {jar : Addr} {x y : Int} {tx ty : Tok}
    (B : Below A₀ base outer h₀) (F : Fr h₀ L s.heap m) (X : (hd.heap_39 w.params).In h₀) (N : News h₀ L s.heap led) (T : Top hd.view_39 LZ mean mg mb h₀) (hk : cs.kind = .function)
include B F X N T hk
theorem region_call0 (hd : dp + 3 < recursionLimit) (hu : un + 30 < cLine) (hm : (jar, jarO x y tx ty) ∈ led) (hr : Rest [jar] led rest) (hx : 0 ≤ x) (hy : 0 ≤ y) (hy2 : y < 2147483647)
    (ret : ∀ x' y' tx' ty' r h' tk', Fr h₀ L h' m → News h₀ L h' ((jar, jarO x' y' tx' ty') :: rest) → 0 ≤ x' → 0 ≤ y' → y' < 2147483647 → (∃ n : Nm, n.isP = false ∧ NmV n r) → Q r { s with heap := h', toks := tk' }) :
    wpAny (model Pg w) (ktrTop dp un gd cn cs L aa ccd cl outer) (call (.ref 155) [.ref jar]) Q E s :=
  jar_use (region_ok hx hy hy2) B F X N T hk hd hu hm trivial hr fun x' y' tx' ty' r h' tk' F' N' _ hx' hy' hy2' e => ret x' y' tx' ty' r h' tk' F' N' hx' hy' hy2' e
end

theorem enum_ok {w mean mg mb} {jar : Addr} {x y : Int} {tx ty : Tok} {one fa other sa rd kn : Addr} {t u : Ty} {fvs svs rvs : List Value} {fus sus : List (Nm × List Way)} {ws : List Way} {kf ks kr kk : Nat} {K : Known} {t0 t1 t2 t3 : Tok} {frz : Led}
    (hx : 0 ≤ x) (hy : 0 ≤ y) (hy2 : y < 2147483647) (hne : ∀ p ∈ frz, p.1 ≠ jar)
    (T1 : TyIn frz (.ref one) t) (T2 : TyIn frz (.ref other) u) (U1 : UsIn frz fvs fus) (U2 : UsIn frz svs sus) (W : StrsAre rvs (ws.map Way.s))
    (m1 : (fa, listOf fvs.toArray kf) ∈ frz) (m2 : (sa, listOf svs.toArray ks) ∈ frz) (m3 : (rd, listOf rvs.toArray kr) ∈ frz) (m4 : (kn, listOf (K.vals t0 t1 t2 t3).toArray kk) ∈ frz)
    (b1 : fus.length < 1000) (b2 : sus.length < 1000) (b3 : ws.length < 100) (b4 : ∀ z ∈ fus, z.2.length < 100) (b5 : ∀ z ∈ sus, z.2.length < 100) :
    Sp w mean mg mb 169 4 40 [.ref jar, .ref one, .ref fa, .ref other, .ref sa, .ref rd, .ref kn] (fun H => ∀ p ∈ frz, H.get? p.1 = some p.2) [(jar, jarO x y tx ty)]
      (fun H n' r => ∃ x' y' tx' ty' new a ta ua uvs k r1 r2, n' = (jar, jarO x' y' tx' ty') :: new ∧ 0 ≤ x' ∧ 0 ≤ y' ∧ y' < 2147483647 ∧ (∀ p ∈ new, H.get? p.1 = none) ∧ r = .ref a ∧ (a, tupO [.ref ta, .ref ua]) ∈ new ∧
        (ua, listOf uvs.toArray k) ∈ new ∧ TyIn (frz ++ new) (.ref ta) (.adt r1 r2 t u) ∧ UsIn (frz ++ new) uvs (enumUses K r1 r2 fus sus ws)) := by
  unfold Sp Pg LZ
  k_fill
  intro dp un gd cn cs aa ccd cl outer A₀ base h₀ L m s Q E B F X N T hk hd hu hz hret
  refine wpAny_call ?_
  k_dflt (refine code_defG (by k_asm) (by k_asm) (by k_asm) (by k_asm) (by k_asm) (by exact rfl) (by exact rfl) (by assumption) (by k_is) (by k_is) (by first | exact rm0 (by assumption) | ktr_room) (by exact BindsTo.of_eq rfl) (by exact locs rfl) ?_ (by exact rfl) (by exact rfl) (by exact rfl) (by decide); k_whole)
  intro g' L' h' FG' F' N' B' X' T' kG'
  (try dsimp only)
  (try k_fold)
  (try ((with_reducible show wpAny _ _ _ _ _ _); k_gentoks))
  have gz := base_frz hz (by assumption) hne
  have g1 := gz.list m1
  have g2 := gz.list m2
  have g3 := gz.list m3
  have g4 := gz.list m4
  have hrl : rvs.length = ws.length := ways_len W
  dsimp only [Known.vals] at g4
  (w_top off; repeat' (first | (k_unfold; (try dsimp only)) | ((with_reducible show wpAny _ _ (newTuple _) _ _ _); first | (k_dflt (refine newTupleM (by k_asm) (by k_asm) (by exact Nat.le_of_ble_eq_true rfl) ?_; k_whole); intro D' h' F' N' l1; (try k_sweep); (try ((with_reducible show wpAny _ _ _ _ _ _); k_gentoks)))) | ((with_reducible show wpAny _ _ (newList _) _ _ _); first | (k_dflt (refine newListM (by k_asm) (by k_asm) (by exact Nat.le_of_ble_eq_true rfl) ?_; k_whole); intro D' h' F' N' l1; (try k_sweep); (try ((with_reducible show wpAny _ _ _ _ _ _); k_gentoks)))) | ((with_reducible show wpAny _ _ (call (Value.builtin _) _) _ _ _); first | ((with_reducible show wpAny _ _ (call (Value.builtin "list.append") [Value.ref _, _]) _ _ _); k_dflt (refine appendM (by k_asm) (by k_asm) (by k_upd) (by first | with_reducible assumption | exact Nat.le_of_ble_eq_true rfl | ((try simp only [List.size_toArray]); omega)) ?_; k_whole); intro h' F' N'; (try k_sweep); (try ((with_reducible show wpAny _ _ _ _ _ _); k_gentoks)))) | ((with_reducible show wpAny _ _ (call (Value.ref _) _) _ _ _); first | ((with_reducible show wpAny _ _ (call (Value.ref 155) _) _ _ _); k_dflt (refine region_call0 (by k_asm) (by k_asm) (by k_asm) (by k_asm) (by k_asm) (by first | exact rfl | assumption) (by first | exact rm (by assumption) (by rfl) | ktr_room) (by first | exact un3 (by assumption) (by rfl) | ktr_units) (by k_mem) (by ((repeat' (first | (with_reducible first | exact Rest.nil | refine' Rest.d1 ?_ | refine' Rest.d2 ?_ | refine' Rest.d3 ?_ | refine' Rest.d4 ?_ | refine' Rest.d5 ?_ | refine' Rest.d6 ?_ | refine' Rest.d7 ?_ | refine' Rest.d8 ?_ | refine' Rest.d9 ?_ | refine' Rest.d10 ?_ | refine' Rest.d11 ?_) | (refine' Rest.keep (by ((repeat' (first | with_reducible exact nea_nil | exact df_all (by with_reducible assumption) | exact df_allm (by with_reducible assumption) (by k_mem) | refine nea_cons (by k_ne) ?_)); done)) ?_) | exact Rest.all (by with_reducible assumption) | exact Rest.all (rest_one (by with_reducible assumption)) | exact Rest.all (rest_two (by with_reducible assumption) (by with_reducible assumption)) | (with_reducible first | refine' Rest.app (by assumption) ?_ | refine' Rest.app (rest_one (by assumption)) ?_ | refine' Rest.app (rest_two (by assumption) (by assumption)) ?_ | refine' Rest.drop ?_))); done)) (by assumption) (by assumption) (by assumption) ?_; k_whole); intro x' y' tx' ty' r' h' tk' F' N' hx' hy' hy2' hr'; obtain ⟨n', hi', hn'⟩ := hr'; (try k_fold); (try ((with_reducible show wpAny _ _ _ _ _ _); k_gentoks)))) | ((with_reducible show wpAny _ _ (binaryOp _ (Value.ref _) (Value.ref _)) _ _ _); first | (k_dflt (refine addL (by k_asm) (by k_asm) (by first | exact list_base (by k_asm) (by with_reducible assumption) | exact News.isList (by k_asm) (by k_mem)) (by first | exact list_base (by k_asm) (by with_reducible assumption) | exact News.isList (by k_asm) (by k_mem)) (by ((try simp only [List.length_cons, List.length_nil, List.length_append]); omega)) ?_; k_whole); intro D' h' F' N' l1; (try k_sweep); (try ((with_reducible show wpAny _ _ _ _ _ _); k_gentoks)))) | ((with_reducible show wpAny _ _ (subscriptTail _ _ (Value.ref _) (Value.int _ _)) _ _ _); first | (with_unfolding_all (refine itemT (by k_asm) (by with_reducible assumption) (by decide) (by decide) (by rfl) ?_ (by with_unfolding_all rfl); k_whole); (try ((with_reducible show wpAny _ _ _ _ _ _); k_gentoks))) | (with_unfolding_all (refine itemC (by k_asm) (by with_reducible assumption) (by decide) (by decide) (by rfl) ?_ (by with_unfolding_all rfl); k_whole); (try ((with_reducible show wpAny _ _ _ _ _ _); k_gentoks)))) | (k_end; wrow_close) | walk1 | (dsimp only; walk1) | (leave1; (try dsimp only))))
  with_unfolding_all refine' For_turns (by k_asm) ?_
  (w_top off; repeat' (first | (k_unfold; (try dsimp only)) | ((with_reducible show wpAny _ _ (newTuple _) _ _ _); first | (k_dflt (refine newTupleM (by k_asm) (by k_asm) (by exact Nat.le_of_ble_eq_true rfl) ?_; k_whole); intro D' h' F' N' l1; (try k_sweep); (try ((with_reducible show wpAny _ _ _ _ _ _); k_gentoks)))) | ((with_reducible show wpAny _ _ (newList _) _ _ _); first | (k_dflt (refine newListM (by k_asm) (by k_asm) (by exact Nat.le_of_ble_eq_true rfl) ?_; k_whole); intro D' h' F' N' l1; (try k_sweep); (try ((with_reducible show wpAny _ _ _ _ _ _); k_gentoks)))) | ((with_reducible show wpAny _ _ (call (Value.builtin _) _) _ _ _); first | ((with_reducible show wpAny _ _ (call (Value.builtin "list.append") [Value.ref _, _]) _ _ _); k_dflt (refine appendM (by k_asm) (by k_asm) (by k_upd) (by first | with_reducible assumption | exact Nat.le_of_ble_eq_true rfl | ((try simp only [List.size_toArray]); omega)) ?_; k_whole); intro h' F' N'; (try k_sweep); (try ((with_reducible show wpAny _ _ _ _ _ _); k_gentoks)))) | ((with_reducible show wpAny _ _ (call (Value.ref _) _) _ _ _); first | ((with_reducible show wpAny _ _ (call (Value.ref 155) _) _ _ _); k_dflt (refine region_call0 (by k_asm) (by k_asm) (by k_asm) (by k_asm) (by k_asm) (by first | exact rfl | assumption) (by first | exact rm (by assumption) (by rfl) | ktr_room) (by first | exact un3 (by assumption) (by rfl) | ktr_units) (by k_mem) (by ((repeat' (first | (with_reducible first | exact Rest.nil | refine' Rest.d1 ?_ | refine' Rest.d2 ?_ | refine' Rest.d3 ?_ | refine' Rest.d4 ?_ | refine' Rest.d5 ?_ | refine' Rest.d6 ?_ | refine' Rest.d7 ?_ | refine' Rest.d8 ?_ | refine' Rest.d9 ?_ | refine' Rest.d10 ?_ | refine' Rest.d11 ?_) | (refine' Rest.keep (by ((repeat' (first | with_reducible exact nea_nil | exact df_all (by with_reducible assumption) | exact df_allm (by with_reducible assumption) (by k_mem) | refine nea_cons (by k_ne) ?_)); done)) ?_) | exact Rest.all (by with_reducible assumption) | exact Rest.all (rest_one (by with_reducible assumption)) | exact Rest.all (rest_two (by with_reducible assumption) (by with_reducible assumption)) | (with_reducible first | refine' Rest.app (by assumption) ?_ | refine' Rest.app (rest_one (by assumption)) ?_ | refine' Rest.app (rest_two (by assumption) (by assumption)) ?_ | refine' Rest.drop ?_))); done)) (by assumption) (by assumption) (by assumption) ?_; k_whole); intro x' y' tx' ty' r' h' tk' F' N' hx' hy' hy2' hr'; obtain ⟨n', hi', hn'⟩ := hr'; (try k_fold); (try ((with_reducible show wpAny _ _ _ _ _ _); k_gentoks)))) | ((with_reducible show wpAny _ _ (binaryOp _ (Value.ref _) (Value.ref _)) _ _ _); first | (k_dflt (refine addL (by k_asm) (by k_asm) (by first | exact list_base (by k_asm) (by with_reducible assumption) | exact News.isList (by k_asm) (by k_mem)) (by first | exact list_base (by k_asm) (by with_reducible assumption) | exact News.isList (by k_asm) (by k_mem)) (by ((try simp only [List.length_cons, List.length_nil, List.length_append]); omega)) ?_; k_whole); intro D' h' F' N' l1; (try k_sweep); (try ((with_reducible show wpAny _ _ _ _ _ _); k_gentoks)))) | ((with_reducible show wpAny _ _ (subscriptTail _ _ (Value.ref _) (Value.int _ _)) _ _ _); first | (with_unfolding_all (refine itemT (by k_asm) (by with_reducible assumption) (by decide) (by decide) (by rfl) ?_ (by with_unfolding_all rfl); k_whole); (try ((with_reducible show wpAny _ _ _ _ _ _); k_gentoks))) | (with_unfolding_all (refine itemC (by k_asm) (by with_reducible assumption) (by decide) (by decide) (by rfl) ?_ (by with_unfolding_all rfl); k_whole); (try ((with_reducible show wpAny _ _ _ _ _ _); k_gentoks)))) | (k_end; wrow_close) | walk1 | (dsimp only; walk1) | (leave1; (try dsimp only))))
  with_unfolding_all refine' iter_uses (je := (jar, _)) [Str.ofString "name", Str.ofString "ways"] (fun z => (z.1, z.2 ++ [K.k2])) ?a1 g1 ?a2 ?a3 ?a4 ?a5 ?a6 ?a12 ?a13 ?a7 U1 ?a8 ?a9 ?_ ?a10 ?_
  case a1 => rfl
  case a2 => k_asm
  case a3 => k_asm
  case a4 => rfl
  case a5 => k_mem
  case a6 => exact rfl
  case a12 => k_mem
  case a13 => k_ne
  case a7 => ((repeat' (first | (with_reducible first | exact Rest.nil | refine' Rest.d1 ?_ | refine' Rest.d2 ?_ | refine' Rest.d3 ?_ | refine' Rest.d4 ?_ | refine' Rest.d5 ?_ | refine' Rest.d6 ?_ | refine' Rest.d7 ?_ | refine' Rest.d8 ?_ | refine' Rest.d9 ?_ | refine' Rest.d10 ?_ | refine' Rest.d11 ?_) | (refine' Rest.keep (by ((repeat' (first | with_reducible exact nea_nil | exact df_all (by with_reducible assumption) | exact df_allm (by with_reducible assumption) (by k_mem) | refine nea_cons (by k_ne) ?_)); done)) ?_) | exact Rest.all (by with_reducible assumption) | exact Rest.all (rest_one (by with_reducible assumption)) | exact Rest.all (rest_two (by with_reducible assumption) (by with_reducible assumption)) | (with_reducible first | refine' Rest.app (by assumption) ?_ | refine' Rest.app (rest_one (by assumption)) ?_ | refine' Rest.app (rest_two (by assumption) (by assumption)) ?_ | refine' Rest.drop ?_))); done)
  case a10 => exact fun _ => rfl
  case a8 => exact .cons (by k_mem) (by assumption) (by k_mem) (ways_app (ws' := [K.k0]) W (.cons _ _ .nil)) (.cons (by k_mem) (by assumption) (by k_mem) (ways_app (ws' := [K.k1]) W (.cons _ _ .nil)) .nil)
  case a9 => (simp only [List.length_append, List.length_map, List.length_cons, List.length_nil]; omega)
  · intro R I it a q nv n wvs ws' kk' uvals' k' u h₁ tk₁ mm1 mn mm2 ms mi ml o1 o2 r1 r2 r3 F1 N1
    have hb : ws'.length < 100 := b4 _ mi
    have o1' := neN o1
    have o2' := neN o2
    have gT := gz.tup mm1
    have gL := gz.list mm2
    have hwl : wvs.length = ws'.length := ways_len ms
    (w_top off; repeat' (first | (k_unfold; (try dsimp only)) | ((with_reducible show wpAny _ _ (newTuple _) _ _ _); first | (k_dflt (refine newTupleM (by k_asm) (by k_asm) (by exact Nat.le_of_ble_eq_true rfl) ?_; k_whole); intro D' h' F' N' l1; (try k_sweep); (try ((with_reducible show wpAny _ _ _ _ _ _); k_gentoks)))) | ((with_reducible show wpAny _ _ (newList _) _ _ _); first | (k_dflt (refine newListM (by k_asm) (by k_asm) (by exact Nat.le_of_ble_eq_true rfl) ?_; k_whole); intro D' h' F' N' l1; (try k_sweep); (try ((with_reducible show wpAny _ _ _ _ _ _); k_gentoks)))) | ((with_reducible show wpAny _ _ (call (Value.builtin _) _) _ _ _); first | ((with_reducible show wpAny _ _ (call (Value.builtin "list.append") [Value.ref _, _]) _ _ _); k_dflt (refine appendM (by k_asm) (by k_asm) (by k_upd) (by first | with_reducible assumption | exact Nat.le_of_ble_eq_true rfl | ((try simp only [List.size_toArray]); omega)) ?_; k_whole); intro h' F' N'; (try k_sweep); (try ((with_reducible show wpAny _ _ _ _ _ _); k_gentoks)))) | ((with_reducible show wpAny _ _ (call (Value.ref _) _) _ _ _); first | ((with_reducible show wpAny _ _ (call (Value.ref 155) _) _ _ _); k_dflt (refine region_call0 (by k_asm) (by k_asm) (by k_asm) (by k_asm) (by k_asm) (by first | exact rfl | assumption) (by first | exact rm (by assumption) (by rfl) | ktr_room) (by first | exact un3 (by assumption) (by rfl) | ktr_units) (by k_mem) (by ((repeat' (first | (with_reducible first | exact Rest.nil | refine' Rest.d1 ?_ | refine' Rest.d2 ?_ | refine' Rest.d3 ?_ | refine' Rest.d4 ?_ | refine' Rest.d5 ?_ | refine' Rest.d6 ?_ | refine' Rest.d7 ?_ | refine' Rest.d8 ?_ | refine' Rest.d9 ?_ | refine' Rest.d10 ?_ | refine' Rest.d11 ?_) | (refine' Rest.keep (by ((repeat' (first | with_reducible exact nea_nil | exact df_all (by with_reducible assumption) | exact df_allm (by with_reducible assumption) (by k_mem) | refine nea_cons (by k_ne) ?_)); done)) ?_) | exact Rest.all (by with_reducible assumption) | exact Rest.all (rest_one (by with_reducible assumption)) | exact Rest.all (rest_two (by with_reducible assumption) (by with_reducible assumption)) | (with_reducible first | refine' Rest.app (by assumption) ?_ | refine' Rest.app (rest_one (by assumption)) ?_ | refine' Rest.app (rest_two (by assumption) (by assumption)) ?_ | refine' Rest.drop ?_))); done)) (by assumption) (by assumption) (by assumption) ?_; k_whole); intro x' y' tx' ty' r' h' tk' F' N' hx' hy' hy2' hr'; obtain ⟨n', hi', hn'⟩ := hr'; (try k_fold); (try ((with_reducible show wpAny _ _ _ _ _ _); k_gentoks)))) | ((with_reducible show wpAny _ _ (binaryOp _ (Value.ref _) (Value.ref _)) _ _ _); first | (k_dflt (refine addL (by k_asm) (by k_asm) (by first | exact list_base (by k_asm) (by with_reducible assumption) | exact News.isList (by k_asm) (by k_mem)) (by first | exact list_base (by k_asm) (by with_reducible assumption) | exact News.isList (by k_asm) (by k_mem)) (by ((try simp only [List.length_cons, List.length_nil, List.length_append]); omega)) ?_; k_whole); intro D' h' F' N' l1; (try k_sweep); (try ((with_reducible show wpAny _ _ _ _ _ _); k_gentoks)))) | ((with_reducible show wpAny _ _ (subscriptTail _ _ (Value.ref _) (Value.int _ _)) _ _ _); first | (with_unfolding_all (refine itemT (by k_asm) (by with_reducible assumption) (by decide) (by decide) (by rfl) ?_ (by with_unfolding_all rfl); k_whole); (try ((with_reducible show wpAny _ _ _ _ _ _); k_gentoks))) | (with_unfolding_all (refine itemC (by k_asm) (by with_reducible assumption) (by decide) (by decide) (by rfl) ?_ (by with_unfolding_all rfl); k_whole); (try ((with_reducible show wpAny _ _ _ _ _ _); k_gentoks)))) | (k_end; wrow_close) | walk1 | (dsimp only; walk1) | (leave1; (try dsimp only))))
    refine app_end (ws' := ws' ++ [K.k2]) (by k_asm) (by k_asm) (by k_mem) (by k_mem) (List.push_toArray ..) (by k_mem) (by k_mem) (by k_mem) ?_ ?_ ?_ ?_ ?_ ?_ ?_ ?_ o1 r3 ?_ ?_
    · ((repeat' (first | (with_reducible first | exact sub_nil | exact sub_self | refine sub_app ?_ ?_ | refine sub_cons ?_ ?_) | ((repeat with_reducible first | exact sub_self | exact sub_l sub_self | refine sub_tl ?_ | refine sub_r ?_); done) | ((with_reducible show _ ∈ _); k_mem) | (refine sub_cons (by k_mem) ?_))); done)
    all_goals first | (k_ne) | assumption | skip
    · exact ways_app ms (.cons _ _ .nil)
    · intro z hz'
      have h1 : z ≠ Str.ofString "name" := by rintro rfl; revert hz'; decide +kernel
      have h2 : z ≠ Str.ofString "ways" := by rintro rfl; revert hz'; decide +kernel
      simp only [if_neg h1, if_neg h2, hz', Bool.false_eq_true, if_false]
  intro uv2 kv2 nw2 u2 h2 tk2 s1 s2 s3 s4 V2 F2 N2
  simp only [List.cons_append, List.nil_append] at N2 V2
  (w_top off; repeat' (first | (k_unfold; (try dsimp only)) | ((with_reducible show wpAny _ _ (newTuple _) _ _ _); first | (k_dflt (refine newTupleM (by k_asm) (by k_asm) (by exact Nat.le_of_ble_eq_true rfl) ?_; k_whole); intro D' h' F' N' l1; (try k_sweep); (try ((with_reducible show wpAny _ _ _ _ _ _); k_gentoks)))) | ((with_reducible show wpAny _ _ (newList _) _ _ _); first | (k_dflt (refine newListM (by k_asm) (by k_asm) (by exact Nat.le_of_ble_eq_true rfl) ?_; k_whole); intro D' h' F' N' l1; (try k_sweep); (try ((with_reducible show wpAny _ _ _ _ _ _); k_gentoks)))) | ((with_reducible show wpAny _ _ (call (Value.builtin _) _) _ _ _); first | ((with_reducible show wpAny _ _ (call (Value.builtin "list.append") [Value.ref _, _]) _ _ _); k_dflt (refine appendM (by k_asm) (by k_asm) (by k_upd) (by first | with_reducible assumption | exact Nat.le_of_ble_eq_true rfl | ((try simp only [List.size_toArray]); omega)) ?_; k_whole); intro h' F' N'; (try k_sweep); (try ((with_reducible show wpAny _ _ _ _ _ _); k_gentoks)))) | ((with_reducible show wpAny _ _ (call (Value.ref _) _) _ _ _); first | ((with_reducible show wpAny _ _ (call (Value.ref 155) _) _ _ _); k_dflt (refine region_call0 (by k_asm) (by k_asm) (by k_asm) (by k_asm) (by k_asm) (by first | exact rfl | assumption) (by first | exact rm (by assumption) (by rfl) | ktr_room) (by first | exact un3 (by assumption) (by rfl) | ktr_units) (by k_mem) (by ((repeat' (first | (with_reducible first | exact Rest.nil | refine' Rest.d1 ?_ | refine' Rest.d2 ?_ | refine' Rest.d3 ?_ | refine' Rest.d4 ?_ | refine' Rest.d5 ?_ | refine' Rest.d6 ?_ | refine' Rest.d7 ?_ | refine' Rest.d8 ?_ | refine' Rest.d9 ?_ | refine' Rest.d10 ?_ | refine' Rest.d11 ?_) | (refine' Rest.keep (by ((repeat' (first | with_reducible exact nea_nil | exact df_all (by with_reducible assumption) | exact df_allm (by with_reducible assumption) (by k_mem) | refine nea_cons (by k_ne) ?_)); done)) ?_) | exact Rest.all (by with_reducible assumption) | exact Rest.all (rest_one (by with_reducible assumption)) | exact Rest.all (rest_two (by with_reducible assumption) (by with_reducible assumption)) | (with_reducible first | refine' Rest.app (by assumption) ?_ | refine' Rest.app (rest_one (by assumption)) ?_ | refine' Rest.app (rest_two (by assumption) (by assumption)) ?_ | refine' Rest.drop ?_))); done)) (by assumption) (by assumption) (by assumption) ?_; k_whole); intro x' y' tx' ty' r' h' tk' F' N' hx' hy' hy2' hr'; obtain ⟨n', hi', hn'⟩ := hr'; (try k_fold); (try ((with_reducible show wpAny _ _ _ _ _ _); k_gentoks)))) | ((with_reducible show wpAny _ _ (binaryOp _ (Value.ref _) (Value.ref _)) _ _ _); first | (k_dflt (refine addL (by k_asm) (by k_asm) (by first | exact list_base (by k_asm) (by with_reducible assumption) | exact News.isList (by k_asm) (by k_mem)) (by first | exact list_base (by k_asm) (by with_reducible assumption) | exact News.isList (by k_asm) (by k_mem)) (by ((try simp only [List.length_cons, List.length_nil, List.length_append]); omega)) ?_; k_whole); intro D' h' F' N' l1; (try k_sweep); (try ((with_reducible show wpAny _ _ _ _ _ _); k_gentoks)))) | ((with_reducible show wpAny _ _ (subscriptTail _ _ (Value.ref _) (Value.int _ _)) _ _ _); first | (with_unfolding_all (refine itemT (by k_asm) (by with_reducible assumption) (by decide) (by decide) (by rfl) ?_ (by with_unfolding_all rfl); k_whole); (try ((with_reducible show wpAny _ _ _ _ _ _); k_gentoks))) | (with_unfolding_all (refine itemC (by k_asm) (by with_reducible assumption) (by decide) (by decide) (by rfl) ?_ (by with_unfolding_all rfl); k_whole); (try ((with_reducible show wpAny _ _ _ _ _ _); k_gentoks)))) | (k_end; wrow_close) | walk1 | (dsimp only; walk1) | (leave1; (try dsimp only))))
  with_unfolding_all refine' For_turns (by k_asm) ?_
  (w_top off; repeat' (first | (k_unfold; (try dsimp only)) | ((with_reducible show wpAny _ _ (newTuple _) _ _ _); first | (k_dflt (refine newTupleM (by k_asm) (by k_asm) (by exact Nat.le_of_ble_eq_true rfl) ?_; k_whole); intro D' h' F' N' l1; (try k_sweep); (try ((with_reducible show wpAny _ _ _ _ _ _); k_gentoks)))) | ((with_reducible show wpAny _ _ (newList _) _ _ _); first | (k_dflt (refine newListM (by k_asm) (by k_asm) (by exact Nat.le_of_ble_eq_true rfl) ?_; k_whole); intro D' h' F' N' l1; (try k_sweep); (try ((with_reducible show wpAny _ _ _ _ _ _); k_gentoks)))) | ((with_reducible show wpAny _ _ (call (Value.builtin _) _) _ _ _); first | ((with_reducible show wpAny _ _ (call (Value.builtin "list.append") [Value.ref _, _]) _ _ _); k_dflt (refine appendM (by k_asm) (by k_asm) (by k_upd) (by first | with_reducible assumption | exact Nat.le_of_ble_eq_true rfl | ((try simp only [List.size_toArray]); omega)) ?_; k_whole); intro h' F' N'; (try k_sweep); (try ((with_reducible show wpAny _ _ _ _ _ _); k_gentoks)))) | ((with_reducible show wpAny _ _ (call (Value.ref _) _) _ _ _); first | ((with_reducible show wpAny _ _ (call (Value.ref 155) _) _ _ _); k_dflt (refine region_call0 (by k_asm) (by k_asm) (by k_asm) (by k_asm) (by k_asm) (by first | exact rfl | assumption) (by first | exact rm (by assumption) (by rfl) | ktr_room) (by first | exact un3 (by assumption) (by rfl) | ktr_units) (by k_mem) (by ((repeat' (first | (with_reducible first | exact Rest.nil | refine' Rest.d1 ?_ | refine' Rest.d2 ?_ | refine' Rest.d3 ?_ | refine' Rest.d4 ?_ | refine' Rest.d5 ?_ | refine' Rest.d6 ?_ | refine' Rest.d7 ?_ | refine' Rest.d8 ?_ | refine' Rest.d9 ?_ | refine' Rest.d10 ?_ | refine' Rest.d11 ?_) | (refine' Rest.keep (by ((repeat' (first | with_reducible exact nea_nil | exact df_all (by with_reducible assumption) | exact df_allm (by with_reducible assumption) (by k_mem) | refine nea_cons (by k_ne) ?_)); done)) ?_) | exact Rest.all (by with_reducible assumption) | exact Rest.all (rest_one (by with_reducible assumption)) | exact Rest.all (rest_two (by with_reducible assumption) (by with_reducible assumption)) | (with_reducible first | refine' Rest.app (by assumption) ?_ | refine' Rest.app (rest_one (by assumption)) ?_ | refine' Rest.app (rest_two (by assumption) (by assumption)) ?_ | refine' Rest.drop ?_))); done)) (by assumption) (by assumption) (by assumption) ?_; k_whole); intro x' y' tx' ty' r' h' tk' F' N' hx' hy' hy2' hr'; obtain ⟨n', hi', hn'⟩ := hr'; (try k_fold); (try ((with_reducible show wpAny _ _ _ _ _ _); k_gentoks)))) | ((with_reducible show wpAny _ _ (binaryOp _ (Value.ref _) (Value.ref _)) _ _ _); first | (k_dflt (refine addL (by k_asm) (by k_asm) (by first | exact list_base (by k_asm) (by with_reducible assumption) | exact News.isList (by k_asm) (by k_mem)) (by first | exact list_base (by k_asm) (by with_reducible assumption) | exact News.isList (by k_asm) (by k_mem)) (by ((try simp only [List.length_cons, List.length_nil, List.length_append]); omega)) ?_; k_whole); intro D' h' F' N' l1; (try k_sweep); (try ((with_reducible show wpAny _ _ _ _ _ _); k_gentoks)))) | ((with_reducible show wpAny _ _ (subscriptTail _ _ (Value.ref _) (Value.int _ _)) _ _ _); first | (with_unfolding_all (refine itemT (by k_asm) (by with_reducible assumption) (by decide) (by decide) (by rfl) ?_ (by with_unfolding_all rfl); k_whole); (try ((with_reducible show wpAny _ _ _ _ _ _); k_gentoks))) | (with_unfolding_all (refine itemC (by k_asm) (by with_reducible assumption) (by decide) (by decide) (by rfl) ?_ (by with_unfolding_all rfl); k_whole); (try ((with_reducible show wpAny _ _ _ _ _ _); k_gentoks)))) | (k_end; wrow_close) | walk1 | (dsimp only; walk1) | (leave1; (try dsimp only))))
  with_unfolding_all refine' iter_uses (je := (jar, _)) [Str.ofString "name", Str.ofString "ways"] (fun z => (z.1, z.2 ++ [K.k3])) ?a1 g2 ?a2 ?a3 ?a4 ?a5 ?a6 ?a12 ?a13 ?a7 U2 ?a8 ?a9 ?_ ?a10 ?_
  case a1 => rfl
  case a2 => k_asm
  case a3 => k_asm
  case a4 => rfl
  case a5 => k_mem
  case a6 => exact rfl
  case a12 => k_mem
  case a13 => k_ne
  case a7 => ((repeat' (first | (with_reducible first | exact Rest.nil | refine' Rest.d1 ?_ | refine' Rest.d2 ?_ | refine' Rest.d3 ?_ | refine' Rest.d4 ?_ | refine' Rest.d5 ?_ | refine' Rest.d6 ?_ | refine' Rest.d7 ?_ | refine' Rest.d8 ?_ | refine' Rest.d9 ?_ | refine' Rest.d10 ?_ | refine' Rest.d11 ?_) | (refine' Rest.keep (by ((repeat' (first | with_reducible exact nea_nil | exact df_all (by with_reducible assumption) | exact df_allm (by with_reducible assumption) (by k_mem) | refine nea_cons (by k_ne) ?_)); done)) ?_) | exact Rest.all (by with_reducible assumption) | exact Rest.all (rest_one (by with_reducible assumption)) | exact Rest.all (rest_two (by with_reducible assumption) (by with_reducible assumption)) | (with_reducible first | refine' Rest.app (by assumption) ?_ | refine' Rest.app (rest_one (by assumption)) ?_ | refine' Rest.app (rest_two (by assumption) (by assumption)) ?_ | refine' Rest.drop ?_))); done)
  case a10 => exact fun _ => rfl
  case a8 => exact V2
  case a9 => (simp only [List.length_append, List.length_map, List.length_cons, List.length_nil]; omega)
  · intro R I it a q nv n wvs ws' kk' uvals' k' u h₁ tk₁ mm1 mn mm2 ms mi ml o1 o2 r1 r2 r3 F1 N1
    have hb : ws'.length < 100 := b5 _ mi
    have o1' := neN o1
    have o2' := neN o2
    have gT := gz.tup mm1
    have gL := gz.list mm2
    have hwl : wvs.length = ws'.length := ways_len ms
    (w_top off; repeat' (first | (k_unfold; (try dsimp only)) | ((with_reducible show wpAny _ _ (newTuple _) _ _ _); first | (k_dflt (refine newTupleM (by k_asm) (by k_asm) (by exact Nat.le_of_ble_eq_true rfl) ?_; k_whole); intro D' h' F' N' l1; (try k_sweep); (try ((with_reducible show wpAny _ _ _ _ _ _); k_gentoks)))) | ((with_reducible show wpAny _ _ (newList _) _ _ _); first | (k_dflt (refine newListM (by k_asm) (by k_asm) (by exact Nat.le_of_ble_eq_true rfl) ?_; k_whole); intro D' h' F' N' l1; (try k_sweep); (try ((with_reducible show wpAny _ _ _ _ _ _); k_gentoks)))) | ((with_reducible show wpAny _ _ (call (Value.builtin _) _) _ _ _); first | ((with_reducible show wpAny _ _ (call (Value.builtin "list.append") [Value.ref _, _]) _ _ _); k_dflt (refine appendM (by k_asm) (by k_asm) (by k_upd) (by first | with_reducible assumption | exact Nat.le_of_ble_eq_true rfl | ((try simp only [List.size_toArray]); omega)) ?_; k_whole); intro h' F' N'; (try k_sweep); (try ((with_reducible show wpAny _ _ _ _ _ _); k_gentoks)))) | ((with_reducible show wpAny _ _ (call (Value.ref _) _) _ _ _); first | ((with_reducible show wpAny _ _ (call (Value.ref 155) _) _ _ _); k_dflt (refine region_call0 (by k_asm) (by k_asm) (by k_asm) (by k_asm) (by k_asm) (by first | exact rfl | assumption) (by first | exact rm (by assumption) (by rfl) | ktr_room) (by first | exact un3 (by assumption) (by rfl) | ktr_units) (by k_mem) (by ((repeat' (first | (with_reducible first | exact Rest.nil | refine' Rest.d1 ?_ | refine' Rest.d2 ?_ | refine' Rest.d3 ?_ | refine' Rest.d4 ?_ | refine' Rest.d5 ?_ | refine' Rest.d6 ?_ | refine' Rest.d7 ?_ | refine' Rest.d8 ?_ | refine' Rest.d9 ?_ | refine' Rest.d10 ?_ | refine' Rest.d11 ?_) | (refine' Rest.keep (by ((repeat' (first | with_reducible exact nea_nil | exact df_all (by with_reducible assumption) | exact df_allm (by with_reducible assumption) (by k_mem) | refine nea_cons (by k_ne) ?_)); done)) ?_) | exact Rest.all (by with_reducible assumption) | exact Rest.all (rest_one (by with_reducible assumption)) | exact Rest.all (rest_two (by with_reducible assumption) (by with_reducible assumption)) | (with_reducible first | refine' Rest.app (by assumption) ?_ | refine' Rest.app (rest_one (by assumption)) ?_ | refine' Rest.app (rest_two (by assumption) (by assumption)) ?_ | refine' Rest.drop ?_))); done)) (by assumption) (by assumption) (by assumption) ?_; k_whole); intro x' y' tx' ty' r' h' tk' F' N' hx' hy' hy2' hr'; obtain ⟨n', hi', hn'⟩ := hr'; (try k_fold); (try ((with_reducible show wpAny _ _ _ _ _ _); k_gentoks)))) | ((with_reducible show wpAny _ _ (binaryOp _ (Value.ref _) (Value.ref _)) _ _ _); first | (k_dflt (refine addL (by k_asm) (by k_asm) (by first | exact list_base (by k_asm) (by with_reducible assumption) | exact News.isList (by k_asm) (by k_mem)) (by first | exact list_base (by k_asm) (by with_reducible assumption) | exact News.isList (by k_asm) (by k_mem)) (by ((try simp only [List.length_cons, List.length_nil, List.length_append]); omega)) ?_; k_whole); intro D' h' F' N' l1; (try k_sweep); (try ((with_reducible show wpAny _ _ _ _ _ _); k_gentoks)))) | ((with_reducible show wpAny _ _ (subscriptTail _ _ (Value.ref _) (Value.int _ _)) _ _ _); first | (with_unfolding_all (refine itemT (by k_asm) (by with_reducible assumption) (by decide) (by decide) (by rfl) ?_ (by with_unfolding_all rfl); k_whole); (try ((with_reducible show wpAny _ _ _ _ _ _); k_gentoks))) | (with_unfolding_all (refine itemC (by k_asm) (by with_reducible assumption) (by decide) (by decide) (by rfl) ?_ (by with_unfolding_all rfl); k_whole); (try ((with_reducible show wpAny _ _ _ _ _ _); k_gentoks)))) | (k_end; wrow_close) | walk1 | (dsimp only; walk1) | (leave1; (try dsimp only))))
    refine app_end (ws' := ws' ++ [K.k3]) (by k_asm) (by k_asm) (by k_mem) (by k_mem) (List.push_toArray ..) (by k_mem) (by k_mem) (by k_mem) ?_ ?_ ?_ ?_ ?_ ?_ ?_ ?_ o1 r3 ?_ ?_
    · ((repeat' (first | (with_reducible first | exact sub_nil | exact sub_self | refine sub_app ?_ ?_ | refine sub_cons ?_ ?_) | ((repeat with_reducible first | exact sub_self | exact sub_l sub_self | refine sub_tl ?_ | refine sub_r ?_); done) | ((with_reducible show _ ∈ _); k_mem) | (refine sub_cons (by k_mem) ?_))); done)
    all_goals first | (k_ne) | assumption | skip
    · exact ways_app ms (.cons _ _ .nil)
    · intro z hz'
      have h1 : z ≠ Str.ofString "name" := by rintro rfl; revert hz'; decide +kernel
      have h2 : z ≠ Str.ofString "ways" := by rintro rfl; revert hz'; decide +kernel
      simp only [if_neg h1, if_neg h2, hz', Bool.false_eq_true, if_false]
  intro uv3 kv3 nw3 u3 h3 tk3 s5 s6 s7 s8 V3 F3 N3
  simp only [List.cons_append, List.nil_append] at N3 V3
  (w_top off; repeat' (first | (k_unfold; (try dsimp only)) | ((with_reducible show wpAny _ _ (newTuple _) _ _ _); first | (k_dflt (refine newTupleM (by k_asm) (by k_asm) (by exact Nat.le_of_ble_eq_true rfl) ?_; k_whole); intro D' h' F' N' l1; (try k_sweep); (try ((with_reducible show wpAny _ _ _ _ _ _); k_gentoks)))) | ((with_reducible show wpAny _ _ (newList _) _ _ _); first | (k_dflt (refine newListM (by k_asm) (by k_asm) (by exact Nat.le_of_ble_eq_true rfl) ?_; k_whole); intro D' h' F' N' l1; (try k_sweep); (try ((with_reducible show wpAny _ _ _ _ _ _); k_gentoks)))) | ((with_reducible show wpAny _ _ (call (Value.builtin _) _) _ _ _); first | ((with_reducible show wpAny _ _ (call (Value.builtin "list.append") [Value.ref _, _]) _ _ _); k_dflt (refine appendM (by k_asm) (by k_asm) (by k_upd) (by first | with_reducible assumption | exact Nat.le_of_ble_eq_true rfl | ((try simp only [List.size_toArray]); omega)) ?_; k_whole); intro h' F' N'; (try k_sweep); (try ((with_reducible show wpAny _ _ _ _ _ _); k_gentoks)))) | ((with_reducible show wpAny _ _ (call (Value.ref _) _) _ _ _); first | ((with_reducible show wpAny _ _ (call (Value.ref 155) _) _ _ _); k_dflt (refine region_call0 (by k_asm) (by k_asm) (by k_asm) (by k_asm) (by k_asm) (by first | exact rfl | assumption) (by first | exact rm (by assumption) (by rfl) | ktr_room) (by first | exact un3 (by assumption) (by rfl) | ktr_units) (by k_mem) (by ((repeat' (first | (with_reducible first | exact Rest.nil | refine' Rest.d1 ?_ | refine' Rest.d2 ?_ | refine' Rest.d3 ?_ | refine' Rest.d4 ?_ | refine' Rest.d5 ?_ | refine' Rest.d6 ?_ | refine' Rest.d7 ?_ | refine' Rest.d8 ?_ | refine' Rest.d9 ?_ | refine' Rest.d10 ?_ | refine' Rest.d11 ?_) | (refine' Rest.keep (by ((repeat' (first | with_reducible exact nea_nil | exact df_all (by with_reducible assumption) | exact df_allm (by with_reducible assumption) (by k_mem) | refine nea_cons (by k_ne) ?_)); done)) ?_) | exact Rest.all (by with_reducible assumption) | exact Rest.all (rest_one (by with_reducible assumption)) | exact Rest.all (rest_two (by with_reducible assumption) (by with_reducible assumption)) | (with_reducible first | refine' Rest.app (by assumption) ?_ | refine' Rest.app (rest_one (by assumption)) ?_ | refine' Rest.app (rest_two (by assumption) (by assumption)) ?_ | refine' Rest.drop ?_))); done)) (by assumption) (by assumption) (by assumption) ?_; k_whole); intro x' y' tx' ty' r' h' tk' F' N' hx' hy' hy2' hr'; obtain ⟨n', hi', hn'⟩ := hr'; (try k_fold); (try ((with_reducible show wpAny _ _ _ _ _ _); k_gentoks)))) | ((with_reducible show wpAny _ _ (binaryOp _ (Value.ref _) (Value.ref _)) _ _ _); first | (k_dflt (refine addL (by k_asm) (by k_asm) (by first | exact list_base (by k_asm) (by with_reducible assumption) | exact News.isList (by k_asm) (by k_mem)) (by first | exact list_base (by k_asm) (by with_reducible assumption) | exact News.isList (by k_asm) (by k_mem)) (by ((try simp only [List.length_cons, List.length_nil, List.length_append]); omega)) ?_; k_whole); intro D' h' F' N' l1; (try k_sweep); (try ((with_reducible show wpAny _ _ _ _ _ _); k_gentoks)))) | ((with_reducible show wpAny _ _ (subscriptTail _ _ (Value.ref _) (Value.int _ _)) _ _ _); first | (with_unfolding_all (refine itemT (by k_asm) (by with_reducible assumption) (by decide) (by decide) (by rfl) ?_ (by with_unfolding_all rfl); k_whole); (try ((with_reducible show wpAny _ _ _ _ _ _); k_gentoks))) | (with_unfolding_all (refine itemC (by k_asm) (by with_reducible assumption) (by decide) (by decide) (by rfl) ?_ (by with_unfolding_all rfl); k_whole); (try ((with_reducible show wpAny _ _ _ _ _ _); k_gentoks)))) | (k_end; wrow_close) | walk1 | (dsimp only; walk1) | (leave1; (try dsimp only))))
  all_goals (try k_data)
  have E9 := end_jar (H := s.heap) (jar := jar) (by assumption) (by assumption) (by assumption) (by ((repeat' (first | (with_reducible first | exact Rest.nil | refine' Rest.d1 ?_ | refine' Rest.d2 ?_ | refine' Rest.d3 ?_ | refine' Rest.d4 ?_ | refine' Rest.d5 ?_ | refine' Rest.d6 ?_ | refine' Rest.d7 ?_ | refine' Rest.d8 ?_ | refine' Rest.d9 ?_ | refine' Rest.d10 ?_ | refine' Rest.d11 ?_) | (refine' Rest.keep (by ((repeat' (first | with_reducible exact nea_nil | exact df_all (by with_reducible assumption) | exact df_allm (by with_reducible assumption) (by k_mem) | refine nea_cons (by k_ne) ?_)); done)) ?_) | exact Rest.all (by with_reducible assumption) | exact Rest.all (rest_one (by with_reducible assumption)) | exact Rest.all (rest_two (by with_reducible assumption) (by with_reducible assumption)) | (with_reducible first | refine' Rest.app (by assumption) ?_ | refine' Rest.app (rest_one (by assumption)) ?_ | refine' Rest.app (rest_two (by assumption) (by assumption)) ?_ | refine' Rest.drop ?_))); done)) (by k_mem)
  refine' hret _ _ _ _ (by assumption) E9.1 (keep_of (by assumption) (by assumption)) ⟨_, _, _, _, _, _, _, _, _, _, ?r1, ?r2, rfl, by assumption, by assumption, by assumption, E9.2.1, rfl, by k_mem, by k_mem, ?_, ?_⟩
  rotate_left 2
  · refine' .adt (by k_mem) (by k_mem) ?p1 ?n1 ?p2 ?n2 (by k_mem) (T1.mono (by ((repeat' (first | (with_reducible first | exact sub_nil | exact sub_self | refine sub_app ?_ ?_ | refine sub_cons ?_ ?_) | ((repeat with_reducible first | exact sub_self | exact sub_l sub_self | refine sub_tl ?_ | refine sub_r ?_); done) | ((with_reducible show _ ∈ _); k_mem) | (refine sub_cons (by k_mem) ?_))); done))) (T2.mono (by ((repeat' (first | (with_reducible first | exact sub_nil | exact sub_self | refine sub_app ?_ ?_ | refine sub_cons ?_ ?_) | ((repeat with_reducible first | exact sub_self | exact sub_l sub_self | refine sub_tl ?_ | refine sub_r ?_); done) | ((with_reducible show _ ∈ _); k_mem) | (refine sub_cons (by k_mem) ?_))); done)))
    case n1 => assumption
    case n2 => assumption
    case p1 => assumption
    case p2 => assumption
  · refine' UsIn.mono V3 ?_
    (refine sub_right (by ((repeat' (first | (with_reducible first | exact sub_nil | exact sub_self | refine sub_app ?_ ?_ | refine sub_cons ?_ ?_) | ((repeat with_reducible first | exact sub_self | exact sub_l sub_self | refine sub_tl ?_ | refine sub_r ?_); done) | ((with_reducible show _ ∈ _); k_mem) | (refine sub_cons (by k_mem) ?_))); done)))
theorem enum_call {w : World} {mean : ExcName → Option Value} {mg mb : Str → Option Value}
    {dp un : Nat} {gd : Option (List Code)} {cn : Str} {cs : Scope} {a : Addr} {ccd : Value} {cl : List (Str × Addr)} {outer : List Env} {A₀ : Around} {base h₀ : Heap} {L : Addr} {m : Str → Option Value} {s : Shared} {Q E : Value → Shared → Prop} {led rest : Led}
    {jar : Addr} {x y : Int} {tx ty : Tok} {one fa other sa rd kn : Addr} {t u : Ty} {fvs svs rvs : List Value} {fus sus : List (Nm × List Way)} {ws : List Way} {kf ks kr kk : Nat} {K : Known} {t0 t1 t2 t3 : Tok} {frz0 : Led}
    (B : Below A₀ base outer h₀) (F : Fr h₀ L s.heap m) (X : (hd.heap_39 w.params).In h₀) (N : News h₀ L s.heap led) (T : Top hd.view_39 LZ mean mg mb h₀) (hk : cs.kind = .function)
    (hd : dp + 4 < recursionLimit) (hu : un + 40 < cLine) (hm : (jar, jarO x y tx ty) ∈ led) (hz : At h₀ frz0) (hr : Rest [jar] led rest)
    (m1 : (fa, listOf fvs.toArray kf) ∈ frz0 ++ rest) (m2 : (sa, listOf svs.toArray ks) ∈ frz0 ++ rest) (m3 : (rd, listOf rvs.toArray kr) ∈ frz0 ++ rest) (m4 : (kn, listOf (K.vals t0 t1 t2 t3).toArray kk) ∈ frz0 ++ rest)
    (T1 : TyIn (frz0 ++ rest) (.ref one) t) (T2 : TyIn (frz0 ++ rest) (.ref other) u) (U1 : UsIn (frz0 ++ rest) fvs fus) (U2 : UsIn (frz0 ++ rest) svs sus) (W : StrsAre rvs (ws.map Way.s))
    (hx : 0 ≤ x) (hy : 0 ≤ y) (hy2 : y < 2147483647) (hne : ∀ p ∈ frz0, p.1 ≠ jar)
    (b1 : fus.length < 1000) (b2 : sus.length < 1000) (b3 : ws.length < 100) (b4 : ∀ z ∈ fus, z.2.length < 100) (b5 : ∀ z ∈ sus, z.2.length < 100)
    (ret : ∀ x' y' tx' ty' nw a ta ua uvs kq r1 r2 h' tk', Fr h₀ L h' m → News h₀ L h' ((jar, jarO x' y' tx' ty') :: (rest ++ nw)) → 0 ≤ x' → 0 ≤ y' → y' < 2147483647 → (∀ p ∈ nw, p.1 ≠ jar) → (a, tupO [.ref ta, .ref ua]) ∈ nw → (ua, listOf uvs.toArray kq) ∈ nw →
      TyIn ((frz0 ++ rest) ++ nw) (.ref ta) (.adt r1 r2 t u) → UsIn ((frz0 ++ rest) ++ nw) uvs (enumUses K r1 r2 fus sus ws) → Q (.ref a) { s with heap := h', toks := tk' }) :
    wpAny (model Pg w) (ktrTop dp un gd cn cs L a ccd cl outer) (call (.ref 169) [.ref jar, .ref one, .ref fa, .ref other, .ref sa, .ref rd, .ref kn]) Q E s := by
  have hne' : ∀ p ∈ frz0 ++ rest, p.1 ≠ jar := fun p hp => (List.mem_append.mp hp).elim (hne p) fun h => (hr.ok p h).2 _ (.head _)
  have hz' : At s.heap (frz0 ++ rest) := at_app (at_base F hz) (at_news N fun p hp => (hr.ok p hp).1)
  refine (enum_ok hx hy hy2 hne' T1 T2 U1 U2 W m1 m2 m3 m4 b1 b2 b3 b4 b5).use (rest := rest) B F X N T hk hd hu (fun p hp => by rw [List.mem_singleton.mp hp]; exact hm) hz' hr ?_
  rintro r news' h' tk' F' N' K' ⟨x', y', tx', ty', new, a', ta, ua, uvs, kq, r1, r2, rfl, hx', hy', hy2', hf, rfl, q1, q2, hT, hU⟩
  refine ret x' y' tx' ty' new a' ta ua uvs kq r1 r2 h' tk' F' (news_sub N' ?_) hx' hy' hy2' (fun p hp e => ?_) q1 q2 hT hU
  · intro p hp
    rcases List.mem_cons.mp hp with rfl | hp
    · exact .head _
    · rcases List.mem_append.mp hp with hp | hp
      · exact .tail _ (List.mem_append.mpr (.inr hp))
      · exact .tail _ (List.mem_append.mpr (.inl hp))
  · have := hf p hp
    rw [e, (N _ hm).1] at this; cases this

theorem type_zero {w mean mg mb} : TypeSpec w mean mg mb 0 := by
  intro jar x y tx ty k tk rd kn rvs kr kk ws K t0 t1 t2 t3 hx hy hy2 hkn e1 e2 W hb hn
  have hk0 : k = 0 := hkn
  subst hk0
  unfold Sp Pg LZ
  k_fill
  intro dp un gd cn cs aa ccd cl outer A₀ base h₀ L m s Q E B F X N T hk hd hu hz hret
  refine wpAny_call ?_
  k_dflt (refine code_defG (by k_asm) (by k_asm) (by k_asm) (by k_asm) (by k_asm) (by exact rfl) (by exact rfl) (by assumption) (by k_is) (by k_is) (by first | exact rm0 (by assumption) | ktr_room) (by exact BindsTo.of_eq rfl) (by exact locs rfl) ?_ (by exact rfl) (by exact rfl) (by exact rfl) (by decide); k_whole)
  intro g' L' h' FG' F' N' B' X' T' kG'
  (try dsimp only)
  (try k_fold)
  (try ((with_reducible show wpAny _ _ _ _ _ _); k_gentoks))
  have gz := base_frz hz (by assumption) (ne_two e1 e2)
  (w_top off; repeat' (first | (k_unfold; (try dsimp only)) | ((with_reducible show wpAny _ _ (newTuple _) _ _ _); first | (k_dflt (refine newTupleM (by k_asm) (by k_asm) (by exact Nat.le_of_ble_eq_true rfl) ?_; k_whole); intro D' h' F' N' l1; (try k_sweep); (try ((with_reducible show wpAny _ _ _ _ _ _); k_gentoks)))) | ((with_reducible show wpAny _ _ (newList _) _ _ _); first | (k_dflt (refine newListM (by k_asm) (by k_asm) (by exact Nat.le_of_ble_eq_true rfl) ?_; k_whole); intro D' h' F' N' l1; (try k_sweep); (try ((with_reducible show wpAny _ _ _ _ _ _); k_gentoks)))) | ((with_reducible show wpAny _ _ (call (Value.ref _) _) _ _ _); first | ((with_reducible show wpAny _ _ (call (Value.ref 155) _) _ _ _); k_dflt (refine region_call0 (by k_asm) (by k_asm) (by k_asm) (by k_asm) (by k_asm) (by first | exact rfl | assumption) (by first | exact rm (by assumption) (by rfl) | ktr_room) (by first | exact un3 (by assumption) (by rfl) | ktr_units) (by k_mem) (by ((repeat' (first | (with_reducible first | exact Rest.nil | refine' Rest.d1 ?_ | refine' Rest.d2 ?_ | refine' Rest.d3 ?_ | refine' Rest.d4 ?_ | refine' Rest.d5 ?_ | refine' Rest.d6 ?_ | refine' Rest.d7 ?_ | refine' Rest.d8 ?_ | refine' Rest.d9 ?_ | refine' Rest.d10 ?_ | refine' Rest.d11 ?_) | (refine' Rest.keep (by ((repeat' (first | with_reducible exact nea_nil | exact df_all (by with_reducible assumption) | exact df_allm (by with_reducible assumption) (by k_mem) | refine nea_cons (by k_ne) ?_)); done)) ?_) | exact Rest.all (by with_reducible assumption) | exact Rest.all (rest_one (by with_reducible assumption)) | exact Rest.all (rest_two (by with_reducible assumption) (by with_reducible assumption)) | (with_reducible first | refine' Rest.app (by assumption) ?_ | refine' Rest.app (rest_one (by assumption)) ?_ | refine' Rest.app (rest_two (by assumption) (by assumption)) ?_ | refine' Rest.drop ?_))); done)) (by assumption) (by assumption) (by assumption) ?_; k_whole); intro x' y' tx' ty' r' h' tk' F' N' hx' hy' hy2' hr'; obtain ⟨n', hi', hn'⟩ := hr'; (try k_fold); (try ((with_reducible show wpAny _ _ _ _ _ _); k_gentoks))) | ((with_reducible show wpAny _ _ (call (Value.ref 122) _) _ _ _); k_dflt (refine dip_call (by k_asm) (by k_asm) (by k_asm) (by k_asm) (by k_asm) (by first | exact rfl | assumption) (by first | exact rm (by assumption) (by rfl) | ktr_room) (by first | exact un3 (by assumption) (by rfl) | ktr_units) (by k_mem) (by ((repeat' (first | (with_reducible first | exact Rest.nil | refine' Rest.d1 ?_ | refine' Rest.d2 ?_ | refine' Rest.d3 ?_ | refine' Rest.d4 ?_ | refine' Rest.d5 ?_ | refine' Rest.d6 ?_ | refine' Rest.d7 ?_ | refine' Rest.d8 ?_ | refine' Rest.d9 ?_ | refine' Rest.d10 ?_ | refine' Rest.d11 ?_) | (refine' Rest.keep (by ((repeat' (first | with_reducible exact nea_nil | exact df_all (by with_reducible assumption) | exact df_allm (by with_reducible assumption) (by k_mem) | refine nea_cons (by k_ne) ?_)); done)) ?_) | exact Rest.all (by with_reducible assumption) | exact Rest.all (rest_one (by with_reducible assumption)) | exact Rest.all (rest_two (by with_reducible assumption) (by with_reducible assumption)) | (with_reducible first | refine' Rest.app (by assumption) ?_ | refine' Rest.app (rest_one (by assumption)) ?_ | refine' Rest.app (rest_two (by assumption) (by assumption)) ?_ | refine' Rest.drop ?_))); done)) (by assumption) (by assumption) (by assumption) (by first | assumption | decide | exact Nat.le_of_ble_eq_true rfl | omega) (by first | assumption | decide | omega) ?_; k_whole); intro x' y' tx' ty' v' t' h' tk' F' N' hx' hy' hy2' hv0' hv1'; (try k_fold); (try ((with_reducible show wpAny _ _ _ _ _ _); k_gentoks))) | ((with_reducible show wpAny _ _ (call (Value.ref 129) _) _ _ _); k_dflt (refine one_any (by k_asm) (by k_asm) (by k_asm) (by k_asm) (by k_asm) (by first | exact rfl | assumption) (by first | exact rm (by assumption) (by rfl) | ktr_room) (by first | exact un3 (by assumption) (by rfl) | ktr_units) (by k_mem) (by ((repeat' (first | (with_reducible first | exact Rest.nil | refine' Rest.d1 ?_ | refine' Rest.d2 ?_ | refine' Rest.d3 ?_ | refine' Rest.d4 ?_ | refine' Rest.d5 ?_ | refine' Rest.d6 ?_ | refine' Rest.d7 ?_ | refine' Rest.d8 ?_ | refine' Rest.d9 ?_ | refine' Rest.d10 ?_ | refine' Rest.d11 ?_) | (refine' Rest.keep (by ((repeat' (first | with_reducible exact nea_nil | exact df_all (by with_reducible assumption) | exact df_allm (by with_reducible assumption) (by k_mem) | refine nea_cons (by k_ne) ?_)); done)) ?_) | exact Rest.all (by with_reducible assumption) | exact Rest.all (rest_one (by with_reducible assumption)) | exact Rest.all (rest_two (by with_reducible assumption) (by with_reducible assumption)) | (with_reducible first | refine' Rest.app (by assumption) ?_ | refine' Rest.app (rest_one (by assumption)) ?_ | refine' Rest.app (rest_two (by assumption) (by assumption)) ?_ | refine' Rest.drop ?_))); done)) (by assumption) (by assumption) (by assumption) (by k_mem) (by exact fun _ => mem_names3) (by exact Nat.le_of_ble_eq_true rfl) (by exact Nat.le_of_ble_eq_true rfl) (by k_ne) ?_; k_whole); intro x' y' tx' ty' r' h' tk' F' N' hx' hy' hy2' hr'; obtain ⟨n', hi', hn'⟩ := hr'; (try k_fold); (try ((with_reducible show wpAny _ _ _ _ _ _); k_gentoks))) | ((with_reducible show wpAny _ _ (call (Value.ref 129) _) _ _ _); k_dflt (refine one_any (by k_asm) (by k_asm) (by k_asm) (by k_asm) (by k_asm) (by first | exact rfl | assumption) (by first | exact rm (by assumption) (by rfl) | ktr_room) (by first | exact un3 (by assumption) (by rfl) | ktr_units) (by k_mem) (by ((repeat' (first | (with_reducible first | exact Rest.nil | refine' Rest.d1 ?_ | refine' Rest.d2 ?_ | refine' Rest.d3 ?_ | refine' Rest.d4 ?_ | refine' Rest.d5 ?_ | refine' Rest.d6 ?_ | refine' Rest.d7 ?_ | refine' Rest.d8 ?_ | refine' Rest.d9 ?_ | refine' Rest.d10 ?_ | refine' Rest.d11 ?_) | (refine' Rest.keep (by ((repeat' (first | with_reducible exact nea_nil | exact df_all (by with_reducible assumption) | exact df_allm (by with_reducible assumption) (by k_mem) | refine nea_cons (by k_ne) ?_)); done)) ?_) | exact Rest.all (by with_reducible assumption) | exact Rest.all (rest_one (by with_reducible assumption)) | exact Rest.all (rest_two (by with_reducible assumption) (by with_reducible assumption)) | (with_reducible first | refine' Rest.app (by assumption) ?_ | refine' Rest.app (rest_one (by assumption)) ?_ | refine' Rest.app (rest_two (by assumption) (by assumption)) ?_ | refine' Rest.drop ?_))); done)) (by assumption) (by assumption) (by assumption) (by k_mem) (by exact fun _ h => h) (by exact Nat.le_of_ble_eq_true rfl) (by exact Nat.le_of_ble_eq_true rfl) (by k_ne) ?_; k_whole); intro x' y' tx' ty' r' h' tk' F' N' hx' hy' hy2' hr'; (try k_fold); (try ((with_reducible show wpAny _ _ _ _ _ _); k_gentoks))) | ((with_reducible show wpAny _ _ (call (Value.ref 162) _) _ _ _); k_dflt (refine type_call (by assumption) (by k_asm) (by k_asm) (by k_asm) (by k_asm) (by k_asm) (by first | exact rfl | assumption) (by first | exact rm (by assumption) (by rfl) | exact rmn (by assumption) | ktr_room) (by first | exact un3 (by assumption) (by rfl) | exact unn (by assumption) | ktr_units) (by k_mem) (by (first | exact Fr.keep (by k_asm) _ _ (by assumption) | exact News.get (by k_asm) (by k_mem))) (by (first | exact Fr.keep (by k_asm) _ _ (by assumption) | exact News.get (by k_asm) (by k_mem))) (by (first | assumption | exact ways_app (ws' := [.inn]) (by assumption) (.cons _ _ .nil) | exact ways_app (ws' := [.co]) (by assumption) (.cons _ _ .nil))) (by assumption) (by assumption) (by assumption) (by omega) (by first | assumption | k_ne) (by first | assumption | k_ne) (by ((try simp only [List.length_append, List.length_cons, List.length_nil]); omega)) (by omega) (by ((repeat' (first | (with_reducible first | exact Rest.nil | refine' Rest.d1 ?_ | refine' Rest.d2 ?_ | refine' Rest.d3 ?_ | refine' Rest.d4 ?_ | refine' Rest.d5 ?_ | refine' Rest.d6 ?_ | refine' Rest.d7 ?_ | refine' Rest.d8 ?_ | refine' Rest.d9 ?_ | refine' Rest.d10 ?_ | refine' Rest.d11 ?_) | (refine' Rest.keep (by ((repeat' (first | with_reducible exact nea_nil | exact df_all (by with_reducible assumption) | exact df_allm (by with_reducible assumption) (by k_mem) | refine nea_cons (by k_ne) ?_)); done)) ?_) | exact Rest.all (by with_reducible assumption) | exact Rest.all (rest_one (by with_reducible assumption)) | exact Rest.all (rest_two (by with_reducible assumption) (by with_reducible assumption)) | (with_reducible first | refine' Rest.app (by assumption) ?_ | refine' Rest.app (rest_one (by assumption)) ?_ | refine' Rest.app (rest_two (by assumption) (by assumption)) ?_ | refine' Rest.drop ?_))); done)) ?_; k_whole); intro x' y' tx' ty' nw' a' ta' ua' uvs' kq' t' h' tk' F' N' hx' hy' hy2' hnj' hm1' hm2' hT' hU' hul' hd'; (try simp only [List.cons_append, List.nil_append, List.append_assoc] at N'); (try k_fold); (try ((with_reducible show wpAny _ _ _ _ _ _); k_gentoks))) | ((with_reducible show wpAny _ _ (call (Value.ref 169) _) _ _ _); k_dflt (refine enum_call (by k_asm) (by k_asm) (by k_asm) (by k_asm) (by k_asm) (by first | exact rfl | assumption) (by first | exact rm (by assumption) (by rfl) | ktr_room) (by first | exact un3 (by assumption) (by rfl) | ktr_units) (by k_mem) (by with_reducible assumption) (by ((repeat' (first | (with_reducible first | exact Rest.nil | refine' Rest.d1 ?_ | refine' Rest.d2 ?_ | refine' Rest.d3 ?_ | refine' Rest.d4 ?_ | refine' Rest.d5 ?_ | refine' Rest.d6 ?_ | refine' Rest.d7 ?_ | refine' Rest.d8 ?_ | refine' Rest.d9 ?_ | refine' Rest.d10 ?_ | refine' Rest.d11 ?_) | (refine' Rest.keep (by ((repeat' (first | with_reducible exact nea_nil | exact df_all (by with_reducible assumption) | exact df_allm (by with_reducible assumption) (by k_mem) | refine nea_cons (by k_ne) ?_)); done)) ?_) | exact Rest.all (by with_reducible assumption) | exact Rest.all (rest_one (by with_reducible assumption)) | exact Rest.all (rest_two (by with_reducible assumption) (by with_reducible assumption)) | (with_reducible first | refine' Rest.app (by assumption) ?_ | refine' Rest.app (rest_one (by assumption)) ?_ | refine' Rest.app (rest_two (by assumption) (by assumption)) ?_ | refine' Rest.drop ?_))); done)) (by k_mem) (by k_mem) (by k_mem) (by k_mem) (by exact TyIn.mono (by assumption) (by ((repeat' (first | (with_reducible first | exact sub_nil | exact sub_self | refine sub_app ?_ ?_ | refine sub_cons ?_ ?_) | ((repeat with_reducible first | exact sub_self | exact sub_l sub_self | refine sub_tl ?_ | refine sub_r ?_); done) | ((with_reducible show _ ∈ _); k_mem) | (refine sub_cons (by k_mem) ?_))); done))) (by exact TyIn.mono (by assumption) (by ((repeat' (first | (with_reducible first | exact sub_nil | exact sub_self | refine sub_app ?_ ?_ | refine sub_cons ?_ ?_) | ((repeat with_reducible first | exact sub_self | exact sub_l sub_self | refine sub_tl ?_ | refine sub_r ?_); done) | ((with_reducible show _ ∈ _); k_mem) | (refine sub_cons (by k_mem) ?_))); done))) (by exact UsIn.mono (by assumption) (by ((repeat' (first | (with_reducible first | exact sub_nil | exact sub_self | refine sub_app ?_ ?_ | refine sub_cons ?_ ?_) | ((repeat with_reducible first | exact sub_self | exact sub_l sub_self | refine sub_tl ?_ | refine sub_r ?_); done) | ((with_reducible show _ ∈ _); k_mem) | (refine sub_cons (by k_mem) ?_))); done))) (by exact UsIn.mono (by assumption) (by ((repeat' (first | (with_reducible first | exact sub_nil | exact sub_self | refine sub_app ?_ ?_ | refine sub_cons ?_ ?_) | ((repeat with_reducible first | exact sub_self | exact sub_l sub_self | refine sub_tl ?_ | refine sub_r ?_); done) | ((with_reducible show _ ∈ _); k_mem) | (refine sub_cons (by k_mem) ?_))); done))) (by assumption) (by assumption) (by assumption) (by assumption) (by ((repeat' (first | with_reducible exact neall_nil | with_reducible assumption | with_reducible refine nea_app ?_ ?_ | (refine neall_cons (by k_ne) ?_))); done)) (by exact Nat.lt_trans (uses_small (by assumption) (by omega)) (by decide)) (by exact Nat.lt_trans (uses_small (by assumption) (by omega)) (by decide)) (by omega) (by exact uses_near (by assumption) (by omega)) (by exact uses_near (by assumption) (by omega)) ?_; k_whole); intro x' y' tx' ty' nw' a' ta' ua' uvs' kq' r1' r2' h' tk' F' N' hx' hy' hy2' hnj' hm1' hm2' hT' hU'; (try simp only [List.cons_append, List.nil_append, List.append_assoc] at N'); (try k_fold); (try ((with_reducible show wpAny _ _ _ _ _ _); k_gentoks)))) | ((with_reducible show wpAny _ _ (binaryOp _ (Value.ref _) (Value.ref _)) _ _ _); first | (k_dflt (refine addL (by k_asm) (by k_asm) (by first | exact list_base (by k_asm) (by with_reducible assumption) | exact News.isList (by k_asm) (by k_mem)) (by first | exact list_base (by k_asm) (by with_reducible assumption) | exact News.isList (by k_asm) (by k_mem)) (by ((try simp only [List.length_cons, List.length_nil, List.length_append]); omega)) ?_; k_whole); intro D' h' F' N' l1; (try k_sweep); (try ((with_reducible show wpAny _ _ _ _ _ _); k_gentoks)))) | ((with_reducible show wpAny _ _ (subscriptTail _ _ (Value.ref _) (Value.int _ _)) _ _ _); first | (with_unfolding_all (refine itemT (by k_asm) (by with_reducible assumption) (by decide) (by decide) (by rfl) ?_ (by with_unfolding_all rfl); k_whole); (try ((with_reducible show wpAny _ _ _ _ _ _); k_gentoks))) | (with_unfolding_all (refine itemC (by k_asm) (by with_reducible assumption) (by decide) (by decide) (by rfl) ?_ (by with_unfolding_all rfl); k_whole); (try ((with_reducible show wpAny _ _ _ _ _ _); k_gentoks)))) | (k_end; wrow_close) | walk1 | (dsimp only; walk1) | (leave1; (try dsimp only))))
  · have E9 := end_jar (H := s.heap) (jar := jar) (by assumption) (by assumption) (by assumption) (by ((repeat' (first | (with_reducible first | exact Rest.nil | refine' Rest.d1 ?_ | refine' Rest.d2 ?_ | refine' Rest.d3 ?_ | refine' Rest.d4 ?_ | refine' Rest.d5 ?_ | refine' Rest.d6 ?_ | refine' Rest.d7 ?_ | refine' Rest.d8 ?_ | refine' Rest.d9 ?_ | refine' Rest.d10 ?_ | refine' Rest.d11 ?_) | (refine' Rest.keep (by ((repeat' (first | with_reducible exact nea_nil | exact df_all (by with_reducible assumption) | exact df_allm (by with_reducible assumption) (by k_mem) | refine nea_cons (by k_ne) ?_)); done)) ?_) | exact Rest.all (by with_reducible assumption) | exact Rest.all (rest_one (by with_reducible assumption)) | exact Rest.all (rest_two (by with_reducible assumption) (by with_reducible assumption)) | (with_reducible first | refine' Rest.app (by assumption) ?_ | refine' Rest.app (rest_one (by assumption)) ?_ | refine' Rest.app (rest_two (by assumption) (by assumption)) ?_ | refine' Rest.drop ?_))); done)) (by k_mem)
    exact hret _ _ _ _ (by assumption) E9.1 (keep_of (by assumption) (by assumption)) ⟨_, _, _, _, _, _, _, _, _, _, .int, rfl, by assumption, by assumption, by assumption, E9.2.1, rfl, by k_mem, by k_mem, .int (by k_mem), .nil, Nat.le_refl _⟩
  · have E9 := end_jar (H := s.heap) (jar := jar) (by assumption) (by assumption) (by assumption) (by ((repeat' (first | (with_reducible first | exact Rest.nil | refine' Rest.d1 ?_ | refine' Rest.d2 ?_ | refine' Rest.d3 ?_ | refine' Rest.d4 ?_ | refine' Rest.d5 ?_ | refine' Rest.d6 ?_ | refine' Rest.d7 ?_ | refine' Rest.d8 ?_ | refine' Rest.d9 ?_ | refine' Rest.d10 ?_ | refine' Rest.d11 ?_) | (refine' Rest.keep (by ((repeat' (first | with_reducible exact nea_nil | exact df_all (by with_reducible assumption) | exact df_allm (by with_reducible assumption) (by k_mem) | refine nea_cons (by k_ne) ?_)); done)) ?_) | exact Rest.all (by with_reducible assumption) | exact Rest.all (rest_one (by with_reducible assumption)) | exact Rest.all (rest_two (by with_reducible assumption) (by with_reducible assumption)) | (with_reducible first | refine' Rest.app (by assumption) ?_ | refine' Rest.app (rest_one (by assumption)) ?_ | refine' Rest.app (rest_two (by assumption) (by assumption)) ?_ | refine' Rest.drop ?_))); done)) (by k_mem)
    refine' hret _ _ _ _ (by assumption) E9.1 (keep_of (by assumption) (by assumption)) ⟨_, _, _, _, _, _, _, _, _, _, .par ?zx, rfl, by assumption, by assumption, by assumption, E9.2.1, rfl, by k_mem, by k_mem, .par (by k_mem) ?zp ?zn, .cons (by k_mem) ?zm (by k_mem) W .nil, Nat.le_refl _⟩
    case zn => assumption
    case zm => assumption
    case zp => assumption

theorem type_succ {w mean mg mb} (n : Nat) (IH : TypeSpec w mean mg mb n) : TypeSpec w mean mg mb (n + 1) := by
  intro jar x y tx ty k tk rd kn rvs kr kk ws K t0 t1 t2 t3 hx hy hy2 hkn e1 e2 W hb hn
  have hk0 : k = (n : Int) + 1 := by rw [hkn]; rfl
  subst hk0
  unfold Sp Pg LZ
  k_fill
  intro dp un gd cn cs aa ccd cl outer A₀ base h₀ L m s Q E B F X N T hk hd hu hz hret
  refine wpAny_call ?_
  k_dflt (refine code_defG (by k_asm) (by k_asm) (by k_asm) (by k_asm) (by k_asm) (by exact rfl) (by exact rfl) (by assumption) (by k_is) (by k_is) (by first | exact rm0 (by assumption) | ktr_room) (by exact BindsTo.of_eq rfl) (by exact locs rfl) ?_ (by exact rfl) (by exact rfl) (by exact rfl) (by decide); k_whole)
  intro g' L' h' FG' F' N' B' X' T' kG'
  (try dsimp only)
  (try k_fold)
  (try ((with_reducible show wpAny _ _ _ _ _ _); k_gentoks))
  have gz := base_frz hz (by assumption) (ne_two e1 e2)
  have g1 := At.list gz (.head _)
  have gr := at_1 gz
  have gk := at_2 gz
  have hrl : rvs.length = ws.length := ways_len W
  (w_top off; repeat' (first | (k_unfold; (try dsimp only)) | ((with_reducible show wpAny _ _ (newTuple _) _ _ _); first | (k_dflt (refine newTupleM (by k_asm) (by k_asm) (by exact Nat.le_of_ble_eq_true rfl) ?_; k_whole); intro D' h' F' N' l1; (try k_sweep); (try ((with_reducible show wpAny _ _ _ _ _ _); k_gentoks)))) | ((with_reducible show wpAny _ _ (newList _) _ _ _); first | (k_dflt (refine newListM (by k_asm) (by k_asm) (by exact Nat.le_of_ble_eq_true rfl) ?_; k_whole); intro D' h' F' N' l1; (try k_sweep); (try ((with_reducible show wpAny _ _ _ _ _ _); k_gentoks)))) | ((with_reducible show wpAny _ _ (call (Value.ref _) _) _ _ _); first | ((with_reducible show wpAny _ _ (call (Value.ref 155) _) _ _ _); k_dflt (refine region_call0 (by k_asm) (by k_asm) (by k_asm) (by k_asm) (by k_asm) (by first | exact rfl | assumption) (by first | exact rm (by assumption) (by rfl) | ktr_room) (by first | exact un3 (by assumption) (by rfl) | ktr_units) (by k_mem) (by ((repeat' (first | (with_reducible first | exact Rest.nil | refine' Rest.d1 ?_ | refine' Rest.d2 ?_ | refine' Rest.d3 ?_ | refine' Rest.d4 ?_ | refine' Rest.d5 ?_ | refine' Rest.d6 ?_ | refine' Rest.d7 ?_ | refine' Rest.d8 ?_ | refine' Rest.d9 ?_ | refine' Rest.d10 ?_ | refine' Rest.d11 ?_) | (refine' Rest.keep (by ((repeat' (first | with_reducible exact nea_nil | exact df_all (by with_reducible assumption) | exact df_allm (by with_reducible assumption) (by k_mem) | refine nea_cons (by k_ne) ?_)); done)) ?_) | exact Rest.all (by with_reducible assumption) | exact Rest.all (rest_one (by with_reducible assumption)) | exact Rest.all (rest_two (by with_reducible assumption) (by with_reducible assumption)) | (with_reducible first | refine' Rest.app (by assumption) ?_ | refine' Rest.app (rest_one (by assumption)) ?_ | refine' Rest.app (rest_two (by assumption) (by assumption)) ?_ | refine' Rest.drop ?_))); done)) (by assumption) (by assumption) (by assumption) ?_; k_whole); intro x' y' tx' ty' r' h' tk' F' N' hx' hy' hy2' hr'; obtain ⟨n', hi', hn'⟩ := hr'; (try k_fold); (try ((with_reducible show wpAny _ _ _ _ _ _); k_gentoks))) | ((with_reducible show wpAny _ _ (call (Value.ref 122) _) _ _ _); k_dflt (refine dip_call (by k_asm) (by k_asm) (by k_asm) (by k_asm) (by k_asm) (by first | exact rfl | assumption) (by first | exact rm (by assumption) (by rfl) | ktr_room) (by first | exact un3 (by assumption) (by rfl) | ktr_units) (by k_mem) (by ((repeat' (first | (with_reducible first | exact Rest.nil | refine' Rest.d1 ?_ | refine' Rest.d2 ?_ | refine' Rest.d3 ?_ | refine' Rest.d4 ?_ | refine' Rest.d5 ?_ | refine' Rest.d6 ?_ | refine' Rest.d7 ?_ | refine' Rest.d8 ?_ | refine' Rest.d9 ?_ | refine' Rest.d10 ?_ | refine' Rest.d11 ?_) | (refine' Rest.keep (by ((repeat' (first | with_reducible exact nea_nil | exact df_all (by with_reducible assumption) | exact df_allm (by with_reducible assumption) (by k_mem) | refine nea_cons (by k_ne) ?_)); done)) ?_) | exact Rest.all (by with_reducible assumption) | exact Rest.all (rest_one (by with_reducible assumption)) | exact Rest.all (rest_two (by with_reducible assumption) (by with_reducible assumption)) | (with_reducible first | refine' Rest.app (by assumption) ?_ | refine' Rest.app (rest_one (by assumption)) ?_ | refine' Rest.app (rest_two (by assumption) (by assumption)) ?_ | refine' Rest.drop ?_))); done)) (by assumption) (by assumption) (by assumption) (by first | assumption | decide | exact Nat.le_of_ble_eq_true rfl | omega) (by first | assumption | decide | omega) ?_; k_whole); intro x' y' tx' ty' v' t' h' tk' F' N' hx' hy' hy2' hv0' hv1'; (try k_fold); (try ((with_reducible show wpAny _ _ _ _ _ _); k_gentoks))) | ((with_reducible show wpAny _ _ (call (Value.ref 129) _) _ _ _); k_dflt (refine one_any (by k_asm) (by k_asm) (by k_asm) (by k_asm) (by k_asm) (by first | exact rfl | assumption) (by first | exact rm (by assumption) (by rfl) | ktr_room) (by first | exact un3 (by assumption) (by rfl) | ktr_units) (by k_mem) (by ((repeat' (first | (with_reducible first | exact Rest.nil | refine' Rest.d1 ?_ | refine' Rest.d2 ?_ | refine' Rest.d3 ?_ | refine' Rest.d4 ?_ | refine' Rest.d5 ?_ | refine' Rest.d6 ?_ | refine' Rest.d7 ?_ | refine' Rest.d8 ?_ | refine' Rest.d9 ?_ | refine' Rest.d10 ?_ | refine' Rest.d11 ?_) | (refine' Rest.keep (by ((repeat' (first | with_reducible exact nea_nil | exact df_all (by with_reducible assumption) | exact df_allm (by with_reducible assumption) (by k_mem) | refine nea_cons (by k_ne) ?_)); done)) ?_) | exact Rest.all (by with_reducible assumption) | exact Rest.all (rest_one (by with_reducible assumption)) | exact Rest.all (rest_two (by with_reducible assumption) (by with_reducible assumption)) | (with_reducible first | refine' Rest.app (by assumption) ?_ | refine' Rest.app (rest_one (by assumption)) ?_ | refine' Rest.app (rest_two (by assumption) (by assumption)) ?_ | refine' Rest.drop ?_))); done)) (by assumption) (by assumption) (by assumption) (by k_mem) (by exact fun _ => mem_names3) (by exact Nat.le_of_ble_eq_true rfl) (by exact Nat.le_of_ble_eq_true rfl) (by k_ne) ?_; k_whole); intro x' y' tx' ty' r' h' tk' F' N' hx' hy' hy2' hr'; obtain ⟨n', hi', hn'⟩ := hr'; (try k_fold); (try ((with_reducible show wpAny _ _ _ _ _ _); k_gentoks))) | ((with_reducible show wpAny _ _ (call (Value.ref 129) _) _ _ _); k_dflt (refine one_any (by k_asm) (by k_asm) (by k_asm) (by k_asm) (by k_asm) (by first | exact rfl | assumption) (by first | exact rm (by assumption) (by rfl) | ktr_room) (by first | exact un3 (by assumption) (by rfl) | ktr_units) (by k_mem) (by ((repeat' (first | (with_reducible first | exact Rest.nil | refine' Rest.d1 ?_ | refine' Rest.d2 ?_ | refine' Rest.d3 ?_ | refine' Rest.d4 ?_ | refine' Rest.d5 ?_ | refine' Rest.d6 ?_ | refine' Rest.d7 ?_ | refine' Rest.d8 ?_ | refine' Rest.d9 ?_ | refine' Rest.d10 ?_ | refine' Rest.d11 ?_) | (refine' Rest.keep (by ((repeat' (first | with_reducible exact nea_nil | exact df_all (by with_reducible assumption) | exact df_allm (by with_reducible assumption) (by k_mem) | refine nea_cons (by k_ne) ?_)); done)) ?_) | exact Rest.all (by with_reducible assumption) | exact Rest.all (rest_one (by with_reducible assumption)) | exact Rest.all (rest_two (by with_reducible assumption) (by with_reducible assumption)) | (with_reducible first | refine' Rest.app (by assumption) ?_ | refine' Rest.app (rest_one (by assumption)) ?_ | refine' Rest.app (rest_two (by assumption) (by assumption)) ?_ | refine' Rest.drop ?_))); done)) (by assumption) (by assumption) (by assumption) (by k_mem) (by exact fun _ h => h) (by exact Nat.le_of_ble_eq_true rfl) (by exact Nat.le_of_ble_eq_true rfl) (by k_ne) ?_; k_whole); intro x' y' tx' ty' r' h' tk' F' N' hx' hy' hy2' hr'; (try k_fold); (try ((with_reducible show wpAny _ _ _ _ _ _); k_gentoks))) | ((with_reducible show wpAny _ _ (call (Value.ref 162) _) _ _ _); k_dflt (refine type_call (by assumption) (by k_asm) (by k_asm) (by k_asm) (by k_asm) (by k_asm) (by first | exact rfl | assumption) (by first | exact rm (by assumption) (by rfl) | exact rmn (by assumption) | ktr_room) (by first | exact un3 (by assumption) (by rfl) | exact unn (by assumption) | ktr_units) (by k_mem) (by (first | exact Fr.keep (by k_asm) _ _ (by assumption) | exact News.get (by k_asm) (by k_mem))) (by (first | exact Fr.keep (by k_asm) _ _ (by assumption) | exact News.get (by k_asm) (by k_mem))) (by (first | assumption | exact ways_app (ws' := [.inn]) (by assumption) (.cons _ _ .nil) | exact ways_app (ws' := [.co]) (by assumption) (.cons _ _ .nil))) (by assumption) (by assumption) (by assumption) (by omega) (by first | assumption | k_ne) (by first | assumption | k_ne) (by ((try simp only [List.length_append, List.length_cons, List.length_nil]); omega)) (by omega) (by ((repeat' (first | (with_reducible first | exact Rest.nil | refine' Rest.d1 ?_ | refine' Rest.d2 ?_ | refine' Rest.d3 ?_ | refine' Rest.d4 ?_ | refine' Rest.d5 ?_ | refine' Rest.d6 ?_ | refine' Rest.d7 ?_ | refine' Rest.d8 ?_ | refine' Rest.d9 ?_ | refine' Rest.d10 ?_ | refine' Rest.d11 ?_) | (refine' Rest.keep (by ((repeat' (first | with_reducible exact nea_nil | exact df_all (by with_reducible assumption) | exact df_allm (by with_reducible assumption) (by k_mem) | refine nea_cons (by k_ne) ?_)); done)) ?_) | exact Rest.all (by with_reducible assumption) | exact Rest.all (rest_one (by with_reducible assumption)) | exact Rest.all (rest_two (by with_reducible assumption) (by with_reducible assumption)) | (with_reducible first | refine' Rest.app (by assumption) ?_ | refine' Rest.app (rest_one (by assumption)) ?_ | refine' Rest.app (rest_two (by assumption) (by assumption)) ?_ | refine' Rest.drop ?_))); done)) ?_; k_whole); intro x' y' tx' ty' nw' a' ta' ua' uvs' kq' t' h' tk' F' N' hx' hy' hy2' hnj' hm1' hm2' hT' hU' hul' hd'; (try simp only [List.cons_append, List.nil_append, List.append_assoc] at N'); (try k_fold); (try ((with_reducible show wpAny _ _ _ _ _ _); k_gentoks))) | ((with_reducible show wpAny _ _ (call (Value.ref 169) _) _ _ _); k_dflt (refine enum_call (by k_asm) (by k_asm) (by k_asm) (by k_asm) (by k_asm) (by first | exact rfl | assumption) (by first | exact rm (by assumption) (by rfl) | ktr_room) (by first | exact un3 (by assumption) (by rfl) | ktr_units) (by k_mem) (by with_reducible assumption) (by ((repeat' (first | (with_reducible first | exact Rest.nil | refine' Rest.d1 ?_ | refine' Rest.d2 ?_ | refine' Rest.d3 ?_ | refine' Rest.d4 ?_ | refine' Rest.d5 ?_ | refine' Rest.d6 ?_ | refine' Rest.d7 ?_ | refine' Rest.d8 ?_ | refine' Rest.d9 ?_ | refine' Rest.d10 ?_ | refine' Rest.d11 ?_) | (refine' Rest.keep (by ((repeat' (first | with_reducible exact nea_nil | exact df_all (by with_reducible assumption) | exact df_allm (by with_reducible assumption) (by k_mem) | refine nea_cons (by k_ne) ?_)); done)) ?_) | exact Rest.all (by with_reducible assumption) | exact Rest.all (rest_one (by with_reducible assumption)) | exact Rest.all (rest_two (by with_reducible assumption) (by with_reducible assumption)) | (with_reducible first | refine' Rest.app (by assumption) ?_ | refine' Rest.app (rest_one (by assumption)) ?_ | refine' Rest.app (rest_two (by assumption) (by assumption)) ?_ | refine' Rest.drop ?_))); done)) (by k_mem) (by k_mem) (by k_mem) (by k_mem) (by exact TyIn.mono (by assumption) (by ((repeat' (first | (with_reducible first | exact sub_nil | exact sub_self | refine sub_app ?_ ?_ | refine sub_cons ?_ ?_) | ((repeat with_reducible first | exact sub_self | exact sub_l sub_self | refine sub_tl ?_ | refine sub_r ?_); done) | ((with_reducible show _ ∈ _); k_mem) | (refine sub_cons (by k_mem) ?_))); done))) (by exact TyIn.mono (by assumption) (by ((repeat' (first | (with_reducible first | exact sub_nil | exact sub_self | refine sub_app ?_ ?_ | refine sub_cons ?_ ?_) | ((repeat with_reducible first | exact sub_self | exact sub_l sub_self | refine sub_tl ?_ | refine sub_r ?_); done) | ((with_reducible show _ ∈ _); k_mem) | (refine sub_cons (by k_mem) ?_))); done))) (by exact UsIn.mono (by assumption) (by ((repeat' (first | (with_reducible first | exact sub_nil | exact sub_self | refine sub_app ?_ ?_ | refine sub_cons ?_ ?_) | ((repeat with_reducible first | exact sub_self | exact sub_l sub_self | refine sub_tl ?_ | refine sub_r ?_); done) | ((with_reducible show _ ∈ _); k_mem) | (refine sub_cons (by k_mem) ?_))); done))) (by exact UsIn.mono (by assumption) (by ((repeat' (first | (with_reducible first | exact sub_nil | exact sub_self | refine sub_app ?_ ?_ | refine sub_cons ?_ ?_) | ((repeat with_reducible first | exact sub_self | exact sub_l sub_self | refine sub_tl ?_ | refine sub_r ?_); done) | ((with_reducible show _ ∈ _); k_mem) | (refine sub_cons (by k_mem) ?_))); done))) (by assumption) (by assumption) (by assumption) (by assumption) (by ((repeat' (first | with_reducible exact neall_nil | with_reducible assumption | with_reducible refine nea_app ?_ ?_ | (refine neall_cons (by k_ne) ?_))); done)) (by exact Nat.lt_trans (uses_small (by assumption) (by omega)) (by decide)) (by exact Nat.lt_trans (uses_small (by assumption) (by omega)) (by decide)) (by omega) (by exact uses_near (by assumption) (by omega)) (by exact uses_near (by assumption) (by omega)) ?_; k_whole); intro x' y' tx' ty' nw' a' ta' ua' uvs' kq' r1' r2' h' tk' F' N' hx' hy' hy2' hnj' hm1' hm2' hT' hU'; (try simp only [List.cons_append, List.nil_append, List.append_assoc] at N'); (try k_fold); (try ((with_reducible show wpAny _ _ _ _ _ _); k_gentoks)))) | ((with_reducible show wpAny _ _ (binaryOp _ (Value.ref _) (Value.ref _)) _ _ _); first | (k_dflt (refine addL (by k_asm) (by k_asm) (by first | exact list_base (by k_asm) (by with_reducible assumption) | exact News.isList (by k_asm) (by k_mem)) (by first | exact list_base (by k_asm) (by with_reducible assumption) | exact News.isList (by k_asm) (by k_mem)) (by ((try simp only [List.length_cons, List.length_nil, List.length_append]); omega)) ?_; k_whole); intro D' h' F' N' l1; (try k_sweep); (try ((with_reducible show wpAny _ _ _ _ _ _); k_gentoks)))) | ((with_reducible show wpAny _ _ (subscriptTail _ _ (Value.ref _) (Value.int _ _)) _ _ _); first | (with_unfolding_all (refine itemT (by k_asm) (by with_reducible assumption) (by decide) (by decide) (by rfl) ?_ (by with_unfolding_all rfl); k_whole); (try ((with_reducible show wpAny _ _ _ _ _ _); k_gentoks))) | (with_unfolding_all (refine itemC (by k_asm) (by with_reducible assumption) (by decide) (by decide) (by rfl) ?_ (by with_unfolding_all rfl); k_whole); (try ((with_reducible show wpAny _ _ _ _ _ _); k_gentoks)))) | (k_end; wrow_close) | walk1 | (dsimp only; walk1) | (leave1; (try dsimp only))))
  · have E9 := end_jar (H := s.heap) (jar := jar) (by assumption) (by assumption) (by assumption) (by ((repeat' (first | (with_reducible first | exact Rest.nil | refine' Rest.d1 ?_ | refine' Rest.d2 ?_ | refine' Rest.d3 ?_ | refine' Rest.d4 ?_ | refine' Rest.d5 ?_ | refine' Rest.d6 ?_ | refine' Rest.d7 ?_ | refine' Rest.d8 ?_ | refine' Rest.d9 ?_ | refine' Rest.d10 ?_ | refine' Rest.d11 ?_) | (refine' Rest.keep (by ((repeat' (first | with_reducible exact nea_nil | exact df_all (by with_reducible assumption) | exact df_allm (by with_reducible assumption) (by k_mem) | refine nea_cons (by k_ne) ?_)); done)) ?_) | exact Rest.all (by with_reducible assumption) | exact Rest.all (rest_one (by with_reducible assumption)) | exact Rest.all (rest_two (by with_reducible assumption) (by with_reducible assumption)) | (with_reducible first | refine' Rest.app (by assumption) ?_ | refine' Rest.app (rest_one (by assumption)) ?_ | refine' Rest.app (rest_two (by assumption) (by assumption)) ?_ | refine' Rest.drop ?_))); done)) (by k_mem)
    exact hret _ _ _ _ (by assumption) E9.1 (keep_of (by assumption) (by assumption)) ⟨_, _, _, _, _, _, _, _, _, _, .int, rfl, by assumption, by assumption, by assumption, E9.2.1, rfl, by k_mem, by k_mem, .int (by k_mem), .nil, Nat.zero_le _⟩
  · have E9 := end_jar (H := s.heap) (jar := jar) (by assumption) (by assumption) (by assumption) (by ((repeat' (first | (with_reducible first | exact Rest.nil | refine' Rest.d1 ?_ | refine' Rest.d2 ?_ | refine' Rest.d3 ?_ | refine' Rest.d4 ?_ | refine' Rest.d5 ?_ | refine' Rest.d6 ?_ | refine' Rest.d7 ?_ | refine' Rest.d8 ?_ | refine' Rest.d9 ?_ | refine' Rest.d10 ?_ | refine' Rest.d11 ?_) | (refine' Rest.keep (by ((repeat' (first | with_reducible exact nea_nil | exact df_all (by with_reducible assumption) | exact df_allm (by with_reducible assumption) (by k_mem) | refine nea_cons (by k_ne) ?_)); done)) ?_) | exact Rest.all (by with_reducible assumption) | exact Rest.all (rest_one (by with_reducible assumption)) | exact Rest.all (rest_two (by with_reducible assumption) (by with_reducible assumption)) | (with_reducible first | refine' Rest.app (by assumption) ?_ | refine' Rest.app (rest_one (by assumption)) ?_ | refine' Rest.app (rest_two (by assumption) (by assumption)) ?_ | refine' Rest.drop ?_))); done)) (by k_mem)
    refine' hret _ _ _ _ (by assumption) E9.1 (keep_of (by assumption) (by assumption)) ⟨_, _, _, _, _, _, _, _, _, _, .par ?zx_2, rfl, by assumption, by assumption, by assumption, E9.2.1, rfl, by k_mem, by k_mem, .par (by k_mem) ?zp_2 ?zn_2, .cons (by k_mem) ?zm_2 (by k_mem) W .nil, Nat.zero_le _⟩
    case zn_2 => assumption
    case zm_2 => assumption
    case zp_2 => assumption
  · have E9 := end_jar (H := s.heap) (jar := jar) (by assumption) (by assumption) (by assumption) (by ((repeat' (first | (with_reducible first | exact Rest.nil | refine' Rest.d1 ?_ | refine' Rest.d2 ?_ | refine' Rest.d3 ?_ | refine' Rest.d4 ?_ | refine' Rest.d5 ?_ | refine' Rest.d6 ?_ | refine' Rest.d7 ?_ | refine' Rest.d8 ?_ | refine' Rest.d9 ?_ | refine' Rest.d10 ?_ | refine' Rest.d11 ?_) | (refine' Rest.keep (by ((repeat' (first | with_reducible exact nea_nil | exact df_all (by with_reducible assumption) | exact df_allm (by with_reducible assumption) (by k_mem) | refine nea_cons (by k_ne) ?_)); done)) ?_) | exact Rest.all (by with_reducible assumption) | exact Rest.all (rest_one (by with_reducible assumption)) | exact Rest.all (rest_two (by with_reducible assumption) (by with_reducible assumption)) | (with_reducible first | refine' Rest.app (by assumption) ?_ | refine' Rest.app (rest_one (by assumption)) ?_ | refine' Rest.app (rest_two (by assumption) (by assumption)) ?_ | refine' Rest.drop ?_))); done)) (by k_mem)
    refine' hret _ _ _ _ (by assumption) E9.1 (keep_of (by assumption) (by assumption)) ⟨_, _, _, _, _, _, _, _, _, _, .ref ?zr_3 ?zq_3 ?zt_3, rfl, by assumption, by assumption, by assumption, E9.2.1, rfl, by k_mem, by k_mem, ?za_3, ?zb_3, ?zc_3⟩
    case za_3 =>
      refine' .ref (by k_mem) ?zp_3 ?zn_3 (TyIn.mono (by assumption) ?zs_3)
      case zn_3 => assumption
      case zp_3 => assumption
      case zs_3 => ((repeat' (first | (with_reducible first | exact sub_nil | exact sub_self | refine sub_app ?_ ?_ | refine sub_cons ?_ ?_) | ((repeat with_reducible first | exact sub_self | exact sub_l sub_self | refine sub_tl ?_ | refine sub_r ?_); done) | ((with_reducible show _ ∈ _); k_mem) | (refine sub_cons (by k_mem) ?_))); done)
    case zb_3 =>
      refine' uses_in (beq_iff_eq.mpr (by omega)) (.cons (by k_mem) (by assumption) (by k_mem) W (UsIn.mono (by assumption) ?zs_3))
      case zs_3 => ((repeat' (first | (with_reducible first | exact sub_nil | exact sub_self | refine sub_app ?_ ?_ | refine sub_cons ?_ ?_) | ((repeat with_reducible first | exact sub_self | exact sub_l sub_self | refine sub_tl ?_ | refine sub_r ?_); done) | ((with_reducible show _ ∈ _); k_mem) | (refine sub_cons (by k_mem) ?_))); done)
    case zc_3 => exact Nat.succ_le_succ (by assumption)
  · have E9 := end_jar (H := s.heap) (jar := jar) (by assumption) (by assumption) (by assumption) (by ((repeat' (first | (with_reducible first | exact Rest.nil | refine' Rest.d1 ?_ | refine' Rest.d2 ?_ | refine' Rest.d3 ?_ | refine' Rest.d4 ?_ | refine' Rest.d5 ?_ | refine' Rest.d6 ?_ | refine' Rest.d7 ?_ | refine' Rest.d8 ?_ | refine' Rest.d9 ?_ | refine' Rest.d10 ?_ | refine' Rest.d11 ?_) | (refine' Rest.keep (by ((repeat' (first | with_reducible exact nea_nil | exact df_all (by with_reducible assumption) | exact df_allm (by with_reducible assumption) (by k_mem) | refine nea_cons (by k_ne) ?_)); done)) ?_) | exact Rest.all (by with_reducible assumption) | exact Rest.all (rest_one (by with_reducible assumption)) | exact Rest.all (rest_two (by with_reducible assumption) (by with_reducible assumption)) | (with_reducible first | refine' Rest.app (by assumption) ?_ | refine' Rest.app (rest_one (by assumption)) ?_ | refine' Rest.app (rest_two (by assumption) (by assumption)) ?_ | refine' Rest.drop ?_))); done)) (by k_mem)
    refine' hret _ _ _ _ (by assumption) E9.1 (keep_of (by assumption) (by assumption)) ⟨_, _, _, _, _, _, _, _, _, _, .ref ?zr_4 ?zq_4 ?zt_4, rfl, by assumption, by assumption, by assumption, E9.2.1, rfl, by k_mem, by k_mem, ?za_4, ?zb_4, ?zc_4⟩
    case za_4 =>
      refine' .ref (by k_mem) ?zp_4 ?zn_4 (TyIn.mono (by assumption) ?zs_4)
      case zn_4 => assumption
      case zp_4 => assumption
      case zs_4 => ((repeat' (first | (with_reducible first | exact sub_nil | exact sub_self | refine sub_app ?_ ?_ | refine sub_cons ?_ ?_) | ((repeat with_reducible first | exact sub_self | exact sub_l sub_self | refine sub_tl ?_ | refine sub_r ?_); done) | ((with_reducible show _ ∈ _); k_mem) | (refine sub_cons (by k_mem) ?_))); done)
    case zb_4 =>
      refine' uses_co (beq_eq_false_iff_ne.mpr (by omega)) (.cons (by k_mem) (by assumption) (by k_mem) W (UsIn.mono (by assumption) ?zs_4))
      case zs_4 => ((repeat' (first | (with_reducible first | exact sub_nil | exact sub_self | refine sub_app ?_ ?_ | refine sub_cons ?_ ?_) | ((repeat with_reducible first | exact sub_self | exact sub_l sub_self | refine sub_tl ?_ | refine sub_r ?_); done) | ((with_reducible show _ ∈ _); k_mem) | (refine sub_cons (by k_mem) ?_))); done)
    case zc_4 => exact Nat.succ_le_succ (by assumption)
  · rcases mem_two (by assumption) with h9 | h9
    · subst h9
      have E9 := end_jar (H := s.heap) (jar := jar) (by assumption) (by assumption) (by assumption) (by ((repeat' (first | (with_reducible first | exact Rest.nil | refine' Rest.d1 ?_ | refine' Rest.d2 ?_ | refine' Rest.d3 ?_ | refine' Rest.d4 ?_ | refine' Rest.d5 ?_ | refine' Rest.d6 ?_ | refine' Rest.d7 ?_ | refine' Rest.d8 ?_ | refine' Rest.d9 ?_ | refine' Rest.d10 ?_ | refine' Rest.d11 ?_) | (refine' Rest.keep (by ((repeat' (first | with_reducible exact nea_nil | exact df_all (by with_reducible assumption) | exact df_allm (by with_reducible assumption) (by k_mem) | refine nea_cons (by k_ne) ?_)); done)) ?_) | exact Rest.all (by with_reducible assumption) | exact Rest.all (rest_one (by with_reducible assumption)) | exact Rest.all (rest_two (by with_reducible assumption) (by with_reducible assumption)) | (with_reducible first | refine' Rest.app (by assumption) ?_ | refine' Rest.app (rest_one (by assumption)) ?_ | refine' Rest.app (rest_two (by assumption) (by assumption)) ?_ | refine' Rest.drop ?_))); done)) (by k_mem)
      refine' hret _ _ _ _ (by assumption) E9.1 (keep_of (by assumption) (by assumption)) ⟨_, _, _, _, _, _, _, _, _, _, .box ?zt_6, rfl, by assumption, by assumption, by assumption, E9.2.1, rfl, by k_mem, by k_mem, ?za_6, ?zb_6, ?zc_6⟩
      case za_6 =>
        refine' .box (by k_mem) (TyIn.mono (by assumption) ?zs_6)
        case zs_6 => ((repeat' (first | (with_reducible first | exact sub_nil | exact sub_self | refine sub_app ?_ ?_ | refine sub_cons ?_ ?_) | ((repeat with_reducible first | exact sub_self | exact sub_l sub_self | refine sub_tl ?_ | refine sub_r ?_); done) | ((with_reducible show _ ∈ _); k_mem) | (refine sub_cons (by k_mem) ?_))); done)
      case zb_6 =>
        refine' UsIn.mono (by assumption) ?zs_6
        case zs_6 => ((repeat' (first | (with_reducible first | exact sub_nil | exact sub_self | refine sub_app ?_ ?_ | refine sub_cons ?_ ?_) | ((repeat with_reducible first | exact sub_self | exact sub_l sub_self | refine sub_tl ?_ | refine sub_r ?_); done) | ((with_reducible show _ ∈ _); k_mem) | (refine sub_cons (by k_mem) ?_))); done)
      case zc_6 => exact Nat.succ_le_succ (by assumption)
    · subst h9
      have E9 := end_jar (H := s.heap) (jar := jar) (by assumption) (by assumption) (by assumption) (by ((repeat' (first | (with_reducible first | exact Rest.nil | refine' Rest.d1 ?_ | refine' Rest.d2 ?_ | refine' Rest.d3 ?_ | refine' Rest.d4 ?_ | refine' Rest.d5 ?_ | refine' Rest.d6 ?_ | refine' Rest.d7 ?_ | refine' Rest.d8 ?_ | refine' Rest.d9 ?_ | refine' Rest.d10 ?_ | refine' Rest.d11 ?_) | (refine' Rest.keep (by ((repeat' (first | with_reducible exact nea_nil | exact df_all (by with_reducible assumption) | exact df_allm (by with_reducible assumption) (by k_mem) | refine nea_cons (by k_ne) ?_)); done)) ?_) | exact Rest.all (by with_reducible assumption) | exact Rest.all (rest_one (by with_reducible assumption)) | exact Rest.all (rest_two (by with_reducible assumption) (by with_reducible assumption)) | (with_reducible first | refine' Rest.app (by assumption) ?_ | refine' Rest.app (rest_one (by assumption)) ?_ | refine' Rest.app (rest_two (by assumption) (by assumption)) ?_ | refine' Rest.drop ?_))); done)) (by k_mem)
      refine' hret _ _ _ _ (by assumption) E9.1 (keep_of (by assumption) (by assumption)) ⟨_, _, _, _, _, _, _, _, _, _, .arr ?zt_7, rfl, by assumption, by assumption, by assumption, E9.2.1, rfl, by k_mem, by k_mem, ?za_7, ?zb_7, ?zc_7⟩
      case za_7 =>
        refine' .arr (by k_mem) (TyIn.mono (by assumption) ?zs_7)
        case zs_7 => ((repeat' (first | (with_reducible first | exact sub_nil | exact sub_self | refine sub_app ?_ ?_ | refine sub_cons ?_ ?_) | ((repeat with_reducible first | exact sub_self | exact sub_l sub_self | refine sub_tl ?_ | refine sub_r ?_); done) | ((with_reducible show _ ∈ _); k_mem) | (refine sub_cons (by k_mem) ?_))); done)
      case zb_7 =>
        refine' UsIn.mono (by assumption) ?zs_7
        case zs_7 => ((repeat' (first | (with_reducible first | exact sub_nil | exact sub_self | refine sub_app ?_ ?_ | refine sub_cons ?_ ?_) | ((repeat with_reducible first | exact sub_self | exact sub_l sub_self | refine sub_tl ?_ | refine sub_r ?_); done) | ((with_reducible show _ ∈ _); k_mem) | (refine sub_cons (by k_mem) ?_))); done)
      case zc_7 => exact Nat.succ_le_succ (by assumption)
  · have E9 := end_jar (H := s.heap) (jar := jar) (by assumption) (by assumption) (by assumption) (by ((repeat' (first | (with_reducible first | exact Rest.nil | refine' Rest.d1 ?_ | refine' Rest.d2 ?_ | refine' Rest.d3 ?_ | refine' Rest.d4 ?_ | refine' Rest.d5 ?_ | refine' Rest.d6 ?_ | refine' Rest.d7 ?_ | refine' Rest.d8 ?_ | refine' Rest.d9 ?_ | refine' Rest.d10 ?_ | refine' Rest.d11 ?_) | (refine' Rest.keep (by ((repeat' (first | with_reducible exact nea_nil | exact df_all (by with_reducible assumption) | exact df_allm (by with_reducible assumption) (by k_mem) | refine nea_cons (by k_ne) ?_)); done)) ?_) | exact Rest.all (by with_reducible assumption) | exact Rest.all (rest_one (by with_reducible assumption)) | exact Rest.all (rest_two (by with_reducible assumption) (by with_reducible assumption)) | (with_reducible first | refine' Rest.app (by assumption) ?_ | refine' Rest.app (rest_one (by assumption)) ?_ | refine' Rest.app (rest_two (by assumption) (by assumption)) ?_ | refine' Rest.drop ?_))); done)) (by k_mem)
    refine' hret _ _ _ _ (by assumption) E9.1 (keep_of (by assumption) (by assumption)) ⟨_, _, _, _, _, _, _, _, _, _, .tup ?zt_8 ?zu_8, rfl, by assumption, by assumption, by assumption, E9.2.1, rfl, by k_mem, by k_mem, ?za_8, ?zb_8, ?zc_8⟩
    case za_8 =>
      refine' .tup (by k_mem) (by k_mem) (TyIn.mono (by assumption) ?zs_8) (TyIn.mono (by assumption) ?zs2_8)
      case zs_8 => ((repeat' (first | (with_reducible first | exact sub_nil | exact sub_self | refine sub_app ?_ ?_ | refine sub_cons ?_ ?_) | ((repeat with_reducible first | exact sub_self | exact sub_l sub_self | refine sub_tl ?_ | refine sub_r ?_); done) | ((with_reducible show _ ∈ _); k_mem) | (refine sub_cons (by k_mem) ?_))); done)
      case zs2_8 => ((repeat' (first | (with_reducible first | exact sub_nil | exact sub_self | refine sub_app ?_ ?_ | refine sub_cons ?_ ?_) | ((repeat with_reducible first | exact sub_self | exact sub_l sub_self | refine sub_tl ?_ | refine sub_r ?_); done) | ((with_reducible show _ ∈ _); k_mem) | (refine sub_cons (by k_mem) ?_))); done)
    case zb_8 =>
      refine' UsIn.append (UsIn.mono (by assumption) ?zs_8) (UsIn.mono (by assumption) ?zs2_8)
      case zs_8 => ((repeat' (first | (with_reducible first | exact sub_nil | exact sub_self | refine sub_app ?_ ?_ | refine sub_cons ?_ ?_) | ((repeat with_reducible first | exact sub_self | exact sub_l sub_self | refine sub_tl ?_ | refine sub_r ?_); done) | ((with_reducible show _ ∈ _); k_mem) | (refine sub_cons (by k_mem) ?_))); done)
      case zs2_8 => ((repeat' (first | (with_reducible first | exact sub_nil | exact sub_self | refine sub_app ?_ ?_ | refine sub_cons ?_ ?_) | ((repeat with_reducible first | exact sub_self | exact sub_l sub_self | refine sub_tl ?_ | refine sub_r ?_); done) | ((with_reducible show _ ∈ _); k_mem) | (refine sub_cons (by k_mem) ?_))); done)
    case zc_8 => exact depth_two (by assumption) (by assumption)
  · have E9 := end_jar (H := s.heap) (jar := jar) (by assumption) (by assumption) (by assumption) (by ((repeat' (first | (with_reducible first | exact Rest.nil | refine' Rest.d1 ?_ | refine' Rest.d2 ?_ | refine' Rest.d3 ?_ | refine' Rest.d4 ?_ | refine' Rest.d5 ?_ | refine' Rest.d6 ?_ | refine' Rest.d7 ?_ | refine' Rest.d8 ?_ | refine' Rest.d9 ?_ | refine' Rest.d10 ?_ | refine' Rest.d11 ?_) | (refine' Rest.keep (by ((repeat' (first | with_reducible exact nea_nil | exact df_all (by with_reducible assumption) | exact df_allm (by with_reducible assumption) (by k_mem) | refine nea_cons (by k_ne) ?_)); done)) ?_) | exact Rest.all (by with_reducible assumption) | exact Rest.all (rest_one (by with_reducible assumption)) | exact Rest.all (rest_two (by with_reducible assumption) (by with_reducible assumption)) | (with_reducible first | refine' Rest.app (by assumption) ?_ | refine' Rest.app (rest_one (by assumption)) ?_ | refine' Rest.app (rest_two (by assumption) (by assumption)) ?_ | refine' Rest.drop ?_))); done)) (by k_mem)
    refine' hret _ _ _ _ (by assumption) E9.1 (keep_of (by assumption) (by assumption)) ⟨_, _, _, _, _, _, _, _, _, _, .adt ?zr_9 ?zq_9 ?zt_9 ?zu_9, rfl, by assumption, by assumption, by assumption, E9.2.1, rfl, by k_mem, by k_mem, ?za_9, ?zb_9, ?zc_9⟩
    case za_9 =>
      refine' TyIn.mono (by assumption) ?zs_9
      case zs_9 => ((repeat' (first | (with_reducible first | exact sub_nil | exact sub_self | refine sub_app ?_ ?_ | refine sub_cons ?_ ?_) | ((repeat with_reducible first | exact sub_self | exact sub_l sub_self | refine sub_tl ?_ | refine sub_r ?_); done) | ((with_reducible show _ ∈ _); k_mem) | (refine sub_cons (by k_mem) ?_))); done)
    case zb_9 =>
      refine' UsIn.mono (by assumption) ?zs_9
      case zs_9 => ((repeat' (first | (with_reducible first | exact sub_nil | exact sub_self | refine sub_app ?_ ?_ | refine sub_cons ?_ ?_) | ((repeat with_reducible first | exact sub_self | exact sub_l sub_self | refine sub_tl ?_ | refine sub_r ?_); done) | ((with_reducible show _ ∈ _); k_mem) | (refine sub_cons (by k_mem) ?_))); done)
    case zc_9 => exact depth_two (by assumption) (by assumption)

theorem note_ok {w mean mg mb} {row dx rl pl tl : Addr} {rk : RowK} {hc : Bool} {ts : List Value} {n : Nat} {ws : List Way} {p : Int} {tp ta : Tok} {a : Way} (h0 : 0 ≤ p) (h1 : p < ws.length) (hz1 : ws.length < 1000) (hi : StrsAre ts (ws.map Way.s)) (n1 : row ≠ dx) (n2 : row ≠ tl) (n3 : dx ≠ tl) :
    Sp w mean mg mb 50 2 20 [.ref row, .int p tp, .str a.s ta] (fun _ => True) [(row, instObj 67 dx), (dx, rowD rk rl pl tl hc), (tl, listOf ts.toArray n)]
      (fun _ n' r => ∃ ts' , n' = [(row, instObj 67 dx), (dx, rowD rk rl pl tl (hc || (noteW ws p.toNat a != ws))), (tl, listOf ts'.toArray n)] ∧ StrsAre ts' ((noteW ws p.toNat a).map Way.s) ∧ r = .none) := by
  unfold Sp Pg LZ
  k_fill
  intro dp un gd cn cs aa ccd cl outer A₀ base h₀ L m s Q E B F X N T hk hd hu hz hret
  have hl := ways_len hi
  have n1' := neN n1
  have n2' := neN n2
  have n3' := neN n3
  refine wpAny_call ?_
  k_dflt (refine code_defG (by k_asm) (by k_asm) (by k_asm) (by k_asm) (by k_asm) (by exact rfl) (by exact rfl) (by assumption) (by k_is) (by k_is) (by first | exact rm0 (by assumption) | ktr_room) (by exact BindsTo.of_eq rfl) (by exact locs rfl) ?_ (by exact rfl) (by exact rfl) (by exact rfl) (by decide); k_whole)
  intro g' L' h' FG' F' N' B' X' T' kG'
  (try dsimp only)
  (try k_fold)
  (try ((with_reducible show wpAny _ _ _ _ _ _); k_gentoks))
  (w_top off; repeat' (first | (k_unfold; (try dsimp only)) | ((with_reducible show wpAny _ _ (setItem (Value.ref _) (Value.int _ _) _) _ _ _); first | (k_dflt (refine setM (by k_asm) (by k_asm) (by k_upd) (by assumption) (by omega) (by omega) ?_; k_whole); intro h' F' N'; (try k_sweep); (try ((with_reducible show wpAny _ _ _ _ _ _); k_gentoks)))) | ((with_reducible show wpAny _ _ (subscriptTail _ _ (Value.ref _) (Value.int _ _)) _ _ _); first | (with_unfolding_all (refine itemW (by k_asm) (by k_mem) (by assumption) (by assumption) (by assumption) (by assumption) ?_ (by with_unfolding_all rfl); k_whole); intro t'; (try ((with_reducible show wpAny _ _ _ _ _ _); k_gentoks)))) | ((with_reducible show wpAny _ _ (call (Value.ref _) _) _ _ _); first | ((with_reducible show wpAny _ _ (call (Value.ref 22) _) _ _ _); k_dflt (refine stricter_call (by k_asm) (by k_asm) (by k_asm) (by k_asm) (by k_asm) (by first | exact rfl | assumption) (by first | exact rm (by assumption) (by rfl) | ktr_room) (by first | exact un3 (by assumption) (by rfl) | ktr_units) ?_; k_whole); intro t' h' tk' F' N'; (try k_fold); (try ((with_reducible show wpAny _ _ _ _ _ _); k_gentoks)))) | (k_end; wrow_close) | walk1 | (dsimp only; walk1) | (leave1; (try dsimp only))))
  · have e1 := note_change (ws := ws) (i := p.toNat) (by omega) (by assumption)
    have e2 : (hc || (noteW ws p.toNat a != ws)) = true := by rw [e1, Bool.or_true]
    exact hret _ _ _ _ (by assumption) (by assumption) (keep_of (by assumption) (by assumption)) ⟨_, by rw [e2], ways_set hi _ _ _, rfl⟩
  · have e1 := note_same (ws := ws) (i := p.toNat) (by omega) (by assumption)
    have e2 : (hc || (noteW ws p.toNat a != ws)) = hc := by rw [e1]; simp
    exact hret _ _ _ _ (by assumption) (by assumption) (keep_of (by assumption) (by assumption)) ⟨_, by rw [e2], by rw [e1]; exact hi, rfl⟩
theorem note_call {w : World} {mean : ExcName → Option Value} {mg mb : Str → Option Value}
    {dp un : Nat} {gd : Option (List Code)} {cn : Str} {cs : Scope} {aa : Addr} {ccd : Value} {cl : List (Str × Addr)} {outer : List Env} {A₀ : Around} {base h₀ : Heap} {L : Addr} {m : Str → Option Value} {s : Shared} {Q E : Value → Shared → Prop} {led rest : Led}
    {row dx rl pl tl : Addr} {rk : RowK} {hc : Bool} {ts : List Value} {n : Nat} {ws : List Way} {p : Int} {tp ta : Tok} {a : Way}
    (B : Below A₀ base outer h₀) (F : Fr h₀ L s.heap m) (X : (hd.heap_39 w.params).In h₀) (N : News h₀ L s.heap led) (T : Top hd.view_39 LZ mean mg mb h₀) (hk : cs.kind = .function)
    (hd : dp + 2 < recursionLimit) (hu : un + 20 < cLine) (m1 : (row, instObj 67 dx) ∈ led) (m2 : (dx, rowD rk rl pl tl hc) ∈ led) (m3 : (tl, listOf ts.toArray n) ∈ led)
    (hi : StrsAre ts (ws.map Way.s)) (h0 : 0 ≤ p) (h1 : p < ws.length) (hz1 : ws.length < 1000) (n1 : row ≠ dx) (n2 : row ≠ tl) (n3 : dx ≠ tl) (hr : Rest [row, dx, tl] led rest)
    (ret : ∀ ts' h' tk', Fr h₀ L h' m → News h₀ L h' ((row, instObj 67 dx) :: (dx, rowD rk rl pl tl (hc || (noteW ws p.toNat a != ws))) :: (tl, listOf ts'.toArray n) :: rest) → StrsAre ts' ((noteW ws p.toNat a).map Way.s) → Q .none { s with heap := h', toks := tk' }) :
    wpAny (model Pg w) (ktrTop dp un gd cn cs L aa ccd cl outer) (call (.ref 50) [.ref row, .int p tp, .str a.s ta]) Q E s := by
  refine (note_ok (rk := rk) (rl := rl) (pl := pl) (hc := hc) (n := n) h0 h1 hz1 hi n1 n2 n3).use (rest := rest) B F X N T hk hd hu ?_ trivial hr ?_
  · intro q hq
    rcases List.mem_cons.mp hq with rfl | hq
    · exact m1
    · rcases List.mem_cons.mp hq with rfl | hq
      · exact m2
      · rw [List.mem_singleton.mp hq]; exact m3
  · rintro r news' h' tk' F' N' K' ⟨ts', rfl, hi', rfl⟩
    exact ret ts' h' tk' F' N' hi'

theorem rowRegion_ok {w mean mg mb} {row dx rl pl tl : Addr} {rk : RowK} {hc : Bool} {rs ts : List Value} {n1 n2 n : Nat} {rgs pgs : List Nm} {ws : List Way} {x : Nm} {v : Value} {ta : Tok} {a : Way} (hx : x.isP = false) (hv : NmV x v) (R : RegsV rs rgs) {ps : List Value} (P : ParsV ps pgs) (hl : ws.length = (rgs ++ pgs).length) (hi : StrsAre ts (ws.map Way.s))
    (e1 : row ≠ dx) (e2 : row ≠ rl) (e3 : row ≠ tl) (e4 : dx ≠ rl) (e5 : dx ≠ tl) (e6 : rl ≠ tl) (e7 : row ≠ pl) (e8 : dx ≠ pl) (e9 : rl ≠ pl) (e10 : pl ≠ tl) :
    Sp w mean mg mb 57 3 30 [.ref row, v, .str a.s ta] (fun _ => True) [(row, instObj 67 dx), (dx, rowD rk rl pl tl hc), (rl, listOf rs.toArray n1), (pl, listOf ps.toArray n2), (tl, listOf ts.toArray n)]
      (fun _ n' r => ∃ ts', n' = [(row, instObj 67 dx), (dx, rowD rk rl pl tl (hc || (noteN (rgs ++ pgs) ws x a != ws))), (rl, listOf rs.toArray n1), (pl, listOf ps.toArray n2), (tl, listOf ts'.toArray n)] ∧ StrsAre ts' ((noteN (rgs ++ pgs) ws x a).map Way.s) ∧ r = .none) := by
  unfold Sp Pg LZ
  k_fill
  intro dp un gd cn cs aa ccd cl outer A₀ base h₀ L m s Q E B F X N T hk hd hu hz hret
  replace e1 := neN e1
  replace e2 := neN e2
  replace e3 := neN e3
  replace e4 := neN e4
  replace e5 := neN e5
  replace e6 := neN e6
  replace e7 := neN e7
  replace e8 := neN e8
  replace e9 := neN e9
  replace e10 := neN e10
  refine wpAny_call ?_
  k_dflt (refine code_defG (by k_asm) (by k_asm) (by k_asm) (by k_asm) (by k_asm) (by exact rfl) (by exact rfl) (by assumption) (by k_is) (by k_is) (by first | exact rm0 (by assumption) | ktr_room) (by exact BindsTo.of_eq rfl) (by exact locs rfl) ?_ (by exact rfl) (by exact rfl) (by exact rfl) (by decide); k_whole)
  intro g' L' h' FG' F' N' B' X' T' kG'
  (try dsimp only)
  (try k_fold)
  (try ((with_reducible show wpAny _ _ _ _ _ _); k_gentoks))
  have hpl : 1 ≤ pgs.length ∧ pgs.length ≤ 2 := by cases P <;> decide
  have e8 : ∀ W' : List Way, W' = ws → (hc || (W' != ws)) = hc := by rintro _ rfl; simp
  have e9 : ∀ W' : List Way, W' = ws → StrsAre ts (ws.map Way.s) → StrsAre ts (W'.map Way.s) := by rintro _ rfl h; exact h
  cases R <;> cases x <;> (try cases hx) <;> (obtain ⟨tv, rfl⟩ := hv)
  all_goals (try simp only [List.length_append, List.length_cons, List.length_nil] at hl)
  all_goals (w_top off; repeat' (first | (k_unfold; (try dsimp only)) | ((with_reducible show wpAny _ _ (compareOp CmpOp.In _ (Value.ref _)) _ _ _); first | (k_dflt (refine in_strs_other (by exact News.isList (by k_asm) (by k_mem)) (by (first | exact StrsAre.nil | exact StrsAre.cons _ _ StrsAre.nil | exact StrsAre.cons _ _ (StrsAre.cons _ _ StrsAre.nil))) (by first | exact .inl rfl | exact .inr ⟨_, _, rfl⟩) ?_; k_whole); (try ((with_reducible show wpAny _ _ _ _ _ _); k_gentoks)))) | ((with_reducible show wpAny _ _ (call (Value.builtin _) _) _ _ _); first | ((with_reducible show wpAny _ _ (call (Value.builtin "list.index") _) _ _ _); k_dflt (first | refine index_strs (by exact News.isList (by k_asm) (by k_mem)) (by (first | exact StrsAre.nil | exact StrsAre.cons _ _ StrsAre.nil | exact StrsAre.cons _ _ (StrsAre.cons _ _ StrsAre.nil))) 0 (by exact Nat.le_of_ble_eq_true rfl) (by decide +kernel) (by exact fun _ _ h => absurd h (Nat.not_lt_zero _)) (by exact Nat.le_of_ble_eq_true rfl) ?_ | refine index_second (by exact News.isList (by k_asm) (by k_mem)) (by decide +kernel) ?_); k_whole; (try ((with_reducible show wpAny _ _ _ _ _ _); k_gentoks)))) | ((with_reducible show wpAny _ _ (call (Value.ref _) _) _ _ _); first | ((with_reducible show wpAny _ _ (call (Value.ref 50) _) _ _ _); k_dflt (refine note_call (by k_asm) (by k_asm) (by k_asm) (by k_asm) (by k_asm) (by first | exact rfl | assumption) (by first | exact rm (by assumption) (by rfl) | ktr_room) (by first | exact un3 (by assumption) (by rfl) | ktr_units) (by k_mem) (by k_mem) (by k_mem) (by assumption) (by first | assumption | omega | decide) (by first | assumption | omega) (by first | assumption | omega) (by k_ne) (by k_ne) (by k_ne) (by ((repeat' (first | (with_reducible first | exact Rest.nil | refine' Rest.d1 ?_ | refine' Rest.d2 ?_ | refine' Rest.d3 ?_ | refine' Rest.d4 ?_ | refine' Rest.d5 ?_ | refine' Rest.d6 ?_ | refine' Rest.d7 ?_ | refine' Rest.d8 ?_ | refine' Rest.d9 ?_ | refine' Rest.d10 ?_ | refine' Rest.d11 ?_) | (refine' Rest.keep (by ((repeat' (first | with_reducible exact nea_nil | exact df_all (by with_reducible assumption) | exact df_allm (by with_reducible assumption) (by k_mem) | refine nea_cons (by k_ne) ?_)); done)) ?_) | exact Rest.all (by with_reducible assumption) | exact Rest.all (rest_one (by with_reducible assumption)) | exact Rest.all (rest_two (by with_reducible assumption) (by with_reducible assumption)) | (with_reducible first | refine' Rest.app (by assumption) ?_ | refine' Rest.app (rest_one (by assumption)) ?_ | refine' Rest.app (rest_two (by assumption) (by assumption)) ?_ | refine' Rest.drop ?_))); done)) ?_; k_whole); intro ts' h' tk' F' N' hi'; (try simp only [List.cons_append, List.nil_append, List.append_assoc] at N'); (try k_fold); (try ((with_reducible show wpAny _ _ _ _ _ _); k_gentoks)))) | (k_end; wrow_close) | walk1 | (dsimp only; walk1) | (leave1; (try dsimp only))))
  all_goals first
    | (refine hret _ _ _ _ (by assumption) (news_sub (by assumption) ?_) (keep_of (by assumption) (by assumption)) ⟨_, rfl, by assumption, rfl⟩
       ((repeat' (first | (with_reducible first | exact sub_nil | exact sub_self | refine sub_app ?_ ?_ | refine sub_cons ?_ ?_) | ((repeat with_reducible first | exact sub_self | exact sub_l sub_self | refine sub_tl ?_ | refine sub_r ?_); done) | ((with_reducible show _ ∈ _); k_mem) | (refine sub_cons (by k_mem) ?_))); done); done)
    | (refine hret _ _ _ _ (by assumption) (by assumption) (keep_of (by assumption) (by assumption)) ⟨ts, ?_, ?_, rfl⟩
       · rw [e8]
         cases P <;> rfl
       · refine e9 _ ?_ hi
         cases P <;> rfl)

theorem rowParam_ok {w mean mg mb} {row dx rl pl tl : Addr} {rk : RowK} {hc : Bool} {rs ps ts : List Value} {n1 n2 n : Nat} {rgs pgs : List Nm} {ws : List Way} {x : Nm} {v : Value} {ta : Tok} {a : Way} (hx : x.isP = true) (hv : NmV x v) (R : RegsV rs rgs) (P : ParsV ps pgs) (hl : ws.length = (rgs ++ pgs).length) (hi : StrsAre ts (ws.map Way.s))
    (e1 : row ≠ dx) (e3 : row ≠ tl) (e5 : dx ≠ tl) (e6 : rl ≠ row) (e7 : rl ≠ dx) (e8 : rl ≠ tl) (e9 : pl ≠ row) (e10 : pl ≠ dx) (e11 : pl ≠ tl) :
    Sp w mean mg mb 64 3 30 [.ref row, v, .str a.s ta] (fun _ => True) [(row, instObj 67 dx), (dx, rowD rk rl pl tl hc), (rl, listOf rs.toArray n1), (pl, listOf ps.toArray n2), (tl, listOf ts.toArray n)]
      (fun _ n' r => ∃ ts', n' = [(row, instObj 67 dx), (dx, rowD rk rl pl tl (hc || (noteN (rgs ++ pgs) ws x a != ws))), (rl, listOf rs.toArray n1), (pl, listOf ps.toArray n2), (tl, listOf ts'.toArray n)] ∧ StrsAre ts' ((noteN (rgs ++ pgs) ws x a).map Way.s) ∧ r = .none) := by
  unfold Sp Pg LZ
  k_fill
  intro dp un gd cn cs aa ccd cl outer A₀ base h₀ L m s Q E B F X N T hk hd hu hz hret
  replace e1 := neN e1
  replace e3 := neN e3
  replace e5 := neN e5
  replace e6 := neN e6
  replace e7 := neN e7
  replace e8 := neN e8
  replace e9 := neN e9
  replace e10 := neN e10
  replace e11 := neN e11
  refine wpAny_call ?_
  k_dflt (refine code_defG (by k_asm) (by k_asm) (by k_asm) (by k_asm) (by k_asm) (by exact rfl) (by exact rfl) (by assumption) (by k_is) (by k_is) (by first | exact rm0 (by assumption) | ktr_room) (by exact BindsTo.of_eq rfl) (by exact locs rfl) ?_ (by exact rfl) (by exact rfl) (by exact rfl) (by decide); k_whole)
  intro g' L' h' FG' F' N' B' X' T' kG'
  (try dsimp only)
  (try k_fold)
  (try ((with_reducible show wpAny _ _ _ _ _ _); k_gentoks))
  have f8 : ∀ W' : List Way, W' = ws → (hc || (W' != ws)) = hc := by rintro _ rfl; simp
  have f9 : ∀ W' : List Way, W' = ws → StrsAre ts (ws.map Way.s) → StrsAre ts (W'.map Way.s) := by rintro _ rfl h; exact h
  cases R <;> cases P <;> cases x <;> (try cases hx) <;> (obtain ⟨tv, rfl⟩ := hv)
  all_goals (try simp only [List.length_append, List.length_cons, List.length_nil] at hl)
  all_goals (w_top off; repeat' (first | (k_unfold; (try dsimp only)) | ((with_reducible show wpAny _ _ (compareOp CmpOp.In _ (Value.ref _)) _ _ _); first | (k_dflt (refine in_strs_other (by exact News.isList (by k_asm) (by k_mem)) (by (first | exact StrsAre.nil | exact StrsAre.cons _ _ StrsAre.nil | exact StrsAre.cons _ _ (StrsAre.cons _ _ StrsAre.nil))) (by first | exact .inl rfl | exact .inr ⟨_, _, rfl⟩) ?_; k_whole); (try ((with_reducible show wpAny _ _ _ _ _ _); k_gentoks)))) | ((with_reducible show wpAny _ _ (call (Value.builtin _) _) _ _ _); first | ((with_reducible show wpAny _ _ (call (Value.builtin "list.index") _) _ _ _); k_dflt (first | refine index_strs (by exact News.isList (by k_asm) (by k_mem)) (by (first | exact StrsAre.nil | exact StrsAre.cons _ _ StrsAre.nil | exact StrsAre.cons _ _ (StrsAre.cons _ _ StrsAre.nil))) 0 (by exact Nat.le_of_ble_eq_true rfl) (by decide +kernel) (by exact fun _ _ h => absurd h (Nat.not_lt_zero _)) (by exact Nat.le_of_ble_eq_true rfl) ?_ | refine index_second (by exact News.isList (by k_asm) (by k_mem)) (by decide +kernel) ?_); k_whole; (try ((with_reducible show wpAny _ _ _ _ _ _); k_gentoks)))) | ((with_reducible show wpAny _ _ (call (Value.ref _) _) _ _ _); first | ((with_reducible show wpAny _ _ (call (Value.ref 50) _) _ _ _); k_dflt (refine note_call (by k_asm) (by k_asm) (by k_asm) (by k_asm) (by k_asm) (by first | exact rfl | assumption) (by first | exact rm (by assumption) (by rfl) | ktr_room) (by first | exact un3 (by assumption) (by rfl) | ktr_units) (by k_mem) (by k_mem) (by k_mem) (by assumption) (by first | assumption | omega | decide) (by first | assumption | omega) (by first | assumption | omega) (by k_ne) (by k_ne) (by k_ne) (by ((repeat' (first | (with_reducible first | exact Rest.nil | refine' Rest.d1 ?_ | refine' Rest.d2 ?_ | refine' Rest.d3 ?_ | refine' Rest.d4 ?_ | refine' Rest.d5 ?_ | refine' Rest.d6 ?_ | refine' Rest.d7 ?_ | refine' Rest.d8 ?_ | refine' Rest.d9 ?_ | refine' Rest.d10 ?_ | refine' Rest.d11 ?_) | (refine' Rest.keep (by ((repeat' (first | with_reducible exact nea_nil | exact df_all (by with_reducible assumption) | exact df_allm (by with_reducible assumption) (by k_mem) | refine nea_cons (by k_ne) ?_)); done)) ?_) | exact Rest.all (by with_reducible assumption) | exact Rest.all (rest_one (by with_reducible assumption)) | exact Rest.all (rest_two (by with_reducible assumption) (by with_reducible assumption)) | (with_reducible first | refine' Rest.app (by assumption) ?_ | refine' Rest.app (rest_one (by assumption)) ?_ | refine' Rest.app (rest_two (by assumption) (by assumption)) ?_ | refine' Rest.drop ?_))); done)) ?_; k_whole); intro ts' h' tk' F' N' hi'; (try simp only [List.cons_append, List.nil_append, List.append_assoc] at N'); (try k_fold); (try ((with_reducible show wpAny _ _ _ _ _ _); k_gentoks)))) | (k_end; wrow_close) | walk1 | (dsimp only; walk1) | (leave1; (try dsimp only))))
  all_goals first
    | (refine hret _ _ _ _ (by assumption) (news_sub (by assumption) ?_) (keep_of (by assumption) (by assumption)) ⟨_, rfl, by assumption, rfl⟩
       ((repeat' (first | (with_reducible first | exact sub_nil | exact sub_self | refine sub_app ?_ ?_ | refine sub_cons ?_ ?_) | ((repeat with_reducible first | exact sub_self | exact sub_l sub_self | refine sub_tl ?_ | refine sub_r ?_); done) | ((with_reducible show _ ∈ _); k_mem) | (refine sub_cons (by k_mem) ?_))); done); done)
    | (refine hret _ _ _ _ (by assumption) (by assumption) (keep_of (by assumption) (by assumption)) ⟨ts, ?_, ?_, rfl⟩
       · rw [f8]
         rfl
       · exact f9 _ rfl hi)

abbrev rowLed (row dx rl pl tl : Addr) (rk : RowK) (rs ps : List Value) (n1 n2 n : Nat) (ts : List Value) (hc : Bool) : Led :=
  [(row, instObj 67 dx), (dx, rowD rk rl pl tl hc), (rl, listOf rs.toArray n1), (pl, listOf ps.toArray n2), (tl, listOf ts.toArray n)]
theorem region_call {w : World} {mean : ExcName → Option Value} {mg mb : Str → Option Value}
    {dp un : Nat} {gd : Option (List Code)} {cn : Str} {cs : Scope} {aa : Addr} {ccd : Value} {cl : List (Str × Addr)} {outer : List Env} {A₀ : Around} {base h₀ : Heap} {L : Addr} {m : Str → Option Value} {s : Shared} {Q E : Value → Shared → Prop} {led rest : Led}
    {row dx rl pl tl : Addr} {rk : RowK} {hc : Bool} {rs ps ts : List Value} {n1 n2 n : Nat} {rgs pgs : List Nm} {ws : List Way} {x : Nm} {v : Value} {ta : Tok} {a : Way}
    (B : Below A₀ base outer h₀) (F : Fr h₀ L s.heap m) (X : (hd.heap_39 w.params).In h₀) (N : News h₀ L s.heap led) (T : Top hd.view_39 LZ mean mg mb h₀) (hk : cs.kind = .function)
    (hd : dp + 3 < recursionLimit) (hu : un + 30 < cLine) (m1 : ∀ p ∈ rowLed row dx rl pl tl rk rs ps n1 n2 n ts hc, p ∈ led)
    (hv : NmV x v) (hx : x.isP = false) (R : RegsV rs rgs) (P : ParsV ps pgs) (hi : StrsAre ts (ws.map Way.s)) (hl : ws.length = (rgs ++ pgs).length)
    (e1 : row ≠ dx) (e2 : row ≠ rl) (e3 : row ≠ tl) (e4 : dx ≠ rl) (e5 : dx ≠ tl) (e6 : rl ≠ tl) (e7 : row ≠ pl) (e8 : dx ≠ pl) (e9 : rl ≠ pl) (e10 : pl ≠ tl) (hr : Rest [row, dx, rl, pl, tl] led rest)
    (ret : ∀ ts' h' tk', Fr h₀ L h' m → News h₀ L h' (rowLed row dx rl pl tl rk rs ps n1 n2 n ts' (hc || (noteN (rgs ++ pgs) ws x a != ws)) ++ rest) → StrsAre ts' ((noteN (rgs ++ pgs) ws x a).map Way.s) → Q .none { s with heap := h', toks := tk' }) :
    wpAny (model Pg w) (ktrTop dp un gd cn cs L aa ccd cl outer) (call (.ref 57) [.ref row, v, .str a.s ta]) Q E s := by
  refine (rowRegion_ok (rk := rk) (hc := hc) (n1 := n1) (n2 := n2) (n := n) hx hv R P hl hi e1 e2 e3 e4 e5 e6 e7 e8 e9 e10).use (rest := rest) B F X N T hk hd hu m1 trivial hr ?_
  rintro r news' h' tk' F' N' K' ⟨ts', rfl, hi', rfl⟩
  exact ret ts' h' tk' F' N' hi'
theorem param_call {w : World} {mean : ExcName → Option Value} {mg mb : Str → Option Value}
    {dp un : Nat} {gd : Option (List Code)} {cn : Str} {cs : Scope} {aa : Addr} {ccd : Value} {cl : List (Str × Addr)} {outer : List Env} {A₀ : Around} {base h₀ : Heap} {L : Addr} {m : Str → Option Value} {s : Shared} {Q E : Value → Shared → Prop} {led rest : Led}
    {row dx rl pl tl : Addr} {rk : RowK} {hc : Bool} {rs ps ts : List Value} {n1 n2 n : Nat} {rgs pgs : List Nm} {ws : List Way} {x : Nm} {v : Value} {ta : Tok} {a : Way}
    (B : Below A₀ base outer h₀) (F : Fr h₀ L s.heap m) (X : (hd.heap_39 w.params).In h₀) (N : News h₀ L s.heap led) (T : Top hd.view_39 LZ mean mg mb h₀) (hk : cs.kind = .function)
    (hd : dp + 3 < recursionLimit) (hu : un + 30 < cLine) (m1 : ∀ p ∈ rowLed row dx rl pl tl rk rs ps n1 n2 n ts hc, p ∈ led)
    (hv : NmV x v) (hx : x.isP = true) (R : RegsV rs rgs) (P : ParsV ps pgs) (hi : StrsAre ts (ws.map Way.s)) (hl : ws.length = (rgs ++ pgs).length)
    (e1 : row ≠ dx) (e2 : row ≠ rl) (e3 : row ≠ tl) (e4 : dx ≠ rl) (e5 : dx ≠ tl) (e6 : rl ≠ tl) (e7 : row ≠ pl) (e8 : dx ≠ pl) (e9 : rl ≠ pl) (e10 : pl ≠ tl) (hr : Rest [row, dx, rl, pl, tl] led rest)
    (ret : ∀ ts' h' tk', Fr h₀ L h' m → News h₀ L h' (rowLed row dx rl pl tl rk rs ps n1 n2 n ts' (hc || (noteN (rgs ++ pgs) ws x a != ws)) ++ rest) → StrsAre ts' ((noteN (rgs ++ pgs) ws x a).map Way.s) → Q .none { s with heap := h', toks := tk' }) :
    wpAny (model Pg w) (ktrTop dp un gd cn cs L aa ccd cl outer) (call (.ref 64) [.ref row, v, .str a.s ta]) Q E s := by
  refine (rowParam_ok (rk := rk) (hc := hc) (n1 := n1) (n2 := n2) (n := n) hx hv R P hl hi e1 e3 e5 e2.symm e4.symm e6 e7.symm e8.symm e10).use (rest := rest) B F X N T hk hd hu m1 trivial hr ?_
  rintro r news' h' tk' F' N' K' ⟨ts', rfl, hi', rfl⟩
  exact ret ts' h' tk' F' N' hi'

structure Apart (row dx rl pl tl : Addr) : Prop where
  a1 : ∀ p ∈ [row], Df p dx
  a2 : ∀ p ∈ [row, dx], Df p rl
  a3 : ∀ p ∈ [row, dx, rl], Df p pl
  a4 : ∀ p ∈ [row, dx, rl, pl], Df p tl
/-- the enum's row, as the ground bears it -/
def EnvIn (w : World) (frz : Led) (rv : Value) (K : Known) : Prop := ∃ rows erow edx erl epl etl : Addr, ∃ od : Obj, ∃ erk : RowK, ∃ ehc : Bool, ∃ t0 t1 t2 t3 : Tok, ∃ ek : Nat, rv = .ref rows ∧ (rows, od) ∈ frz ∧ od.IsDictOf (PySem.strKind Pg w) [(Str.ofString "m::E", Value.ref erow)] ∧ (erow, instObj 67 edx) ∈ frz ∧ (edx, rowD erk erl epl etl ehc) ∈ frz ∧ (etl, listOf (K.vals t0 t1 t2 t3).toArray ek) ∈ frz
def Ty.noAdt : Ty → Bool
  | .int | .oth | .par _ => true
  | .ref _ _ t => t.noAdt
  | .box t => t.noAdt
  | .arr t => t.noAdt
  | .tup t u => t.noAdt && u.noAdt
  | .adt _ _ _ _ => false
def AdtOk (w : World) (frz : Led) (rv : Value) (K : Known) (t : Ty) : Prop := t.noAdt = true ∨ EnvIn w frz rv K
theorem AdtOk.two {w : World} {frz : Led} {rv : Value} {K : Known} {t u : Ty} (h : AdtOk w frz rv K (.tup t u)) : AdtOk w frz rv K t ∧ AdtOk w frz rv K u := by
  rcases h with h | h
  · have h' : (t.noAdt && u.noAdt) = true := h
    rw [Bool.and_eq_true] at h'
    exact ⟨.inl h'.1, .inl h'.2⟩
  · exact ⟨.inr h, .inr h⟩
theorem AdtOk.env {w : World} {frz : Led} {rv : Value} {K : Known} {r1 r2 : Nm} {t u : Ty} (h : AdtOk w frz rv K (.adt r1 r2 t u)) : EnvIn w frz rv K := by
  rcases h with h | h
  · cases h
  · exact h
theorem walk_frz {H g : Heap} {frz : Led} {as : List Addr} (hz : At H frz) (k : GSub H g as) (hne : ∀ p ∈ frz, p.1 ∉ as) : At g frz := fun p hp => k _ _ (hz p hp) (hne p hp)
def WalkSpec (w : World) (mean : ExcName → Option Value) (mg mb : Str → Option Value) (f : Addr) (d : Nat) (t : Ty) : Prop :=
  ∀ {row dx rl pl tl : Addr} {rk : RowK} {hc : Bool} {rs ps ts : List Value} {n1 n2 n : Nat} {rgs pgs : List Nm} {ws : List Way} {ta : Addr} {tw : Tok} {a : Way} {K : Known} {frz : Led} {rv : Value},
    TyIn frz (.ref ta) t → RegsV rs rgs → ParsV ps pgs → ws.length = (rgs ++ pgs).length → StrsAre ts (ws.map Way.s) → Apart row dx rl pl tl → (∀ p ∈ frz, p.1 ∉ [row, dx, rl, pl, tl]) → AdtOk w frz rv K t →
    Sp w mean mg mb f d (10 * d) [.ref row, rv, .ref ta, .str a.s tw] (fun H => At H frz) (rowLed row dx rl pl tl rk rs ps n1 n2 n ts hc)
      (fun _ n' r => ∃ ts' : List Value, n' = rowLed row dx rl pl tl rk rs ps n1 n2 n ts' ((marks K t a).foldl (stepN (rgs ++ pgs)) (ws, hc)).2 ∧
        StrsAre ts' (((marks K t a).foldl (stepN (rgs ++ pgs)) (ws, hc)).1.map Way.s) ∧ r = .none)
section
variable {w : World} {mean : ExcName → Option Value} {mg mb : Str → Option Value}
    {dp un : Nat} {gd : Option (List Code)} {cn : Str} {cs : Scope} {aa : Addr} {ccd : Value} {cl : List (Str × Addr)} {outer : List Env} {A₀ : Around} {base h₀ : Heap} {L : Addr} {m : Str → Option Value} {s : Shared} {Q E : Value → Shared → Prop} {led rest : Led}
    {row dx rl pl tl : Addr} {rk : RowK} {hc : Bool} {rs ps ts : List Value} {n1 n2 n : Nat} {rgs pgs : List Nm} {ws : List Way} {ta : Addr} {tw : Tok} {a : Way} {K : Known} {frz : Led} {f : Addr} {d : Nat} {t : Ty} {rv : Value}
theorem walk_call (IH : WalkSpec w mean mg mb f d t) (TI : TyIn frz (.ref ta) t)
    (B : Below A₀ base outer h₀) (F : Fr h₀ L s.heap m) (X : (hd.heap_39 w.params).In h₀) (N : News h₀ L s.heap led) (T : Top hd.view_39 LZ mean mg mb h₀) (hk : cs.kind = .function)
    (hd : dp + d < recursionLimit) (hu : un + 10 * d < cLine) (m1 : ∀ p ∈ rowLed row dx rl pl tl rk rs ps n1 n2 n ts hc, p ∈ led)
    (R : RegsV rs rgs) (P : ParsV ps pgs) (hl : ws.length = (rgs ++ pgs).length) (hi : StrsAre ts (ws.map Way.s)) (ap : Apart row dx rl pl tl) (hne : ∀ p ∈ frz, p.1 ∉ [row, dx, rl, pl, tl]) (hod : AdtOk w frz rv K t) (hz : At s.heap frz) (hr : Rest [row, dx, rl, pl, tl] led rest)
    (ret : ∀ ts' h' tk', Fr h₀ L h' m → News h₀ L h' (rowLed row dx rl pl tl rk rs ps n1 n2 n ts' ((marks K t a).foldl (stepN (rgs ++ pgs)) (ws, hc)).2 ++ rest) →
      StrsAre ts' (((marks K t a).foldl (stepN (rgs ++ pgs)) (ws, hc)).1.map Way.s) → Q .none { s with heap := h', toks := tk' }) :
    wpAny (model Pg w) (ktrTop dp un gd cn cs L aa ccd cl outer) (call (.ref f) [.ref row, rv, .ref ta, .str a.s tw]) Q E s := by
  refine (IH TI R P hl hi ap hne hod).use (rest := rest) B F X N T hk hd hu m1 hz hr ?_
  rintro r news' h' tk' F' N' K' ⟨ts', rfl, hi', rfl⟩
  exact ret ts' h' tk' F' N' hi'
end

theorem one_of {its : Led} {a : Addr} (h : its.map (·.1) = [a]) : ∃ oa, its = [(a, oa)] := by
  cases its with
  | nil => cases h
  | cons p r =>
    cases r with
    | nil =>
      obtain ⟨pa, po⟩ := p
      simp only [List.map_cons, List.map_nil, List.cons.injEq, and_true] at h
      subst h
      exact ⟨_, rfl⟩
    | cons q r => simp at h
def WalkT (row dx rl pl tl : Addr) (rk : RowK) (rs ps : List Value) (n1 n2 n : Nat) (xs : List Str) (m₀ : Str → Option Value) (st : List Way × Bool) (m : Str → Option Value) (led : Led) : Prop :=
  ∃ ts : List Value, led = rowLed row dx rl pl tl rk rs ps n1 n2 n ts st.2 ∧ StrsAre ts (st.1.map Way.s) ∧ ∀ z, xs.contains z = false → m z = m₀ z
theorem mapeq {xs : List Str} {m m₀ : Str → Option Value} (hm : ∀ z, xs.contains z = false → m z = m₀ z) : m = fun z => if xs.contains z then m z else m₀ z := by
  funext z
  cases hc : xs.contains z with
  | true => simp
  | false => simp [hm z hc]
theorem forall_five {P : Addr → Prop} {a b c d e : Addr} (h1 : P a) (h2 : P b) (h3 : P c) (h4 : P d) (h5 : P e) : ∀ x ∈ [a, b, c, d, e], P x := by
  intro x hx
  simp only [List.mem_cons, List.not_mem_nil, or_false] at hx
  rcases hx with rfl | rfl | rfl | rfl | rfl <;> assumption
section
variable {prog : Program} {w : World} {A : Around} {E : Value → Shared → Prop} {s : Shared} {env : Env} {h₀ : Heap} {body : List Stmt} {Q : Flow → Shared → Prop}
    {row dx rl pl tl : Addr} {rk : RowK} {rs ps : List Value} {n1 n2 n : Nat}
theorem iter_marks {elts : List Expr} {k : Nat} {pos : Pos} {l : Addr} {vs ts0 : List Value} {m₀ : Str → Option Value} {led : Led} (xs : List Str) (st : Nat → List Way × Bool) (hh : A.handled = none) (hl : IsTup h₀ l vs.toArray) (F : Fr h₀ env.locals s.heap m₀) (N : News h₀ env.locals s.heap led)
    (hled : ∀ p ∈ rowLed row dx rl pl tl rk rs ps n1 n2 n ts0 (st 0).2, p ∈ led) (V : StrsAre ts0 ((st 0).1.map Way.s))
    (turn : ∀ e it oe oi i T t x ts (u : Str → Option Value) h₁ tk₁, vs[i]? = some x → IsTup h₁ T [Value.int ((i : Nat) : Int) t, x].toArray → StrsAre ts ((st i).1.map Way.s) → (∀ b ∈ [row, dx, rl, pl, tl], Df b e) → (∀ b ∈ [row, dx, rl, pl, tl], Df b it) →
      Fr h₀ env.locals h₁ (fun z => if xs.contains z then u z else m₀ z) → News h₀ env.locals h₁ ((e, oe) :: (it, oi) :: (rowLed row dx rl pl tl rk rs ps n1 n2 n ts (st i).2)) →
      wpAny (model prog w) A (assign (.Tuple elts k pos) env (.ref T)) (fun _ s₃ => wpAny (model prog w) A (execs body env) (TurnPostN h₀ env.locals [(e, oe), (it, oi)] (WalkT row dx rl pl tl rk rs ps n1 n2 n xs m₀ (st (i + 1))) { s with heap := h₁, toks := tk₁ } Q) E s₃) E { s with heap := h₁, toks := tk₁ })
    (done : ∀ ts (u : Str → Option Value) h' tk, StrsAre ts ((st vs.length).1.map Way.s) → Fr h₀ env.locals h' (fun z => if xs.contains z then u z else m₀ z) → News h₀ env.locals h' (rowLed row dx rl pl tl rk rs ps n1 n2 n ts (st vs.length).2) → Q .next { s with heap := h', toks := tk }) :
    wpAny (model prog w) A (call (.type "enumerate") [.ref l]) (fun xv s₁ => wpAny (model prog w) A (pyIter xv) (fun it s₂ => TurnsAt prog w A h₀ env (.Tuple elts k pos) body Q E it s₂) E s₁) E s := by
  refine iter_enum hh hl F (fun p hp => N p (hled p hp)) (fun i => WalkT row dx rl pl tl rk rs ps n1 n2 n xs m₀ (st i)) ⟨ts0, rfl, V, fun _ _ => rfl⟩ ?_ ?_
  · rintro e it oe oi i T t x m₁ led₁ h₁ tk₁ hx hT ⟨ts, rfl, V', hm⟩ he hi F₁ N₁
    rw [mapeq hm] at F₁
    have at_ : ∀ {y : Addr}, (∀ p ∈ rowLed row dx rl pl tl rk rs ps n1 n2 n ts (st i).2, p.1 ≠ y) → ∀ b ∈ [row, dx, rl, pl, tl], Df b y := by
      intro y hy
      exact forall_five (P := fun b => Df b y) (hy (row, instObj 67 dx) (.head _)) (hy (dx, _) (.tail _ (.head _))) (hy (rl, _) (.tail _ (.tail _ (.head _)))) (hy (pl, _) (.tail _ (.tail _ (.tail _ (.head _))))) (hy (tl, _) (.tail _ (.tail _ (.tail _ (.tail _ (.head _))))))
    exact turn e it oe oi i T t x ts m₁ h₁ tk₁ hx hT V' (at_ he) (at_ hi) F₁ N₁
  · rintro h' tk m' led' F' N' ⟨ts, rfl, V', hm⟩
    rw [mapeq hm] at F'
    exact done ts m' h' tk V' F' N'
theorem marks_end {e it : Addr} {oe oi : Obj} {tk tk₁ : Nat} {m₀ m' : Str → Option Value} {h₁ h' : Heap} {xs : List Str} {st : List Way × Bool} {ts : List Value} {led : Led}
    (F : Fr h₀ env.locals h' m') (N : News h₀ env.locals h' led) (m1 : (e, oe) ∈ led) (m2 : (it, oi) ∈ led) (m3 : ∀ p ∈ rowLed row dx rl pl tl rk rs ps n1 n2 n ts st.2, p ∈ led)
    (o1 : ∀ b ∈ [row, dx, rl, pl, tl], Df b e) (o2 : ∀ b ∈ [row, dx, rl, pl, tl], Df b it) (hst : StrsAre ts (st.1.map Way.s)) (hm : ∀ z, xs.contains z = false → m' z = m₀ z) :
    TurnPostN h₀ env.locals [(e, oe), (it, oi)] (WalkT row dx rl pl tl rk rs ps n1 n2 n xs m₀ st) { s with heap := h₁, toks := tk₁ } Q .next { s with heap := h', toks := tk } := by
  refine ⟨h', tk, m', _, rfl, F, fun p hp => ?_, fun p hp hb => ?_, ts, rfl, hst, hm⟩
  · rcases List.mem_cons.mp hp with rfl | hp
    · exact N _ m1
    · rcases List.mem_cons.mp hp with rfl | hp
      · exact N _ m2
      · exact N _ (m3 p hp)
  · have hq : p.1 ∈ [row, dx, rl, pl, tl] := List.mem_map_of_mem (f := (·.1)) hp
    rcases List.mem_cons.mp hb with e' | hb
    · exact o1 _ hq e'
    · exact o2 _ hq (List.mem_singleton.mp hb)
end
section
variable {prog : Program} {w : World} {A : Around} {E : Value → Shared → Prop} {s : Shared} {env : Env} {h₀ : Heap} {target : Expr} {body : List Stmt} {Q : Flow → Shared → Prop}
    {row dx rl pl tl : Addr} {rk : RowK} {rs ps : List Value} {n1 n2 n : Nat}
/-- a loop over a tuple of the ground -/
theorem iter_tupB {l : Addr} {vs : List Value} {m₀ : Str → Option Value} {led : Led} (hh : A.handled = none) (hl : IsTup h₀ l vs.toArray) (F : Fr h₀ env.locals s.heap m₀) (N : News h₀ env.locals s.heap led)
    (J : Nat → (Str → Option Value) → Led → Prop) (h0 : J 0 m₀ led)
    (step : ∀ I it i v m₁ led₁ h₁ tk₁, vs[i]? = some v → J i m₁ led₁ → (∀ p ∈ led₁, p.1 ≠ I) → Fr h₀ env.locals h₁ m₁ → News h₀ env.locals h₁ ((I, it) :: led₁) →
      wpAny (model prog w) A (assign target env v) (fun _ s₃ => wpAny (model prog w) A (execs body env) (TurnPostN h₀ env.locals [(I, it)] (J (i + 1)) { s with heap := h₁, toks := tk₁ } Q) E s₃) E { s with heap := h₁, toks := tk₁ })
    (done : ∀ h' tk m' led', Fr h₀ env.locals h' m' → News h₀ env.locals h' led' → J vs.length m' led' → Q .next { s with heap := h', toks := tk }) :
    wpAny (model prog w) A (pyIter (.ref l)) (fun it s₂ => TurnsAt prog w A h₀ env target body Q E it s₂) E s := by
  have hls : s.heap.IsTuple l vs.toArray := hl.keeps fun b o e => F.keep b o e
  obtain ⟨ol, hol, hol'⟩ := id hl
  have hlt : l < s.heap.objs.size := Heap.lt_size (F.keep _ _ hol)
  have hne : l ≠ s.heap.objs.size := Nat.ne_of_lt hlt
  have hlen : vs.toArray.size = vs.length := by simp
  have hLs : env.locals < s.heap.objs.size := F.ns.lt
  have hLn : ∀ o, h₀.get? env.locals ≠ some o := fun o e => absurd (Heap.lt_size e) (Nat.not_lt.mpr F.above)
  refine wpAny_pyIter_tuple hls ?_
  have W := Walks.tuple (prog := prog) (w := w) hh s.heap.objs.size l hne vs.toArray
  rw [hlen] at W
  refine turns_coreN (tk0 := s.toks) (KTurns.ofWalks W fun i v s Q E st q => letGo_tupleiter st.1 q) ?_ ?_ ?_ hLn ?_ (F.push _) (fun p hp => ⟨Heap.get?_push_of_some _ (N p hp).1, (N p hp).2⟩) ?_ J h0 ?_ done
  · rintro i h ⟨⟨oi, hoi, _⟩, _⟩
    exact ⟨[(s.heap.objs.size, oi)], rfl, fun p hp => by rw [List.mem_singleton.mp hp]; exact hoi⟩
  · intro b hb
    simp only [List.mem_cons, List.not_mem_nil, or_false] at hb ⊢
    rcases hb with rfl | rfl
    · exact .inl rfl
    · exact .inr ⟨ol, hol⟩
  · intro b hb
    rw [List.mem_singleton.mp hb]
    exact ⟨next_is_new F, Nat.ne_of_lt hLs⟩
  · exact ⟨⟨_, Heap.get?_push_size _ rfl, rfl, rfl⟩, hls.push _⟩
  · intro p hp hb
    exact Nat.ne_of_lt (Heap.lt_size (N p hp).1) (List.mem_singleton.mp hb)
  · rintro its i v m₁ led₁ h₁ tk₁ hits hin hx hJ hoff F₁ N₁
    obtain ⟨oi, rfl⟩ := one_of hits
    exact step _ oi i v m₁ led₁ h₁ tk₁ (by simpa using hx) hJ (fun p hp e => hoff p hp (by rw [e]; exact .head _)) F₁ N₁
theorem iter_walks {l : Addr} {vs ts0 : List Value} {m₀ : Str → Option Value} {led : Led} (xs : List Str) (st : Nat → List Way × Bool) (hh : A.handled = none) (hl : IsTup h₀ l vs.toArray) (F : Fr h₀ env.locals s.heap m₀) (N : News h₀ env.locals s.heap led)
    (hled : ∀ p ∈ rowLed row dx rl pl tl rk rs ps n1 n2 n ts0 (st 0).2, p ∈ led) (V : StrsAre ts0 ((st 0).1.map Way.s))
    (turn : ∀ it oi i x ts (u : Str → Option Value) h₁ tk₁, vs[i]? = some x → StrsAre ts ((st i).1.map Way.s) → (∀ b ∈ [row, dx, rl, pl, tl], Df b it) →
      Fr h₀ env.locals h₁ (fun z => if xs.contains z then u z else m₀ z) → News h₀ env.locals h₁ ((it, oi) :: (rowLed row dx rl pl tl rk rs ps n1 n2 n ts (st i).2)) →
      wpAny (model prog w) A (assign target env x) (fun _ s₃ => wpAny (model prog w) A (execs body env) (TurnPostN h₀ env.locals [(it, oi)] (WalkT row dx rl pl tl rk rs ps n1 n2 n xs m₀ (st (i + 1))) { s with heap := h₁, toks := tk₁ } Q) E s₃) E { s with heap := h₁, toks := tk₁ })
    (done : ∀ ts (u : Str → Option Value) h' tk, StrsAre ts ((st vs.length).1.map Way.s) → Fr h₀ env.locals h' (fun z => if xs.contains z then u z else m₀ z) → News h₀ env.locals h' (rowLed row dx rl pl tl rk rs ps n1 n2 n ts (st vs.length).2) → Q .next { s with heap := h', toks := tk }) :
    wpAny (model prog w) A (pyIter (.ref l)) (fun it s₂ => TurnsAt prog w A h₀ env target body Q E it s₂) E s := by
  refine iter_tupB hh hl F (fun p hp => N p (hled p hp)) (fun i => WalkT row dx rl pl tl rk rs ps n1 n2 n xs m₀ (st i)) ⟨ts0, rfl, V, fun _ _ => rfl⟩ ?_ ?_
  · rintro it oi i x m₁ led₁ h₁ tk₁ hx ⟨ts, rfl, V', hm⟩ hi F₁ N₁
    rw [mapeq hm] at F₁
    refine turn it oi i x ts m₁ h₁ tk₁ hx V' ?_ F₁ N₁
    exact forall_five (P := fun b => Df b it) (hi (row, instObj 67 dx) (.head _)) (hi (dx, _) (.tail _ (.head _))) (hi (rl, _) (.tail _ (.tail _ (.head _)))) (hi (pl, _) (.tail _ (.tail _ (.tail _ (.head _))))) (hi (tl, _) (.tail _ (.tail _ (.tail _ (.tail _ (.head _))))))
  · rintro h' tk m' led' F' N' ⟨ts, rfl, V', hm⟩
    rw [mapeq hm] at F'
    exact done ts m' h' tk V' F' N'
theorem walks_end {it : Addr} {oi : Obj} {tk tk₁ : Nat} {m₀ m' : Str → Option Value} {h₁ h' : Heap} {xs : List Str} {st : List Way × Bool} {ts : List Value} {led : Led}
    (F : Fr h₀ env.locals h' m') (N : News h₀ env.locals h' led) (m2 : (it, oi) ∈ led) (m3 : ∀ p ∈ rowLed row dx rl pl tl rk rs ps n1 n2 n ts st.2, p ∈ led)
    (o2 : ∀ b ∈ [row, dx, rl, pl, tl], Df b it) (hst : StrsAre ts (st.1.map Way.s)) (hm : ∀ z, xs.contains z = false → m' z = m₀ z) :
    TurnPostN h₀ env.locals [(it, oi)] (WalkT row dx rl pl tl rk rs ps n1 n2 n xs m₀ st) { s with heap := h₁, toks := tk₁ } Q .next { s with heap := h', toks := tk } := by
  refine ⟨h', tk, m', _, rfl, F, fun p hp => ?_, fun p hp hb => ?_, ts, rfl, hst, hm⟩
  · rcases List.mem_cons.mp hp with rfl | hp
    · exact N _ m2
    · exact N _ (m3 p hp)
  · exact o2 _ (List.mem_map_of_mem (f := (·.1)) hp) (List.mem_singleton.mp hb)
end
theorem contains1 {a z : Str} (h : [a].contains z = false) : ¬ z = a := by
  simpa using h
theorem contains3 {a b c z : Str} (h : [a, b, c].contains z = false) : ¬ z = a ∧ ¬ z = b ∧ ¬ z = c := by
  simpa using h
def adtR (names : List Nm) (st : List Way × Bool) (x y : Nm × Way) : Nat → List Way × Bool
  | 0 => st
  | 1 => stepN names st x
  | _ => stepN names (stepN names st x) y
def adtT (names : List Nm) (st : List Way × Bool) (x y : List (Nm × Way)) : Nat → List Way × Bool
  | 0 => st
  | 1 => x.foldl (stepN names) st
  | _ => y.foldl (stepN names) (x.foldl (stepN names) st)
theorem adtT_bi0 {names : List Nm} {st : List Way × Bool} {x y : List (Nm × Way)} (h : x.foldl (stepN names) st = st) : adtT names st x y (0 + 1) = adtT names st x y 0 := h
theorem adtT_bi1 {names : List Nm} {st : List Way × Bool} {x y : List (Nm × Way)} (h : y.foldl (stepN names) (x.foldl (stepN names) st) = x.foldl (stepN names) st) : adtT names st x y (0 + 1 + 1) = adtT names st x y (0 + 1) := h
theorem adtR_length {names : List Nm} {st : List Way × Bool} {x y : Nm × Way} (i : Nat) : (adtR names st x y i).1.length = st.1.length := by
  match i with
  | 0 => rfl
  | 1 => exact stepN_length ..
  | i + 2 => exact (stepN_length ..).trans (stepN_length ..)
theorem adtT_length {names : List Nm} {st : List Way × Bool} {x y : List (Nm × Way)} (i : Nat) : (adtT names st x y i).1.length = st.1.length := by
  match i with
  | 0 => rfl
  | 1 => exact stepsN_length ..
  | i + 2 => exact (stepsN_length ..).trans (stepsN_length ..)
theorem itemG {prog : Program} {w : World} {A : Around} {E : Value → Shared → Prop} {s : Shared} {h₀ : Heap} {L l : Addr} {led : Led} {value slice : PySem.Expr} {vs : List Value} {n : Nat} {k : Int} {u : Tok} {v : Value} {Q : Value → Shared → Prop} (N : News h₀ L s.heap led) (hm : (l, listOf vs.toArray n) ∈ led) (h0 : 0 ≤ k) (h1 : k < 2 ^ 63) (hx : vs[k.toNat]? = some v) (h : Q v s)
    (hs : subscripted slice false (.ref l) (.int k u) = operate [.ref l, .int k u] (getItem (.ref l) (.int k u)) := by with_unfolding_all rfl) :
    wpAny (model prog w) A (subscriptTail value slice (.ref l) (.int k u)) Q E s := item_litK (N.isList hm) h0 h1 hx h hs
theorem lenT2 {prog : Program} {w : World} {A : Around} {E : Value → Shared → Prop} {s : Shared} {h₀ : Heap} {L l : Addr} {m : Str → Option Value} {a b : Value} {Q : Value → Shared → Prop} (F : Fr h₀ L s.heap m) (hl : IsTup h₀ l [a, b].toArray) (h : Q (.int 2 (s.toks + 1)) { s with toks := s.toks + 1 + 1 }) : wpAny (model prog w) A (call (.builtin "len") [.ref l]) Q E s :=
  len_tuple (hl.keeps fun b o e => F.keep b o e) (by simp) h
section
variable {w : World} {mean : ExcName → Option Value} {mg mb : Str → Option Value}
    {dp un : Nat} {gd : Option (List Code)} {cn : Str} {cs : Scope} {aa : Addr} {ccd : Value} {cl : List (Str × Addr)} {outer : List Env} {A₀ : Around} {base h₀ : Heap} {L : Addr} {m : Str → Option Value} {s : Shared} {Q E : Value → Shared → Prop} {led rest : Led}
    {row dx rl pl tl : Addr} {rk : RowK} {hc : Bool} {rs ps ts : List Value} {n1 n2 n : Nat} {rgs pgs : List Nm} {ws : List Way} {ta : Addr} {tw : Tok} {a : Way} {K : Known} {frz : Led} {f : Addr} {d : Nat} {t : Ty} {rv : Value}
theorem walk_call3 (TI : TyIn frz (.ref ta) t) (IH : WalkSpec w mean mg mb f d t)
    (B : Below A₀ base outer h₀) (F : Fr h₀ L s.heap m) (X : (hd.heap_39 w.params).In h₀) (N : News h₀ L s.heap led) (T : Top hd.view_39 LZ mean mg mb h₀) (hk : cs.kind = .function)
    (hd : dp + d < recursionLimit) (hu : un + 10 * d < cLine) (ap : Apart row dx rl pl tl) (hod : AdtOk w frz rv K t) (R : RegsV rs rgs) (P : ParsV ps pgs) (hi : StrsAre ts (ws.map Way.s)) (hl : ws.length = (rgs ++ pgs).length)
    (m1 : ∀ p ∈ rowLed row dx rl pl tl rk rs ps n1 n2 n ts hc, p ∈ led) (hne : ∀ p ∈ frz, p.1 ∉ [row, dx, rl, pl, tl]) (hz : At h₀ frz) (hr : Rest [row, dx, rl, pl, tl] led rest)
    (ret : ∀ ts' h' tk', Fr h₀ L h' m → News h₀ L h' (rowLed row dx rl pl tl rk rs ps n1 n2 n ts' ((marks K t a).foldl (stepN (rgs ++ pgs)) (ws, hc)).2 ++ rest) →
      StrsAre ts' (((marks K t a).foldl (stepN (rgs ++ pgs)) (ws, hc)).1.map Way.s) → Q .none { s with heap := h', toks := tk' }) :
    wpAny (model Pg w) (ktrTop dp un gd cn cs L aa ccd cl outer) (call (.ref f) [.ref row, rv, .ref ta, .str a.s tw]) Q E s :=
  walk_call @IH TI B F X N T hk hd hu m1 R P hl hi ap hne hod (at_base F hz) hr ret
end
/-- an own object of the ground -/
theorem instB {h₀ h : Heap} {L x C dx : Addr} {m : Str → Option Value} {od : Obj} {sl : Array (Option Value)} (F : Fr h₀ L h m) (h1 : h₀.get? x = some (⟨.ref C, some dx, .plain, sl⟩ : Obj)) (h2 : h₀.get? dx = some od) :
    InstAt h x ⟨.ref C, some dx, .plain, sl⟩ C (some od) := ⟨F.keep _ _ h1, rfl, rfl, F.keep _ _ h2⟩
theorem dictB {prog : Program} {w : World} {A : Around} {E : Value → Shared → Prop} {s : Shared} {h₀ : Heap} {L d : Addr} {m : Str → Option Value} {o : Obj} {v : Value} {t : Tok} {value slice : PySem.Expr} {Q : Value → Shared → Prop} (F : Fr h₀ L s.heap m) (hz : h₀.get? d = some o) (hd : o.IsDictOf (PySem.strKind prog w) [(Str.ofString "m::E", v)])
    (h : Q v { s with toks := s.toks + 1 })
    (hs : subscripted slice false (.ref d) (.str (Str.ofString "m::E") t) = operate [.ref d, .str (Str.ofString "m::E") t] (getItem (.ref d) (.str (Str.ofString "m::E") t)) := by with_unfolding_all rfl) (hg : ∀ r, letTemporaryGo value (.ref d) r = pure () := by intro _; with_unfolding_all rfl) :
    wpAny (model prog w) A (subscriptTail value slice (.ref d) (.str (Str.ofString "m::E") t)) Q E s :=
  have hD : s.heap.DictOf (PySem.strKind prog w) d [(Str.ofString "m::E", v)] := Heap.dictOf_iff.mpr ⟨o, F.keep _ _ hz, hd⟩
  subscriptTail_builtin hD.typeIs slot_dict_getitem.lookup (wpAny_getItem_of (strKind_is _ _ _ _) hD.mapOf rfl h) hs hg

theorem walkInt {w mean mg mb} : WalkSpec w mean mg mb 78 20 .int := by
  intro row dx rl pl tl rk hc rs ps ts n1 n2 n rgs pgs ws ta tw a K frz rv TI R P hl hi ap hne hod
  cases TI with
  | int m1 =>
  unfold Sp Pg LZ
  k_fill
  intro dp un gd cn cs aa ccd cl outer A₀ base h₀ L m s Q E B F X N T hk hd hu hz hret
  obtain ⟨a1, a2, a3, a4⟩ := id ap
  simp only [rowLed, List.cons_append, List.nil_append] at N
  refine wpAny_call ?_
  k_dflt (refine code_defG (by k_asm) (by k_asm) (by k_asm) (by k_asm) (by k_asm) (by exact rfl) (by exact rfl) (by assumption) (by k_is) (by k_is) (by first | exact rm0 (by assumption) | ktr_room) (by exact BindsTo.of_eq rfl) (by exact locs rfl) ?_ (by exact rfl) (by exact rfl) (by exact rfl) (by decide); k_whole)
  intro g' L' h' FG' F' N' B' X' T' kG'
  (try dsimp only)
  (try k_fold)
  (try ((with_reducible show wpAny _ _ _ _ _ _); k_gentoks))
  have gz := walk_frz hz (by assumption) hne
  have g1 := gz.tup m1
  (w_top off; repeat' (first | (k_unfold; (try dsimp only)) | ((with_reducible show wpAny _ _ (newTuple _) _ _ _); first | (k_dflt (refine newTupleM (by k_asm) (by k_asm) (by exact Nat.le_of_ble_eq_true rfl) ?_; k_whole); intro D' h' F' N' l1; (try k_sweep); (try ((with_reducible show wpAny _ _ _ _ _ _); k_gentoks)))) | ((with_reducible show wpAny _ _ (newList _) _ _ _); first | (k_dflt (refine newListM (by k_asm) (by k_asm) (by exact Nat.le_of_ble_eq_true rfl) ?_; k_whole); intro D' h' F' N' l1; (try k_sweep); (try ((with_reducible show wpAny _ _ _ _ _ _); k_gentoks)))) | ((with_reducible show wpAny _ _ (call (Value.ref _) _) _ _ _); first | ((with_reducible show wpAny _ _ (call (Value.ref 155) _) _ _ _); k_dflt (refine region_call0 (by k_asm) (by k_asm) (by k_asm) (by k_asm) (by k_asm) (by first | exact rfl | assumption) (by first | exact rm (by assumption) (by rfl) | ktr_room) (by first | exact un3 (by assumption) (by rfl) | ktr_units) (by k_mem) (by ((repeat' (first | (with_reducible first | exact Rest.nil | refine' Rest.d1 ?_ | refine' Rest.d2 ?_ | refine' Rest.d3 ?_ | refine' Rest.d4 ?_ | refine' Rest.d5 ?_ | refine' Rest.d6 ?_ | refine' Rest.d7 ?_ | refine' Rest.d8 ?_ | refine' Rest.d9 ?_ | refine' Rest.d10 ?_ | refine' Rest.d11 ?_) | (refine' Rest.keep (by ((repeat' (first | with_reducible exact nea_nil | exact df_all (by with_reducible assumption) | exact df_allm (by with_reducible assumption) (by k_mem) | refine nea_cons (by k_ne) ?_)); done)) ?_) | exact Rest.all (by with_reducible assumption) | exact Rest.all (rest_one (by with_reducible assumption)) | exact Rest.all (rest_two (by with_reducible assumption) (by with_reducible assumption)) | (with_reducible first | refine' Rest.app (by assumption) ?_ | refine' Rest.app (rest_one (by assumption)) ?_ | refine' Rest.app (rest_two (by assumption) (by assumption)) ?_ | refine' Rest.drop ?_))); done)) (by assumption) (by assumption) (by assumption) ?_; k_whole); intro x' y' tx' ty' r' h' tk' F' N' hx' hy' hy2' hr'; obtain ⟨n', hi', hn'⟩ := hr'; (try k_fold); (try ((with_reducible show wpAny _ _ _ _ _ _); k_gentoks))) | ((with_reducible show wpAny _ _ (call (Value.ref 57) _) _ _ _); k_dflt (refine region_call (by k_asm) (by k_asm) (by k_asm) (by k_asm) (by k_asm) (by first | exact rfl | assumption) (by first | exact rm (by assumption) (by rfl) | ktr_room) (by first | exact un3 (by assumption) (by rfl) | ktr_units) (by ((repeat' (first | (with_reducible first | exact sub_nil | exact sub_self | refine sub_app ?_ ?_ | refine sub_cons ?_ ?_) | ((repeat with_reducible first | exact sub_self | exact sub_l sub_self | refine sub_tl ?_ | refine sub_r ?_); done) | ((with_reducible show _ ∈ _); k_mem) | (refine sub_cons (by k_mem) ?_))); done)) (by assumption) (by assumption) (by assumption) (by assumption) (by assumption) (by (first | assumption | (simp only [adtR_length, adtT_length, stepsN_length, stepN_length, noteN_length]; assumption))) (by k_ne) (by k_ne) (by k_ne) (by k_ne) (by k_ne) (by k_ne) (by k_ne) (by k_ne) (by k_ne) (by k_ne) (by ((repeat' (first | (with_reducible first | exact Rest.nil | refine' Rest.d1 ?_ | refine' Rest.d2 ?_ | refine' Rest.d3 ?_ | refine' Rest.d4 ?_ | refine' Rest.d5 ?_ | refine' Rest.d6 ?_ | refine' Rest.d7 ?_ | refine' Rest.d8 ?_ | refine' Rest.d9 ?_ | refine' Rest.d10 ?_ | refine' Rest.d11 ?_) | (refine' Rest.keep (by ((repeat' (first | with_reducible exact nea_nil | exact df_all (by with_reducible assumption) | exact df_allm (by with_reducible assumption) (by k_mem) | refine nea_cons (by k_ne) ?_)); done)) ?_) | exact Rest.all (by with_reducible assumption) | exact Rest.all (rest_one (by with_reducible assumption)) | exact Rest.all (rest_two (by with_reducible assumption) (by with_reducible assumption)) | (with_reducible first | refine' Rest.app (by assumption) ?_ | refine' Rest.app (rest_one (by assumption)) ?_ | refine' Rest.app (rest_two (by assumption) (by assumption)) ?_ | refine' Rest.drop ?_))); done)) ?_; k_whole); intro ts' h' tk' F' N' hi'; (try simp only [List.cons_append, List.nil_append, List.append_assoc] at N'); (try k_fold); (try ((with_reducible show wpAny _ _ _ _ _ _); k_gentoks))) | ((with_reducible show wpAny _ _ (call (Value.ref 64) _) _ _ _); k_dflt (refine param_call (by k_asm) (by k_asm) (by k_asm) (by k_asm) (by k_asm) (by first | exact rfl | assumption) (by first | exact rm (by assumption) (by rfl) | ktr_room) (by first | exact un3 (by assumption) (by rfl) | ktr_units) (by ((repeat' (first | (with_reducible first | exact sub_nil | exact sub_self | refine sub_app ?_ ?_ | refine sub_cons ?_ ?_) | ((repeat with_reducible first | exact sub_self | exact sub_l sub_self | refine sub_tl ?_ | refine sub_r ?_); done) | ((with_reducible show _ ∈ _); k_mem) | (refine sub_cons (by k_mem) ?_))); done)) (by assumption) (by assumption) (by assumption) (by assumption) (by assumption) (by (first | assumption | (simp only [adtR_length, adtT_length, stepsN_length, stepN_length, noteN_length]; assumption))) (by k_ne) (by k_ne) (by k_ne) (by k_ne) (by k_ne) (by k_ne) (by k_ne) (by k_ne) (by k_ne) (by k_ne) (by ((repeat' (first | (with_reducible first | exact Rest.nil | refine' Rest.d1 ?_ | refine' Rest.d2 ?_ | refine' Rest.d3 ?_ | refine' Rest.d4 ?_ | refine' Rest.d5 ?_ | refine' Rest.d6 ?_ | refine' Rest.d7 ?_ | refine' Rest.d8 ?_ | refine' Rest.d9 ?_ | refine' Rest.d10 ?_ | refine' Rest.d11 ?_) | (refine' Rest.keep (by ((repeat' (first | with_reducible exact nea_nil | exact df_all (by with_reducible assumption) | exact df_allm (by with_reducible assumption) (by k_mem) | refine nea_cons (by k_ne) ?_)); done)) ?_) | exact Rest.all (by with_reducible assumption) | exact Rest.all (rest_one (by with_reducible assumption)) | exact Rest.all (rest_two (by with_reducible assumption) (by with_reducible assumption)) | (with_reducible first | refine' Rest.app (by assumption) ?_ | refine' Rest.app (rest_one (by assumption)) ?_ | refine' Rest.app (rest_two (by assumption) (by assumption)) ?_ | refine' Rest.drop ?_))); done)) ?_; k_whole); intro ts' h' tk' F' N' hi'; (try simp only [List.cons_append, List.nil_append, List.append_assoc] at N'); (try k_fold); (try ((with_reducible show wpAny _ _ _ _ _ _); k_gentoks))) | ((with_reducible show wpAny _ _ (call (Value.ref 29) _) _ _ _); k_dflt (first | refine within_call (b := .inn) (by k_asm) (by k_asm) (by k_asm) (by k_asm) (by k_asm) (by first | exact rfl | assumption) (by first | exact rm (by assumption) (by rfl) | ktr_room) (by first | exact un3 (by assumption) (by rfl) | ktr_units) ?_ | refine within_call (b := .co) (by k_asm) (by k_asm) (by k_asm) (by k_asm) (by k_asm) (by first | exact rfl | assumption) (by first | exact rm (by assumption) (by rfl) | ktr_room) (by first | exact un3 (by assumption) (by rfl) | ktr_units) ?_ | refine within_call (by k_asm) (by k_asm) (by k_asm) (by k_asm) (by k_asm) (by first | exact rfl | assumption) (by first | exact rm (by assumption) (by rfl) | ktr_room) (by first | exact un3 (by assumption) (by rfl) | ktr_units) ?_); k_whole; intro t' h' tk' F' N'; (try k_fold); (try ((with_reducible show wpAny _ _ _ _ _ _); k_gentoks))) | ((with_reducible first | show wpAny _ _ (call (Value.ref 78) _) _ _ _ | show wpAny _ _ (call (Value.ref 85) _) _ _ _); k_dflt (refine walk_call3 (by assumption) (by assumption) (by k_asm) (by k_asm) (by k_asm) (by k_asm) (by k_asm) (by first | exact rfl | assumption) (by first | exact rm (by assumption) (by rfl) | ktr_room) (by first | exact un3 (by assumption) (by rfl) | ktr_units) (by assumption) (by assumption) (by assumption) (by assumption) (by assumption) (by (first | assumption | (simp only [adtR_length, adtT_length, stepsN_length, stepN_length, noteN_length]; assumption))) (by ((repeat' (first | (with_reducible first | exact sub_nil | exact sub_self | refine sub_app ?_ ?_ | refine sub_cons ?_ ?_) | ((repeat with_reducible first | exact sub_self | exact sub_l sub_self | refine sub_tl ?_ | refine sub_r ?_); done) | ((with_reducible show _ ∈ _); k_mem) | (refine sub_cons (by k_mem) ?_))); done)) (by assumption) (by assumption) (by ((repeat' (first | (with_reducible first | exact Rest.nil | refine' Rest.d1 ?_ | refine' Rest.d2 ?_ | refine' Rest.d3 ?_ | refine' Rest.d4 ?_ | refine' Rest.d5 ?_ | refine' Rest.d6 ?_ | refine' Rest.d7 ?_ | refine' Rest.d8 ?_ | refine' Rest.d9 ?_ | refine' Rest.d10 ?_ | refine' Rest.d11 ?_) | (refine' Rest.keep (by ((repeat' (first | with_reducible exact nea_nil | exact df_all (by with_reducible assumption) | exact df_allm (by with_reducible assumption) (by k_mem) | refine nea_cons (by k_ne) ?_)); done)) ?_) | exact Rest.all (by with_reducible assumption) | exact Rest.all (rest_one (by with_reducible assumption)) | exact Rest.all (rest_two (by with_reducible assumption) (by with_reducible assumption)) | (with_reducible first | refine' Rest.app (by assumption) ?_ | refine' Rest.app (rest_one (by assumption)) ?_ | refine' Rest.app (rest_two (by assumption) (by assumption)) ?_ | refine' Rest.drop ?_))); done)) ?_; k_whole); intro ts' h' tk' F' N' hi'; (try simp only [List.cons_append, List.nil_append, List.append_assoc] at N'); (try k_fold); (try ((with_reducible show wpAny _ _ _ _ _ _); k_gentoks)))) | ((with_reducible show wpAny _ _ (subscriptTail _ _ (Value.ref _) (Value.int _ _)) _ _ _); first | (with_unfolding_all (refine itemT (by k_asm) (by with_reducible assumption) (by decide) (by decide) (by rfl) ?_ (by with_unfolding_all rfl); k_whole); (try ((with_reducible show wpAny _ _ _ _ _ _); k_gentoks))) | (with_unfolding_all (refine itemC (by k_asm) (by with_reducible assumption) (by decide) (by decide) (by rfl) ?_ (by with_unfolding_all rfl); k_whole); (try ((with_reducible show wpAny _ _ _ _ _ _); k_gentoks)))) | (k_end; wrow_close) | walk1 | (dsimp only; walk1) | (leave1; (try dsimp only))))
  exact hret _ _ _ _ (by assumption) (by assumption) (keep_of (by assumption) (by assumption)) ⟨_, rfl, by assumption, rfl⟩
theorem walkOth {w mean mg mb} : WalkSpec w mean mg mb 78 20 .oth := by
  intro row dx rl pl tl rk hc rs ps ts n1 n2 n rgs pgs ws ta tw a K frz rv TI R P hl hi ap hne hod
  cases TI with
  | oth m1 =>
  unfold Sp Pg LZ
  k_fill
  intro dp un gd cn cs aa ccd cl outer A₀ base h₀ L m s Q E B F X N T hk hd hu hz hret
  obtain ⟨a1, a2, a3, a4⟩ := id ap
  simp only [rowLed, List.cons_append, List.nil_append] at N
  refine wpAny_call ?_
  k_dflt (refine code_defG (by k_asm) (by k_asm) (by k_asm) (by k_asm) (by k_asm) (by exact rfl) (by exact rfl) (by assumption) (by k_is) (by k_is) (by first | exact rm0 (by assumption) | ktr_room) (by exact BindsTo.of_eq rfl) (by exact locs rfl) ?_ (by exact rfl) (by exact rfl) (by exact rfl) (by decide); k_whole)
  intro g' L' h' FG' F' N' B' X' T' kG'
  (try dsimp only)
  (try k_fold)
  (try ((with_reducible show wpAny _ _ _ _ _ _); k_gentoks))
  have gz := walk_frz hz (by assumption) hne
  have g1 := gz.tup m1
  (w_top off; repeat' (first | (k_unfold; (try dsimp only)) | ((with_reducible show wpAny _ _ (newTuple _) _ _ _); first | (k_dflt (refine newTupleM (by k_asm) (by k_asm) (by exact Nat.le_of_ble_eq_true rfl) ?_; k_whole); intro D' h' F' N' l1; (try k_sweep); (try ((with_reducible show wpAny _ _ _ _ _ _); k_gentoks)))) | ((with_reducible show wpAny _ _ (newList _) _ _ _); first | (k_dflt (refine newListM (by k_asm) (by k_asm) (by exact Nat.le_of_ble_eq_true rfl) ?_; k_whole); intro D' h' F' N' l1; (try k_sweep); (try ((with_reducible show wpAny _ _ _ _ _ _); k_gentoks)))) | ((with_reducible show wpAny _ _ (call (Value.ref _) _) _ _ _); first | ((with_reducible show wpAny _ _ (call (Value.ref 155) _) _ _ _); k_dflt (refine region_call0 (by k_asm) (by k_asm) (by k_asm) (by k_asm) (by k_asm) (by first | exact rfl | assumption) (by first | exact rm (by assumption) (by rfl) | ktr_room) (by first | exact un3 (by assumption) (by rfl) | ktr_units) (by k_mem) (by ((repeat' (first | (with_reducible first | exact Rest.nil | refine' Rest.d1 ?_ | refine' Rest.d2 ?_ | refine' Rest.d3 ?_ | refine' Rest.d4 ?_ | refine' Rest.d5 ?_ | refine' Rest.d6 ?_ | refine' Rest.d7 ?_ | refine' Rest.d8 ?_ | refine' Rest.d9 ?_ | refine' Rest.d10 ?_ | refine' Rest.d11 ?_) | (refine' Rest.keep (by ((repeat' (first | with_reducible exact nea_nil | exact df_all (by with_reducible assumption) | exact df_allm (by with_reducible assumption) (by k_mem) | refine nea_cons (by k_ne) ?_)); done)) ?_) | exact Rest.all (by with_reducible assumption) | exact Rest.all (rest_one (by with_reducible assumption)) | exact Rest.all (rest_two (by with_reducible assumption) (by with_reducible assumption)) | (with_reducible first | refine' Rest.app (by assumption) ?_ | refine' Rest.app (rest_one (by assumption)) ?_ | refine' Rest.app (rest_two (by assumption) (by assumption)) ?_ | refine' Rest.drop ?_))); done)) (by assumption) (by assumption) (by assumption) ?_; k_whole); intro x' y' tx' ty' r' h' tk' F' N' hx' hy' hy2' hr'; obtain ⟨n', hi', hn'⟩ := hr'; (try k_fold); (try ((with_reducible show wpAny _ _ _ _ _ _); k_gentoks))) | ((with_reducible show wpAny _ _ (call (Value.ref 57) _) _ _ _); k_dflt (refine region_call (by k_asm) (by k_asm) (by k_asm) (by k_asm) (by k_asm) (by first | exact rfl | assumption) (by first | exact rm (by assumption) (by rfl) | ktr_room) (by first | exact un3 (by assumption) (by rfl) | ktr_units) (by ((repeat' (first | (with_reducible first | exact sub_nil | exact sub_self | refine sub_app ?_ ?_ | refine sub_cons ?_ ?_) | ((repeat with_reducible first | exact sub_self | exact sub_l sub_self | refine sub_tl ?_ | refine sub_r ?_); done) | ((with_reducible show _ ∈ _); k_mem) | (refine sub_cons (by k_mem) ?_))); done)) (by assumption) (by assumption) (by assumption) (by assumption) (by assumption) (by (first | assumption | (simp only [adtR_length, adtT_length, stepsN_length, stepN_length, noteN_length]; assumption))) (by k_ne) (by k_ne) (by k_ne) (by k_ne) (by k_ne) (by k_ne) (by k_ne) (by k_ne) (by k_ne) (by k_ne) (by ((repeat' (first | (with_reducible first | exact Rest.nil | refine' Rest.d1 ?_ | refine' Rest.d2 ?_ | refine' Rest.d3 ?_ | refine' Rest.d4 ?_ | refine' Rest.d5 ?_ | refine' Rest.d6 ?_ | refine' Rest.d7 ?_ | refine' Rest.d8 ?_ | refine' Rest.d9 ?_ | refine' Rest.d10 ?_ | refine' Rest.d11 ?_) | (refine' Rest.keep (by ((repeat' (first | with_reducible exact nea_nil | exact df_all (by with_reducible assumption) | exact df_allm (by with_reducible assumption) (by k_mem) | refine nea_cons (by k_ne) ?_)); done)) ?_) | exact Rest.all (by with_reducible assumption) | exact Rest.all (rest_one (by with_reducible assumption)) | exact Rest.all (rest_two (by with_reducible assumption) (by with_reducible assumption)) | (with_reducible first | refine' Rest.app (by assumption) ?_ | refine' Rest.app (rest_one (by assumption)) ?_ | refine' Rest.app (rest_two (by assumption) (by assumption)) ?_ | refine' Rest.drop ?_))); done)) ?_; k_whole); intro ts' h' tk' F' N' hi'; (try simp only [List.cons_append, List.nil_append, List.append_assoc] at N'); (try k_fold); (try ((with_reducible show wpAny _ _ _ _ _ _); k_gentoks))) | ((with_reducible show wpAny _ _ (call (Value.ref 64) _) _ _ _); k_dflt (refine param_call (by k_asm) (by k_asm) (by k_asm) (by k_asm) (by k_asm) (by first | exact rfl | assumption) (by first | exact rm (by assumption) (by rfl) | ktr_room) (by first | exact un3 (by assumption) (by rfl) | ktr_units) (by ((repeat' (first | (with_reducible first | exact sub_nil | exact sub_self | refine sub_app ?_ ?_ | refine sub_cons ?_ ?_) | ((repeat with_reducible first | exact sub_self | exact sub_l sub_self | refine sub_tl ?_ | refine sub_r ?_); done) | ((with_reducible show _ ∈ _); k_mem) | (refine sub_cons (by k_mem) ?_))); done)) (by assumption) (by assumption) (by assumption) (by assumption) (by assumption) (by (first | assumption | (simp only [adtR_length, adtT_length, stepsN_length, stepN_length, noteN_length]; assumption))) (by k_ne) (by k_ne) (by k_ne) (by k_ne) (by k_ne) (by k_ne) (by k_ne) (by k_ne) (by k_ne) (by k_ne) (by ((repeat' (first | (with_reducible first | exact Rest.nil | refine' Rest.d1 ?_ | refine' Rest.d2 ?_ | refine' Rest.d3 ?_ | refine' Rest.d4 ?_ | refine' Rest.d5 ?_ | refine' Rest.d6 ?_ | refine' Rest.d7 ?_ | refine' Rest.d8 ?_ | refine' Rest.d9 ?_ | refine' Rest.d10 ?_ | refine' Rest.d11 ?_) | (refine' Rest.keep (by ((repeat' (first | with_reducible exact nea_nil | exact df_all (by with_reducible assumption) | exact df_allm (by with_reducible assumption) (by k_mem) | refine nea_cons (by k_ne) ?_)); done)) ?_) | exact Rest.all (by with_reducible assumption) | exact Rest.all (rest_one (by with_reducible assumption)) | exact Rest.all (rest_two (by with_reducible assumption) (by with_reducible assumption)) | (with_reducible first | refine' Rest.app (by assumption) ?_ | refine' Rest.app (rest_one (by assumption)) ?_ | refine' Rest.app (rest_two (by assumption) (by assumption)) ?_ | refine' Rest.drop ?_))); done)) ?_; k_whole); intro ts' h' tk' F' N' hi'; (try simp only [List.cons_append, List.nil_append, List.append_assoc] at N'); (try k_fold); (try ((with_reducible show wpAny _ _ _ _ _ _); k_gentoks))) | ((with_reducible show wpAny _ _ (call (Value.ref 29) _) _ _ _); k_dflt (first | refine within_call (b := .inn) (by k_asm) (by k_asm) (by k_asm) (by k_asm) (by k_asm) (by first | exact rfl | assumption) (by first | exact rm (by assumption) (by rfl) | ktr_room) (by first | exact un3 (by assumption) (by rfl) | ktr_units) ?_ | refine within_call (b := .co) (by k_asm) (by k_asm) (by k_asm) (by k_asm) (by k_asm) (by first | exact rfl | assumption) (by first | exact rm (by assumption) (by rfl) | ktr_room) (by first | exact un3 (by assumption) (by rfl) | ktr_units) ?_ | refine within_call (by k_asm) (by k_asm) (by k_asm) (by k_asm) (by k_asm) (by first | exact rfl | assumption) (by first | exact rm (by assumption) (by rfl) | ktr_room) (by first | exact un3 (by assumption) (by rfl) | ktr_units) ?_); k_whole; intro t' h' tk' F' N'; (try k_fold); (try ((with_reducible show wpAny _ _ _ _ _ _); k_gentoks))) | ((with_reducible first | show wpAny _ _ (call (Value.ref 78) _) _ _ _ | show wpAny _ _ (call (Value.ref 85) _) _ _ _); k_dflt (refine walk_call3 (by assumption) (by assumption) (by k_asm) (by k_asm) (by k_asm) (by k_asm) (by k_asm) (by first | exact rfl | assumption) (by first | exact rm (by assumption) (by rfl) | ktr_room) (by first | exact un3 (by assumption) (by rfl) | ktr_units) (by assumption) (by assumption) (by assumption) (by assumption) (by assumption) (by (first | assumption | (simp only [adtR_length, adtT_length, stepsN_length, stepN_length, noteN_length]; assumption))) (by ((repeat' (first | (with_reducible first | exact sub_nil | exact sub_self | refine sub_app ?_ ?_ | refine sub_cons ?_ ?_) | ((repeat with_reducible first | exact sub_self | exact sub_l sub_self | refine sub_tl ?_ | refine sub_r ?_); done) | ((with_reducible show _ ∈ _); k_mem) | (refine sub_cons (by k_mem) ?_))); done)) (by assumption) (by assumption) (by ((repeat' (first | (with_reducible first | exact Rest.nil | refine' Rest.d1 ?_ | refine' Rest.d2 ?_ | refine' Rest.d3 ?_ | refine' Rest.d4 ?_ | refine' Rest.d5 ?_ | refine' Rest.d6 ?_ | refine' Rest.d7 ?_ | refine' Rest.d8 ?_ | refine' Rest.d9 ?_ | refine' Rest.d10 ?_ | refine' Rest.d11 ?_) | (refine' Rest.keep (by ((repeat' (first | with_reducible exact nea_nil | exact df_all (by with_reducible assumption) | exact df_allm (by with_reducible assumption) (by k_mem) | refine nea_cons (by k_ne) ?_)); done)) ?_) | exact Rest.all (by with_reducible assumption) | exact Rest.all (rest_one (by with_reducible assumption)) | exact Rest.all (rest_two (by with_reducible assumption) (by with_reducible assumption)) | (with_reducible first | refine' Rest.app (by assumption) ?_ | refine' Rest.app (rest_one (by assumption)) ?_ | refine' Rest.app (rest_two (by assumption) (by assumption)) ?_ | refine' Rest.drop ?_))); done)) ?_; k_whole); intro ts' h' tk' F' N' hi'; (try simp only [List.cons_append, List.nil_append, List.append_assoc] at N'); (try k_fold); (try ((with_reducible show wpAny _ _ _ _ _ _); k_gentoks)))) | ((with_reducible show wpAny _ _ (subscriptTail _ _ (Value.ref _) (Value.int _ _)) _ _ _); first | (with_unfolding_all (refine itemT (by k_asm) (by with_reducible assumption) (by decide) (by decide) (by rfl) ?_ (by with_unfolding_all rfl); k_whole); (try ((with_reducible show wpAny _ _ _ _ _ _); k_gentoks))) | (with_unfolding_all (refine itemC (by k_asm) (by with_reducible assumption) (by decide) (by decide) (by rfl) ?_ (by with_unfolding_all rfl); k_whole); (try ((with_reducible show wpAny _ _ _ _ _ _); k_gentoks)))) | (k_end; wrow_close) | walk1 | (dsimp only; walk1) | (leave1; (try dsimp only))))
  exact hret _ _ _ _ (by assumption) (by assumption) (keep_of (by assumption) (by assumption)) ⟨_, rfl, by assumption, rfl⟩
theorem walkPar {w mean mg mb} {x : Nm} : WalkSpec w mean mg mb 78 20 (.par x) := by
  intro row dx rl pl tl rk hc rs ps ts n1 n2 n rgs pgs ws ta tw a K frz rv TI R P hl hi ap hne hod
  cases TI with
  | @par _ tt v _ m1 hx hv =>
  unfold Sp Pg LZ
  k_fill
  intro dp un gd cn cs aa ccd cl outer A₀ base h₀ L m s Q E B F X N T hk hd hu hz hret
  obtain ⟨a1, a2, a3, a4⟩ := id ap
  simp only [rowLed, List.cons_append, List.nil_append] at N
  refine wpAny_call ?_
  k_dflt (refine code_defG (by k_asm) (by k_asm) (by k_asm) (by k_asm) (by k_asm) (by exact rfl) (by exact rfl) (by assumption) (by k_is) (by k_is) (by first | exact rm0 (by assumption) | ktr_room) (by exact BindsTo.of_eq rfl) (by exact locs rfl) ?_ (by exact rfl) (by exact rfl) (by exact rfl) (by decide); k_whole)
  intro g' L' h' FG' F' N' B' X' T' kG'
  (try dsimp only)
  (try k_fold)
  (try ((with_reducible show wpAny _ _ _ _ _ _); k_gentoks))
  have gz := walk_frz hz (by assumption) hne
  have g1 := gz.tup m1
  (w_top off; repeat' (first | (k_unfold; (try dsimp only)) | ((with_reducible show wpAny _ _ (newTuple _) _ _ _); first | (k_dflt (refine newTupleM (by k_asm) (by k_asm) (by exact Nat.le_of_ble_eq_true rfl) ?_; k_whole); intro D' h' F' N' l1; (try k_sweep); (try ((with_reducible show wpAny _ _ _ _ _ _); k_gentoks)))) | ((with_reducible show wpAny _ _ (newList _) _ _ _); first | (k_dflt (refine newListM (by k_asm) (by k_asm) (by exact Nat.le_of_ble_eq_true rfl) ?_; k_whole); intro D' h' F' N' l1; (try k_sweep); (try ((with_reducible show wpAny _ _ _ _ _ _); k_gentoks)))) | ((with_reducible show wpAny _ _ (call (Value.ref _) _) _ _ _); first | ((with_reducible show wpAny _ _ (call (Value.ref 155) _) _ _ _); k_dflt (refine region_call0 (by k_asm) (by k_asm) (by k_asm) (by k_asm) (by k_asm) (by first | exact rfl | assumption) (by first | exact rm (by assumption) (by rfl) | ktr_room) (by first | exact un3 (by assumption) (by rfl) | ktr_units) (by k_mem) (by ((repeat' (first | (with_reducible first | exact Rest.nil | refine' Rest.d1 ?_ | refine' Rest.d2 ?_ | refine' Rest.d3 ?_ | refine' Rest.d4 ?_ | refine' Rest.d5 ?_ | refine' Rest.d6 ?_ | refine' Rest.d7 ?_ | refine' Rest.d8 ?_ | refine' Rest.d9 ?_ | refine' Rest.d10 ?_ | refine' Rest.d11 ?_) | (refine' Rest.keep (by ((repeat' (first | with_reducible exact nea_nil | exact df_all (by with_reducible assumption) | exact df_allm (by with_reducible assumption) (by k_mem) | refine nea_cons (by k_ne) ?_)); done)) ?_) | exact Rest.all (by with_reducible assumption) | exact Rest.all (rest_one (by with_reducible assumption)) | exact Rest.all (rest_two (by with_reducible assumption) (by with_reducible assumption)) | (with_reducible first | refine' Rest.app (by assumption) ?_ | refine' Rest.app (rest_one (by assumption)) ?_ | refine' Rest.app (rest_two (by assumption) (by assumption)) ?_ | refine' Rest.drop ?_))); done)) (by assumption) (by assumption) (by assumption) ?_; k_whole); intro x' y' tx' ty' r' h' tk' F' N' hx' hy' hy2' hr'; obtain ⟨n', hi', hn'⟩ := hr'; (try k_fold); (try ((with_reducible show wpAny _ _ _ _ _ _); k_gentoks))) | ((with_reducible show wpAny _ _ (call (Value.ref 57) _) _ _ _); k_dflt (refine region_call (by k_asm) (by k_asm) (by k_asm) (by k_asm) (by k_asm) (by first | exact rfl | assumption) (by first | exact rm (by assumption) (by rfl) | ktr_room) (by first | exact un3 (by assumption) (by rfl) | ktr_units) (by ((repeat' (first | (with_reducible first | exact sub_nil | exact sub_self | refine sub_app ?_ ?_ | refine sub_cons ?_ ?_) | ((repeat with_reducible first | exact sub_self | exact sub_l sub_self | refine sub_tl ?_ | refine sub_r ?_); done) | ((with_reducible show _ ∈ _); k_mem) | (refine sub_cons (by k_mem) ?_))); done)) (by assumption) (by assumption) (by assumption) (by assumption) (by assumption) (by (first | assumption | (simp only [adtR_length, adtT_length, stepsN_length, stepN_length, noteN_length]; assumption))) (by k_ne) (by k_ne) (by k_ne) (by k_ne) (by k_ne) (by k_ne) (by k_ne) (by k_ne) (by k_ne) (by k_ne) (by ((repeat' (first | (with_reducible first | exact Rest.nil | refine' Rest.d1 ?_ | refine' Rest.d2 ?_ | refine' Rest.d3 ?_ | refine' Rest.d4 ?_ | refine' Rest.d5 ?_ | refine' Rest.d6 ?_ | refine' Rest.d7 ?_ | refine' Rest.d8 ?_ | refine' Rest.d9 ?_ | refine' Rest.d10 ?_ | refine' Rest.d11 ?_) | (refine' Rest.keep (by ((repeat' (first | with_reducible exact nea_nil | exact df_all (by with_reducible assumption) | exact df_allm (by with_reducible assumption) (by k_mem) | refine nea_cons (by k_ne) ?_)); done)) ?_) | exact Rest.all (by with_reducible assumption) | exact Rest.all (rest_one (by with_reducible assumption)) | exact Rest.all (rest_two (by with_reducible assumption) (by with_reducible assumption)) | (with_reducible first | refine' Rest.app (by assumption) ?_ | refine' Rest.app (rest_one (by assumption)) ?_ | refine' Rest.app (rest_two (by assumption) (by assumption)) ?_ | refine' Rest.drop ?_))); done)) ?_; k_whole); intro ts' h' tk' F' N' hi'; (try simp only [List.cons_append, List.nil_append, List.append_assoc] at N'); (try k_fold); (try ((with_reducible show wpAny _ _ _ _ _ _); k_gentoks))) | ((with_reducible show wpAny _ _ (call (Value.ref 64) _) _ _ _); k_dflt (refine param_call (by k_asm) (by k_asm) (by k_asm) (by k_asm) (by k_asm) (by first | exact rfl | assumption) (by first | exact rm (by assumption) (by rfl) | ktr_room) (by first | exact un3 (by assumption) (by rfl) | ktr_units) (by ((repeat' (first | (with_reducible first | exact sub_nil | exact sub_self | refine sub_app ?_ ?_ | refine sub_cons ?_ ?_) | ((repeat with_reducible first | exact sub_self | exact sub_l sub_self | refine sub_tl ?_ | refine sub_r ?_); done) | ((with_reducible show _ ∈ _); k_mem) | (refine sub_cons (by k_mem) ?_))); done)) (by assumption) (by assumption) (by assumption) (by assumption) (by assumption) (by (first | assumption | (simp only [adtR_length, adtT_length, stepsN_length, stepN_length, noteN_length]; assumption))) (by k_ne) (by k_ne) (by k_ne) (by k_ne) (by k_ne) (by k_ne) (by k_ne) (by k_ne) (by k_ne) (by k_ne) (by ((repeat' (first | (with_reducible first | exact Rest.nil | refine' Rest.d1 ?_ | refine' Rest.d2 ?_ | refine' Rest.d3 ?_ | refine' Rest.d4 ?_ | refine' Rest.d5 ?_ | refine' Rest.d6 ?_ | refine' Rest.d7 ?_ | refine' Rest.d8 ?_ | refine' Rest.d9 ?_ | refine' Rest.d10 ?_ | refine' Rest.d11 ?_) | (refine' Rest.keep (by ((repeat' (first | with_reducible exact nea_nil | exact df_all (by with_reducible assumption) | exact df_allm (by with_reducible assumption) (by k_mem) | refine nea_cons (by k_ne) ?_)); done)) ?_) | exact Rest.all (by with_reducible assumption) | exact Rest.all (rest_one (by with_reducible assumption)) | exact Rest.all (rest_two (by with_reducible assumption) (by with_reducible assumption)) | (with_reducible first | refine' Rest.app (by assumption) ?_ | refine' Rest.app (rest_one (by assumption)) ?_ | refine' Rest.app (rest_two (by assumption) (by assumption)) ?_ | refine' Rest.drop ?_))); done)) ?_; k_whole); intro ts' h' tk' F' N' hi'; (try simp only [List.cons_append, List.nil_append, List.append_assoc] at N'); (try k_fold); (try ((with_reducible show wpAny _ _ _ _ _ _); k_gentoks))) | ((with_reducible show wpAny _ _ (call (Value.ref 29) _) _ _ _); k_dflt (first | refine within_call (b := .inn) (by k_asm) (by k_asm) (by k_asm) (by k_asm) (by k_asm) (by first | exact rfl | assumption) (by first | exact rm (by assumption) (by rfl) | ktr_room) (by first | exact un3 (by assumption) (by rfl) | ktr_units) ?_ | refine within_call (b := .co) (by k_asm) (by k_asm) (by k_asm) (by k_asm) (by k_asm) (by first | exact rfl | assumption) (by first | exact rm (by assumption) (by rfl) | ktr_room) (by first | exact un3 (by assumption) (by rfl) | ktr_units) ?_ | refine within_call (by k_asm) (by k_asm) (by k_asm) (by k_asm) (by k_asm) (by first | exact rfl | assumption) (by first | exact rm (by assumption) (by rfl) | ktr_room) (by first | exact un3 (by assumption) (by rfl) | ktr_units) ?_); k_whole; intro t' h' tk' F' N'; (try k_fold); (try ((with_reducible show wpAny _ _ _ _ _ _); k_gentoks))) | ((with_reducible first | show wpAny _ _ (call (Value.ref 78) _) _ _ _ | show wpAny _ _ (call (Value.ref 85) _) _ _ _); k_dflt (refine walk_call3 (by assumption) (by assumption) (by k_asm) (by k_asm) (by k_asm) (by k_asm) (by k_asm) (by first | exact rfl | assumption) (by first | exact rm (by assumption) (by rfl) | ktr_room) (by first | exact un3 (by assumption) (by rfl) | ktr_units) (by assumption) (by assumption) (by assumption) (by assumption) (by assumption) (by (first | assumption | (simp only [adtR_length, adtT_length, stepsN_length, stepN_length, noteN_length]; assumption))) (by ((repeat' (first | (with_reducible first | exact sub_nil | exact sub_self | refine sub_app ?_ ?_ | refine sub_cons ?_ ?_) | ((repeat with_reducible first | exact sub_self | exact sub_l sub_self | refine sub_tl ?_ | refine sub_r ?_); done) | ((with_reducible show _ ∈ _); k_mem) | (refine sub_cons (by k_mem) ?_))); done)) (by assumption) (by assumption) (by ((repeat' (first | (with_reducible first | exact Rest.nil | refine' Rest.d1 ?_ | refine' Rest.d2 ?_ | refine' Rest.d3 ?_ | refine' Rest.d4 ?_ | refine' Rest.d5 ?_ | refine' Rest.d6 ?_ | refine' Rest.d7 ?_ | refine' Rest.d8 ?_ | refine' Rest.d9 ?_ | refine' Rest.d10 ?_ | refine' Rest.d11 ?_) | (refine' Rest.keep (by ((repeat' (first | with_reducible exact nea_nil | exact df_all (by with_reducible assumption) | exact df_allm (by with_reducible assumption) (by k_mem) | refine nea_cons (by k_ne) ?_)); done)) ?_) | exact Rest.all (by with_reducible assumption) | exact Rest.all (rest_one (by with_reducible assumption)) | exact Rest.all (rest_two (by with_reducible assumption) (by with_reducible assumption)) | (with_reducible first | refine' Rest.app (by assumption) ?_ | refine' Rest.app (rest_one (by assumption)) ?_ | refine' Rest.app (rest_two (by assumption) (by assumption)) ?_ | refine' Rest.drop ?_))); done)) ?_; k_whole); intro ts' h' tk' F' N' hi'; (try simp only [List.cons_append, List.nil_append, List.append_assoc] at N'); (try k_fold); (try ((with_reducible show wpAny _ _ _ _ _ _); k_gentoks)))) | ((with_reducible show wpAny _ _ (subscriptTail _ _ (Value.ref _) (Value.int _ _)) _ _ _); first | (with_unfolding_all (refine itemT (by k_asm) (by with_reducible assumption) (by decide) (by decide) (by rfl) ?_ (by with_unfolding_all rfl); k_whole); (try ((with_reducible show wpAny _ _ _ _ _ _); k_gentoks))) | (with_unfolding_all (refine itemC (by k_asm) (by with_reducible assumption) (by decide) (by decide) (by rfl) ?_ (by with_unfolding_all rfl); k_whole); (try ((with_reducible show wpAny _ _ _ _ _ _); k_gentoks)))) | (k_end; wrow_close) | walk1 | (dsimp only; walk1) | (leave1; (try dsimp only))))
  exact hret _ _ _ _ (by assumption) (by assumption) (keep_of (by assumption) (by assumption)) ⟨_, rfl, by assumption, rfl⟩
theorem walkRef {w mean mg mb} {r : Nm} {b : Bool} {t : Ty} {d : Nat} (I1 : WalkSpec w mean mg mb 78 d t) : WalkSpec w mean mg mb 78 (d + 20) (.ref r b t) := by
  intro row dx rl pl tl rk hc rs ps ts n1 n2 n rgs pgs ws ta tw a K frz rv TI R P hl hi ap hne hod
  cases TI with
  | @ref _ c tt v _ _ _ m1 hx hv T1 =>
  unfold Sp Pg LZ
  k_fill
  intro dp un gd cn cs aa ccd cl outer A₀ base h₀ L m s Q E B F X N T hk hd hu hz hret
  obtain ⟨a1, a2, a3, a4⟩ := id ap
  have hod' : AdtOk w frz rv K t := hod
  simp only [rowLed, List.cons_append, List.nil_append] at N
  refine wpAny_call ?_
  k_dflt (refine code_defG (by k_asm) (by k_asm) (by k_asm) (by k_asm) (by k_asm) (by exact rfl) (by exact rfl) (by assumption) (by k_is) (by k_is) (by first | exact rm0 (by assumption) | ktr_room) (by exact BindsTo.of_eq rfl) (by exact locs rfl) ?_ (by exact rfl) (by exact rfl) (by exact rfl) (by decide); k_whole)
  intro g' L' h' FG' F' N' B' X' T' kG'
  (try dsimp only)
  (try k_fold)
  (try ((with_reducible show wpAny _ _ _ _ _ _); k_gentoks))
  have gz := walk_frz hz (by assumption) hne
  have g1 := gz.tup m1
  cases b
  all_goals (w_top off; repeat' (first | (k_unfold; (try dsimp only)) | ((with_reducible show wpAny _ _ (newTuple _) _ _ _); first | (k_dflt (refine newTupleM (by k_asm) (by k_asm) (by exact Nat.le_of_ble_eq_true rfl) ?_; k_whole); intro D' h' F' N' l1; (try k_sweep); (try ((with_reducible show wpAny _ _ _ _ _ _); k_gentoks)))) | ((with_reducible show wpAny _ _ (newList _) _ _ _); first | (k_dflt (refine newListM (by k_asm) (by k_asm) (by exact Nat.le_of_ble_eq_true rfl) ?_; k_whole); intro D' h' F' N' l1; (try k_sweep); (try ((with_reducible show wpAny _ _ _ _ _ _); k_gentoks)))) | ((with_reducible show wpAny _ _ (call (Value.ref _) _) _ _ _); first | ((with_reducible show wpAny _ _ (call (Value.ref 155) _) _ _ _); k_dflt (refine region_call0 (by k_asm) (by k_asm) (by k_asm) (by k_asm) (by k_asm) (by first | exact rfl | assumption) (by first | exact rm (by assumption) (by rfl) | ktr_room) (by first | exact un3 (by assumption) (by rfl) | ktr_units) (by k_mem) (by ((repeat' (first | (with_reducible first | exact Rest.nil | refine' Rest.d1 ?_ | refine' Rest.d2 ?_ | refine' Rest.d3 ?_ | refine' Rest.d4 ?_ | refine' Rest.d5 ?_ | refine' Rest.d6 ?_ | refine' Rest.d7 ?_ | refine' Rest.d8 ?_ | refine' Rest.d9 ?_ | refine' Rest.d10 ?_ | refine' Rest.d11 ?_) | (refine' Rest.keep (by ((repeat' (first | with_reducible exact nea_nil | exact df_all (by with_reducible assumption) | exact df_allm (by with_reducible assumption) (by k_mem) | refine nea_cons (by k_ne) ?_)); done)) ?_) | exact Rest.all (by with_reducible assumption) | exact Rest.all (rest_one (by with_reducible assumption)) | exact Rest.all (rest_two (by with_reducible assumption) (by with_reducible assumption)) | (with_reducible first | refine' Rest.app (by assumption) ?_ | refine' Rest.app (rest_one (by assumption)) ?_ | refine' Rest.app (rest_two (by assumption) (by assumption)) ?_ | refine' Rest.drop ?_))); done)) (by assumption) (by assumption) (by assumption) ?_; k_whole); intro x' y' tx' ty' r' h' tk' F' N' hx' hy' hy2' hr'; obtain ⟨n', hi', hn'⟩ := hr'; (try k_fold); (try ((with_reducible show wpAny _ _ _ _ _ _); k_gentoks))) | ((with_reducible show wpAny _ _ (call (Value.ref 57) _) _ _ _); k_dflt (refine region_call (by k_asm) (by k_asm) (by k_asm) (by k_asm) (by k_asm) (by first | exact rfl | assumption) (by first | exact rm (by assumption) (by rfl) | ktr_room) (by first | exact un3 (by assumption) (by rfl) | ktr_units) (by ((repeat' (first | (with_reducible first | exact sub_nil | exact sub_self | refine sub_app ?_ ?_ | refine sub_cons ?_ ?_) | ((repeat with_reducible first | exact sub_self | exact sub_l sub_self | refine sub_tl ?_ | refine sub_r ?_); done) | ((with_reducible show _ ∈ _); k_mem) | (refine sub_cons (by k_mem) ?_))); done)) (by assumption) (by assumption) (by assumption) (by assumption) (by assumption) (by (first | assumption | (simp only [adtR_length, adtT_length, stepsN_length, stepN_length, noteN_length]; assumption))) (by k_ne) (by k_ne) (by k_ne) (by k_ne) (by k_ne) (by k_ne) (by k_ne) (by k_ne) (by k_ne) (by k_ne) (by ((repeat' (first | (with_reducible first | exact Rest.nil | refine' Rest.d1 ?_ | refine' Rest.d2 ?_ | refine' Rest.d3 ?_ | refine' Rest.d4 ?_ | refine' Rest.d5 ?_ | refine' Rest.d6 ?_ | refine' Rest.d7 ?_ | refine' Rest.d8 ?_ | refine' Rest.d9 ?_ | refine' Rest.d10 ?_ | refine' Rest.d11 ?_) | (refine' Rest.keep (by ((repeat' (first | with_reducible exact nea_nil | exact df_all (by with_reducible assumption) | exact df_allm (by with_reducible assumption) (by k_mem) | refine nea_cons (by k_ne) ?_)); done)) ?_) | exact Rest.all (by with_reducible assumption) | exact Rest.all (rest_one (by with_reducible assumption)) | exact Rest.all (rest_two (by with_reducible assumption) (by with_reducible assumption)) | (with_reducible first | refine' Rest.app (by assumption) ?_ | refine' Rest.app (rest_one (by assumption)) ?_ | refine' Rest.app (rest_two (by assumption) (by assumption)) ?_ | refine' Rest.drop ?_))); done)) ?_; k_whole); intro ts' h' tk' F' N' hi'; (try simp only [List.cons_append, List.nil_append, List.append_assoc] at N'); (try k_fold); (try ((with_reducible show wpAny _ _ _ _ _ _); k_gentoks))) | ((with_reducible show wpAny _ _ (call (Value.ref 64) _) _ _ _); k_dflt (refine param_call (by k_asm) (by k_asm) (by k_asm) (by k_asm) (by k_asm) (by first | exact rfl | assumption) (by first | exact rm (by assumption) (by rfl) | ktr_room) (by first | exact un3 (by assumption) (by rfl) | ktr_units) (by ((repeat' (first | (with_reducible first | exact sub_nil | exact sub_self | refine sub_app ?_ ?_ | refine sub_cons ?_ ?_) | ((repeat with_reducible first | exact sub_self | exact sub_l sub_self | refine sub_tl ?_ | refine sub_r ?_); done) | ((with_reducible show _ ∈ _); k_mem) | (refine sub_cons (by k_mem) ?_))); done)) (by assumption) (by assumption) (by assumption) (by assumption) (by assumption) (by (first | assumption | (simp only [adtR_length, adtT_length, stepsN_length, stepN_length, noteN_length]; assumption))) (by k_ne) (by k_ne) (by k_ne) (by k_ne) (by k_ne) (by k_ne) (by k_ne) (by k_ne) (by k_ne) (by k_ne) (by ((repeat' (first | (with_reducible first | exact Rest.nil | refine' Rest.d1 ?_ | refine' Rest.d2 ?_ | refine' Rest.d3 ?_ | refine' Rest.d4 ?_ | refine' Rest.d5 ?_ | refine' Rest.d6 ?_ | refine' Rest.d7 ?_ | refine' Rest.d8 ?_ | refine' Rest.d9 ?_ | refine' Rest.d10 ?_ | refine' Rest.d11 ?_) | (refine' Rest.keep (by ((repeat' (first | with_reducible exact nea_nil | exact df_all (by with_reducible assumption) | exact df_allm (by with_reducible assumption) (by k_mem) | refine nea_cons (by k_ne) ?_)); done)) ?_) | exact Rest.all (by with_reducible assumption) | exact Rest.all (rest_one (by with_reducible assumption)) | exact Rest.all (rest_two (by with_reducible assumption) (by with_reducible assumption)) | (with_reducible first | refine' Rest.app (by assumption) ?_ | refine' Rest.app (rest_one (by assumption)) ?_ | refine' Rest.app (rest_two (by assumption) (by assumption)) ?_ | refine' Rest.drop ?_))); done)) ?_; k_whole); intro ts' h' tk' F' N' hi'; (try simp only [List.cons_append, List.nil_append, List.append_assoc] at N'); (try k_fold); (try ((with_reducible show wpAny _ _ _ _ _ _); k_gentoks))) | ((with_reducible show wpAny _ _ (call (Value.ref 29) _) _ _ _); k_dflt (first | refine within_call (b := .inn) (by k_asm) (by k_asm) (by k_asm) (by k_asm) (by k_asm) (by first | exact rfl | assumption) (by first | exact rm (by assumption) (by rfl) | ktr_room) (by first | exact un3 (by assumption) (by rfl) | ktr_units) ?_ | refine within_call (b := .co) (by k_asm) (by k_asm) (by k_asm) (by k_asm) (by k_asm) (by first | exact rfl | assumption) (by first | exact rm (by assumption) (by rfl) | ktr_room) (by first | exact un3 (by assumption) (by rfl) | ktr_units) ?_ | refine within_call (by k_asm) (by k_asm) (by k_asm) (by k_asm) (by k_asm) (by first | exact rfl | assumption) (by first | exact rm (by assumption) (by rfl) | ktr_room) (by first | exact un3 (by assumption) (by rfl) | ktr_units) ?_); k_whole; intro t' h' tk' F' N'; (try k_fold); (try ((with_reducible show wpAny _ _ _ _ _ _); k_gentoks))) | ((with_reducible first | show wpAny _ _ (call (Value.ref 78) _) _ _ _ | show wpAny _ _ (call (Value.ref 85) _) _ _ _); k_dflt (refine walk_call3 (by assumption) (by assumption) (by k_asm) (by k_asm) (by k_asm) (by k_asm) (by k_asm) (by first | exact rfl | assumption) (by first | exact rm (by assumption) (by rfl) | ktr_room) (by first | exact un3 (by assumption) (by rfl) | ktr_units) (by assumption) (by assumption) (by assumption) (by assumption) (by assumption) (by (first | assumption | (simp only [adtR_length, adtT_length, stepsN_length, stepN_length, noteN_length]; assumption))) (by ((repeat' (first | (with_reducible first | exact sub_nil | exact sub_self | refine sub_app ?_ ?_ | refine sub_cons ?_ ?_) | ((repeat with_reducible first | exact sub_self | exact sub_l sub_self | refine sub_tl ?_ | refine sub_r ?_); done) | ((with_reducible show _ ∈ _); k_mem) | (refine sub_cons (by k_mem) ?_))); done)) (by assumption) (by assumption) (by ((repeat' (first | (with_reducible first | exact Rest.nil | refine' Rest.d1 ?_ | refine' Rest.d2 ?_ | refine' Rest.d3 ?_ | refine' Rest.d4 ?_ | refine' Rest.d5 ?_ | refine' Rest.d6 ?_ | refine' Rest.d7 ?_ | refine' Rest.d8 ?_ | refine' Rest.d9 ?_ | refine' Rest.d10 ?_ | refine' Rest.d11 ?_) | (refine' Rest.keep (by ((repeat' (first | with_reducible exact nea_nil | exact df_all (by with_reducible assumption) | exact df_allm (by with_reducible assumption) (by k_mem) | refine nea_cons (by k_ne) ?_)); done)) ?_) | exact Rest.all (by with_reducible assumption) | exact Rest.all (rest_one (by with_reducible assumption)) | exact Rest.all (rest_two (by with_reducible assumption) (by with_reducible assumption)) | (with_reducible first | refine' Rest.app (by assumption) ?_ | refine' Rest.app (rest_one (by assumption)) ?_ | refine' Rest.app (rest_two (by assumption) (by assumption)) ?_ | refine' Rest.drop ?_))); done)) ?_; k_whole); intro ts' h' tk' F' N' hi'; (try simp only [List.cons_append, List.nil_append, List.append_assoc] at N'); (try k_fold); (try ((with_reducible show wpAny _ _ _ _ _ _); k_gentoks)))) | ((with_reducible show wpAny _ _ (subscriptTail _ _ (Value.ref _) (Value.int _ _)) _ _ _); first | (with_unfolding_all (refine itemT (by k_asm) (by with_reducible assumption) (by decide) (by decide) (by rfl) ?_ (by with_unfolding_all rfl); k_whole); (try ((with_reducible show wpAny _ _ _ _ _ _); k_gentoks))) | (with_unfolding_all (refine itemC (by k_asm) (by with_reducible assumption) (by decide) (by decide) (by rfl) ?_ (by with_unfolding_all rfl); k_whole); (try ((with_reducible show wpAny _ _ _ _ _ _); k_gentoks)))) | (k_end; wrow_close) | walk1 | (dsimp only; walk1) | (leave1; (try dsimp only))))
  all_goals exact hret _ _ _ _ (by assumption) (by assumption) (keep_of (by assumption) (by assumption)) ⟨_, rfl, by assumption, rfl⟩
theorem walkBox {w mean mg mb} {t : Ty} {d : Nat} (I1 : WalkSpec w mean mg mb 78 d t) : WalkSpec w mean mg mb 78 (d + 20) (.box t) := by
  intro row dx rl pl tl rk hc rs ps ts n1 n2 n rgs pgs ws ta tw a K frz rv TI R P hl hi ap hne hod
  cases TI with
  | @box _ c tt _ m1 T1 =>
  unfold Sp Pg LZ
  k_fill
  intro dp un gd cn cs aa ccd cl outer A₀ base h₀ L m s Q E B F X N T hk hd hu hz hret
  obtain ⟨a1, a2, a3, a4⟩ := id ap
  have hod' : AdtOk w frz rv K t := hod
  simp only [rowLed, List.cons_append, List.nil_append] at N
  refine wpAny_call ?_
  k_dflt (refine code_defG (by k_asm) (by k_asm) (by k_asm) (by k_asm) (by k_asm) (by exact rfl) (by exact rfl) (by assumption) (by k_is) (by k_is) (by first | exact rm0 (by assumption) | ktr_room) (by exact BindsTo.of_eq rfl) (by exact locs rfl) ?_ (by exact rfl) (by exact rfl) (by exact rfl) (by decide); k_whole)
  intro g' L' h' FG' F' N' B' X' T' kG'
  (try dsimp only)
  (try k_fold)
  (try ((with_reducible show wpAny _ _ _ _ _ _); k_gentoks))
  have gz := walk_frz hz (by assumption) hne
  have g1 := gz.tup m1
  (w_top off; repeat' (first | (k_unfold; (try dsimp only)) | ((with_reducible show wpAny _ _ (newTuple _) _ _ _); first | (k_dflt (refine newTupleM (by k_asm) (by k_asm) (by exact Nat.le_of_ble_eq_true rfl) ?_; k_whole); intro D' h' F' N' l1; (try k_sweep); (try ((with_reducible show wpAny _ _ _ _ _ _); k_gentoks)))) | ((with_reducible show wpAny _ _ (newList _) _ _ _); first | (k_dflt (refine newListM (by k_asm) (by k_asm) (by exact Nat.le_of_ble_eq_true rfl) ?_; k_whole); intro D' h' F' N' l1; (try k_sweep); (try ((with_reducible show wpAny _ _ _ _ _ _); k_gentoks)))) | ((with_reducible show wpAny _ _ (call (Value.ref _) _) _ _ _); first | ((with_reducible show wpAny _ _ (call (Value.ref 155) _) _ _ _); k_dflt (refine region_call0 (by k_asm) (by k_asm) (by k_asm) (by k_asm) (by k_asm) (by first | exact rfl | assumption) (by first | exact rm (by assumption) (by rfl) | ktr_room) (by first | exact un3 (by assumption) (by rfl) | ktr_units) (by k_mem) (by ((repeat' (first | (with_reducible first | exact Rest.nil | refine' Rest.d1 ?_ | refine' Rest.d2 ?_ | refine' Rest.d3 ?_ | refine' Rest.d4 ?_ | refine' Rest.d5 ?_ | refine' Rest.d6 ?_ | refine' Rest.d7 ?_ | refine' Rest.d8 ?_ | refine' Rest.d9 ?_ | refine' Rest.d10 ?_ | refine' Rest.d11 ?_) | (refine' Rest.keep (by ((repeat' (first | with_reducible exact nea_nil | exact df_all (by with_reducible assumption) | exact df_allm (by with_reducible assumption) (by k_mem) | refine nea_cons (by k_ne) ?_)); done)) ?_) | exact Rest.all (by with_reducible assumption) | exact Rest.all (rest_one (by with_reducible assumption)) | exact Rest.all (rest_two (by with_reducible assumption) (by with_reducible assumption)) | (with_reducible first | refine' Rest.app (by assumption) ?_ | refine' Rest.app (rest_one (by assumption)) ?_ | refine' Rest.app (rest_two (by assumption) (by assumption)) ?_ | refine' Rest.drop ?_))); done)) (by assumption) (by assumption) (by assumption) ?_; k_whole); intro x' y' tx' ty' r' h' tk' F' N' hx' hy' hy2' hr'; obtain ⟨n', hi', hn'⟩ := hr'; (try k_fold); (try ((with_reducible show wpAny _ _ _ _ _ _); k_gentoks))) | ((with_reducible show wpAny _ _ (call (Value.ref 57) _) _ _ _); k_dflt (refine region_call (by k_asm) (by k_asm) (by k_asm) (by k_asm) (by k_asm) (by first | exact rfl | assumption) (by first | exact rm (by assumption) (by rfl) | ktr_room) (by first | exact un3 (by assumption) (by rfl) | ktr_units) (by ((repeat' (first | (with_reducible first | exact sub_nil | exact sub_self | refine sub_app ?_ ?_ | refine sub_cons ?_ ?_) | ((repeat with_reducible first | exact sub_self | exact sub_l sub_self | refine sub_tl ?_ | refine sub_r ?_); done) | ((with_reducible show _ ∈ _); k_mem) | (refine sub_cons (by k_mem) ?_))); done)) (by assumption) (by assumption) (by assumption) (by assumption) (by assumption) (by (first | assumption | (simp only [adtR_length, adtT_length, stepsN_length, stepN_length, noteN_length]; assumption))) (by k_ne) (by k_ne) (by k_ne) (by k_ne) (by k_ne) (by k_ne) (by k_ne) (by k_ne) (by k_ne) (by k_ne) (by ((repeat' (first | (with_reducible first | exact Rest.nil | refine' Rest.d1 ?_ | refine' Rest.d2 ?_ | refine' Rest.d3 ?_ | refine' Rest.d4 ?_ | refine' Rest.d5 ?_ | refine' Rest.d6 ?_ | refine' Rest.d7 ?_ | refine' Rest.d8 ?_ | refine' Rest.d9 ?_ | refine' Rest.d10 ?_ | refine' Rest.d11 ?_) | (refine' Rest.keep (by ((repeat' (first | with_reducible exact nea_nil | exact df_all (by with_reducible assumption) | exact df_allm (by with_reducible assumption) (by k_mem) | refine nea_cons (by k_ne) ?_)); done)) ?_) | exact Rest.all (by with_reducible assumption) | exact Rest.all (rest_one (by with_reducible assumption)) | exact Rest.all (rest_two (by with_reducible assumption) (by with_reducible assumption)) | (with_reducible first | refine' Rest.app (by assumption) ?_ | refine' Rest.app (rest_one (by assumption)) ?_ | refine' Rest.app (rest_two (by assumption) (by assumption)) ?_ | refine' Rest.drop ?_))); done)) ?_; k_whole); intro ts' h' tk' F' N' hi'; (try simp only [List.cons_append, List.nil_append, List.append_assoc] at N'); (try k_fold); (try ((with_reducible show wpAny _ _ _ _ _ _); k_gentoks))) | ((with_reducible show wpAny _ _ (call (Value.ref 64) _) _ _ _); k_dflt (refine param_call (by k_asm) (by k_asm) (by k_asm) (by k_asm) (by k_asm) (by first | exact rfl | assumption) (by first | exact rm (by assumption) (by rfl) | ktr_room) (by first | exact un3 (by assumption) (by rfl) | ktr_units) (by ((repeat' (first | (with_reducible first | exact sub_nil | exact sub_self | refine sub_app ?_ ?_ | refine sub_cons ?_ ?_) | ((repeat with_reducible first | exact sub_self | exact sub_l sub_self | refine sub_tl ?_ | refine sub_r ?_); done) | ((with_reducible show _ ∈ _); k_mem) | (refine sub_cons (by k_mem) ?_))); done)) (by assumption) (by assumption) (by assumption) (by assumption) (by assumption) (by (first | assumption | (simp only [adtR_length, adtT_length, stepsN_length, stepN_length, noteN_length]; assumption))) (by k_ne) (by k_ne) (by k_ne) (by k_ne) (by k_ne) (by k_ne) (by k_ne) (by k_ne) (by k_ne) (by k_ne) (by ((repeat' (first | (with_reducible first | exact Rest.nil | refine' Rest.d1 ?_ | refine' Rest.d2 ?_ | refine' Rest.d3 ?_ | refine' Rest.d4 ?_ | refine' Rest.d5 ?_ | refine' Rest.d6 ?_ | refine' Rest.d7 ?_ | refine' Rest.d8 ?_ | refine' Rest.d9 ?_ | refine' Rest.d10 ?_ | refine' Rest.d11 ?_) | (refine' Rest.keep (by ((repeat' (first | with_reducible exact nea_nil | exact df_all (by with_reducible assumption) | exact df_allm (by with_reducible assumption) (by k_mem) | refine nea_cons (by k_ne) ?_)); done)) ?_) | exact Rest.all (by with_reducible assumption) | exact Rest.all (rest_one (by with_reducible assumption)) | exact Rest.all (rest_two (by with_reducible assumption) (by with_reducible assumption)) | (with_reducible first | refine' Rest.app (by assumption) ?_ | refine' Rest.app (rest_one (by assumption)) ?_ | refine' Rest.app (rest_two (by assumption) (by assumption)) ?_ | refine' Rest.drop ?_))); done)) ?_; k_whole); intro ts' h' tk' F' N' hi'; (try simp only [List.cons_append, List.nil_append, List.append_assoc] at N'); (try k_fold); (try ((with_reducible show wpAny _ _ _ _ _ _); k_gentoks))) | ((with_reducible show wpAny _ _ (call (Value.ref 29) _) _ _ _); k_dflt (first | refine within_call (b := .inn) (by k_asm) (by k_asm) (by k_asm) (by k_asm) (by k_asm) (by first | exact rfl | assumption) (by first | exact rm (by assumption) (by rfl) | ktr_room) (by first | exact un3 (by assumption) (by rfl) | ktr_units) ?_ | refine within_call (b := .co) (by k_asm) (by k_asm) (by k_asm) (by k_asm) (by k_asm) (by first | exact rfl | assumption) (by first | exact rm (by assumption) (by rfl) | ktr_room) (by first | exact un3 (by assumption) (by rfl) | ktr_units) ?_ | refine within_call (by k_asm) (by k_asm) (by k_asm) (by k_asm) (by k_asm) (by first | exact rfl | assumption) (by first | exact rm (by assumption) (by rfl) | ktr_room) (by first | exact un3 (by assumption) (by rfl) | ktr_units) ?_); k_whole; intro t' h' tk' F' N'; (try k_fold); (try ((with_reducible show wpAny _ _ _ _ _ _); k_gentoks))) | ((with_reducible first | show wpAny _ _ (call (Value.ref 78) _) _ _ _ | show wpAny _ _ (call (Value.ref 85) _) _ _ _); k_dflt (refine walk_call3 (by assumption) (by assumption) (by k_asm) (by k_asm) (by k_asm) (by k_asm) (by k_asm) (by first | exact rfl | assumption) (by first | exact rm (by assumption) (by rfl) | ktr_room) (by first | exact un3 (by assumption) (by rfl) | ktr_units) (by assumption) (by assumption) (by assumption) (by assumption) (by assumption) (by (first | assumption | (simp only [adtR_length, adtT_length, stepsN_length, stepN_length, noteN_length]; assumption))) (by ((repeat' (first | (with_reducible first | exact sub_nil | exact sub_self | refine sub_app ?_ ?_ | refine sub_cons ?_ ?_) | ((repeat with_reducible first | exact sub_self | exact sub_l sub_self | refine sub_tl ?_ | refine sub_r ?_); done) | ((with_reducible show _ ∈ _); k_mem) | (refine sub_cons (by k_mem) ?_))); done)) (by assumption) (by assumption) (by ((repeat' (first | (with_reducible first | exact Rest.nil | refine' Rest.d1 ?_ | refine' Rest.d2 ?_ | refine' Rest.d3 ?_ | refine' Rest.d4 ?_ | refine' Rest.d5 ?_ | refine' Rest.d6 ?_ | refine' Rest.d7 ?_ | refine' Rest.d8 ?_ | refine' Rest.d9 ?_ | refine' Rest.d10 ?_ | refine' Rest.d11 ?_) | (refine' Rest.keep (by ((repeat' (first | with_reducible exact nea_nil | exact df_all (by with_reducible assumption) | exact df_allm (by with_reducible assumption) (by k_mem) | refine nea_cons (by k_ne) ?_)); done)) ?_) | exact Rest.all (by with_reducible assumption) | exact Rest.all (rest_one (by with_reducible assumption)) | exact Rest.all (rest_two (by with_reducible assumption) (by with_reducible assumption)) | (with_reducible first | refine' Rest.app (by assumption) ?_ | refine' Rest.app (rest_one (by assumption)) ?_ | refine' Rest.app (rest_two (by assumption) (by assumption)) ?_ | refine' Rest.drop ?_))); done)) ?_; k_whole); intro ts' h' tk' F' N' hi'; (try simp only [List.cons_append, List.nil_append, List.append_assoc] at N'); (try k_fold); (try ((with_reducible show wpAny _ _ _ _ _ _); k_gentoks)))) | ((with_reducible show wpAny _ _ (subscriptTail _ _ (Value.ref _) (Value.int _ _)) _ _ _); first | (with_unfolding_all (refine itemT (by k_asm) (by with_reducible assumption) (by decide) (by decide) (by rfl) ?_ (by with_unfolding_all rfl); k_whole); (try ((with_reducible show wpAny _ _ _ _ _ _); k_gentoks))) | (with_unfolding_all (refine itemC (by k_asm) (by with_reducible assumption) (by decide) (by decide) (by rfl) ?_ (by with_unfolding_all rfl); k_whole); (try ((with_reducible show wpAny _ _ _ _ _ _); k_gentoks)))) | (k_end; wrow_close) | walk1 | (dsimp only; walk1) | (leave1; (try dsimp only))))
  exact hret _ _ _ _ (by assumption) (by assumption) (keep_of (by assumption) (by assumption)) ⟨_, rfl, by assumption, rfl⟩
theorem walkArr {w mean mg mb} {t : Ty} {d : Nat} (I1 : WalkSpec w mean mg mb 78 d t) : WalkSpec w mean mg mb 78 (d + 20) (.arr t) := by
  intro row dx rl pl tl rk hc rs ps ts n1 n2 n rgs pgs ws ta tw a K frz rv TI R P hl hi ap hne hod
  cases TI with
  | @arr _ c tt tt2 _ m1 T1 =>
  unfold Sp Pg LZ
  k_fill
  intro dp un gd cn cs aa ccd cl outer A₀ base h₀ L m s Q E B F X N T hk hd hu hz hret
  obtain ⟨a1, a2, a3, a4⟩ := id ap
  have hod' : AdtOk w frz rv K t := hod
  simp only [rowLed, List.cons_append, List.nil_append] at N
  refine wpAny_call ?_
  k_dflt (refine code_defG (by k_asm) (by k_asm) (by k_asm) (by k_asm) (by k_asm) (by exact rfl) (by exact rfl) (by assumption) (by k_is) (by k_is) (by first | exact rm0 (by assumption) | ktr_room) (by exact BindsTo.of_eq rfl) (by exact locs rfl) ?_ (by exact rfl) (by exact rfl) (by exact rfl) (by decide); k_whole)
  intro g' L' h' FG' F' N' B' X' T' kG'
  (try dsimp only)
  (try k_fold)
  (try ((with_reducible show wpAny _ _ _ _ _ _); k_gentoks))
  have gz := walk_frz hz (by assumption) hne
  have g1 := gz.tup m1
  (w_top off; repeat' (first | (k_unfold; (try dsimp only)) | ((with_reducible show wpAny _ _ (newTuple _) _ _ _); first | (k_dflt (refine newTupleM (by k_asm) (by k_asm) (by exact Nat.le_of_ble_eq_true rfl) ?_; k_whole); intro D' h' F' N' l1; (try k_sweep); (try ((with_reducible show wpAny _ _ _ _ _ _); k_gentoks)))) | ((with_reducible show wpAny _ _ (newList _) _ _ _); first | (k_dflt (refine newListM (by k_asm) (by k_asm) (by exact Nat.le_of_ble_eq_true rfl) ?_; k_whole); intro D' h' F' N' l1; (try k_sweep); (try ((with_reducible show wpAny _ _ _ _ _ _); k_gentoks)))) | ((with_reducible show wpAny _ _ (call (Value.ref _) _) _ _ _); first | ((with_reducible show wpAny _ _ (call (Value.ref 155) _) _ _ _); k_dflt (refine region_call0 (by k_asm) (by k_asm) (by k_asm) (by k_asm) (by k_asm) (by first | exact rfl | assumption) (by first | exact rm (by assumption) (by rfl) | ktr_room) (by first | exact un3 (by assumption) (by rfl) | ktr_units) (by k_mem) (by ((repeat' (first | (with_reducible first | exact Rest.nil | refine' Rest.d1 ?_ | refine' Rest.d2 ?_ | refine' Rest.d3 ?_ | refine' Rest.d4 ?_ | refine' Rest.d5 ?_ | refine' Rest.d6 ?_ | refine' Rest.d7 ?_ | refine' Rest.d8 ?_ | refine' Rest.d9 ?_ | refine' Rest.d10 ?_ | refine' Rest.d11 ?_) | (refine' Rest.keep (by ((repeat' (first | with_reducible exact nea_nil | exact df_all (by with_reducible assumption) | exact df_allm (by with_reducible assumption) (by k_mem) | refine nea_cons (by k_ne) ?_)); done)) ?_) | exact Rest.all (by with_reducible assumption) | exact Rest.all (rest_one (by with_reducible assumption)) | exact Rest.all (rest_two (by with_reducible assumption) (by with_reducible assumption)) | (with_reducible first | refine' Rest.app (by assumption) ?_ | refine' Rest.app (rest_one (by assumption)) ?_ | refine' Rest.app (rest_two (by assumption) (by assumption)) ?_ | refine' Rest.drop ?_))); done)) (by assumption) (by assumption) (by assumption) ?_; k_whole); intro x' y' tx' ty' r' h' tk' F' N' hx' hy' hy2' hr'; obtain ⟨n', hi', hn'⟩ := hr'; (try k_fold); (try ((with_reducible show wpAny _ _ _ _ _ _); k_gentoks))) | ((with_reducible show wpAny _ _ (call (Value.ref 57) _) _ _ _); k_dflt (refine region_call (by k_asm) (by k_asm) (by k_asm) (by k_asm) (by k_asm) (by first | exact rfl | assumption) (by first | exact rm (by assumption) (by rfl) | ktr_room) (by first | exact un3 (by assumption) (by rfl) | ktr_units) (by ((repeat' (first | (with_reducible first | exact sub_nil | exact sub_self | refine sub_app ?_ ?_ | refine sub_cons ?_ ?_) | ((repeat with_reducible first | exact sub_self | exact sub_l sub_self | refine sub_tl ?_ | refine sub_r ?_); done) | ((with_reducible show _ ∈ _); k_mem) | (refine sub_cons (by k_mem) ?_))); done)) (by assumption) (by assumption) (by assumption) (by assumption) (by assumption) (by (first | assumption | (simp only [adtR_length, adtT_length, stepsN_length, stepN_length, noteN_length]; assumption))) (by k_ne) (by k_ne) (by k_ne) (by k_ne) (by k_ne) (by k_ne) (by k_ne) (by k_ne) (by k_ne) (by k_ne) (by ((repeat' (first | (with_reducible first | exact Rest.nil | refine' Rest.d1 ?_ | refine' Rest.d2 ?_ | refine' Rest.d3 ?_ | refine' Rest.d4 ?_ | refine' Rest.d5 ?_ | refine' Rest.d6 ?_ | refine' Rest.d7 ?_ | refine' Rest.d8 ?_ | refine' Rest.d9 ?_ | refine' Rest.d10 ?_ | refine' Rest.d11 ?_) | (refine' Rest.keep (by ((repeat' (first | with_reducible exact nea_nil | exact df_all (by with_reducible assumption) | exact df_allm (by with_reducible assumption) (by k_mem) | refine nea_cons (by k_ne) ?_)); done)) ?_) | exact Rest.all (by with_reducible assumption) | exact Rest.all (rest_one (by with_reducible assumption)) | exact Rest.all (rest_two (by with_reducible assumption) (by with_reducible assumption)) | (with_reducible first | refine' Rest.app (by assumption) ?_ | refine' Rest.app (rest_one (by assumption)) ?_ | refine' Rest.app (rest_two (by assumption) (by assumption)) ?_ | refine' Rest.drop ?_))); done)) ?_; k_whole); intro ts' h' tk' F' N' hi'; (try simp only [List.cons_append, List.nil_append, List.append_assoc] at N'); (try k_fold); (try ((with_reducible show wpAny _ _ _ _ _ _); k_gentoks))) | ((with_reducible show wpAny _ _ (call (Value.ref 64) _) _ _ _); k_dflt (refine param_call (by k_asm) (by k_asm) (by k_asm) (by k_asm) (by k_asm) (by first | exact rfl | assumption) (by first | exact rm (by assumption) (by rfl) | ktr_room) (by first | exact un3 (by assumption) (by rfl) | ktr_units) (by ((repeat' (first | (with_reducible first | exact sub_nil | exact sub_self | refine sub_app ?_ ?_ | refine sub_cons ?_ ?_) | ((repeat with_reducible first | exact sub_self | exact sub_l sub_self | refine sub_tl ?_ | refine sub_r ?_); done) | ((with_reducible show _ ∈ _); k_mem) | (refine sub_cons (by k_mem) ?_))); done)) (by assumption) (by assumption) (by assumption) (by assumption) (by assumption) (by (first | assumption | (simp only [adtR_length, adtT_length, stepsN_length, stepN_length, noteN_length]; assumption))) (by k_ne) (by k_ne) (by k_ne) (by k_ne) (by k_ne) (by k_ne) (by k_ne) (by k_ne) (by k_ne) (by k_ne) (by ((repeat' (first | (with_reducible first | exact Rest.nil | refine' Rest.d1 ?_ | refine' Rest.d2 ?_ | refine' Rest.d3 ?_ | refine' Rest.d4 ?_ | refine' Rest.d5 ?_ | refine' Rest.d6 ?_ | refine' Rest.d7 ?_ | refine' Rest.d8 ?_ | refine' Rest.d9 ?_ | refine' Rest.d10 ?_ | refine' Rest.d11 ?_) | (refine' Rest.keep (by ((repeat' (first | with_reducible exact nea_nil | exact df_all (by with_reducible assumption) | exact df_allm (by with_reducible assumption) (by k_mem) | refine nea_cons (by k_ne) ?_)); done)) ?_) | exact Rest.all (by with_reducible assumption) | exact Rest.all (rest_one (by with_reducible assumption)) | exact Rest.all (rest_two (by with_reducible assumption) (by with_reducible assumption)) | (with_reducible first | refine' Rest.app (by assumption) ?_ | refine' Rest.app (rest_one (by assumption)) ?_ | refine' Rest.app (rest_two (by assumption) (by assumption)) ?_ | refine' Rest.drop ?_))); done)) ?_; k_whole); intro ts' h' tk' F' N' hi'; (try simp only [List.cons_append, List.nil_append, List.append_assoc] at N'); (try k_fold); (try ((with_reducible show wpAny _ _ _ _ _ _); k_gentoks))) | ((with_reducible show wpAny _ _ (call (Value.ref 29) _) _ _ _); k_dflt (first | refine within_call (b := .inn) (by k_asm) (by k_asm) (by k_asm) (by k_asm) (by k_asm) (by first | exact rfl | assumption) (by first | exact rm (by assumption) (by rfl) | ktr_room) (by first | exact un3 (by assumption) (by rfl) | ktr_units) ?_ | refine within_call (b := .co) (by k_asm) (by k_asm) (by k_asm) (by k_asm) (by k_asm) (by first | exact rfl | assumption) (by first | exact rm (by assumption) (by rfl) | ktr_room) (by first | exact un3 (by assumption) (by rfl) | ktr_units) ?_ | refine within_call (by k_asm) (by k_asm) (by k_asm) (by k_asm) (by k_asm) (by first | exact rfl | assumption) (by first | exact rm (by assumption) (by rfl) | ktr_room) (by first | exact un3 (by assumption) (by rfl) | ktr_units) ?_); k_whole; intro t' h' tk' F' N'; (try k_fold); (try ((with_reducible show wpAny _ _ _ _ _ _); k_gentoks))) | ((with_reducible first | show wpAny _ _ (call (Value.ref 78) _) _ _ _ | show wpAny _ _ (call (Value.ref 85) _) _ _ _); k_dflt (refine walk_call3 (by assumption) (by assumption) (by k_asm) (by k_asm) (by k_asm) (by k_asm) (by k_asm) (by first | exact rfl | assumption) (by first | exact rm (by assumption) (by rfl) | ktr_room) (by first | exact un3 (by assumption) (by rfl) | ktr_units) (by assumption) (by assumption) (by assumption) (by assumption) (by assumption) (by (first | assumption | (simp only [adtR_length, adtT_length, stepsN_length, stepN_length, noteN_length]; assumption))) (by ((repeat' (first | (with_reducible first | exact sub_nil | exact sub_self | refine sub_app ?_ ?_ | refine sub_cons ?_ ?_) | ((repeat with_reducible first | exact sub_self | exact sub_l sub_self | refine sub_tl ?_ | refine sub_r ?_); done) | ((with_reducible show _ ∈ _); k_mem) | (refine sub_cons (by k_mem) ?_))); done)) (by assumption) (by assumption) (by ((repeat' (first | (with_reducible first | exact Rest.nil | refine' Rest.d1 ?_ | refine' Rest.d2 ?_ | refine' Rest.d3 ?_ | refine' Rest.d4 ?_ | refine' Rest.d5 ?_ | refine' Rest.d6 ?_ | refine' Rest.d7 ?_ | refine' Rest.d8 ?_ | refine' Rest.d9 ?_ | refine' Rest.d10 ?_ | refine' Rest.d11 ?_) | (refine' Rest.keep (by ((repeat' (first | with_reducible exact nea_nil | exact df_all (by with_reducible assumption) | exact df_allm (by with_reducible assumption) (by k_mem) | refine nea_cons (by k_ne) ?_)); done)) ?_) | exact Rest.all (by with_reducible assumption) | exact Rest.all (rest_one (by with_reducible assumption)) | exact Rest.all (rest_two (by with_reducible assumption) (by with_reducible assumption)) | (with_reducible first | refine' Rest.app (by assumption) ?_ | refine' Rest.app (rest_one (by assumption)) ?_ | refine' Rest.app (rest_two (by assumption) (by assumption)) ?_ | refine' Rest.drop ?_))); done)) ?_; k_whole); intro ts' h' tk' F' N' hi'; (try simp only [List.cons_append, List.nil_append, List.append_assoc] at N'); (try k_fold); (try ((with_reducible show wpAny _ _ _ _ _ _); k_gentoks)))) | ((with_reducible show wpAny _ _ (subscriptTail _ _ (Value.ref _) (Value.int _ _)) _ _ _); first | (with_unfolding_all (refine itemT (by k_asm) (by with_reducible assumption) (by decide) (by decide) (by rfl) ?_ (by with_unfolding_all rfl); k_whole); (try ((with_reducible show wpAny _ _ _ _ _ _); k_gentoks))) | (with_unfolding_all (refine itemC (by k_asm) (by with_reducible assumption) (by decide) (by decide) (by rfl) ?_ (by with_unfolding_all rfl); k_whole); (try ((with_reducible show wpAny _ _ _ _ _ _); k_gentoks)))) | (k_end; wrow_close) | walk1 | (dsimp only; walk1) | (leave1; (try dsimp only))))
  exact hret _ _ _ _ (by assumption) (by assumption) (keep_of (by assumption) (by assumption)) ⟨_, rfl, by assumption, rfl⟩
theorem walkAdt {w mean mg mb} {r1 r2 : Nm} {t u : Ty} {d : Nat} (I1 : WalkSpec w mean mg mb 85 d (.adt r1 r2 t u)) : WalkSpec w mean mg mb 78 (d + 10) (.adt r1 r2 t u) := by
  intro row dx rl pl tl rk hc rs ps ts n1 n2 n rgs pgs ws ta tw a K frz rv TI R P hl hi ap hne hod
  have TJ := TI
  cases TI with
  | @adt _ q p c d' tt1 tt2 v1 v2 _ _ ty uy m1 m2 p1 nv1 p2 nv2 m3 T1 T2 =>
  unfold Sp Pg LZ
  k_fill
  intro dp un gd cn cs aa ccd cl outer A₀ base h₀ L m s Q E B F X N T hk hd hu hz hret
  obtain ⟨a1, a2, a3, a4⟩ := id ap
  simp only [rowLed, List.cons_append, List.nil_append] at N
  refine wpAny_call ?_
  k_dflt (refine code_defG (by k_asm) (by k_asm) (by k_asm) (by k_asm) (by k_asm) (by exact rfl) (by exact rfl) (by assumption) (by k_is) (by k_is) (by first | exact rm0 (by assumption) | ktr_room) (by exact BindsTo.of_eq rfl) (by exact locs rfl) ?_ (by exact rfl) (by exact rfl) (by exact rfl) (by decide); k_whole)
  intro g' L' h' FG' F' N' B' X' T' kG'
  (try dsimp only)
  (try k_fold)
  (try ((with_reducible show wpAny _ _ _ _ _ _); k_gentoks))
  have gz := walk_frz hz (by assumption) hne
  have g1 := gz.tup m1
  (w_top off; repeat' (first | (k_unfold; (try dsimp only)) | ((with_reducible show wpAny _ _ (newTuple _) _ _ _); first | (k_dflt (refine newTupleM (by k_asm) (by k_asm) (by exact Nat.le_of_ble_eq_true rfl) ?_; k_whole); intro D' h' F' N' l1; (try k_sweep); (try ((with_reducible show wpAny _ _ _ _ _ _); k_gentoks)))) | ((with_reducible show wpAny _ _ (newList _) _ _ _); first | (k_dflt (refine newListM (by k_asm) (by k_asm) (by exact Nat.le_of_ble_eq_true rfl) ?_; k_whole); intro D' h' F' N' l1; (try k_sweep); (try ((with_reducible show wpAny _ _ _ _ _ _); k_gentoks)))) | ((with_reducible show wpAny _ _ (call (Value.ref _) _) _ _ _); first | ((with_reducible show wpAny _ _ (call (Value.ref 155) _) _ _ _); k_dflt (refine region_call0 (by k_asm) (by k_asm) (by k_asm) (by k_asm) (by k_asm) (by first | exact rfl | assumption) (by first | exact rm (by assumption) (by rfl) | ktr_room) (by first | exact un3 (by assumption) (by rfl) | ktr_units) (by k_mem) (by ((repeat' (first | (with_reducible first | exact Rest.nil | refine' Rest.d1 ?_ | refine' Rest.d2 ?_ | refine' Rest.d3 ?_ | refine' Rest.d4 ?_ | refine' Rest.d5 ?_ | refine' Rest.d6 ?_ | refine' Rest.d7 ?_ | refine' Rest.d8 ?_ | refine' Rest.d9 ?_ | refine' Rest.d10 ?_ | refine' Rest.d11 ?_) | (refine' Rest.keep (by ((repeat' (first | with_reducible exact nea_nil | exact df_all (by with_reducible assumption) | exact df_allm (by with_reducible assumption) (by k_mem) | refine nea_cons (by k_ne) ?_)); done)) ?_) | exact Rest.all (by with_reducible assumption) | exact Rest.all (rest_one (by with_reducible assumption)) | exact Rest.all (rest_two (by with_reducible assumption) (by with_reducible assumption)) | (with_reducible first | refine' Rest.app (by assumption) ?_ | refine' Rest.app (rest_one (by assumption)) ?_ | refine' Rest.app (rest_two (by assumption) (by assumption)) ?_ | refine' Rest.drop ?_))); done)) (by assumption) (by assumption) (by assumption) ?_; k_whole); intro x' y' tx' ty' r' h' tk' F' N' hx' hy' hy2' hr'; obtain ⟨n', hi', hn'⟩ := hr'; (try k_fold); (try ((with_reducible show wpAny _ _ _ _ _ _); k_gentoks))) | ((with_reducible show wpAny _ _ (call (Value.ref 57) _) _ _ _); k_dflt (refine region_call (by k_asm) (by k_asm) (by k_asm) (by k_asm) (by k_asm) (by first | exact rfl | assumption) (by first | exact rm (by assumption) (by rfl) | ktr_room) (by first | exact un3 (by assumption) (by rfl) | ktr_units) (by ((repeat' (first | (with_reducible first | exact sub_nil | exact sub_self | refine sub_app ?_ ?_ | refine sub_cons ?_ ?_) | ((repeat with_reducible first | exact sub_self | exact sub_l sub_self | refine sub_tl ?_ | refine sub_r ?_); done) | ((with_reducible show _ ∈ _); k_mem) | (refine sub_cons (by k_mem) ?_))); done)) (by assumption) (by assumption) (by assumption) (by assumption) (by assumption) (by (first | assumption | (simp only [adtR_length, adtT_length, stepsN_length, stepN_length, noteN_length]; assumption))) (by k_ne) (by k_ne) (by k_ne) (by k_ne) (by k_ne) (by k_ne) (by k_ne) (by k_ne) (by k_ne) (by k_ne) (by ((repeat' (first | (with_reducible first | exact Rest.nil | refine' Rest.d1 ?_ | refine' Rest.d2 ?_ | refine' Rest.d3 ?_ | refine' Rest.d4 ?_ | refine' Rest.d5 ?_ | refine' Rest.d6 ?_ | refine' Rest.d7 ?_ | refine' Rest.d8 ?_ | refine' Rest.d9 ?_ | refine' Rest.d10 ?_ | refine' Rest.d11 ?_) | (refine' Rest.keep (by ((repeat' (first | with_reducible exact nea_nil | exact df_all (by with_reducible assumption) | exact df_allm (by with_reducible assumption) (by k_mem) | refine nea_cons (by k_ne) ?_)); done)) ?_) | exact Rest.all (by with_reducible assumption) | exact Rest.all (rest_one (by with_reducible assumption)) | exact Rest.all (rest_two (by with_reducible assumption) (by with_reducible assumption)) | (with_reducible first | refine' Rest.app (by assumption) ?_ | refine' Rest.app (rest_one (by assumption)) ?_ | refine' Rest.app (rest_two (by assumption) (by assumption)) ?_ | refine' Rest.drop ?_))); done)) ?_; k_whole); intro ts' h' tk' F' N' hi'; (try simp only [List.cons_append, List.nil_append, List.append_assoc] at N'); (try k_fold); (try ((with_reducible show wpAny _ _ _ _ _ _); k_gentoks))) | ((with_reducible show wpAny _ _ (call (Value.ref 64) _) _ _ _); k_dflt (refine param_call (by k_asm) (by k_asm) (by k_asm) (by k_asm) (by k_asm) (by first | exact rfl | assumption) (by first | exact rm (by assumption) (by rfl) | ktr_room) (by first | exact un3 (by assumption) (by rfl) | ktr_units) (by ((repeat' (first | (with_reducible first | exact sub_nil | exact sub_self | refine sub_app ?_ ?_ | refine sub_cons ?_ ?_) | ((repeat with_reducible first | exact sub_self | exact sub_l sub_self | refine sub_tl ?_ | refine sub_r ?_); done) | ((with_reducible show _ ∈ _); k_mem) | (refine sub_cons (by k_mem) ?_))); done)) (by assumption) (by assumption) (by assumption) (by assumption) (by assumption) (by (first | assumption | (simp only [adtR_length, adtT_length, stepsN_length, stepN_length, noteN_length]; assumption))) (by k_ne) (by k_ne) (by k_ne) (by k_ne) (by k_ne) (by k_ne) (by k_ne) (by k_ne) (by k_ne) (by k_ne) (by ((repeat' (first | (with_reducible first | exact Rest.nil | refine' Rest.d1 ?_ | refine' Rest.d2 ?_ | refine' Rest.d3 ?_ | refine' Rest.d4 ?_ | refine' Rest.d5 ?_ | refine' Rest.d6 ?_ | refine' Rest.d7 ?_ | refine' Rest.d8 ?_ | refine' Rest.d9 ?_ | refine' Rest.d10 ?_ | refine' Rest.d11 ?_) | (refine' Rest.keep (by ((repeat' (first | with_reducible exact nea_nil | exact df_all (by with_reducible assumption) | exact df_allm (by with_reducible assumption) (by k_mem) | refine nea_cons (by k_ne) ?_)); done)) ?_) | exact Rest.all (by with_reducible assumption) | exact Rest.all (rest_one (by with_reducible assumption)) | exact Rest.all (rest_two (by with_reducible assumption) (by with_reducible assumption)) | (with_reducible first | refine' Rest.app (by assumption) ?_ | refine' Rest.app (rest_one (by assumption)) ?_ | refine' Rest.app (rest_two (by assumption) (by assumption)) ?_ | refine' Rest.drop ?_))); done)) ?_; k_whole); intro ts' h' tk' F' N' hi'; (try simp only [List.cons_append, List.nil_append, List.append_assoc] at N'); (try k_fold); (try ((with_reducible show wpAny _ _ _ _ _ _); k_gentoks))) | ((with_reducible show wpAny _ _ (call (Value.ref 29) _) _ _ _); k_dflt (first | refine within_call (b := .inn) (by k_asm) (by k_asm) (by k_asm) (by k_asm) (by k_asm) (by first | exact rfl | assumption) (by first | exact rm (by assumption) (by rfl) | ktr_room) (by first | exact un3 (by assumption) (by rfl) | ktr_units) ?_ | refine within_call (b := .co) (by k_asm) (by k_asm) (by k_asm) (by k_asm) (by k_asm) (by first | exact rfl | assumption) (by first | exact rm (by assumption) (by rfl) | ktr_room) (by first | exact un3 (by assumption) (by rfl) | ktr_units) ?_ | refine within_call (by k_asm) (by k_asm) (by k_asm) (by k_asm) (by k_asm) (by first | exact rfl | assumption) (by first | exact rm (by assumption) (by rfl) | ktr_room) (by first | exact un3 (by assumption) (by rfl) | ktr_units) ?_); k_whole; intro t' h' tk' F' N'; (try k_fold); (try ((with_reducible show wpAny _ _ _ _ _ _); k_gentoks))) | ((with_reducible first | show wpAny _ _ (call (Value.ref 78) _) _ _ _ | show wpAny _ _ (call (Value.ref 85) _) _ _ _); k_dflt (refine walk_call3 (by assumption) (by assumption) (by k_asm) (by k_asm) (by k_asm) (by k_asm) (by k_asm) (by first | exact rfl | assumption) (by first | exact rm (by assumption) (by rfl) | ktr_room) (by first | exact un3 (by assumption) (by rfl) | ktr_units) (by assumption) (by assumption) (by assumption) (by assumption) (by assumption) (by (first | assumption | (simp only [adtR_length, adtT_length, stepsN_length, stepN_length, noteN_length]; assumption))) (by ((repeat' (first | (with_reducible first | exact sub_nil | exact sub_self | refine sub_app ?_ ?_ | refine sub_cons ?_ ?_) | ((repeat with_reducible first | exact sub_self | exact sub_l sub_self | refine sub_tl ?_ | refine sub_r ?_); done) | ((with_reducible show _ ∈ _); k_mem) | (refine sub_cons (by k_mem) ?_))); done)) (by assumption) (by assumption) (by ((repeat' (first | (with_reducible first | exact Rest.nil | refine' Rest.d1 ?_ | refine' Rest.d2 ?_ | refine' Rest.d3 ?_ | refine' Rest.d4 ?_ | refine' Rest.d5 ?_ | refine' Rest.d6 ?_ | refine' Rest.d7 ?_ | refine' Rest.d8 ?_ | refine' Rest.d9 ?_ | refine' Rest.d10 ?_ | refine' Rest.d11 ?_) | (refine' Rest.keep (by ((repeat' (first | with_reducible exact nea_nil | exact df_all (by with_reducible assumption) | exact df_allm (by with_reducible assumption) (by k_mem) | refine nea_cons (by k_ne) ?_)); done)) ?_) | exact Rest.all (by with_reducible assumption) | exact Rest.all (rest_one (by with_reducible assumption)) | exact Rest.all (rest_two (by with_reducible assumption) (by with_reducible assumption)) | (with_reducible first | refine' Rest.app (by assumption) ?_ | refine' Rest.app (rest_one (by assumption)) ?_ | refine' Rest.app (rest_two (by assumption) (by assumption)) ?_ | refine' Rest.drop ?_))); done)) ?_; k_whole); intro ts' h' tk' F' N' hi'; (try simp only [List.cons_append, List.nil_append, List.append_assoc] at N'); (try k_fold); (try ((with_reducible show wpAny _ _ _ _ _ _); k_gentoks)))) | ((with_reducible show wpAny _ _ (subscriptTail _ _ (Value.ref _) (Value.int _ _)) _ _ _); first | (with_unfolding_all (refine itemT (by k_asm) (by with_reducible assumption) (by decide) (by decide) (by rfl) ?_ (by with_unfolding_all rfl); k_whole); (try ((with_reducible show wpAny _ _ _ _ _ _); k_gentoks))) | (with_unfolding_all (refine itemC (by k_asm) (by with_reducible assumption) (by decide) (by decide) (by rfl) ?_ (by with_unfolding_all rfl); k_whole); (try ((with_reducible show wpAny _ _ _ _ _ _); k_gentoks)))) | (k_end; wrow_close) | walk1 | (dsimp only; walk1) | (leave1; (try dsimp only))))
  exact hret _ _ _ _ (by assumption) (by assumption) (keep_of (by assumption) (by assumption)) ⟨_, rfl, by assumption, rfl⟩

theorem walkTup {w mean mg mb} {t u : Ty} {d : Nat} (I1 : WalkSpec w mean mg mb 78 d t) (I2 : WalkSpec w mean mg mb 78 d u) : WalkSpec w mean mg mb 78 (d + 20) (.tup t u) := by
  intro row dx rl pl tl rk hc rs ps ts n1 n2 n rgs pgs ws ta tw a K frz rv TI R P hl hi ap hne hod
  cases TI with
  | @tup _ p c d' tt ty uy m1 m2 T1 T2 =>
  unfold Sp Pg LZ
  k_fill
  intro dp un gd cn cs aa ccd cl outer A₀ base h₀ L m s Q E B F X N T hk hd hu hz hret
  obtain ⟨a1, a2, a3, a4⟩ := id ap
  obtain ⟨hod1, hod2⟩ := hod.two
  simp only [rowLed, List.cons_append, List.nil_append] at N
  refine wpAny_call ?_
  k_dflt (refine code_defG (by k_asm) (by k_asm) (by k_asm) (by k_asm) (by k_asm) (by exact rfl) (by exact rfl) (by assumption) (by k_is) (by k_is) (by first | exact rm0 (by assumption) | ktr_room) (by exact BindsTo.of_eq rfl) (by exact locs rfl) ?_ (by exact rfl) (by exact rfl) (by exact rfl) (by decide); k_whole)
  intro g' L' h' FG' F' N' B' X' T' kG'
  (try dsimp only)
  (try k_fold)
  (try ((with_reducible show wpAny _ _ _ _ _ _); k_gentoks))
  have gz := walk_frz hz (by assumption) hne
  have g1 := gz.tup m1
  have g2 := gz.tup m2
  (w_top off; repeat' (first | (k_unfold; (try dsimp only)) | ((with_reducible show wpAny _ _ (newTuple _) _ _ _); first | (k_dflt (refine newTupleM (by k_asm) (by k_asm) (by exact Nat.le_of_ble_eq_true rfl) ?_; k_whole); intro D' h' F' N' l1; (try k_sweep); (try ((with_reducible show wpAny _ _ _ _ _ _); k_gentoks)))) | ((with_reducible show wpAny _ _ (newList _) _ _ _); first | (k_dflt (refine newListM (by k_asm) (by k_asm) (by exact Nat.le_of_ble_eq_true rfl) ?_; k_whole); intro D' h' F' N' l1; (try k_sweep); (try ((with_reducible show wpAny _ _ _ _ _ _); k_gentoks)))) | ((with_reducible show wpAny _ _ (call (Value.ref _) _) _ _ _); first | ((with_reducible show wpAny _ _ (call (Value.ref 155) _) _ _ _); k_dflt (refine region_call0 (by k_asm) (by k_asm) (by k_asm) (by k_asm) (by k_asm) (by first | exact rfl | assumption) (by first | exact rm (by assumption) (by rfl) | ktr_room) (by first | exact un3 (by assumption) (by rfl) | ktr_units) (by k_mem) (by ((repeat' (first | (with_reducible first | exact Rest.nil | refine' Rest.d1 ?_ | refine' Rest.d2 ?_ | refine' Rest.d3 ?_ | refine' Rest.d4 ?_ | refine' Rest.d5 ?_ | refine' Rest.d6 ?_ | refine' Rest.d7 ?_ | refine' Rest.d8 ?_ | refine' Rest.d9 ?_ | refine' Rest.d10 ?_ | refine' Rest.d11 ?_) | (refine' Rest.keep (by ((repeat' (first | with_reducible exact nea_nil | exact df_all (by with_reducible assumption) | exact df_allm (by with_reducible assumption) (by k_mem) | refine nea_cons (by k_ne) ?_)); done)) ?_) | exact Rest.all (by with_reducible assumption) | exact Rest.all (rest_one (by with_reducible assumption)) | exact Rest.all (rest_two (by with_reducible assumption) (by with_reducible assumption)) | (with_reducible first | refine' Rest.app (by assumption) ?_ | refine' Rest.app (rest_one (by assumption)) ?_ | refine' Rest.app (rest_two (by assumption) (by assumption)) ?_ | refine' Rest.drop ?_))); done)) (by assumption) (by assumption) (by assumption) ?_; k_whole); intro x' y' tx' ty' r' h' tk' F' N' hx' hy' hy2' hr'; obtain ⟨n', hi', hn'⟩ := hr'; (try k_fold); (try ((with_reducible show wpAny _ _ _ _ _ _); k_gentoks))) | ((with_reducible show wpAny _ _ (call (Value.ref 57) _) _ _ _); k_dflt (refine region_call (by k_asm) (by k_asm) (by k_asm) (by k_asm) (by k_asm) (by first | exact rfl | assumption) (by first | exact rm (by assumption) (by rfl) | ktr_room) (by first | exact un3 (by assumption) (by rfl) | ktr_units) (by ((repeat' (first | (with_reducible first | exact sub_nil | exact sub_self | refine sub_app ?_ ?_ | refine sub_cons ?_ ?_) | ((repeat with_reducible first | exact sub_self | exact sub_l sub_self | refine sub_tl ?_ | refine sub_r ?_); done) | ((with_reducible show _ ∈ _); k_mem) | (refine sub_cons (by k_mem) ?_))); done)) (by assumption) (by assumption) (by assumption) (by assumption) (by assumption) (by (first | assumption | (simp only [adtR_length, adtT_length, stepsN_length, stepN_length, noteN_length]; assumption))) (by k_ne) (by k_ne) (by k_ne) (by k_ne) (by k_ne) (by k_ne) (by k_ne) (by k_ne) (by k_ne) (by k_ne) (by ((repeat' (first | (with_reducible first | exact Rest.nil | refine' Rest.d1 ?_ | refine' Rest.d2 ?_ | refine' Rest.d3 ?_ | refine' Rest.d4 ?_ | refine' Rest.d5 ?_ | refine' Rest.d6 ?_ | refine' Rest.d7 ?_ | refine' Rest.d8 ?_ | refine' Rest.d9 ?_ | refine' Rest.d10 ?_ | refine' Rest.d11 ?_) | (refine' Rest.keep (by ((repeat' (first | with_reducible exact nea_nil | exact df_all (by with_reducible assumption) | exact df_allm (by with_reducible assumption) (by k_mem) | refine nea_cons (by k_ne) ?_)); done)) ?_) | exact Rest.all (by with_reducible assumption) | exact Rest.all (rest_one (by with_reducible assumption)) | exact Rest.all (rest_two (by with_reducible assumption) (by with_reducible assumption)) | (with_reducible first | refine' Rest.app (by assumption) ?_ | refine' Rest.app (rest_one (by assumption)) ?_ | refine' Rest.app (rest_two (by assumption) (by assumption)) ?_ | refine' Rest.drop ?_))); done)) ?_; k_whole); intro ts' h' tk' F' N' hi'; (try simp only [List.cons_append, List.nil_append, List.append_assoc] at N'); (try k_fold); (try ((with_reducible show wpAny _ _ _ _ _ _); k_gentoks))) | ((with_reducible show wpAny _ _ (call (Value.ref 64) _) _ _ _); k_dflt (refine param_call (by k_asm) (by k_asm) (by k_asm) (by k_asm) (by k_asm) (by first | exact rfl | assumption) (by first | exact rm (by assumption) (by rfl) | ktr_room) (by first | exact un3 (by assumption) (by rfl) | ktr_units) (by ((repeat' (first | (with_reducible first | exact sub_nil | exact sub_self | refine sub_app ?_ ?_ | refine sub_cons ?_ ?_) | ((repeat with_reducible first | exact sub_self | exact sub_l sub_self | refine sub_tl ?_ | refine sub_r ?_); done) | ((with_reducible show _ ∈ _); k_mem) | (refine sub_cons (by k_mem) ?_))); done)) (by assumption) (by assumption) (by assumption) (by assumption) (by assumption) (by (first | assumption | (simp only [adtR_length, adtT_length, stepsN_length, stepN_length, noteN_length]; assumption))) (by k_ne) (by k_ne) (by k_ne) (by k_ne) (by k_ne) (by k_ne) (by k_ne) (by k_ne) (by k_ne) (by k_ne) (by ((repeat' (first | (with_reducible first | exact Rest.nil | refine' Rest.d1 ?_ | refine' Rest.d2 ?_ | refine' Rest.d3 ?_ | refine' Rest.d4 ?_ | refine' Rest.d5 ?_ | refine' Rest.d6 ?_ | refine' Rest.d7 ?_ | refine' Rest.d8 ?_ | refine' Rest.d9 ?_ | refine' Rest.d10 ?_ | refine' Rest.d11 ?_) | (refine' Rest.keep (by ((repeat' (first | with_reducible exact nea_nil | exact df_all (by with_reducible assumption) | exact df_allm (by with_reducible assumption) (by k_mem) | refine nea_cons (by k_ne) ?_)); done)) ?_) | exact Rest.all (by with_reducible assumption) | exact Rest.all (rest_one (by with_reducible assumption)) | exact Rest.all (rest_two (by with_reducible assumption) (by with_reducible assumption)) | (with_reducible first | refine' Rest.app (by assumption) ?_ | refine' Rest.app (rest_one (by assumption)) ?_ | refine' Rest.app (rest_two (by assumption) (by assumption)) ?_ | refine' Rest.drop ?_))); done)) ?_; k_whole); intro ts' h' tk' F' N' hi'; (try simp only [List.cons_append, List.nil_append, List.append_assoc] at N'); (try k_fold); (try ((with_reducible show wpAny _ _ _ _ _ _); k_gentoks))) | ((with_reducible show wpAny _ _ (call (Value.ref 29) _) _ _ _); k_dflt (first | refine within_call (b := .inn) (by k_asm) (by k_asm) (by k_asm) (by k_asm) (by k_asm) (by first | exact rfl | assumption) (by first | exact rm (by assumption) (by rfl) | ktr_room) (by first | exact un3 (by assumption) (by rfl) | ktr_units) ?_ | refine within_call (b := .co) (by k_asm) (by k_asm) (by k_asm) (by k_asm) (by k_asm) (by first | exact rfl | assumption) (by first | exact rm (by assumption) (by rfl) | ktr_room) (by first | exact un3 (by assumption) (by rfl) | ktr_units) ?_ | refine within_call (by k_asm) (by k_asm) (by k_asm) (by k_asm) (by k_asm) (by first | exact rfl | assumption) (by first | exact rm (by assumption) (by rfl) | ktr_room) (by first | exact un3 (by assumption) (by rfl) | ktr_units) ?_); k_whole; intro t' h' tk' F' N'; (try k_fold); (try ((with_reducible show wpAny _ _ _ _ _ _); k_gentoks))) | ((with_reducible first | show wpAny _ _ (call (Value.ref 78) _) _ _ _ | show wpAny _ _ (call (Value.ref 85) _) _ _ _); k_dflt (refine walk_call3 (by assumption) (by assumption) (by k_asm) (by k_asm) (by k_asm) (by k_asm) (by k_asm) (by first | exact rfl | assumption) (by first | exact rm (by assumption) (by rfl) | ktr_room) (by first | exact un3 (by assumption) (by rfl) | ktr_units) (by assumption) (by assumption) (by assumption) (by assumption) (by assumption) (by (first | assumption | (simp only [adtR_length, adtT_length, stepsN_length, stepN_length, noteN_length]; assumption))) (by ((repeat' (first | (with_reducible first | exact sub_nil | exact sub_self | refine sub_app ?_ ?_ | refine sub_cons ?_ ?_) | ((repeat with_reducible first | exact sub_self | exact sub_l sub_self | refine sub_tl ?_ | refine sub_r ?_); done) | ((with_reducible show _ ∈ _); k_mem) | (refine sub_cons (by k_mem) ?_))); done)) (by assumption) (by assumption) (by ((repeat' (first | (with_reducible first | exact Rest.nil | refine' Rest.d1 ?_ | refine' Rest.d2 ?_ | refine' Rest.d3 ?_ | refine' Rest.d4 ?_ | refine' Rest.d5 ?_ | refine' Rest.d6 ?_ | refine' Rest.d7 ?_ | refine' Rest.d8 ?_ | refine' Rest.d9 ?_ | refine' Rest.d10 ?_ | refine' Rest.d11 ?_) | (refine' Rest.keep (by ((repeat' (first | with_reducible exact nea_nil | exact df_all (by with_reducible assumption) | exact df_allm (by with_reducible assumption) (by k_mem) | refine nea_cons (by k_ne) ?_)); done)) ?_) | exact Rest.all (by with_reducible assumption) | exact Rest.all (rest_one (by with_reducible assumption)) | exact Rest.all (rest_two (by with_reducible assumption) (by with_reducible assumption)) | (with_reducible first | refine' Rest.app (by assumption) ?_ | refine' Rest.app (rest_one (by assumption)) ?_ | refine' Rest.app (rest_two (by assumption) (by assumption)) ?_ | refine' Rest.drop ?_))); done)) ?_; k_whole); intro ts' h' tk' F' N' hi'; (try simp only [List.cons_append, List.nil_append, List.append_assoc] at N'); (try k_fold); (try ((with_reducible show wpAny _ _ _ _ _ _); k_gentoks)))) | ((with_reducible show wpAny _ _ (subscriptTail _ _ (Value.ref _) (Value.int _ _)) _ _ _); first | (with_unfolding_all (refine itemT (by k_asm) (by with_reducible assumption) (by decide) (by decide) (by rfl) ?_ (by with_unfolding_all rfl); k_whole); (try ((with_reducible show wpAny _ _ _ _ _ _); k_gentoks))) | (with_unfolding_all (refine itemC (by k_asm) (by with_reducible assumption) (by decide) (by decide) (by rfl) ?_ (by with_unfolding_all rfl); k_whole); (try ((with_reducible show wpAny _ _ _ _ _ _); k_gentoks))) | (with_unfolding_all (refine itemG (by k_asm) (by k_mem) (by decide) (by decide) (by rfl) ?_ (by with_unfolding_all rfl); k_whole); (try ((with_reducible show wpAny _ _ _ _ _ _); k_gentoks)))) | ((with_reducible show wpAny _ _ (call (Value.builtin _) _) _ _ _); first | ((with_reducible show wpAny _ _ (call (Value.builtin "len") [Value.ref _]) _ _ _); with_unfolding_all (refine lenT2 (by k_asm) (by with_reducible assumption) ?_; k_whole); (try ((with_reducible show wpAny _ _ _ _ _ _); k_gentoks)))) | ((with_reducible show wpAny _ _ (exec (Stmt.For _ _ _ _ _) _) _ _ _); first | (with_unfolding_all refine' For_turns (by k_asm) ?_; (try ((with_reducible show wpAny _ _ _ _ _ _); k_gentoks)))) | (k_end; wrow_close) | walk1 | (dsimp only; walk1) | (leave1; (try dsimp only))))
  with_unfolding_all refine' iter_walks (row := row) (dx := dx) (rl := rl) (pl := pl) (tl := tl) (rk := rk) (rs := rs) (ps := ps) (n1 := n1) (n2 := n2) (n := n) (ts0 := ts) [Str.ofString "one"] (adtT (rgs ++ pgs) (ws, hc) (marks K t a) (marks K u a)) ?a1 g2 ?a2 ?a3 ?a4 hi ?_ ?_
  case a1 => rfl
  case a2 => k_asm
  case a3 => k_asm
  case a4 =>
    simp only [rowLed, List.cons_append, List.nil_append, adtT]
    ((repeat' (first | (with_reducible first | exact sub_nil | exact sub_self | refine sub_app ?_ ?_ | refine sub_cons ?_ ?_) | ((repeat with_reducible first | exact sub_self | exact sub_l sub_self | refine sub_tl ?_ | refine sub_r ?_); done) | ((with_reducible show _ ∈ _); k_mem) | (refine sub_cons (by k_mem) ?_))); done)
  · intro it oi i x ts uM h₁ tk₁ hx V o2 F1 N1
    simp only [rowLed, List.cons_append, List.nil_append] at N1
    rcases i with _ | _ | i
    · simp only [List.getElem?_cons_zero, Option.some.injEq] at hx
      subst hx
      (w_top off; repeat' (first | (k_unfold; (try dsimp only)) | ((with_reducible show wpAny _ _ (newTuple _) _ _ _); first | (k_dflt (refine newTupleM (by k_asm) (by k_asm) (by exact Nat.le_of_ble_eq_true rfl) ?_; k_whole); intro D' h' F' N' l1; (try k_sweep); (try ((with_reducible show wpAny _ _ _ _ _ _); k_gentoks)))) | ((with_reducible show wpAny _ _ (newList _) _ _ _); first | (k_dflt (refine newListM (by k_asm) (by k_asm) (by exact Nat.le_of_ble_eq_true rfl) ?_; k_whole); intro D' h' F' N' l1; (try k_sweep); (try ((with_reducible show wpAny _ _ _ _ _ _); k_gentoks)))) | ((with_reducible show wpAny _ _ (call (Value.ref _) _) _ _ _); first | ((with_reducible show wpAny _ _ (call (Value.ref 155) _) _ _ _); k_dflt (refine region_call0 (by k_asm) (by k_asm) (by k_asm) (by k_asm) (by k_asm) (by first | exact rfl | assumption) (by first | exact rm (by assumption) (by rfl) | ktr_room) (by first | exact un3 (by assumption) (by rfl) | ktr_units) (by k_mem) (by ((repeat' (first | (with_reducible first | exact Rest.nil | refine' Rest.d1 ?_ | refine' Rest.d2 ?_ | refine' Rest.d3 ?_ | refine' Rest.d4 ?_ | refine' Rest.d5 ?_ | refine' Rest.d6 ?_ | refine' Rest.d7 ?_ | refine' Rest.d8 ?_ | refine' Rest.d9 ?_ | refine' Rest.d10 ?_ | refine' Rest.d11 ?_) | (refine' Rest.keep (by ((repeat' (first | with_reducible exact nea_nil | exact df_all (by with_reducible assumption) | exact df_allm (by with_reducible assumption) (by k_mem) | refine nea_cons (by k_ne) ?_)); done)) ?_) | exact Rest.all (by with_reducible assumption) | exact Rest.all (rest_one (by with_reducible assumption)) | exact Rest.all (rest_two (by with_reducible assumption) (by with_reducible assumption)) | (with_reducible first | refine' Rest.app (by assumption) ?_ | refine' Rest.app (rest_one (by assumption)) ?_ | refine' Rest.app (rest_two (by assumption) (by assumption)) ?_ | refine' Rest.drop ?_))); done)) (by assumption) (by assumption) (by assumption) ?_; k_whole); intro x' y' tx' ty' r' h' tk' F' N' hx' hy' hy2' hr'; obtain ⟨n', hi', hn'⟩ := hr'; (try k_fold); (try ((with_reducible show wpAny _ _ _ _ _ _); k_gentoks))) | ((with_reducible show wpAny _ _ (call (Value.ref 57) _) _ _ _); k_dflt (refine region_call (by k_asm) (by k_asm) (by k_asm) (by k_asm) (by k_asm) (by first | exact rfl | assumption) (by first | exact rm (by assumption) (by rfl) | ktr_room) (by first | exact un3 (by assumption) (by rfl) | ktr_units) (by ((repeat' (first | (with_reducible first | exact sub_nil | exact sub_self | refine sub_app ?_ ?_ | refine sub_cons ?_ ?_) | ((repeat with_reducible first | exact sub_self | exact sub_l sub_self | refine sub_tl ?_ | refine sub_r ?_); done) | ((with_reducible show _ ∈ _); k_mem) | (refine sub_cons (by k_mem) ?_))); done)) (by assumption) (by assumption) (by assumption) (by assumption) (by assumption) (by (first | assumption | (simp only [adtR_length, adtT_length, stepsN_length, stepN_length, noteN_length]; assumption))) (by k_ne) (by k_ne) (by k_ne) (by k_ne) (by k_ne) (by k_ne) (by k_ne) (by k_ne) (by k_ne) (by k_ne) (by ((repeat' (first | (with_reducible first | exact Rest.nil | refine' Rest.d1 ?_ | refine' Rest.d2 ?_ | refine' Rest.d3 ?_ | refine' Rest.d4 ?_ | refine' Rest.d5 ?_ | refine' Rest.d6 ?_ | refine' Rest.d7 ?_ | refine' Rest.d8 ?_ | refine' Rest.d9 ?_ | refine' Rest.d10 ?_ | refine' Rest.d11 ?_) | (refine' Rest.keep (by ((repeat' (first | with_reducible exact nea_nil | exact df_all (by with_reducible assumption) | exact df_allm (by with_reducible assumption) (by k_mem) | refine nea_cons (by k_ne) ?_)); done)) ?_) | exact Rest.all (by with_reducible assumption) | exact Rest.all (rest_one (by with_reducible assumption)) | exact Rest.all (rest_two (by with_reducible assumption) (by with_reducible assumption)) | (with_reducible first | refine' Rest.app (by assumption) ?_ | refine' Rest.app (rest_one (by assumption)) ?_ | refine' Rest.app (rest_two (by assumption) (by assumption)) ?_ | refine' Rest.drop ?_))); done)) ?_; k_whole); intro ts' h' tk' F' N' hi'; (try simp only [List.cons_append, List.nil_append, List.append_assoc] at N'); (try k_fold); (try ((with_reducible show wpAny _ _ _ _ _ _); k_gentoks))) | ((with_reducible show wpAny _ _ (call (Value.ref 64) _) _ _ _); k_dflt (refine param_call (by k_asm) (by k_asm) (by k_asm) (by k_asm) (by k_asm) (by first | exact rfl | assumption) (by first | exact rm (by assumption) (by rfl) | ktr_room) (by first | exact un3 (by assumption) (by rfl) | ktr_units) (by ((repeat' (first | (with_reducible first | exact sub_nil | exact sub_self | refine sub_app ?_ ?_ | refine sub_cons ?_ ?_) | ((repeat with_reducible first | exact sub_self | exact sub_l sub_self | refine sub_tl ?_ | refine sub_r ?_); done) | ((with_reducible show _ ∈ _); k_mem) | (refine sub_cons (by k_mem) ?_))); done)) (by assumption) (by assumption) (by assumption) (by assumption) (by assumption) (by (first | assumption | (simp only [adtR_length, adtT_length, stepsN_length, stepN_length, noteN_length]; assumption))) (by k_ne) (by k_ne) (by k_ne) (by k_ne) (by k_ne) (by k_ne) (by k_ne) (by k_ne) (by k_ne) (by k_ne) (by ((repeat' (first | (with_reducible first | exact Rest.nil | refine' Rest.d1 ?_ | refine' Rest.d2 ?_ | refine' Rest.d3 ?_ | refine' Rest.d4 ?_ | refine' Rest.d5 ?_ | refine' Rest.d6 ?_ | refine' Rest.d7 ?_ | refine' Rest.d8 ?_ | refine' Rest.d9 ?_ | refine' Rest.d10 ?_ | refine' Rest.d11 ?_) | (refine' Rest.keep (by ((repeat' (first | with_reducible exact nea_nil | exact df_all (by with_reducible assumption) | exact df_allm (by with_reducible assumption) (by k_mem) | refine nea_cons (by k_ne) ?_)); done)) ?_) | exact Rest.all (by with_reducible assumption) | exact Rest.all (rest_one (by with_reducible assumption)) | exact Rest.all (rest_two (by with_reducible assumption) (by with_reducible assumption)) | (with_reducible first | refine' Rest.app (by assumption) ?_ | refine' Rest.app (rest_one (by assumption)) ?_ | refine' Rest.app (rest_two (by assumption) (by assumption)) ?_ | refine' Rest.drop ?_))); done)) ?_; k_whole); intro ts' h' tk' F' N' hi'; (try simp only [List.cons_append, List.nil_append, List.append_assoc] at N'); (try k_fold); (try ((with_reducible show wpAny _ _ _ _ _ _); k_gentoks))) | ((with_reducible show wpAny _ _ (call (Value.ref 29) _) _ _ _); k_dflt (first | refine within_call (b := .inn) (by k_asm) (by k_asm) (by k_asm) (by k_asm) (by k_asm) (by first | exact rfl | assumption) (by first | exact rm (by assumption) (by rfl) | ktr_room) (by first | exact un3 (by assumption) (by rfl) | ktr_units) ?_ | refine within_call (b := .co) (by k_asm) (by k_asm) (by k_asm) (by k_asm) (by k_asm) (by first | exact rfl | assumption) (by first | exact rm (by assumption) (by rfl) | ktr_room) (by first | exact un3 (by assumption) (by rfl) | ktr_units) ?_ | refine within_call (by k_asm) (by k_asm) (by k_asm) (by k_asm) (by k_asm) (by first | exact rfl | assumption) (by first | exact rm (by assumption) (by rfl) | ktr_room) (by first | exact un3 (by assumption) (by rfl) | ktr_units) ?_); k_whole; intro t' h' tk' F' N'; (try k_fold); (try ((with_reducible show wpAny _ _ _ _ _ _); k_gentoks))) | ((with_reducible first | show wpAny _ _ (call (Value.ref 78) _) _ _ _ | show wpAny _ _ (call (Value.ref 85) _) _ _ _); k_dflt (refine walk_call3 (by assumption) (by assumption) (by k_asm) (by k_asm) (by k_asm) (by k_asm) (by k_asm) (by first | exact rfl | assumption) (by first | exact rm (by assumption) (by rfl) | ktr_room) (by first | exact un3 (by assumption) (by rfl) | ktr_units) (by assumption) (by assumption) (by assumption) (by assumption) (by assumption) (by (first | assumption | (simp only [adtR_length, adtT_length, stepsN_length, stepN_length, noteN_length]; assumption))) (by ((repeat' (first | (with_reducible first | exact sub_nil | exact sub_self | refine sub_app ?_ ?_ | refine sub_cons ?_ ?_) | ((repeat with_reducible first | exact sub_self | exact sub_l sub_self | refine sub_tl ?_ | refine sub_r ?_); done) | ((with_reducible show _ ∈ _); k_mem) | (refine sub_cons (by k_mem) ?_))); done)) (by assumption) (by assumption) (by ((repeat' (first | (with_reducible first | exact Rest.nil | refine' Rest.d1 ?_ | refine' Rest.d2 ?_ | refine' Rest.d3 ?_ | refine' Rest.d4 ?_ | refine' Rest.d5 ?_ | refine' Rest.d6 ?_ | refine' Rest.d7 ?_ | refine' Rest.d8 ?_ | refine' Rest.d9 ?_ | refine' Rest.d10 ?_ | refine' Rest.d11 ?_) | (refine' Rest.keep (by ((repeat' (first | with_reducible exact nea_nil | exact df_all (by with_reducible assumption) | exact df_allm (by with_reducible assumption) (by k_mem) | refine nea_cons (by k_ne) ?_)); done)) ?_) | exact Rest.all (by with_reducible assumption) | exact Rest.all (rest_one (by with_reducible assumption)) | exact Rest.all (rest_two (by with_reducible assumption) (by with_reducible assumption)) | (with_reducible first | refine' Rest.app (by assumption) ?_ | refine' Rest.app (rest_one (by assumption)) ?_ | refine' Rest.app (rest_two (by assumption) (by assumption)) ?_ | refine' Rest.drop ?_))); done)) ?_; k_whole); intro ts' h' tk' F' N' hi'; (try simp only [List.cons_append, List.nil_append, List.append_assoc] at N'); (try k_fold); (try ((with_reducible show wpAny _ _ _ _ _ _); k_gentoks)))) | ((with_reducible show wpAny _ _ (subscriptTail _ _ (Value.ref _) (Value.int _ _)) _ _ _); first | (with_unfolding_all (refine itemT (by k_asm) (by with_reducible assumption) (by decide) (by decide) (by rfl) ?_ (by with_unfolding_all rfl); k_whole); (try ((with_reducible show wpAny _ _ _ _ _ _); k_gentoks))) | (with_unfolding_all (refine itemC (by k_asm) (by with_reducible assumption) (by decide) (by decide) (by rfl) ?_ (by with_unfolding_all rfl); k_whole); (try ((with_reducible show wpAny _ _ _ _ _ _); k_gentoks))) | (with_unfolding_all (refine itemG (by k_asm) (by k_mem) (by decide) (by decide) (by rfl) ?_ (by with_unfolding_all rfl); k_whole); (try ((with_reducible show wpAny _ _ _ _ _ _); k_gentoks)))) | ((with_reducible show wpAny _ _ (call (Value.builtin _) _) _ _ _); first | ((with_reducible show wpAny _ _ (call (Value.builtin "len") [Value.ref _]) _ _ _); with_unfolding_all (refine lenT2 (by k_asm) (by with_reducible assumption) ?_; k_whole); (try ((with_reducible show wpAny _ _ _ _ _ _); k_gentoks)))) | ((with_reducible show wpAny _ _ (exec (Stmt.For _ _ _ _ _) _) _ _ _); first | (with_unfolding_all refine' For_turns (by k_asm) ?_; (try ((with_reducible show wpAny _ _ _ _ _ _); k_gentoks)))) | (k_end; wrow_close) | walk1 | (dsimp only; walk1) | (leave1; (try dsimp only))))
      refine' walks_end (row := row) (dx := dx) (rl := rl) (pl := pl) (tl := tl) (rk := rk) (rs := rs) (ps := ps) (n1 := n1) (n2 := n2) (n := n) ?F_0 ?N_0 ?m2_0 ?m3_0 o2 ?hst_0 ?hm_0
      case hst_0 => assumption
      case F_0 => k_asm
      case N_0 => k_asm
      case m2_0 => k_mem
      case m3_0 =>
        simp only [rowLed, List.cons_append, List.nil_append]
        ((repeat' (first | (with_reducible first | exact sub_nil | exact sub_self | refine sub_app ?_ ?_ | refine sub_cons ?_ ?_) | ((repeat with_reducible first | exact sub_self | exact sub_l sub_self | refine sub_tl ?_ | refine sub_r ?_); done) | ((with_reducible show _ ∈ _); k_mem) | (refine sub_cons (by k_mem) ?_))); done)
      case hm_0 => (intro z hz'; (first | rfl | (simp only [hz', Bool.false_eq_true, if_false, if_neg (contains1 hz')])))
    · simp only [List.getElem?_cons_succ, List.getElem?_cons_zero, Option.some.injEq] at hx
      subst hx
      (w_top off; repeat' (first | (k_unfold; (try dsimp only)) | ((with_reducible show wpAny _ _ (newTuple _) _ _ _); first | (k_dflt (refine newTupleM (by k_asm) (by k_asm) (by exact Nat.le_of_ble_eq_true rfl) ?_; k_whole); intro D' h' F' N' l1; (try k_sweep); (try ((with_reducible show wpAny _ _ _ _ _ _); k_gentoks)))) | ((with_reducible show wpAny _ _ (newList _) _ _ _); first | (k_dflt (refine newListM (by k_asm) (by k_asm) (by exact Nat.le_of_ble_eq_true rfl) ?_; k_whole); intro D' h' F' N' l1; (try k_sweep); (try ((with_reducible show wpAny _ _ _ _ _ _); k_gentoks)))) | ((with_reducible show wpAny _ _ (call (Value.ref _) _) _ _ _); first | ((with_reducible show wpAny _ _ (call (Value.ref 155) _) _ _ _); k_dflt (refine region_call0 (by k_asm) (by k_asm) (by k_asm) (by k_asm) (by k_asm) (by first | exact rfl | assumption) (by first | exact rm (by assumption) (by rfl) | ktr_room) (by first | exact un3 (by assumption) (by rfl) | ktr_units) (by k_mem) (by ((repeat' (first | (with_reducible first | exact Rest.nil | refine' Rest.d1 ?_ | refine' Rest.d2 ?_ | refine' Rest.d3 ?_ | refine' Rest.d4 ?_ | refine' Rest.d5 ?_ | refine' Rest.d6 ?_ | refine' Rest.d7 ?_ | refine' Rest.d8 ?_ | refine' Rest.d9 ?_ | refine' Rest.d10 ?_ | refine' Rest.d11 ?_) | (refine' Rest.keep (by ((repeat' (first | with_reducible exact nea_nil | exact df_all (by with_reducible assumption) | exact df_allm (by with_reducible assumption) (by k_mem) | refine nea_cons (by k_ne) ?_)); done)) ?_) | exact Rest.all (by with_reducible assumption) | exact Rest.all (rest_one (by with_reducible assumption)) | exact Rest.all (rest_two (by with_reducible assumption) (by with_reducible assumption)) | (with_reducible first | refine' Rest.app (by assumption) ?_ | refine' Rest.app (rest_one (by assumption)) ?_ | refine' Rest.app (rest_two (by assumption) (by assumption)) ?_ | refine' Rest.drop ?_))); done)) (by assumption) (by assumption) (by assumption) ?_; k_whole); intro x' y' tx' ty' r' h' tk' F' N' hx' hy' hy2' hr'; obtain ⟨n', hi', hn'⟩ := hr'; (try k_fold); (try ((with_reducible show wpAny _ _ _ _ _ _); k_gentoks))) | ((with_reducible show wpAny _ _ (call (Value.ref 57) _) _ _ _); k_dflt (refine region_call (by k_asm) (by k_asm) (by k_asm) (by k_asm) (by k_asm) (by first | exact rfl | assumption) (by first | exact rm (by assumption) (by rfl) | ktr_room) (by first | exact un3 (by assumption) (by rfl) | ktr_units) (by ((repeat' (first | (with_reducible first | exact sub_nil | exact sub_self | refine sub_app ?_ ?_ | refine sub_cons ?_ ?_) | ((repeat with_reducible first | exact sub_self | exact sub_l sub_self | refine sub_tl ?_ | refine sub_r ?_); done) | ((with_reducible show _ ∈ _); k_mem) | (refine sub_cons (by k_mem) ?_))); done)) (by assumption) (by assumption) (by assumption) (by assumption) (by assumption) (by (first | assumption | (simp only [adtR_length, adtT_length, stepsN_length, stepN_length, noteN_length]; assumption))) (by k_ne) (by k_ne) (by k_ne) (by k_ne) (by k_ne) (by k_ne) (by k_ne) (by k_ne) (by k_ne) (by k_ne) (by ((repeat' (first | (with_reducible first | exact Rest.nil | refine' Rest.d1 ?_ | refine' Rest.d2 ?_ | refine' Rest.d3 ?_ | refine' Rest.d4 ?_ | refine' Rest.d5 ?_ | refine' Rest.d6 ?_ | refine' Rest.d7 ?_ | refine' Rest.d8 ?_ | refine' Rest.d9 ?_ | refine' Rest.d10 ?_ | refine' Rest.d11 ?_) | (refine' Rest.keep (by ((repeat' (first | with_reducible exact nea_nil | exact df_all (by with_reducible assumption) | exact df_allm (by with_reducible assumption) (by k_mem) | refine nea_cons (by k_ne) ?_)); done)) ?_) | exact Rest.all (by with_reducible assumption) | exact Rest.all (rest_one (by with_reducible assumption)) | exact Rest.all (rest_two (by with_reducible assumption) (by with_reducible assumption)) | (with_reducible first | refine' Rest.app (by assumption) ?_ | refine' Rest.app (rest_one (by assumption)) ?_ | refine' Rest.app (rest_two (by assumption) (by assumption)) ?_ | refine' Rest.drop ?_))); done)) ?_; k_whole); intro ts' h' tk' F' N' hi'; (try simp only [List.cons_append, List.nil_append, List.append_assoc] at N'); (try k_fold); (try ((with_reducible show wpAny _ _ _ _ _ _); k_gentoks))) | ((with_reducible show wpAny _ _ (call (Value.ref 64) _) _ _ _); k_dflt (refine param_call (by k_asm) (by k_asm) (by k_asm) (by k_asm) (by k_asm) (by first | exact rfl | assumption) (by first | exact rm (by assumption) (by rfl) | ktr_room) (by first | exact un3 (by assumption) (by rfl) | ktr_units) (by ((repeat' (first | (with_reducible first | exact sub_nil | exact sub_self | refine sub_app ?_ ?_ | refine sub_cons ?_ ?_) | ((repeat with_reducible first | exact sub_self | exact sub_l sub_self | refine sub_tl ?_ | refine sub_r ?_); done) | ((with_reducible show _ ∈ _); k_mem) | (refine sub_cons (by k_mem) ?_))); done)) (by assumption) (by assumption) (by assumption) (by assumption) (by assumption) (by (first | assumption | (simp only [adtR_length, adtT_length, stepsN_length, stepN_length, noteN_length]; assumption))) (by k_ne) (by k_ne) (by k_ne) (by k_ne) (by k_ne) (by k_ne) (by k_ne) (by k_ne) (by k_ne) (by k_ne) (by ((repeat' (first | (with_reducible first | exact Rest.nil | refine' Rest.d1 ?_ | refine' Rest.d2 ?_ | refine' Rest.d3 ?_ | refine' Rest.d4 ?_ | refine' Rest.d5 ?_ | refine' Rest.d6 ?_ | refine' Rest.d7 ?_ | refine' Rest.d8 ?_ | refine' Rest.d9 ?_ | refine' Rest.d10 ?_ | refine' Rest.d11 ?_) | (refine' Rest.keep (by ((repeat' (first | with_reducible exact nea_nil | exact df_all (by with_reducible assumption) | exact df_allm (by with_reducible assumption) (by k_mem) | refine nea_cons (by k_ne) ?_)); done)) ?_) | exact Rest.all (by with_reducible assumption) | exact Rest.all (rest_one (by with_reducible assumption)) | exact Rest.all (rest_two (by with_reducible assumption) (by with_reducible assumption)) | (with_reducible first | refine' Rest.app (by assumption) ?_ | refine' Rest.app (rest_one (by assumption)) ?_ | refine' Rest.app (rest_two (by assumption) (by assumption)) ?_ | refine' Rest.drop ?_))); done)) ?_; k_whole); intro ts' h' tk' F' N' hi'; (try simp only [List.cons_append, List.nil_append, List.append_assoc] at N'); (try k_fold); (try ((with_reducible show wpAny _ _ _ _ _ _); k_gentoks))) | ((with_reducible show wpAny _ _ (call (Value.ref 29) _) _ _ _); k_dflt (first | refine within_call (b := .inn) (by k_asm) (by k_asm) (by k_asm) (by k_asm) (by k_asm) (by first | exact rfl | assumption) (by first | exact rm (by assumption) (by rfl) | ktr_room) (by first | exact un3 (by assumption) (by rfl) | ktr_units) ?_ | refine within_call (b := .co) (by k_asm) (by k_asm) (by k_asm) (by k_asm) (by k_asm) (by first | exact rfl | assumption) (by first | exact rm (by assumption) (by rfl) | ktr_room) (by first | exact un3 (by assumption) (by rfl) | ktr_units) ?_ | refine within_call (by k_asm) (by k_asm) (by k_asm) (by k_asm) (by k_asm) (by first | exact rfl | assumption) (by first | exact rm (by assumption) (by rfl) | ktr_room) (by first | exact un3 (by assumption) (by rfl) | ktr_units) ?_); k_whole; intro t' h' tk' F' N'; (try k_fold); (try ((with_reducible show wpAny _ _ _ _ _ _); k_gentoks))) | ((with_reducible first | show wpAny _ _ (call (Value.ref 78) _) _ _ _ | show wpAny _ _ (call (Value.ref 85) _) _ _ _); k_dflt (refine walk_call3 (by assumption) (by assumption) (by k_asm) (by k_asm) (by k_asm) (by k_asm) (by k_asm) (by first | exact rfl | assumption) (by first | exact rm (by assumption) (by rfl) | ktr_room) (by first | exact un3 (by assumption) (by rfl) | ktr_units) (by assumption) (by assumption) (by assumption) (by assumption) (by assumption) (by (first | assumption | (simp only [adtR_length, adtT_length, stepsN_length, stepN_length, noteN_length]; assumption))) (by ((repeat' (first | (with_reducible first | exact sub_nil | exact sub_self | refine sub_app ?_ ?_ | refine sub_cons ?_ ?_) | ((repeat with_reducible first | exact sub_self | exact sub_l sub_self | refine sub_tl ?_ | refine sub_r ?_); done) | ((with_reducible show _ ∈ _); k_mem) | (refine sub_cons (by k_mem) ?_))); done)) (by assumption) (by assumption) (by ((repeat' (first | (with_reducible first | exact Rest.nil | refine' Rest.d1 ?_ | refine' Rest.d2 ?_ | refine' Rest.d3 ?_ | refine' Rest.d4 ?_ | refine' Rest.d5 ?_ | refine' Rest.d6 ?_ | refine' Rest.d7 ?_ | refine' Rest.d8 ?_ | refine' Rest.d9 ?_ | refine' Rest.d10 ?_ | refine' Rest.d11 ?_) | (refine' Rest.keep (by ((repeat' (first | with_reducible exact nea_nil | exact df_all (by with_reducible assumption) | exact df_allm (by with_reducible assumption) (by k_mem) | refine nea_cons (by k_ne) ?_)); done)) ?_) | exact Rest.all (by with_reducible assumption) | exact Rest.all (rest_one (by with_reducible assumption)) | exact Rest.all (rest_two (by with_reducible assumption) (by with_reducible assumption)) | (with_reducible first | refine' Rest.app (by assumption) ?_ | refine' Rest.app (rest_one (by assumption)) ?_ | refine' Rest.app (rest_two (by assumption) (by assumption)) ?_ | refine' Rest.drop ?_))); done)) ?_; k_whole); intro ts' h' tk' F' N' hi'; (try simp only [List.cons_append, List.nil_append, List.append_assoc] at N'); (try k_fold); (try ((with_reducible show wpAny _ _ _ _ _ _); k_gentoks)))) | ((with_reducible show wpAny _ _ (subscriptTail _ _ (Value.ref _) (Value.int _ _)) _ _ _); first | (with_unfolding_all (refine itemT (by k_asm) (by with_reducible assumption) (by decide) (by decide) (by rfl) ?_ (by with_unfolding_all rfl); k_whole); (try ((with_reducible show wpAny _ _ _ _ _ _); k_gentoks))) | (with_unfolding_all (refine itemC (by k_asm) (by with_reducible assumption) (by decide) (by decide) (by rfl) ?_ (by with_unfolding_all rfl); k_whole); (try ((with_reducible show wpAny _ _ _ _ _ _); k_gentoks))) | (with_unfolding_all (refine itemG (by k_asm) (by k_mem) (by decide) (by decide) (by rfl) ?_ (by with_unfolding_all rfl); k_whole); (try ((with_reducible show wpAny _ _ _ _ _ _); k_gentoks)))) | ((with_reducible show wpAny _ _ (call (Value.builtin _) _) _ _ _); first | ((with_reducible show wpAny _ _ (call (Value.builtin "len") [Value.ref _]) _ _ _); with_unfolding_all (refine lenT2 (by k_asm) (by with_reducible assumption) ?_; k_whole); (try ((with_reducible show wpAny _ _ _ _ _ _); k_gentoks)))) | ((with_reducible show wpAny _ _ (exec (Stmt.For _ _ _ _ _) _) _ _ _); first | (with_unfolding_all refine' For_turns (by k_asm) ?_; (try ((with_reducible show wpAny _ _ _ _ _ _); k_gentoks)))) | (k_end; wrow_close) | walk1 | (dsimp only; walk1) | (leave1; (try dsimp only))))
      refine' walks_end (row := row) (dx := dx) (rl := rl) (pl := pl) (tl := tl) (rk := rk) (rs := rs) (ps := ps) (n1 := n1) (n2 := n2) (n := n) ?F_1 ?N_1 ?m2_1 ?m3_1 o2 ?hst_1 ?hm_1
      case hst_1 => assumption
      case F_1 => k_asm
      case N_1 => k_asm
      case m2_1 => k_mem
      case m3_1 =>
        simp only [rowLed, List.cons_append, List.nil_append]
        ((repeat' (first | (with_reducible first | exact sub_nil | exact sub_self | refine sub_app ?_ ?_ | refine sub_cons ?_ ?_) | ((repeat with_reducible first | exact sub_self | exact sub_l sub_self | refine sub_tl ?_ | refine sub_r ?_); done) | ((with_reducible show _ ∈ _); k_mem) | (refine sub_cons (by k_mem) ?_))); done)
      case hm_1 => (intro z hz'; (first | rfl | (simp only [hz', Bool.false_eq_true, if_false, if_neg (contains1 hz')])))
    · simp at hx
  intro ts3 u3 h3 tk3 V3 F3 N3
  simp only [rowLed, List.cons_append, List.nil_append] at N3
  (w_top off; repeat' (first | (k_unfold; (try dsimp only)) | ((with_reducible show wpAny _ _ (newTuple _) _ _ _); first | (k_dflt (refine newTupleM (by k_asm) (by k_asm) (by exact Nat.le_of_ble_eq_true rfl) ?_; k_whole); intro D' h' F' N' l1; (try k_sweep); (try ((with_reducible show wpAny _ _ _ _ _ _); k_gentoks)))) | ((with_reducible show wpAny _ _ (newList _) _ _ _); first | (k_dflt (refine newListM (by k_asm) (by k_asm) (by exact Nat.le_of_ble_eq_true rfl) ?_; k_whole); intro D' h' F' N' l1; (try k_sweep); (try ((with_reducible show wpAny _ _ _ _ _ _); k_gentoks)))) | ((with_reducible show wpAny _ _ (call (Value.ref _) _) _ _ _); first | ((with_reducible show wpAny _ _ (call (Value.ref 155) _) _ _ _); k_dflt (refine region_call0 (by k_asm) (by k_asm) (by k_asm) (by k_asm) (by k_asm) (by first | exact rfl | assumption) (by first | exact rm (by assumption) (by rfl) | ktr_room) (by first | exact un3 (by assumption) (by rfl) | ktr_units) (by k_mem) (by ((repeat' (first | (with_reducible first | exact Rest.nil | refine' Rest.d1 ?_ | refine' Rest.d2 ?_ | refine' Rest.d3 ?_ | refine' Rest.d4 ?_ | refine' Rest.d5 ?_ | refine' Rest.d6 ?_ | refine' Rest.d7 ?_ | refine' Rest.d8 ?_ | refine' Rest.d9 ?_ | refine' Rest.d10 ?_ | refine' Rest.d11 ?_) | (refine' Rest.keep (by ((repeat' (first | with_reducible exact nea_nil | exact df_all (by with_reducible assumption) | exact df_allm (by with_reducible assumption) (by k_mem) | refine nea_cons (by k_ne) ?_)); done)) ?_) | exact Rest.all (by with_reducible assumption) | exact Rest.all (rest_one (by with_reducible assumption)) | exact Rest.all (rest_two (by with_reducible assumption) (by with_reducible assumption)) | (with_reducible first | refine' Rest.app (by assumption) ?_ | refine' Rest.app (rest_one (by assumption)) ?_ | refine' Rest.app (rest_two (by assumption) (by assumption)) ?_ | refine' Rest.drop ?_))); done)) (by assumption) (by assumption) (by assumption) ?_; k_whole); intro x' y' tx' ty' r' h' tk' F' N' hx' hy' hy2' hr'; obtain ⟨n', hi', hn'⟩ := hr'; (try k_fold); (try ((with_reducible show wpAny _ _ _ _ _ _); k_gentoks))) | ((with_reducible show wpAny _ _ (call (Value.ref 57) _) _ _ _); k_dflt (refine region_call (by k_asm) (by k_asm) (by k_asm) (by k_asm) (by k_asm) (by first | exact rfl | assumption) (by first | exact rm (by assumption) (by rfl) | ktr_room) (by first | exact un3 (by assumption) (by rfl) | ktr_units) (by ((repeat' (first | (with_reducible first | exact sub_nil | exact sub_self | refine sub_app ?_ ?_ | refine sub_cons ?_ ?_) | ((repeat with_reducible first | exact sub_self | exact sub_l sub_self | refine sub_tl ?_ | refine sub_r ?_); done) | ((with_reducible show _ ∈ _); k_mem) | (refine sub_cons (by k_mem) ?_))); done)) (by assumption) (by assumption) (by assumption) (by assumption) (by assumption) (by (first | assumption | (simp only [adtR_length, adtT_length, stepsN_length, stepN_length, noteN_length]; assumption))) (by k_ne) (by k_ne) (by k_ne) (by k_ne) (by k_ne) (by k_ne) (by k_ne) (by k_ne) (by k_ne) (by k_ne) (by ((repeat' (first | (with_reducible first | exact Rest.nil | refine' Rest.d1 ?_ | refine' Rest.d2 ?_ | refine' Rest.d3 ?_ | refine' Rest.d4 ?_ | refine' Rest.d5 ?_ | refine' Rest.d6 ?_ | refine' Rest.d7 ?_ | refine' Rest.d8 ?_ | refine' Rest.d9 ?_ | refine' Rest.d10 ?_ | refine' Rest.d11 ?_) | (refine' Rest.keep (by ((repeat' (first | with_reducible exact nea_nil | exact df_all (by with_reducible assumption) | exact df_allm (by with_reducible assumption) (by k_mem) | refine nea_cons (by k_ne) ?_)); done)) ?_) | exact Rest.all (by with_reducible assumption) | exact Rest.all (rest_one (by with_reducible assumption)) | exact Rest.all (rest_two (by with_reducible assumption) (by with_reducible assumption)) | (with_reducible first | refine' Rest.app (by assumption) ?_ | refine' Rest.app (rest_one (by assumption)) ?_ | refine' Rest.app (rest_two (by assumption) (by assumption)) ?_ | refine' Rest.drop ?_))); done)) ?_; k_whole); intro ts' h' tk' F' N' hi'; (try simp only [List.cons_append, List.nil_append, List.append_assoc] at N'); (try k_fold); (try ((with_reducible show wpAny _ _ _ _ _ _); k_gentoks))) | ((with_reducible show wpAny _ _ (call (Value.ref 64) _) _ _ _); k_dflt (refine param_call (by k_asm) (by k_asm) (by k_asm) (by k_asm) (by k_asm) (by first | exact rfl | assumption) (by first | exact rm (by assumption) (by rfl) | ktr_room) (by first | exact un3 (by assumption) (by rfl) | ktr_units) (by ((repeat' (first | (with_reducible first | exact sub_nil | exact sub_self | refine sub_app ?_ ?_ | refine sub_cons ?_ ?_) | ((repeat with_reducible first | exact sub_self | exact sub_l sub_self | refine sub_tl ?_ | refine sub_r ?_); done) | ((with_reducible show _ ∈ _); k_mem) | (refine sub_cons (by k_mem) ?_))); done)) (by assumption) (by assumption) (by assumption) (by assumption) (by assumption) (by (first | assumption | (simp only [adtR_length, adtT_length, stepsN_length, stepN_length, noteN_length]; assumption))) (by k_ne) (by k_ne) (by k_ne) (by k_ne) (by k_ne) (by k_ne) (by k_ne) (by k_ne) (by k_ne) (by k_ne) (by ((repeat' (first | (with_reducible first | exact Rest.nil | refine' Rest.d1 ?_ | refine' Rest.d2 ?_ | refine' Rest.d3 ?_ | refine' Rest.d4 ?_ | refine' Rest.d5 ?_ | refine' Rest.d6 ?_ | refine' Rest.d7 ?_ | refine' Rest.d8 ?_ | refine' Rest.d9 ?_ | refine' Rest.d10 ?_ | refine' Rest.d11 ?_) | (refine' Rest.keep (by ((repeat' (first | with_reducible exact nea_nil | exact df_all (by with_reducible assumption) | exact df_allm (by with_reducible assumption) (by k_mem) | refine nea_cons (by k_ne) ?_)); done)) ?_) | exact Rest.all (by with_reducible assumption) | exact Rest.all (rest_one (by with_reducible assumption)) | exact Rest.all (rest_two (by with_reducible assumption) (by with_reducible assumption)) | (with_reducible first | refine' Rest.app (by assumption) ?_ | refine' Rest.app (rest_one (by assumption)) ?_ | refine' Rest.app (rest_two (by assumption) (by assumption)) ?_ | refine' Rest.drop ?_))); done)) ?_; k_whole); intro ts' h' tk' F' N' hi'; (try simp only [List.cons_append, List.nil_append, List.append_assoc] at N'); (try k_fold); (try ((with_reducible show wpAny _ _ _ _ _ _); k_gentoks))) | ((with_reducible show wpAny _ _ (call (Value.ref 29) _) _ _ _); k_dflt (first | refine within_call (b := .inn) (by k_asm) (by k_asm) (by k_asm) (by k_asm) (by k_asm) (by first | exact rfl | assumption) (by first | exact rm (by assumption) (by rfl) | ktr_room) (by first | exact un3 (by assumption) (by rfl) | ktr_units) ?_ | refine within_call (b := .co) (by k_asm) (by k_asm) (by k_asm) (by k_asm) (by k_asm) (by first | exact rfl | assumption) (by first | exact rm (by assumption) (by rfl) | ktr_room) (by first | exact un3 (by assumption) (by rfl) | ktr_units) ?_ | refine within_call (by k_asm) (by k_asm) (by k_asm) (by k_asm) (by k_asm) (by first | exact rfl | assumption) (by first | exact rm (by assumption) (by rfl) | ktr_room) (by first | exact un3 (by assumption) (by rfl) | ktr_units) ?_); k_whole; intro t' h' tk' F' N'; (try k_fold); (try ((with_reducible show wpAny _ _ _ _ _ _); k_gentoks))) | ((with_reducible first | show wpAny _ _ (call (Value.ref 78) _) _ _ _ | show wpAny _ _ (call (Value.ref 85) _) _ _ _); k_dflt (refine walk_call3 (by assumption) (by assumption) (by k_asm) (by k_asm) (by k_asm) (by k_asm) (by k_asm) (by first | exact rfl | assumption) (by first | exact rm (by assumption) (by rfl) | ktr_room) (by first | exact un3 (by assumption) (by rfl) | ktr_units) (by assumption) (by assumption) (by assumption) (by assumption) (by assumption) (by (first | assumption | (simp only [adtR_length, adtT_length, stepsN_length, stepN_length, noteN_length]; assumption))) (by ((repeat' (first | (with_reducible first | exact sub_nil | exact sub_self | refine sub_app ?_ ?_ | refine sub_cons ?_ ?_) | ((repeat with_reducible first | exact sub_self | exact sub_l sub_self | refine sub_tl ?_ | refine sub_r ?_); done) | ((with_reducible show _ ∈ _); k_mem) | (refine sub_cons (by k_mem) ?_))); done)) (by assumption) (by assumption) (by ((repeat' (first | (with_reducible first | exact Rest.nil | refine' Rest.d1 ?_ | refine' Rest.d2 ?_ | refine' Rest.d3 ?_ | refine' Rest.d4 ?_ | refine' Rest.d5 ?_ | refine' Rest.d6 ?_ | refine' Rest.d7 ?_ | refine' Rest.d8 ?_ | refine' Rest.d9 ?_ | refine' Rest.d10 ?_ | refine' Rest.d11 ?_) | (refine' Rest.keep (by ((repeat' (first | with_reducible exact nea_nil | exact df_all (by with_reducible assumption) | exact df_allm (by with_reducible assumption) (by k_mem) | refine nea_cons (by k_ne) ?_)); done)) ?_) | exact Rest.all (by with_reducible assumption) | exact Rest.all (rest_one (by with_reducible assumption)) | exact Rest.all (rest_two (by with_reducible assumption) (by with_reducible assumption)) | (with_reducible first | refine' Rest.app (by assumption) ?_ | refine' Rest.app (rest_one (by assumption)) ?_ | refine' Rest.app (rest_two (by assumption) (by assumption)) ?_ | refine' Rest.drop ?_))); done)) ?_; k_whole); intro ts' h' tk' F' N' hi'; (try simp only [List.cons_append, List.nil_append, List.append_assoc] at N'); (try k_fold); (try ((with_reducible show wpAny _ _ _ _ _ _); k_gentoks)))) | ((with_reducible show wpAny _ _ (subscriptTail _ _ (Value.ref _) (Value.int _ _)) _ _ _); first | (with_unfolding_all (refine itemT (by k_asm) (by with_reducible assumption) (by decide) (by decide) (by rfl) ?_ (by with_unfolding_all rfl); k_whole); (try ((with_reducible show wpAny _ _ _ _ _ _); k_gentoks))) | (with_unfolding_all (refine itemC (by k_asm) (by with_reducible assumption) (by decide) (by decide) (by rfl) ?_ (by with_unfolding_all rfl); k_whole); (try ((with_reducible show wpAny _ _ _ _ _ _); k_gentoks))) | (with_unfolding_all (refine itemG (by k_asm) (by k_mem) (by decide) (by decide) (by rfl) ?_ (by with_unfolding_all rfl); k_whole); (try ((with_reducible show wpAny _ _ _ _ _ _); k_gentoks)))) | ((with_reducible show wpAny _ _ (call (Value.builtin _) _) _ _ _); first | ((with_reducible show wpAny _ _ (call (Value.builtin "len") [Value.ref _]) _ _ _); with_unfolding_all (refine lenT2 (by k_asm) (by with_reducible assumption) ?_; k_whole); (try ((with_reducible show wpAny _ _ _ _ _ _); k_gentoks)))) | ((with_reducible show wpAny _ _ (exec (Stmt.For _ _ _ _ _) _) _ _ _); first | (with_unfolding_all refine' For_turns (by k_asm) ?_; (try ((with_reducible show wpAny _ _ _ _ _ _); k_gentoks)))) | (k_end; wrow_close) | walk1 | (dsimp only; walk1) | (leave1; (try dsimp only))))
  have key : (marks K (.tup t u) a).foldl (stepN (rgs ++ pgs)) (ws, hc) = adtT (rgs ++ pgs) (ws, hc) (marks K t a) (marks K u a) 2 := by
    simp only [marks, List.foldl_append]
    rfl
  refine hret _ _ _ _ (by assumption) (by assumption) (keep_of (by assumption) (by assumption)) ⟨ts3, ?_, ?_, rfl⟩
  · rw [key]; rfl
  · rw [key]; exact V3

theorem walkA {w mean mg mb} {t u : Ty} {r1 r2 : Nm} {d : Nat} (I1 : WalkSpec w mean mg mb 78 d t) (I2 : WalkSpec w mean mg mb 78 d u) : WalkSpec w mean mg mb 85 (d + 10) (.adt r1 r2 t u) := by
  intro row dx rl pl tl rk hc rs ps ts n1 n2 n rgs pgs ws ta tw a K frz rv TI R P hl hi ap hne hod
  cases TI with
  | @adt _ q p c d' tt1 tt2 v1 v2 _ _ ty uy m1 m2 p1 nv1 p2 nv2 m3 T1 T2 =>
  unfold Sp Pg LZ
  k_fill
  intro dp un gd cn cs aa ccd cl outer A₀ base h₀ L m s Q E B F X N T hk hd hu hz hret
  obtain ⟨a1, a2, a3, a4⟩ := id ap
  simp only [rowLed, List.cons_append, List.nil_append] at N
  refine wpAny_call ?_
  k_dflt (refine code_defG (by k_asm) (by k_asm) (by k_asm) (by k_asm) (by k_asm) (by exact rfl) (by exact rfl) (by assumption) (by k_is) (by k_is) (by first | exact rm0 (by assumption) | ktr_room) (by exact BindsTo.of_eq rfl) (by exact locs rfl) ?_ (by exact rfl) (by exact rfl) (by exact rfl) (by decide); k_whole)
  intro g' L' h' FG' F' N' B' X' T' kG'
  (try dsimp only)
  (try k_fold)
  (try ((with_reducible show wpAny _ _ _ _ _ _); k_gentoks))
  have gz := walk_frz hz (by assumption) hne
  have g1 := gz.tup m1
  have g2 := gz.tup m2
  have g3 := gz.tup m3
  obtain ⟨rows, erow, edx, erl, epl, etl, od, erk, ehc, t0, t1, t2, t3, ekN, rfl, e1, hdo, e2, e3, e4⟩ := hod.env
  have ge1 := gz _ e1
  have ge2 := gz _ e2
  have ge3 := gz _ e3
  have ge4 := At.list gz e4
  have hod1 : AdtOk w frz (.ref rows) K t := .inr hod.env
  have hod2 : AdtOk w frz (.ref rows) K u := .inr hod.env
  dsimp only at ge1 ge2 ge3
  (w_top off; repeat' (first | (k_unfold; (try dsimp only)) | ((with_reducible show wpAny _ _ (newTuple _) _ _ _); first | (k_dflt (refine newTupleM (by k_asm) (by k_asm) (by exact Nat.le_of_ble_eq_true rfl) ?_; k_whole); intro D' h' F' N' l1; (try k_sweep); (try ((with_reducible show wpAny _ _ _ _ _ _); k_gentoks)))) | ((with_reducible show wpAny _ _ (newList _) _ _ _); first | (k_dflt (refine newListM (by k_asm) (by k_asm) (by exact Nat.le_of_ble_eq_true rfl) ?_; k_whole); intro D' h' F' N' l1; (try k_sweep); (try ((with_reducible show wpAny _ _ _ _ _ _); k_gentoks)))) | ((with_reducible show wpAny _ _ (call (Value.ref _) _) _ _ _); first | ((with_reducible show wpAny _ _ (call (Value.ref 155) _) _ _ _); k_dflt (refine region_call0 (by k_asm) (by k_asm) (by k_asm) (by k_asm) (by k_asm) (by first | exact rfl | assumption) (by first | exact rm (by assumption) (by rfl) | ktr_room) (by first | exact un3 (by assumption) (by rfl) | ktr_units) (by k_mem) (by ((repeat' (first | (with_reducible first | exact Rest.nil | refine' Rest.d1 ?_ | refine' Rest.d2 ?_ | refine' Rest.d3 ?_ | refine' Rest.d4 ?_ | refine' Rest.d5 ?_ | refine' Rest.d6 ?_ | refine' Rest.d7 ?_ | refine' Rest.d8 ?_ | refine' Rest.d9 ?_ | refine' Rest.d10 ?_ | refine' Rest.d11 ?_) | (refine' Rest.keep (by ((repeat' (first | with_reducible exact nea_nil | exact df_all (by with_reducible assumption) | exact df_allm (by with_reducible assumption) (by k_mem) | refine nea_cons (by k_ne) ?_)); done)) ?_) | exact Rest.all (by with_reducible assumption) | exact Rest.all (rest_one (by with_reducible assumption)) | exact Rest.all (rest_two (by with_reducible assumption) (by with_reducible assumption)) | (with_reducible first | refine' Rest.app (by assumption) ?_ | refine' Rest.app (rest_one (by assumption)) ?_ | refine' Rest.app (rest_two (by assumption) (by assumption)) ?_ | refine' Rest.drop ?_))); done)) (by assumption) (by assumption) (by assumption) ?_; k_whole); intro x' y' tx' ty' r' h' tk' F' N' hx' hy' hy2' hr'; obtain ⟨n', hi', hn'⟩ := hr'; (try k_fold); (try ((with_reducible show wpAny _ _ _ _ _ _); k_gentoks))) | ((with_reducible show wpAny _ _ (call (Value.ref 57) _) _ _ _); k_dflt (refine region_call (by k_asm) (by k_asm) (by k_asm) (by k_asm) (by k_asm) (by first | exact rfl | assumption) (by first | exact rm (by assumption) (by rfl) | ktr_room) (by first | exact un3 (by assumption) (by rfl) | ktr_units) (by ((repeat' (first | (with_reducible first | exact sub_nil | exact sub_self | refine sub_app ?_ ?_ | refine sub_cons ?_ ?_) | ((repeat with_reducible first | exact sub_self | exact sub_l sub_self | refine sub_tl ?_ | refine sub_r ?_); done) | ((with_reducible show _ ∈ _); k_mem) | (refine sub_cons (by k_mem) ?_))); done)) (by assumption) (by assumption) (by assumption) (by assumption) (by assumption) (by (first | assumption | (simp only [adtR_length, adtT_length, stepsN_length, stepN_length, noteN_length]; assumption))) (by k_ne) (by k_ne) (by k_ne) (by k_ne) (by k_ne) (by k_ne) (by k_ne) (by k_ne) (by k_ne) (by k_ne) (by ((repeat' (first | (with_reducible first | exact Rest.nil | refine' Rest.d1 ?_ | refine' Rest.d2 ?_ | refine' Rest.d3 ?_ | refine' Rest.d4 ?_ | refine' Rest.d5 ?_ | refine' Rest.d6 ?_ | refine' Rest.d7 ?_ | refine' Rest.d8 ?_ | refine' Rest.d9 ?_ | refine' Rest.d10 ?_ | refine' Rest.d11 ?_) | (refine' Rest.keep (by ((repeat' (first | with_reducible exact nea_nil | exact df_all (by with_reducible assumption) | exact df_allm (by with_reducible assumption) (by k_mem) | refine nea_cons (by k_ne) ?_)); done)) ?_) | exact Rest.all (by with_reducible assumption) | exact Rest.all (rest_one (by with_reducible assumption)) | exact Rest.all (rest_two (by with_reducible assumption) (by with_reducible assumption)) | (with_reducible first | refine' Rest.app (by assumption) ?_ | refine' Rest.app (rest_one (by assumption)) ?_ | refine' Rest.app (rest_two (by assumption) (by assumption)) ?_ | refine' Rest.drop ?_))); done)) ?_; k_whole); intro ts' h' tk' F' N' hi'; (try simp only [List.cons_append, List.nil_append, List.append_assoc] at N'); (try k_fold); (try ((with_reducible show wpAny _ _ _ _ _ _); k_gentoks))) | ((with_reducible show wpAny _ _ (call (Value.ref 64) _) _ _ _); k_dflt (refine param_call (by k_asm) (by k_asm) (by k_asm) (by k_asm) (by k_asm) (by first | exact rfl | assumption) (by first | exact rm (by assumption) (by rfl) | ktr_room) (by first | exact un3 (by assumption) (by rfl) | ktr_units) (by ((repeat' (first | (with_reducible first | exact sub_nil | exact sub_self | refine sub_app ?_ ?_ | refine sub_cons ?_ ?_) | ((repeat with_reducible first | exact sub_self | exact sub_l sub_self | refine sub_tl ?_ | refine sub_r ?_); done) | ((with_reducible show _ ∈ _); k_mem) | (refine sub_cons (by k_mem) ?_))); done)) (by assumption) (by assumption) (by assumption) (by assumption) (by assumption) (by (first | assumption | (simp only [adtR_length, adtT_length, stepsN_length, stepN_length, noteN_length]; assumption))) (by k_ne) (by k_ne) (by k_ne) (by k_ne) (by k_ne) (by k_ne) (by k_ne) (by k_ne) (by k_ne) (by k_ne) (by ((repeat' (first | (with_reducible first | exact Rest.nil | refine' Rest.d1 ?_ | refine' Rest.d2 ?_ | refine' Rest.d3 ?_ | refine' Rest.d4 ?_ | refine' Rest.d5 ?_ | refine' Rest.d6 ?_ | refine' Rest.d7 ?_ | refine' Rest.d8 ?_ | refine' Rest.d9 ?_ | refine' Rest.d10 ?_ | refine' Rest.d11 ?_) | (refine' Rest.keep (by ((repeat' (first | with_reducible exact nea_nil | exact df_all (by with_reducible assumption) | exact df_allm (by with_reducible assumption) (by k_mem) | refine nea_cons (by k_ne) ?_)); done)) ?_) | exact Rest.all (by with_reducible assumption) | exact Rest.all (rest_one (by with_reducible assumption)) | exact Rest.all (rest_two (by with_reducible assumption) (by with_reducible assumption)) | (with_reducible first | refine' Rest.app (by assumption) ?_ | refine' Rest.app (rest_one (by assumption)) ?_ | refine' Rest.app (rest_two (by assumption) (by assumption)) ?_ | refine' Rest.drop ?_))); done)) ?_; k_whole); intro ts' h' tk' F' N' hi'; (try simp only [List.cons_append, List.nil_append, List.append_assoc] at N'); (try k_fold); (try ((with_reducible show wpAny _ _ _ _ _ _); k_gentoks))) | ((with_reducible show wpAny _ _ (call (Value.ref 29) _) _ _ _); k_dflt (first | refine within_call (b := .inn) (by k_asm) (by k_asm) (by k_asm) (by k_asm) (by k_asm) (by first | exact rfl | assumption) (by first | exact rm (by assumption) (by rfl) | ktr_room) (by first | exact un3 (by assumption) (by rfl) | ktr_units) ?_ | refine within_call (b := .co) (by k_asm) (by k_asm) (by k_asm) (by k_asm) (by k_asm) (by first | exact rfl | assumption) (by first | exact rm (by assumption) (by rfl) | ktr_room) (by first | exact un3 (by assumption) (by rfl) | ktr_units) ?_ | refine within_call (by k_asm) (by k_asm) (by k_asm) (by k_asm) (by k_asm) (by first | exact rfl | assumption) (by first | exact rm (by assumption) (by rfl) | ktr_room) (by first | exact un3 (by assumption) (by rfl) | ktr_units) ?_); k_whole; intro t' h' tk' F' N'; (try k_fold); (try ((with_reducible show wpAny _ _ _ _ _ _); k_gentoks))) | ((with_reducible first | show wpAny _ _ (call (Value.ref 78) _) _ _ _ | show wpAny _ _ (call (Value.ref 85) _) _ _ _); k_dflt (refine walk_call3 (by assumption) (by assumption) (by k_asm) (by k_asm) (by k_asm) (by k_asm) (by k_asm) (by first | exact rfl | assumption) (by first | exact rm (by assumption) (by rfl) | ktr_room) (by first | exact un3 (by assumption) (by rfl) | ktr_units) (by assumption) (by assumption) (by assumption) (by assumption) (by assumption) (by (first | assumption | (simp only [adtR_length, adtT_length, stepsN_length, stepN_length, noteN_length]; assumption))) (by ((repeat' (first | (with_reducible first | exact sub_nil | exact sub_self | refine sub_app ?_ ?_ | refine sub_cons ?_ ?_) | ((repeat with_reducible first | exact sub_self | exact sub_l sub_self | refine sub_tl ?_ | refine sub_r ?_); done) | ((with_reducible show _ ∈ _); k_mem) | (refine sub_cons (by k_mem) ?_))); done)) (by assumption) (by assumption) (by ((repeat' (first | (with_reducible first | exact Rest.nil | refine' Rest.d1 ?_ | refine' Rest.d2 ?_ | refine' Rest.d3 ?_ | refine' Rest.d4 ?_ | refine' Rest.d5 ?_ | refine' Rest.d6 ?_ | refine' Rest.d7 ?_ | refine' Rest.d8 ?_ | refine' Rest.d9 ?_ | refine' Rest.d10 ?_ | refine' Rest.d11 ?_) | (refine' Rest.keep (by ((repeat' (first | with_reducible exact nea_nil | exact df_all (by with_reducible assumption) | exact df_allm (by with_reducible assumption) (by k_mem) | refine nea_cons (by k_ne) ?_)); done)) ?_) | exact Rest.all (by with_reducible assumption) | exact Rest.all (rest_one (by with_reducible assumption)) | exact Rest.all (rest_two (by with_reducible assumption) (by with_reducible assumption)) | (with_reducible first | refine' Rest.app (by assumption) ?_ | refine' Rest.app (rest_one (by assumption)) ?_ | refine' Rest.app (rest_two (by assumption) (by assumption)) ?_ | refine' Rest.drop ?_))); done)) ?_; k_whole); intro ts' h' tk' F' N' hi'; (try simp only [List.cons_append, List.nil_append, List.append_assoc] at N'); (try k_fold); (try ((with_reducible show wpAny _ _ _ _ _ _); k_gentoks)))) | ((with_reducible show wpAny _ _ (subscriptTail _ _ (Value.ref _) (Value.int _ _)) _ _ _); first | (with_unfolding_all (refine itemT (by k_asm) (by with_reducible assumption) (by decide) (by decide) (by rfl) ?_ (by with_unfolding_all rfl); k_whole); (try ((with_reducible show wpAny _ _ _ _ _ _); k_gentoks))) | (with_unfolding_all (refine itemC (by k_asm) (by with_reducible assumption) (by decide) (by decide) (by rfl) ?_ (by with_unfolding_all rfl); k_whole); (try ((with_reducible show wpAny _ _ _ _ _ _); k_gentoks)))) | ((with_reducible show wpAny _ _ (call (Value.builtin _) _) _ _ _); first | ((with_reducible show wpAny _ _ (call (Value.builtin "len") [Value.ref _]) _ _ _); with_unfolding_all (refine lenT2 (by k_asm) (by with_reducible assumption) ?_; k_whole); (try ((with_reducible show wpAny _ _ _ _ _ _); k_gentoks)))) | ((with_reducible show wpAny _ _ (exec (Stmt.For _ _ _ _ _) _) _ _ _); first | (with_unfolding_all refine' For_turns (by k_asm) ?_; (try ((with_reducible show wpAny _ _ _ _ _ _); k_gentoks)))) | ((with_reducible show wpAny _ _ (subscriptTail _ _ (Value.ref _) (Value.str _ _)) _ _ _); first | (k_dflt (refine dictB (by k_asm) (by with_reducible assumption) (by assumption) ?_ (by with_unfolding_all rfl) (by intro _; with_unfolding_all rfl); k_whole); (try ((with_reducible show wpAny _ _ _ _ _ _); k_gentoks)))) | ((with_reducible show wpAny _ _ (getAttr (Value.ref _) _ _) _ _ _); first | (k_dflt (refine get_own (by k_asm) (by k_asm) (instB (by k_asm) (by with_reducible assumption) (by with_reducible assumption)) (by k_is) (by k_is) (by k_is) (by k_is) (by k_get) (by k_handed) ?_; k_whole); (try ((with_reducible show wpAny _ _ _ _ _ _); k_gentoks)))) | (k_end; wrow_close) | walk1 | (dsimp only; walk1) | (leave1; (try dsimp only))))
  with_unfolding_all refine' iter_marks (row := row) (dx := dx) (rl := rl) (pl := pl) (tl := tl) (rk := rk) (rs := rs) (ps := ps) (n1 := n1) (n2 := n2) (n := n) (ts0 := ts) [Str.ofString "at", Str.ofString "region", Str.ofString "inner"] (adtR (rgs ++ pgs) (ws, hc) (r1, a.mul K.k0) (r2, a.mul K.k1)) ?a1 g2 ?a2 ?a3 ?a4 hi ?_ ?_
  case a1 => rfl
  case a2 => k_asm
  case a3 => k_asm
  case a4 =>
    simp only [rowLed, List.cons_append, List.nil_append, adtR]
    ((repeat' (first | (with_reducible first | exact sub_nil | exact sub_self | refine sub_app ?_ ?_ | refine sub_cons ?_ ?_) | ((repeat with_reducible first | exact sub_self | exact sub_l sub_self | refine sub_tl ?_ | refine sub_r ?_); done) | ((with_reducible show _ ∈ _); k_mem) | (refine sub_cons (by k_mem) ?_))); done)
  · intro e it oe oi i T tT x ts uM h₁ tk₁ hx hT V o1 o2 F1 N1
    simp only [rowLed, List.cons_append, List.nil_append] at N1
    rcases i with _ | _ | i
    · simp only [List.getElem?_cons_zero, Option.some.injEq] at hx
      subst hx
      (w_top off; repeat' (first | (k_unfold; (try dsimp only)) | ((with_reducible show wpAny _ _ (newTuple _) _ _ _); first | (k_dflt (refine newTupleM (by k_asm) (by k_asm) (by exact Nat.le_of_ble_eq_true rfl) ?_; k_whole); intro D' h' F' N' l1; (try k_sweep); (try ((with_reducible show wpAny _ _ _ _ _ _); k_gentoks)))) | ((with_reducible show wpAny _ _ (newList _) _ _ _); first | (k_dflt (refine newListM (by k_asm) (by k_asm) (by exact Nat.le_of_ble_eq_true rfl) ?_; k_whole); intro D' h' F' N' l1; (try k_sweep); (try ((with_reducible show wpAny _ _ _ _ _ _); k_gentoks)))) | ((with_reducible show wpAny _ _ (call (Value.ref _) _) _ _ _); first | ((with_reducible show wpAny _ _ (call (Value.ref 155) _) _ _ _); k_dflt (refine region_call0 (by k_asm) (by k_asm) (by k_asm) (by k_asm) (by k_asm) (by first | exact rfl | assumption) (by first | exact rm (by assumption) (by rfl) | ktr_room) (by first | exact un3 (by assumption) (by rfl) | ktr_units) (by k_mem) (by ((repeat' (first | (with_reducible first | exact Rest.nil | refine' Rest.d1 ?_ | refine' Rest.d2 ?_ | refine' Rest.d3 ?_ | refine' Rest.d4 ?_ | refine' Rest.d5 ?_ | refine' Rest.d6 ?_ | refine' Rest.d7 ?_ | refine' Rest.d8 ?_ | refine' Rest.d9 ?_ | refine' Rest.d10 ?_ | refine' Rest.d11 ?_) | (refine' Rest.keep (by ((repeat' (first | with_reducible exact nea_nil | exact df_all (by with_reducible assumption) | exact df_allm (by with_reducible assumption) (by k_mem) | refine nea_cons (by k_ne) ?_)); done)) ?_) | exact Rest.all (by with_reducible assumption) | exact Rest.all (rest_one (by with_reducible assumption)) | exact Rest.all (rest_two (by with_reducible assumption) (by with_reducible assumption)) | (with_reducible first | refine' Rest.app (by assumption) ?_ | refine' Rest.app (rest_one (by assumption)) ?_ | refine' Rest.app (rest_two (by assumption) (by assumption)) ?_ | refine' Rest.drop ?_))); done)) (by assumption) (by assumption) (by assumption) ?_; k_whole); intro x' y' tx' ty' r' h' tk' F' N' hx' hy' hy2' hr'; obtain ⟨n', hi', hn'⟩ := hr'; (try k_fold); (try ((with_reducible show wpAny _ _ _ _ _ _); k_gentoks))) | ((with_reducible show wpAny _ _ (call (Value.ref 57) _) _ _ _); k_dflt (refine region_call (by k_asm) (by k_asm) (by k_asm) (by k_asm) (by k_asm) (by first | exact rfl | assumption) (by first | exact rm (by assumption) (by rfl) | ktr_room) (by first | exact un3 (by assumption) (by rfl) | ktr_units) (by ((repeat' (first | (with_reducible first | exact sub_nil | exact sub_self | refine sub_app ?_ ?_ | refine sub_cons ?_ ?_) | ((repeat with_reducible first | exact sub_self | exact sub_l sub_self | refine sub_tl ?_ | refine sub_r ?_); done) | ((with_reducible show _ ∈ _); k_mem) | (refine sub_cons (by k_mem) ?_))); done)) (by assumption) (by assumption) (by assumption) (by assumption) (by assumption) (by (first | assumption | (simp only [adtR_length, adtT_length, stepsN_length, stepN_length, noteN_length]; assumption))) (by k_ne) (by k_ne) (by k_ne) (by k_ne) (by k_ne) (by k_ne) (by k_ne) (by k_ne) (by k_ne) (by k_ne) (by ((repeat' (first | (with_reducible first | exact Rest.nil | refine' Rest.d1 ?_ | refine' Rest.d2 ?_ | refine' Rest.d3 ?_ | refine' Rest.d4 ?_ | refine' Rest.d5 ?_ | refine' Rest.d6 ?_ | refine' Rest.d7 ?_ | refine' Rest.d8 ?_ | refine' Rest.d9 ?_ | refine' Rest.d10 ?_ | refine' Rest.d11 ?_) | (refine' Rest.keep (by ((repeat' (first | with_reducible exact nea_nil | exact df_all (by with_reducible assumption) | exact df_allm (by with_reducible assumption) (by k_mem) | refine nea_cons (by k_ne) ?_)); done)) ?_) | exact Rest.all (by with_reducible assumption) | exact Rest.all (rest_one (by with_reducible assumption)) | exact Rest.all (rest_two (by with_reducible assumption) (by with_reducible assumption)) | (with_reducible first | refine' Rest.app (by assumption) ?_ | refine' Rest.app (rest_one (by assumption)) ?_ | refine' Rest.app (rest_two (by assumption) (by assumption)) ?_ | refine' Rest.drop ?_))); done)) ?_; k_whole); intro ts' h' tk' F' N' hi'; (try simp only [List.cons_append, List.nil_append, List.append_assoc] at N'); (try k_fold); (try ((with_reducible show wpAny _ _ _ _ _ _); k_gentoks))) | ((with_reducible show wpAny _ _ (call (Value.ref 64) _) _ _ _); k_dflt (refine param_call (by k_asm) (by k_asm) (by k_asm) (by k_asm) (by k_asm) (by first | exact rfl | assumption) (by first | exact rm (by assumption) (by rfl) | ktr_room) (by first | exact un3 (by assumption) (by rfl) | ktr_units) (by ((repeat' (first | (with_reducible first | exact sub_nil | exact sub_self | refine sub_app ?_ ?_ | refine sub_cons ?_ ?_) | ((repeat with_reducible first | exact sub_self | exact sub_l sub_self | refine sub_tl ?_ | refine sub_r ?_); done) | ((with_reducible show _ ∈ _); k_mem) | (refine sub_cons (by k_mem) ?_))); done)) (by assumption) (by assumption) (by assumption) (by assumption) (by assumption) (by (first | assumption | (simp only [adtR_length, adtT_length, stepsN_length, stepN_length, noteN_length]; assumption))) (by k_ne) (by k_ne) (by k_ne) (by k_ne) (by k_ne) (by k_ne) (by k_ne) (by k_ne) (by k_ne) (by k_ne) (by ((repeat' (first | (with_reducible first | exact Rest.nil | refine' Rest.d1 ?_ | refine' Rest.d2 ?_ | refine' Rest.d3 ?_ | refine' Rest.d4 ?_ | refine' Rest.d5 ?_ | refine' Rest.d6 ?_ | refine' Rest.d7 ?_ | refine' Rest.d8 ?_ | refine' Rest.d9 ?_ | refine' Rest.d10 ?_ | refine' Rest.d11 ?_) | (refine' Rest.keep (by ((repeat' (first | with_reducible exact nea_nil | exact df_all (by with_reducible assumption) | exact df_allm (by with_reducible assumption) (by k_mem) | refine nea_cons (by k_ne) ?_)); done)) ?_) | exact Rest.all (by with_reducible assumption) | exact Rest.all (rest_one (by with_reducible assumption)) | exact Rest.all (rest_two (by with_reducible assumption) (by with_reducible assumption)) | (with_reducible first | refine' Rest.app (by assumption) ?_ | refine' Rest.app (rest_one (by assumption)) ?_ | refine' Rest.app (rest_two (by assumption) (by assumption)) ?_ | refine' Rest.drop ?_))); done)) ?_; k_whole); intro ts' h' tk' F' N' hi'; (try simp only [List.cons_append, List.nil_append, List.append_assoc] at N'); (try k_fold); (try ((with_reducible show wpAny _ _ _ _ _ _); k_gentoks))) | ((with_reducible show wpAny _ _ (call (Value.ref 29) _) _ _ _); k_dflt (first | refine within_call (b := .inn) (by k_asm) (by k_asm) (by k_asm) (by k_asm) (by k_asm) (by first | exact rfl | assumption) (by first | exact rm (by assumption) (by rfl) | ktr_room) (by first | exact un3 (by assumption) (by rfl) | ktr_units) ?_ | refine within_call (b := .co) (by k_asm) (by k_asm) (by k_asm) (by k_asm) (by k_asm) (by first | exact rfl | assumption) (by first | exact rm (by assumption) (by rfl) | ktr_room) (by first | exact un3 (by assumption) (by rfl) | ktr_units) ?_ | refine within_call (by k_asm) (by k_asm) (by k_asm) (by k_asm) (by k_asm) (by first | exact rfl | assumption) (by first | exact rm (by assumption) (by rfl) | ktr_room) (by first | exact un3 (by assumption) (by rfl) | ktr_units) ?_); k_whole; intro t' h' tk' F' N'; (try k_fold); (try ((with_reducible show wpAny _ _ _ _ _ _); k_gentoks))) | ((with_reducible first | show wpAny _ _ (call (Value.ref 78) _) _ _ _ | show wpAny _ _ (call (Value.ref 85) _) _ _ _); k_dflt (refine walk_call3 (by assumption) (by assumption) (by k_asm) (by k_asm) (by k_asm) (by k_asm) (by k_asm) (by first | exact rfl | assumption) (by first | exact rm (by assumption) (by rfl) | ktr_room) (by first | exact un3 (by assumption) (by rfl) | ktr_units) (by assumption) (by assumption) (by assumption) (by assumption) (by assumption) (by (first | assumption | (simp only [adtR_length, adtT_length, stepsN_length, stepN_length, noteN_length]; assumption))) (by ((repeat' (first | (with_reducible first | exact sub_nil | exact sub_self | refine sub_app ?_ ?_ | refine sub_cons ?_ ?_) | ((repeat with_reducible first | exact sub_self | exact sub_l sub_self | refine sub_tl ?_ | refine sub_r ?_); done) | ((with_reducible show _ ∈ _); k_mem) | (refine sub_cons (by k_mem) ?_))); done)) (by assumption) (by assumption) (by ((repeat' (first | (with_reducible first | exact Rest.nil | refine' Rest.d1 ?_ | refine' Rest.d2 ?_ | refine' Rest.d3 ?_ | refine' Rest.d4 ?_ | refine' Rest.d5 ?_ | refine' Rest.d6 ?_ | refine' Rest.d7 ?_ | refine' Rest.d8 ?_ | refine' Rest.d9 ?_ | refine' Rest.d10 ?_ | refine' Rest.d11 ?_) | (refine' Rest.keep (by ((repeat' (first | with_reducible exact nea_nil | exact df_all (by with_reducible assumption) | exact df_allm (by with_reducible assumption) (by k_mem) | refine nea_cons (by k_ne) ?_)); done)) ?_) | exact Rest.all (by with_reducible assumption) | exact Rest.all (rest_one (by with_reducible assumption)) | exact Rest.all (rest_two (by with_reducible assumption) (by with_reducible assumption)) | (with_reducible first | refine' Rest.app (by assumption) ?_ | refine' Rest.app (rest_one (by assumption)) ?_ | refine' Rest.app (rest_two (by assumption) (by assumption)) ?_ | refine' Rest.drop ?_))); done)) ?_; k_whole); intro ts' h' tk' F' N' hi'; (try simp only [List.cons_append, List.nil_append, List.append_assoc] at N'); (try k_fold); (try ((with_reducible show wpAny _ _ _ _ _ _); k_gentoks)))) | ((with_reducible show wpAny _ _ (subscriptTail _ _ (Value.ref _) (Value.int _ _)) _ _ _); first | (with_unfolding_all (refine itemT (by k_asm) (by with_reducible assumption) (by decide) (by decide) (by rfl) ?_ (by with_unfolding_all rfl); k_whole); (try ((with_reducible show wpAny _ _ _ _ _ _); k_gentoks))) | (with_unfolding_all (refine itemC (by k_asm) (by with_reducible assumption) (by decide) (by decide) (by rfl) ?_ (by with_unfolding_all rfl); k_whole); (try ((with_reducible show wpAny _ _ _ _ _ _); k_gentoks)))) | ((with_reducible show wpAny _ _ (call (Value.builtin _) _) _ _ _); first | ((with_reducible show wpAny _ _ (call (Value.builtin "len") [Value.ref _]) _ _ _); with_unfolding_all (refine lenT2 (by k_asm) (by with_reducible assumption) ?_; k_whole); (try ((with_reducible show wpAny _ _ _ _ _ _); k_gentoks)))) | ((with_reducible show wpAny _ _ (exec (Stmt.For _ _ _ _ _) _) _ _ _); first | (with_unfolding_all refine' For_turns (by k_asm) ?_; (try ((with_reducible show wpAny _ _ _ _ _ _); k_gentoks)))) | ((with_reducible show wpAny _ _ (subscriptTail _ _ (Value.ref _) (Value.str _ _)) _ _ _); first | (k_dflt (refine dictB (by k_asm) (by with_reducible assumption) (by assumption) ?_ (by with_unfolding_all rfl) (by intro _; with_unfolding_all rfl); k_whole); (try ((with_reducible show wpAny _ _ _ _ _ _); k_gentoks)))) | ((with_reducible show wpAny _ _ (getAttr (Value.ref _) _ _) _ _ _); first | (k_dflt (refine get_own (by k_asm) (by k_asm) (instB (by k_asm) (by with_reducible assumption) (by with_reducible assumption)) (by k_is) (by k_is) (by k_is) (by k_is) (by k_get) (by k_handed) ?_; k_whole); (try ((with_reducible show wpAny _ _ _ _ _ _); k_gentoks)))) | (k_end; wrow_close) | walk1 | (dsimp only; walk1) | (leave1; (try dsimp only))))
      · refine' marks_end (row := row) (dx := dx) (rl := rl) (pl := pl) (tl := tl) (rk := rk) (rs := rs) (ps := ps) (n1 := n1) (n2 := n2) (n := n) ?F_0 ?N_0 ?m1_0 ?m2_0 ?m3_0 o1 o2 ?hst_0 ?hm_0
        case hst_0 => assumption
        case F_0 => k_asm
        case N_0 => k_asm
        case m1_0 => k_mem
        case m2_0 => k_mem
        case m3_0 =>
          simp only [rowLed, List.cons_append, List.nil_append]
          ((repeat' (first | (with_reducible first | exact sub_nil | exact sub_self | refine sub_app ?_ ?_ | refine sub_cons ?_ ?_) | ((repeat with_reducible first | exact sub_self | exact sub_l sub_self | refine sub_tl ?_ | refine sub_r ?_); done) | ((with_reducible show _ ∈ _); k_mem) | (refine sub_cons (by k_mem) ?_))); done)
        case hm_0 => (intro z hz'; (first | rfl | (simp only [contains3 hz', hz', Bool.false_eq_true, if_false, if_neg (contains3 hz').1, if_neg (contains3 hz').2.1, if_neg (contains3 hz').2.2])))
      · have z9 := way_bi (by assumption)
        rw [show adtR (rgs ++ pgs) (ws, hc) (r1, a.mul K.k0) (r2, a.mul K.k1) (0 + 1) = (ws, hc) by rw [z9]; exact stepN_bi ..]
        refine' marks_end (row := row) (dx := dx) (rl := rl) (pl := pl) (tl := tl) (rk := rk) (rs := rs) (ps := ps) (n1 := n1) (n2 := n2) (n := n) ?F_1 ?N_1 ?m1_1 ?m2_1 ?m3_1 o1 o2 ?hst_1 ?hm_1
        case hst_1 => exact V
        case F_1 => k_asm
        case N_1 => k_asm
        case m1_1 => k_mem
        case m2_1 => k_mem
        case m3_1 =>
          simp only [rowLed, List.cons_append, List.nil_append]
          ((repeat' (first | (with_reducible first | exact sub_nil | exact sub_self | refine sub_app ?_ ?_ | refine sub_cons ?_ ?_) | ((repeat with_reducible first | exact sub_self | exact sub_l sub_self | refine sub_tl ?_ | refine sub_r ?_); done) | ((with_reducible show _ ∈ _); k_mem) | (refine sub_cons (by k_mem) ?_))); done)
        case hm_1 => (intro z hz'; (first | rfl | (simp only [contains3 hz', hz', Bool.false_eq_true, if_false, if_neg (contains3 hz').1, if_neg (contains3 hz').2.1, if_neg (contains3 hz').2.2])))
    · simp only [List.getElem?_cons_succ, List.getElem?_cons_zero, Option.some.injEq] at hx
      subst hx
      (w_top off; repeat' (first | (k_unfold; (try dsimp only)) | ((with_reducible show wpAny _ _ (newTuple _) _ _ _); first | (k_dflt (refine newTupleM (by k_asm) (by k_asm) (by exact Nat.le_of_ble_eq_true rfl) ?_; k_whole); intro D' h' F' N' l1; (try k_sweep); (try ((with_reducible show wpAny _ _ _ _ _ _); k_gentoks)))) | ((with_reducible show wpAny _ _ (newList _) _ _ _); first | (k_dflt (refine newListM (by k_asm) (by k_asm) (by exact Nat.le_of_ble_eq_true rfl) ?_; k_whole); intro D' h' F' N' l1; (try k_sweep); (try ((with_reducible show wpAny _ _ _ _ _ _); k_gentoks)))) | ((with_reducible show wpAny _ _ (call (Value.ref _) _) _ _ _); first | ((with_reducible show wpAny _ _ (call (Value.ref 155) _) _ _ _); k_dflt (refine region_call0 (by k_asm) (by k_asm) (by k_asm) (by k_asm) (by k_asm) (by first | exact rfl | assumption) (by first | exact rm (by assumption) (by rfl) | ktr_room) (by first | exact un3 (by assumption) (by rfl) | ktr_units) (by k_mem) (by ((repeat' (first | (with_reducible first | exact Rest.nil | refine' Rest.d1 ?_ | refine' Rest.d2 ?_ | refine' Rest.d3 ?_ | refine' Rest.d4 ?_ | refine' Rest.d5 ?_ | refine' Rest.d6 ?_ | refine' Rest.d7 ?_ | refine' Rest.d8 ?_ | refine' Rest.d9 ?_ | refine' Rest.d10 ?_ | refine' Rest.d11 ?_) | (refine' Rest.keep (by ((repeat' (first | with_reducible exact nea_nil | exact df_all (by with_reducible assumption) | exact df_allm (by with_reducible assumption) (by k_mem) | refine nea_cons (by k_ne) ?_)); done)) ?_) | exact Rest.all (by with_reducible assumption) | exact Rest.all (rest_one (by with_reducible assumption)) | exact Rest.all (rest_two (by with_reducible assumption) (by with_reducible assumption)) | (with_reducible first | refine' Rest.app (by assumption) ?_ | refine' Rest.app (rest_one (by assumption)) ?_ | refine' Rest.app (rest_two (by assumption) (by assumption)) ?_ | refine' Rest.drop ?_))); done)) (by assumption) (by assumption) (by assumption) ?_; k_whole); intro x' y' tx' ty' r' h' tk' F' N' hx' hy' hy2' hr'; obtain ⟨n', hi', hn'⟩ := hr'; (try k_fold); (try ((with_reducible show wpAny _ _ _ _ _ _); k_gentoks))) | ((with_reducible show wpAny _ _ (call (Value.ref 57) _) _ _ _); k_dflt (refine region_call (by k_asm) (by k_asm) (by k_asm) (by k_asm) (by k_asm) (by first | exact rfl | assumption) (by first | exact rm (by assumption) (by rfl) | ktr_room) (by first | exact un3 (by assumption) (by rfl) | ktr_units) (by ((repeat' (first | (with_reducible first | exact sub_nil | exact sub_self | refine sub_app ?_ ?_ | refine sub_cons ?_ ?_) | ((repeat with_reducible first | exact sub_self | exact sub_l sub_self | refine sub_tl ?_ | refine sub_r ?_); done) | ((with_reducible show _ ∈ _); k_mem) | (refine sub_cons (by k_mem) ?_))); done)) (by assumption) (by assumption) (by assumption) (by assumption) (by assumption) (by (first | assumption | (simp only [adtR_length, adtT_length, stepsN_length, stepN_length, noteN_length]; assumption))) (by k_ne) (by k_ne) (by k_ne) (by k_ne) (by k_ne) (by k_ne) (by k_ne) (by k_ne) (by k_ne) (by k_ne) (by ((repeat' (first | (with_reducible first | exact Rest.nil | refine' Rest.d1 ?_ | refine' Rest.d2 ?_ | refine' Rest.d3 ?_ | refine' Rest.d4 ?_ | refine' Rest.d5 ?_ | refine' Rest.d6 ?_ | refine' Rest.d7 ?_ | refine' Rest.d8 ?_ | refine' Rest.d9 ?_ | refine' Rest.d10 ?_ | refine' Rest.d11 ?_) | (refine' Rest.keep (by ((repeat' (first | with_reducible exact nea_nil | exact df_all (by with_reducible assumption) | exact df_allm (by with_reducible assumption) (by k_mem) | refine nea_cons (by k_ne) ?_)); done)) ?_) | exact Rest.all (by with_reducible assumption) | exact Rest.all (rest_one (by with_reducible assumption)) | exact Rest.all (rest_two (by with_reducible assumption) (by with_reducible assumption)) | (with_reducible first | refine' Rest.app (by assumption) ?_ | refine' Rest.app (rest_one (by assumption)) ?_ | refine' Rest.app (rest_two (by assumption) (by assumption)) ?_ | refine' Rest.drop ?_))); done)) ?_; k_whole); intro ts' h' tk' F' N' hi'; (try simp only [List.cons_append, List.nil_append, List.append_assoc] at N'); (try k_fold); (try ((with_reducible show wpAny _ _ _ _ _ _); k_gentoks))) | ((with_reducible show wpAny _ _ (call (Value.ref 64) _) _ _ _); k_dflt (refine param_call (by k_asm) (by k_asm) (by k_asm) (by k_asm) (by k_asm) (by first | exact rfl | assumption) (by first | exact rm (by assumption) (by rfl) | ktr_room) (by first | exact un3 (by assumption) (by rfl) | ktr_units) (by ((repeat' (first | (with_reducible first | exact sub_nil | exact sub_self | refine sub_app ?_ ?_ | refine sub_cons ?_ ?_) | ((repeat with_reducible first | exact sub_self | exact sub_l sub_self | refine sub_tl ?_ | refine sub_r ?_); done) | ((with_reducible show _ ∈ _); k_mem) | (refine sub_cons (by k_mem) ?_))); done)) (by assumption) (by assumption) (by assumption) (by assumption) (by assumption) (by (first | assumption | (simp only [adtR_length, adtT_length, stepsN_length, stepN_length, noteN_length]; assumption))) (by k_ne) (by k_ne) (by k_ne) (by k_ne) (by k_ne) (by k_ne) (by k_ne) (by k_ne) (by k_ne) (by k_ne) (by ((repeat' (first | (with_reducible first | exact Rest.nil | refine' Rest.d1 ?_ | refine' Rest.d2 ?_ | refine' Rest.d3 ?_ | refine' Rest.d4 ?_ | refine' Rest.d5 ?_ | refine' Rest.d6 ?_ | refine' Rest.d7 ?_ | refine' Rest.d8 ?_ | refine' Rest.d9 ?_ | refine' Rest.d10 ?_ | refine' Rest.d11 ?_) | (refine' Rest.keep (by ((repeat' (first | with_reducible exact nea_nil | exact df_all (by with_reducible assumption) | exact df_allm (by with_reducible assumption) (by k_mem) | refine nea_cons (by k_ne) ?_)); done)) ?_) | exact Rest.all (by with_reducible assumption) | exact Rest.all (rest_one (by with_reducible assumption)) | exact Rest.all (rest_two (by with_reducible assumption) (by with_reducible assumption)) | (with_reducible first | refine' Rest.app (by assumption) ?_ | refine' Rest.app (rest_one (by assumption)) ?_ | refine' Rest.app (rest_two (by assumption) (by assumption)) ?_ | refine' Rest.drop ?_))); done)) ?_; k_whole); intro ts' h' tk' F' N' hi'; (try simp only [List.cons_append, List.nil_append, List.append_assoc] at N'); (try k_fold); (try ((with_reducible show wpAny _ _ _ _ _ _); k_gentoks))) | ((with_reducible show wpAny _ _ (call (Value.ref 29) _) _ _ _); k_dflt (first | refine within_call (b := .inn) (by k_asm) (by k_asm) (by k_asm) (by k_asm) (by k_asm) (by first | exact rfl | assumption) (by first | exact rm (by assumption) (by rfl) | ktr_room) (by first | exact un3 (by assumption) (by rfl) | ktr_units) ?_ | refine within_call (b := .co) (by k_asm) (by k_asm) (by k_asm) (by k_asm) (by k_asm) (by first | exact rfl | assumption) (by first | exact rm (by assumption) (by rfl) | ktr_room) (by first | exact un3 (by assumption) (by rfl) | ktr_units) ?_ | refine within_call (by k_asm) (by k_asm) (by k_asm) (by k_asm) (by k_asm) (by first | exact rfl | assumption) (by first | exact rm (by assumption) (by rfl) | ktr_room) (by first | exact un3 (by assumption) (by rfl) | ktr_units) ?_); k_whole; intro t' h' tk' F' N'; (try k_fold); (try ((with_reducible show wpAny _ _ _ _ _ _); k_gentoks))) | ((with_reducible first | show wpAny _ _ (call (Value.ref 78) _) _ _ _ | show wpAny _ _ (call (Value.ref 85) _) _ _ _); k_dflt (refine walk_call3 (by assumption) (by assumption) (by k_asm) (by k_asm) (by k_asm) (by k_asm) (by k_asm) (by first | exact rfl | assumption) (by first | exact rm (by assumption) (by rfl) | ktr_room) (by first | exact un3 (by assumption) (by rfl) | ktr_units) (by assumption) (by assumption) (by assumption) (by assumption) (by assumption) (by (first | assumption | (simp only [adtR_length, adtT_length, stepsN_length, stepN_length, noteN_length]; assumption))) (by ((repeat' (first | (with_reducible first | exact sub_nil | exact sub_self | refine sub_app ?_ ?_ | refine sub_cons ?_ ?_) | ((repeat with_reducible first | exact sub_self | exact sub_l sub_self | refine sub_tl ?_ | refine sub_r ?_); done) | ((with_reducible show _ ∈ _); k_mem) | (refine sub_cons (by k_mem) ?_))); done)) (by assumption) (by assumption) (by ((repeat' (first | (with_reducible first | exact Rest.nil | refine' Rest.d1 ?_ | refine' Rest.d2 ?_ | refine' Rest.d3 ?_ | refine' Rest.d4 ?_ | refine' Rest.d5 ?_ | refine' Rest.d6 ?_ | refine' Rest.d7 ?_ | refine' Rest.d8 ?_ | refine' Rest.d9 ?_ | refine' Rest.d10 ?_ | refine' Rest.d11 ?_) | (refine' Rest.keep (by ((repeat' (first | with_reducible exact nea_nil | exact df_all (by with_reducible assumption) | exact df_allm (by with_reducible assumption) (by k_mem) | refine nea_cons (by k_ne) ?_)); done)) ?_) | exact Rest.all (by with_reducible assumption) | exact Rest.all (rest_one (by with_reducible assumption)) | exact Rest.all (rest_two (by with_reducible assumption) (by with_reducible assumption)) | (with_reducible first | refine' Rest.app (by assumption) ?_ | refine' Rest.app (rest_one (by assumption)) ?_ | refine' Rest.app (rest_two (by assumption) (by assumption)) ?_ | refine' Rest.drop ?_))); done)) ?_; k_whole); intro ts' h' tk' F' N' hi'; (try simp only [List.cons_append, List.nil_append, List.append_assoc] at N'); (try k_fold); (try ((with_reducible show wpAny _ _ _ _ _ _); k_gentoks)))) | ((with_reducible show wpAny _ _ (subscriptTail _ _ (Value.ref _) (Value.int _ _)) _ _ _); first | (with_unfolding_all (refine itemT (by k_asm) (by with_reducible assumption) (by decide) (by decide) (by rfl) ?_ (by with_unfolding_all rfl); k_whole); (try ((with_reducible show wpAny _ _ _ _ _ _); k_gentoks))) | (with_unfolding_all (refine itemC (by k_asm) (by with_reducible assumption) (by decide) (by decide) (by rfl) ?_ (by with_unfolding_all rfl); k_whole); (try ((with_reducible show wpAny _ _ _ _ _ _); k_gentoks)))) | ((with_reducible show wpAny _ _ (call (Value.builtin _) _) _ _ _); first | ((with_reducible show wpAny _ _ (call (Value.builtin "len") [Value.ref _]) _ _ _); with_unfolding_all (refine lenT2 (by k_asm) (by with_reducible assumption) ?_; k_whole); (try ((with_reducible show wpAny _ _ _ _ _ _); k_gentoks)))) | ((with_reducible show wpAny _ _ (exec (Stmt.For _ _ _ _ _) _) _ _ _); first | (with_unfolding_all refine' For_turns (by k_asm) ?_; (try ((with_reducible show wpAny _ _ _ _ _ _); k_gentoks)))) | ((with_reducible show wpAny _ _ (subscriptTail _ _ (Value.ref _) (Value.str _ _)) _ _ _); first | (k_dflt (refine dictB (by k_asm) (by with_reducible assumption) (by assumption) ?_ (by with_unfolding_all rfl) (by intro _; with_unfolding_all rfl); k_whole); (try ((with_reducible show wpAny _ _ _ _ _ _); k_gentoks)))) | ((with_reducible show wpAny _ _ (getAttr (Value.ref _) _ _) _ _ _); first | (k_dflt (refine get_own (by k_asm) (by k_asm) (instB (by k_asm) (by with_reducible assumption) (by with_reducible assumption)) (by k_is) (by k_is) (by k_is) (by k_is) (by k_get) (by k_handed) ?_; k_whole); (try ((with_reducible show wpAny _ _ _ _ _ _); k_gentoks)))) | (k_end; wrow_close) | walk1 | (dsimp only; walk1) | (leave1; (try dsimp only))))
      · refine' marks_end (row := row) (dx := dx) (rl := rl) (pl := pl) (tl := tl) (rk := rk) (rs := rs) (ps := ps) (n1 := n1) (n2 := n2) (n := n) ?F_2 ?N_2 ?m1_2 ?m2_2 ?m3_2 o1 o2 ?hst_2 ?hm_2
        case hst_2 => assumption
        case F_2 => k_asm
        case N_2 => k_asm
        case m1_2 => k_mem
        case m2_2 => k_mem
        case m3_2 =>
          simp only [rowLed, List.cons_append, List.nil_append]
          ((repeat' (first | (with_reducible first | exact sub_nil | exact sub_self | refine sub_app ?_ ?_ | refine sub_cons ?_ ?_) | ((repeat with_reducible first | exact sub_self | exact sub_l sub_self | refine sub_tl ?_ | refine sub_r ?_); done) | ((with_reducible show _ ∈ _); k_mem) | (refine sub_cons (by k_mem) ?_))); done)
        case hm_2 => (intro z hz'; (first | rfl | (simp only [contains3 hz', hz', Bool.false_eq_true, if_false, if_neg (contains3 hz').1, if_neg (contains3 hz').2.1, if_neg (contains3 hz').2.2])))
      · have z9 := way_bi (by assumption)
        rw [show adtR (rgs ++ pgs) (ws, hc) (r1, a.mul K.k0) (r2, a.mul K.k1) (0 + 1 + 1) = adtR (rgs ++ pgs) (ws, hc) (r1, a.mul K.k0) (r2, a.mul K.k1) (0 + 1) by rw [z9]; exact stepN_bi ..]
        refine' marks_end (row := row) (dx := dx) (rl := rl) (pl := pl) (tl := tl) (rk := rk) (rs := rs) (ps := ps) (n1 := n1) (n2 := n2) (n := n) ?F_3 ?N_3 ?m1_3 ?m2_3 ?m3_3 o1 o2 ?hst_3 ?hm_3
        case hst_3 => exact V
        case F_3 => k_asm
        case N_3 => k_asm
        case m1_3 => k_mem
        case m2_3 => k_mem
        case m3_3 =>
          simp only [rowLed, List.cons_append, List.nil_append]
          ((repeat' (first | (with_reducible first | exact sub_nil | exact sub_self | refine sub_app ?_ ?_ | refine sub_cons ?_ ?_) | ((repeat with_reducible first | exact sub_self | exact sub_l sub_self | refine sub_tl ?_ | refine sub_r ?_); done) | ((with_reducible show _ ∈ _); k_mem) | (refine sub_cons (by k_mem) ?_))); done)
        case hm_3 => (intro z hz'; (first | rfl | (simp only [contains3 hz', hz', Bool.false_eq_true, if_false, if_neg (contains3 hz').1, if_neg (contains3 hz').2.1, if_neg (contains3 hz').2.2])))
    · simp at hx
  intro ts2 u2 h2 tk2 V2 F2 N2
  simp only [rowLed, List.cons_append, List.nil_append] at N2
  (w_top off; repeat' (first | (k_unfold; (try dsimp only)) | ((with_reducible show wpAny _ _ (newTuple _) _ _ _); first | (k_dflt (refine newTupleM (by k_asm) (by k_asm) (by exact Nat.le_of_ble_eq_true rfl) ?_; k_whole); intro D' h' F' N' l1; (try k_sweep); (try ((with_reducible show wpAny _ _ _ _ _ _); k_gentoks)))) | ((with_reducible show wpAny _ _ (newList _) _ _ _); first | (k_dflt (refine newListM (by k_asm) (by k_asm) (by exact Nat.le_of_ble_eq_true rfl) ?_; k_whole); intro D' h' F' N' l1; (try k_sweep); (try ((with_reducible show wpAny _ _ _ _ _ _); k_gentoks)))) | ((with_reducible show wpAny _ _ (call (Value.ref _) _) _ _ _); first | ((with_reducible show wpAny _ _ (call (Value.ref 155) _) _ _ _); k_dflt (refine region_call0 (by k_asm) (by k_asm) (by k_asm) (by k_asm) (by k_asm) (by first | exact rfl | assumption) (by first | exact rm (by assumption) (by rfl) | ktr_room) (by first | exact un3 (by assumption) (by rfl) | ktr_units) (by k_mem) (by ((repeat' (first | (with_reducible first | exact Rest.nil | refine' Rest.d1 ?_ | refine' Rest.d2 ?_ | refine' Rest.d3 ?_ | refine' Rest.d4 ?_ | refine' Rest.d5 ?_ | refine' Rest.d6 ?_ | refine' Rest.d7 ?_ | refine' Rest.d8 ?_ | refine' Rest.d9 ?_ | refine' Rest.d10 ?_ | refine' Rest.d11 ?_) | (refine' Rest.keep (by ((repeat' (first | with_reducible exact nea_nil | exact df_all (by with_reducible assumption) | exact df_allm (by with_reducible assumption) (by k_mem) | refine nea_cons (by k_ne) ?_)); done)) ?_) | exact Rest.all (by with_reducible assumption) | exact Rest.all (rest_one (by with_reducible assumption)) | exact Rest.all (rest_two (by with_reducible assumption) (by with_reducible assumption)) | (with_reducible first | refine' Rest.app (by assumption) ?_ | refine' Rest.app (rest_one (by assumption)) ?_ | refine' Rest.app (rest_two (by assumption) (by assumption)) ?_ | refine' Rest.drop ?_))); done)) (by assumption) (by assumption) (by assumption) ?_; k_whole); intro x' y' tx' ty' r' h' tk' F' N' hx' hy' hy2' hr'; obtain ⟨n', hi', hn'⟩ := hr'; (try k_fold); (try ((with_reducible show wpAny _ _ _ _ _ _); k_gentoks))) | ((with_reducible show wpAny _ _ (call (Value.ref 57) _) _ _ _); k_dflt (refine region_call (by k_asm) (by k_asm) (by k_asm) (by k_asm) (by k_asm) (by first | exact rfl | assumption) (by first | exact rm (by assumption) (by rfl) | ktr_room) (by first | exact un3 (by assumption) (by rfl) | ktr_units) (by ((repeat' (first | (with_reducible first | exact sub_nil | exact sub_self | refine sub_app ?_ ?_ | refine sub_cons ?_ ?_) | ((repeat with_reducible first | exact sub_self | exact sub_l sub_self | refine sub_tl ?_ | refine sub_r ?_); done) | ((with_reducible show _ ∈ _); k_mem) | (refine sub_cons (by k_mem) ?_))); done)) (by assumption) (by assumption) (by assumption) (by assumption) (by assumption) (by (first | assumption | (simp only [adtR_length, adtT_length, stepsN_length, stepN_length, noteN_length]; assumption))) (by k_ne) (by k_ne) (by k_ne) (by k_ne) (by k_ne) (by k_ne) (by k_ne) (by k_ne) (by k_ne) (by k_ne) (by ((repeat' (first | (with_reducible first | exact Rest.nil | refine' Rest.d1 ?_ | refine' Rest.d2 ?_ | refine' Rest.d3 ?_ | refine' Rest.d4 ?_ | refine' Rest.d5 ?_ | refine' Rest.d6 ?_ | refine' Rest.d7 ?_ | refine' Rest.d8 ?_ | refine' Rest.d9 ?_ | refine' Rest.d10 ?_ | refine' Rest.d11 ?_) | (refine' Rest.keep (by ((repeat' (first | with_reducible exact nea_nil | exact df_all (by with_reducible assumption) | exact df_allm (by with_reducible assumption) (by k_mem) | refine nea_cons (by k_ne) ?_)); done)) ?_) | exact Rest.all (by with_reducible assumption) | exact Rest.all (rest_one (by with_reducible assumption)) | exact Rest.all (rest_two (by with_reducible assumption) (by with_reducible assumption)) | (with_reducible first | refine' Rest.app (by assumption) ?_ | refine' Rest.app (rest_one (by assumption)) ?_ | refine' Rest.app (rest_two (by assumption) (by assumption)) ?_ | refine' Rest.drop ?_))); done)) ?_; k_whole); intro ts' h' tk' F' N' hi'; (try simp only [List.cons_append, List.nil_append, List.append_assoc] at N'); (try k_fold); (try ((with_reducible show wpAny _ _ _ _ _ _); k_gentoks))) | ((with_reducible show wpAny _ _ (call (Value.ref 64) _) _ _ _); k_dflt (refine param_call (by k_asm) (by k_asm) (by k_asm) (by k_asm) (by k_asm) (by first | exact rfl | assumption) (by first | exact rm (by assumption) (by rfl) | ktr_room) (by first | exact un3 (by assumption) (by rfl) | ktr_units) (by ((repeat' (first | (with_reducible first | exact sub_nil | exact sub_self | refine sub_app ?_ ?_ | refine sub_cons ?_ ?_) | ((repeat with_reducible first | exact sub_self | exact sub_l sub_self | refine sub_tl ?_ | refine sub_r ?_); done) | ((with_reducible show _ ∈ _); k_mem) | (refine sub_cons (by k_mem) ?_))); done)) (by assumption) (by assumption) (by assumption) (by assumption) (by assumption) (by (first | assumption | (simp only [adtR_length, adtT_length, stepsN_length, stepN_length, noteN_length]; assumption))) (by k_ne) (by k_ne) (by k_ne) (by k_ne) (by k_ne) (by k_ne) (by k_ne) (by k_ne) (by k_ne) (by k_ne) (by ((repeat' (first | (with_reducible first | exact Rest.nil | refine' Rest.d1 ?_ | refine' Rest.d2 ?_ | refine' Rest.d3 ?_ | refine' Rest.d4 ?_ | refine' Rest.d5 ?_ | refine' Rest.d6 ?_ | refine' Rest.d7 ?_ | refine' Rest.d8 ?_ | refine' Rest.d9 ?_ | refine' Rest.d10 ?_ | refine' Rest.d11 ?_) | (refine' Rest.keep (by ((repeat' (first | with_reducible exact nea_nil | exact df_all (by with_reducible assumption) | exact df_allm (by with_reducible assumption) (by k_mem) | refine nea_cons (by k_ne) ?_)); done)) ?_) | exact Rest.all (by with_reducible assumption) | exact Rest.all (rest_one (by with_reducible assumption)) | exact Rest.all (rest_two (by with_reducible assumption) (by with_reducible assumption)) | (with_reducible first | refine' Rest.app (by assumption) ?_ | refine' Rest.app (rest_one (by assumption)) ?_ | refine' Rest.app (rest_two (by assumption) (by assumption)) ?_ | refine' Rest.drop ?_))); done)) ?_; k_whole); intro ts' h' tk' F' N' hi'; (try simp only [List.cons_append, List.nil_append, List.append_assoc] at N'); (try k_fold); (try ((with_reducible show wpAny _ _ _ _ _ _); k_gentoks))) | ((with_reducible show wpAny _ _ (call (Value.ref 29) _) _ _ _); k_dflt (first | refine within_call (b := .inn) (by k_asm) (by k_asm) (by k_asm) (by k_asm) (by k_asm) (by first | exact rfl | assumption) (by first | exact rm (by assumption) (by rfl) | ktr_room) (by first | exact un3 (by assumption) (by rfl) | ktr_units) ?_ | refine within_call (b := .co) (by k_asm) (by k_asm) (by k_asm) (by k_asm) (by k_asm) (by first | exact rfl | assumption) (by first | exact rm (by assumption) (by rfl) | ktr_room) (by first | exact un3 (by assumption) (by rfl) | ktr_units) ?_ | refine within_call (by k_asm) (by k_asm) (by k_asm) (by k_asm) (by k_asm) (by first | exact rfl | assumption) (by first | exact rm (by assumption) (by rfl) | ktr_room) (by first | exact un3 (by assumption) (by rfl) | ktr_units) ?_); k_whole; intro t' h' tk' F' N'; (try k_fold); (try ((with_reducible show wpAny _ _ _ _ _ _); k_gentoks))) | ((with_reducible first | show wpAny _ _ (call (Value.ref 78) _) _ _ _ | show wpAny _ _ (call (Value.ref 85) _) _ _ _); k_dflt (refine walk_call3 (by assumption) (by assumption) (by k_asm) (by k_asm) (by k_asm) (by k_asm) (by k_asm) (by first | exact rfl | assumption) (by first | exact rm (by assumption) (by rfl) | ktr_room) (by first | exact un3 (by assumption) (by rfl) | ktr_units) (by assumption) (by assumption) (by assumption) (by assumption) (by assumption) (by (first | assumption | (simp only [adtR_length, adtT_length, stepsN_length, stepN_length, noteN_length]; assumption))) (by ((repeat' (first | (with_reducible first | exact sub_nil | exact sub_self | refine sub_app ?_ ?_ | refine sub_cons ?_ ?_) | ((repeat with_reducible first | exact sub_self | exact sub_l sub_self | refine sub_tl ?_ | refine sub_r ?_); done) | ((with_reducible show _ ∈ _); k_mem) | (refine sub_cons (by k_mem) ?_))); done)) (by assumption) (by assumption) (by ((repeat' (first | (with_reducible first | exact Rest.nil | refine' Rest.d1 ?_ | refine' Rest.d2 ?_ | refine' Rest.d3 ?_ | refine' Rest.d4 ?_ | refine' Rest.d5 ?_ | refine' Rest.d6 ?_ | refine' Rest.d7 ?_ | refine' Rest.d8 ?_ | refine' Rest.d9 ?_ | refine' Rest.d10 ?_ | refine' Rest.d11 ?_) | (refine' Rest.keep (by ((repeat' (first | with_reducible exact nea_nil | exact df_all (by with_reducible assumption) | exact df_allm (by with_reducible assumption) (by k_mem) | refine nea_cons (by k_ne) ?_)); done)) ?_) | exact Rest.all (by with_reducible assumption) | exact Rest.all (rest_one (by with_reducible assumption)) | exact Rest.all (rest_two (by with_reducible assumption) (by with_reducible assumption)) | (with_reducible first | refine' Rest.app (by assumption) ?_ | refine' Rest.app (rest_one (by assumption)) ?_ | refine' Rest.app (rest_two (by assumption) (by assumption)) ?_ | refine' Rest.drop ?_))); done)) ?_; k_whole); intro ts' h' tk' F' N' hi'; (try simp only [List.cons_append, List.nil_append, List.append_assoc] at N'); (try k_fold); (try ((with_reducible show wpAny _ _ _ _ _ _); k_gentoks)))) | ((with_reducible show wpAny _ _ (subscriptTail _ _ (Value.ref _) (Value.int _ _)) _ _ _); first | (with_unfolding_all (refine itemT (by k_asm) (by with_reducible assumption) (by decide) (by decide) (by rfl) ?_ (by with_unfolding_all rfl); k_whole); (try ((with_reducible show wpAny _ _ _ _ _ _); k_gentoks))) | (with_unfolding_all (refine itemC (by k_asm) (by with_reducible assumption) (by decide) (by decide) (by rfl) ?_ (by with_unfolding_all rfl); k_whole); (try ((with_reducible show wpAny _ _ _ _ _ _); k_gentoks)))) | ((with_reducible show wpAny _ _ (call (Value.builtin _) _) _ _ _); first | ((with_reducible show wpAny _ _ (call (Value.builtin "len") [Value.ref _]) _ _ _); with_unfolding_all (refine lenT2 (by k_asm) (by with_reducible assumption) ?_; k_whole); (try ((with_reducible show wpAny _ _ _ _ _ _); k_gentoks)))) | ((with_reducible show wpAny _ _ (exec (Stmt.For _ _ _ _ _) _) _ _ _); first | (with_unfolding_all refine' For_turns (by k_asm) ?_; (try ((with_reducible show wpAny _ _ _ _ _ _); k_gentoks)))) | ((with_reducible show wpAny _ _ (subscriptTail _ _ (Value.ref _) (Value.str _ _)) _ _ _); first | (k_dflt (refine dictB (by k_asm) (by with_reducible assumption) (by assumption) ?_ (by with_unfolding_all rfl) (by intro _; with_unfolding_all rfl); k_whole); (try ((with_reducible show wpAny _ _ _ _ _ _); k_gentoks)))) | ((with_reducible show wpAny _ _ (getAttr (Value.ref _) _ _) _ _ _); first | (k_dflt (refine get_own (by k_asm) (by k_asm) (instB (by k_asm) (by with_reducible assumption) (by with_reducible assumption)) (by k_is) (by k_is) (by k_is) (by k_is) (by k_get) (by k_handed) ?_; k_whole); (try ((with_reducible show wpAny _ _ _ _ _ _); k_gentoks)))) | (k_end; wrow_close) | walk1 | (dsimp only; walk1) | (leave1; (try dsimp only))))
  with_unfolding_all refine' iter_marks (row := row) (dx := dx) (rl := rl) (pl := pl) (tl := tl) (rk := rk) (rs := rs) (ps := ps) (n1 := n1) (n2 := n2) (n := n) (ts0 := ts2) [Str.ofString "at", Str.ofString "one", Str.ofString "inner"] (adtT (rgs ++ pgs) (adtR (rgs ++ pgs) (ws, hc) (r1, a.mul K.k0) (r2, a.mul K.k1) 2) (marks K t (a.mul K.k2)) (marks K u (a.mul K.k3))) ?a1 g3 ?a2 ?a3 ?a4 V2 ?_ ?_
  case a1 => rfl
  case a2 => k_asm
  case a3 => k_asm
  case a4 =>
    simp only [rowLed, List.cons_append, List.nil_append, adtT]
    ((repeat' (first | (with_reducible first | exact sub_nil | exact sub_self | refine sub_app ?_ ?_ | refine sub_cons ?_ ?_) | ((repeat with_reducible first | exact sub_self | exact sub_l sub_self | refine sub_tl ?_ | refine sub_r ?_); done) | ((with_reducible show _ ∈ _); k_mem) | (refine sub_cons (by k_mem) ?_))); done)
  · intro e it oe oi i T tT x ts uM h₁ tk₁ hx hT V o1 o2 F1 N1
    simp only [rowLed, List.cons_append, List.nil_append] at N1
    rcases i with _ | _ | i
    · simp only [List.getElem?_cons_zero, Option.some.injEq] at hx
      subst hx
      (w_top off; repeat' (first | (k_unfold; (try dsimp only)) | ((with_reducible show wpAny _ _ (newTuple _) _ _ _); first | (k_dflt (refine newTupleM (by k_asm) (by k_asm) (by exact Nat.le_of_ble_eq_true rfl) ?_; k_whole); intro D' h' F' N' l1; (try k_sweep); (try ((with_reducible show wpAny _ _ _ _ _ _); k_gentoks)))) | ((with_reducible show wpAny _ _ (newList _) _ _ _); first | (k_dflt (refine newListM (by k_asm) (by k_asm) (by exact Nat.le_of_ble_eq_true rfl) ?_; k_whole); intro D' h' F' N' l1; (try k_sweep); (try ((with_reducible show wpAny _ _ _ _ _ _); k_gentoks)))) | ((with_reducible show wpAny _ _ (call (Value.ref _) _) _ _ _); first | ((with_reducible show wpAny _ _ (call (Value.ref 155) _) _ _ _); k_dflt (refine region_call0 (by k_asm) (by k_asm) (by k_asm) (by k_asm) (by k_asm) (by first | exact rfl | assumption) (by first | exact rm (by assumption) (by rfl) | ktr_room) (by first | exact un3 (by assumption) (by rfl) | ktr_units) (by k_mem) (by ((repeat' (first | (with_reducible first | exact Rest.nil | refine' Rest.d1 ?_ | refine' Rest.d2 ?_ | refine' Rest.d3 ?_ | refine' Rest.d4 ?_ | refine' Rest.d5 ?_ | refine' Rest.d6 ?_ | refine' Rest.d7 ?_ | refine' Rest.d8 ?_ | refine' Rest.d9 ?_ | refine' Rest.d10 ?_ | refine' Rest.d11 ?_) | (refine' Rest.keep (by ((repeat' (first | with_reducible exact nea_nil | exact df_all (by with_reducible assumption) | exact df_allm (by with_reducible assumption) (by k_mem) | refine nea_cons (by k_ne) ?_)); done)) ?_) | exact Rest.all (by with_reducible assumption) | exact Rest.all (rest_one (by with_reducible assumption)) | exact Rest.all (rest_two (by with_reducible assumption) (by with_reducible assumption)) | (with_reducible first | refine' Rest.app (by assumption) ?_ | refine' Rest.app (rest_one (by assumption)) ?_ | refine' Rest.app (rest_two (by assumption) (by assumption)) ?_ | refine' Rest.drop ?_))); done)) (by assumption) (by assumption) (by assumption) ?_; k_whole); intro x' y' tx' ty' r' h' tk' F' N' hx' hy' hy2' hr'; obtain ⟨n', hi', hn'⟩ := hr'; (try k_fold); (try ((with_reducible show wpAny _ _ _ _ _ _); k_gentoks))) | ((with_reducible show wpAny _ _ (call (Value.ref 57) _) _ _ _); k_dflt (refine region_call (by k_asm) (by k_asm) (by k_asm) (by k_asm) (by k_asm) (by first | exact rfl | assumption) (by first | exact rm (by assumption) (by rfl) | ktr_room) (by first | exact un3 (by assumption) (by rfl) | ktr_units) (by ((repeat' (first | (with_reducible first | exact sub_nil | exact sub_self | refine sub_app ?_ ?_ | refine sub_cons ?_ ?_) | ((repeat with_reducible first | exact sub_self | exact sub_l sub_self | refine sub_tl ?_ | refine sub_r ?_); done) | ((with_reducible show _ ∈ _); k_mem) | (refine sub_cons (by k_mem) ?_))); done)) (by assumption) (by assumption) (by assumption) (by assumption) (by assumption) (by (first | assumption | (simp only [adtR_length, adtT_length, stepsN_length, stepN_length, noteN_length]; assumption))) (by k_ne) (by k_ne) (by k_ne) (by k_ne) (by k_ne) (by k_ne) (by k_ne) (by k_ne) (by k_ne) (by k_ne) (by ((repeat' (first | (with_reducible first | exact Rest.nil | refine' Rest.d1 ?_ | refine' Rest.d2 ?_ | refine' Rest.d3 ?_ | refine' Rest.d4 ?_ | refine' Rest.d5 ?_ | refine' Rest.d6 ?_ | refine' Rest.d7 ?_ | refine' Rest.d8 ?_ | refine' Rest.d9 ?_ | refine' Rest.d10 ?_ | refine' Rest.d11 ?_) | (refine' Rest.keep (by ((repeat' (first | with_reducible exact nea_nil | exact df_all (by with_reducible assumption) | exact df_allm (by with_reducible assumption) (by k_mem) | refine nea_cons (by k_ne) ?_)); done)) ?_) | exact Rest.all (by with_reducible assumption) | exact Rest.all (rest_one (by with_reducible assumption)) | exact Rest.all (rest_two (by with_reducible assumption) (by with_reducible assumption)) | (with_reducible first | refine' Rest.app (by assumption) ?_ | refine' Rest.app (rest_one (by assumption)) ?_ | refine' Rest.app (rest_two (by assumption) (by assumption)) ?_ | refine' Rest.drop ?_))); done)) ?_; k_whole); intro ts' h' tk' F' N' hi'; (try simp only [List.cons_append, List.nil_append, List.append_assoc] at N'); (try k_fold); (try ((with_reducible show wpAny _ _ _ _ _ _); k_gentoks))) | ((with_reducible show wpAny _ _ (call (Value.ref 64) _) _ _ _); k_dflt (refine param_call (by k_asm) (by k_asm) (by k_asm) (by k_asm) (by k_asm) (by first | exact rfl | assumption) (by first | exact rm (by assumption) (by rfl) | ktr_room) (by first | exact un3 (by assumption) (by rfl) | ktr_units) (by ((repeat' (first | (with_reducible first | exact sub_nil | exact sub_self | refine sub_app ?_ ?_ | refine sub_cons ?_ ?_) | ((repeat with_reducible first | exact sub_self | exact sub_l sub_self | refine sub_tl ?_ | refine sub_r ?_); done) | ((with_reducible show _ ∈ _); k_mem) | (refine sub_cons (by k_mem) ?_))); done)) (by assumption) (by assumption) (by assumption) (by assumption) (by assumption) (by (first | assumption | (simp only [adtR_length, adtT_length, stepsN_length, stepN_length, noteN_length]; assumption))) (by k_ne) (by k_ne) (by k_ne) (by k_ne) (by k_ne) (by k_ne) (by k_ne) (by k_ne) (by k_ne) (by k_ne) (by ((repeat' (first | (with_reducible first | exact Rest.nil | refine' Rest.d1 ?_ | refine' Rest.d2 ?_ | refine' Rest.d3 ?_ | refine' Rest.d4 ?_ | refine' Rest.d5 ?_ | refine' Rest.d6 ?_ | refine' Rest.d7 ?_ | refine' Rest.d8 ?_ | refine' Rest.d9 ?_ | refine' Rest.d10 ?_ | refine' Rest.d11 ?_) | (refine' Rest.keep (by ((repeat' (first | with_reducible exact nea_nil | exact df_all (by with_reducible assumption) | exact df_allm (by with_reducible assumption) (by k_mem) | refine nea_cons (by k_ne) ?_)); done)) ?_) | exact Rest.all (by with_reducible assumption) | exact Rest.all (rest_one (by with_reducible assumption)) | exact Rest.all (rest_two (by with_reducible assumption) (by with_reducible assumption)) | (with_reducible first | refine' Rest.app (by assumption) ?_ | refine' Rest.app (rest_one (by assumption)) ?_ | refine' Rest.app (rest_two (by assumption) (by assumption)) ?_ | refine' Rest.drop ?_))); done)) ?_; k_whole); intro ts' h' tk' F' N' hi'; (try simp only [List.cons_append, List.nil_append, List.append_assoc] at N'); (try k_fold); (try ((with_reducible show wpAny _ _ _ _ _ _); k_gentoks))) | ((with_reducible show wpAny _ _ (call (Value.ref 29) _) _ _ _); k_dflt (first | refine within_call (b := .inn) (by k_asm) (by k_asm) (by k_asm) (by k_asm) (by k_asm) (by first | exact rfl | assumption) (by first | exact rm (by assumption) (by rfl) | ktr_room) (by first | exact un3 (by assumption) (by rfl) | ktr_units) ?_ | refine within_call (b := .co) (by k_asm) (by k_asm) (by k_asm) (by k_asm) (by k_asm) (by first | exact rfl | assumption) (by first | exact rm (by assumption) (by rfl) | ktr_room) (by first | exact un3 (by assumption) (by rfl) | ktr_units) ?_ | refine within_call (by k_asm) (by k_asm) (by k_asm) (by k_asm) (by k_asm) (by first | exact rfl | assumption) (by first | exact rm (by assumption) (by rfl) | ktr_room) (by first | exact un3 (by assumption) (by rfl) | ktr_units) ?_); k_whole; intro t' h' tk' F' N'; (try k_fold); (try ((with_reducible show wpAny _ _ _ _ _ _); k_gentoks))) | ((with_reducible first | show wpAny _ _ (call (Value.ref 78) _) _ _ _ | show wpAny _ _ (call (Value.ref 85) _) _ _ _); k_dflt (refine walk_call3 (by assumption) (by assumption) (by k_asm) (by k_asm) (by k_asm) (by k_asm) (by k_asm) (by first | exact rfl | assumption) (by first | exact rm (by assumption) (by rfl) | ktr_room) (by first | exact un3 (by assumption) (by rfl) | ktr_units) (by assumption) (by assumption) (by assumption) (by assumption) (by assumption) (by (first | assumption | (simp only [adtR_length, adtT_length, stepsN_length, stepN_length, noteN_length]; assumption))) (by ((repeat' (first | (with_reducible first | exact sub_nil | exact sub_self | refine sub_app ?_ ?_ | refine sub_cons ?_ ?_) | ((repeat with_reducible first | exact sub_self | exact sub_l sub_self | refine sub_tl ?_ | refine sub_r ?_); done) | ((with_reducible show _ ∈ _); k_mem) | (refine sub_cons (by k_mem) ?_))); done)) (by assumption) (by assumption) (by ((repeat' (first | (with_reducible first | exact Rest.nil | refine' Rest.d1 ?_ | refine' Rest.d2 ?_ | refine' Rest.d3 ?_ | refine' Rest.d4 ?_ | refine' Rest.d5 ?_ | refine' Rest.d6 ?_ | refine' Rest.d7 ?_ | refine' Rest.d8 ?_ | refine' Rest.d9 ?_ | refine' Rest.d10 ?_ | refine' Rest.d11 ?_) | (refine' Rest.keep (by ((repeat' (first | with_reducible exact nea_nil | exact df_all (by with_reducible assumption) | exact df_allm (by with_reducible assumption) (by k_mem) | refine nea_cons (by k_ne) ?_)); done)) ?_) | exact Rest.all (by with_reducible assumption) | exact Rest.all (rest_one (by with_reducible assumption)) | exact Rest.all (rest_two (by with_reducible assumption) (by with_reducible assumption)) | (with_reducible first | refine' Rest.app (by assumption) ?_ | refine' Rest.app (rest_one (by assumption)) ?_ | refine' Rest.app (rest_two (by assumption) (by assumption)) ?_ | refine' Rest.drop ?_))); done)) ?_; k_whole); intro ts' h' tk' F' N' hi'; (try simp only [List.cons_append, List.nil_append, List.append_assoc] at N'); (try k_fold); (try ((with_reducible show wpAny _ _ _ _ _ _); k_gentoks)))) | ((with_reducible show wpAny _ _ (subscriptTail _ _ (Value.ref _) (Value.int _ _)) _ _ _); first | (with_unfolding_all (refine itemT (by k_asm) (by with_reducible assumption) (by decide) (by decide) (by rfl) ?_ (by with_unfolding_all rfl); k_whole); (try ((with_reducible show wpAny _ _ _ _ _ _); k_gentoks))) | (with_unfolding_all (refine itemC (by k_asm) (by with_reducible assumption) (by decide) (by decide) (by rfl) ?_ (by with_unfolding_all rfl); k_whole); (try ((with_reducible show wpAny _ _ _ _ _ _); k_gentoks)))) | ((with_reducible show wpAny _ _ (call (Value.builtin _) _) _ _ _); first | ((with_reducible show wpAny _ _ (call (Value.builtin "len") [Value.ref _]) _ _ _); with_unfolding_all (refine lenT2 (by k_asm) (by with_reducible assumption) ?_; k_whole); (try ((with_reducible show wpAny _ _ _ _ _ _); k_gentoks)))) | ((with_reducible show wpAny _ _ (exec (Stmt.For _ _ _ _ _) _) _ _ _); first | (with_unfolding_all refine' For_turns (by k_asm) ?_; (try ((with_reducible show wpAny _ _ _ _ _ _); k_gentoks)))) | ((with_reducible show wpAny _ _ (subscriptTail _ _ (Value.ref _) (Value.str _ _)) _ _ _); first | (k_dflt (refine dictB (by k_asm) (by with_reducible assumption) (by assumption) ?_ (by with_unfolding_all rfl) (by intro _; with_unfolding_all rfl); k_whole); (try ((with_reducible show wpAny _ _ _ _ _ _); k_gentoks)))) | ((with_reducible show wpAny _ _ (getAttr (Value.ref _) _ _) _ _ _); first | (k_dflt (refine get_own (by k_asm) (by k_asm) (instB (by k_asm) (by with_reducible assumption) (by with_reducible assumption)) (by k_is) (by k_is) (by k_is) (by k_is) (by k_get) (by k_handed) ?_; k_whole); (try ((with_reducible show wpAny _ _ _ _ _ _); k_gentoks)))) | (k_end; wrow_close) | walk1 | (dsimp only; walk1) | (leave1; (try dsimp only))))
      · refine' marks_end (row := row) (dx := dx) (rl := rl) (pl := pl) (tl := tl) (rk := rk) (rs := rs) (ps := ps) (n1 := n1) (n2 := n2) (n := n) ?F_4 ?N_4 ?m1_4 ?m2_4 ?m3_4 o1 o2 ?hst_4 ?hm_4
        case hst_4 => assumption
        case F_4 => k_asm
        case N_4 => k_asm
        case m1_4 => k_mem
        case m2_4 => k_mem
        case m3_4 =>
          simp only [rowLed, List.cons_append, List.nil_append]
          ((repeat' (first | (with_reducible first | exact sub_nil | exact sub_self | refine sub_app ?_ ?_ | refine sub_cons ?_ ?_) | ((repeat with_reducible first | exact sub_self | exact sub_l sub_self | refine sub_tl ?_ | refine sub_r ?_); done) | ((with_reducible show _ ∈ _); k_mem) | (refine sub_cons (by k_mem) ?_))); done)
        case hm_4 => (intro z hz'; (first | rfl | (simp only [contains3 hz', hz', Bool.false_eq_true, if_false, if_neg (contains3 hz').1, if_neg (contains3 hz').2.1, if_neg (contains3 hz').2.2])))
      · have z9 := way_bi (by assumption)
        rw [adtT_bi0 (by rw [z9]; exact marks_bi ..)]
        refine' marks_end (row := row) (dx := dx) (rl := rl) (pl := pl) (tl := tl) (rk := rk) (rs := rs) (ps := ps) (n1 := n1) (n2 := n2) (n := n) ?F_5 ?N_5 ?m1_5 ?m2_5 ?m3_5 o1 o2 ?hst_5 ?hm_5
        case hst_5 => exact V
        case F_5 => k_asm
        case N_5 => k_asm
        case m1_5 => k_mem
        case m2_5 => k_mem
        case m3_5 =>
          simp only [rowLed, List.cons_append, List.nil_append]
          ((repeat' (first | (with_reducible first | exact sub_nil | exact sub_self | refine sub_app ?_ ?_ | refine sub_cons ?_ ?_) | ((repeat with_reducible first | exact sub_self | exact sub_l sub_self | refine sub_tl ?_ | refine sub_r ?_); done) | ((with_reducible show _ ∈ _); k_mem) | (refine sub_cons (by k_mem) ?_))); done)
        case hm_5 => (intro z hz'; (first | rfl | (simp only [contains3 hz', hz', Bool.false_eq_true, if_false, if_neg (contains3 hz').1, if_neg (contains3 hz').2.1, if_neg (contains3 hz').2.2])))
    · simp only [List.getElem?_cons_succ, List.getElem?_cons_zero, Option.some.injEq] at hx
      subst hx
      (w_top off; repeat' (first | (k_unfold; (try dsimp only)) | ((with_reducible show wpAny _ _ (newTuple _) _ _ _); first | (k_dflt (refine newTupleM (by k_asm) (by k_asm) (by exact Nat.le_of_ble_eq_true rfl) ?_; k_whole); intro D' h' F' N' l1; (try k_sweep); (try ((with_reducible show wpAny _ _ _ _ _ _); k_gentoks)))) | ((with_reducible show wpAny _ _ (newList _) _ _ _); first | (k_dflt (refine newListM (by k_asm) (by k_asm) (by exact Nat.le_of_ble_eq_true rfl) ?_; k_whole); intro D' h' F' N' l1; (try k_sweep); (try ((with_reducible show wpAny _ _ _ _ _ _); k_gentoks)))) | ((with_reducible show wpAny _ _ (call (Value.ref _) _) _ _ _); first | ((with_reducible show wpAny _ _ (call (Value.ref 155) _) _ _ _); k_dflt (refine region_call0 (by k_asm) (by k_asm) (by k_asm) (by k_asm) (by k_asm) (by first | exact rfl | assumption) (by first | exact rm (by assumption) (by rfl) | ktr_room) (by first | exact un3 (by assumption) (by rfl) | ktr_units) (by k_mem) (by ((repeat' (first | (with_reducible first | exact Rest.nil | refine' Rest.d1 ?_ | refine' Rest.d2 ?_ | refine' Rest.d3 ?_ | refine' Rest.d4 ?_ | refine' Rest.d5 ?_ | refine' Rest.d6 ?_ | refine' Rest.d7 ?_ | refine' Rest.d8 ?_ | refine' Rest.d9 ?_ | refine' Rest.d10 ?_ | refine' Rest.d11 ?_) | (refine' Rest.keep (by ((repeat' (first | with_reducible exact nea_nil | exact df_all (by with_reducible assumption) | exact df_allm (by with_reducible assumption) (by k_mem) | refine nea_cons (by k_ne) ?_)); done)) ?_) | exact Rest.all (by with_reducible assumption) | exact Rest.all (rest_one (by with_reducible assumption)) | exact Rest.all (rest_two (by with_reducible assumption) (by with_reducible assumption)) | (with_reducible first | refine' Rest.app (by assumption) ?_ | refine' Rest.app (rest_one (by assumption)) ?_ | refine' Rest.app (rest_two (by assumption) (by assumption)) ?_ | refine' Rest.drop ?_))); done)) (by assumption) (by assumption) (by assumption) ?_; k_whole); intro x' y' tx' ty' r' h' tk' F' N' hx' hy' hy2' hr'; obtain ⟨n', hi', hn'⟩ := hr'; (try k_fold); (try ((with_reducible show wpAny _ _ _ _ _ _); k_gentoks))) | ((with_reducible show wpAny _ _ (call (Value.ref 57) _) _ _ _); k_dflt (refine region_call (by k_asm) (by k_asm) (by k_asm) (by k_asm) (by k_asm) (by first | exact rfl | assumption) (by first | exact rm (by assumption) (by rfl) | ktr_room) (by first | exact un3 (by assumption) (by rfl) | ktr_units) (by ((repeat' (first | (with_reducible first | exact sub_nil | exact sub_self | refine sub_app ?_ ?_ | refine sub_cons ?_ ?_) | ((repeat with_reducible first | exact sub_self | exact sub_l sub_self | refine sub_tl ?_ | refine sub_r ?_); done) | ((with_reducible show _ ∈ _); k_mem) | (refine sub_cons (by k_mem) ?_))); done)) (by assumption) (by assumption) (by assumption) (by assumption) (by assumption) (by (first | assumption | (simp only [adtR_length, adtT_length, stepsN_length, stepN_length, noteN_length]; assumption))) (by k_ne) (by k_ne) (by k_ne) (by k_ne) (by k_ne) (by k_ne) (by k_ne) (by k_ne) (by k_ne) (by k_ne) (by ((repeat' (first | (with_reducible first | exact Rest.nil | refine' Rest.d1 ?_ | refine' Rest.d2 ?_ | refine' Rest.d3 ?_ | refine' Rest.d4 ?_ | refine' Rest.d5 ?_ | refine' Rest.d6 ?_ | refine' Rest.d7 ?_ | refine' Rest.d8 ?_ | refine' Rest.d9 ?_ | refine' Rest.d10 ?_ | refine' Rest.d11 ?_) | (refine' Rest.keep (by ((repeat' (first | with_reducible exact nea_nil | exact df_all (by with_reducible assumption) | exact df_allm (by with_reducible assumption) (by k_mem) | refine nea_cons (by k_ne) ?_)); done)) ?_) | exact Rest.all (by with_reducible assumption) | exact Rest.all (rest_one (by with_reducible assumption)) | exact Rest.all (rest_two (by with_reducible assumption) (by with_reducible assumption)) | (with_reducible first | refine' Rest.app (by assumption) ?_ | refine' Rest.app (rest_one (by assumption)) ?_ | refine' Rest.app (rest_two (by assumption) (by assumption)) ?_ | refine' Rest.drop ?_))); done)) ?_; k_whole); intro ts' h' tk' F' N' hi'; (try simp only [List.cons_append, List.nil_append, List.append_assoc] at N'); (try k_fold); (try ((with_reducible show wpAny _ _ _ _ _ _); k_gentoks))) | ((with_reducible show wpAny _ _ (call (Value.ref 64) _) _ _ _); k_dflt (refine param_call (by k_asm) (by k_asm) (by k_asm) (by k_asm) (by k_asm) (by first | exact rfl | assumption) (by first | exact rm (by assumption) (by rfl) | ktr_room) (by first | exact un3 (by assumption) (by rfl) | ktr_units) (by ((repeat' (first | (with_reducible first | exact sub_nil | exact sub_self | refine sub_app ?_ ?_ | refine sub_cons ?_ ?_) | ((repeat with_reducible first | exact sub_self | exact sub_l sub_self | refine sub_tl ?_ | refine sub_r ?_); done) | ((with_reducible show _ ∈ _); k_mem) | (refine sub_cons (by k_mem) ?_))); done)) (by assumption) (by assumption) (by assumption) (by assumption) (by assumption) (by (first | assumption | (simp only [adtR_length, adtT_length, stepsN_length, stepN_length, noteN_length]; assumption))) (by k_ne) (by k_ne) (by k_ne) (by k_ne) (by k_ne) (by k_ne) (by k_ne) (by k_ne) (by k_ne) (by k_ne) (by ((repeat' (first | (with_reducible first | exact Rest.nil | refine' Rest.d1 ?_ | refine' Rest.d2 ?_ | refine' Rest.d3 ?_ | refine' Rest.d4 ?_ | refine' Rest.d5 ?_ | refine' Rest.d6 ?_ | refine' Rest.d7 ?_ | refine' Rest.d8 ?_ | refine' Rest.d9 ?_ | refine' Rest.d10 ?_ | refine' Rest.d11 ?_) | (refine' Rest.keep (by ((repeat' (first | with_reducible exact nea_nil | exact df_all (by with_reducible assumption) | exact df_allm (by with_reducible assumption) (by k_mem) | refine nea_cons (by k_ne) ?_)); done)) ?_) | exact Rest.all (by with_reducible assumption) | exact Rest.all (rest_one (by with_reducible assumption)) | exact Rest.all (rest_two (by with_reducible assumption) (by with_reducible assumption)) | (with_reducible first | refine' Rest.app (by assumption) ?_ | refine' Rest.app (rest_one (by assumption)) ?_ | refine' Rest.app (rest_two (by assumption) (by assumption)) ?_ | refine' Rest.drop ?_))); done)) ?_; k_whole); intro ts' h' tk' F' N' hi'; (try simp only [List.cons_append, List.nil_append, List.append_assoc] at N'); (try k_fold); (try ((with_reducible show wpAny _ _ _ _ _ _); k_gentoks))) | ((with_reducible show wpAny _ _ (call (Value.ref 29) _) _ _ _); k_dflt (first | refine within_call (b := .inn) (by k_asm) (by k_asm) (by k_asm) (by k_asm) (by k_asm) (by first | exact rfl | assumption) (by first | exact rm (by assumption) (by rfl) | ktr_room) (by first | exact un3 (by assumption) (by rfl) | ktr_units) ?_ | refine within_call (b := .co) (by k_asm) (by k_asm) (by k_asm) (by k_asm) (by k_asm) (by first | exact rfl | assumption) (by first | exact rm (by assumption) (by rfl) | ktr_room) (by first | exact un3 (by assumption) (by rfl) | ktr_units) ?_ | refine within_call (by k_asm) (by k_asm) (by k_asm) (by k_asm) (by k_asm) (by first | exact rfl | assumption) (by first | exact rm (by assumption) (by rfl) | ktr_room) (by first | exact un3 (by assumption) (by rfl) | ktr_units) ?_); k_whole; intro t' h' tk' F' N'; (try k_fold); (try ((with_reducible show wpAny _ _ _ _ _ _); k_gentoks))) | ((with_reducible first | show wpAny _ _ (call (Value.ref 78) _) _ _ _ | show wpAny _ _ (call (Value.ref 85) _) _ _ _); k_dflt (refine walk_call3 (by assumption) (by assumption) (by k_asm) (by k_asm) (by k_asm) (by k_asm) (by k_asm) (by first | exact rfl | assumption) (by first | exact rm (by assumption) (by rfl) | ktr_room) (by first | exact un3 (by assumption) (by rfl) | ktr_units) (by assumption) (by assumption) (by assumption) (by assumption) (by assumption) (by (first | assumption | (simp only [adtR_length, adtT_length, stepsN_length, stepN_length, noteN_length]; assumption))) (by ((repeat' (first | (with_reducible first | exact sub_nil | exact sub_self | refine sub_app ?_ ?_ | refine sub_cons ?_ ?_) | ((repeat with_reducible first | exact sub_self | exact sub_l sub_self | refine sub_tl ?_ | refine sub_r ?_); done) | ((with_reducible show _ ∈ _); k_mem) | (refine sub_cons (by k_mem) ?_))); done)) (by assumption) (by assumption) (by ((repeat' (first | (with_reducible first | exact Rest.nil | refine' Rest.d1 ?_ | refine' Rest.d2 ?_ | refine' Rest.d3 ?_ | refine' Rest.d4 ?_ | refine' Rest.d5 ?_ | refine' Rest.d6 ?_ | refine' Rest.d7 ?_ | refine' Rest.d8 ?_ | refine' Rest.d9 ?_ | refine' Rest.d10 ?_ | refine' Rest.d11 ?_) | (refine' Rest.keep (by ((repeat' (first | with_reducible exact nea_nil | exact df_all (by with_reducible assumption) | exact df_allm (by with_reducible assumption) (by k_mem) | refine nea_cons (by k_ne) ?_)); done)) ?_) | exact Rest.all (by with_reducible assumption) | exact Rest.all (rest_one (by with_reducible assumption)) | exact Rest.all (rest_two (by with_reducible assumption) (by with_reducible assumption)) | (with_reducible first | refine' Rest.app (by assumption) ?_ | refine' Rest.app (rest_one (by assumption)) ?_ | refine' Rest.app (rest_two (by assumption) (by assumption)) ?_ | refine' Rest.drop ?_))); done)) ?_; k_whole); intro ts' h' tk' F' N' hi'; (try simp only [List.cons_append, List.nil_append, List.append_assoc] at N'); (try k_fold); (try ((with_reducible show wpAny _ _ _ _ _ _); k_gentoks)))) | ((with_reducible show wpAny _ _ (subscriptTail _ _ (Value.ref _) (Value.int _ _)) _ _ _); first | (with_unfolding_all (refine itemT (by k_asm) (by with_reducible assumption) (by decide) (by decide) (by rfl) ?_ (by with_unfolding_all rfl); k_whole); (try ((with_reducible show wpAny _ _ _ _ _ _); k_gentoks))) | (with_unfolding_all (refine itemC (by k_asm) (by with_reducible assumption) (by decide) (by decide) (by rfl) ?_ (by with_unfolding_all rfl); k_whole); (try ((with_reducible show wpAny _ _ _ _ _ _); k_gentoks)))) | ((with_reducible show wpAny _ _ (call (Value.builtin _) _) _ _ _); first | ((with_reducible show wpAny _ _ (call (Value.builtin "len") [Value.ref _]) _ _ _); with_unfolding_all (refine lenT2 (by k_asm) (by with_reducible assumption) ?_; k_whole); (try ((with_reducible show wpAny _ _ _ _ _ _); k_gentoks)))) | ((with_reducible show wpAny _ _ (exec (Stmt.For _ _ _ _ _) _) _ _ _); first | (with_unfolding_all refine' For_turns (by k_asm) ?_; (try ((with_reducible show wpAny _ _ _ _ _ _); k_gentoks)))) | ((with_reducible show wpAny _ _ (subscriptTail _ _ (Value.ref _) (Value.str _ _)) _ _ _); first | (k_dflt (refine dictB (by k_asm) (by with_reducible assumption) (by assumption) ?_ (by with_unfolding_all rfl) (by intro _; with_unfolding_all rfl); k_whole); (try ((with_reducible show wpAny _ _ _ _ _ _); k_gentoks)))) | ((with_reducible show wpAny _ _ (getAttr (Value.ref _) _ _) _ _ _); first | (k_dflt (refine get_own (by k_asm) (by k_asm) (instB (by k_asm) (by with_reducible assumption) (by with_reducible assumption)) (by k_is) (by k_is) (by k_is) (by k_is) (by k_get) (by k_handed) ?_; k_whole); (try ((with_reducible show wpAny _ _ _ _ _ _); k_gentoks)))) | (k_end; wrow_close) | walk1 | (dsimp only; walk1) | (leave1; (try dsimp only))))
      · refine' marks_end (row := row) (dx := dx) (rl := rl) (pl := pl) (tl := tl) (rk := rk) (rs := rs) (ps := ps) (n1 := n1) (n2 := n2) (n := n) ?F_6 ?N_6 ?m1_6 ?m2_6 ?m3_6 o1 o2 ?hst_6 ?hm_6
        case hst_6 => assumption
        case F_6 => k_asm
        case N_6 => k_asm
        case m1_6 => k_mem
        case m2_6 => k_mem
        case m3_6 =>
          simp only [rowLed, List.cons_append, List.nil_append]
          ((repeat' (first | (with_reducible first | exact sub_nil | exact sub_self | refine sub_app ?_ ?_ | refine sub_cons ?_ ?_) | ((repeat with_reducible first | exact sub_self | exact sub_l sub_self | refine sub_tl ?_ | refine sub_r ?_); done) | ((with_reducible show _ ∈ _); k_mem) | (refine sub_cons (by k_mem) ?_))); done)
        case hm_6 => (intro z hz'; (first | rfl | (simp only [contains3 hz', hz', Bool.false_eq_true, if_false, if_neg (contains3 hz').1, if_neg (contains3 hz').2.1, if_neg (contains3 hz').2.2])))
      · have z9 := way_bi (by assumption)
        rw [adtT_bi1 (by rw [z9]; exact marks_bi ..)]
        refine' marks_end (row := row) (dx := dx) (rl := rl) (pl := pl) (tl := tl) (rk := rk) (rs := rs) (ps := ps) (n1 := n1) (n2 := n2) (n := n) ?F_7 ?N_7 ?m1_7 ?m2_7 ?m3_7 o1 o2 ?hst_7 ?hm_7
        case hst_7 => exact V
        case F_7 => k_asm
        case N_7 => k_asm
        case m1_7 => k_mem
        case m2_7 => k_mem
        case m3_7 =>
          simp only [rowLed, List.cons_append, List.nil_append]
          ((repeat' (first | (with_reducible first | exact sub_nil | exact sub_self | refine sub_app ?_ ?_ | refine sub_cons ?_ ?_) | ((repeat with_reducible first | exact sub_self | exact sub_l sub_self | refine sub_tl ?_ | refine sub_r ?_); done) | ((with_reducible show _ ∈ _); k_mem) | (refine sub_cons (by k_mem) ?_))); done)
        case hm_7 => (intro z hz'; (first | rfl | (simp only [contains3 hz', hz', Bool.false_eq_true, if_false, if_neg (contains3 hz').1, if_neg (contains3 hz').2.1, if_neg (contains3 hz').2.2])))
    · simp at hx
  intro ts3 u3 h3 tk3 V3 F3 N3
  simp only [rowLed, List.cons_append, List.nil_append] at N3
  (w_top off; repeat' (first | (k_unfold; (try dsimp only)) | ((with_reducible show wpAny _ _ (newTuple _) _ _ _); first | (k_dflt (refine newTupleM (by k_asm) (by k_asm) (by exact Nat.le_of_ble_eq_true rfl) ?_; k_whole); intro D' h' F' N' l1; (try k_sweep); (try ((with_reducible show wpAny _ _ _ _ _ _); k_gentoks)))) | ((with_reducible show wpAny _ _ (newList _) _ _ _); first | (k_dflt (refine newListM (by k_asm) (by k_asm) (by exact Nat.le_of_ble_eq_true rfl) ?_; k_whole); intro D' h' F' N' l1; (try k_sweep); (try ((with_reducible show wpAny _ _ _ _ _ _); k_gentoks)))) | ((with_reducible show wpAny _ _ (call (Value.ref _) _) _ _ _); first | ((with_reducible show wpAny _ _ (call (Value.ref 155) _) _ _ _); k_dflt (refine region_call0 (by k_asm) (by k_asm) (by k_asm) (by k_asm) (by k_asm) (by first | exact rfl | assumption) (by first | exact rm (by assumption) (by rfl) | ktr_room) (by first | exact un3 (by assumption) (by rfl) | ktr_units) (by k_mem) (by ((repeat' (first | (with_reducible first | exact Rest.nil | refine' Rest.d1 ?_ | refine' Rest.d2 ?_ | refine' Rest.d3 ?_ | refine' Rest.d4 ?_ | refine' Rest.d5 ?_ | refine' Rest.d6 ?_ | refine' Rest.d7 ?_ | refine' Rest.d8 ?_ | refine' Rest.d9 ?_ | refine' Rest.d10 ?_ | refine' Rest.d11 ?_) | (refine' Rest.keep (by ((repeat' (first | with_reducible exact nea_nil | exact df_all (by with_reducible assumption) | exact df_allm (by with_reducible assumption) (by k_mem) | refine nea_cons (by k_ne) ?_)); done)) ?_) | exact Rest.all (by with_reducible assumption) | exact Rest.all (rest_one (by with_reducible assumption)) | exact Rest.all (rest_two (by with_reducible assumption) (by with_reducible assumption)) | (with_reducible first | refine' Rest.app (by assumption) ?_ | refine' Rest.app (rest_one (by assumption)) ?_ | refine' Rest.app (rest_two (by assumption) (by assumption)) ?_ | refine' Rest.drop ?_))); done)) (by assumption) (by assumption) (by assumption) ?_; k_whole); intro x' y' tx' ty' r' h' tk' F' N' hx' hy' hy2' hr'; obtain ⟨n', hi', hn'⟩ := hr'; (try k_fold); (try ((with_reducible show wpAny _ _ _ _ _ _); k_gentoks))) | ((with_reducible show wpAny _ _ (call (Value.ref 57) _) _ _ _); k_dflt (refine region_call (by k_asm) (by k_asm) (by k_asm) (by k_asm) (by k_asm) (by first | exact rfl | assumption) (by first | exact rm (by assumption) (by rfl) | ktr_room) (by first | exact un3 (by assumption) (by rfl) | ktr_units) (by ((repeat' (first | (with_reducible first | exact sub_nil | exact sub_self | refine sub_app ?_ ?_ | refine sub_cons ?_ ?_) | ((repeat with_reducible first | exact sub_self | exact sub_l sub_self | refine sub_tl ?_ | refine sub_r ?_); done) | ((with_reducible show _ ∈ _); k_mem) | (refine sub_cons (by k_mem) ?_))); done)) (by assumption) (by assumption) (by assumption) (by assumption) (by assumption) (by (first | assumption | (simp only [adtR_length, adtT_length, stepsN_length, stepN_length, noteN_length]; assumption))) (by k_ne) (by k_ne) (by k_ne) (by k_ne) (by k_ne) (by k_ne) (by k_ne) (by k_ne) (by k_ne) (by k_ne) (by ((repeat' (first | (with_reducible first | exact Rest.nil | refine' Rest.d1 ?_ | refine' Rest.d2 ?_ | refine' Rest.d3 ?_ | refine' Rest.d4 ?_ | refine' Rest.d5 ?_ | refine' Rest.d6 ?_ | refine' Rest.d7 ?_ | refine' Rest.d8 ?_ | refine' Rest.d9 ?_ | refine' Rest.d10 ?_ | refine' Rest.d11 ?_) | (refine' Rest.keep (by ((repeat' (first | with_reducible exact nea_nil | exact df_all (by with_reducible assumption) | exact df_allm (by with_reducible assumption) (by k_mem) | refine nea_cons (by k_ne) ?_)); done)) ?_) | exact Rest.all (by with_reducible assumption) | exact Rest.all (rest_one (by with_reducible assumption)) | exact Rest.all (rest_two (by with_reducible assumption) (by with_reducible assumption)) | (with_reducible first | refine' Rest.app (by assumption) ?_ | refine' Rest.app (rest_one (by assumption)) ?_ | refine' Rest.app (rest_two (by assumption) (by assumption)) ?_ | refine' Rest.drop ?_))); done)) ?_; k_whole); intro ts' h' tk' F' N' hi'; (try simp only [List.cons_append, List.nil_append, List.append_assoc] at N'); (try k_fold); (try ((with_reducible show wpAny _ _ _ _ _ _); k_gentoks))) | ((with_reducible show wpAny _ _ (call (Value.ref 64) _) _ _ _); k_dflt (refine param_call (by k_asm) (by k_asm) (by k_asm) (by k_asm) (by k_asm) (by first | exact rfl | assumption) (by first | exact rm (by assumption) (by rfl) | ktr_room) (by first | exact un3 (by assumption) (by rfl) | ktr_units) (by ((repeat' (first | (with_reducible first | exact sub_nil | exact sub_self | refine sub_app ?_ ?_ | refine sub_cons ?_ ?_) | ((repeat with_reducible first | exact sub_self | exact sub_l sub_self | refine sub_tl ?_ | refine sub_r ?_); done) | ((with_reducible show _ ∈ _); k_mem) | (refine sub_cons (by k_mem) ?_))); done)) (by assumption) (by assumption) (by assumption) (by assumption) (by assumption) (by (first | assumption | (simp only [adtR_length, adtT_length, stepsN_length, stepN_length, noteN_length]; assumption))) (by k_ne) (by k_ne) (by k_ne) (by k_ne) (by k_ne) (by k_ne) (by k_ne) (by k_ne) (by k_ne) (by k_ne) (by ((repeat' (first | (with_reducible first | exact Rest.nil | refine' Rest.d1 ?_ | refine' Rest.d2 ?_ | refine' Rest.d3 ?_ | refine' Rest.d4 ?_ | refine' Rest.d5 ?_ | refine' Rest.d6 ?_ | refine' Rest.d7 ?_ | refine' Rest.d8 ?_ | refine' Rest.d9 ?_ | refine' Rest.d10 ?_ | refine' Rest.d11 ?_) | (refine' Rest.keep (by ((repeat' (first | with_reducible exact nea_nil | exact df_all (by with_reducible assumption) | exact df_allm (by with_reducible assumption) (by k_mem) | refine nea_cons (by k_ne) ?_)); done)) ?_) | exact Rest.all (by with_reducible assumption) | exact Rest.all (rest_one (by with_reducible assumption)) | exact Rest.all (rest_two (by with_reducible assumption) (by with_reducible assumption)) | (with_reducible first | refine' Rest.app (by assumption) ?_ | refine' Rest.app (rest_one (by assumption)) ?_ | refine' Rest.app (rest_two (by assumption) (by assumption)) ?_ | refine' Rest.drop ?_))); done)) ?_; k_whole); intro ts' h' tk' F' N' hi'; (try simp only [List.cons_append, List.nil_append, List.append_assoc] at N'); (try k_fold); (try ((with_reducible show wpAny _ _ _ _ _ _); k_gentoks))) | ((with_reducible show wpAny _ _ (call (Value.ref 29) _) _ _ _); k_dflt (first | refine within_call (b := .inn) (by k_asm) (by k_asm) (by k_asm) (by k_asm) (by k_asm) (by first | exact rfl | assumption) (by first | exact rm (by assumption) (by rfl) | ktr_room) (by first | exact un3 (by assumption) (by rfl) | ktr_units) ?_ | refine within_call (b := .co) (by k_asm) (by k_asm) (by k_asm) (by k_asm) (by k_asm) (by first | exact rfl | assumption) (by first | exact rm (by assumption) (by rfl) | ktr_room) (by first | exact un3 (by assumption) (by rfl) | ktr_units) ?_ | refine within_call (by k_asm) (by k_asm) (by k_asm) (by k_asm) (by k_asm) (by first | exact rfl | assumption) (by first | exact rm (by assumption) (by rfl) | ktr_room) (by first | exact un3 (by assumption) (by rfl) | ktr_units) ?_); k_whole; intro t' h' tk' F' N'; (try k_fold); (try ((with_reducible show wpAny _ _ _ _ _ _); k_gentoks))) | ((with_reducible first | show wpAny _ _ (call (Value.ref 78) _) _ _ _ | show wpAny _ _ (call (Value.ref 85) _) _ _ _); k_dflt (refine walk_call3 (by assumption) (by assumption) (by k_asm) (by k_asm) (by k_asm) (by k_asm) (by k_asm) (by first | exact rfl | assumption) (by first | exact rm (by assumption) (by rfl) | ktr_room) (by first | exact un3 (by assumption) (by rfl) | ktr_units) (by assumption) (by assumption) (by assumption) (by assumption) (by assumption) (by (first | assumption | (simp only [adtR_length, adtT_length, stepsN_length, stepN_length, noteN_length]; assumption))) (by ((repeat' (first | (with_reducible first | exact sub_nil | exact sub_self | refine sub_app ?_ ?_ | refine sub_cons ?_ ?_) | ((repeat with_reducible first | exact sub_self | exact sub_l sub_self | refine sub_tl ?_ | refine sub_r ?_); done) | ((with_reducible show _ ∈ _); k_mem) | (refine sub_cons (by k_mem) ?_))); done)) (by assumption) (by assumption) (by ((repeat' (first | (with_reducible first | exact Rest.nil | refine' Rest.d1 ?_ | refine' Rest.d2 ?_ | refine' Rest.d3 ?_ | refine' Rest.d4 ?_ | refine' Rest.d5 ?_ | refine' Rest.d6 ?_ | refine' Rest.d7 ?_ | refine' Rest.d8 ?_ | refine' Rest.d9 ?_ | refine' Rest.d10 ?_ | refine' Rest.d11 ?_) | (refine' Rest.keep (by ((repeat' (first | with_reducible exact nea_nil | exact df_all (by with_reducible assumption) | exact df_allm (by with_reducible assumption) (by k_mem) | refine nea_cons (by k_ne) ?_)); done)) ?_) | exact Rest.all (by with_reducible assumption) | exact Rest.all (rest_one (by with_reducible assumption)) | exact Rest.all (rest_two (by with_reducible assumption) (by with_reducible assumption)) | (with_reducible first | refine' Rest.app (by assumption) ?_ | refine' Rest.app (rest_one (by assumption)) ?_ | refine' Rest.app (rest_two (by assumption) (by assumption)) ?_ | refine' Rest.drop ?_))); done)) ?_; k_whole); intro ts' h' tk' F' N' hi'; (try simp only [List.cons_append, List.nil_append, List.append_assoc] at N'); (try k_fold); (try ((with_reducible show wpAny _ _ _ _ _ _); k_gentoks)))) | ((with_reducible show wpAny _ _ (subscriptTail _ _ (Value.ref _) (Value.int _ _)) _ _ _); first | (with_unfolding_all (refine itemT (by k_asm) (by with_reducible assumption) (by decide) (by decide) (by rfl) ?_ (by with_unfolding_all rfl); k_whole); (try ((with_reducible show wpAny _ _ _ _ _ _); k_gentoks))) | (with_unfolding_all (refine itemC (by k_asm) (by with_reducible assumption) (by decide) (by decide) (by rfl) ?_ (by with_unfolding_all rfl); k_whole); (try ((with_reducible show wpAny _ _ _ _ _ _); k_gentoks)))) | ((with_reducible show wpAny _ _ (call (Value.builtin _) _) _ _ _); first | ((with_reducible show wpAny _ _ (call (Value.builtin "len") [Value.ref _]) _ _ _); with_unfolding_all (refine lenT2 (by k_asm) (by with_reducible assumption) ?_; k_whole); (try ((with_reducible show wpAny _ _ _ _ _ _); k_gentoks)))) | ((with_reducible show wpAny _ _ (exec (Stmt.For _ _ _ _ _) _) _ _ _); first | (with_unfolding_all refine' For_turns (by k_asm) ?_; (try ((with_reducible show wpAny _ _ _ _ _ _); k_gentoks)))) | ((with_reducible show wpAny _ _ (subscriptTail _ _ (Value.ref _) (Value.str _ _)) _ _ _); first | (k_dflt (refine dictB (by k_asm) (by with_reducible assumption) (by assumption) ?_ (by with_unfolding_all rfl) (by intro _; with_unfolding_all rfl); k_whole); (try ((with_reducible show wpAny _ _ _ _ _ _); k_gentoks)))) | ((with_reducible show wpAny _ _ (getAttr (Value.ref _) _ _) _ _ _); first | (k_dflt (refine get_own (by k_asm) (by k_asm) (instB (by k_asm) (by with_reducible assumption) (by with_reducible assumption)) (by k_is) (by k_is) (by k_is) (by k_is) (by k_get) (by k_handed) ?_; k_whole); (try ((with_reducible show wpAny _ _ _ _ _ _); k_gentoks)))) | (k_end; wrow_close) | walk1 | (dsimp only; walk1) | (leave1; (try dsimp only))))
  have key : (marks K (.adt r1 r2 t u) a).foldl (stepN (rgs ++ pgs)) (ws, hc) = adtT (rgs ++ pgs) (adtR (rgs ++ pgs) (ws, hc) (r1, a.mul K.k0) (r2, a.mul K.k1) 2) (marks K t (a.mul K.k2)) (marks K u (a.mul K.k3)) 2 := by
    simp only [marks, List.foldl_cons, List.foldl_append]
    rfl
  refine hret _ _ _ _ (by assumption) (by assumption) (keep_of (by assumption) (by assumption)) ⟨ts3, ?_, ?_, rfl⟩
  · rw [key]; rfl
  · rw [key]; exact V3

theorem WalkSpec.mono {w mean mg mb} {f : Addr} {t : Ty} {d d' : Nat} (h : WalkSpec w mean mg mb f d t) (hd : d ≤ d') : WalkSpec w mean mg mb f d' t := by
  intro row dx rl pl tl rk hc rs ps ts n1 n2 n rgs pgs ws ta tw a K frz rv TI R P hl hi ap hne hod
  intro dp un gd cn cs aa ccd cl outer A₀ base h₀ L m s Q E B F X N T hk hd hu hz hret
  exact h TI R P hl hi ap hne hod dp un gd cn cs aa ccd cl outer A₀ base h₀ L m s Q E B F X N T hk (by omega) (by omega) hz hret
theorem walk_tyOk {w mean mg mb} (t : Ty) : WalkSpec w mean mg mb 78 (20 * t.depth + 20) t := by
  induction t with
  | int => exact @walkInt w mean mg mb
  | oth => exact @walkOth w mean mg mb
  | par x => exact @walkPar w mean mg mb x
  | ref r b t ih => exact @WalkSpec.mono w mean mg mb 78 _ _ _ (@walkRef w mean mg mb r b t _ @ih) (by simp only [Ty.depth]; omega)
  | box t ih => exact @WalkSpec.mono w mean mg mb 78 _ _ _ (@walkBox w mean mg mb t _ @ih) (by simp only [Ty.depth]; omega)
  | arr t ih => exact @WalkSpec.mono w mean mg mb 78 _ _ _ (@walkArr w mean mg mb t _ @ih) (by simp only [Ty.depth]; omega)
  | tup t u i1 i2 =>
    have e1 : t.depth ≤ Nat.max t.depth u.depth := Nat.le_max_left _ _
    have e2 : u.depth ≤ Nat.max t.depth u.depth := Nat.le_max_right _ _
    have h1 : WalkSpec w mean mg mb 78 (20 * Nat.max t.depth u.depth + 20) t := @WalkSpec.mono w mean mg mb 78 _ _ _ @i1 (by omega)
    have h2 : WalkSpec w mean mg mb 78 (20 * Nat.max t.depth u.depth + 20) u := @WalkSpec.mono w mean mg mb 78 _ _ _ @i2 (by omega)
    exact @WalkSpec.mono w mean mg mb 78 _ _ _ (@walkTup w mean mg mb t u _ @h1 @h2) (by simp only [Ty.depth]; omega)
  | adt r1 r2 t u i1 i2 =>
    have e1 : t.depth ≤ Nat.max t.depth u.depth := Nat.le_max_left _ _
    have e2 : u.depth ≤ Nat.max t.depth u.depth := Nat.le_max_right _ _
    have h1 : WalkSpec w mean mg mb 78 (20 * Nat.max t.depth u.depth + 20) t := @WalkSpec.mono w mean mg mb 78 _ _ _ @i1 (by omega)
    have h2 : WalkSpec w mean mg mb 78 (20 * Nat.max t.depth u.depth + 20) u := @WalkSpec.mono w mean mg mb 78 _ _ _ @i2 (by omega)
    exact @WalkSpec.mono w mean mg mb 78 _ _ _ (@walkAdt w mean mg mb r1 r2 t u _ (@walkA w mean mg mb t u r1 r2 _ @h1 @h2)) (by simp only [Ty.depth]; omega)
theorem walk_deep {w mean mg mb} {t : Ty} (h : t.depth ≤ 3) : WalkSpec w mean mg mb 78 80 t := by
  exact @WalkSpec.mono w mean mg mb 78 _ _ _ (@walk_tyOk w mean mg mb t) (by omega)
theorem walk_deepE {w mean mg mb} {r1 r2 : Nm} {t u : Ty} (h1 : t.depth ≤ 2) (h2 : u.depth ≤ 2) : WalkSpec w mean mg mb 85 80 (.adt r1 r2 t u) := by
  have j1 : WalkSpec w mean mg mb 78 70 t := @WalkSpec.mono w mean mg mb 78 _ _ _ (@walk_tyOk w mean mg mb t) (by omega)
  have j2 : WalkSpec w mean mg mb 78 70 u := @WalkSpec.mono w mean mg mb 78 _ _ _ (@walk_tyOk w mean mg mb u) (by omega)
  exact @walkA w mean mg mb t u r1 r2 70 @j1 @j2

theorem fresh_one {H g h' : Heap} {L' : Addr} {p : Addr × Obj} (k : GSub H g []) (N : News g L' h' [p]) : H.get? p.1 = none := by
  cases e : H.get? p.1 with
  | none => rfl
  | some o =>
    have := k _ _ e List.not_mem_nil
    rw [(N p (.head _)).2.2] at this; cases this
theorem jarMade_ok {w mean mg mb} {sc : Addr} {vs : List Value} {ns : List Int} (hi : IntsAre vs ns) (hz1 : vs.length < 1000) :
    Sp w mean mg mb 115 2 20 [.ref sc] (fun H => H.IsList sc vs.toArray) [] (fun H n' r => ∃ jar x y tx ty, n' = [(jar, jarO x y tx ty)] ∧ 0 ≤ x ∧ 0 ≤ y ∧ y < 2147483647 ∧ H.get? jar = none ∧ r = .ref jar) := by
  unfold Sp Pg LZ
  k_fill
  intro dp un gd cn cs aa ccd cl outer A₀ base h₀ L m s Q E B F X N T hk hd hu hz hret
  refine wpAny_call ?_
  k_dflt (refine code_defG (by k_asm) (by k_asm) (by k_asm) (by k_asm) (by k_asm) (by exact rfl) (by exact rfl) (by assumption) (by k_is) (by k_is) (by first | exact rm0 (by assumption) | ktr_room) (by exact BindsTo.of_eq rfl) (by exact locs rfl) ?_ (by exact rfl) (by exact rfl) (by exact rfl) (by decide); k_whole)
  intro g' L' h' FG' F' N' B' X' T' kG'
  (try dsimp only)
  (try k_fold)
  (try ((with_reducible show wpAny _ _ _ _ _ _); k_gentoks))
  have gl := base_list0 hz (by assumption)
  (w_top off; repeat' (first | (k_unfold; (try dsimp only)) | ((with_reducible show wpAny _ _ (newTuple _) _ _ _); first | (k_dflt (refine newTupleM (by k_asm) (by k_asm) (by exact Nat.le_of_ble_eq_true rfl) ?_; k_whole); intro D' h' F' N' l1; (try k_sweep); (try ((with_reducible show wpAny _ _ _ _ _ _); k_gentoks)))) | ((with_reducible show wpAny _ _ (newList _) _ _ _); first | (k_dflt (refine newListM (by k_asm) (by k_asm) (by exact Nat.le_of_ble_eq_true rfl) ?_; k_whole); intro D' h' F' N' l1; (try k_sweep); (try ((with_reducible show wpAny _ _ _ _ _ _); k_gentoks)))) | ((with_reducible show wpAny _ _ (call (Value.builtin _) _) _ _ _); first | ((with_reducible show wpAny _ _ (call (Value.builtin "len") [Value.ref _]) _ _ _); with_unfolding_all (refine lenB (by k_asm) (by with_reducible assumption) (by assumption) ?_; k_whole); (try ((with_reducible show wpAny _ _ _ _ _ _); k_gentoks)))) | ((with_reducible show wpAny _ _ (subscriptTail _ _ (Value.ref _) (Value.int _ _)) _ _ _); first | (with_unfolding_all (refine itemB (by k_asm) (by with_reducible assumption) (by assumption) (by assumption) (by assumption) ?_ (by with_unfolding_all rfl); k_whole); intro v' hv'; (try ((with_reducible show wpAny _ _ _ _ _ _); k_gentoks)))) | ((with_reducible show wpAny _ _ (binaryOp Operator.Mult (Value.int _ _) (Value.int _ _)) _ _ _); first | (with_reducible refine mul_int ?_ fits_one; (try ((with_reducible show wpAny _ _ _ _ _ _); k_gentoks)))) | (k_end; wrow_close) | walk1 | (dsimp only; walk1) | (leave1; (try dsimp only))))
  all_goals refine' hret _ _ _ _ (by assumption) (by assumption) (keep_of (by assumption) (by assumption)) ?_
  all_goals (refine' ⟨_, _, _, _, _, rfl, ?x, ?y, ?y2, ?f, rfl⟩; (case f => exact fresh_one (by assumption) (by assumption)); (case x => first | exact Int.le_refl _ | exact Int.le_trans (b := 10 ^ Int.toNat 18) (by decide +kernel) (by assumption)); (case y => exact Int.fmod_nonneg_of_pos _ (by decide)); (case y2 => exact Int.fmod_lt_of_pos _ (by decide)))

theorem fresh_led {h₀ h : Heap} {L : Addr} {led new : Led} (N : News h₀ L h led) (hf : ∀ p ∈ new, h.get? p.1 = none) : ∀ q ∈ led, ∀ p ∈ new, p.1 ≠ q.1 := fun q hq p hp e => by
  have := hf p hp
  rw [e, (N q hq).1] at this; cases this
section
variable {w : World} {mean : ExcName → Option Value} {mg mb : Str → Option Value} {n : Nat}
    {dp un : Nat} {gd : Option (List Code)} {cn : Str} {cs : Scope} {a : Addr} {ccd : Value} {cl : List (Str × Addr)} {outer : List Env} {A₀ : Around} {base h₀ : Heap} {L : Addr} {m : Str → Option Value} {s : Shared} {Q E : Value → Shared → Prop} {led rest : Led}
    {jar : Addr} {x y : Int} {tx ty : Tok} {k : Int} {tk : Tok} {rd kn : Addr} {rvs : List Value} {kr kk : Nat} {ws : List Way} {K : Known} {t0 t1 t2 t3 : Tok}
theorem type_call2 (IH : TypeSpec w mean mg mb n)
    (B : Below A₀ base outer h₀) (F : Fr h₀ L s.heap m) (X : (hd.heap_39 w.params).In h₀) (N : News h₀ L s.heap led) (T : Top hd.view_39 LZ mean mg mb h₀) (hk : cs.kind = .function)
    (hd : dp + (n + 7) < recursionLimit) (hu : un + 8 * (n + 7) < cLine) (hm : (jar, jarO x y tx ty) ∈ led)
    (h1 : (rd, listOf rvs.toArray kr) ∈ led) (h2 : (kn, listOf (K.vals t0 t1 t2 t3).toArray kk) ∈ led) (W : StrsAre rvs (ws.map Way.s)) (hx : 0 ≤ x) (hy : 0 ≤ y) (hy2 : y < 2147483647) (hkn : k = (n : Int)) (e1 : rd ≠ jar) (e2 : kn ≠ jar) (hb : ws.length + n < 80) (hn : n ≤ 3)
    (hr : Rest [jar] led rest)
    (ret : ∀ x' y' tx' ty' nw a ta ua uvs kq t h' tk', Fr h₀ L h' m → News h₀ L h' ((jar, jarO x' y' tx' ty') :: (rest ++ nw)) → 0 ≤ x' → 0 ≤ y' → y' < 2147483647 → (∀ q ∈ led, ∀ p ∈ nw, p.1 ≠ q.1) → (a, tupO [.ref ta, .ref ua]) ∈ nw → (ua, listOf uvs.toArray kq) ∈ nw →
      TyIn ([(rd, listOf rvs.toArray kr), (kn, listOf (K.vals t0 t1 t2 t3).toArray kk)] ++ nw) (.ref ta) t → UsIn ([(rd, listOf rvs.toArray kr), (kn, listOf (K.vals t0 t1 t2 t3).toArray kk)] ++ nw) uvs (uses K t ws) → uvs.length < 500 → t.depth ≤ n → Q (.ref a) { s with heap := h', toks := tk' }) :
    wpAny (model Pg w) (ktrTop dp un gd cn cs L a ccd cl outer) (call (.ref 162) [.ref jar, .int k tk, .ref rd, .ref kn]) Q E s := by
  refine (IH hx hy hy2 hkn e1 e2 W hb hn).use (rest := rest) B F X N T hk hd hu (fun p hp => by rw [List.mem_singleton.mp hp]; exact hm) (at_two (N _ h1).1 (N _ h2).1) hr ?_
  rintro r news' h' tk' F' N' K' ⟨x', y', tx', ty', new, a', ta, ua, uvs, kq, t, rfl, hx', hy', hy2', hf, rfl, m1, m2, hT, hU, hd'⟩
  refine ret x' y' tx' ty' new a' ta ua uvs kq t h' tk' F' (news_sub N' ?_) hx' hy' hy2' (fresh_led N hf) m1 m2 hT hU (by rw [hU.length]; exact uses_small hd' hn) hd'
  intro p hp
  rcases List.mem_cons.mp hp with rfl | hp
  · exact .head _
  · rcases List.mem_append.mp hp with hp | hp
    · exact .tail _ (List.mem_append.mpr (.inr hp))
    · exact .tail _ (List.mem_append.mpr (.inl hp))
theorem enum_call3 {one fa other sa : Addr} {t u : Ty} {fvs svs : List Value} {fus sus : List (Nm × List Way)} {kf ks : Nat} {frz : Led} {as : List Addr}
    (B : Below A₀ base outer h₀) (F : Fr h₀ L s.heap m) (X : (hd.heap_39 w.params).In h₀) (N : News h₀ L s.heap led) (T : Top hd.view_39 LZ mean mg mb h₀) (hk : cs.kind = .function)
    (hd : dp + 4 < recursionLimit) (hu : un + 40 < cLine) (hm : (jar, jarO x y tx ty) ∈ led) (hr : Rest [jar] led rest) (hr2 : Rest (jar :: as) led frz)
    (m1 : (fa, listOf fvs.toArray kf) ∈ frz) (m2 : (sa, listOf svs.toArray ks) ∈ frz) (m3 : (rd, listOf rvs.toArray kr) ∈ frz) (m4 : (kn, listOf (K.vals t0 t1 t2 t3).toArray kk) ∈ frz)
    (T1 : TyIn frz (.ref one) t) (T2 : TyIn frz (.ref other) u) (U1 : UsIn frz fvs fus) (U2 : UsIn frz svs sus) (W : StrsAre rvs (ws.map Way.s))
    (hx : 0 ≤ x) (hy : 0 ≤ y) (hy2 : y < 2147483647)
    (b1 : fus.length < 1000) (b2 : sus.length < 1000) (b3 : ws.length < 100) (b4 : ∀ z ∈ fus, z.2.length < 100) (b5 : ∀ z ∈ sus, z.2.length < 100)
    (ret : ∀ x' y' tx' ty' nw a ta ua uvs kq r1 r2 h' tk', Fr h₀ L h' m → News h₀ L h' ((jar, jarO x' y' tx' ty') :: (rest ++ nw)) → 0 ≤ x' → 0 ≤ y' → y' < 2147483647 → (∀ q ∈ led, ∀ p ∈ nw, p.1 ≠ q.1) → (a, tupO [.ref ta, .ref ua]) ∈ nw → (ua, listOf uvs.toArray kq) ∈ nw →
      TyIn (frz ++ nw) (.ref ta) (.adt r1 r2 t u) → UsIn (frz ++ nw) uvs (enumUses K r1 r2 fus sus ws) → Q (.ref a) { s with heap := h', toks := tk' }) :
    wpAny (model Pg w) (ktrTop dp un gd cn cs L a ccd cl outer) (call (.ref 169) [.ref jar, .ref one, .ref fa, .ref other, .ref sa, .ref rd, .ref kn]) Q E s := by
  have hf : ∀ p ∈ frz, p ∈ led := fun p hp => (hr2.ok p hp).1
  have hne : ∀ p ∈ frz, p.1 ≠ jar := fun p hp => (hr2.ok p hp).2 _ (.head _)
  refine (enum_ok hx hy hy2 hne T1 T2 U1 U2 W m1 m2 m3 m4 b1 b2 b3 b4 b5).use (rest := rest) B F X N T hk hd hu (fun p hp => by rw [List.mem_singleton.mp hp]; exact hm) (at_news N hf) hr ?_
  rintro r news' h' tk' F' N' K' ⟨x', y', tx', ty', new, a', ta, ua, uvs, kq, r1, r2, rfl, hx', hy', hy2', hf', rfl, q1, q2, hT, hU⟩
  refine ret x' y' tx' ty' new a' ta ua uvs kq r1 r2 h' tk' F' (news_sub N' ?_) hx' hy' hy2' (fresh_led N hf') q1 q2 hT hU
  intro p hp
  rcases List.mem_cons.mp hp with rfl | hp
  · exact .head _
  · rcases List.mem_append.mp hp with hp | hp
    · exact .tail _ (List.mem_append.mpr (.inr hp))
    · exact .tail _ (List.mem_append.mpr (.inl hp))
end
theorem apart_led {led nw : Led} {as : List Addr} (h : ∀ q ∈ led, ∀ p ∈ nw, p.1 ≠ q.1) (hs : ∀ a ∈ as, ∃ o, (a, o) ∈ led) : ∀ p ∈ nw, ∀ a ∈ as, p.1 ≠ a := fun p hp a ha => by
  obtain ⟨o, ho⟩ := hs a ha
  exact h _ ho p hp
section
variable {w : World} {mean : ExcName → Option Value} {mg mb : Str → Option Value}
    {dp un : Nat} {gd : Option (List Code)} {cn : Str} {cs : Scope} {aa : Addr} {ccd : Value} {cl : List (Str × Addr)} {outer : List Env} {A₀ : Around} {base h₀ : Heap} {L : Addr} {m : Str → Option Value} {s : Shared} {Q E : Value → Shared → Prop} {led rest : Led}
    {row dx rl pl tl rows erow edx erl epl etl : Addr} {rk erk : RowK} {hc ehc : Bool} {rs ps ts : List Value} {n1 n2 n ek : Nat} {rgs pgs : List Nm} {ws : List Way} {ta : Addr} {tw : Tok} {a : Way} {K : Known} {t0 t1 t2 t3 : Tok} {od : Obj} {f : Addr} {d : Nat} {t : Ty}
theorem AdtOk.mk {frz : Led} (hod : od.IsDictOf (PySem.strKind Pg w) [(Str.ofString "m::E", Value.ref erow)]) (m1 : (rows, od) ∈ frz) (m2 : (erow, instObj 67 edx) ∈ frz) (m3 : (edx, rowD erk erl epl etl ehc) ∈ frz) (m4 : (etl, listOf (K.vals t0 t1 t2 t3).toArray ek) ∈ frz) : AdtOk w frz (.ref rows) K t :=
  .inr ⟨rows, erow, edx, erl, epl, etl, od, erk, ehc, t0, t1, t2, t3, ek, rfl, m1, hod, m2, m3, m4⟩
theorem walk_call2 {rv : Value} (IH : WalkSpec w mean mg mb f d t)
    (B : Below A₀ base outer h₀) (F : Fr h₀ L s.heap m) (X : (hd.heap_39 w.params).In h₀) (N : News h₀ L s.heap led) (T : Top hd.view_39 LZ mean mg mb h₀) (hk : cs.kind = .function)
    (hd : dp + d < recursionLimit) (hu : un + 10 * d < cLine) (m1 : ∀ p ∈ rowLed row dx rl pl tl rk rs ps n1 n2 n ts hc, p ∈ led)
    (R : RegsV rs rgs) (P : ParsV ps pgs) (hl : ws.length = (rgs ++ pgs).length) (hi : StrsAre ts (ws.map Way.s)) (ap : Apart row dx rl pl tl) (hr : Rest [row, dx, rl, pl, tl] led rest) (hod : AdtOk w rest rv K t) (TI : TyIn rest (.ref ta) t)
    (ret : ∀ ts' h' tk', Fr h₀ L h' m → News h₀ L h' (rowLed row dx rl pl tl rk rs ps n1 n2 n ts' ((marks K t a).foldl (stepN (rgs ++ pgs)) (ws, hc)).2 ++ rest) →
      StrsAre ts' (((marks K t a).foldl (stepN (rgs ++ pgs)) (ws, hc)).1.map Way.s) → Q .none { s with heap := h', toks := tk' }) :
    wpAny (model Pg w) (ktrTop dp un gd cn cs L aa ccd cl outer) (call (.ref f) [.ref row, rv, .ref ta, .str a.s tw]) Q E s :=
  walk_call @IH TI B F X N T hk hd hu m1 R P hl hi ap (fun p hp hm => (hr.ok p hp).2 _ hm rfl) hod (at_news N fun p hp => (hr.ok p hp).1) hr ret
end
theorem name_head2 {g : Heap} {L : Addr} {h : Heap} {a b : Addr} {o o' : Obj} {l : Led} (_ : News g L h ((b, o') :: (a, o) :: l)) : ∃ d, d = a := ⟨a, rfl⟩
section
variable {prog : Program} {w : World} {A : Around} {E : Value → Shared → Prop} {s : Shared} {a b : Addr} {xs ys : List Value} {ws : List Way} {Q : Value → Shared → Prop}
theorem ne_waysF (ha : s.heap.IsList a xs.toArray) (hb : s.heap.IsList b ys.toArray) (hi : StrsAre xs (ws.map Way.s)) (hj : StrsAre ys (ws.map Way.s)) (hu : A.units + 64 < cLine) (h : Q (.bool false) s) :
    wpAny (model prog w) A (compareOp .NotEq (.ref a) (.ref b)) Q E s := ne_ways ha hb hi hj hu (by rw [decide_eq_true rfl]; exact h)
end
theorem ne_boolF {prog : Program} {w : World} {A : Around} {E : Value → Shared → Prop} {s : Shared} {a : Bool} {Q : Value → Shared → Prop} (h : Q (.bool false) s) : wpAny (model prog w) A (compareOp .NotEq (.bool a) (.bool a)) Q E s :=
  ne_bool (by cases a <;> exact h)
theorem dict_one {prog : Program} {w : World} {o : Obj} {t : Tok} {v : Value} (h : o.IsDictOf (PySem.strKind prog w) (strPairs [(Value.str (Str.ofString "m::E") t, v)])) : o.IsDictOf (PySem.strKind prog w) [(Str.ofString "m::E", v)] := h
theorem cells_far (L : Nat) : Df (L + 1 + 1 + 1 + 1) (L + 1 + 1 + 1) ∧ Df (L + 1 + 1) (L + 1 + 1 + 1) ∧ Df (L + 1) (L + 1 + 1 + 1) := by
  exact ⟨ne_u1 _, Ne.symm (ne_u1 _), Ne.symm (ne_u2 _)⟩
theorem told_known {vs : List Value} {K : Known} (h : StrsAre vs ((K.pws.foldl stepW (List.replicate 4 .bi, false)).1.map Way.s)) : ∃ t0 t1 t2 t3, vs = K.vals t0 t1 t2 t3 := by
  rw [K.noted] at h
  exact known_of h
theorem df_cons {p : Nat} {l : List Nat} {b : Nat} (h : @Ne Nat p b) (h2 : ∀ q ∈ l, Df p q) : ∀ q ∈ b :: l, Df p q := List.forall_mem_cons.mpr ⟨h, h2⟩
theorem df_conl {p : Nat} {l : List Nat} {b : Nat} (h : @Ne Nat p b) (h2 : ∀ q ∈ l, Df q b) : ∀ q ∈ p :: l, Df q b := List.forall_mem_cons.mpr ⟨h, h2⟩
theorem df_nil {P : Nat → Prop} : ∀ q ∈ ([] : List Nat), P q := fun _ h => nomatch h
theorem df_all2 {p : Nat} {l l2 : List Nat} (h : ∀ q ∈ l2, Df p q) (h2 : ∀ r ∈ l, ∀ q ∈ l2, Df r q) : ∀ r ∈ p :: l, ∀ q ∈ l2, Df r q := List.forall_mem_cons.mpr ⟨h, h2⟩
theorem five_ord {dx row rl pl tl : Nat} (h1 : dx < row) (h2 : row < rl) (h3 : rl < pl) (h4 : pl < tl) : dx < rl ∧ dx < pl ∧ dx < tl ∧ row < pl ∧ row < tl ∧ rl < tl := ⟨Nat.lt_trans h1 h2, Nat.lt_trans h1 (Nat.lt_trans h2 h3), Nat.lt_trans h1 (Nat.lt_trans h2 (Nat.lt_trans h3 h4)), Nat.lt_trans h2 h3, Nat.lt_trans h2 (Nat.lt_trans h3 h4), Nat.lt_trans h3 h4⟩
theorem road_one (a : Way) : road [a] = a := by cases a <;> rfl
theorem marks_told {rs ps : List Value} {rgs pgs : List Nm} (R : RegsV rs rgs) (P : ParsV ps pgs) (pws : List (Nat × Way)) (K : Known) (t : Ty) (a : Way) (hc : Bool) (b : Nat) (hn : (rgs ++ pgs).length = b) :
    ((marks K t a).foldl (stepN (rgs ++ pgs)) (befores pws b, hc)).1 = dues pws (uses K t [a]) (rgs ++ pgs) b := by
  have h := marks_road K t [a]
  rw [road_one] at h
  rw [h]; exact told_due R P pws _ hc b hn
theorem marks_changed {rs ps : List Value} {rgs pgs : List Nm} (R : RegsV rs rgs) (P : ParsV ps pgs) (pws : List (Nat × Way)) (K : Known) (t : Ty) (a : Way) (b : Nat) (hn : (rgs ++ pgs).length = b) :
    ((marks K t a).foldl (stepN (rgs ++ pgs)) (befores pws b, strictest (befores pws b) != .bi)).2 = (strictest (dues pws (uses K t [a]) (rgs ++ pgs) b) != .bi) := by
  have h := marks_road K t [a]
  rw [road_one] at h
  rw [h]; exact due_changed R P pws _ b hn

theorem base_frz0 {H g : Heap} {frz : Led} (hz : At H frz) (k : GSub H g []) : At g frz := fun p hp => k _ _ (hz p hp) List.not_mem_nil
theorem list_keep {h₀ h : Heap} {L l : Addr} {m : Str → Option Value} {vs : Array Value} (F : Fr h₀ L h m) (hl : h₀.IsList l vs) : h.IsList l vs := hl.at fun o e => F.keep l o e
theorem flat_one (n : Nat) (v : Value) : (List.replicate n [v]).flatten = List.replicate n v := by
  induction n with
  | zero => rfl
  | succ n ih => rw [List.replicate_succ, List.flatten_cons, ih]; rfl
theorem lenN {prog : Program} {w : World} {A : Around} {E : Value → Shared → Prop} {s : Shared} {h₀ : Heap} {L l : Addr} {led : Led} {vs : List Value} {n : Nat} {Q : Value → Shared → Prop} (N : News h₀ L s.heap led) (hm : (l, listOf vs.toArray n) ∈ led) (hz : vs.length < 1000)
    (h : Q (.int vs.length (s.toks + 1)) { s with toks := s.toks + 1 + 1 }) : wpAny (model prog w) A (call (.builtin "len") [.ref l]) Q E s :=
  len_list (N.isList hm) (by rw [List.size_toArray]; omega) (by rw [List.size_toArray]; exact h)
theorem mulBi {prog : Program} {w : World} {A : Around} {E : Value → Shared → Prop} {s : Shared} {h₀ : Heap} {L l : Addr} {m : Str → Option Value} {led : Led} {v : Value} {x : Int} {u : Tok} {k : Nat} {Q : Value → Shared → Prop} (F : Fr h₀ L s.heap m) (N : News h₀ L s.heap led) (hm : (l, listOf [v].toArray k) ∈ led) (hlo : 0 ≤ x) (hhi : x < 100)
    (h : ∀ D h', Fr h₀ L h' m → News h₀ L h' ((D, listOf (List.replicate x.toNat v).toArray 0) :: led) → (∀ p ∈ led, p.1 < D) → Q (.ref D) { s with heap := h' }) : wpAny (model prog w) A (binaryOp .Mult (.ref l) (.int x u)) Q E s :=
  KMa.mul F N (N.isList hm) (by omega) (by omega) (by simp only [List.length_cons, List.length_nil]; omega) (flat_one _ _) h

theorem lt_all {l : Led} {a b : Addr} {o : Obj} (h : ∀ p ∈ l, p.1 < b) (m : (a, o) ∈ l) : @LT.lt Nat _ a b := h _ m
theorem lt_two {l : Led} {d x : Addr} {o : Obj} (h : ∀ p ∈ l, p.1 < d) (h2 : d < x) : ∀ p ∈ (d, o) :: l, p.1 < x := List.forall_mem_cons.mpr ⟨h2, fun p hp => Nat.lt_trans (h p hp) h2⟩
section
variable {prog : Program} {w : World} {A A₀ : Around} {E : Value → Shared → Prop} {s : Shared} {K : Frag} {C L : Addr} {h₀ base : Heap} {m mg mb : Str → Option Value} {news : List (Addr × Obj)} {p : Program} {loose : List Str} {mean : ExcName → Option Value} {Q : Value → Shared → Prop}
theorem code_defI {env : Env} {outer : List Env} {R : Result → Shared → Prop} {name qual : Str} {params : Arguments} {body : List Stmt} {scope : Scope} {dV kV doc pm cdv ct oc : Value} {an od : Option Addr} {osl : Array (Option Value)} {f : Addr} {args : Args} {binds : List (Str × Value)}
    (hA : A.frames = some (env :: outer)) (hf : env.frame = some L) (hke : env.scope.kind = .function) (B : Below A₀ base outer h₀) (F : Fr h₀ L s.heap m) (X₀ : K.In h₀) (N : News h₀ L s.heap news) (T : Top p loose mean mg mb h₀)
    (ho : K.lookup f = some ⟨oc, od, .func (fnOf name qual params body scope dV kV doc pm an cdv ct), osl⟩) (hcd : codeIn K cdv qual = true) (hroom : A.depth < recursionLimit)
    (hbind : BindsTo s (fnOf name qual params body scope dV kV doc pm an cdv ct) args binds) (hloc : ∀ y ∈ binds, scope.names.lookup y.1 = some .local)
    (h : ∀ g L' h₁, Fr h₀ L g m → Fr g L' h₁ (fun y => binds.reverse.lookup y) → News g L' h₁ news → Below A base (env :: outer) g → K.In g → Top p loose mean mg mb g →
      wpAny (model prog w) (A.deeper (envOf qual scope L' f cdv)) (execs body (envOf qual scope L' f cdv))
        (fun fl s' => LeaveK h₀ L m g R (match fl with | .ret v => v | _ => .none) s')
        (fun e s' => wpAny (model prog w) (A.deeper (envOf qual scope L' f cdv)) (leaving (envOf qual scope L' f cdv) e) (fun _ s'' => R (.error e) s'') (fun e' s'' => R (.error e') s'') s')
        { s with heap := h₁, toks := s.toks + binds.length })
    (hco : scope.isCoroutine = false) (hgen : scope.isGenerator = false) (hk : scope.kind = .function)
    (hcell : ∀ x ∈ scope.names, x.2 ≠ .cell) : codeAny (model prog w) A (.call (.ref f) args) R s :=
  code_def B F X₀ N T hA hf hke ho hcd hroom hbind hloc h hco hgen hk hcell
end
theorem lawRow_ok {w mean mg mb} {rl0 pl0 wl : Addr} {pk : Str} {tp : Tok} {rs ps wvs : List Value} {k1 k2 k3 : Nat} {pws : List (Nat × Way)} {frz : Led} (h1 : rs.length ≤ 2) (h2 : ps.length ≤ 2)
    (P : PwIn frz wvs pws) (hb : ∀ z ∈ pws, z.1 < rs.length + ps.length) :
    Sp w mean mg mb 176 8 80 [.str pk tp, .ref rl0, .ref pl0, .ref wl] (fun H => At H ((rl0, listOf rs.toArray k1) :: (pl0, listOf ps.toArray k2) :: (wl, listOf wvs.toArray k3) :: frz)) []
      (fun H n' r => ∃ row dx rl pl tl rk ts n c1 c2, n' = [(row, instObj 67 dx), (dx, rowD rk rl pl tl (pws.foldl stepW (List.replicate (rs.length + ps.length) .bi, false)).2), (tl, listOf ts.toArray n), (rl, listOf rs.toArray c1), (pl, listOf ps.toArray c2)] ∧
        StrsAre ts ((pws.foldl stepW (List.replicate (rs.length + ps.length) .bi, false)).1.map Way.s) ∧ r = .ref row ∧ (∀ p ∈ n', H.get? p.1 = none) ∧ @LT.lt Nat _ dx row ∧ @LT.lt Nat _ row rl ∧ @LT.lt Nat _ rl pl ∧ @LT.lt Nat _ pl tl) := by
  unfold Sp Pg LZ
  k_fill
  intro dp un gd cn cs aa ccd cl outer A₀ base h₀ L m s Q E B F X N T hk hd hu hz hret
  refine wpAny_call ?_
  k_dflt (refine code_defG (by k_asm) (by k_asm) (by k_asm) (by k_asm) (by k_asm) (by exact rfl) (by exact rfl) (by assumption) (by k_is) (by k_is) (by first | exact rm0 (by assumption) | ktr_room) (by exact BindsTo.of_eq rfl) (by exact locs rfl) ?_ (by exact rfl) (by exact rfl) (by exact rfl) (by decide); k_whole)
  intro g' L' h' FG' F' N' B' X' T' kG'
  (try dsimp only)
  (try k_fold)
  (try ((with_reducible show wpAny _ _ _ _ _ _); k_gentoks))
  have gz := base_frz0 hz (by assumption)
  have g1 := At.list gz (.head _)
  have g2 := At.list gz (.tail _ (.head _))
  have g3 := At.list gz (.tail _ (.tail _ (.head _)))
  (w_top off; repeat' (first | (k_unfold; (try dsimp only)) | ((with_reducible show wpAny _ _ (call (Value.ref _) _) _ _ _); first | (k_dflt (refine' call_cls (by k_asm) (by k_asm) (by k_asm) (by k_is) (by k_is) (by k_is) ?_; k_whole; intro x' d' h' F' N' l1 l2; have l3 := lt_two (o := dictOf [] 0) l1 l2; (try k_sweep); refine code_defI (by exact rfl) (by exact rfl) (by exact rfl) (by k_asm) (by k_asm) (by k_asm) (by k_asm) (by k_asm) (by k_is) (by k_is) (by first | exact rm1 (by assumption) (by rfl) | exact rm0 (by assumption) | ktr_room) (by first | exact BindsTo.of_eq rfl | exact binds_K (by k_in) rfl (by k_is) rfl rfl rfl) (by exact locs rfl) ?_ (by exact rfl) (by exact rfl) (by exact rfl) (by decide); k_whole; intro g' L' h' FG' F' N' B' X' T'; (try dsimp only); (try k_lift B'); (try k_fold)); (try ((with_reducible show wpAny _ _ _ _ _ _); k_gentoks))) | ((with_reducible show wpAny _ _ (call (Value.ref 50) _) _ _ _); k_dflt (refine note_call (by k_asm) (by k_asm) (by k_asm) (by k_asm) (by k_asm) (by first | exact rfl | assumption) (by first | exact rm (by assumption) (by rfl) | ktr_room) (by first | exact un3 (by assumption) (by rfl) | ktr_units) (by k_mem) (by k_mem) (by k_mem) (by assumption) (by first | assumption | omega | decide) (by first | assumption | omega) (by first | assumption | omega) (by k_ne) (by k_ne) (by k_ne) (by ((repeat' (first | (with_reducible first | exact Rest.nil | refine' Rest.d1 ?_ | refine' Rest.d2 ?_ | refine' Rest.d3 ?_ | refine' Rest.d4 ?_ | refine' Rest.d5 ?_ | refine' Rest.d6 ?_ | refine' Rest.d7 ?_ | refine' Rest.d8 ?_ | refine' Rest.d9 ?_ | refine' Rest.d10 ?_ | refine' Rest.d11 ?_) | (refine' Rest.keep (by ((repeat' (first | with_reducible exact nea_nil | exact df_all (by with_reducible assumption) | exact df_allm (by with_reducible assumption) (by k_mem) | refine nea_cons (by k_ne) ?_)); done)) ?_) | exact Rest.all (by with_reducible assumption) | exact Rest.all (rest_one (by with_reducible assumption)) | exact Rest.all (rest_two (by with_reducible assumption) (by with_reducible assumption)) | (with_reducible first | refine' Rest.app (by assumption) ?_ | refine' Rest.app (rest_one (by assumption)) ?_ | refine' Rest.app (rest_two (by assumption) (by assumption)) ?_ | refine' Rest.drop ?_))); done)) ?_; k_whole); intro ts' h' tk' F' N' hi'; (try simp only [List.cons_append, List.nil_append, List.append_assoc] at N'); (try k_fold); (try ((with_reducible show wpAny _ _ _ _ _ _); k_gentoks)))) | ((with_reducible show wpAny _ _ (call (Value.type _) _) _ _ _); first | ((with_reducible show wpAny _ _ (call (Value.type _) [Value.ref _]) _ _ _); with_unfolding_all (refine list_copyK (by k_asm) (by k_asm) (by exact list_base (by k_asm) (list_keep (by assumption) (by assumption))) ?_ (by (rw [sizeLine_eq, List.size_toArray]; omega)); k_whole); intro D' c' h' F' N' l1; (try k_sweep); (try ((with_reducible show wpAny _ _ _ _ _ _); k_gentoks)))) | ((with_reducible show wpAny _ _ (call (Value.builtin _) _) _ _ _); first | ((with_reducible show wpAny _ _ (call (Value.builtin "len") [Value.ref _]) _ _ _); with_unfolding_all (refine lenN (by k_asm) (by k_mem) (by first | omega | ((try simp only [List.length_append, List.length_cons, List.length_nil]); omega)) ?_; k_whole); (try ((with_reducible show wpAny _ _ _ _ _ _); k_gentoks)))) | ((with_reducible show wpAny _ _ (binaryOp Operator.Mult (Value.ref _) (Value.int _ _)) _ _ _); first | (k_dflt (refine mulBi (by k_asm) (by k_asm) (by k_mem) (by omega) (by omega) ?_; k_whole); intro D' h' F' N' l1; (try k_sweep); (try ((with_reducible show wpAny _ _ _ _ _ _); k_gentoks)))) | ((with_reducible show wpAny _ _ (newTuple _) _ _ _); first | (k_dflt (refine newTupleM (by k_asm) (by k_asm) (by exact Nat.le_of_ble_eq_true rfl) ?_; k_whole); intro D' h' F' N' l1; (try k_sweep); (try ((with_reducible show wpAny _ _ _ _ _ _); k_gentoks)))) | ((with_reducible show wpAny _ _ (newList _) _ _ _); first | (k_dflt (refine newListM (by k_asm) (by k_asm) (by exact Nat.le_of_ble_eq_true rfl) ?_; k_whole); intro D' h' F' N' l1; (try k_sweep); (try ((with_reducible show wpAny _ _ _ _ _ _); k_gentoks)))) | ((with_reducible show wpAny _ _ (subscriptTail _ _ (Value.ref _) (Value.int _ _)) _ _ _); first | (with_unfolding_all (refine itemT (by k_asm) (by with_reducible assumption) (by decide) (by decide) (by rfl) ?_ (by with_unfolding_all rfl); k_whole); (try ((with_reducible show wpAny _ _ _ _ _ _); k_gentoks))) | (with_unfolding_all (refine itemC (by k_asm) (by with_reducible assumption) (by decide) (by decide) (by rfl) ?_ (by with_unfolding_all rfl); k_whole); (try ((with_reducible show wpAny _ _ _ _ _ _); k_gentoks)))) | (k_end; wrow_close) | walk1 | (dsimp only; walk1) | (leave1; (try dsimp only))))
  with_unfolding_all refine' For_turns (by k_asm) ?_
  (w_top off; repeat' (first | (k_unfold; (try dsimp only)) | ((with_reducible show wpAny _ _ (call (Value.ref _) _) _ _ _); first | (k_dflt (refine' call_cls (by k_asm) (by k_asm) (by k_asm) (by k_is) (by k_is) (by k_is) ?_; k_whole; intro x' d' h' F' N' l1 l2; have l3 := lt_two (o := dictOf [] 0) l1 l2; (try k_sweep); refine code_defI (by exact rfl) (by exact rfl) (by exact rfl) (by k_asm) (by k_asm) (by k_asm) (by k_asm) (by k_asm) (by k_is) (by k_is) (by first | exact rm1 (by assumption) (by rfl) | exact rm0 (by assumption) | ktr_room) (by first | exact BindsTo.of_eq rfl | exact binds_K (by k_in) rfl (by k_is) rfl rfl rfl) (by exact locs rfl) ?_ (by exact rfl) (by exact rfl) (by exact rfl) (by decide); k_whole; intro g' L' h' FG' F' N' B' X' T'; (try dsimp only); (try k_lift B'); (try k_fold)); (try ((with_reducible show wpAny _ _ _ _ _ _); k_gentoks))) | ((with_reducible show wpAny _ _ (call (Value.ref 50) _) _ _ _); k_dflt (refine note_call (by k_asm) (by k_asm) (by k_asm) (by k_asm) (by k_asm) (by first | exact rfl | assumption) (by first | exact rm (by assumption) (by rfl) | ktr_room) (by first | exact un3 (by assumption) (by rfl) | ktr_units) (by k_mem) (by k_mem) (by k_mem) (by assumption) (by first | assumption | omega | decide) (by first | assumption | omega) (by first | assumption | omega) (by k_ne) (by k_ne) (by k_ne) (by ((repeat' (first | (with_reducible first | exact Rest.nil | refine' Rest.d1 ?_ | refine' Rest.d2 ?_ | refine' Rest.d3 ?_ | refine' Rest.d4 ?_ | refine' Rest.d5 ?_ | refine' Rest.d6 ?_ | refine' Rest.d7 ?_ | refine' Rest.d8 ?_ | refine' Rest.d9 ?_ | refine' Rest.d10 ?_ | refine' Rest.d11 ?_) | (refine' Rest.keep (by ((repeat' (first | with_reducible exact nea_nil | exact df_all (by with_reducible assumption) | exact df_allm (by with_reducible assumption) (by k_mem) | refine nea_cons (by k_ne) ?_)); done)) ?_) | exact Rest.all (by with_reducible assumption) | exact Rest.all (rest_one (by with_reducible assumption)) | exact Rest.all (rest_two (by with_reducible assumption) (by with_reducible assumption)) | (with_reducible first | refine' Rest.app (by assumption) ?_ | refine' Rest.app (rest_one (by assumption)) ?_ | refine' Rest.app (rest_two (by assumption) (by assumption)) ?_ | refine' Rest.drop ?_))); done)) ?_; k_whole); intro ts' h' tk' F' N' hi'; (try simp only [List.cons_append, List.nil_append, List.append_assoc] at N'); (try k_fold); (try ((with_reducible show wpAny _ _ _ _ _ _); k_gentoks)))) | ((with_reducible show wpAny _ _ (call (Value.type _) _) _ _ _); first | ((with_reducible show wpAny _ _ (call (Value.type _) [Value.ref _]) _ _ _); with_unfolding_all (refine list_copyK (by k_asm) (by k_asm) (by exact list_base (by k_asm) (list_keep (by assumption) (by assumption))) ?_ (by (rw [sizeLine_eq, List.size_toArray]; omega)); k_whole); intro D' c' h' F' N' l1; (try k_sweep); (try ((with_reducible show wpAny _ _ _ _ _ _); k_gentoks)))) | ((with_reducible show wpAny _ _ (call (Value.builtin _) _) _ _ _); first | ((with_reducible show wpAny _ _ (call (Value.builtin "len") [Value.ref _]) _ _ _); with_unfolding_all (refine lenN (by k_asm) (by k_mem) (by first | omega | ((try simp only [List.length_append, List.length_cons, List.length_nil]); omega)) ?_; k_whole); (try ((with_reducible show wpAny _ _ _ _ _ _); k_gentoks)))) | ((with_reducible show wpAny _ _ (binaryOp Operator.Mult (Value.ref _) (Value.int _ _)) _ _ _); first | (k_dflt (refine mulBi (by k_asm) (by k_asm) (by k_mem) (by omega) (by omega) ?_; k_whole); intro D' h' F' N' l1; (try k_sweep); (try ((with_reducible show wpAny _ _ _ _ _ _); k_gentoks)))) | ((with_reducible show wpAny _ _ (newTuple _) _ _ _); first | (k_dflt (refine newTupleM (by k_asm) (by k_asm) (by exact Nat.le_of_ble_eq_true rfl) ?_; k_whole); intro D' h' F' N' l1; (try k_sweep); (try ((with_reducible show wpAny _ _ _ _ _ _); k_gentoks)))) | ((with_reducible show wpAny _ _ (newList _) _ _ _); first | (k_dflt (refine newListM (by k_asm) (by k_asm) (by exact Nat.le_of_ble_eq_true rfl) ?_; k_whole); intro D' h' F' N' l1; (try k_sweep); (try ((with_reducible show wpAny _ _ _ _ _ _); k_gentoks)))) | ((with_reducible show wpAny _ _ (subscriptTail _ _ (Value.ref _) (Value.int _ _)) _ _ _); first | (with_unfolding_all (refine itemT (by k_asm) (by with_reducible assumption) (by decide) (by decide) (by rfl) ?_ (by with_unfolding_all rfl); k_whole); (try ((with_reducible show wpAny _ _ _ _ _ _); k_gentoks))) | (with_unfolding_all (refine itemC (by k_asm) (by with_reducible assumption) (by decide) (by decide) (by rfl) ?_ (by with_unfolding_all rfl); k_whole); (try ((with_reducible show wpAny _ _ _ _ _ _); k_gentoks)))) | (k_end; wrow_close) | walk1 | (dsimp only; walk1) | (leave1; (try dsimp only))))
  with_unfolding_all refine' iter_notes (rk := ⟨_, _, _, _, _, _, _, _⟩) (w0 := List.replicate (rs.length + ps.length) .bi) (rest := [(_, listOf rs.toArray _), (_, listOf ps.toArray _)]) [Str.ofString "place", Str.ofString "way"] ?a1 g3 ?a2 ?a3 ?a4 ?a5 ?a6 ?a7 P ?a8 ?a9 ?_ ?_
  case a1 => rfl
  case a2 => k_asm
  case a3 => k_asm
  case a4 => k_mem
  case a5 => k_mem
  case a6 => k_mem
  case a7 => ((repeat' (first | (with_reducible first | exact sub_nil | exact sub_self | refine sub_app ?_ ?_ | refine sub_cons ?_ ?_) | ((repeat with_reducible first | exact sub_self | exact sub_l sub_self | refine sub_tl ?_ | refine sub_r ?_); done) | ((with_reducible show _ ∈ _); k_mem) | (refine sub_cons (by k_mem) ?_))); done)
  case a8 => rw [show (((rs.length : Nat) : Int) + ((ps.length : Nat) : Int)).toNat = rs.length + ps.length by omega]; exact strs_rep _ _
  case a9 => rw [List.length_replicate]; exact hb
  · intro I it a p x tp tx ts hc ws u h₁ tk₁ mm hp hl V o1 o2 o3 o4 F1 N1
    have o1' := neN o1
    have o2' := neN o2
    have o3' := neN o3
    have o4' := neN (o4 _ (.head _))
    have o5' := neN (o4 _ (.tail _ (.head _)))
    have gT := gz.tup (.tail _ (.tail _ (.tail _ mm)))
    have hl2 : ws.length = rs.length + ps.length := by rw [hl, List.length_replicate]
    rw [List.length_replicate] at hp
    (w_top off; repeat' (first | (k_unfold; (try dsimp only)) | ((with_reducible show wpAny _ _ (call (Value.ref _) _) _ _ _); first | (k_dflt (refine' call_cls (by k_asm) (by k_asm) (by k_asm) (by k_is) (by k_is) (by k_is) ?_; k_whole; intro x' d' h' F' N' l1 l2; have l3 := lt_two (o := dictOf [] 0) l1 l2; (try k_sweep); refine code_defI (by exact rfl) (by exact rfl) (by exact rfl) (by k_asm) (by k_asm) (by k_asm) (by k_asm) (by k_asm) (by k_is) (by k_is) (by first | exact rm1 (by assumption) (by rfl) | exact rm0 (by assumption) | ktr_room) (by first | exact BindsTo.of_eq rfl | exact binds_K (by k_in) rfl (by k_is) rfl rfl rfl) (by exact locs rfl) ?_ (by exact rfl) (by exact rfl) (by exact rfl) (by decide); k_whole; intro g' L' h' FG' F' N' B' X' T'; (try dsimp only); (try k_lift B'); (try k_fold)); (try ((with_reducible show wpAny _ _ _ _ _ _); k_gentoks))) | ((with_reducible show wpAny _ _ (call (Value.ref 50) _) _ _ _); k_dflt (refine note_call (by k_asm) (by k_asm) (by k_asm) (by k_asm) (by k_asm) (by first | exact rfl | assumption) (by first | exact rm (by assumption) (by rfl) | ktr_room) (by first | exact un3 (by assumption) (by rfl) | ktr_units) (by k_mem) (by k_mem) (by k_mem) (by assumption) (by first | assumption | omega | decide) (by first | assumption | omega) (by first | assumption | omega) (by k_ne) (by k_ne) (by k_ne) (by ((repeat' (first | (with_reducible first | exact Rest.nil | refine' Rest.d1 ?_ | refine' Rest.d2 ?_ | refine' Rest.d3 ?_ | refine' Rest.d4 ?_ | refine' Rest.d5 ?_ | refine' Rest.d6 ?_ | refine' Rest.d7 ?_ | refine' Rest.d8 ?_ | refine' Rest.d9 ?_ | refine' Rest.d10 ?_ | refine' Rest.d11 ?_) | (refine' Rest.keep (by ((repeat' (first | with_reducible exact nea_nil | exact df_all (by with_reducible assumption) | exact df_allm (by with_reducible assumption) (by k_mem) | refine nea_cons (by k_ne) ?_)); done)) ?_) | exact Rest.all (by with_reducible assumption) | exact Rest.all (rest_one (by with_reducible assumption)) | exact Rest.all (rest_two (by with_reducible assumption) (by with_reducible assumption)) | (with_reducible first | refine' Rest.app (by assumption) ?_ | refine' Rest.app (rest_one (by assumption)) ?_ | refine' Rest.app (rest_two (by assumption) (by assumption)) ?_ | refine' Rest.drop ?_))); done)) ?_; k_whole); intro ts' h' tk' F' N' hi'; (try simp only [List.cons_append, List.nil_append, List.append_assoc] at N'); (try k_fold); (try ((with_reducible show wpAny _ _ _ _ _ _); k_gentoks)))) | ((with_reducible show wpAny _ _ (call (Value.type _) _) _ _ _); first | ((with_reducible show wpAny _ _ (call (Value.type _) [Value.ref _]) _ _ _); with_unfolding_all (refine list_copyK (by k_asm) (by k_asm) (by exact list_base (by k_asm) (list_keep (by assumption) (by assumption))) ?_ (by (rw [sizeLine_eq, List.size_toArray]; omega)); k_whole); intro D' c' h' F' N' l1; (try k_sweep); (try ((with_reducible show wpAny _ _ _ _ _ _); k_gentoks)))) | ((with_reducible show wpAny _ _ (call (Value.builtin _) _) _ _ _); first | ((with_reducible show wpAny _ _ (call (Value.builtin "len") [Value.ref _]) _ _ _); with_unfolding_all (refine lenN (by k_asm) (by k_mem) (by first | omega | ((try simp only [List.length_append, List.length_cons, List.length_nil]); omega)) ?_; k_whole); (try ((with_reducible show wpAny _ _ _ _ _ _); k_gentoks)))) | ((with_reducible show wpAny _ _ (binaryOp Operator.Mult (Value.ref _) (Value.int _ _)) _ _ _); first | (k_dflt (refine mulBi (by k_asm) (by k_asm) (by k_mem) (by omega) (by omega) ?_; k_whole); intro D' h' F' N' l1; (try k_sweep); (try ((with_reducible show wpAny _ _ _ _ _ _); k_gentoks)))) | ((with_reducible show wpAny _ _ (newTuple _) _ _ _); first | (k_dflt (refine newTupleM (by k_asm) (by k_asm) (by exact Nat.le_of_ble_eq_true rfl) ?_; k_whole); intro D' h' F' N' l1; (try k_sweep); (try ((with_reducible show wpAny _ _ _ _ _ _); k_gentoks)))) | ((with_reducible show wpAny _ _ (newList _) _ _ _); first | (k_dflt (refine newListM (by k_asm) (by k_asm) (by exact Nat.le_of_ble_eq_true rfl) ?_; k_whole); intro D' h' F' N' l1; (try k_sweep); (try ((with_reducible show wpAny _ _ _ _ _ _); k_gentoks)))) | ((with_reducible show wpAny _ _ (subscriptTail _ _ (Value.ref _) (Value.int _ _)) _ _ _); first | (with_unfolding_all (refine itemT (by k_asm) (by with_reducible assumption) (by decide) (by decide) (by rfl) ?_ (by with_unfolding_all rfl); k_whole); (try ((with_reducible show wpAny _ _ _ _ _ _); k_gentoks))) | (with_unfolding_all (refine itemC (by k_asm) (by with_reducible assumption) (by decide) (by decide) (by rfl) ?_ (by with_unfolding_all rfl); k_whole); (try ((with_reducible show wpAny _ _ _ _ _ _); k_gentoks)))) | (k_end; wrow_close) | walk1 | (dsimp only; walk1) | (leave1; (try dsimp only))))
    refine notes_end (by k_asm) (by k_asm) (by k_mem) (by k_mem) (by k_mem) (by k_mem) ?_ o1 o2 o3 o4 (by assumption) ?_
    · ((repeat' (first | (with_reducible first | exact sub_nil | exact sub_self | refine sub_app ?_ ?_ | refine sub_cons ?_ ?_) | ((repeat with_reducible first | exact sub_self | exact sub_l sub_self | refine sub_tl ?_ | refine sub_r ?_); done) | ((with_reducible show _ ∈ _); k_mem) | (refine sub_cons (by k_mem) ?_))); done)
    · intro z hz'
      have h1 : z ≠ Str.ofString "place" := by rintro rfl; revert hz'; decide +kernel
      have h2 : z ≠ Str.ofString "way" := by rintro rfl; revert hz'; decide +kernel
      simp only [if_neg h1, if_neg h2, hz', Bool.false_eq_true, if_false]
  · intro ts' u h' tk V F' N'
    (w_top off; repeat' (first | (k_unfold; (try dsimp only)) | ((with_reducible show wpAny _ _ (call (Value.ref _) _) _ _ _); first | (k_dflt (refine' call_cls (by k_asm) (by k_asm) (by k_asm) (by k_is) (by k_is) (by k_is) ?_; k_whole; intro x' d' h' F' N' l1 l2; have l3 := lt_two (o := dictOf [] 0) l1 l2; (try k_sweep); refine code_defI (by exact rfl) (by exact rfl) (by exact rfl) (by k_asm) (by k_asm) (by k_asm) (by k_asm) (by k_asm) (by k_is) (by k_is) (by first | exact rm1 (by assumption) (by rfl) | exact rm0 (by assumption) | ktr_room) (by first | exact BindsTo.of_eq rfl | exact binds_K (by k_in) rfl (by k_is) rfl rfl rfl) (by exact locs rfl) ?_ (by exact rfl) (by exact rfl) (by exact rfl) (by decide); k_whole; intro g' L' h' FG' F' N' B' X' T'; (try dsimp only); (try k_lift B'); (try k_fold)); (try ((with_reducible show wpAny _ _ _ _ _ _); k_gentoks))) | ((with_reducible show wpAny _ _ (call (Value.ref 50) _) _ _ _); k_dflt (refine note_call (by k_asm) (by k_asm) (by k_asm) (by k_asm) (by k_asm) (by first | exact rfl | assumption) (by first | exact rm (by assumption) (by rfl) | ktr_room) (by first | exact un3 (by assumption) (by rfl) | ktr_units) (by k_mem) (by k_mem) (by k_mem) (by assumption) (by first | assumption | omega | decide) (by first | assumption | omega) (by first | assumption | omega) (by k_ne) (by k_ne) (by k_ne) (by ((repeat' (first | (with_reducible first | exact Rest.nil | refine' Rest.d1 ?_ | refine' Rest.d2 ?_ | refine' Rest.d3 ?_ | refine' Rest.d4 ?_ | refine' Rest.d5 ?_ | refine' Rest.d6 ?_ | refine' Rest.d7 ?_ | refine' Rest.d8 ?_ | refine' Rest.d9 ?_ | refine' Rest.d10 ?_ | refine' Rest.d11 ?_) | (refine' Rest.keep (by ((repeat' (first | with_reducible exact nea_nil | exact df_all (by with_reducible assumption) | exact df_allm (by with_reducible assumption) (by k_mem) | refine nea_cons (by k_ne) ?_)); done)) ?_) | exact Rest.all (by with_reducible assumption) | exact Rest.all (rest_one (by with_reducible assumption)) | exact Rest.all (rest_two (by with_reducible assumption) (by with_reducible assumption)) | (with_reducible first | refine' Rest.app (by assumption) ?_ | refine' Rest.app (rest_one (by assumption)) ?_ | refine' Rest.app (rest_two (by assumption) (by assumption)) ?_ | refine' Rest.drop ?_))); done)) ?_; k_whole); intro ts' h' tk' F' N' hi'; (try simp only [List.cons_append, List.nil_append, List.append_assoc] at N'); (try k_fold); (try ((with_reducible show wpAny _ _ _ _ _ _); k_gentoks)))) | ((with_reducible show wpAny _ _ (call (Value.type _) _) _ _ _); first | ((with_reducible show wpAny _ _ (call (Value.type _) [Value.ref _]) _ _ _); with_unfolding_all (refine list_copyK (by k_asm) (by k_asm) (by exact list_base (by k_asm) (list_keep (by assumption) (by assumption))) ?_ (by (rw [sizeLine_eq, List.size_toArray]; omega)); k_whole); intro D' c' h' F' N' l1; (try k_sweep); (try ((with_reducible show wpAny _ _ _ _ _ _); k_gentoks)))) | ((with_reducible show wpAny _ _ (call (Value.builtin _) _) _ _ _); first | ((with_reducible show wpAny _ _ (call (Value.builtin "len") [Value.ref _]) _ _ _); with_unfolding_all (refine lenN (by k_asm) (by k_mem) (by first | omega | ((try simp only [List.length_append, List.length_cons, List.length_nil]); omega)) ?_; k_whole); (try ((with_reducible show wpAny _ _ _ _ _ _); k_gentoks)))) | ((with_reducible show wpAny _ _ (binaryOp Operator.Mult (Value.ref _) (Value.int _ _)) _ _ _); first | (k_dflt (refine mulBi (by k_asm) (by k_asm) (by k_mem) (by omega) (by omega) ?_; k_whole); intro D' h' F' N' l1; (try k_sweep); (try ((with_reducible show wpAny _ _ _ _ _ _); k_gentoks)))) | ((with_reducible show wpAny _ _ (newTuple _) _ _ _); first | (k_dflt (refine newTupleM (by k_asm) (by k_asm) (by exact Nat.le_of_ble_eq_true rfl) ?_; k_whole); intro D' h' F' N' l1; (try k_sweep); (try ((with_reducible show wpAny _ _ _ _ _ _); k_gentoks)))) | ((with_reducible show wpAny _ _ (newList _) _ _ _); first | (k_dflt (refine newListM (by k_asm) (by k_asm) (by exact Nat.le_of_ble_eq_true rfl) ?_; k_whole); intro D' h' F' N' l1; (try k_sweep); (try ((with_reducible show wpAny _ _ _ _ _ _); k_gentoks)))) | ((with_reducible show wpAny _ _ (subscriptTail _ _ (Value.ref _) (Value.int _ _)) _ _ _); first | (with_unfolding_all (refine itemT (by k_asm) (by with_reducible assumption) (by decide) (by decide) (by rfl) ?_ (by with_unfolding_all rfl); k_whole); (try ((with_reducible show wpAny _ _ _ _ _ _); k_gentoks))) | (with_unfolding_all (refine itemC (by k_asm) (by with_reducible assumption) (by decide) (by decide) (by rfl) ?_ (by with_unfolding_all rfl); k_whole); (try ((with_reducible show wpAny _ _ _ _ _ _); k_gentoks)))) | (k_end; wrow_close) | walk1 | (dsimp only; walk1) | (leave1; (try dsimp only))))
    refine hret _ _ _ _ (by assumption) (by assumption) (keep_of (by assumption) (by assumption)) ⟨_, _, _, _, _, _, _, _, _, _, rfl, V, rfl, fresh0 (by assumption) N', ?_, ?_, ?_, ?_⟩
    all_goals first | assumption | exact lt_all (by assumption) (by k_mem)

/-- a turn that drew a way from the jar -/
theorem comp_turn_way {h₀ : Heap} {L : Addr} {m : Str → Option Value} {I C D jar : Addr} {oI oC : Obj} {ys : List Value} {s₁ : Shared} {h' : Heap} {tk i : Nat} {all led : Led} {ws : List Way} {a : Way} {t : Tok} {jx jy : Int} {jtx jty : Tok}
    (F : Fr h₀ L h' m) (N : News h₀ L h' all) (hJ : (jar, jarO jx jy jtx jty) ∈ all) (hI : (I, oI) ∈ all) (hC : (C, oC) ∈ all) (hD : (D, LCg.lst ys) ∈ all) (hs : ∀ p ∈ led, p ∈ all)
    (j1 : 0 ≤ jx) (j2 : 0 ≤ jy) (j3 : jy < 2147483647) (off : LCg.Off3 I C D led) (r1 : @Ne Nat jar I) (r2 : @Ne Nat jar C) (r3 : @Ne Nat jar D) (hW : StrsAre ys (ws.map Way.s)) (hl : ws.length = i) :
    LCg.CompEnd h₀ L m s₁ I oI C oC D (LCg.lst ys) (fun _ => True) (fun y news' => ∃ x' y' tx' ty' nw', news' = (jar, jarO x' y' tx' ty') :: Cat led nw' ∧ 0 ≤ x' ∧ 0 ≤ y' ∧ y' < 2147483647 ∧ (∀ p ∈ nw', p.1 ≠ jar) ∧ (∀ q ∈ led, ∀ p ∈ nw', p.1 ≠ q.1) ∧ (nw' = [] ∧ ∃ ws : List Way, StrsAre (ys ++ [y]) (ws.map Way.s) ∧ ws.length = i + 1)) (.str a.s t) { s₁ with heap := h', toks := tk } := by
  obtain ⟨o1, o2, o3⟩ := off3_all off
  exact comp_turn_end F N hI hC hD (List.forall_mem_cons.mpr ⟨hJ, hs⟩) (List.forall_mem_cons.mpr ⟨r1, o1⟩) (List.forall_mem_cons.mpr ⟨r2, o2⟩) (List.forall_mem_cons.mpr ⟨r3, o3⟩)
    ⟨_, _, _, _, [], congrArg _ (List.append_nil led).symm, j1, j2, j3, (fun p hp => nomatch hp), (fun q _ p hp => nomatch hp), rfl, ws ++ [a], ways_app hW (ws' := [a]) (.cons _ _ .nil), by rw [List.length_append, hl]; rfl⟩
theorem known_four {vs : List Value} {ws : List Way} (h : StrsAre vs (ws.map Way.s)) (hl : ws.length = 4) : ∃ K : Known, ∃ t0 t1 t2 t3, vs = K.vals t0 t1 t2 t3 := by
  match ws, hl with
  | [a, b, c, d], _ =>
    cases h with
    | cons _ ta h => cases h with
      | cons _ tb h => cases h with
        | cons _ tc h => cases h with
          | cons _ td h => cases h with
            | nil => exact ⟨⟨a, b, c, d⟩, ta, tb, tc, td, rfl⟩
theorem known_ok {w mean mg mb} {jar : Addr} {x y : Int} {tx ty : Tok} (hx : 0 ≤ x) (hy : 0 ≤ y) (hy2 : y < 2147483647) :
    Sp w mean mg mb 148 5 40 [.ref jar] (fun _ => True) [(jar, jarO x y tx ty)] (fun H n' r => ∃ x' y' tx' ty' new ka kk t0 t1 t2 t3, ∃ K : Known, n' = (jar, jarO x' y' tx' ty') :: new ∧ 0 ≤ x' ∧ 0 ≤ y' ∧ y' < 2147483647 ∧ (∀ p ∈ new, H.get? p.1 = none) ∧ r = .ref ka ∧ (ka, listOf (K.vals t0 t1 t2 t3).toArray kk) ∈ new) := by
  unfold Sp Pg LZ
  k_fill
  intro dp un gd cn cs aa ccd cl outer A₀ base h₀ L m s Q E B F X N T hk hd hu hz hret
  refine wpAny_call ?_
  k_dflt (refine code_defCG (by k_asm) (by k_asm) (by k_asm) (by k_asm) (by k_asm) (by exact rfl) (by exact rfl) (by assumption) (by k_is) (by k_is) (by first | exact rm0 (by assumption) | ktr_room) (by exact BindsTo.of_eq rfl) (by exact rfl) (by decide +kernel) ?_ (by exact rfl) (by exact rfl) (by exact rfl); k_whole)
  intro g' L' h' tk' cells' FG' F' N' Y' B' X' T' kG' l1
  k_cells Y'
  (try simp only [List.cons_append, List.nil_append] at N')
  (try dsimp only)
  (try k_fold)
  (try ((with_reducible show wpAny _ _ _ _ _ _); k_gentoks))
  have F9 : Fr g' L' h' (fun _ => none) := F'
  clear F'
  have q1 := far1 (l1 _ (.head _))
  have N9 := news_sub (news := [(jar, jarO x y tx ty), (L' + 1, _)]) N' (by ((repeat' (first | (with_reducible first | exact sub_nil | exact sub_self | refine sub_app ?_ ?_ | refine sub_cons ?_ ?_) | ((repeat with_reducible first | exact sub_self | exact sub_l sub_self | refine sub_tl ?_ | refine sub_r ?_); done) | ((with_reducible show _ ∈ _); k_mem) | (refine sub_cons (by k_mem) ?_))); done))
  clear N'
  (w_top off; repeat' (first | (k_unfold; (try dsimp only)) | ((with_reducible show LCg.CompSrc _ _ _ _ _ _ _ _ _ _ _ _ _ _); first | (k_dflt (refine LCg.CompSrc.range (by rfl) (by k_asm) (by k_asm) (by assumption) (by first | decide | rfl) (by first | rfl | decide) (by first | size_fits | exact Nat.le_of_ble_eq_true rfl) ?_); intro g'; refine halt ?_; (try ((with_reducible show wpAny _ _ _ _ _ _); k_gentoks)))) | (k_end; wrow_close) | walk1 | (dsimp only; walk1) | (leave1; (try dsimp only))))
  unfold Halt
  refine' comp_draws (fun i ys nw => nw = [] ∧ ∃ ws : List Way, StrsAre ys (ws.map Way.s) ∧ ws.length = i) ⟨rfl, [], .nil, rfl⟩ hx hy hy2 (by ((repeat' (first | with_reducible exact neall_nil | with_reducible assumption | with_reducible refine nea_app ?_ ?_ | (refine neall_cons (by k_ne) ?_))); done)) ?y5 ?y6
  case y5 =>
    rintro i v I oI C oC D m₂ ys _ h tk jx jy jtx jty E' hi hv ⟨rfl, ws, hW, hl⟩ b1 b2 b3 hj hq hC hx F9 N9 off ji jc jd p1 p2 p3 z1 z2 z3
    have off' := off
    simp only [LCg.Off3, and_true, and_assoc] at off'
    obtain ⟨o1, o2, o3⟩ := off'
    simp only [List.cons_append, List.nil_append, List.append_nil] at N9
    (w_top off; repeat' (first | (k_unfold; (try dsimp only)) | ((with_reducible show wpAny _ _ (newList _) _ _ _); first | (k_dflt (refine newListM (by k_asm) (by k_asm) (by exact Nat.le_of_ble_eq_true rfl) ?_; k_whole); intro D' h' F' N' l1; (try k_sweep); (try ((with_reducible show wpAny _ _ _ _ _ _); k_gentoks)))) | ((with_reducible show wpAny _ _ (call (Value.ref _) _) _ _ _); first | ((with_reducible show wpAny _ _ (call (Value.ref 129) _) _ _ _); k_dflt (refine one_ways (by k_asm) (by k_asm) (by k_asm) (by k_asm) (by k_asm) (by first | exact rfl | assumption) (by first | exact rm (by assumption) (by rfl) | ktr_room) (by first | exact un3 (by assumption) (by rfl) | ktr_units) (by k_mem) (by ((repeat' (first | (with_reducible first | exact Rest.nil | refine' Rest.d1 ?_ | refine' Rest.d2 ?_ | refine' Rest.d3 ?_ | refine' Rest.d4 ?_ | refine' Rest.d5 ?_ | refine' Rest.d6 ?_ | refine' Rest.d7 ?_ | refine' Rest.d8 ?_ | refine' Rest.d9 ?_ | refine' Rest.d10 ?_ | refine' Rest.d11 ?_) | (refine' Rest.keep (by ((repeat' (first | with_reducible exact nea_nil | exact df_all (by with_reducible assumption) | exact df_allm (by with_reducible assumption) (by k_mem) | refine nea_cons (by k_ne) ?_)); done)) ?_) | exact Rest.all (by with_reducible assumption) | exact Rest.all (rest_one (by with_reducible assumption)) | exact Rest.all (rest_two (by with_reducible assumption) (by with_reducible assumption)) | (with_reducible first | refine' Rest.app (by assumption) ?_ | refine' Rest.app (rest_one (by assumption)) ?_ | refine' Rest.app (rest_two (by assumption) (by assumption)) ?_ | refine' Rest.drop ?_))); done)) (by assumption) (by assumption) (by assumption) (by k_mem) (by first | exact fun _ => mem_ways3 | exact fun _ => mem_ways4) (by exact Nat.le_of_ble_eq_true rfl) (by exact Nat.le_of_ble_eq_true rfl) (by k_ne) ?_; k_whole); intro x' y' tx' ty' a' t' h' tk' F' N' hx' hy' hy2'; (try k_fold); (try ((with_reducible show wpAny _ _ _ _ _ _); k_gentoks)))) | ((with_reducible show LCg.CompEnd _ _ _ _ _ _ _ _ _ _ _ _ _ _); first | (refine halt ?_; (try ((with_reducible show wpAny _ _ _ _ _ _); k_gentoks)))) | (k_end; wrow_close) | walk1 | (dsimp only; walk1) | (leave1; (try dsimp only))))
    unfold Halt
    exact comp_turn_way (by k_asm) (by k_asm) (by k_mem) (by k_mem) (by k_mem) (by k_mem) (by ((repeat' (first | (with_reducible first | exact sub_nil | exact sub_self | refine sub_app ?_ ?_ | refine sub_cons ?_ ?_) | ((repeat with_reducible first | exact sub_self | exact sub_l sub_self | refine sub_tl ?_ | refine sub_r ?_); done) | ((with_reducible show _ ∈ _); k_mem) | (refine sub_cons (by k_mem) ?_))); done)) (by assumption) (by assumption) (by assumption) off ji jc jd hW hl
  case y6 =>
    rintro ys _ jx jy jtx jty b1 b2 b3 hj hq ⟨rfl, ws, hW, hl⟩
    obtain ⟨K, t0, t1, t2, t3, rfl⟩ := known_four hW hl
    (w_top off; repeat' (first | (k_unfold; (try dsimp only)) | ((with_reducible show LCg.FinE _ _ _ _ _ _ _); first | (unfold LCg.FinE; intro D' h' tk' F' N' o1'; have o1' := off1_all o1'; (try simp only [List.nil_append, List.cons_append, List.append_nil] at N' o1'); (try dsimp only); (try ((with_reducible show wpAny _ _ _ _ _ _); k_gentoks)))) | (k_end; wrow_close) | walk1 | (dsimp only; walk1) | (leave1; (try dsimp only))))
    have E9 := end_jar (H := s.heap) (jar := jar) (by assumption) (by assumption) (by assumption) (by ((repeat' (first | (with_reducible first | exact Rest.nil | refine' Rest.d1 ?_ | refine' Rest.d2 ?_ | refine' Rest.d3 ?_ | refine' Rest.d4 ?_ | refine' Rest.d5 ?_ | refine' Rest.d6 ?_ | refine' Rest.d7 ?_ | refine' Rest.d8 ?_ | refine' Rest.d9 ?_ | refine' Rest.d10 ?_ | refine' Rest.d11 ?_) | (refine' Rest.keep (by ((repeat' (first | with_reducible exact nea_nil | exact df_all (by with_reducible assumption) | exact df_allm (by with_reducible assumption) (by k_mem) | refine nea_cons (by k_ne) ?_)); done)) ?_) | exact Rest.all (by with_reducible assumption) | exact Rest.all (rest_one (by with_reducible assumption)) | exact Rest.all (rest_two (by with_reducible assumption) (by with_reducible assumption)) | (with_reducible first | refine' Rest.app (by assumption) ?_ | refine' Rest.app (rest_one (by assumption)) ?_ | refine' Rest.app (rest_two (by assumption) (by assumption)) ?_ | refine' Rest.drop ?_))); done)) (by k_mem)
    refine hret _ _ _ _ (by assumption) E9.1 (keep_of (by assumption) (by assumption)) ⟨_, _, _, _, _, _, _, _, _, _, _, K, rfl, by assumption, by assumption, by assumption, E9.2.1, rfl, by k_mem⟩
theorem off1_of {ka : Addr} : ∀ {l : Led}, (∀ p ∈ l, p.1 ≠ ka) → LCg.Off1 ka l
  | [], _ => trivial
  | _ :: _, h => ⟨h _ (.head _), off1_of fun p hp => h p (.tail _ hp)⟩
theorem known_call {w : World} {mean : ExcName → Option Value} {mg mb : Str → Option Value}
    {dp un : Nat} {gd : Option (List Code)} {cn : Str} {cs : Scope} {aa : Addr} {ccd : Value} {cl : List (Str × Addr)} {outer : List Env} {A₀ : Around} {base h₀ : Heap} {L : Addr} {m : Str → Option Value} {s : Shared} {Q E : Value → Shared → Prop} {led rest : Led}
    {jar : Addr} {x y : Int} {tx ty : Tok}
    (B : Below A₀ base outer h₀) (F : Fr h₀ L s.heap m) (X : (hd.heap_39 w.params).In h₀) (N : News h₀ L s.heap led) (T : Top hd.view_39 LZ mean mg mb h₀) (hk : cs.kind = .function)
    (hd : dp + 5 < recursionLimit) (hu : un + 40 < cLine) (hm : (jar, jarO x y tx ty) ∈ led) (hx : 0 ≤ x) (hy : 0 ≤ y) (hy2 : y < 2147483647) (hr : Rest [jar] led rest)
    (ret : ∀ x' y' tx' ty' ka kk t0 t1 t2 t3 h' tk', ∀ K : Known, Fr h₀ L h' m → News h₀ L h' ((ka, listOf (K.vals t0 t1 t2 t3).toArray kk) :: (jar, jarO x' y' tx' ty') :: rest) → 0 ≤ x' → 0 ≤ y' → y' < 2147483647 → LCg.Off1 ka ((jar, jarO x' y' tx' ty') :: rest) → Q (.ref ka) { s with heap := h', toks := tk' }) :
    wpAny (model Pg w) (ktrTop dp un gd cn cs L aa ccd cl outer) (call (.ref 148) [.ref jar]) Q E s := by
  refine (known_ok hx hy hy2).use (rest := rest) B F X N T hk hd hu (fun p hp => by rw [List.mem_singleton.mp hp]; exact hm) trivial hr ?_
  rintro r news' h' tk' F' N' K' ⟨x', y', tx', ty', new, ka, kk, t0, t1, t2, t3, K, rfl, hx', hy', hy2', hf, rfl, hka⟩
  refine ret x' y' tx' ty' ka kk t0 t1 t2 t3 h' tk' K F' (news_sub N' ?_) hx' hy' hy2' (off1_of ?_)
  · intro p hp
    rcases List.mem_cons.mp hp with rfl | hp
    · exact .tail _ (List.mem_append.mpr (.inl hka))
    · rcases List.mem_cons.mp hp with rfl | hp
      · exact .head _
      · exact .tail _ (List.mem_append.mpr (.inr hp))
  · intro p hp e
    have e0 : s.heap.get? p.1 = none := by rw [e]; exact hf _ hka
    rcases List.mem_cons.mp hp with rfl | hp
    · rw [(N _ hm).1] at e0; cases e0
    · rw [(N _ (hr.ok p hp).1).1] at e0; cases e0

theorem cells_five {cm : Str → Option Value} {n₁ n₂ n₃ n₄ n₅ : Str} {c₁ c₂ c₃ c₄ c₅ : Addr} {cells : List (Addr × Obj)} (x : CellsAre cm [(n₁, c₁), (n₂, c₂), (n₃, c₃), (n₄, c₄), (n₅, c₅)] cells) :
    ∃ o₁ o₂ o₃ o₄ o₅, cells = [(c₁, o₁), (c₂, o₂), (c₃, o₃), (c₄, o₄), (c₅, o₅)] ∧ o₁.data = .cell (cm n₁) ∧ o₂.data = .cell (cm n₂) ∧ o₃.data = .cell (cm n₃) ∧ o₄.data = .cell (cm n₄) ∧ o₅.data = .cell (cm n₅) := by
  cases x with
  | cons h r =>
    obtain ⟨o₂, o₃, o₄, o₅, rfl, h₂, h₃, h₄, h₅⟩ := r.four
    exact ⟨_, o₂, o₃, o₄, o₅, rfl, h, h₂, h₃, h₄, h₅⟩
theorem lawRow_call {w : World} {mean : ExcName → Option Value} {mg mb : Str → Option Value}
    {dp un : Nat} {gd : Option (List Code)} {cn : Str} {cs : Scope} {aa : Addr} {ccd : Value} {cl : List (Str × Addr)} {outer : List Env} {A₀ : Around} {base h₀ : Heap} {L : Addr} {m : Str → Option Value} {s : Shared} {Q E : Value → Shared → Prop} {led rest frz : Led}
    {rl0 pl0 wl : Addr} {pk : Str} {tp : Tok} {rs ps wvs : List Value} {k1 k2 k3 : Nat} {pws : List (Nat × Way)}
    (B : Below A₀ base outer h₀) (F : Fr h₀ L s.heap m) (X : (hd.heap_39 w.params).In h₀) (N : News h₀ L s.heap led) (T : Top hd.view_39 LZ mean mg mb h₀) (hk : cs.kind = .function)
    (hd : dp + 8 < recursionLimit) (hu : un + 80 < cLine) (m1 : (rl0, listOf rs.toArray k1) ∈ led) (m2 : (pl0, listOf ps.toArray k2) ∈ led) (m3 : (wl, listOf wvs.toArray k3) ∈ led) (P : PwIn frz wvs pws) (hf : ∀ p ∈ frz, p ∈ led)
    (h1 : rs.length ≤ 2) (h2 : ps.length ≤ 2) (hb : ∀ z ∈ pws, z.1 < rs.length + ps.length) (hr : Keep [rl0, pl0] led rest)
    (ret : ∀ row dx rl pl tl rk ts n c1 c2 h' tk', Fr h₀ L h' m → News h₀ L h' ((row, instObj 67 dx) :: (dx, rowD rk rl pl tl (pws.foldl stepW (List.replicate (rs.length + ps.length) .bi, false)).2) :: (tl, listOf ts.toArray n) :: (rl, listOf rs.toArray c1) :: (pl, listOf ps.toArray c2) :: rest) →
      StrsAre ts ((pws.foldl stepW (List.replicate (rs.length + ps.length) .bi, false)).1.map Way.s) → @LT.lt Nat _ dx row → @LT.lt Nat _ row rl → @LT.lt Nat _ rl pl → @LT.lt Nat _ pl tl →
      LCg.Off1 row rest → LCg.Off1 dx rest → LCg.Off1 tl rest → LCg.Off1 rl rest → LCg.Off1 pl rest → Q (.ref row) { s with heap := h', toks := tk' }) :
    wpAny (model Pg w) (ktrTop dp un gd cn cs L aa ccd cl outer) (call (.ref 176) [.str pk tp, .ref rl0, .ref pl0, .ref wl]) Q E s := by
  have hz : At s.heap ((rl0, listOf rs.toArray k1) :: (pl0, listOf ps.toArray k2) :: (wl, listOf wvs.toArray k3) :: frz) := fun p hp => by
    rcases List.mem_cons.mp hp with rfl | hp
    · exact (N _ m1).1
    rcases List.mem_cons.mp hp with rfl | hp
    · exact (N _ m2).1
    rcases List.mem_cons.mp hp with rfl | hp
    · exact (N _ m3).1
    · exact (N _ (hf p hp)).1
  refine (lawRow_ok h1 h2 P hb).use (rest := led) B F X N T hk hd hu (fun p hp => nomatch hp) hz (.all fun p _ a ha => nomatch ha) ?_
  rintro r news' h' tk' F' N' K' ⟨row, dx, rl, pl, tl, rk, ts, n, c1, c2, rfl, V, rfl, hfr, l1, l2, l3, l4⟩
  have off : ∀ {a : Addr} {o : Obj}, (a, o) ∈ [(row, instObj 67 dx), (dx, rowD rk rl pl tl (pws.foldl stepW (List.replicate (rs.length + ps.length) .bi, false)).2), (tl, listOf ts.toArray n), (rl, listOf rs.toArray c1), (pl, listOf ps.toArray c2)] → LCg.Off1 a rest := by
    intro a o ho
    refine off1_mk fun p hp e => ?_
    have := hfr _ ho
    rw [← e, (N p (hr.sub p hp)).1] at this
    cases this
  exact ret row dx rl pl tl rk ts n c1 c2 h' tk' F' (news_sub N' (sub_right (l := [_, _, _, _, _]) hr.sub)) V l1 l2 l3 l4 (off (.head _)) (off (.tail _ (.head _))) (off (.tail _ (.tail _ (.head _)))) (off (.tail _ (.tail _ (.tail _ (.head _))))) (off (.tail _ (.tail _ (.tail _ (.tail _ (.head _))))))

theorem right_end {w mean mg mb} {dp un : Nat} {gd : Option (List Code)} {cn : Str} {cs : Scope} {L0 aa : Addr} {ccd : Value} {cl : List (Str × Addr)} {outer : List Env} {base g : Heap} {L : Addr} {m : Str → Option Value} {s : Shared} {Q : Flow → Shared → Prop} {E : Value → Shared → Prop}
    {jar ka rows erow edx erl epl etl row dx rl pl tl nl bl ul : Addr} {jo od oA oK oN : Obj} {K : Known} {t0 t1 t2 t3 e0 e1 e2 e3 : Tok} {kk en n c3 k5 k6 b : Nat} {rk erk : RowK} {hc ehc : Bool} {rs ps ts bvs uvs : List Value} {rgs pgs : List Nm} {pws : List (Nat × Way)} {us : List (Nm × List Way)} {vA : Option Value} {frz : Led}
    (B : Below (ktrTop dp un gd cn cs L0 aa ccd cl outer) base (envX cn cs L0 aa ccd cl :: outer) g) (F : Fr g L s.heap m) (X : (hd.heap_39 w.params).In g) (T : Top hd.view_39 LZ mean mg mb g)
    (N : News g L s.heap ((bl, listOf bvs.toArray k6) :: (jar, jo) :: (row, instObj 67 dx) :: (dx, rowD rk rl pl tl hc) :: (tl, listOf ts.toArray n) :: (nl, listOf (rs ++ ps).toArray c3) :: (erow, instObj 67 edx) :: (edx, rowD erk erl epl etl ehc) :: (etl, listOf (K.vals e0 e1 e2 e3).toArray en) :: (rows, od) :: (ka, listOf (K.vals t0 t1 t2 t3).toArray kk) :: (L + 1 + 1 + 1 + 1, oN) :: (L + 1 + 1 + 1, oA) :: (L + 1 + 1, oK) :: frz))
    (oth : ∀ p ∈ ((bl, listOf bvs.toArray k6) :: (jar, jo) :: (row, instObj 67 dx) :: (dx, rowD rk rl pl tl hc) :: (tl, listOf ts.toArray n) :: (nl, listOf (rs ++ ps).toArray c3) :: (erow, instObj 67 edx) :: (edx, rowD erk erl epl etl ehc) :: (etl, listOf (K.vals e0 e1 e2 e3).toArray en) :: (rows, od) :: (ka, listOf (K.vals t0 t1 t2 t3).toArray kk) :: (L + 1 + 1 + 1 + 1, oN) :: (L + 1 + 1, oK) :: frz : Led), @Ne Nat p.1 (L + 1 + 1 + 1))
    (m1 : m (Str.ofString "row") = some (.ref row)) (m2 : m (Str.ofString "rows") = some (.ref rows)) (m3 : m (Str.ofString "before") = some (.ref bl)) (m4 : m (Str.ofString "uses") = some (.ref ul))
    (dK : oK.data = .cell (some (.ref ka))) (dA : oA.data = .cell vA) (dN : oN.data = .cell (some (.ref nl)))
    (hd : dp + 100 < recursionLimit) (hu : un + 1000 < cLine) (R : RegsV rs rgs) (P : ParsV ps pgs) (hn : (rgs ++ pgs).length = b) (V : StrsAre ts ((dues pws us (rgs ++ pgs) b).map Way.s)) (W : StrsAre bvs ((befores pws b).map Way.s)) (hh : hc = (strictest (dues pws us (rgs ++ pgs) b) != .bi))
    (hod : od.IsDictOf (PySem.strKind Pg w) [(Str.ofString "m::E", .ref erow)]) (U : UsIn frz uvs us) (mu : (ul, listOf uvs.toArray k5) ∈ frz) (zu : us.length < 1000) (zw : ∀ z ∈ us, z.2.length < 200)
    (hE : PassesOwn (model Pg w) ((ktrTop dp un gd cn cs L0 aa ccd cl outer).deeper (envR w L)) (envR w L) E)
    (ret : ∀ h' tk' m', Fr g L h' m' → News g L h' [(jar, jo)] → Q (.ret (.bool true)) { s with heap := h', toks := tk' }) :
    wpAny (model Pg w) ((ktrTop dp un gd cn cs L0 aa ccd cl outer).deeper (envR w L)) (execs (bodyR w 10) (envR w L)) Q E s := by
  unfold Pg LZ at *
  revert X
  k_fill
  intro X
  have F0 : Fr g L s.heap (fun z => if z = Str.ofString "row" then some (.ref row) else if z = Str.ofString "rows" then some (.ref rows) else if z = Str.ofString "before" then some (.ref bl) else if z = Str.ofString "uses" then some (.ref ul) else m z) := by
    have e : m = (fun z => if z = Str.ofString "row" then some (.ref row) else if z = Str.ofString "rows" then some (.ref rows) else if z = Str.ofString "before" then some (.ref bl) else if z = Str.ofString "uses" then some (.ref ul) else m z) := by
      funext z
      by_cases h1 : z = Str.ofString "row"
      · rw [if_pos h1, h1, m1]
      by_cases h2 : z = Str.ofString "rows"
      · rw [if_neg h1, if_pos h2, h2, m2]
      by_cases h3 : z = Str.ofString "before"
      · rw [if_neg h1, if_neg h2, if_pos h3, h3, m3]
      by_cases h4 : z = Str.ofString "uses"
      · rw [if_neg h1, if_neg h2, if_neg h3, if_pos h4, h4, m4]
      rw [if_neg h1, if_neg h2, if_neg h3, if_neg h4]
    rw [← e]; exact F
  clear F m1 m2 m3 m4
  obtain ⟨b9, hb9, nl1, nl2, nl3, nl4⟩ := names_b R P
  have hbb : b9 = b := nl2.symm.trans hn
  subst hbb
  with_unfolding_all show wpAny _ (Around.deeper _ (envOfC _ { kind := _, names := _, isGenerator := _, isCoroutine := _, more := _ } _ _ _)) (execs (_ :: _) (envOfC _ { kind := _, names := _, isGenerator := _, isCoroutine := _, more := _ } _ _ _)) _ _ _
  (w_top off; repeat' (first | (k_unfold; (try dsimp only)) | ((with_reducible show wpAny _ _ (binaryOp _ (Value.ref _) (Value.ref _)) _ _ _); first | (k_dflt (refine addL (by k_asm) (by k_asm) (by first | exact list_base (by k_asm) (by with_reducible assumption) | exact News.isList (by k_asm) (by k_mem)) (by first | exact list_base (by k_asm) (by with_reducible assumption) | exact News.isList (by k_asm) (by k_mem)) (by ((try simp only [List.length_cons, List.length_nil, List.length_append]); omega)) ?_; k_whole); intro D' h' F' N' l1; (try k_sweep); (try ((with_reducible show wpAny _ _ _ _ _ _); k_gentoks)))) | ((with_reducible show wpAny _ _ (call (Value.builtin _) _) _ _ _); first | ((with_reducible show wpAny _ _ (call (Value.builtin "len") [Value.ref _]) _ _ _); with_unfolding_all (refine lenN (by k_asm) (by k_mem) (by first | omega | ((try simp only [List.length_append, List.length_cons, List.length_nil]); omega)) ?_; k_whole); (try ((with_reducible show wpAny _ _ _ _ _ _); k_gentoks))) | ((with_reducible show wpAny _ _ (call (Value.builtin "list.append") [Value.ref _, _]) _ _ _); k_dflt (refine appendM (by k_asm) (by k_asm) (by k_upd) (by first | with_reducible assumption | exact Nat.le_of_ble_eq_true rfl | ((try simp only [List.size_toArray]); omega)) ?_; k_whole); intro h' F' N'; (try k_sweep); (try ((with_reducible show wpAny _ _ _ _ _ _); k_gentoks)))) | ((with_reducible show wpAny _ _ (subscriptTail _ _ (Value.ref _) (Value.int _ _)) _ _ _); first | (with_unfolding_all (refine itemW (by k_asm) (by k_mem) (by assumption) (by omega) (by rw [befores_length]; omega) (by rw [befores_length]; omega) ?_ (by with_unfolding_all rfl); k_whole); intro t'; (try ((with_reducible show wpAny _ _ _ _ _ _); k_gentoks))) | (with_unfolding_all (refine itemN (by k_asm) (by k_mem) (by assumption) (by assumption) (by omega) ?_ (by with_unfolding_all rfl); k_whole); intro t'; (try ((with_reducible show wpAny _ _ _ _ _ _); k_gentoks)))) | ((with_reducible show wpAny _ _ (compareOp CmpOp.Eq _ (Value.str _ _)) _ _ _); first | (with_unfolding_all (refine eq_name (by assumption) (own_names (by assumption) (by assumption) _ (by omega)) ?_; k_whole); (try ((with_reducible show wpAny _ _ _ _ _ _); k_gentoks)))) | ((with_reducible show wpAny _ _ (compareOp CmpOp.Eq (Value.ref _) (Value.ref _)) _ _ _); first | (k_dflt (refine eq_waysT (by exact News.isList (by k_asm) (by k_mem)) (by exact News.isList (by k_asm) (by k_mem)) (by (first | with_reducible assumption | exact Known.vals_are _ _ _ _ _ | exact ways_app (ways_one _ _) (by assumption))) (by (first | with_reducible assumption | exact Known.vals_are _ _ _ _ _ | exact ways_app (ways_one _ _) (by assumption))) (by first | exact un3 (by assumption) (by rfl) | ktr_units) ?_; k_whole); (try ((with_reducible show wpAny _ _ _ _ _ _); k_gentoks)))) | ((with_reducible show wpAny _ _ (compareOp CmpOp.NotEq (Value.str (Way.s _) _) (Value.str _ _)) _ _ _); first | (refine ne_way ?_; (try ((with_reducible show wpAny _ _ _ _ _ _); k_gentoks)))) | ((with_reducible show wpAny _ _ (eval (Expr.ListComp _ [⟨Expr.Tuple _ _ _, _, [_], _⟩] _ _) _) _ _ _); first | (refine halt ?_; (try ((with_reducible show wpAny _ _ _ _ _ _); k_gentoks)))) | ((with_reducible show wpAny _ _ (call (Value.ref _) _) _ _ _); first | ((with_reducible show wpAny _ _ (call (Value.ref 143) _) _ _ _); k_dflt (refine strictest_call (by k_asm) (by k_asm) (by k_asm) (by k_asm) (by k_asm) (by first | exact rfl | assumption) (by first | exact rm (by assumption) (by rfl) | ktr_room) (by first | exact un3 (by assumption) (by rfl) | ktr_units) (by k_mem) (by (first | with_reducible assumption | exact Known.vals_are _ _ _ _ _ | exact ways_app (ways_one _ _) (by assumption))) ?_; k_whole); intro t' h' tk' F' N'; (try k_fold); (try ((with_reducible show wpAny _ _ _ _ _ _); k_gentoks))) | ((with_reducible show wpAny _ _ (call (Value.ref 136) _) _ _ _); k_dflt (refine road_call (by k_asm) (by k_asm) (by k_asm) (by k_asm) (by k_asm) (by first | exact rfl | assumption) (by first | exact rm (by assumption) (by rfl) | ktr_room) (by first | exact un3 (by assumption) (by rfl) | ktr_units) (by k_mem) (by (first | with_reducible assumption | exact Known.vals_are _ _ _ _ _ | exact ways_app (ways_one _ _) (by assumption))) ?_; k_whole); intro t' h' tk' F' N'; (try k_fold); (try ((with_reducible show wpAny _ _ _ _ _ _); k_gentoks)))) | ((with_reducible show wpAny _ _ (newList _) _ _ _); first | (k_dflt (refine newListM (by k_asm) (by k_asm) (by exact Nat.le_of_ble_eq_true rfl) ?_; k_whole); intro D' h' F' N' l1; (try k_sweep); (try ((with_reducible show wpAny _ _ _ _ _ _); k_gentoks)))) | ((with_reducible show wpAny _ _ (newTuple _) _ _ _); first | (k_dflt (refine newTupleM (by k_asm) (by k_asm) (by exact Nat.le_of_ble_eq_true rfl) ?_; k_whole); intro D' h' F' N' l1; (try k_sweep); (try ((with_reducible show wpAny _ _ _ _ _ _); k_gentoks)))) | (k_end; wrow_close) | walk1 | (dsimp only; walk1) | (leave1; (try dsimp only))))
  with_unfolding_all refine' For_turns (by k_asm) ?_ (hE := hE)
  (w_top off; repeat' (first | (k_unfold; (try dsimp only)) | ((with_reducible show wpAny _ _ (binaryOp _ (Value.ref _) (Value.ref _)) _ _ _); first | (k_dflt (refine addL (by k_asm) (by k_asm) (by first | exact list_base (by k_asm) (by with_reducible assumption) | exact News.isList (by k_asm) (by k_mem)) (by first | exact list_base (by k_asm) (by with_reducible assumption) | exact News.isList (by k_asm) (by k_mem)) (by ((try simp only [List.length_cons, List.length_nil, List.length_append]); omega)) ?_; k_whole); intro D' h' F' N' l1; (try k_sweep); (try ((with_reducible show wpAny _ _ _ _ _ _); k_gentoks)))) | ((with_reducible show wpAny _ _ (call (Value.builtin _) _) _ _ _); first | ((with_reducible show wpAny _ _ (call (Value.builtin "len") [Value.ref _]) _ _ _); with_unfolding_all (refine lenN (by k_asm) (by k_mem) (by first | omega | ((try simp only [List.length_append, List.length_cons, List.length_nil]); omega)) ?_; k_whole); (try ((with_reducible show wpAny _ _ _ _ _ _); k_gentoks))) | ((with_reducible show wpAny _ _ (call (Value.builtin "list.append") [Value.ref _, _]) _ _ _); k_dflt (refine appendM (by k_asm) (by k_asm) (by k_upd) (by first | with_reducible assumption | exact Nat.le_of_ble_eq_true rfl | ((try simp only [List.size_toArray]); omega)) ?_; k_whole); intro h' F' N'; (try k_sweep); (try ((with_reducible show wpAny _ _ _ _ _ _); k_gentoks)))) | ((with_reducible show wpAny _ _ (subscriptTail _ _ (Value.ref _) (Value.int _ _)) _ _ _); first | (with_unfolding_all (refine itemW (by k_asm) (by k_mem) (by assumption) (by omega) (by rw [befores_length]; omega) (by rw [befores_length]; omega) ?_ (by with_unfolding_all rfl); k_whole); intro t'; (try ((with_reducible show wpAny _ _ _ _ _ _); k_gentoks))) | (with_unfolding_all (refine itemN (by k_asm) (by k_mem) (by assumption) (by assumption) (by omega) ?_ (by with_unfolding_all rfl); k_whole); intro t'; (try ((with_reducible show wpAny _ _ _ _ _ _); k_gentoks)))) | ((with_reducible show wpAny _ _ (compareOp CmpOp.Eq _ (Value.str _ _)) _ _ _); first | (with_unfolding_all (refine eq_name (by assumption) (own_names (by assumption) (by assumption) _ (by omega)) ?_; k_whole); (try ((with_reducible show wpAny _ _ _ _ _ _); k_gentoks)))) | ((with_reducible show wpAny _ _ (compareOp CmpOp.Eq (Value.ref _) (Value.ref _)) _ _ _); first | (k_dflt (refine eq_waysT (by exact News.isList (by k_asm) (by k_mem)) (by exact News.isList (by k_asm) (by k_mem)) (by (first | with_reducible assumption | exact Known.vals_are _ _ _ _ _ | exact ways_app (ways_one _ _) (by assumption))) (by (first | with_reducible assumption | exact Known.vals_are _ _ _ _ _ | exact ways_app (ways_one _ _) (by assumption))) (by first | exact un3 (by assumption) (by rfl) | ktr_units) ?_; k_whole); (try ((with_reducible show wpAny _ _ _ _ _ _); k_gentoks)))) | ((with_reducible show wpAny _ _ (compareOp CmpOp.NotEq (Value.str (Way.s _) _) (Value.str _ _)) _ _ _); first | (refine ne_way ?_; (try ((with_reducible show wpAny _ _ _ _ _ _); k_gentoks)))) | ((with_reducible show wpAny _ _ (eval (Expr.ListComp _ [⟨Expr.Tuple _ _ _, _, [_], _⟩] _ _) _) _ _ _); first | (refine halt ?_; (try ((with_reducible show wpAny _ _ _ _ _ _); k_gentoks)))) | ((with_reducible show wpAny _ _ (call (Value.ref _) _) _ _ _); first | ((with_reducible show wpAny _ _ (call (Value.ref 143) _) _ _ _); k_dflt (refine strictest_call (by k_asm) (by k_asm) (by k_asm) (by k_asm) (by k_asm) (by first | exact rfl | assumption) (by first | exact rm (by assumption) (by rfl) | ktr_room) (by first | exact un3 (by assumption) (by rfl) | ktr_units) (by k_mem) (by (first | with_reducible assumption | exact Known.vals_are _ _ _ _ _ | exact ways_app (ways_one _ _) (by assumption))) ?_; k_whole); intro t' h' tk' F' N'; (try k_fold); (try ((with_reducible show wpAny _ _ _ _ _ _); k_gentoks))) | ((with_reducible show wpAny _ _ (call (Value.ref 136) _) _ _ _); k_dflt (refine road_call (by k_asm) (by k_asm) (by k_asm) (by k_asm) (by k_asm) (by first | exact rfl | assumption) (by first | exact rm (by assumption) (by rfl) | ktr_room) (by first | exact un3 (by assumption) (by rfl) | ktr_units) (by k_mem) (by (first | with_reducible assumption | exact Known.vals_are _ _ _ _ _ | exact ways_app (ways_one _ _) (by assumption))) ?_; k_whole); intro t' h' tk' F' N'; (try k_fold); (try ((with_reducible show wpAny _ _ _ _ _ _); k_gentoks)))) | ((with_reducible show wpAny _ _ (newList _) _ _ _); first | (k_dflt (refine newListM (by k_asm) (by k_asm) (by exact Nat.le_of_ble_eq_true rfl) ?_; k_whole); intro D' h' F' N' l1; (try k_sweep); (try ((with_reducible show wpAny _ _ _ _ _ _); k_gentoks)))) | ((with_reducible show wpAny _ _ (newTuple _) _ _ _); first | (k_dflt (refine newTupleM (by k_asm) (by k_asm) (by exact Nat.le_of_ble_eq_true rfl) ?_; k_whole); intro D' h' F' N' l1; (try k_sweep); (try ((with_reducible show wpAny _ _ _ _ _ _); k_gentoks)))) | (k_end; wrow_close) | walk1 | (dsimp only; walk1) | (leave1; (try dsimp only))))
  rename News _ _ _ _ => N9
  obtain ⟨du, rfl⟩ := name_head N9
  have fD : ∀ p ∈ frz, p.1 ≠ du := fun p hp => Nat.ne_of_lt (l1 p (by k_mem))
  rename IsRange _ _ _ _ _ _ _ _ => rg
  rw [nl1] at rg
  rename Fr _ _ _ _ => F9
  obtain ⟨m9, hm9⟩ := fr_map F9
  rw [← hm9] at F9
  with_unfolding_all refine' iter_range (n := b9) (led := (du, listOf ([] : List Value).toArray 0) :: (L + 1 + 1 + 1, oA) :: (bl, listOf bvs.toArray k6) :: (jar, jo) :: (row, instObj 67 dx) :: (dx, rowD rk rl pl tl hc) :: (tl, listOf ts.toArray n) :: (nl, listOf (rs ++ ps).toArray c3) :: (erow, instObj 67 edx) :: (edx, rowD erk erl epl etl ehc) :: (etl, listOf (K.vals e0 e1 e2 e3).toArray en) :: (rows, od) :: (ka, listOf (K.vals t0 t1 t2 t3).toArray kk) :: (L + 1 + 1 + 1 + 1, oN) :: (L + 1 + 1, oK) :: frz) ?a1 rg ?a2 ?a3 ?a4 (DueJ du (L + 1 + 1 + 1) ((bl, listOf bvs.toArray k6) :: (jar, jo) :: (row, instObj 67 dx) :: (dx, rowD rk rl pl tl hc) :: (tl, listOf ts.toArray n) :: (nl, listOf (rs ++ ps).toArray c3) :: (erow, instObj 67 edx) :: (edx, rowD erk erl epl etl ehc) :: (etl, listOf (K.vals e0 e1 e2 e3).toArray en) :: (rows, od) :: (ka, listOf (K.vals t0 t1 t2 t3).toArray kk) :: (L + 1 + 1 + 1 + 1, oN) :: (L + 1 + 1, oK) :: frz) pws us (rgs ++ pgs) m9) ?a5 ?_ ?_
  case a1 => rfl
  case a2 => omega
  case a3 => exact F9
  case a4 => exact news_sub N9 (by ((repeat' (first | (with_reducible first | exact sub_nil | exact sub_self | refine sub_app ?_ ?_ | refine sub_cons ?_ ?_) | ((repeat with_reducible first | exact sub_self | exact sub_l sub_self | refine sub_tl ?_ | refine sub_r ?_); done) | ((with_reducible show _ ∈ _); k_mem) | (refine sub_cons (by k_mem) ?_))); done))
  case a5 => exact ⟨_, _, _, _, rfl, dA, .nil, rfl⟩
  · rintro I it i tt _ _ h₁ tk₁ hi ⟨dvs, kd, oA2, vA2, rfl, dA2, V2, rfl⟩ hoff F1 N1
    clear dA N9 F9
    rw [hm9] at F1
    have hdl : dvs.length = i := by rw [ways_len V2, dues_length]
    have hdz : dvs.toArray.size ≤ 16384 := by rw [List.size_toArray]; omega
    (w_top off; repeat' (first | (k_unfold; (try dsimp only)) | ((with_reducible show wpAny _ _ (binaryOp _ (Value.ref _) (Value.ref _)) _ _ _); first | (k_dflt (refine addL (by k_asm) (by k_asm) (by first | exact list_base (by k_asm) (by with_reducible assumption) | exact News.isList (by k_asm) (by k_mem)) (by first | exact list_base (by k_asm) (by with_reducible assumption) | exact News.isList (by k_asm) (by k_mem)) (by ((try simp only [List.length_cons, List.length_nil, List.length_append]); omega)) ?_; k_whole); intro D' h' F' N' l1; (try k_sweep); (try ((with_reducible show wpAny _ _ _ _ _ _); k_gentoks)))) | ((with_reducible show wpAny _ _ (call (Value.builtin _) _) _ _ _); first | ((with_reducible show wpAny _ _ (call (Value.builtin "len") [Value.ref _]) _ _ _); with_unfolding_all (refine lenN (by k_asm) (by k_mem) (by first | omega | ((try simp only [List.length_append, List.length_cons, List.length_nil]); omega)) ?_; k_whole); (try ((with_reducible show wpAny _ _ _ _ _ _); k_gentoks))) | ((with_reducible show wpAny _ _ (call (Value.builtin "list.append") [Value.ref _, _]) _ _ _); k_dflt (refine appendM (by k_asm) (by k_asm) (by k_upd) (by first | with_reducible assumption | exact Nat.le_of_ble_eq_true rfl | ((try simp only [List.size_toArray]); omega)) ?_; k_whole); intro h' F' N'; (try k_sweep); (try ((with_reducible show wpAny _ _ _ _ _ _); k_gentoks)))) | ((with_reducible show wpAny _ _ (subscriptTail _ _ (Value.ref _) (Value.int _ _)) _ _ _); first | (with_unfolding_all (refine itemW (by k_asm) (by k_mem) (by assumption) (by omega) (by rw [befores_length]; omega) (by rw [befores_length]; omega) ?_ (by with_unfolding_all rfl); k_whole); intro t'; (try ((with_reducible show wpAny _ _ _ _ _ _); k_gentoks))) | (with_unfolding_all (refine itemN (by k_asm) (by k_mem) (by assumption) (by assumption) (by omega) ?_ (by with_unfolding_all rfl); k_whole); intro t'; (try ((with_reducible show wpAny _ _ _ _ _ _); k_gentoks)))) | ((with_reducible show wpAny _ _ (compareOp CmpOp.Eq _ (Value.str _ _)) _ _ _); first | (with_unfolding_all (refine eq_name (by assumption) (own_names (by assumption) (by assumption) _ (by omega)) ?_; k_whole); (try ((with_reducible show wpAny _ _ _ _ _ _); k_gentoks)))) | ((with_reducible show wpAny _ _ (compareOp CmpOp.Eq (Value.ref _) (Value.ref _)) _ _ _); first | (k_dflt (refine eq_waysT (by exact News.isList (by k_asm) (by k_mem)) (by exact News.isList (by k_asm) (by k_mem)) (by (first | with_reducible assumption | exact Known.vals_are _ _ _ _ _ | exact ways_app (ways_one _ _) (by assumption))) (by (first | with_reducible assumption | exact Known.vals_are _ _ _ _ _ | exact ways_app (ways_one _ _) (by assumption))) (by first | exact un3 (by assumption) (by rfl) | ktr_units) ?_; k_whole); (try ((with_reducible show wpAny _ _ _ _ _ _); k_gentoks)))) | ((with_reducible show wpAny _ _ (compareOp CmpOp.NotEq (Value.str (Way.s _) _) (Value.str _ _)) _ _ _); first | (refine ne_way ?_; (try ((with_reducible show wpAny _ _ _ _ _ _); k_gentoks)))) | ((with_reducible show wpAny _ _ (eval (Expr.ListComp _ [⟨Expr.Tuple _ _ _, _, [_], _⟩] _ _) _) _ _ _); first | (refine halt ?_; (try ((with_reducible show wpAny _ _ _ _ _ _); k_gentoks)))) | ((with_reducible show wpAny _ _ (call (Value.ref _) _) _ _ _); first | ((with_reducible show wpAny _ _ (call (Value.ref 143) _) _ _ _); k_dflt (refine strictest_call (by k_asm) (by k_asm) (by k_asm) (by k_asm) (by k_asm) (by first | exact rfl | assumption) (by first | exact rm (by assumption) (by rfl) | ktr_room) (by first | exact un3 (by assumption) (by rfl) | ktr_units) (by k_mem) (by (first | with_reducible assumption | exact Known.vals_are _ _ _ _ _ | exact ways_app (ways_one _ _) (by assumption))) ?_; k_whole); intro t' h' tk' F' N'; (try k_fold); (try ((with_reducible show wpAny _ _ _ _ _ _); k_gentoks))) | ((with_reducible show wpAny _ _ (call (Value.ref 136) _) _ _ _); k_dflt (refine road_call (by k_asm) (by k_asm) (by k_asm) (by k_asm) (by k_asm) (by first | exact rfl | assumption) (by first | exact rm (by assumption) (by rfl) | ktr_room) (by first | exact un3 (by assumption) (by rfl) | ktr_units) (by k_mem) (by (first | with_reducible assumption | exact Known.vals_are _ _ _ _ _ | exact ways_app (ways_one _ _) (by assumption))) ?_; k_whole); intro t' h' tk' F' N'; (try k_fold); (try ((with_reducible show wpAny _ _ _ _ _ _); k_gentoks)))) | ((with_reducible show wpAny _ _ (newList _) _ _ _); first | (k_dflt (refine newListM (by k_asm) (by k_asm) (by exact Nat.le_of_ble_eq_true rfl) ?_; k_whole); intro D' h' F' N' l1; (try k_sweep); (try ((with_reducible show wpAny _ _ _ _ _ _); k_gentoks)))) | ((with_reducible show wpAny _ _ (newTuple _) _ _ _); first | (k_dflt (refine newTupleM (by k_asm) (by k_asm) (by exact Nat.le_of_ble_eq_true rfl) ?_; k_whole); intro D' h' F' N' l1; (try k_sweep); (try ((with_reducible show wpAny _ _ _ _ _ _); k_gentoks)))) | (k_end; wrow_close) | walk1 | (dsimp only; walk1) | (leave1; (try dsimp only))))
    unfold Halt
    refine' comp_pairs ?f1 ?f2 ?f3 ?f4 ?f5 ?f6 ?f7 ?f8 ?f9 ?f10 ?f11 ?f12 ?f13 (UV frz us) ?f14 (fun j zs => StrsAre zs ((roadsOf (us.take j) ((rgs ++ pgs).getD i .ra)).map Way.s)) ?f15 ?f16 ?f17
    case f10 => k_asm
    case f11 => k_asm
    case f1 => rfl
    case f2 => with_unfolding_all rfl
    case f3 => decide
    case f4 => rfl
    case f5 => decide
    case f6 => rfl
    case f7 => rfl
    case f8 => decide +kernel
    case f9 =>
      intro Q' hQ'
      walk1
      exact hQ'
    case f12 => k_mem
    case f13 => rw [U.length]; omega
    case f14 => exact us_pairs U (by ((repeat' (first | (with_reducible first | exact sub_nil | exact sub_self | refine sub_app ?_ ?_ | refine sub_cons ?_ ?_) | ((repeat with_reducible first | exact sub_self | exact sub_l sub_self | refine sub_tl ?_ | refine sub_r ?_); done) | ((with_reducible show _ ∈ _); k_mem) | (refine sub_cons (by k_mem) ?_))); done))
    case f15 => exact .nil
    case f16 =>
      rintro j t9 a9 b9' I9 oI9 C9 oC9 D9 m9 zs h9 tk9 E9 hj9 ⟨x9, ws9, q9, wv9, k9, hx9, rfl, hm9, hw9, hu9⟩ hz9 hC9 hx9a hx9b F10 N10 off9 ne9
      have hwl : ws9.length < 200 := zw _ (List.mem_of_getElem? hu9)
      (w_top off; repeat' (first | (k_unfold; (try dsimp only)) | ((with_reducible show wpAny _ _ (binaryOp _ (Value.ref _) (Value.ref _)) _ _ _); first | (k_dflt (refine addL (by k_asm) (by k_asm) (by first | exact list_base (by k_asm) (by with_reducible assumption) | exact News.isList (by k_asm) (by k_mem)) (by first | exact list_base (by k_asm) (by with_reducible assumption) | exact News.isList (by k_asm) (by k_mem)) (by ((try simp only [List.length_cons, List.length_nil, List.length_append]); omega)) ?_; k_whole); intro D' h' F' N' l1; (try k_sweep); (try ((with_reducible show wpAny _ _ _ _ _ _); k_gentoks)))) | ((with_reducible show wpAny _ _ (call (Value.builtin _) _) _ _ _); first | ((with_reducible show wpAny _ _ (call (Value.builtin "len") [Value.ref _]) _ _ _); with_unfolding_all (refine lenN (by k_asm) (by k_mem) (by first | omega | ((try simp only [List.length_append, List.length_cons, List.length_nil]); omega)) ?_; k_whole); (try ((with_reducible show wpAny _ _ _ _ _ _); k_gentoks))) | ((with_reducible show wpAny _ _ (call (Value.builtin "list.append") [Value.ref _, _]) _ _ _); k_dflt (refine appendM (by k_asm) (by k_asm) (by k_upd) (by first | with_reducible assumption | exact Nat.le_of_ble_eq_true rfl | ((try simp only [List.size_toArray]); omega)) ?_; k_whole); intro h' F' N'; (try k_sweep); (try ((with_reducible show wpAny _ _ _ _ _ _); k_gentoks)))) | ((with_reducible show wpAny _ _ (subscriptTail _ _ (Value.ref _) (Value.int _ _)) _ _ _); first | (with_unfolding_all (refine itemW (by k_asm) (by k_mem) (by assumption) (by omega) (by rw [befores_length]; omega) (by rw [befores_length]; omega) ?_ (by with_unfolding_all rfl); k_whole); intro t'; (try ((with_reducible show wpAny _ _ _ _ _ _); k_gentoks))) | (with_unfolding_all (refine itemN (by k_asm) (by k_mem) (by assumption) (by assumption) (by omega) ?_ (by with_unfolding_all rfl); k_whole); intro t'; (try ((with_reducible show wpAny _ _ _ _ _ _); k_gentoks)))) | ((with_reducible show wpAny _ _ (compareOp CmpOp.Eq _ (Value.str _ _)) _ _ _); first | (with_unfolding_all (refine eq_name (by assumption) (own_names (by assumption) (by assumption) _ (by omega)) ?_; k_whole); (try ((with_reducible show wpAny _ _ _ _ _ _); k_gentoks)))) | ((with_reducible show wpAny _ _ (compareOp CmpOp.Eq (Value.ref _) (Value.ref _)) _ _ _); first | (k_dflt (refine eq_waysT (by exact News.isList (by k_asm) (by k_mem)) (by exact News.isList (by k_asm) (by k_mem)) (by (first | with_reducible assumption | exact Known.vals_are _ _ _ _ _ | exact ways_app (ways_one _ _) (by assumption))) (by (first | with_reducible assumption | exact Known.vals_are _ _ _ _ _ | exact ways_app (ways_one _ _) (by assumption))) (by first | exact un3 (by assumption) (by rfl) | ktr_units) ?_; k_whole); (try ((with_reducible show wpAny _ _ _ _ _ _); k_gentoks)))) | ((with_reducible show wpAny _ _ (compareOp CmpOp.NotEq (Value.str (Way.s _) _) (Value.str _ _)) _ _ _); first | (refine ne_way ?_; (try ((with_reducible show wpAny _ _ _ _ _ _); k_gentoks)))) | ((with_reducible show wpAny _ _ (eval (Expr.ListComp _ [⟨Expr.Tuple _ _ _, _, [_], _⟩] _ _) _) _ _ _); first | (refine halt ?_; (try ((with_reducible show wpAny _ _ _ _ _ _); k_gentoks)))) | ((with_reducible show wpAny _ _ (call (Value.ref _) _) _ _ _); first | ((with_reducible show wpAny _ _ (call (Value.ref 143) _) _ _ _); k_dflt (refine strictest_call (by k_asm) (by k_asm) (by k_asm) (by k_asm) (by k_asm) (by first | exact rfl | assumption) (by first | exact rm (by assumption) (by rfl) | ktr_room) (by first | exact un3 (by assumption) (by rfl) | ktr_units) (by k_mem) (by (first | with_reducible assumption | exact Known.vals_are _ _ _ _ _ | exact ways_app (ways_one _ _) (by assumption))) ?_; k_whole); intro t' h' tk' F' N'; (try k_fold); (try ((with_reducible show wpAny _ _ _ _ _ _); k_gentoks))) | ((with_reducible show wpAny _ _ (call (Value.ref 136) _) _ _ _); k_dflt (refine road_call (by k_asm) (by k_asm) (by k_asm) (by k_asm) (by k_asm) (by first | exact rfl | assumption) (by first | exact rm (by assumption) (by rfl) | ktr_room) (by first | exact un3 (by assumption) (by rfl) | ktr_units) (by k_mem) (by (first | with_reducible assumption | exact Known.vals_are _ _ _ _ _ | exact ways_app (ways_one _ _) (by assumption))) ?_; k_whole); intro t' h' tk' F' N'; (try k_fold); (try ((with_reducible show wpAny _ _ _ _ _ _); k_gentoks)))) | ((with_reducible show wpAny _ _ (newList _) _ _ _); first | (k_dflt (refine newListM (by k_asm) (by k_asm) (by exact Nat.le_of_ble_eq_true rfl) ?_; k_whole); intro D' h' F' N' l1; (try k_sweep); (try ((with_reducible show wpAny _ _ _ _ _ _); k_gentoks)))) | ((with_reducible show wpAny _ _ (newTuple _) _ _ _); first | (k_dflt (refine newTupleM (by k_asm) (by k_asm) (by exact Nat.le_of_ble_eq_true rfl) ?_; k_whole); intro D' h' F' N' l1; (try k_sweep); (try ((with_reducible show wpAny _ _ _ _ _ _); k_gentoks)))) | (k_end; wrow_close) | walk1 | (dsimp only; walk1) | (leave1; (try dsimp only))))
      · exact ⟨_, _, rfl, by k_asm, by k_asm, by rw [roads_yes hu9 (by assumption)]; exact ways_snoc hz9 _ _⟩
      · exact ⟨_, _, rfl, F10, N10, by rw [roads_no hu9 (by assumption)]; exact hz9⟩
    case f17 =>
      intro D9 zs h9 tk9 hz9 F10 N10 off9
      rw [U.length, List.take_length] at hz9
      have hzl : zs.length ≤ us.length := by rw [ways_len hz9]; exact roads_length _ _
      have off9 := off1_all off9
      (w_top off; repeat' (first | (k_unfold; (try dsimp only)) | ((with_reducible show wpAny _ _ (binaryOp _ (Value.ref _) (Value.ref _)) _ _ _); first | (k_dflt (refine addL (by k_asm) (by k_asm) (by first | exact list_base (by k_asm) (by with_reducible assumption) | exact News.isList (by k_asm) (by k_mem)) (by first | exact list_base (by k_asm) (by with_reducible assumption) | exact News.isList (by k_asm) (by k_mem)) (by ((try simp only [List.length_cons, List.length_nil, List.length_append]); omega)) ?_; k_whole); intro D' h' F' N' l1; (try k_sweep); (try ((with_reducible show wpAny _ _ _ _ _ _); k_gentoks)))) | ((with_reducible show wpAny _ _ (call (Value.builtin _) _) _ _ _); first | ((with_reducible show wpAny _ _ (call (Value.builtin "len") [Value.ref _]) _ _ _); with_unfolding_all (refine lenN (by k_asm) (by k_mem) (by first | omega | ((try simp only [List.length_append, List.length_cons, List.length_nil]); omega)) ?_; k_whole); (try ((with_reducible show wpAny _ _ _ _ _ _); k_gentoks))) | ((with_reducible show wpAny _ _ (call (Value.builtin "list.append") [Value.ref _, _]) _ _ _); k_dflt (refine appendM (by k_asm) (by k_asm) (by k_upd) (by first | with_reducible assumption | exact Nat.le_of_ble_eq_true rfl | ((try simp only [List.size_toArray]); omega)) ?_; k_whole); intro h' F' N'; (try k_sweep); (try ((with_reducible show wpAny _ _ _ _ _ _); k_gentoks)))) | ((with_reducible show wpAny _ _ (subscriptTail _ _ (Value.ref _) (Value.int _ _)) _ _ _); first | (with_unfolding_all (refine itemW (by k_asm) (by k_mem) (by assumption) (by omega) (by rw [befores_length]; omega) (by rw [befores_length]; omega) ?_ (by with_unfolding_all rfl); k_whole); intro t'; (try ((with_reducible show wpAny _ _ _ _ _ _); k_gentoks))) | (with_unfolding_all (refine itemN (by k_asm) (by k_mem) (by assumption) (by assumption) (by omega) ?_ (by with_unfolding_all rfl); k_whole); intro t'; (try ((with_reducible show wpAny _ _ _ _ _ _); k_gentoks)))) | ((with_reducible show wpAny _ _ (compareOp CmpOp.Eq _ (Value.str _ _)) _ _ _); first | (with_unfolding_all (refine eq_name (by assumption) (own_names (by assumption) (by assumption) _ (by omega)) ?_; k_whole); (try ((with_reducible show wpAny _ _ _ _ _ _); k_gentoks)))) | ((with_reducible show wpAny _ _ (compareOp CmpOp.Eq (Value.ref _) (Value.ref _)) _ _ _); first | (k_dflt (refine eq_waysT (by exact News.isList (by k_asm) (by k_mem)) (by exact News.isList (by k_asm) (by k_mem)) (by (first | with_reducible assumption | exact Known.vals_are _ _ _ _ _ | exact ways_app (ways_one _ _) (by assumption))) (by (first | with_reducible assumption | exact Known.vals_are _ _ _ _ _ | exact ways_app (ways_one _ _) (by assumption))) (by first | exact un3 (by assumption) (by rfl) | ktr_units) ?_; k_whole); (try ((with_reducible show wpAny _ _ _ _ _ _); k_gentoks)))) | ((with_reducible show wpAny _ _ (compareOp CmpOp.NotEq (Value.str (Way.s _) _) (Value.str _ _)) _ _ _); first | (refine ne_way ?_; (try ((with_reducible show wpAny _ _ _ _ _ _); k_gentoks)))) | ((with_reducible show wpAny _ _ (eval (Expr.ListComp _ [⟨Expr.Tuple _ _ _, _, [_], _⟩] _ _) _) _ _ _); first | (refine halt ?_; (try ((with_reducible show wpAny _ _ _ _ _ _); k_gentoks)))) | ((with_reducible show wpAny _ _ (call (Value.ref _) _) _ _ _); first | ((with_reducible show wpAny _ _ (call (Value.ref 143) _) _ _ _); k_dflt (refine strictest_call (by k_asm) (by k_asm) (by k_asm) (by k_asm) (by k_asm) (by first | exact rfl | assumption) (by first | exact rm (by assumption) (by rfl) | ktr_room) (by first | exact un3 (by assumption) (by rfl) | ktr_units) (by k_mem) (by (first | with_reducible assumption | exact Known.vals_are _ _ _ _ _ | exact ways_app (ways_one _ _) (by assumption))) ?_; k_whole); intro t' h' tk' F' N'; (try k_fold); (try ((with_reducible show wpAny _ _ _ _ _ _); k_gentoks))) | ((with_reducible show wpAny _ _ (call (Value.ref 136) _) _ _ _); k_dflt (refine road_call (by k_asm) (by k_asm) (by k_asm) (by k_asm) (by k_asm) (by first | exact rfl | assumption) (by first | exact rm (by assumption) (by rfl) | ktr_room) (by first | exact un3 (by assumption) (by rfl) | ktr_units) (by k_mem) (by (first | with_reducible assumption | exact Known.vals_are _ _ _ _ _ | exact ways_app (ways_one _ _) (by assumption))) ?_; k_whole); intro t' h' tk' F' N'; (try k_fold); (try ((with_reducible show wpAny _ _ _ _ _ _); k_gentoks)))) | ((with_reducible show wpAny _ _ (newList _) _ _ _); first | (k_dflt (refine newListM (by k_asm) (by k_asm) (by exact Nat.le_of_ble_eq_true rfl) ?_; k_whole); intro D' h' F' N' l1; (try k_sweep); (try ((with_reducible show wpAny _ _ _ _ _ _); k_gentoks)))) | ((with_reducible show wpAny _ _ (newTuple _) _ _ _); first | (k_dflt (refine newTupleM (by k_asm) (by k_asm) (by exact Nat.le_of_ble_eq_true rfl) ?_; k_whole); intro D' h' F' N' l1; (try k_sweep); (try ((with_reducible show wpAny _ _ _ _ _ _); k_gentoks)))) | (k_end; wrow_close) | walk1 | (dsimp only; walk1) | (leave1; (try dsimp only))))
      refine' due_end (by rw [hm9]; k_asm) (by k_asm) (by k_mem) (by k_mem) (List.push_toArray ..) (by k_mem) (by assumption) ?g1 ?g2 ?g3 ?g4 ?g5
      case g1 => ((repeat' (first | (with_reducible first | exact sub_nil | exact sub_self | refine sub_app ?_ ?_ | refine sub_cons ?_ ?_) | ((repeat with_reducible first | exact sub_self | exact sub_l sub_self | refine sub_tl ?_ | refine sub_r ?_); done) | ((with_reducible show _ ∈ _); k_mem) | (refine sub_cons (by k_mem) ?_))); done)
      case g2 => k_ne
      case g3 => k_ne
      case g4 => exact fun p hp => hoff p (by k_mem)
      case g5 =>
        rw [dues_succ, ← befores_at hi]
        exact ways_snoc V2 _ _
  · rintro h' tk m' led' F' N' ⟨dvs, kd, oA2, vA2, rfl, dA2, V2, rfl⟩
    rw [hm9] at F'
    clear N9 F9 hm9
    (w_top off; repeat' (first | (k_unfold; (try dsimp only)) | ((with_reducible show wpAny _ _ (binaryOp _ (Value.ref _) (Value.ref _)) _ _ _); first | (k_dflt (refine addL (by k_asm) (by k_asm) (by first | exact list_base (by k_asm) (by with_reducible assumption) | exact News.isList (by k_asm) (by k_mem)) (by first | exact list_base (by k_asm) (by with_reducible assumption) | exact News.isList (by k_asm) (by k_mem)) (by ((try simp only [List.length_cons, List.length_nil, List.length_append]); omega)) ?_; k_whole); intro D' h' F' N' l1; (try k_sweep); (try ((with_reducible show wpAny _ _ _ _ _ _); k_gentoks)))) | ((with_reducible show wpAny _ _ (call (Value.builtin _) _) _ _ _); first | ((with_reducible show wpAny _ _ (call (Value.builtin "len") [Value.ref _]) _ _ _); with_unfolding_all (refine lenN (by k_asm) (by k_mem) (by first | omega | ((try simp only [List.length_append, List.length_cons, List.length_nil]); omega)) ?_; k_whole); (try ((with_reducible show wpAny _ _ _ _ _ _); k_gentoks))) | ((with_reducible show wpAny _ _ (call (Value.builtin "list.append") [Value.ref _, _]) _ _ _); k_dflt (refine appendM (by k_asm) (by k_asm) (by k_upd) (by first | with_reducible assumption | exact Nat.le_of_ble_eq_true rfl | ((try simp only [List.size_toArray]); omega)) ?_; k_whole); intro h' F' N'; (try k_sweep); (try ((with_reducible show wpAny _ _ _ _ _ _); k_gentoks)))) | ((with_reducible show wpAny _ _ (subscriptTail _ _ (Value.ref _) (Value.int _ _)) _ _ _); first | (with_unfolding_all (refine itemW (by k_asm) (by k_mem) (by assumption) (by omega) (by rw [befores_length]; omega) (by rw [befores_length]; omega) ?_ (by with_unfolding_all rfl); k_whole); intro t'; (try ((with_reducible show wpAny _ _ _ _ _ _); k_gentoks))) | (with_unfolding_all (refine itemN (by k_asm) (by k_mem) (by assumption) (by assumption) (by omega) ?_ (by with_unfolding_all rfl); k_whole); intro t'; (try ((with_reducible show wpAny _ _ _ _ _ _); k_gentoks)))) | ((with_reducible show wpAny _ _ (compareOp CmpOp.Eq _ (Value.str _ _)) _ _ _); first | (with_unfolding_all (refine eq_name (by assumption) (own_names (by assumption) (by assumption) _ (by omega)) ?_; k_whole); (try ((with_reducible show wpAny _ _ _ _ _ _); k_gentoks)))) | ((with_reducible show wpAny _ _ (compareOp CmpOp.Eq (Value.ref _) (Value.ref _)) _ _ _); first | (k_dflt (refine eq_waysT (by exact News.isList (by k_asm) (by k_mem)) (by exact News.isList (by k_asm) (by k_mem)) (by (first | with_reducible assumption | exact Known.vals_are _ _ _ _ _ | exact ways_app (ways_one _ _) (by assumption))) (by (first | with_reducible assumption | exact Known.vals_are _ _ _ _ _ | exact ways_app (ways_one _ _) (by assumption))) (by first | exact un3 (by assumption) (by rfl) | ktr_units) ?_; k_whole); (try ((with_reducible show wpAny _ _ _ _ _ _); k_gentoks)))) | ((with_reducible show wpAny _ _ (compareOp CmpOp.NotEq (Value.str (Way.s _) _) (Value.str _ _)) _ _ _); first | (refine ne_way ?_; (try ((with_reducible show wpAny _ _ _ _ _ _); k_gentoks)))) | ((with_reducible show wpAny _ _ (eval (Expr.ListComp _ [⟨Expr.Tuple _ _ _, _, [_], _⟩] _ _) _) _ _ _); first | (refine halt ?_; (try ((with_reducible show wpAny _ _ _ _ _ _); k_gentoks)))) | ((with_reducible show wpAny _ _ (call (Value.ref _) _) _ _ _); first | ((with_reducible show wpAny _ _ (call (Value.ref 143) _) _ _ _); k_dflt (refine strictest_call (by k_asm) (by k_asm) (by k_asm) (by k_asm) (by k_asm) (by first | exact rfl | assumption) (by first | exact rm (by assumption) (by rfl) | ktr_room) (by first | exact un3 (by assumption) (by rfl) | ktr_units) (by k_mem) (by (first | with_reducible assumption | exact Known.vals_are _ _ _ _ _ | exact ways_app (ways_one _ _) (by assumption))) ?_; k_whole); intro t' h' tk' F' N'; (try k_fold); (try ((with_reducible show wpAny _ _ _ _ _ _); k_gentoks))) | ((with_reducible show wpAny _ _ (call (Value.ref 136) _) _ _ _); k_dflt (refine road_call (by k_asm) (by k_asm) (by k_asm) (by k_asm) (by k_asm) (by first | exact rfl | assumption) (by first | exact rm (by assumption) (by rfl) | ktr_room) (by first | exact un3 (by assumption) (by rfl) | ktr_units) (by k_mem) (by (first | with_reducible assumption | exact Known.vals_are _ _ _ _ _ | exact ways_app (ways_one _ _) (by assumption))) ?_; k_whole); intro t' h' tk' F' N'; (try k_fold); (try ((with_reducible show wpAny _ _ _ _ _ _); k_gentoks)))) | ((with_reducible show wpAny _ _ (newList _) _ _ _); first | (k_dflt (refine newListM (by k_asm) (by k_asm) (by exact Nat.le_of_ble_eq_true rfl) ?_; k_whole); intro D' h' F' N' l1; (try k_sweep); (try ((with_reducible show wpAny _ _ _ _ _ _); k_gentoks)))) | ((with_reducible show wpAny _ _ (newTuple _) _ _ _); first | (k_dflt (refine newTupleM (by k_asm) (by k_asm) (by exact Nat.le_of_ble_eq_true rfl) ?_; k_whole); intro D' h' F' N' l1; (try k_sweep); (try ((with_reducible show wpAny _ _ _ _ _ _); k_gentoks)))) | (k_end; wrow_close) | walk1 | (dsimp only; walk1) | (leave1; (try dsimp only))))
    · exact ret _ _ _ (by k_asm) (news_sub (by k_asm) (by ((repeat' (first | (with_reducible first | exact sub_nil | exact sub_self | refine sub_app ?_ ?_ | refine sub_cons ?_ ?_) | ((repeat with_reducible first | exact sub_self | exact sub_l sub_self | refine sub_tl ?_ | refine sub_r ?_); done) | ((with_reducible show _ ∈ _); k_mem) | (refine sub_cons (by k_mem) ?_))); done)))
    · have e9 : (hc == (strictest (dues pws us (rgs ++ pgs) b9) != .bi)) = true := by rw [hh]; exact beq_self_eq_true _
      rename (hc == _) = false => h9
      rw [e9] at h9
      cases h9

theorem right_end2 {w mean mg mb} {dp un : Nat} {gd : Option (List Code)} {cn : Str} {cs : Scope} {L0 aa : Addr} {ccd : Value} {cl : List (Str × Addr)} {outer : List Env} {base g : Heap} {L : Addr} {m : Str → Option Value} {s : Shared} {Q : Flow → Shared → Prop} {E : Value → Shared → Prop}
    {jar ka rows erow edx erl epl etl row dx rl pl tl nl bl ul : Addr} {jo od oA oK oN : Obj} {K : Known} {t0 t1 t2 t3 e0 e1 e2 e3 : Tok} {kk en n c3 k5 k6 b : Nat} {rk erk : RowK} {hc ehc : Bool} {rs ps ts bvs uvs : List Value} {rgs pgs : List Nm} {pws : List (Nat × Way)} {us : List (Nm × List Way)} {vA : Option Value} {frz led : Led}
    (B : Below (ktrTop dp un gd cn cs L0 aa ccd cl outer) base (envX cn cs L0 aa ccd cl :: outer) g) (F : Fr g L s.heap m) (X : (hd.heap_39 w.params).In g) (T : Top hd.view_39 LZ mean mg mb g)
    (N : News g L s.heap led) (hs : ∀ p ∈ ([(bl, listOf bvs.toArray k6), (jar, jo), (row, instObj 67 dx), (dx, rowD rk rl pl tl hc), (tl, listOf ts.toArray n), (nl, listOf (rs ++ ps).toArray c3), (erow, instObj 67 edx), (edx, rowD erk erl epl etl ehc), (etl, listOf (K.vals e0 e1 e2 e3).toArray en), (rows, od), (ka, listOf (K.vals t0 t1 t2 t3).toArray kk), (L + 1 + 1 + 1 + 1, oN), (L + 1 + 1 + 1, oA), (L + 1 + 1, oK)] : Led), p ∈ led) (hr : Rest [L + 1 + 1 + 1] led frz) (oth : ∀ p ∈ ([(bl, listOf bvs.toArray k6), (jar, jo), (row, instObj 67 dx), (dx, rowD rk rl pl tl hc), (tl, listOf ts.toArray n), (nl, listOf (rs ++ ps).toArray c3), (erow, instObj 67 edx), (edx, rowD erk erl epl etl ehc), (etl, listOf (K.vals e0 e1 e2 e3).toArray en), (rows, od), (ka, listOf (K.vals t0 t1 t2 t3).toArray kk), (L + 1 + 1 + 1 + 1, oN), (L + 1 + 1, oK)] : Led), @Ne Nat p.1 (L + 1 + 1 + 1))
    (m1 : m (Str.ofString "row") = some (.ref row)) (m2 : m (Str.ofString "rows") = some (.ref rows)) (m3 : m (Str.ofString "before") = some (.ref bl)) (m4 : m (Str.ofString "uses") = some (.ref ul))
    (dK : oK.data = .cell (some (.ref ka))) (dA : oA.data = .cell vA) (dN : oN.data = .cell (some (.ref nl)))
    (hd : dp + 100 < recursionLimit) (hu : un + 1000 < cLine) (R : RegsV rs rgs) (P : ParsV ps pgs) (hn : (rgs ++ pgs).length = b) (V : StrsAre ts ((dues pws us (rgs ++ pgs) b).map Way.s)) (W : StrsAre bvs ((befores pws b).map Way.s)) (hh : hc = (strictest (dues pws us (rgs ++ pgs) b) != .bi))
    (hod : od.IsDictOf (PySem.strKind Pg w) [(Str.ofString "m::E", .ref erow)]) (U : UsIn frz uvs us) (mu : (ul, listOf uvs.toArray k5) ∈ frz) (zu : us.length < 1000) (zw : ∀ z ∈ us, z.2.length < 200)
    (hE : PassesOwn (model Pg w) ((ktrTop dp un gd cn cs L0 aa ccd cl outer).deeper (envR w L)) (envR w L) E)
    (ret : ∀ h' tk' m', Fr g L h' m' → News g L h' [(jar, jo)] → Q (.ret (.bool true)) { s with heap := h', toks := tk' }) :
    wpAny (model Pg w) ((ktrTop dp un gd cn cs L0 aa ccd cl outer).deeper (envR w L)) (execs (bodyR w 10) (envR w L)) Q E s := by
  have N' : News g L s.heap ([(bl, listOf bvs.toArray k6), (jar, jo), (row, instObj 67 dx), (dx, rowD rk rl pl tl hc), (tl, listOf ts.toArray n), (nl, listOf (rs ++ ps).toArray c3), (erow, instObj 67 edx), (edx, rowD erk erl epl etl ehc), (etl, listOf (K.vals e0 e1 e2 e3).toArray en), (rows, od), (ka, listOf (K.vals t0 t1 t2 t3).toArray kk), (L + 1 + 1 + 1 + 1, oN), (L + 1 + 1 + 1, oA), (L + 1 + 1, oK)] ++ frz) := fun p hp => (List.mem_append.mp hp).elim (fun h => N p (hs p h)) fun h => N p (hr.ok p h).1
  have o' : ∀ p ∈ ([(bl, listOf bvs.toArray k6), (jar, jo), (row, instObj 67 dx), (dx, rowD rk rl pl tl hc), (tl, listOf ts.toArray n), (nl, listOf (rs ++ ps).toArray c3), (erow, instObj 67 edx), (edx, rowD erk erl epl etl ehc), (etl, listOf (K.vals e0 e1 e2 e3).toArray en), (rows, od), (ka, listOf (K.vals t0 t1 t2 t3).toArray kk), (L + 1 + 1 + 1 + 1, oN), (L + 1 + 1, oK)] ++ frz : Led), @Ne Nat p.1 (L + 1 + 1 + 1) := fun p hp => (List.mem_append.mp hp).elim (fun h => oth p h) fun h => (hr.ok p h).2 _ (.head _)
  exact right_end B F X T N' o' m1 m2 m3 m4 dK dA dN hd hu R P hn V W hh hod U mu zu zw hE ret

theorem right_tail {w mean mg mb} {dp un : Nat} {gd : Option (List Code)} {cn : Str} {cs : Scope} {L0 aa : Addr} {ccd : Value} {cl : List (Str × Addr)} {outer : List Env} {base g : Heap} {L : Addr} {m : Str → Option Value} {s : Shared} {Q : Flow → Shared → Prop} {E : Value → Shared → Prop}
    {jar ka rows erow edx erl epl etl row dx rl pl tl nl bl : Addr} {od oA oK oN oJ : Obj} {K : Known} {x y : Int} {tx ty tw t0 t1 t2 t3 e0 e1 e2 e3 : Tok} {kk en n c1 c2 c3 k6 b : Nat} {rk erk : RowK} {hc ehc : Bool} {rs ps ts bvs : List Value} {rgs pgs : List Nm} {pws : List (Nat × Way)} {vA : Option Value} {a : Way}
    (B : Below (ktrTop dp un gd cn cs L0 aa ccd cl outer) base (envX cn cs L0 aa ccd cl :: outer) g) (F : Fr g L s.heap m) (X : (hd.heap_39 w.params).In g) (T : Top hd.view_39 LZ mean mg mb g)
    (N : News g L s.heap ((bl, listOf bvs.toArray k6) :: (jar, jarO x y tx ty) :: (row, instObj 67 dx) :: (dx, rowD rk rl pl tl hc) :: (tl, listOf ts.toArray n) :: (rl, listOf rs.toArray c1) :: (pl, listOf ps.toArray c2) :: (nl, listOf (rs ++ ps).toArray c3) :: (erow, instObj 67 edx) :: (edx, rowD erk erl epl etl ehc) :: (etl, listOf (K.vals e0 e1 e2 e3).toArray en) :: (rows, od) :: (ka, listOf (K.vals t0 t1 t2 t3).toArray kk) :: (L + 1 + 1 + 1 + 1, oN) :: (L + 1 + 1 + 1, oA) :: (L + 1 + 1, oK) :: (L + 1, oJ) :: []))
    (ap : Apart row dx rl pl tl)
    (dj : ∀ p ∈ [bl, row, dx, tl, rl, pl, nl, erow, edx, etl, rows, ka, L + 1 + 1 + 1 + 1, L + 1 + 1 + 1, L + 1 + 1, L + 1], Df p jar)
    (d9 : ∀ p ∈ [bl, jar, nl, ka, L + 1 + 1 + 1 + 1, L + 1 + 1 + 1, L + 1 + 1, L + 1, rows, erow, edx, etl], ∀ q ∈ [row, dx, rl, pl, tl], Df p q)
    (da : ∀ p ∈ [bl, jar, row, dx, tl, rl, pl, nl, erow, edx, etl, rows, ka, L + 1 + 1 + 1 + 1, L + 1 + 1, L + 1], Df p (L + 1 + 1 + 1))
    (m1 : m (Str.ofString "row") = some (.ref row)) (m2 : m (Str.ofString "rows") = some (.ref rows)) (m3 : m (Str.ofString "before") = some (.ref bl)) (m4 : m (Str.ofString "start") = some (.str a.s tw))
    (dJ : oJ.data = .cell (some (.ref jar))) (dK : oK.data = .cell (some (.ref ka))) (dA : oA.data = .cell vA) (dN : oN.data = .cell (some (.ref nl)))
    (hd : dp + 110 < recursionLimit) (hu : un + 1200 < cLine) (hx : 0 ≤ x) (hy : 0 ≤ y) (hy2 : y < 2147483647) (R : RegsV rs rgs) (P : ParsV ps pgs) (hn : (rgs ++ pgs).length = b) (V : StrsAre ts ((befores pws b).map Way.s)) (W : StrsAre bvs ((befores pws b).map Way.s)) (hh : hc = (strictest (befores pws b) != .bi))
    (hod : od.IsDictOf (PySem.strKind Pg w) [(Str.ofString "m::E", .ref erow)])
    (hE : PassesOwn (model Pg w) ((ktrTop dp un gd cn cs L0 aa ccd cl outer).deeper (envR w L)) (envR w L) E)
    (ret : ∀ h' tk' m' jx jy jtx jty, Fr g L h' m' → News g L h' [(jar, jarO jx jy jtx jty)] → Q (.ret (.bool true)) { s with heap := h', toks := tk' }) :
    wpAny (model Pg w) ((ktrTop dp un gd cn cs L0 aa ccd cl outer).deeper (envR w L)) (execs (bodyR w 8) (envR w L)) Q E s := by
  subst hh
  have T2 : TypeSpec w mean mg mb 2 := type_succ 1 (type_succ 0 type_zero)
  unfold Pg LZ at *
  revert X
  k_fill
  intro X
  have F0 : Fr g L s.heap (fun z => if z = Str.ofString "row" then some (.ref row) else if z = Str.ofString "rows" then some (.ref rows) else if z = Str.ofString "before" then some (.ref bl) else if z = Str.ofString "start" then some (.str a.s tw) else m z) := by
    have e : m = (fun z => if z = Str.ofString "row" then some (.ref row) else if z = Str.ofString "rows" then some (.ref rows) else if z = Str.ofString "before" then some (.ref bl) else if z = Str.ofString "start" then some (.str a.s tw) else m z) := by
      funext z
      by_cases h1 : z = Str.ofString "row"
      · rw [if_pos h1, h1, m1]
      by_cases h2 : z = Str.ofString "rows"
      · rw [if_neg h1, if_pos h2, h2, m2]
      by_cases h3 : z = Str.ofString "before"
      · rw [if_neg h1, if_neg h2, if_pos h3, h3, m3]
      by_cases h4 : z = Str.ofString "start"
      · rw [if_neg h1, if_neg h2, if_neg h3, if_pos h4, h4, m4]
      rw [if_neg h1, if_neg h2, if_neg h3, if_neg h4]
    rw [← e]; exact F
  clear F m1 m2 m3 m4
  with_unfolding_all show wpAny _ (Around.deeper _ (envOfC _ { kind := _, names := _, isGenerator := _, isCoroutine := _, more := _ } _ _ _)) (execs (_ :: _) (envOfC _ { kind := _, names := _, isGenerator := _, isCoroutine := _, more := _ } _ _ _)) _ _ _
  (w_top off; repeat' (first | (k_unfold; (try dsimp only)) | ((with_reducible show wpAny _ _ (newTuple _) _ _ _); first | (k_dflt (refine newTupleM (by k_asm) (by k_asm) (by exact Nat.le_of_ble_eq_true rfl) ?_; k_whole); intro D' h' F' N' l1; (try k_sweep); (try ((with_reducible show wpAny _ _ _ _ _ _); k_gentoks)))) | ((with_reducible show wpAny _ _ (newList _) _ _ _); first | (k_dflt (refine newListM (by k_asm) (by k_asm) (by exact Nat.le_of_ble_eq_true rfl) ?_; k_whole); intro D' h' F' N' l1; (try k_sweep); (try ((with_reducible show wpAny _ _ _ _ _ _); k_gentoks)))) | ((with_reducible show wpAny _ _ (call (Value.ref _) _) _ _ _); first | ((with_reducible show wpAny _ _ (call (Value.ref 122) _) _ _ _); k_dflt (refine dip_call (by k_asm) (by k_asm) (by k_asm) (by k_asm) (by k_asm) (by first | exact rfl | assumption) (by first | exact rm (by assumption) (by rfl) | ktr_room) (by first | exact un3 (by assumption) (by rfl) | ktr_units) (by k_mem) (by ((repeat' (first | (with_reducible first | exact Rest.nil | refine' Rest.d1 ?_ | refine' Rest.d2 ?_ | refine' Rest.d3 ?_ | refine' Rest.d4 ?_ | refine' Rest.d5 ?_ | refine' Rest.d6 ?_ | refine' Rest.d7 ?_ | refine' Rest.d8 ?_ | refine' Rest.d9 ?_ | refine' Rest.d10 ?_ | refine' Rest.d11 ?_) | (refine' Rest.keep (by ((repeat' (first | with_reducible exact nea_nil | exact df_all (by with_reducible assumption) | exact df_allm (by with_reducible assumption) (by k_mem) | refine nea_cons (by k_ne) ?_)); done)) ?_) | exact Rest.all (by with_reducible assumption) | exact Rest.all (rest_one (by with_reducible assumption)) | exact Rest.all (rest_two (by with_reducible assumption) (by with_reducible assumption)) | (with_reducible first | refine' Rest.app (by assumption) ?_ | refine' Rest.app (rest_one (by assumption)) ?_ | refine' Rest.app (rest_two (by assumption) (by assumption)) ?_ | refine' Rest.drop ?_))); done)) (by assumption) (by assumption) (by assumption) (by first | assumption | decide | exact Nat.le_of_ble_eq_true rfl | omega) (by first | assumption | decide | omega) ?_; k_whole); intro x' y' tx' ty' v' t' h' tk' F' N' hx' hy' hy2' hv0' hv1'; (try k_fold); (try ((with_reducible show wpAny _ _ _ _ _ _); k_gentoks))) | ((with_reducible first | show wpAny _ _ (call (Value.ref 162) _) _ _ _ | show wpAny _ _ (call (Value.ref 169) _) _ _ _ | show wpAny _ _ (call (Value.ref 78) _) _ _ _ | show wpAny _ _ (call (Value.ref 85) _) _ _ _); refine halt ?_; (try ((with_reducible show wpAny _ _ _ _ _ _); k_gentoks)))) | ((with_reducible show wpAny _ _ (execs (Stmt.Assign [Expr.Name (Str.ofString "due") _] _ _ :: _) _) _ _ _); first | (refine halt ?_; (try ((with_reducible show wpAny _ _ _ _ _ _); k_gentoks)))) | (k_end; wrow_close) | walk1 | (dsimp only; walk1) | (leave1; (try dsimp only))))
  unfold Halt
  rename News _ _ _ _ => N9
  obtain ⟨rd, rfl⟩ := name_head N9
  k_dflt (refine type_call2 T2 (by k_asm) (by k_asm) (by k_asm) (by k_asm) (by k_asm) (by first | exact rfl | assumption) (by first | exact rm (by assumption) (by rfl) | ktr_room) (by first | exact un3 (by assumption) (by rfl) | ktr_units) (by k_mem) (by k_mem) (by k_mem) (by exact ways_one _ _) (by assumption) (by assumption) (by assumption) (by rfl) (by k_ne) (by k_ne) (by exact Nat.le_of_ble_eq_true rfl) (by exact Nat.le_of_ble_eq_true rfl) (by ((repeat' (first | (with_reducible first | exact Rest.nil | refine' Rest.d1 ?_ | refine' Rest.d2 ?_ | refine' Rest.d3 ?_ | refine' Rest.d4 ?_ | refine' Rest.d5 ?_ | refine' Rest.d6 ?_ | refine' Rest.d7 ?_ | refine' Rest.d8 ?_ | refine' Rest.d9 ?_ | refine' Rest.d10 ?_ | refine' Rest.d11 ?_) | (refine' Rest.keep (by ((repeat' (first | with_reducible exact nea_nil | exact df_all (by with_reducible assumption) | exact df_allm (by with_reducible assumption) (by k_mem) | refine nea_cons (by k_ne) ?_)); done)) ?_) | exact Rest.all (by with_reducible assumption) | exact Rest.all (rest_one (by with_reducible assumption)) | exact Rest.all (rest_two (by with_reducible assumption) (by with_reducible assumption)) | (with_reducible first | refine' Rest.app (by assumption) ?_ | refine' Rest.app (rest_one (by assumption)) ?_ | refine' Rest.app (rest_two (by assumption) (by assumption)) ?_ | refine' Rest.drop ?_))); done)) ?_; k_whole)
  intro x1 y1 tx1 ty1 nw an tn un1 uvs kq t h1 tk1 F1 N1 hx1 hy1 hy21 hnw ma mb1 hT hU hul hdp
  have n9 := apart_led (as := [row, dx, rl, pl, tl]) hnw (by ((repeat' (first | with_reducible exact inall_nil | refine inall_cons (by k_mem) ?_)); done))
  have n10 := apart_led (as := [jar, L + 1 + 1 + 1, row, dx, rl, pl, tl]) hnw (by ((repeat' (first | with_reducible exact inall_nil | refine inall_cons (by k_mem) ?_)); done))
  have nj := apart_led (as := [jar]) hnw (by ((repeat' (first | with_reducible exact inall_nil | refine inall_cons (by k_mem) ?_)); done))
  have nA := apart_led (as := [L + 1 + 1 + 1]) hnw (by ((repeat' (first | with_reducible exact inall_nil | refine inall_cons (by k_mem) ?_)); done))
  clear hnw
  simp only [List.cons_append, List.nil_append] at N1
  clear N9
  (try k_fold)
  (w_top off; repeat' (first | (k_unfold; (try dsimp only)) | ((with_reducible show wpAny _ _ (newTuple _) _ _ _); first | (k_dflt (refine newTupleM (by k_asm) (by k_asm) (by exact Nat.le_of_ble_eq_true rfl) ?_; k_whole); intro D' h' F' N' l1; (try k_sweep); (try ((with_reducible show wpAny _ _ _ _ _ _); k_gentoks)))) | ((with_reducible show wpAny _ _ (newList _) _ _ _); first | (k_dflt (refine newListM (by k_asm) (by k_asm) (by exact Nat.le_of_ble_eq_true rfl) ?_; k_whole); intro D' h' F' N' l1; (try k_sweep); (try ((with_reducible show wpAny _ _ _ _ _ _); k_gentoks)))) | ((with_reducible show wpAny _ _ (call (Value.ref _) _) _ _ _); first | ((with_reducible show wpAny _ _ (call (Value.ref 122) _) _ _ _); k_dflt (refine dip_call (by k_asm) (by k_asm) (by k_asm) (by k_asm) (by k_asm) (by first | exact rfl | assumption) (by first | exact rm (by assumption) (by rfl) | ktr_room) (by first | exact un3 (by assumption) (by rfl) | ktr_units) (by k_mem) (by ((repeat' (first | (with_reducible first | exact Rest.nil | refine' Rest.d1 ?_ | refine' Rest.d2 ?_ | refine' Rest.d3 ?_ | refine' Rest.d4 ?_ | refine' Rest.d5 ?_ | refine' Rest.d6 ?_ | refine' Rest.d7 ?_ | refine' Rest.d8 ?_ | refine' Rest.d9 ?_ | refine' Rest.d10 ?_ | refine' Rest.d11 ?_) | (refine' Rest.keep (by ((repeat' (first | with_reducible exact nea_nil | exact df_all (by with_reducible assumption) | exact df_allm (by with_reducible assumption) (by k_mem) | refine nea_cons (by k_ne) ?_)); done)) ?_) | exact Rest.all (by with_reducible assumption) | exact Rest.all (rest_one (by with_reducible assumption)) | exact Rest.all (rest_two (by with_reducible assumption) (by with_reducible assumption)) | (with_reducible first | refine' Rest.app (by assumption) ?_ | refine' Rest.app (rest_one (by assumption)) ?_ | refine' Rest.app (rest_two (by assumption) (by assumption)) ?_ | refine' Rest.drop ?_))); done)) (by assumption) (by assumption) (by assumption) (by first | assumption | decide | exact Nat.le_of_ble_eq_true rfl | omega) (by first | assumption | decide | omega) ?_; k_whole); intro x' y' tx' ty' v' t' h' tk' F' N' hx' hy' hy2' hv0' hv1'; (try k_fold); (try ((with_reducible show wpAny _ _ _ _ _ _); k_gentoks))) | ((with_reducible first | show wpAny _ _ (call (Value.ref 162) _) _ _ _ | show wpAny _ _ (call (Value.ref 169) _) _ _ _ | show wpAny _ _ (call (Value.ref 78) _) _ _ _ | show wpAny _ _ (call (Value.ref 85) _) _ _ _); refine halt ?_; (try ((with_reducible show wpAny _ _ _ _ _ _); k_gentoks)))) | ((with_reducible show wpAny _ _ (execs (Stmt.Assign [Expr.Name (Str.ofString "due") _] _ _ :: _) _) _ _ _); first | (refine halt ?_; (try ((with_reducible show wpAny _ _ _ _ _ _); k_gentoks)))) | (k_end; wrow_close) | walk1 | (dsimp only; walk1) | (leave1; (try dsimp only))))
  · unfold Halt
    k_dflt (refine enum_call3 (as := [L + 1 + 1 + 1, row, dx, rl, pl, tl]) (sus := []) (by k_asm) (by k_asm) (by k_asm) (by k_asm) (by k_asm) (by first | exact rfl | assumption) (by first | exact rm (by assumption) (by rfl) | ktr_room) (by first | exact un3 (by assumption) (by rfl) | ktr_units) (by k_mem) (by ((repeat' (first | (with_reducible first | exact Rest.nil | refine' Rest.d1 ?_ | refine' Rest.d2 ?_ | refine' Rest.d3 ?_ | refine' Rest.d4 ?_ | refine' Rest.d5 ?_ | refine' Rest.d6 ?_ | refine' Rest.d7 ?_ | refine' Rest.d8 ?_ | refine' Rest.d9 ?_ | refine' Rest.d10 ?_ | refine' Rest.d11 ?_) | (refine' Rest.keep (by ((repeat' (first | with_reducible exact nea_nil | exact df_all (by with_reducible assumption) | exact df_allm (by with_reducible assumption) (by k_mem) | refine nea_cons (by k_ne) ?_)); done)) ?_) | exact Rest.all (by with_reducible assumption) | exact Rest.all (rest_one (by with_reducible assumption)) | exact Rest.all (rest_two (by with_reducible assumption) (by with_reducible assumption)) | (with_reducible first | refine' Rest.app (by assumption) ?_ | refine' Rest.app (rest_one (by assumption)) ?_ | refine' Rest.app (rest_two (by assumption) (by assumption)) ?_ | refine' Rest.drop ?_))); done)) (by ((repeat' (first | (with_reducible first | exact Rest.nil | refine' Rest.d1 ?_ | refine' Rest.d2 ?_ | refine' Rest.d3 ?_ | refine' Rest.d4 ?_ | refine' Rest.d5 ?_ | refine' Rest.d6 ?_ | refine' Rest.d7 ?_ | refine' Rest.d8 ?_ | refine' Rest.d9 ?_ | refine' Rest.d10 ?_ | refine' Rest.d11 ?_) | (refine' Rest.keep (by ((repeat' (first | with_reducible exact nea_nil | exact df_all (by with_reducible assumption) | exact df_allm (by with_reducible assumption) (by k_mem) | refine nea_cons (by k_ne) ?_)); done)) ?_) | exact Rest.all (by with_reducible assumption) | exact Rest.all (rest_one (by with_reducible assumption)) | exact Rest.all (rest_two (by with_reducible assumption) (by with_reducible assumption)) | (with_reducible first | refine' Rest.app (by assumption) ?_ | refine' Rest.app (rest_one (by assumption)) ?_ | refine' Rest.app (rest_two (by assumption) (by assumption)) ?_ | refine' Rest.drop ?_))); done)) (by k_mem) (by k_mem) (by k_mem) (by k_mem) (by exact TyIn.mono hT (by ((repeat' (first | (with_reducible first | exact sub_nil | exact sub_self | refine sub_app ?_ ?_ | refine sub_cons ?_ ?_) | ((repeat with_reducible first | exact sub_self | exact sub_l sub_self | refine sub_tl ?_ | refine sub_r ?_); done) | ((with_reducible show _ ∈ _); k_mem) | (refine sub_cons (by k_mem) ?_))); done))) (by exact .int (by k_mem)) (by exact UsIn.mono hU (by ((repeat' (first | (with_reducible first | exact sub_nil | exact sub_self | refine sub_app ?_ ?_ | refine sub_cons ?_ ?_) | ((repeat with_reducible first | exact sub_self | exact sub_l sub_self | refine sub_tl ?_ | refine sub_r ?_); done) | ((with_reducible show _ ∈ _); k_mem) | (refine sub_cons (by k_mem) ?_))); done))) (by exact .nil) (by exact ways_one _ _) (by assumption) (by assumption) (by assumption) (by exact Nat.lt_trans (uses_small hdp (by decide)) (by decide)) (by exact Nat.le_of_ble_eq_true rfl) (by exact Nat.le_of_ble_eq_true rfl) (by exact uses_near hdp (Nat.le_of_ble_eq_true rfl)) (by exact fun z hz => nomatch hz) ?_; k_whole)
    intro x2 y2 tx2 ty2 nw2 an2 tn2 un2 uvs2 kq2 r1 r2 h2 tk2 F2 N2 hx2 hy2 hy22 hnw2 ma2 mb2 hT2 hU2
    have n9b := apart_led (as := [row, dx, rl, pl, tl]) hnw2 (by ((repeat' (first | with_reducible exact inall_nil | refine inall_cons (by k_mem) ?_)); done))
    have nAb := apart_led (as := [L + 1 + 1 + 1]) hnw2 (by ((repeat' (first | with_reducible exact inall_nil | refine inall_cons (by k_mem) ?_)); done))
    clear hnw2
    simp only [List.cons_append, List.nil_append] at N2
    (try k_fold)
    (w_top off; repeat' (first | (k_unfold; (try dsimp only)) | ((with_reducible show wpAny _ _ (newTuple _) _ _ _); first | (k_dflt (refine newTupleM (by k_asm) (by k_asm) (by exact Nat.le_of_ble_eq_true rfl) ?_; k_whole); intro D' h' F' N' l1; (try k_sweep); (try ((with_reducible show wpAny _ _ _ _ _ _); k_gentoks)))) | ((with_reducible show wpAny _ _ (newList _) _ _ _); first | (k_dflt (refine newListM (by k_asm) (by k_asm) (by exact Nat.le_of_ble_eq_true rfl) ?_; k_whole); intro D' h' F' N' l1; (try k_sweep); (try ((with_reducible show wpAny _ _ _ _ _ _); k_gentoks)))) | ((with_reducible show wpAny _ _ (call (Value.ref _) _) _ _ _); first | ((with_reducible show wpAny _ _ (call (Value.ref 122) _) _ _ _); k_dflt (refine dip_call (by k_asm) (by k_asm) (by k_asm) (by k_asm) (by k_asm) (by first | exact rfl | assumption) (by first | exact rm (by assumption) (by rfl) | ktr_room) (by first | exact un3 (by assumption) (by rfl) | ktr_units) (by k_mem) (by ((repeat' (first | (with_reducible first | exact Rest.nil | refine' Rest.d1 ?_ | refine' Rest.d2 ?_ | refine' Rest.d3 ?_ | refine' Rest.d4 ?_ | refine' Rest.d5 ?_ | refine' Rest.d6 ?_ | refine' Rest.d7 ?_ | refine' Rest.d8 ?_ | refine' Rest.d9 ?_ | refine' Rest.d10 ?_ | refine' Rest.d11 ?_) | (refine' Rest.keep (by ((repeat' (first | with_reducible exact nea_nil | exact df_all (by with_reducible assumption) | exact df_allm (by with_reducible assumption) (by k_mem) | refine nea_cons (by k_ne) ?_)); done)) ?_) | exact Rest.all (by with_reducible assumption) | exact Rest.all (rest_one (by with_reducible assumption)) | exact Rest.all (rest_two (by with_reducible assumption) (by with_reducible assumption)) | (with_reducible first | refine' Rest.app (by assumption) ?_ | refine' Rest.app (rest_one (by assumption)) ?_ | refine' Rest.app (rest_two (by assumption) (by assumption)) ?_ | refine' Rest.drop ?_))); done)) (by assumption) (by assumption) (by assumption) (by first | assumption | decide | exact Nat.le_of_ble_eq_true rfl | omega) (by first | assumption | decide | omega) ?_; k_whole); intro x' y' tx' ty' v' t' h' tk' F' N' hx' hy' hy2' hv0' hv1'; (try k_fold); (try ((with_reducible show wpAny _ _ _ _ _ _); k_gentoks))) | ((with_reducible first | show wpAny _ _ (call (Value.ref 162) _) _ _ _ | show wpAny _ _ (call (Value.ref 169) _) _ _ _ | show wpAny _ _ (call (Value.ref 78) _) _ _ _ | show wpAny _ _ (call (Value.ref 85) _) _ _ _); refine halt ?_; (try ((with_reducible show wpAny _ _ _ _ _ _); k_gentoks)))) | ((with_reducible show wpAny _ _ (execs (Stmt.Assign [Expr.Name (Str.ofString "due") _] _ _ :: _) _) _ _ _); first | (refine halt ?_; (try ((with_reducible show wpAny _ _ _ _ _ _); k_gentoks)))) | (k_end; wrow_close) | walk1 | (dsimp only; walk1) | (leave1; (try dsimp only))))
    unfold Halt
    have IH9 : WalkSpec w mean mg mb 85 80 (.adt r1 r2 t .int) := @walk_deepE w mean mg mb r1 r2 t .int hdp (Nat.zero_le _)
    have hd9 : (Ty.adt r1 r2 t .int).depth ≤ 3 := depth_two hdp (Nat.zero_le _)
    k_dflt (refine walk_call2 (ws := befores pws b) (row := row) (dx := dx) (tl := tl) (rl := rl) (pl := pl) (K := K) (rs := rs) (ps := ps) @IH9 (by k_asm) (by k_asm) (by k_asm) (by k_asm) (by k_asm) (by first | exact rfl | assumption) (by first | exact rm (by assumption) (by rfl) | ktr_room) (by first | exact un3 (by assumption) (by rfl) | ktr_units) (by ((repeat' (first | (with_reducible first | exact sub_nil | exact sub_self | refine sub_app ?_ ?_ | refine sub_cons ?_ ?_) | ((repeat with_reducible first | exact sub_self | exact sub_l sub_self | refine sub_tl ?_ | refine sub_r ?_); done) | ((with_reducible show _ ∈ _); k_mem) | (refine sub_cons (by k_mem) ?_))); done)) (by exact R) (by exact P) (by (rw [befores_length]; exact hn.symm)) (by exact V) (by exact ap) (by ((repeat' (first | (with_reducible first | exact Rest.nil | refine' Rest.d1 ?_ | refine' Rest.d2 ?_ | refine' Rest.d3 ?_ | refine' Rest.d4 ?_ | refine' Rest.d5 ?_ | refine' Rest.d6 ?_ | refine' Rest.d7 ?_ | refine' Rest.d8 ?_ | refine' Rest.d9 ?_ | refine' Rest.d10 ?_ | refine' Rest.d11 ?_) | (refine' Rest.keep (by ((repeat' (first | with_reducible exact nea_nil | exact df_all (by with_reducible assumption) | exact df_allm (by with_reducible assumption) (by k_mem) | refine nea_cons (by k_ne) ?_)); done)) ?_) | exact Rest.all (by with_reducible assumption) | exact Rest.all (rest_one (by with_reducible assumption)) | exact Rest.all (rest_two (by with_reducible assumption) (by with_reducible assumption)) | (with_reducible first | refine' Rest.app (by assumption) ?_ | refine' Rest.app (rest_one (by assumption)) ?_ | refine' Rest.app (rest_two (by assumption) (by assumption)) ?_ | refine' Rest.drop ?_))); done)) (by exact AdtOk.mk hod (by k_mem) (by k_mem) (by k_mem) (by k_mem)) (by exact TyIn.mono hT2 (by ((repeat' (first | (with_reducible first | exact sub_nil | exact sub_self | refine sub_app ?_ ?_ | refine sub_cons ?_ ?_) | ((repeat with_reducible first | exact sub_self | exact sub_l sub_self | refine sub_tl ?_ | refine sub_r ?_); done) | ((with_reducible show _ ∈ _); k_mem) | (refine sub_cons (by k_mem) ?_))); done))) ?_; k_whole)
    intro ts3 h3 tk3 F3 N3 hi3
    rw [marks_told R P pws K _ a _ b hn] at hi3
    rw [marks_changed R P pws K _ a b hn] at N3
    simp only [rowLed, List.cons_append, List.nil_append] at N3
    (try k_fold)
    (w_top off; repeat' (first | (k_unfold; (try dsimp only)) | ((with_reducible show wpAny _ _ (newTuple _) _ _ _); first | (k_dflt (refine newTupleM (by k_asm) (by k_asm) (by exact Nat.le_of_ble_eq_true rfl) ?_; k_whole); intro D' h' F' N' l1; (try k_sweep); (try ((with_reducible show wpAny _ _ _ _ _ _); k_gentoks)))) | ((with_reducible show wpAny _ _ (newList _) _ _ _); first | (k_dflt (refine newListM (by k_asm) (by k_asm) (by exact Nat.le_of_ble_eq_true rfl) ?_; k_whole); intro D' h' F' N' l1; (try k_sweep); (try ((with_reducible show wpAny _ _ _ _ _ _); k_gentoks)))) | ((with_reducible show wpAny _ _ (call (Value.ref _) _) _ _ _); first | ((with_reducible show wpAny _ _ (call (Value.ref 122) _) _ _ _); k_dflt (refine dip_call (by k_asm) (by k_asm) (by k_asm) (by k_asm) (by k_asm) (by first | exact rfl | assumption) (by first | exact rm (by assumption) (by rfl) | ktr_room) (by first | exact un3 (by assumption) (by rfl) | ktr_units) (by k_mem) (by ((repeat' (first | (with_reducible first | exact Rest.nil | refine' Rest.d1 ?_ | refine' Rest.d2 ?_ | refine' Rest.d3 ?_ | refine' Rest.d4 ?_ | refine' Rest.d5 ?_ | refine' Rest.d6 ?_ | refine' Rest.d7 ?_ | refine' Rest.d8 ?_ | refine' Rest.d9 ?_ | refine' Rest.d10 ?_ | refine' Rest.d11 ?_) | (refine' Rest.keep (by ((repeat' (first | with_reducible exact nea_nil | exact df_all (by with_reducible assumption) | exact df_allm (by with_reducible assumption) (by k_mem) | refine nea_cons (by k_ne) ?_)); done)) ?_) | exact Rest.all (by with_reducible assumption) | exact Rest.all (rest_one (by with_reducible assumption)) | exact Rest.all (rest_two (by with_reducible assumption) (by with_reducible assumption)) | (with_reducible first | refine' Rest.app (by assumption) ?_ | refine' Rest.app (rest_one (by assumption)) ?_ | refine' Rest.app (rest_two (by assumption) (by assumption)) ?_ | refine' Rest.drop ?_))); done)) (by assumption) (by assumption) (by assumption) (by first | assumption | decide | exact Nat.le_of_ble_eq_true rfl | omega) (by first | assumption | decide | omega) ?_; k_whole); intro x' y' tx' ty' v' t' h' tk' F' N' hx' hy' hy2' hv0' hv1'; (try k_fold); (try ((with_reducible show wpAny _ _ _ _ _ _); k_gentoks))) | ((with_reducible first | show wpAny _ _ (call (Value.ref 162) _) _ _ _ | show wpAny _ _ (call (Value.ref 169) _) _ _ _ | show wpAny _ _ (call (Value.ref 78) _) _ _ _ | show wpAny _ _ (call (Value.ref 85) _) _ _ _); refine halt ?_; (try ((with_reducible show wpAny _ _ _ _ _ _); k_gentoks)))) | ((with_reducible show wpAny _ _ (execs (Stmt.Assign [Expr.Name (Str.ofString "due") _] _ _ :: _) _) _ _ _); first | (refine halt ?_; (try ((with_reducible show wpAny _ _ _ _ _ _); k_gentoks)))) | (k_end; wrow_close) | walk1 | (dsimp only; walk1) | (leave1; (try dsimp only))))
    unfold Halt
    k_dflt (refine right_end2 (jar := jar) (ka := ka) (rows := rows) (erow := erow) (edx := edx) (erl := erl) (epl := epl) (etl := etl) (row := row) (dx := dx) (rl := rl) (pl := pl) (tl := tl) (nl := nl) (bl := bl) (rk := rk) (erk := erk) (oA := oA) (oK := oK) (oN := oN) (od := od) (K := K) (rs := rs) (ps := ps) (pws := pws) (b := b) (us := uses K (.adt r1 r2 t .int) [a]) (by k_asm) (by k_asm) (by k_asm) (by k_asm) (by k_asm) (by ((repeat' (first | (with_reducible first | exact sub_nil | exact sub_self | refine sub_app ?_ ?_ | refine sub_cons ?_ ?_) | ((repeat with_reducible first | exact sub_self | exact sub_l sub_self | refine sub_tl ?_ | refine sub_r ?_); done) | ((with_reducible show _ ∈ _); k_mem) | (refine sub_cons (by k_mem) ?_))); done)) (by ((repeat' (first | (with_reducible first | exact Rest.nil | refine' Rest.d1 ?_ | refine' Rest.d2 ?_ | refine' Rest.d3 ?_ | refine' Rest.d4 ?_ | refine' Rest.d5 ?_ | refine' Rest.d6 ?_ | refine' Rest.d7 ?_ | refine' Rest.d8 ?_ | refine' Rest.d9 ?_ | refine' Rest.d10 ?_ | refine' Rest.d11 ?_) | (refine' Rest.keep (by ((repeat' (first | with_reducible exact nea_nil | exact df_all (by with_reducible assumption) | exact df_allm (by with_reducible assumption) (by k_mem) | refine nea_cons (by k_ne) ?_)); done)) ?_) | exact Rest.all (by with_reducible assumption) | exact Rest.all (rest_one (by with_reducible assumption)) | exact Rest.all (rest_two (by with_reducible assumption) (by with_reducible assumption)) | (with_reducible first | refine' Rest.app (by assumption) ?_ | refine' Rest.app (rest_one (by assumption)) ?_ | refine' Rest.app (rest_two (by assumption) (by assumption)) ?_ | refine' Rest.drop ?_))); done)) (by ((repeat' (first | with_reducible exact neall_nil | with_reducible assumption | with_reducible refine nea_app ?_ ?_ | (refine neall_cons (by k_ne) ?_))); done)) (by exact rfl) (by exact rfl) (by exact rfl) (by exact rfl) dK dA dN (by omega) (by omega) R P hn hi3 W (by rfl) hod (by exact UsIn.mono hU2 (by ((repeat' (first | (with_reducible first | exact sub_nil | exact sub_self | refine sub_app ?_ ?_ | refine sub_cons ?_ ?_) | ((repeat with_reducible first | exact sub_self | exact sub_l sub_self | refine sub_tl ?_ | refine sub_r ?_); done) | ((with_reducible show _ ∈ _); k_mem) | (refine sub_cons (by k_mem) ?_))); done))) (by k_mem) (by exact Nat.lt_trans (uses_small hd9 (Nat.le_refl 3)) (Nat.le_of_ble_eq_true rfl)) (by exact fun z hz => Nat.lt_trans (uses_near (n := 3) hd9 (Nat.le_of_ble_eq_true rfl) z hz) (Nat.le_of_ble_eq_true rfl)) hE (by exact fun h' tk' m' F' N' => ret _ _ _ _ _ _ _ F' N'))
  · unfold Halt
    have IH9 : WalkSpec w mean mg mb 78 80 t := @walk_deep w mean mg mb t (Nat.le_succ_of_le hdp)
    k_dflt (refine walk_call2 (ws := befores pws b) (row := row) (dx := dx) (tl := tl) (rl := rl) (pl := pl) (K := K) (rs := rs) (ps := ps) @IH9 (by k_asm) (by k_asm) (by k_asm) (by k_asm) (by k_asm) (by first | exact rfl | assumption) (by first | exact rm (by assumption) (by rfl) | ktr_room) (by first | exact un3 (by assumption) (by rfl) | ktr_units) (by ((repeat' (first | (with_reducible first | exact sub_nil | exact sub_self | refine sub_app ?_ ?_ | refine sub_cons ?_ ?_) | ((repeat with_reducible first | exact sub_self | exact sub_l sub_self | refine sub_tl ?_ | refine sub_r ?_); done) | ((with_reducible show _ ∈ _); k_mem) | (refine sub_cons (by k_mem) ?_))); done)) (by exact R) (by exact P) (by (rw [befores_length]; exact hn.symm)) (by exact V) (by exact ap) (by ((repeat' (first | (with_reducible first | exact Rest.nil | refine' Rest.d1 ?_ | refine' Rest.d2 ?_ | refine' Rest.d3 ?_ | refine' Rest.d4 ?_ | refine' Rest.d5 ?_ | refine' Rest.d6 ?_ | refine' Rest.d7 ?_ | refine' Rest.d8 ?_ | refine' Rest.d9 ?_ | refine' Rest.d10 ?_ | refine' Rest.d11 ?_) | (refine' Rest.keep (by ((repeat' (first | with_reducible exact nea_nil | exact df_all (by with_reducible assumption) | exact df_allm (by with_reducible assumption) (by k_mem) | refine nea_cons (by k_ne) ?_)); done)) ?_) | exact Rest.all (by with_reducible assumption) | exact Rest.all (rest_one (by with_reducible assumption)) | exact Rest.all (rest_two (by with_reducible assumption) (by with_reducible assumption)) | (with_reducible first | refine' Rest.app (by assumption) ?_ | refine' Rest.app (rest_one (by assumption)) ?_ | refine' Rest.app (rest_two (by assumption) (by assumption)) ?_ | refine' Rest.drop ?_))); done)) (by exact AdtOk.mk hod (by k_mem) (by k_mem) (by k_mem) (by k_mem)) (by exact TyIn.mono hT (by ((repeat' (first | (with_reducible first | exact sub_nil | exact sub_self | refine sub_app ?_ ?_ | refine sub_cons ?_ ?_) | ((repeat with_reducible first | exact sub_self | exact sub_l sub_self | refine sub_tl ?_ | refine sub_r ?_); done) | ((with_reducible show _ ∈ _); k_mem) | (refine sub_cons (by k_mem) ?_))); done))) ?_; k_whole)
    intro ts3 h3 tk3 F3 N3 hi3
    rw [marks_told R P pws K _ a _ b hn] at hi3
    rw [marks_changed R P pws K _ a b hn] at N3
    simp only [rowLed, List.cons_append, List.nil_append] at N3
    (try k_fold)
    (w_top off; repeat' (first | (k_unfold; (try dsimp only)) | ((with_reducible show wpAny _ _ (newTuple _) _ _ _); first | (k_dflt (refine newTupleM (by k_asm) (by k_asm) (by exact Nat.le_of_ble_eq_true rfl) ?_; k_whole); intro D' h' F' N' l1; (try k_sweep); (try ((with_reducible show wpAny _ _ _ _ _ _); k_gentoks)))) | ((with_reducible show wpAny _ _ (newList _) _ _ _); first | (k_dflt (refine newListM (by k_asm) (by k_asm) (by exact Nat.le_of_ble_eq_true rfl) ?_; k_whole); intro D' h' F' N' l1; (try k_sweep); (try ((with_reducible show wpAny _ _ _ _ _ _); k_gentoks)))) | ((with_reducible show wpAny _ _ (call (Value.ref _) _) _ _ _); first | ((with_reducible show wpAny _ _ (call (Value.ref 122) _) _ _ _); k_dflt (refine dip_call (by k_asm) (by k_asm) (by k_asm) (by k_asm) (by k_asm) (by first | exact rfl | assumption) (by first | exact rm (by assumption) (by rfl) | ktr_room) (by first | exact un3 (by assumption) (by rfl) | ktr_units) (by k_mem) (by ((repeat' (first | (with_reducible first | exact Rest.nil | refine' Rest.d1 ?_ | refine' Rest.d2 ?_ | refine' Rest.d3 ?_ | refine' Rest.d4 ?_ | refine' Rest.d5 ?_ | refine' Rest.d6 ?_ | refine' Rest.d7 ?_ | refine' Rest.d8 ?_ | refine' Rest.d9 ?_ | refine' Rest.d10 ?_ | refine' Rest.d11 ?_) | (refine' Rest.keep (by ((repeat' (first | with_reducible exact nea_nil | exact df_all (by with_reducible assumption) | exact df_allm (by with_reducible assumption) (by k_mem) | refine nea_cons (by k_ne) ?_)); done)) ?_) | exact Rest.all (by with_reducible assumption) | exact Rest.all (rest_one (by with_reducible assumption)) | exact Rest.all (rest_two (by with_reducible assumption) (by with_reducible assumption)) | (with_reducible first | refine' Rest.app (by assumption) ?_ | refine' Rest.app (rest_one (by assumption)) ?_ | refine' Rest.app (rest_two (by assumption) (by assumption)) ?_ | refine' Rest.drop ?_))); done)) (by assumption) (by assumption) (by assumption) (by first | assumption | decide | exact Nat.le_of_ble_eq_true rfl | omega) (by first | assumption | decide | omega) ?_; k_whole); intro x' y' tx' ty' v' t' h' tk' F' N' hx' hy' hy2' hv0' hv1'; (try k_fold); (try ((with_reducible show wpAny _ _ _ _ _ _); k_gentoks))) | ((with_reducible first | show wpAny _ _ (call (Value.ref 162) _) _ _ _ | show wpAny _ _ (call (Value.ref 169) _) _ _ _ | show wpAny _ _ (call (Value.ref 78) _) _ _ _ | show wpAny _ _ (call (Value.ref 85) _) _ _ _); refine halt ?_; (try ((with_reducible show wpAny _ _ _ _ _ _); k_gentoks)))) | ((with_reducible show wpAny _ _ (execs (Stmt.Assign [Expr.Name (Str.ofString "due") _] _ _ :: _) _) _ _ _); first | (refine halt ?_; (try ((with_reducible show wpAny _ _ _ _ _ _); k_gentoks)))) | (k_end; wrow_close) | walk1 | (dsimp only; walk1) | (leave1; (try dsimp only))))
    unfold Halt
    k_dflt (refine right_end2 (jar := jar) (ka := ka) (rows := rows) (erow := erow) (edx := edx) (erl := erl) (epl := epl) (etl := etl) (row := row) (dx := dx) (rl := rl) (pl := pl) (tl := tl) (nl := nl) (bl := bl) (rk := rk) (erk := erk) (oA := oA) (oK := oK) (oN := oN) (od := od) (K := K) (rs := rs) (ps := ps) (pws := pws) (b := b) (us := uses K t [a]) (by k_asm) (by k_asm) (by k_asm) (by k_asm) (by k_asm) (by ((repeat' (first | (with_reducible first | exact sub_nil | exact sub_self | refine sub_app ?_ ?_ | refine sub_cons ?_ ?_) | ((repeat with_reducible first | exact sub_self | exact sub_l sub_self | refine sub_tl ?_ | refine sub_r ?_); done) | ((with_reducible show _ ∈ _); k_mem) | (refine sub_cons (by k_mem) ?_))); done)) (by ((repeat' (first | (with_reducible first | exact Rest.nil | refine' Rest.d1 ?_ | refine' Rest.d2 ?_ | refine' Rest.d3 ?_ | refine' Rest.d4 ?_ | refine' Rest.d5 ?_ | refine' Rest.d6 ?_ | refine' Rest.d7 ?_ | refine' Rest.d8 ?_ | refine' Rest.d9 ?_ | refine' Rest.d10 ?_ | refine' Rest.d11 ?_) | (refine' Rest.keep (by ((repeat' (first | with_reducible exact nea_nil | exact df_all (by with_reducible assumption) | exact df_allm (by with_reducible assumption) (by k_mem) | refine nea_cons (by k_ne) ?_)); done)) ?_) | exact Rest.all (by with_reducible assumption) | exact Rest.all (rest_one (by with_reducible assumption)) | exact Rest.all (rest_two (by with_reducible assumption) (by with_reducible assumption)) | (with_reducible first | refine' Rest.app (by assumption) ?_ | refine' Rest.app (rest_one (by assumption)) ?_ | refine' Rest.app (rest_two (by assumption) (by assumption)) ?_ | refine' Rest.drop ?_))); done)) (by ((repeat' (first | with_reducible exact neall_nil | with_reducible assumption | with_reducible refine nea_app ?_ ?_ | (refine neall_cons (by k_ne) ?_))); done)) (by exact rfl) (by exact rfl) (by exact rfl) (by exact rfl) dK dA dN (by omega) (by omega) R P hn hi3 W (by rfl) hod (by exact UsIn.mono hU (by ((repeat' (first | (with_reducible first | exact sub_nil | exact sub_self | refine sub_app ?_ ?_ | refine sub_cons ?_ ?_) | ((repeat with_reducible first | exact sub_self | exact sub_l sub_self | refine sub_tl ?_ | refine sub_r ?_); done) | ((with_reducible show _ ∈ _); k_mem) | (refine sub_cons (by k_mem) ?_))); done))) (by k_mem) (by exact Nat.lt_trans (uses_small hdp (Nat.le_of_ble_eq_true rfl)) (Nat.le_of_ble_eq_true rfl)) (by exact fun z hz => Nat.lt_trans (uses_near (n := 2) hdp (Nat.le_of_ble_eq_true rfl) z hz) (Nat.le_of_ble_eq_true rfl)) hE (by exact fun h' tk' m' F' N' => ret _ _ _ _ _ _ _ F' N'))

theorem right_tail2 {w mean mg mb} {dp un : Nat} {gd : Option (List Code)} {cn : Str} {cs : Scope} {L0 aa : Addr} {ccd : Value} {cl : List (Str × Addr)} {outer : List Env} {base g : Heap} {L : Addr} {m : Str → Option Value} {s : Shared} {Q : Flow → Shared → Prop} {E : Value → Shared → Prop}
    {jar ka rows erow edx erl epl etl row dx rl pl tl nl bl : Addr} {od oA oK oN oJ : Obj} {K : Known} {x y : Int} {tx ty tw t0 t1 t2 t3 e0 e1 e2 e3 : Tok} {kk en n c1 c2 c3 k6 b : Nat} {rk erk : RowK} {hc ehc : Bool} {rs ps ts bvs : List Value} {rgs pgs : List Nm} {pws : List (Nat × Way)} {vA : Option Value} {a : Way} {led : Led}
    (B : Below (ktrTop dp un gd cn cs L0 aa ccd cl outer) base (envX cn cs L0 aa ccd cl :: outer) g) (F : Fr g L s.heap m) (X : (hd.heap_39 w.params).In g) (T : Top hd.view_39 LZ mean mg mb g)
    (N : News g L s.heap led) (qK : (L + 1 + 1, oK) ∈ led) (qJ : (L + 1, oJ) ∈ led) (qN : (L + 1 + 1 + 1 + 1, oN) ∈ led) (hs : ∀ p ∈ ((bl, listOf bvs.toArray k6) :: (jar, jarO x y tx ty) :: (row, instObj 67 dx) :: (dx, rowD rk rl pl tl hc) :: (tl, listOf ts.toArray n) :: (rl, listOf rs.toArray c1) :: (pl, listOf ps.toArray c2) :: (nl, listOf (rs ++ ps).toArray c3) :: (erow, instObj 67 edx) :: (edx, rowD erk erl epl etl ehc) :: (etl, listOf (K.vals e0 e1 e2 e3).toArray en) :: (rows, od) :: (ka, listOf (K.vals t0 t1 t2 t3).toArray kk) :: (L + 1 + 1 + 1 + 1, oN) :: (L + 1 + 1 + 1, oA) :: (L + 1 + 1, oK) :: (L + 1, oJ) :: [] : Led), p ∈ led)
    (ap : Apart row dx rl pl tl)
    (dj : ∀ p ∈ [bl, row, dx, tl, rl, pl, nl, erow, edx, etl, rows, ka, L + 1 + 1 + 1 + 1, L + 1 + 1 + 1, L + 1 + 1, L + 1], Df p jar)
    (d9 : ∀ p ∈ [bl, jar, nl, ka, L + 1 + 1 + 1 + 1, L + 1 + 1 + 1, L + 1 + 1, L + 1, rows, erow, edx, etl], ∀ q ∈ [row, dx, rl, pl, tl], Df p q)
    (da : ∀ p ∈ [bl, jar, row, dx, tl, rl, pl, nl, erow, edx, etl, rows, ka, L + 1 + 1 + 1 + 1, L + 1 + 1, L + 1], Df p (L + 1 + 1 + 1))
    (m1 : m (Str.ofString "row") = some (.ref row)) (m2 : m (Str.ofString "rows") = some (.ref rows)) (m3 : m (Str.ofString "before") = some (.ref bl)) (m4 : m (Str.ofString "start") = some (.str a.s tw))
    (dJ : oJ.data = .cell (some (.ref jar))) (dK : oK.data = .cell (some (.ref ka))) (dA : oA.data = .cell vA) (dN : oN.data = .cell (some (.ref nl)))
    (hd : dp + 110 < recursionLimit) (hu : un + 1200 < cLine) (hx : 0 ≤ x) (hy : 0 ≤ y) (hy2 : y < 2147483647) (R : RegsV rs rgs) (P : ParsV ps pgs) (hn : (rgs ++ pgs).length = b) (V : StrsAre ts ((befores pws b).map Way.s)) (W : StrsAre bvs ((befores pws b).map Way.s)) (hh : hc = (strictest (befores pws b) != .bi))
    (hod : od.IsDictOf (PySem.strKind Pg w) [(Str.ofString "m::E", .ref erow)])
    (hE : PassesOwn (model Pg w) ((ktrTop dp un gd cn cs L0 aa ccd cl outer).deeper (envR w L)) (envR w L) E)
    (ret : ∀ h' tk' m' jx jy jtx jty, Fr g L h' m' → News g L h' [(jar, jarO jx jy jtx jty)] → Q (.ret (.bool true)) { s with heap := h', toks := tk' }) :
    wpAny (model Pg w) ((ktrTop dp un gd cn cs L0 aa ccd cl outer).deeper (envR w L)) (execs (bodyR w 8) (envR w L)) Q E s := right_tail B F X T (news_sub N hs) ap dj d9 da m1 m2 m3 m4 dJ dK dA dN hd hu hx hy hy2 R P hn V W hh hod hE ret

theorem cells_jar {a L : Nat} (h : a < L) : ∀ p ∈ [L + 1, L + 1 + 1, L + 1 + 1 + 1, L + 1 + 1 + 1 + 1, L + 1 + 1 + 1 + 1 + 1], Df p a := by
  simp only [List.forall_mem_cons, List.not_mem_nil, false_implies, implies_true, and_true]
  have a1 := Nat.lt_succ_of_lt h
  have a2 := Nat.lt_succ_of_lt a1
  have a3 := Nat.lt_succ_of_lt a2
  have a4 := Nat.lt_succ_of_lt a3
  exact ⟨Nat.ne_of_gt a1, Nat.ne_of_gt a2, Nat.ne_of_gt a3, Nat.ne_of_gt a4, Nat.ne_of_gt (Nat.lt_succ_of_lt a4)⟩
theorem right_ok {w mean mg mb} {jar : Addr} {x y : Int} {tx ty : Tok} (hx : 0 ≤ x) (hy : 0 ≤ y) (hy2 : y < 2147483647) :
    Sp w mean mg mb 181 120 1400 [.ref jar] (fun _ => True) [(jar, jarO x y tx ty)] (fun H n' r => r = .bool true) := by
  unfold Sp Pg LZ
  k_fill
  intro dp un gd cn cs aa ccd cl outer A₀ base h₀ L m s Q E B F X N T hk hd hu hz hret
  refine wpAny_call ?_
  k_dflt (refine code_defCG (by k_asm) (by k_asm) (by k_asm) (by k_asm) (by k_asm) (by exact rfl) (by exact rfl) (by assumption) (by k_is) (by k_is) (by first | exact rm0 (by assumption) | ktr_room) (by exact BindsTo.of_eq rfl) (by exact rfl) (by decide +kernel) ?_ (by exact rfl) (by exact rfl) (by exact rfl); k_whole)
  intro g' L' h' tk' cells' FG' F' N' Y' B' X' T' kG' l1
  obtain ⟨o1', o2', o3', o4', o5', hE', d1', d2', d3', d4', d5'⟩ := cells_five Y'
  subst hE'
  clear Y'
  with_unfolding_all change _ = Data.cell none at d1'
  with_unfolding_all change _ = Data.cell none at d2'
  with_unfolding_all change _ = Data.cell none at d3'
  with_unfolding_all change _ = Data.cell none at d4'
  with_unfolding_all change _ = Data.cell (some (Value.ref _)) at d5'
  (try simp only [List.cons_append, List.nil_append] at N')
  have F9 : Fr g' L' h' (fun _ => none) := F'
  clear F'
  (try dsimp only)
  (try k_fold)
  (try ((with_reducible show wpAny _ _ _ _ _ _); k_gentoks))
  have fj := cells_jar (l1 _ (.head _))
  (w_top off; repeat' (first | (k_unfold; (try dsimp only)) | ((with_reducible show wpAny _ _ (eval (Expr.Dict _ _ _) _) _ _ _); first | (k_dflt (refine kdn_str (by rfl) (by k_asm) (by k_asm) (by exact Top.nolimit (by k_asm)) (by rfl) (by rfl) (by exact List.cons_ne_nil _ _) (by exact Nat.le_of_ble_eq_true rfl) ?_); intro d' h' o' F' N' l1 lo' hd'; (try ((with_reducible show wpAny _ _ _ _ _ _); k_gentoks)))) | ((with_reducible show KdnMade _ _ _ _ _ _ _); first | (k_dflt (refine kdn_made_str (by k_asm) (by k_asm) (by k_updF) (by k_asm) (by rfl) (by exact of_decide_eq_true (by first | rfl | kernel_rfl!)) ?_); intro h' o' F' N' hd'; (try dsimp only at N'); (try ((with_reducible show wpAny _ _ _ _ _ _); k_gentoks)))) | ((with_reducible show wpAny _ _ (eval (Expr.ListComp _ [⟨Expr.Name _ _, _, [], _⟩] _ _) _) _ _ _); first | (k_dflt (refine LCg.ListComp_U (F₀ := by k_asm) (by with_unfolding_all rfl) (by decide) (by rfl) (by decide) (by rfl) ?_); (try ((with_reducible show wpAny _ _ _ _ _ _); k_gentoks)))) | ((with_reducible show wpAny _ _ (call (Value.ref _) _) _ _ _); first | ((with_reducible show wpAny _ _ (call (Value.ref 148) _) _ _ _); k_dflt (refine known_call (by k_asm) (by k_asm) (by k_asm) (by k_asm) (by k_asm) (by first | exact rfl | assumption) (by first | exact rm (by assumption) (by rfl) | ktr_room) (by first | exact un3 (by assumption) (by rfl) | ktr_units) (by k_mem) (by assumption) (by assumption) (by assumption) (by ((repeat' (first | (with_reducible first | exact Rest.nil | refine' Rest.d1 ?_ | refine' Rest.d2 ?_ | refine' Rest.d3 ?_ | refine' Rest.d4 ?_ | refine' Rest.d5 ?_ | refine' Rest.d6 ?_ | refine' Rest.d7 ?_ | refine' Rest.d8 ?_ | refine' Rest.d9 ?_ | refine' Rest.d10 ?_ | refine' Rest.d11 ?_) | (refine' Rest.keep (by ((repeat' (first | with_reducible exact nea_nil | exact df_all (by with_reducible assumption) | exact df_allm (by with_reducible assumption) (by k_mem) | refine nea_cons (by k_ne) ?_)); done)) ?_) | exact Rest.all (by with_reducible assumption) | exact Rest.all (rest_one (by with_reducible assumption)) | exact Rest.all (rest_two (by with_reducible assumption) (by with_reducible assumption)) | (with_reducible first | refine' Rest.app (by assumption) ?_ | refine' Rest.app (rest_one (by assumption)) ?_ | refine' Rest.app (rest_two (by assumption) (by assumption)) ?_ | refine' Rest.drop ?_))); done)) ?_; k_whole); intro x' y' tx' ty' ka' kk' t0' t1' t2' t3' h' tk' K' F' N' hx' hy' hy2' o1'; have o1' := off1_all o1'; (try k_fold); (try ((with_reducible show wpAny _ _ _ _ _ _); k_gentoks))) | ((with_reducible show wpAny _ _ (call (Value.ref 176) _) _ _ _); k_dflt (refine lawRow_call (by k_asm) (by k_asm) (by k_asm) (by k_asm) (by k_asm) (by first | exact rfl | assumption) (by first | exact rm (by assumption) (by rfl) | ktr_room) (by first | exact un3 (by assumption) (by rfl) | ktr_units) (by k_mem) (by k_mem) (by k_mem) (by first | assumption | exact PwIn.nil) (by ((repeat' (first | (with_reducible first | exact sub_nil | exact sub_self | refine sub_app ?_ ?_ | refine sub_cons ?_ ?_) | ((repeat with_reducible first | exact sub_self | exact sub_l sub_self | refine sub_tl ?_ | refine sub_r ?_); done) | ((with_reducible show _ ∈ _); k_mem) | (refine sub_cons (by k_mem) ?_))); done)) (by (first | assumption | exact Nat.le_of_ble_eq_true rfl | omega)) (by (first | assumption | exact Nat.le_of_ble_eq_true rfl | omega)) (by (first | assumption | exact kpws_lt _)) (by ((repeat' (first | with_reducible exact Keep.nil | (with_reducible refine' Keep.d1 ?_) | (with_reducible refine' Keep.d2 ?_) | (refine' Keep.keep (by ((repeat' (first | with_reducible exact nea_nil | exact df_all (by with_reducible assumption) | exact df_allm (by with_reducible assumption) (by k_mem) | refine nea_cons (by k_ne) ?_)); done)) ?_) | with_reducible refine' Keep.drop ?_ | exact Keep.allOf (by with_reducible assumption) | exact Keep.none)); done)) ?_; k_whole); intro row' dx' rl' pl' tl' rk' ts' n' c1' c2' h' tk' F' N' V' l1' l2' l3' l4' o1' o2' o3' o4' o5'; obtain ⟨u1', u2', u3', u4'⟩ := five_df l1' l2' l3' l4'; have o1' := off1_all o1'; have o2' := off1_all o2'; have o3' := off1_all o3'; have o4' := off1_all o4'; have o5' := off1_all o5'; (try k_fold); (try ((with_reducible show wpAny _ _ _ _ _ _); k_gentoks))) | ((with_reducible show wpAny _ _ (call (Value.ref 122) _) _ _ _); k_dflt (refine dip_call (by k_asm) (by k_asm) (by k_asm) (by k_asm) (by k_asm) (by first | exact rfl | assumption) (by first | exact rm (by assumption) (by rfl) | ktr_room) (by first | exact un3 (by assumption) (by rfl) | ktr_units) (by k_mem) (by ((repeat' (first | (with_reducible first | exact Rest.nil | refine' Rest.d1 ?_ | refine' Rest.d2 ?_ | refine' Rest.d3 ?_ | refine' Rest.d4 ?_ | refine' Rest.d5 ?_ | refine' Rest.d6 ?_ | refine' Rest.d7 ?_ | refine' Rest.d8 ?_ | refine' Rest.d9 ?_ | refine' Rest.d10 ?_ | refine' Rest.d11 ?_) | (refine' Rest.keep (by ((repeat' (first | with_reducible exact nea_nil | exact df_all (by with_reducible assumption) | exact df_allm (by with_reducible assumption) (by k_mem) | refine nea_cons (by k_ne) ?_)); done)) ?_) | exact Rest.all (by with_reducible assumption) | exact Rest.all (rest_one (by with_reducible assumption)) | exact Rest.all (rest_two (by with_reducible assumption) (by with_reducible assumption)) | (with_reducible first | refine' Rest.app (by assumption) ?_ | refine' Rest.app (rest_one (by assumption)) ?_ | refine' Rest.app (rest_two (by assumption) (by assumption)) ?_ | refine' Rest.drop ?_))); done)) (by assumption) (by assumption) (by assumption) (by first | assumption | decide | exact Nat.le_of_ble_eq_true rfl | omega) (by first | assumption | decide | omega) ?_; k_whole); intro x' y' tx' ty' v' t' h' tk' F' N' hx' hy' hy2' hv0' hv1'; (try k_fold); (try ((with_reducible show wpAny _ _ _ _ _ _); k_gentoks))) | ((with_reducible show wpAny _ _ (call (Value.ref 129) _) _ _ _); k_dflt (refine one_ways (by k_asm) (by k_asm) (by k_asm) (by k_asm) (by k_asm) (by first | exact rfl | assumption) (by first | exact rm (by assumption) (by rfl) | ktr_room) (by first | exact un3 (by assumption) (by rfl) | ktr_units) (by k_mem) (by ((repeat' (first | (with_reducible first | exact Rest.nil | refine' Rest.d1 ?_ | refine' Rest.d2 ?_ | refine' Rest.d3 ?_ | refine' Rest.d4 ?_ | refine' Rest.d5 ?_ | refine' Rest.d6 ?_ | refine' Rest.d7 ?_ | refine' Rest.d8 ?_ | refine' Rest.d9 ?_ | refine' Rest.d10 ?_ | refine' Rest.d11 ?_) | (refine' Rest.keep (by ((repeat' (first | with_reducible exact nea_nil | exact df_all (by with_reducible assumption) | exact df_allm (by with_reducible assumption) (by k_mem) | refine nea_cons (by k_ne) ?_)); done)) ?_) | exact Rest.all (by with_reducible assumption) | exact Rest.all (rest_one (by with_reducible assumption)) | exact Rest.all (rest_two (by with_reducible assumption) (by with_reducible assumption)) | (with_reducible first | refine' Rest.app (by assumption) ?_ | refine' Rest.app (rest_one (by assumption)) ?_ | refine' Rest.app (rest_two (by assumption) (by assumption)) ?_ | refine' Rest.drop ?_))); done)) (by assumption) (by assumption) (by assumption) (by k_mem) (by first | exact fun _ => mem_ways3 | exact fun _ => mem_ways4) (by exact Nat.le_of_ble_eq_true rfl) (by exact Nat.le_of_ble_eq_true rfl) (by k_ne) ?_; k_whole); intro x' y' tx' ty' a' t' h' tk' F' N' hx' hy' hy2'; (try k_fold); (try ((with_reducible show wpAny _ _ _ _ _ _); k_gentoks))) | ((with_reducible show wpAny _ _ (call (Value.ref 143) _) _ _ _); k_dflt (refine strictest_call (by k_asm) (by k_asm) (by k_asm) (by k_asm) (by k_asm) (by first | exact rfl | assumption) (by first | exact rm (by assumption) (by rfl) | ktr_room) (by first | exact un3 (by assumption) (by rfl) | ktr_units) (by k_mem) (by (first | with_reducible assumption | exact Known.vals_are _ _ _ _ _ | exact ways_app (ways_one _ _) (by assumption))) ?_; k_whole); intro t' h' tk' F' N'; (try k_fold); (try ((with_reducible show wpAny _ _ _ _ _ _); k_gentoks)))) | ((with_reducible show LCg.CompSrc _ _ _ _ _ _ _ _ _ _ _ _ _ _); first | (k_dflt (refine LCg.CompSrc.range (by rfl) (by k_asm) (by k_asm) (by assumption) (by first | decide | rfl) (by first | rfl | decide) (by first | size_fits | exact Nat.le_of_ble_eq_true rfl) ?_); intro g'; refine halt ?_; (try ((with_reducible show wpAny _ _ _ _ _ _); k_gentoks))) | (k_dflt (refine LCg.CompSrc.range (a := 0) (by rfl) (by k_asm) (by k_asm) (by assumption) (by exact small_one (by omega) (by omega) (by omega) (by omega)) (by exact rangeSize_to (by omega)) (by (rw [sizeLine_eq]; omega)) ?_); intro g'; refine halt ?_; (try ((with_reducible show wpAny _ _ _ _ _ _); k_gentoks)))) | ((with_reducible show LCg.FinE _ _ _ _ _ _ _); first | (unfold LCg.FinE; intro D' h' tk' F' N' o1'; have o1' := off1_all o1'; (try simp only [List.nil_append, List.cons_append, List.append_nil] at N' o1'); (try dsimp only); (try ((with_reducible show wpAny _ _ _ _ _ _); k_gentoks)))) | ((with_reducible show LCg.CompEnd _ _ _ _ _ _ _ _ _ _ _ _ _ _); first | (refine halt ?_; (try ((with_reducible show wpAny _ _ _ _ _ _); k_gentoks)))) | ((with_reducible show wpAny _ _ (newTuple _) _ _ _); first | (k_dflt (refine newTupleM (by k_asm) (by k_asm) (by exact Nat.le_of_ble_eq_true rfl) ?_; k_whole); intro D' h' F' N' l1; (try k_sweep); (try ((with_reducible show wpAny _ _ _ _ _ _); k_gentoks)))) | ((with_reducible show wpAny _ _ (newList _) _ _ _); first | (k_dflt (refine newListM (by k_asm) (by k_asm) (by exact Nat.le_of_ble_eq_true rfl) ?_; k_whole); intro D' h' F' N' l1; (try k_sweep); (try ((with_reducible show wpAny _ _ _ _ _ _); k_gentoks)))) | ((with_reducible show wpAny _ _ (subscriptTail _ _ (Value.ref _) (Value.int _ _)) _ _ _); first | (with_unfolding_all (refine itemW (by k_asm) (by k_mem) (by exact Known.vals_are _ _ _ _ _) (by omega) (by (show _ < ((4 : Nat) : Int); omega)) (by (show 4 < 1000; decide)) ?_ (by with_unfolding_all rfl); k_whole); intro t'; (try ((with_reducible show wpAny _ _ _ _ _ _); k_gentoks)))) | ((with_reducible show wpAny _ _ (subscriptTail _ (PySem.Expr.Slice _ _ none _) (Value.ref _) (Value.ref _)) _ _ _); first | (k_dflt (refine regs_slice (s := ⟨_, _, _, _, _⟩) (by k_asm) (by k_asm) (by k_mem) (by omega) (by omega) ?_ (by with_unfolding_all rfl) (by kmk_pure)); intro D' rs' rgs' h' F' N' l1 hR' hL' hM'; (try k_sweep); (try ((with_reducible show wpAny _ _ _ _ _ _); k_gentoks))) | (k_dflt (refine pars_slice (s := ⟨_, _, _, _, _⟩) (by k_asm) (by k_asm) (by k_mem) (by omega) (by omega) ?_ (by with_unfolding_all rfl) (by kmk_pure)); intro D' ps' pgs' h' F' N' l1 hR' hL' hM' hO'; (try k_sweep); (try ((with_reducible show wpAny _ _ _ _ _ _); k_gentoks)))) | ((with_reducible show wpAny _ _ (call (Value.builtin _) _) _ _ _); first | ((with_reducible show wpAny _ _ (call (Value.builtin "len") [Value.ref _]) _ _ _); with_unfolding_all (refine lenN (by k_asm) (by k_mem) (by first | omega | ((try simp only [List.length_append, List.length_cons, List.length_nil]); omega)) ?_; k_whole); (try ((with_reducible show wpAny _ _ _ _ _ _); k_gentoks)))) | ((with_reducible show wpAny _ _ (binaryOp _ (Value.ref _) (Value.ref _)) _ _ _); first | (k_dflt (refine addL (by k_asm) (by k_asm) (by first | exact list_base (by k_asm) (by with_reducible assumption) | exact News.isList (by k_asm) (by k_mem)) (by first | exact list_base (by k_asm) (by with_reducible assumption) | exact News.isList (by k_asm) (by k_mem)) (by ((try simp only [List.length_cons, List.length_nil, List.length_append]); omega)) ?_; k_whole); intro D' h' F' N' l1; (try k_sweep); (try ((with_reducible show wpAny _ _ _ _ _ _); k_gentoks)))) | ((with_reducible show wpAny _ _ (eval (Expr.ListComp _ [⟨Expr.Tuple _ _ _, _, [_], _⟩] _ _) _) _ _ _); first | (refine halt ?_; (try ((with_reducible show wpAny _ _ _ _ _ _); k_gentoks)))) | ((with_reducible show wpAny _ _ (compareOp CmpOp.NotEq (Value.ref _) (Value.ref _)) _ _ _); first | (k_dflt (refine ne_waysF (by exact News.isList (by k_asm) (by k_mem)) (by exact News.isList (by k_asm) (by k_mem)) (by (first | with_reducible assumption | exact Known.vals_are _ _ _ _ _ | exact ways_app (ways_one _ _) (by assumption))) (by (first | with_reducible assumption | exact Known.vals_are _ _ _ _ _ | exact ways_app (ways_one _ _) (by assumption))) (by first | exact un3 (by assumption) (by rfl) | ktr_units) ?_; k_whole); (try ((with_reducible show wpAny _ _ _ _ _ _); k_gentoks)))) | ((with_reducible show wpAny _ _ (compareOp CmpOp.NotEq (Value.bool _) (Value.bool _)) _ _ _); first | (with_reducible refine ne_boolF ?_; (try ((with_reducible show wpAny _ _ _ _ _ _); k_gentoks)))) | ((with_reducible show wpAny _ _ (compareOp CmpOp.NotEq (Value.str (Way.s _) _) (Value.str _ _)) _ _ _); first | (refine ne_way ?_; (try ((with_reducible show wpAny _ _ _ _ _ _); k_gentoks)))) | ((with_reducible show wpAny _ _ (execs (Stmt.Assign [Expr.Tuple [Expr.Name (Str.ofString "told") _, _] _ _] _ _ :: _) _) _ _ _); first | (refine halt ?_; (try ((with_reducible show wpAny _ _ _ _ _ _); k_gentoks)))) | (k_end; wrow_close) | walk1 | (dsimp only; walk1) | (leave1; (try dsimp only))))
  rename Known => K9
  unfold Halt
  refine' comp_grow (fun i ys nw => PwIn nw ys (K9.pws.take i)) ?z0 ?z1 ?z2
  case z0 => exact .nil
  case z1 =>
    intro i v I oI C oC D m₂ ys nw h tk E' hi hv hR hC hx F9 N9 off p1 p2 p3 q1 q2 q3
    obtain ⟨tv, hv⟩ := hv
    rw [Int.zero_add] at hv
    subst hv
    obtain ⟨oa, ob, oc⟩ := off3_all off
    clear off
    simp only [List.cons_append, List.nil_append] at N9
    have hi4 : i < 4 := hi
    (w_top off; repeat' (first | (k_unfold; (try dsimp only)) | ((with_reducible show wpAny _ _ (eval (Expr.Dict _ _ _) _) _ _ _); first | (k_dflt (refine kdn_str (by rfl) (by k_asm) (by k_asm) (by exact Top.nolimit (by k_asm)) (by rfl) (by rfl) (by exact List.cons_ne_nil _ _) (by exact Nat.le_of_ble_eq_true rfl) ?_); intro d' h' o' F' N' l1 lo' hd'; (try ((with_reducible show wpAny _ _ _ _ _ _); k_gentoks)))) | ((with_reducible show KdnMade _ _ _ _ _ _ _); first | (k_dflt (refine kdn_made_str (by k_asm) (by k_asm) (by k_updF) (by k_asm) (by rfl) (by exact of_decide_eq_true (by first | rfl | kernel_rfl!)) ?_); intro h' o' F' N' hd'; (try dsimp only at N'); (try ((with_reducible show wpAny _ _ _ _ _ _); k_gentoks)))) | ((with_reducible show wpAny _ _ (eval (Expr.ListComp _ [⟨Expr.Name _ _, _, [], _⟩] _ _) _) _ _ _); first | (k_dflt (refine LCg.ListComp_U (F₀ := by k_asm) (by with_unfolding_all rfl) (by decide) (by rfl) (by decide) (by rfl) ?_); (try ((with_reducible show wpAny _ _ _ _ _ _); k_gentoks)))) | ((with_reducible show wpAny _ _ (call (Value.ref _) _) _ _ _); first | ((with_reducible show wpAny _ _ (call (Value.ref 148) _) _ _ _); k_dflt (refine known_call (by k_asm) (by k_asm) (by k_asm) (by k_asm) (by k_asm) (by first | exact rfl | assumption) (by first | exact rm (by assumption) (by rfl) | ktr_room) (by first | exact un3 (by assumption) (by rfl) | ktr_units) (by k_mem) (by assumption) (by assumption) (by assumption) (by ((repeat' (first | (with_reducible first | exact Rest.nil | refine' Rest.d1 ?_ | refine' Rest.d2 ?_ | refine' Rest.d3 ?_ | refine' Rest.d4 ?_ | refine' Rest.d5 ?_ | refine' Rest.d6 ?_ | refine' Rest.d7 ?_ | refine' Rest.d8 ?_ | refine' Rest.d9 ?_ | refine' Rest.d10 ?_ | refine' Rest.d11 ?_) | (refine' Rest.keep (by ((repeat' (first | with_reducible exact nea_nil | exact df_all (by with_reducible assumption) | exact df_allm (by with_reducible assumption) (by k_mem) | refine nea_cons (by k_ne) ?_)); done)) ?_) | exact Rest.all (by with_reducible assumption) | exact Rest.all (rest_one (by with_reducible assumption)) | exact Rest.all (rest_two (by with_reducible assumption) (by with_reducible assumption)) | (with_reducible first | refine' Rest.app (by assumption) ?_ | refine' Rest.app (rest_one (by assumption)) ?_ | refine' Rest.app (rest_two (by assumption) (by assumption)) ?_ | refine' Rest.drop ?_))); done)) ?_; k_whole); intro x' y' tx' ty' ka' kk' t0' t1' t2' t3' h' tk' K' F' N' hx' hy' hy2' o1'; have o1' := off1_all o1'; (try k_fold); (try ((with_reducible show wpAny _ _ _ _ _ _); k_gentoks))) | ((with_reducible show wpAny _ _ (call (Value.ref 176) _) _ _ _); k_dflt (refine lawRow_call (by k_asm) (by k_asm) (by k_asm) (by k_asm) (by k_asm) (by first | exact rfl | assumption) (by first | exact rm (by assumption) (by rfl) | ktr_room) (by first | exact un3 (by assumption) (by rfl) | ktr_units) (by k_mem) (by k_mem) (by k_mem) (by first | assumption | exact PwIn.nil) (by ((repeat' (first | (with_reducible first | exact sub_nil | exact sub_self | refine sub_app ?_ ?_ | refine sub_cons ?_ ?_) | ((repeat with_reducible first | exact sub_self | exact sub_l sub_self | refine sub_tl ?_ | refine sub_r ?_); done) | ((with_reducible show _ ∈ _); k_mem) | (refine sub_cons (by k_mem) ?_))); done)) (by (first | assumption | exact Nat.le_of_ble_eq_true rfl | omega)) (by (first | assumption | exact Nat.le_of_ble_eq_true rfl | omega)) (by (first | assumption | exact kpws_lt _)) (by ((repeat' (first | with_reducible exact Keep.nil | (with_reducible refine' Keep.d1 ?_) | (with_reducible refine' Keep.d2 ?_) | (refine' Keep.keep (by ((repeat' (first | with_reducible exact nea_nil | exact df_all (by with_reducible assumption) | exact df_allm (by with_reducible assumption) (by k_mem) | refine nea_cons (by k_ne) ?_)); done)) ?_) | with_reducible refine' Keep.drop ?_ | exact Keep.allOf (by with_reducible assumption) | exact Keep.none)); done)) ?_; k_whole); intro row' dx' rl' pl' tl' rk' ts' n' c1' c2' h' tk' F' N' V' l1' l2' l3' l4' o1' o2' o3' o4' o5'; obtain ⟨u1', u2', u3', u4'⟩ := five_df l1' l2' l3' l4'; have o1' := off1_all o1'; have o2' := off1_all o2'; have o3' := off1_all o3'; have o4' := off1_all o4'; have o5' := off1_all o5'; (try k_fold); (try ((with_reducible show wpAny _ _ _ _ _ _); k_gentoks))) | ((with_reducible show wpAny _ _ (call (Value.ref 122) _) _ _ _); k_dflt (refine dip_call (by k_asm) (by k_asm) (by k_asm) (by k_asm) (by k_asm) (by first | exact rfl | assumption) (by first | exact rm (by assumption) (by rfl) | ktr_room) (by first | exact un3 (by assumption) (by rfl) | ktr_units) (by k_mem) (by ((repeat' (first | (with_reducible first | exact Rest.nil | refine' Rest.d1 ?_ | refine' Rest.d2 ?_ | refine' Rest.d3 ?_ | refine' Rest.d4 ?_ | refine' Rest.d5 ?_ | refine' Rest.d6 ?_ | refine' Rest.d7 ?_ | refine' Rest.d8 ?_ | refine' Rest.d9 ?_ | refine' Rest.d10 ?_ | refine' Rest.d11 ?_) | (refine' Rest.keep (by ((repeat' (first | with_reducible exact nea_nil | exact df_all (by with_reducible assumption) | exact df_allm (by with_reducible assumption) (by k_mem) | refine nea_cons (by k_ne) ?_)); done)) ?_) | exact Rest.all (by with_reducible assumption) | exact Rest.all (rest_one (by with_reducible assumption)) | exact Rest.all (rest_two (by with_reducible assumption) (by with_reducible assumption)) | (with_reducible first | refine' Rest.app (by assumption) ?_ | refine' Rest.app (rest_one (by assumption)) ?_ | refine' Rest.app (rest_two (by assumption) (by assumption)) ?_ | refine' Rest.drop ?_))); done)) (by assumption) (by assumption) (by assumption) (by first | assumption | decide | exact Nat.le_of_ble_eq_true rfl | omega) (by first | assumption | decide | omega) ?_; k_whole); intro x' y' tx' ty' v' t' h' tk' F' N' hx' hy' hy2' hv0' hv1'; (try k_fold); (try ((with_reducible show wpAny _ _ _ _ _ _); k_gentoks))) | ((with_reducible show wpAny _ _ (call (Value.ref 129) _) _ _ _); k_dflt (refine one_ways (by k_asm) (by k_asm) (by k_asm) (by k_asm) (by k_asm) (by first | exact rfl | assumption) (by first | exact rm (by assumption) (by rfl) | ktr_room) (by first | exact un3 (by assumption) (by rfl) | ktr_units) (by k_mem) (by ((repeat' (first | (with_reducible first | exact Rest.nil | refine' Rest.d1 ?_ | refine' Rest.d2 ?_ | refine' Rest.d3 ?_ | refine' Rest.d4 ?_ | refine' Rest.d5 ?_ | refine' Rest.d6 ?_ | refine' Rest.d7 ?_ | refine' Rest.d8 ?_ | refine' Rest.d9 ?_ | refine' Rest.d10 ?_ | refine' Rest.d11 ?_) | (refine' Rest.keep (by ((repeat' (first | with_reducible exact nea_nil | exact df_all (by with_reducible assumption) | exact df_allm (by with_reducible assumption) (by k_mem) | refine nea_cons (by k_ne) ?_)); done)) ?_) | exact Rest.all (by with_reducible assumption) | exact Rest.all (rest_one (by with_reducible assumption)) | exact Rest.all (rest_two (by with_reducible assumption) (by with_reducible assumption)) | (with_reducible first | refine' Rest.app (by assumption) ?_ | refine' Rest.app (rest_one (by assumption)) ?_ | refine' Rest.app (rest_two (by assumption) (by assumption)) ?_ | refine' Rest.drop ?_))); done)) (by assumption) (by assumption) (by assumption) (by k_mem) (by first | exact fun _ => mem_ways3 | exact fun _ => mem_ways4) (by exact Nat.le_of_ble_eq_true rfl) (by exact Nat.le_of_ble_eq_true rfl) (by k_ne) ?_; k_whole); intro x' y' tx' ty' a' t' h' tk' F' N' hx' hy' hy2'; (try k_fold); (try ((with_reducible show wpAny _ _ _ _ _ _); k_gentoks))) | ((with_reducible show wpAny _ _ (call (Value.ref 143) _) _ _ _); k_dflt (refine strictest_call (by k_asm) (by k_asm) (by k_asm) (by k_asm) (by k_asm) (by first | exact rfl | assumption) (by first | exact rm (by assumption) (by rfl) | ktr_room) (by first | exact un3 (by assumption) (by rfl) | ktr_units) (by k_mem) (by (first | with_reducible assumption | exact Known.vals_are _ _ _ _ _ | exact ways_app (ways_one _ _) (by assumption))) ?_; k_whole); intro t' h' tk' F' N'; (try k_fold); (try ((with_reducible show wpAny _ _ _ _ _ _); k_gentoks)))) | ((with_reducible show LCg.CompSrc _ _ _ _ _ _ _ _ _ _ _ _ _ _); first | (k_dflt (refine LCg.CompSrc.range (by rfl) (by k_asm) (by k_asm) (by assumption) (by first | decide | rfl) (by first | rfl | decide) (by first | size_fits | exact Nat.le_of_ble_eq_true rfl) ?_); intro g'; refine halt ?_; (try ((with_reducible show wpAny _ _ _ _ _ _); k_gentoks))) | (k_dflt (refine LCg.CompSrc.range (a := 0) (by rfl) (by k_asm) (by k_asm) (by assumption) (by exact small_one (by omega) (by omega) (by omega) (by omega)) (by exact rangeSize_to (by omega)) (by (rw [sizeLine_eq]; omega)) ?_); intro g'; refine halt ?_; (try ((with_reducible show wpAny _ _ _ _ _ _); k_gentoks)))) | ((with_reducible show LCg.FinE _ _ _ _ _ _ _); first | (unfold LCg.FinE; intro D' h' tk' F' N' o1'; have o1' := off1_all o1'; (try simp only [List.nil_append, List.cons_append, List.append_nil] at N' o1'); (try dsimp only); (try ((with_reducible show wpAny _ _ _ _ _ _); k_gentoks)))) | ((with_reducible show LCg.CompEnd _ _ _ _ _ _ _ _ _ _ _ _ _ _); first | (refine halt ?_; (try ((with_reducible show wpAny _ _ _ _ _ _); k_gentoks)))) | ((with_reducible show wpAny _ _ (newTuple _) _ _ _); first | (k_dflt (refine newTupleM (by k_asm) (by k_asm) (by exact Nat.le_of_ble_eq_true rfl) ?_; k_whole); intro D' h' F' N' l1; (try k_sweep); (try ((with_reducible show wpAny _ _ _ _ _ _); k_gentoks)))) | ((with_reducible show wpAny _ _ (newList _) _ _ _); first | (k_dflt (refine newListM (by k_asm) (by k_asm) (by exact Nat.le_of_ble_eq_true rfl) ?_; k_whole); intro D' h' F' N' l1; (try k_sweep); (try ((with_reducible show wpAny _ _ _ _ _ _); k_gentoks)))) | ((with_reducible show wpAny _ _ (subscriptTail _ _ (Value.ref _) (Value.int _ _)) _ _ _); first | (with_unfolding_all (refine itemW (by k_asm) (by k_mem) (by exact Known.vals_are _ _ _ _ _) (by omega) (by (show _ < ((4 : Nat) : Int); omega)) (by (show 4 < 1000; decide)) ?_ (by with_unfolding_all rfl); k_whole); intro t'; (try ((with_reducible show wpAny _ _ _ _ _ _); k_gentoks)))) | ((with_reducible show wpAny _ _ (subscriptTail _ (PySem.Expr.Slice _ _ none _) (Value.ref _) (Value.ref _)) _ _ _); first | (k_dflt (refine regs_slice (s := ⟨_, _, _, _, _⟩) (by k_asm) (by k_asm) (by k_mem) (by omega) (by omega) ?_ (by with_unfolding_all rfl) (by kmk_pure)); intro D' rs' rgs' h' F' N' l1 hR' hL' hM'; (try k_sweep); (try ((with_reducible show wpAny _ _ _ _ _ _); k_gentoks))) | (k_dflt (refine pars_slice (s := ⟨_, _, _, _, _⟩) (by k_asm) (by k_asm) (by k_mem) (by omega) (by omega) ?_ (by with_unfolding_all rfl) (by kmk_pure)); intro D' ps' pgs' h' F' N' l1 hR' hL' hM' hO'; (try k_sweep); (try ((with_reducible show wpAny _ _ _ _ _ _); k_gentoks)))) | ((with_reducible show wpAny _ _ (call (Value.builtin _) _) _ _ _); first | ((with_reducible show wpAny _ _ (call (Value.builtin "len") [Value.ref _]) _ _ _); with_unfolding_all (refine lenN (by k_asm) (by k_mem) (by first | omega | ((try simp only [List.length_append, List.length_cons, List.length_nil]); omega)) ?_; k_whole); (try ((with_reducible show wpAny _ _ _ _ _ _); k_gentoks)))) | ((with_reducible show wpAny _ _ (binaryOp _ (Value.ref _) (Value.ref _)) _ _ _); first | (k_dflt (refine addL (by k_asm) (by k_asm) (by first | exact list_base (by k_asm) (by with_reducible assumption) | exact News.isList (by k_asm) (by k_mem)) (by first | exact list_base (by k_asm) (by with_reducible assumption) | exact News.isList (by k_asm) (by k_mem)) (by ((try simp only [List.length_cons, List.length_nil, List.length_append]); omega)) ?_; k_whole); intro D' h' F' N' l1; (try k_sweep); (try ((with_reducible show wpAny _ _ _ _ _ _); k_gentoks)))) | ((with_reducible show wpAny _ _ (eval (Expr.ListComp _ [⟨Expr.Tuple _ _ _, _, [_], _⟩] _ _) _) _ _ _); first | (refine halt ?_; (try ((with_reducible show wpAny _ _ _ _ _ _); k_gentoks)))) | ((with_reducible show wpAny _ _ (compareOp CmpOp.NotEq (Value.ref _) (Value.ref _)) _ _ _); first | (k_dflt (refine ne_waysF (by exact News.isList (by k_asm) (by k_mem)) (by exact News.isList (by k_asm) (by k_mem)) (by (first | with_reducible assumption | exact Known.vals_are _ _ _ _ _ | exact ways_app (ways_one _ _) (by assumption))) (by (first | with_reducible assumption | exact Known.vals_are _ _ _ _ _ | exact ways_app (ways_one _ _) (by assumption))) (by first | exact un3 (by assumption) (by rfl) | ktr_units) ?_; k_whole); (try ((with_reducible show wpAny _ _ _ _ _ _); k_gentoks)))) | ((with_reducible show wpAny _ _ (compareOp CmpOp.NotEq (Value.bool _) (Value.bool _)) _ _ _); first | (with_reducible refine ne_boolF ?_; (try ((with_reducible show wpAny _ _ _ _ _ _); k_gentoks)))) | ((with_reducible show wpAny _ _ (compareOp CmpOp.NotEq (Value.str (Way.s _) _) (Value.str _ _)) _ _ _); first | (refine ne_way ?_; (try ((with_reducible show wpAny _ _ _ _ _ _); k_gentoks)))) | ((with_reducible show wpAny _ _ (execs (Stmt.Assign [Expr.Tuple [Expr.Name (Str.ofString "told") _, _] _ _] _ _ :: _) _) _ _ _); first | (refine halt ?_; (try ((with_reducible show wpAny _ _ _ _ _ _); k_gentoks)))) | (k_end; wrow_close) | walk1 | (dsimp only; walk1) | (leave1; (try dsimp only))))
    unfold Halt
    refine' comp_turn_pw (Known.pws_take K9 hi4) ?c0 ?c1 ?c2 ?c3 ?c4 ?c5 ?c6 ?c7 ?c8 ?c9 ?c10 p1 p2 p3 ?c11 ?c12 ?c13 hR
    case c1 => k_asm
    case c2 => k_asm
    case c0 => k_mem
    case c3 => k_mem
    case c4 => k_mem
    case c5 => k_mem
    case c6 => ((repeat' (first | (with_reducible first | exact sub_nil | exact sub_self | refine sub_app ?_ ?_ | refine sub_cons ?_ ?_) | ((repeat with_reducible first | exact sub_self | exact sub_l sub_self | refine sub_tl ?_ | refine sub_r ?_); done) | ((with_reducible show _ ∈ _); k_mem) | (refine sub_cons (by k_mem) ?_))); done)
    case c7 => ((repeat' (first | (with_reducible first | exact sub_nil | exact sub_self | refine sub_app ?_ ?_ | refine sub_cons ?_ ?_) | ((repeat with_reducible first | exact sub_self | exact sub_l sub_self | refine sub_tl ?_ | refine sub_r ?_); done) | ((with_reducible show _ ∈ _); k_mem) | (refine sub_cons (by k_mem) ?_))); done)
    case c8 => ((repeat' (first | with_reducible exact neall_nil | with_reducible assumption | with_reducible refine nea_app ?_ ?_ | (refine neall_cons (by k_ne) ?_))); done)
    case c9 => ((repeat' (first | with_reducible exact neall_nil | with_reducible assumption | with_reducible refine nea_app ?_ ?_ | (refine neall_cons (by k_ne) ?_))); done)
    case c10 => ((repeat' (first | with_reducible exact neall_nil | with_reducible assumption | with_reducible refine nea_app ?_ ?_ | (refine neall_cons (by k_ne) ?_))); done)
    case c11 => k_ne
    case c12 => k_ne
    case c13 => k_ne
  intro ys nw hR
  (w_top off; repeat' (first | (k_unfold; (try dsimp only)) | ((with_reducible show wpAny _ _ (eval (Expr.Dict _ _ _) _) _ _ _); first | (k_dflt (refine kdn_str (by rfl) (by k_asm) (by k_asm) (by exact Top.nolimit (by k_asm)) (by rfl) (by rfl) (by exact List.cons_ne_nil _ _) (by exact Nat.le_of_ble_eq_true rfl) ?_); intro d' h' o' F' N' l1 lo' hd'; (try ((with_reducible show wpAny _ _ _ _ _ _); k_gentoks)))) | ((with_reducible show KdnMade _ _ _ _ _ _ _); first | (k_dflt (refine kdn_made_str (by k_asm) (by k_asm) (by k_updF) (by k_asm) (by rfl) (by exact of_decide_eq_true (by first | rfl | kernel_rfl!)) ?_); intro h' o' F' N' hd'; (try dsimp only at N'); (try ((with_reducible show wpAny _ _ _ _ _ _); k_gentoks)))) | ((with_reducible show wpAny _ _ (eval (Expr.ListComp _ [⟨Expr.Name _ _, _, [], _⟩] _ _) _) _ _ _); first | (k_dflt (refine LCg.ListComp_U (F₀ := by k_asm) (by with_unfolding_all rfl) (by decide) (by rfl) (by decide) (by rfl) ?_); (try ((with_reducible show wpAny _ _ _ _ _ _); k_gentoks)))) | ((with_reducible show wpAny _ _ (call (Value.ref _) _) _ _ _); first | ((with_reducible show wpAny _ _ (call (Value.ref 148) _) _ _ _); k_dflt (refine known_call (by k_asm) (by k_asm) (by k_asm) (by k_asm) (by k_asm) (by first | exact rfl | assumption) (by first | exact rm (by assumption) (by rfl) | ktr_room) (by first | exact un3 (by assumption) (by rfl) | ktr_units) (by k_mem) (by assumption) (by assumption) (by assumption) (by ((repeat' (first | (with_reducible first | exact Rest.nil | refine' Rest.d1 ?_ | refine' Rest.d2 ?_ | refine' Rest.d3 ?_ | refine' Rest.d4 ?_ | refine' Rest.d5 ?_ | refine' Rest.d6 ?_ | refine' Rest.d7 ?_ | refine' Rest.d8 ?_ | refine' Rest.d9 ?_ | refine' Rest.d10 ?_ | refine' Rest.d11 ?_) | (refine' Rest.keep (by ((repeat' (first | with_reducible exact nea_nil | exact df_all (by with_reducible assumption) | exact df_allm (by with_reducible assumption) (by k_mem) | refine nea_cons (by k_ne) ?_)); done)) ?_) | exact Rest.all (by with_reducible assumption) | exact Rest.all (rest_one (by with_reducible assumption)) | exact Rest.all (rest_two (by with_reducible assumption) (by with_reducible assumption)) | (with_reducible first | refine' Rest.app (by assumption) ?_ | refine' Rest.app (rest_one (by assumption)) ?_ | refine' Rest.app (rest_two (by assumption) (by assumption)) ?_ | refine' Rest.drop ?_))); done)) ?_; k_whole); intro x' y' tx' ty' ka' kk' t0' t1' t2' t3' h' tk' K' F' N' hx' hy' hy2' o1'; have o1' := off1_all o1'; (try k_fold); (try ((with_reducible show wpAny _ _ _ _ _ _); k_gentoks))) | ((with_reducible show wpAny _ _ (call (Value.ref 176) _) _ _ _); k_dflt (refine lawRow_call (by k_asm) (by k_asm) (by k_asm) (by k_asm) (by k_asm) (by first | exact rfl | assumption) (by first | exact rm (by assumption) (by rfl) | ktr_room) (by first | exact un3 (by assumption) (by rfl) | ktr_units) (by k_mem) (by k_mem) (by k_mem) (by first | assumption | exact PwIn.nil) (by ((repeat' (first | (with_reducible first | exact sub_nil | exact sub_self | refine sub_app ?_ ?_ | refine sub_cons ?_ ?_) | ((repeat with_reducible first | exact sub_self | exact sub_l sub_self | refine sub_tl ?_ | refine sub_r ?_); done) | ((with_reducible show _ ∈ _); k_mem) | (refine sub_cons (by k_mem) ?_))); done)) (by (first | assumption | exact Nat.le_of_ble_eq_true rfl | omega)) (by (first | assumption | exact Nat.le_of_ble_eq_true rfl | omega)) (by (first | assumption | exact kpws_lt _)) (by ((repeat' (first | with_reducible exact Keep.nil | (with_reducible refine' Keep.d1 ?_) | (with_reducible refine' Keep.d2 ?_) | (refine' Keep.keep (by ((repeat' (first | with_reducible exact nea_nil | exact df_all (by with_reducible assumption) | exact df_allm (by with_reducible assumption) (by k_mem) | refine nea_cons (by k_ne) ?_)); done)) ?_) | with_reducible refine' Keep.drop ?_ | exact Keep.allOf (by with_reducible assumption) | exact Keep.none)); done)) ?_; k_whole); intro row' dx' rl' pl' tl' rk' ts' n' c1' c2' h' tk' F' N' V' l1' l2' l3' l4' o1' o2' o3' o4' o5'; obtain ⟨u1', u2', u3', u4'⟩ := five_df l1' l2' l3' l4'; have o1' := off1_all o1'; have o2' := off1_all o2'; have o3' := off1_all o3'; have o4' := off1_all o4'; have o5' := off1_all o5'; (try k_fold); (try ((with_reducible show wpAny _ _ _ _ _ _); k_gentoks))) | ((with_reducible show wpAny _ _ (call (Value.ref 122) _) _ _ _); k_dflt (refine dip_call (by k_asm) (by k_asm) (by k_asm) (by k_asm) (by k_asm) (by first | exact rfl | assumption) (by first | exact rm (by assumption) (by rfl) | ktr_room) (by first | exact un3 (by assumption) (by rfl) | ktr_units) (by k_mem) (by ((repeat' (first | (with_reducible first | exact Rest.nil | refine' Rest.d1 ?_ | refine' Rest.d2 ?_ | refine' Rest.d3 ?_ | refine' Rest.d4 ?_ | refine' Rest.d5 ?_ | refine' Rest.d6 ?_ | refine' Rest.d7 ?_ | refine' Rest.d8 ?_ | refine' Rest.d9 ?_ | refine' Rest.d10 ?_ | refine' Rest.d11 ?_) | (refine' Rest.keep (by ((repeat' (first | with_reducible exact nea_nil | exact df_all (by with_reducible assumption) | exact df_allm (by with_reducible assumption) (by k_mem) | refine nea_cons (by k_ne) ?_)); done)) ?_) | exact Rest.all (by with_reducible assumption) | exact Rest.all (rest_one (by with_reducible assumption)) | exact Rest.all (rest_two (by with_reducible assumption) (by with_reducible assumption)) | (with_reducible first | refine' Rest.app (by assumption) ?_ | refine' Rest.app (rest_one (by assumption)) ?_ | refine' Rest.app (rest_two (by assumption) (by assumption)) ?_ | refine' Rest.drop ?_))); done)) (by assumption) (by assumption) (by assumption) (by first | assumption | decide | exact Nat.le_of_ble_eq_true rfl | omega) (by first | assumption | decide | omega) ?_; k_whole); intro x' y' tx' ty' v' t' h' tk' F' N' hx' hy' hy2' hv0' hv1'; (try k_fold); (try ((with_reducible show wpAny _ _ _ _ _ _); k_gentoks))) | ((with_reducible show wpAny _ _ (call (Value.ref 129) _) _ _ _); k_dflt (refine one_ways (by k_asm) (by k_asm) (by k_asm) (by k_asm) (by k_asm) (by first | exact rfl | assumption) (by first | exact rm (by assumption) (by rfl) | ktr_room) (by first | exact un3 (by assumption) (by rfl) | ktr_units) (by k_mem) (by ((repeat' (first | (with_reducible first | exact Rest.nil | refine' Rest.d1 ?_ | refine' Rest.d2 ?_ | refine' Rest.d3 ?_ | refine' Rest.d4 ?_ | refine' Rest.d5 ?_ | refine' Rest.d6 ?_ | refine' Rest.d7 ?_ | refine' Rest.d8 ?_ | refine' Rest.d9 ?_ | refine' Rest.d10 ?_ | refine' Rest.d11 ?_) | (refine' Rest.keep (by ((repeat' (first | with_reducible exact nea_nil | exact df_all (by with_reducible assumption) | exact df_allm (by with_reducible assumption) (by k_mem) | refine nea_cons (by k_ne) ?_)); done)) ?_) | exact Rest.all (by with_reducible assumption) | exact Rest.all (rest_one (by with_reducible assumption)) | exact Rest.all (rest_two (by with_reducible assumption) (by with_reducible assumption)) | (with_reducible first | refine' Rest.app (by assumption) ?_ | refine' Rest.app (rest_one (by assumption)) ?_ | refine' Rest.app (rest_two (by assumption) (by assumption)) ?_ | refine' Rest.drop ?_))); done)) (by assumption) (by assumption) (by assumption) (by k_mem) (by first | exact fun _ => mem_ways3 | exact fun _ => mem_ways4) (by exact Nat.le_of_ble_eq_true rfl) (by exact Nat.le_of_ble_eq_true rfl) (by k_ne) ?_; k_whole); intro x' y' tx' ty' a' t' h' tk' F' N' hx' hy' hy2'; (try k_fold); (try ((with_reducible show wpAny _ _ _ _ _ _); k_gentoks))) | ((with_reducible show wpAny _ _ (call (Value.ref 143) _) _ _ _); k_dflt (refine strictest_call (by k_asm) (by k_asm) (by k_asm) (by k_asm) (by k_asm) (by first | exact rfl | assumption) (by first | exact rm (by assumption) (by rfl) | ktr_room) (by first | exact un3 (by assumption) (by rfl) | ktr_units) (by k_mem) (by (first | with_reducible assumption | exact Known.vals_are _ _ _ _ _ | exact ways_app (ways_one _ _) (by assumption))) ?_; k_whole); intro t' h' tk' F' N'; (try k_fold); (try ((with_reducible show wpAny _ _ _ _ _ _); k_gentoks)))) | ((with_reducible show LCg.CompSrc _ _ _ _ _ _ _ _ _ _ _ _ _ _); first | (k_dflt (refine LCg.CompSrc.range (by rfl) (by k_asm) (by k_asm) (by assumption) (by first | decide | rfl) (by first | rfl | decide) (by first | size_fits | exact Nat.le_of_ble_eq_true rfl) ?_); intro g'; refine halt ?_; (try ((with_reducible show wpAny _ _ _ _ _ _); k_gentoks))) | (k_dflt (refine LCg.CompSrc.range (a := 0) (by rfl) (by k_asm) (by k_asm) (by assumption) (by exact small_one (by omega) (by omega) (by omega) (by omega)) (by exact rangeSize_to (by omega)) (by (rw [sizeLine_eq]; omega)) ?_); intro g'; refine halt ?_; (try ((with_reducible show wpAny _ _ _ _ _ _); k_gentoks)))) | ((with_reducible show LCg.FinE _ _ _ _ _ _ _); first | (unfold LCg.FinE; intro D' h' tk' F' N' o1'; have o1' := off1_all o1'; (try simp only [List.nil_append, List.cons_append, List.append_nil] at N' o1'); (try dsimp only); (try ((with_reducible show wpAny _ _ _ _ _ _); k_gentoks)))) | ((with_reducible show LCg.CompEnd _ _ _ _ _ _ _ _ _ _ _ _ _ _); first | (refine halt ?_; (try ((with_reducible show wpAny _ _ _ _ _ _); k_gentoks)))) | ((with_reducible show wpAny _ _ (newTuple _) _ _ _); first | (k_dflt (refine newTupleM (by k_asm) (by k_asm) (by exact Nat.le_of_ble_eq_true rfl) ?_; k_whole); intro D' h' F' N' l1; (try k_sweep); (try ((with_reducible show wpAny _ _ _ _ _ _); k_gentoks)))) | ((with_reducible show wpAny _ _ (newList _) _ _ _); first | (k_dflt (refine newListM (by k_asm) (by k_asm) (by exact Nat.le_of_ble_eq_true rfl) ?_; k_whole); intro D' h' F' N' l1; (try k_sweep); (try ((with_reducible show wpAny _ _ _ _ _ _); k_gentoks)))) | ((with_reducible show wpAny _ _ (subscriptTail _ _ (Value.ref _) (Value.int _ _)) _ _ _); first | (with_unfolding_all (refine itemW (by k_asm) (by k_mem) (by exact Known.vals_are _ _ _ _ _) (by omega) (by (show _ < ((4 : Nat) : Int); omega)) (by (show 4 < 1000; decide)) ?_ (by with_unfolding_all rfl); k_whole); intro t'; (try ((with_reducible show wpAny _ _ _ _ _ _); k_gentoks)))) | ((with_reducible show wpAny _ _ (subscriptTail _ (PySem.Expr.Slice _ _ none _) (Value.ref _) (Value.ref _)) _ _ _); first | (k_dflt (refine regs_slice (s := ⟨_, _, _, _, _⟩) (by k_asm) (by k_asm) (by k_mem) (by omega) (by omega) ?_ (by with_unfolding_all rfl) (by kmk_pure)); intro D' rs' rgs' h' F' N' l1 hR' hL' hM'; (try k_sweep); (try ((with_reducible show wpAny _ _ _ _ _ _); k_gentoks))) | (k_dflt (refine pars_slice (s := ⟨_, _, _, _, _⟩) (by k_asm) (by k_asm) (by k_mem) (by omega) (by omega) ?_ (by with_unfolding_all rfl) (by kmk_pure)); intro D' ps' pgs' h' F' N' l1 hR' hL' hM' hO'; (try k_sweep); (try ((with_reducible show wpAny _ _ _ _ _ _); k_gentoks)))) | ((with_reducible show wpAny _ _ (call (Value.builtin _) _) _ _ _); first | ((with_reducible show wpAny _ _ (call (Value.builtin "len") [Value.ref _]) _ _ _); with_unfolding_all (refine lenN (by k_asm) (by k_mem) (by first | omega | ((try simp only [List.length_append, List.length_cons, List.length_nil]); omega)) ?_; k_whole); (try ((with_reducible show wpAny _ _ _ _ _ _); k_gentoks)))) | ((with_reducible show wpAny _ _ (binaryOp _ (Value.ref _) (Value.ref _)) _ _ _); first | (k_dflt (refine addL (by k_asm) (by k_asm) (by first | exact list_base (by k_asm) (by with_reducible assumption) | exact News.isList (by k_asm) (by k_mem)) (by first | exact list_base (by k_asm) (by with_reducible assumption) | exact News.isList (by k_asm) (by k_mem)) (by ((try simp only [List.length_cons, List.length_nil, List.length_append]); omega)) ?_; k_whole); intro D' h' F' N' l1; (try k_sweep); (try ((with_reducible show wpAny _ _ _ _ _ _); k_gentoks)))) | ((with_reducible show wpAny _ _ (eval (Expr.ListComp _ [⟨Expr.Tuple _ _ _, _, [_], _⟩] _ _) _) _ _ _); first | (refine halt ?_; (try ((with_reducible show wpAny _ _ _ _ _ _); k_gentoks)))) | ((with_reducible show wpAny _ _ (compareOp CmpOp.NotEq (Value.ref _) (Value.ref _)) _ _ _); first | (k_dflt (refine ne_waysF (by exact News.isList (by k_asm) (by k_mem)) (by exact News.isList (by k_asm) (by k_mem)) (by (first | with_reducible assumption | exact Known.vals_are _ _ _ _ _ | exact ways_app (ways_one _ _) (by assumption))) (by (first | with_reducible assumption | exact Known.vals_are _ _ _ _ _ | exact ways_app (ways_one _ _) (by assumption))) (by first | exact un3 (by assumption) (by rfl) | ktr_units) ?_; k_whole); (try ((with_reducible show wpAny _ _ _ _ _ _); k_gentoks)))) | ((with_reducible show wpAny _ _ (compareOp CmpOp.NotEq (Value.bool _) (Value.bool _)) _ _ _); first | (with_reducible refine ne_boolF ?_; (try ((with_reducible show wpAny _ _ _ _ _ _); k_gentoks)))) | ((with_reducible show wpAny _ _ (compareOp CmpOp.NotEq (Value.str (Way.s _) _) (Value.str _ _)) _ _ _); first | (refine ne_way ?_; (try ((with_reducible show wpAny _ _ _ _ _ _); k_gentoks)))) | ((with_reducible show wpAny _ _ (execs (Stmt.Assign [Expr.Tuple [Expr.Name (Str.ofString "told") _, _] _ _] _ _ :: _) _) _ _ _); first | (refine halt ?_; (try ((with_reducible show wpAny _ _ _ _ _ _); k_gentoks)))) | (k_end; wrow_close) | walk1 | (dsimp only; walk1) | (leave1; (try dsimp only))))
  rename RegsV _ _ => R9
  rename ParsV _ _ => P9
  obtain ⟨b9, hb9, nl1, nl2, nl3, nl4⟩ := names_b R9 P9
  unfold Halt
  refine' comp_draws (fun i ys nw => ∃ pws : List (Nat × Way), PwIn nw ys pws ∧ pws.length = i ∧ ∀ z ∈ pws, z.1 < b9) ⟨[], .nil, rfl, fun z hz => nomatch hz⟩ ?y1 ?y2 ?y3 ?y4 ?y5 ?y6
  case y1 => assumption
  case y2 => assumption
  case y3 => assumption
  case y4 => ((repeat' (first | with_reducible exact neall_nil | with_reducible assumption | with_reducible refine nea_app ?_ ?_ | (refine neall_cons (by k_ne) ?_))); done)
  case y5 =>
    intro i v I oI C oC D m₂ ys nw h tk jx jy jtx jty E' hi hv hR b1 b2 b3 hj hq hC hx F9 N9 off ji jc jd p1 p2 p3 q1 q2 q3
    obtain ⟨tv, rfl⟩ := hv
    obtain ⟨oa, ob, oc⟩ := off3_all off
    clear off
    simp only [List.cons_append, List.nil_append] at N9
    (w_top off; repeat' (first | (k_unfold; (try dsimp only)) | ((with_reducible show wpAny _ _ (eval (Expr.Dict _ _ _) _) _ _ _); first | (k_dflt (refine kdn_str (by rfl) (by k_asm) (by k_asm) (by exact Top.nolimit (by k_asm)) (by rfl) (by rfl) (by exact List.cons_ne_nil _ _) (by exact Nat.le_of_ble_eq_true rfl) ?_); intro d' h' o' F' N' l1 lo' hd'; (try ((with_reducible show wpAny _ _ _ _ _ _); k_gentoks)))) | ((with_reducible show KdnMade _ _ _ _ _ _ _); first | (k_dflt (refine kdn_made_str (by k_asm) (by k_asm) (by k_updF) (by k_asm) (by rfl) (by exact of_decide_eq_true (by first | rfl | kernel_rfl!)) ?_); intro h' o' F' N' hd'; (try dsimp only at N'); (try ((with_reducible show wpAny _ _ _ _ _ _); k_gentoks)))) | ((with_reducible show wpAny _ _ (eval (Expr.ListComp _ [⟨Expr.Name _ _, _, [], _⟩] _ _) _) _ _ _); first | (k_dflt (refine LCg.ListComp_U (F₀ := by k_asm) (by with_unfolding_all rfl) (by decide) (by rfl) (by decide) (by rfl) ?_); (try ((with_reducible show wpAny _ _ _ _ _ _); k_gentoks)))) | ((with_reducible show wpAny _ _ (call (Value.ref _) _) _ _ _); first | ((with_reducible show wpAny _ _ (call (Value.ref 148) _) _ _ _); k_dflt (refine known_call (by k_asm) (by k_asm) (by k_asm) (by k_asm) (by k_asm) (by first | exact rfl | assumption) (by first | exact rm (by assumption) (by rfl) | ktr_room) (by first | exact un3 (by assumption) (by rfl) | ktr_units) (by k_mem) (by assumption) (by assumption) (by assumption) (by ((repeat' (first | (with_reducible first | exact Rest.nil | refine' Rest.d1 ?_ | refine' Rest.d2 ?_ | refine' Rest.d3 ?_ | refine' Rest.d4 ?_ | refine' Rest.d5 ?_ | refine' Rest.d6 ?_ | refine' Rest.d7 ?_ | refine' Rest.d8 ?_ | refine' Rest.d9 ?_ | refine' Rest.d10 ?_ | refine' Rest.d11 ?_) | (refine' Rest.keep (by ((repeat' (first | with_reducible exact nea_nil | exact df_all (by with_reducible assumption) | exact df_allm (by with_reducible assumption) (by k_mem) | refine nea_cons (by k_ne) ?_)); done)) ?_) | exact Rest.all (by with_reducible assumption) | exact Rest.all (rest_one (by with_reducible assumption)) | exact Rest.all (rest_two (by with_reducible assumption) (by with_reducible assumption)) | (with_reducible first | refine' Rest.app (by assumption) ?_ | refine' Rest.app (rest_one (by assumption)) ?_ | refine' Rest.app (rest_two (by assumption) (by assumption)) ?_ | refine' Rest.drop ?_))); done)) ?_; k_whole); intro x' y' tx' ty' ka' kk' t0' t1' t2' t3' h' tk' K' F' N' hx' hy' hy2' o1'; have o1' := off1_all o1'; (try k_fold); (try ((with_reducible show wpAny _ _ _ _ _ _); k_gentoks))) | ((with_reducible show wpAny _ _ (call (Value.ref 176) _) _ _ _); k_dflt (refine lawRow_call (by k_asm) (by k_asm) (by k_asm) (by k_asm) (by k_asm) (by first | exact rfl | assumption) (by first | exact rm (by assumption) (by rfl) | ktr_room) (by first | exact un3 (by assumption) (by rfl) | ktr_units) (by k_mem) (by k_mem) (by k_mem) (by first | assumption | exact PwIn.nil) (by ((repeat' (first | (with_reducible first | exact sub_nil | exact sub_self | refine sub_app ?_ ?_ | refine sub_cons ?_ ?_) | ((repeat with_reducible first | exact sub_self | exact sub_l sub_self | refine sub_tl ?_ | refine sub_r ?_); done) | ((with_reducible show _ ∈ _); k_mem) | (refine sub_cons (by k_mem) ?_))); done)) (by (first | assumption | exact Nat.le_of_ble_eq_true rfl | omega)) (by (first | assumption | exact Nat.le_of_ble_eq_true rfl | omega)) (by (first | assumption | exact kpws_lt _)) (by ((repeat' (first | with_reducible exact Keep.nil | (with_reducible refine' Keep.d1 ?_) | (with_reducible refine' Keep.d2 ?_) | (refine' Keep.keep (by ((repeat' (first | with_reducible exact nea_nil | exact df_all (by with_reducible assumption) | exact df_allm (by with_reducible assumption) (by k_mem) | refine nea_cons (by k_ne) ?_)); done)) ?_) | with_reducible refine' Keep.drop ?_ | exact Keep.allOf (by with_reducible assumption) | exact Keep.none)); done)) ?_; k_whole); intro row' dx' rl' pl' tl' rk' ts' n' c1' c2' h' tk' F' N' V' l1' l2' l3' l4' o1' o2' o3' o4' o5'; obtain ⟨u1', u2', u3', u4'⟩ := five_df l1' l2' l3' l4'; have o1' := off1_all o1'; have o2' := off1_all o2'; have o3' := off1_all o3'; have o4' := off1_all o4'; have o5' := off1_all o5'; (try k_fold); (try ((with_reducible show wpAny _ _ _ _ _ _); k_gentoks))) | ((with_reducible show wpAny _ _ (call (Value.ref 122) _) _ _ _); k_dflt (refine dip_call (by k_asm) (by k_asm) (by k_asm) (by k_asm) (by k_asm) (by first | exact rfl | assumption) (by first | exact rm (by assumption) (by rfl) | ktr_room) (by first | exact un3 (by assumption) (by rfl) | ktr_units) (by k_mem) (by ((repeat' (first | (with_reducible first | exact Rest.nil | refine' Rest.d1 ?_ | refine' Rest.d2 ?_ | refine' Rest.d3 ?_ | refine' Rest.d4 ?_ | refine' Rest.d5 ?_ | refine' Rest.d6 ?_ | refine' Rest.d7 ?_ | refine' Rest.d8 ?_ | refine' Rest.d9 ?_ | refine' Rest.d10 ?_ | refine' Rest.d11 ?_) | (refine' Rest.keep (by ((repeat' (first | with_reducible exact nea_nil | exact df_all (by with_reducible assumption) | exact df_allm (by with_reducible assumption) (by k_mem) | refine nea_cons (by k_ne) ?_)); done)) ?_) | exact Rest.all (by with_reducible assumption) | exact Rest.all (rest_one (by with_reducible assumption)) | exact Rest.all (rest_two (by with_reducible assumption) (by with_reducible assumption)) | (with_reducible first | refine' Rest.app (by assumption) ?_ | refine' Rest.app (rest_one (by assumption)) ?_ | refine' Rest.app (rest_two (by assumption) (by assumption)) ?_ | refine' Rest.drop ?_))); done)) (by assumption) (by assumption) (by assumption) (by first | assumption | decide | exact Nat.le_of_ble_eq_true rfl | omega) (by first | assumption | decide | omega) ?_; k_whole); intro x' y' tx' ty' v' t' h' tk' F' N' hx' hy' hy2' hv0' hv1'; (try k_fold); (try ((with_reducible show wpAny _ _ _ _ _ _); k_gentoks))) | ((with_reducible show wpAny _ _ (call (Value.ref 129) _) _ _ _); k_dflt (refine one_ways (by k_asm) (by k_asm) (by k_asm) (by k_asm) (by k_asm) (by first | exact rfl | assumption) (by first | exact rm (by assumption) (by rfl) | ktr_room) (by first | exact un3 (by assumption) (by rfl) | ktr_units) (by k_mem) (by ((repeat' (first | (with_reducible first | exact Rest.nil | refine' Rest.d1 ?_ | refine' Rest.d2 ?_ | refine' Rest.d3 ?_ | refine' Rest.d4 ?_ | refine' Rest.d5 ?_ | refine' Rest.d6 ?_ | refine' Rest.d7 ?_ | refine' Rest.d8 ?_ | refine' Rest.d9 ?_ | refine' Rest.d10 ?_ | refine' Rest.d11 ?_) | (refine' Rest.keep (by ((repeat' (first | with_reducible exact nea_nil | exact df_all (by with_reducible assumption) | exact df_allm (by with_reducible assumption) (by k_mem) | refine nea_cons (by k_ne) ?_)); done)) ?_) | exact Rest.all (by with_reducible assumption) | exact Rest.all (rest_one (by with_reducible assumption)) | exact Rest.all (rest_two (by with_reducible assumption) (by with_reducible assumption)) | (with_reducible first | refine' Rest.app (by assumption) ?_ | refine' Rest.app (rest_one (by assumption)) ?_ | refine' Rest.app (rest_two (by assumption) (by assumption)) ?_ | refine' Rest.drop ?_))); done)) (by assumption) (by assumption) (by assumption) (by k_mem) (by first | exact fun _ => mem_ways3 | exact fun _ => mem_ways4) (by exact Nat.le_of_ble_eq_true rfl) (by exact Nat.le_of_ble_eq_true rfl) (by k_ne) ?_; k_whole); intro x' y' tx' ty' a' t' h' tk' F' N' hx' hy' hy2'; (try k_fold); (try ((with_reducible show wpAny _ _ _ _ _ _); k_gentoks))) | ((with_reducible show wpAny _ _ (call (Value.ref 143) _) _ _ _); k_dflt (refine strictest_call (by k_asm) (by k_asm) (by k_asm) (by k_asm) (by k_asm) (by first | exact rfl | assumption) (by first | exact rm (by assumption) (by rfl) | ktr_room) (by first | exact un3 (by assumption) (by rfl) | ktr_units) (by k_mem) (by (first | with_reducible assumption | exact Known.vals_are _ _ _ _ _ | exact ways_app (ways_one _ _) (by assumption))) ?_; k_whole); intro t' h' tk' F' N'; (try k_fold); (try ((with_reducible show wpAny _ _ _ _ _ _); k_gentoks)))) | ((with_reducible show LCg.CompSrc _ _ _ _ _ _ _ _ _ _ _ _ _ _); first | (k_dflt (refine LCg.CompSrc.range (by rfl) (by k_asm) (by k_asm) (by assumption) (by first | decide | rfl) (by first | rfl | decide) (by first | size_fits | exact Nat.le_of_ble_eq_true rfl) ?_); intro g'; refine halt ?_; (try ((with_reducible show wpAny _ _ _ _ _ _); k_gentoks))) | (k_dflt (refine LCg.CompSrc.range (a := 0) (by rfl) (by k_asm) (by k_asm) (by assumption) (by exact small_one (by omega) (by omega) (by omega) (by omega)) (by exact rangeSize_to (by omega)) (by (rw [sizeLine_eq]; omega)) ?_); intro g'; refine halt ?_; (try ((with_reducible show wpAny _ _ _ _ _ _); k_gentoks)))) | ((with_reducible show LCg.FinE _ _ _ _ _ _ _); first | (unfold LCg.FinE; intro D' h' tk' F' N' o1'; have o1' := off1_all o1'; (try simp only [List.nil_append, List.cons_append, List.append_nil] at N' o1'); (try dsimp only); (try ((with_reducible show wpAny _ _ _ _ _ _); k_gentoks)))) | ((with_reducible show LCg.CompEnd _ _ _ _ _ _ _ _ _ _ _ _ _ _); first | (refine halt ?_; (try ((with_reducible show wpAny _ _ _ _ _ _); k_gentoks)))) | ((with_reducible show wpAny _ _ (newTuple _) _ _ _); first | (k_dflt (refine newTupleM (by k_asm) (by k_asm) (by exact Nat.le_of_ble_eq_true rfl) ?_; k_whole); intro D' h' F' N' l1; (try k_sweep); (try ((with_reducible show wpAny _ _ _ _ _ _); k_gentoks)))) | ((with_reducible show wpAny _ _ (newList _) _ _ _); first | (k_dflt (refine newListM (by k_asm) (by k_asm) (by exact Nat.le_of_ble_eq_true rfl) ?_; k_whole); intro D' h' F' N' l1; (try k_sweep); (try ((with_reducible show wpAny _ _ _ _ _ _); k_gentoks)))) | ((with_reducible show wpAny _ _ (subscriptTail _ _ (Value.ref _) (Value.int _ _)) _ _ _); first | (with_unfolding_all (refine itemW (by k_asm) (by k_mem) (by exact Known.vals_are _ _ _ _ _) (by omega) (by (show _ < ((4 : Nat) : Int); omega)) (by (show 4 < 1000; decide)) ?_ (by with_unfolding_all rfl); k_whole); intro t'; (try ((with_reducible show wpAny _ _ _ _ _ _); k_gentoks)))) | ((with_reducible show wpAny _ _ (subscriptTail _ (PySem.Expr.Slice _ _ none _) (Value.ref _) (Value.ref _)) _ _ _); first | (k_dflt (refine regs_slice (s := ⟨_, _, _, _, _⟩) (by k_asm) (by k_asm) (by k_mem) (by omega) (by omega) ?_ (by with_unfolding_all rfl) (by kmk_pure)); intro D' rs' rgs' h' F' N' l1 hR' hL' hM'; (try k_sweep); (try ((with_reducible show wpAny _ _ _ _ _ _); k_gentoks))) | (k_dflt (refine pars_slice (s := ⟨_, _, _, _, _⟩) (by k_asm) (by k_asm) (by k_mem) (by omega) (by omega) ?_ (by with_unfolding_all rfl) (by kmk_pure)); intro D' ps' pgs' h' F' N' l1 hR' hL' hM' hO'; (try k_sweep); (try ((with_reducible show wpAny _ _ _ _ _ _); k_gentoks)))) | ((with_reducible show wpAny _ _ (call (Value.builtin _) _) _ _ _); first | ((with_reducible show wpAny _ _ (call (Value.builtin "len") [Value.ref _]) _ _ _); with_unfolding_all (refine lenN (by k_asm) (by k_mem) (by first | omega | ((try simp only [List.length_append, List.length_cons, List.length_nil]); omega)) ?_; k_whole); (try ((with_reducible show wpAny _ _ _ _ _ _); k_gentoks)))) | ((with_reducible show wpAny _ _ (binaryOp _ (Value.ref _) (Value.ref _)) _ _ _); first | (k_dflt (refine addL (by k_asm) (by k_asm) (by first | exact list_base (by k_asm) (by with_reducible assumption) | exact News.isList (by k_asm) (by k_mem)) (by first | exact list_base (by k_asm) (by with_reducible assumption) | exact News.isList (by k_asm) (by k_mem)) (by ((try simp only [List.length_cons, List.length_nil, List.length_append]); omega)) ?_; k_whole); intro D' h' F' N' l1; (try k_sweep); (try ((with_reducible show wpAny _ _ _ _ _ _); k_gentoks)))) | ((with_reducible show wpAny _ _ (eval (Expr.ListComp _ [⟨Expr.Tuple _ _ _, _, [_], _⟩] _ _) _) _ _ _); first | (refine halt ?_; (try ((with_reducible show wpAny _ _ _ _ _ _); k_gentoks)))) | ((with_reducible show wpAny _ _ (compareOp CmpOp.NotEq (Value.ref _) (Value.ref _)) _ _ _); first | (k_dflt (refine ne_waysF (by exact News.isList (by k_asm) (by k_mem)) (by exact News.isList (by k_asm) (by k_mem)) (by (first | with_reducible assumption | exact Known.vals_are _ _ _ _ _ | exact ways_app (ways_one _ _) (by assumption))) (by (first | with_reducible assumption | exact Known.vals_are _ _ _ _ _ | exact ways_app (ways_one _ _) (by assumption))) (by first | exact un3 (by assumption) (by rfl) | ktr_units) ?_; k_whole); (try ((with_reducible show wpAny _ _ _ _ _ _); k_gentoks)))) | ((with_reducible show wpAny _ _ (compareOp CmpOp.NotEq (Value.bool _) (Value.bool _)) _ _ _); first | (with_reducible refine ne_boolF ?_; (try ((with_reducible show wpAny _ _ _ _ _ _); k_gentoks)))) | ((with_reducible show wpAny _ _ (compareOp CmpOp.NotEq (Value.str (Way.s _) _) (Value.str _ _)) _ _ _); first | (refine ne_way ?_; (try ((with_reducible show wpAny _ _ _ _ _ _); k_gentoks)))) | ((with_reducible show wpAny _ _ (execs (Stmt.Assign [Expr.Tuple [Expr.Name (Str.ofString "told") _, _] _ _] _ _ :: _) _) _ _ _); first | (refine halt ?_; (try ((with_reducible show wpAny _ _ _ _ _ _); k_gentoks)))) | (k_end; wrow_close) | walk1 | (dsimp only; walk1) | (leave1; (try dsimp only))))
    unfold Halt
    refine' comp_turn_pwj ?d0 ?d1 ?d2 ?d3 ?d4 ?d5 ?d6 ?d7 ?d8 ?d9 ?d10 ?d11 ?d12 ?d13 ?d14 ?d15 ?d16 p1 p2 p3 hj hq ?d21 ?d17 ?d18 ?d19 ?d20 ji jc jd hR
    case d7 => k_asm
    case d8 => k_asm
    case d0 => k_mem
    case d1 => k_mem
    case d2 => assumption
    case d3 => assumption
    case d4 => assumption
    case d5 => assumption
    case d6 => omega
    case d21 => ((repeat' (first | with_reducible exact neall_nil | with_reducible assumption | with_reducible refine nea_app ?_ ?_ | (refine neall_cons (by k_ne) ?_))); done)
    case d9 => k_mem
    case d10 => k_mem
    case d11 => k_mem
    case d12 => ((repeat' (first | (with_reducible first | exact sub_nil | exact sub_self | refine sub_app ?_ ?_ | refine sub_cons ?_ ?_) | ((repeat with_reducible first | exact sub_self | exact sub_l sub_self | refine sub_tl ?_ | refine sub_r ?_); done) | ((with_reducible show _ ∈ _); k_mem) | (refine sub_cons (by k_mem) ?_))); done)
    case d13 => ((repeat' (first | (with_reducible first | exact sub_nil | exact sub_self | refine sub_app ?_ ?_ | refine sub_cons ?_ ?_) | ((repeat with_reducible first | exact sub_self | exact sub_l sub_self | refine sub_tl ?_ | refine sub_r ?_); done) | ((with_reducible show _ ∈ _); k_mem) | (refine sub_cons (by k_mem) ?_))); done)
    case d14 => ((repeat' (first | with_reducible exact neall_nil | with_reducible assumption | with_reducible refine nea_app ?_ ?_ | (refine neall_cons (by k_ne) ?_))); done)
    case d15 => ((repeat' (first | with_reducible exact neall_nil | with_reducible assumption | with_reducible refine nea_app ?_ ?_ | (refine neall_cons (by k_ne) ?_))); done)
    case d16 => ((repeat' (first | with_reducible exact neall_nil | with_reducible assumption | with_reducible refine nea_app ?_ ?_ | (refine neall_cons (by k_ne) ?_))); done)
    case d17 => k_ne
    case d18 => k_ne
    case d19 => k_ne
    case d20 => k_ne
  intro ys2 nw2 jx jy jtx jty b1 b2 b3 hj2 hq2 hR2
  have hP4 : ys2.length ≤ 10000 := by
    obtain ⟨pws, hP, hPl, hPb⟩ := hR2
    rw [hP.length, hPl]
    omega
  have hq5 : ∀ p ∈ nw2, @Ne Nat p.1 (L' + 1 + 1 + 1 + 1 + 1) := hq2 (L' + 1 + 1 + 1 + 1 + 1, _) (by k_mem)
  clear hq2
  obtain ⟨pws, hP, hPl, hPb⟩ := hR2
  rw [hb9] at hPb
  have km : KeepMe nw2 := trivial
  (w_top off; repeat' (first | (k_unfold; (try dsimp only)) | ((with_reducible show wpAny _ _ (eval (Expr.Dict _ _ _) _) _ _ _); first | (k_dflt (refine kdn_str (by rfl) (by k_asm) (by k_asm) (by exact Top.nolimit (by k_asm)) (by rfl) (by rfl) (by exact List.cons_ne_nil _ _) (by exact Nat.le_of_ble_eq_true rfl) ?_); intro d' h' o' F' N' l1 lo' hd'; (try ((with_reducible show wpAny _ _ _ _ _ _); k_gentoks)))) | ((with_reducible show KdnMade _ _ _ _ _ _ _); first | (k_dflt (refine kdn_made_str (by k_asm) (by k_asm) (by k_updF) (by k_asm) (by rfl) (by exact of_decide_eq_true (by first | rfl | kernel_rfl!)) ?_); intro h' o' F' N' hd'; (try dsimp only at N'); (try ((with_reducible show wpAny _ _ _ _ _ _); k_gentoks)))) | ((with_reducible show wpAny _ _ (eval (Expr.ListComp _ [⟨Expr.Name _ _, _, [], _⟩] _ _) _) _ _ _); first | (k_dflt (refine LCg.ListComp_U (F₀ := by k_asm) (by with_unfolding_all rfl) (by decide) (by rfl) (by decide) (by rfl) ?_); (try ((with_reducible show wpAny _ _ _ _ _ _); k_gentoks)))) | ((with_reducible show wpAny _ _ (call (Value.ref _) _) _ _ _); first | ((with_reducible show wpAny _ _ (call (Value.ref 148) _) _ _ _); k_dflt (refine known_call (by k_asm) (by k_asm) (by k_asm) (by k_asm) (by k_asm) (by first | exact rfl | assumption) (by first | exact rm (by assumption) (by rfl) | ktr_room) (by first | exact un3 (by assumption) (by rfl) | ktr_units) (by k_mem) (by assumption) (by assumption) (by assumption) (by ((repeat' (first | (with_reducible first | exact Rest.nil | refine' Rest.d1 ?_ | refine' Rest.d2 ?_ | refine' Rest.d3 ?_ | refine' Rest.d4 ?_ | refine' Rest.d5 ?_ | refine' Rest.d6 ?_ | refine' Rest.d7 ?_ | refine' Rest.d8 ?_ | refine' Rest.d9 ?_ | refine' Rest.d10 ?_ | refine' Rest.d11 ?_) | (refine' Rest.keep (by ((repeat' (first | with_reducible exact nea_nil | exact df_all (by with_reducible assumption) | exact df_allm (by with_reducible assumption) (by k_mem) | refine nea_cons (by k_ne) ?_)); done)) ?_) | exact Rest.all (by with_reducible assumption) | exact Rest.all (rest_one (by with_reducible assumption)) | exact Rest.all (rest_two (by with_reducible assumption) (by with_reducible assumption)) | (with_reducible first | refine' Rest.app (by assumption) ?_ | refine' Rest.app (rest_one (by assumption)) ?_ | refine' Rest.app (rest_two (by assumption) (by assumption)) ?_ | refine' Rest.drop ?_))); done)) ?_; k_whole); intro x' y' tx' ty' ka' kk' t0' t1' t2' t3' h' tk' K' F' N' hx' hy' hy2' o1'; have o1' := off1_all o1'; (try k_fold); (try ((with_reducible show wpAny _ _ _ _ _ _); k_gentoks))) | ((with_reducible show wpAny _ _ (call (Value.ref 176) _) _ _ _); k_dflt (refine lawRow_call (by k_asm) (by k_asm) (by k_asm) (by k_asm) (by k_asm) (by first | exact rfl | assumption) (by first | exact rm (by assumption) (by rfl) | ktr_room) (by first | exact un3 (by assumption) (by rfl) | ktr_units) (by k_mem) (by k_mem) (by k_mem) (by first | assumption | exact PwIn.nil) (by ((repeat' (first | (with_reducible first | exact sub_nil | exact sub_self | refine sub_app ?_ ?_ | refine sub_cons ?_ ?_) | ((repeat with_reducible first | exact sub_self | exact sub_l sub_self | refine sub_tl ?_ | refine sub_r ?_); done) | ((with_reducible show _ ∈ _); k_mem) | (refine sub_cons (by k_mem) ?_))); done)) (by (first | assumption | exact Nat.le_of_ble_eq_true rfl | omega)) (by (first | assumption | exact Nat.le_of_ble_eq_true rfl | omega)) (by (first | assumption | exact kpws_lt _)) (by ((repeat' (first | with_reducible exact Keep.nil | (with_reducible refine' Keep.d1 ?_) | (with_reducible refine' Keep.d2 ?_) | (refine' Keep.keep (by ((repeat' (first | with_reducible exact nea_nil | exact df_all (by with_reducible assumption) | exact df_allm (by with_reducible assumption) (by k_mem) | refine nea_cons (by k_ne) ?_)); done)) ?_) | with_reducible refine' Keep.drop ?_ | exact Keep.allOf (by with_reducible assumption) | exact Keep.none)); done)) ?_; k_whole); intro row' dx' rl' pl' tl' rk' ts' n' c1' c2' h' tk' F' N' V' l1' l2' l3' l4' o1' o2' o3' o4' o5'; obtain ⟨u1', u2', u3', u4'⟩ := five_df l1' l2' l3' l4'; have o1' := off1_all o1'; have o2' := off1_all o2'; have o3' := off1_all o3'; have o4' := off1_all o4'; have o5' := off1_all o5'; (try k_fold); (try ((with_reducible show wpAny _ _ _ _ _ _); k_gentoks))) | ((with_reducible show wpAny _ _ (call (Value.ref 122) _) _ _ _); k_dflt (refine dip_call (by k_asm) (by k_asm) (by k_asm) (by k_asm) (by k_asm) (by first | exact rfl | assumption) (by first | exact rm (by assumption) (by rfl) | ktr_room) (by first | exact un3 (by assumption) (by rfl) | ktr_units) (by k_mem) (by ((repeat' (first | (with_reducible first | exact Rest.nil | refine' Rest.d1 ?_ | refine' Rest.d2 ?_ | refine' Rest.d3 ?_ | refine' Rest.d4 ?_ | refine' Rest.d5 ?_ | refine' Rest.d6 ?_ | refine' Rest.d7 ?_ | refine' Rest.d8 ?_ | refine' Rest.d9 ?_ | refine' Rest.d10 ?_ | refine' Rest.d11 ?_) | (refine' Rest.keep (by ((repeat' (first | with_reducible exact nea_nil | exact df_all (by with_reducible assumption) | exact df_allm (by with_reducible assumption) (by k_mem) | refine nea_cons (by k_ne) ?_)); done)) ?_) | exact Rest.all (by with_reducible assumption) | exact Rest.all (rest_one (by with_reducible assumption)) | exact Rest.all (rest_two (by with_reducible assumption) (by with_reducible assumption)) | (with_reducible first | refine' Rest.app (by assumption) ?_ | refine' Rest.app (rest_one (by assumption)) ?_ | refine' Rest.app (rest_two (by assumption) (by assumption)) ?_ | refine' Rest.drop ?_))); done)) (by assumption) (by assumption) (by assumption) (by first | assumption | decide | exact Nat.le_of_ble_eq_true rfl | omega) (by first | assumption | decide | omega) ?_; k_whole); intro x' y' tx' ty' v' t' h' tk' F' N' hx' hy' hy2' hv0' hv1'; (try k_fold); (try ((with_reducible show wpAny _ _ _ _ _ _); k_gentoks))) | ((with_reducible show wpAny _ _ (call (Value.ref 129) _) _ _ _); k_dflt (refine one_ways (by k_asm) (by k_asm) (by k_asm) (by k_asm) (by k_asm) (by first | exact rfl | assumption) (by first | exact rm (by assumption) (by rfl) | ktr_room) (by first | exact un3 (by assumption) (by rfl) | ktr_units) (by k_mem) (by ((repeat' (first | (with_reducible first | exact Rest.nil | refine' Rest.d1 ?_ | refine' Rest.d2 ?_ | refine' Rest.d3 ?_ | refine' Rest.d4 ?_ | refine' Rest.d5 ?_ | refine' Rest.d6 ?_ | refine' Rest.d7 ?_ | refine' Rest.d8 ?_ | refine' Rest.d9 ?_ | refine' Rest.d10 ?_ | refine' Rest.d11 ?_) | (refine' Rest.keep (by ((repeat' (first | with_reducible exact nea_nil | exact df_all (by with_reducible assumption) | exact df_allm (by with_reducible assumption) (by k_mem) | refine nea_cons (by k_ne) ?_)); done)) ?_) | exact Rest.all (by with_reducible assumption) | exact Rest.all (rest_one (by with_reducible assumption)) | exact Rest.all (rest_two (by with_reducible assumption) (by with_reducible assumption)) | (with_reducible first | refine' Rest.app (by assumption) ?_ | refine' Rest.app (rest_one (by assumption)) ?_ | refine' Rest.app (rest_two (by assumption) (by assumption)) ?_ | refine' Rest.drop ?_))); done)) (by assumption) (by assumption) (by assumption) (by k_mem) (by first | exact fun _ => mem_ways3 | exact fun _ => mem_ways4) (by exact Nat.le_of_ble_eq_true rfl) (by exact Nat.le_of_ble_eq_true rfl) (by k_ne) ?_; k_whole); intro x' y' tx' ty' a' t' h' tk' F' N' hx' hy' hy2'; (try k_fold); (try ((with_reducible show wpAny _ _ _ _ _ _); k_gentoks))) | ((with_reducible show wpAny _ _ (call (Value.ref 143) _) _ _ _); k_dflt (refine strictest_call (by k_asm) (by k_asm) (by k_asm) (by k_asm) (by k_asm) (by first | exact rfl | assumption) (by first | exact rm (by assumption) (by rfl) | ktr_room) (by first | exact un3 (by assumption) (by rfl) | ktr_units) (by k_mem) (by (first | with_reducible assumption | exact Known.vals_are _ _ _ _ _ | exact ways_app (ways_one _ _) (by assumption))) ?_; k_whole); intro t' h' tk' F' N'; (try k_fold); (try ((with_reducible show wpAny _ _ _ _ _ _); k_gentoks)))) | ((with_reducible show LCg.CompSrc _ _ _ _ _ _ _ _ _ _ _ _ _ _); first | (k_dflt (refine LCg.CompSrc.range (by rfl) (by k_asm) (by k_asm) (by assumption) (by first | decide | rfl) (by first | rfl | decide) (by first | size_fits | exact Nat.le_of_ble_eq_true rfl) ?_); intro g'; refine halt ?_; (try ((with_reducible show wpAny _ _ _ _ _ _); k_gentoks))) | (k_dflt (refine LCg.CompSrc.range (a := 0) (by rfl) (by k_asm) (by k_asm) (by assumption) (by exact small_one (by omega) (by omega) (by omega) (by omega)) (by exact rangeSize_to (by omega)) (by (rw [sizeLine_eq]; omega)) ?_); intro g'; refine halt ?_; (try ((with_reducible show wpAny _ _ _ _ _ _); k_gentoks)))) | ((with_reducible show LCg.FinE _ _ _ _ _ _ _); first | (unfold LCg.FinE; intro D' h' tk' F' N' o1'; have o1' := off1_all o1'; (try simp only [List.nil_append, List.cons_append, List.append_nil] at N' o1'); (try dsimp only); (try ((with_reducible show wpAny _ _ _ _ _ _); k_gentoks)))) | ((with_reducible show LCg.CompEnd _ _ _ _ _ _ _ _ _ _ _ _ _ _); first | (refine halt ?_; (try ((with_reducible show wpAny _ _ _ _ _ _); k_gentoks)))) | ((with_reducible show wpAny _ _ (newTuple _) _ _ _); first | (k_dflt (refine newTupleM (by k_asm) (by k_asm) (by exact Nat.le_of_ble_eq_true rfl) ?_; k_whole); intro D' h' F' N' l1; (try k_sweep); (try ((with_reducible show wpAny _ _ _ _ _ _); k_gentoks)))) | ((with_reducible show wpAny _ _ (newList _) _ _ _); first | (k_dflt (refine newListM (by k_asm) (by k_asm) (by exact Nat.le_of_ble_eq_true rfl) ?_; k_whole); intro D' h' F' N' l1; (try k_sweep); (try ((with_reducible show wpAny _ _ _ _ _ _); k_gentoks)))) | ((with_reducible show wpAny _ _ (subscriptTail _ _ (Value.ref _) (Value.int _ _)) _ _ _); first | (with_unfolding_all (refine itemW (by k_asm) (by k_mem) (by exact Known.vals_are _ _ _ _ _) (by omega) (by (show _ < ((4 : Nat) : Int); omega)) (by (show 4 < 1000; decide)) ?_ (by with_unfolding_all rfl); k_whole); intro t'; (try ((with_reducible show wpAny _ _ _ _ _ _); k_gentoks)))) | ((with_reducible show wpAny _ _ (subscriptTail _ (PySem.Expr.Slice _ _ none _) (Value.ref _) (Value.ref _)) _ _ _); first | (k_dflt (refine regs_slice (s := ⟨_, _, _, _, _⟩) (by k_asm) (by k_asm) (by k_mem) (by omega) (by omega) ?_ (by with_unfolding_all rfl) (by kmk_pure)); intro D' rs' rgs' h' F' N' l1 hR' hL' hM'; (try k_sweep); (try ((with_reducible show wpAny _ _ _ _ _ _); k_gentoks))) | (k_dflt (refine pars_slice (s := ⟨_, _, _, _, _⟩) (by k_asm) (by k_asm) (by k_mem) (by omega) (by omega) ?_ (by with_unfolding_all rfl) (by kmk_pure)); intro D' ps' pgs' h' F' N' l1 hR' hL' hM' hO'; (try k_sweep); (try ((with_reducible show wpAny _ _ _ _ _ _); k_gentoks)))) | ((with_reducible show wpAny _ _ (call (Value.builtin _) _) _ _ _); first | ((with_reducible show wpAny _ _ (call (Value.builtin "len") [Value.ref _]) _ _ _); with_unfolding_all (refine lenN (by k_asm) (by k_mem) (by first | omega | ((try simp only [List.length_append, List.length_cons, List.length_nil]); omega)) ?_; k_whole); (try ((with_reducible show wpAny _ _ _ _ _ _); k_gentoks)))) | ((with_reducible show wpAny _ _ (binaryOp _ (Value.ref _) (Value.ref _)) _ _ _); first | (k_dflt (refine addL (by k_asm) (by k_asm) (by first | exact list_base (by k_asm) (by with_reducible assumption) | exact News.isList (by k_asm) (by k_mem)) (by first | exact list_base (by k_asm) (by with_reducible assumption) | exact News.isList (by k_asm) (by k_mem)) (by ((try simp only [List.length_cons, List.length_nil, List.length_append]); omega)) ?_; k_whole); intro D' h' F' N' l1; (try k_sweep); (try ((with_reducible show wpAny _ _ _ _ _ _); k_gentoks)))) | ((with_reducible show wpAny _ _ (eval (Expr.ListComp _ [⟨Expr.Tuple _ _ _, _, [_], _⟩] _ _) _) _ _ _); first | (refine halt ?_; (try ((with_reducible show wpAny _ _ _ _ _ _); k_gentoks)))) | ((with_reducible show wpAny _ _ (compareOp CmpOp.NotEq (Value.ref _) (Value.ref _)) _ _ _); first | (k_dflt (refine ne_waysF (by exact News.isList (by k_asm) (by k_mem)) (by exact News.isList (by k_asm) (by k_mem)) (by (first | with_reducible assumption | exact Known.vals_are _ _ _ _ _ | exact ways_app (ways_one _ _) (by assumption))) (by (first | with_reducible assumption | exact Known.vals_are _ _ _ _ _ | exact ways_app (ways_one _ _) (by assumption))) (by first | exact un3 (by assumption) (by rfl) | ktr_units) ?_; k_whole); (try ((with_reducible show wpAny _ _ _ _ _ _); k_gentoks)))) | ((with_reducible show wpAny _ _ (compareOp CmpOp.NotEq (Value.bool _) (Value.bool _)) _ _ _); first | (with_reducible refine ne_boolF ?_; (try ((with_reducible show wpAny _ _ _ _ _ _); k_gentoks)))) | ((with_reducible show wpAny _ _ (compareOp CmpOp.NotEq (Value.str (Way.s _) _) (Value.str _ _)) _ _ _); first | (refine ne_way ?_; (try ((with_reducible show wpAny _ _ _ _ _ _); k_gentoks)))) | ((with_reducible show wpAny _ _ (execs (Stmt.Assign [Expr.Tuple [Expr.Name (Str.ofString "told") _, _] _ _] _ _ :: _) _) _ _ _); first | (refine halt ?_; (try ((with_reducible show wpAny _ _ _ _ _ _); k_gentoks)))) | (k_end; wrow_close) | walk1 | (dsimp only; walk1) | (leave1; (try dsimp only))))
  refine' comp_cell (n := b9) ?eF ?eN ?e1 ?e2 ?e3 ?e4 ?e5 ?e6 ?e7 ?e8 ?e9 ?e10 ?e11 ?e12 ?e13 (fun i ys => StrsAre ys ((befores pws i).map Way.s)) ?e14 ?e15 ?e16
  case eF => k_asm
  case eN => k_asm
  case e1 => rfl
  case e2 => rfl
  case e3 => with_unfolding_all rfl
  case e4 => with_unfolding_all rfl
  case e5 => rfl
  case e6 => rfl
  case e7 => decide
  case e8 => rfl
  case e9 => rfl
  case e10 => with_unfolding_all rfl
  case e11 => rfl
  case e12 => omega
  case e13 =>
    (w_top off; repeat' (first | (k_unfold; (try dsimp only)) | ((with_reducible show wpAny _ _ (eval (Expr.Dict _ _ _) _) _ _ _); first | (k_dflt (refine kdn_str (by rfl) (by k_asm) (by k_asm) (by exact Top.nolimit (by k_asm)) (by rfl) (by rfl) (by exact List.cons_ne_nil _ _) (by exact Nat.le_of_ble_eq_true rfl) ?_); intro d' h' o' F' N' l1 lo' hd'; (try ((with_reducible show wpAny _ _ _ _ _ _); k_gentoks)))) | ((with_reducible show KdnMade _ _ _ _ _ _ _); first | (k_dflt (refine kdn_made_str (by k_asm) (by k_asm) (by k_updF) (by k_asm) (by rfl) (by exact of_decide_eq_true (by first | rfl | kernel_rfl!)) ?_); intro h' o' F' N' hd'; (try dsimp only at N'); (try ((with_reducible show wpAny _ _ _ _ _ _); k_gentoks)))) | ((with_reducible show wpAny _ _ (eval (Expr.ListComp _ [⟨Expr.Name _ _, _, [], _⟩] _ _) _) _ _ _); first | (k_dflt (refine LCg.ListComp_U (F₀ := by k_asm) (by with_unfolding_all rfl) (by decide) (by rfl) (by decide) (by rfl) ?_); (try ((with_reducible show wpAny _ _ _ _ _ _); k_gentoks)))) | ((with_reducible show wpAny _ _ (call (Value.ref _) _) _ _ _); first | ((with_reducible show wpAny _ _ (call (Value.ref 148) _) _ _ _); k_dflt (refine known_call (by k_asm) (by k_asm) (by k_asm) (by k_asm) (by k_asm) (by first | exact rfl | assumption) (by first | exact rm (by assumption) (by rfl) | ktr_room) (by first | exact un3 (by assumption) (by rfl) | ktr_units) (by k_mem) (by assumption) (by assumption) (by assumption) (by ((repeat' (first | (with_reducible first | exact Rest.nil | refine' Rest.d1 ?_ | refine' Rest.d2 ?_ | refine' Rest.d3 ?_ | refine' Rest.d4 ?_ | refine' Rest.d5 ?_ | refine' Rest.d6 ?_ | refine' Rest.d7 ?_ | refine' Rest.d8 ?_ | refine' Rest.d9 ?_ | refine' Rest.d10 ?_ | refine' Rest.d11 ?_) | (refine' Rest.keep (by ((repeat' (first | with_reducible exact nea_nil | exact df_all (by with_reducible assumption) | exact df_allm (by with_reducible assumption) (by k_mem) | refine nea_cons (by k_ne) ?_)); done)) ?_) | exact Rest.all (by with_reducible assumption) | exact Rest.all (rest_one (by with_reducible assumption)) | exact Rest.all (rest_two (by with_reducible assumption) (by with_reducible assumption)) | (with_reducible first | refine' Rest.app (by assumption) ?_ | refine' Rest.app (rest_one (by assumption)) ?_ | refine' Rest.app (rest_two (by assumption) (by assumption)) ?_ | refine' Rest.drop ?_))); done)) ?_; k_whole); intro x' y' tx' ty' ka' kk' t0' t1' t2' t3' h' tk' K' F' N' hx' hy' hy2' o1'; have o1' := off1_all o1'; (try k_fold); (try ((with_reducible show wpAny _ _ _ _ _ _); k_gentoks))) | ((with_reducible show wpAny _ _ (call (Value.ref 176) _) _ _ _); k_dflt (refine lawRow_call (by k_asm) (by k_asm) (by k_asm) (by k_asm) (by k_asm) (by first | exact rfl | assumption) (by first | exact rm (by assumption) (by rfl) | ktr_room) (by first | exact un3 (by assumption) (by rfl) | ktr_units) (by k_mem) (by k_mem) (by k_mem) (by first | assumption | exact PwIn.nil) (by ((repeat' (first | (with_reducible first | exact sub_nil | exact sub_self | refine sub_app ?_ ?_ | refine sub_cons ?_ ?_) | ((repeat with_reducible first | exact sub_self | exact sub_l sub_self | refine sub_tl ?_ | refine sub_r ?_); done) | ((with_reducible show _ ∈ _); k_mem) | (refine sub_cons (by k_mem) ?_))); done)) (by (first | assumption | exact Nat.le_of_ble_eq_true rfl | omega)) (by (first | assumption | exact Nat.le_of_ble_eq_true rfl | omega)) (by (first | assumption | exact kpws_lt _)) (by ((repeat' (first | with_reducible exact Keep.nil | (with_reducible refine' Keep.d1 ?_) | (with_reducible refine' Keep.d2 ?_) | (refine' Keep.keep (by ((repeat' (first | with_reducible exact nea_nil | exact df_all (by with_reducible assumption) | exact df_allm (by with_reducible assumption) (by k_mem) | refine nea_cons (by k_ne) ?_)); done)) ?_) | with_reducible refine' Keep.drop ?_ | exact Keep.allOf (by with_reducible assumption) | exact Keep.none)); done)) ?_; k_whole); intro row' dx' rl' pl' tl' rk' ts' n' c1' c2' h' tk' F' N' V' l1' l2' l3' l4' o1' o2' o3' o4' o5'; obtain ⟨u1', u2', u3', u4'⟩ := five_df l1' l2' l3' l4'; have o1' := off1_all o1'; have o2' := off1_all o2'; have o3' := off1_all o3'; have o4' := off1_all o4'; have o5' := off1_all o5'; (try k_fold); (try ((with_reducible show wpAny _ _ _ _ _ _); k_gentoks))) | ((with_reducible show wpAny _ _ (call (Value.ref 122) _) _ _ _); k_dflt (refine dip_call (by k_asm) (by k_asm) (by k_asm) (by k_asm) (by k_asm) (by first | exact rfl | assumption) (by first | exact rm (by assumption) (by rfl) | ktr_room) (by first | exact un3 (by assumption) (by rfl) | ktr_units) (by k_mem) (by ((repeat' (first | (with_reducible first | exact Rest.nil | refine' Rest.d1 ?_ | refine' Rest.d2 ?_ | refine' Rest.d3 ?_ | refine' Rest.d4 ?_ | refine' Rest.d5 ?_ | refine' Rest.d6 ?_ | refine' Rest.d7 ?_ | refine' Rest.d8 ?_ | refine' Rest.d9 ?_ | refine' Rest.d10 ?_ | refine' Rest.d11 ?_) | (refine' Rest.keep (by ((repeat' (first | with_reducible exact nea_nil | exact df_all (by with_reducible assumption) | exact df_allm (by with_reducible assumption) (by k_mem) | refine nea_cons (by k_ne) ?_)); done)) ?_) | exact Rest.all (by with_reducible assumption) | exact Rest.all (rest_one (by with_reducible assumption)) | exact Rest.all (rest_two (by with_reducible assumption) (by with_reducible assumption)) | (with_reducible first | refine' Rest.app (by assumption) ?_ | refine' Rest.app (rest_one (by assumption)) ?_ | refine' Rest.app (rest_two (by assumption) (by assumption)) ?_ | refine' Rest.drop ?_))); done)) (by assumption) (by assumption) (by assumption) (by first | assumption | decide | exact Nat.le_of_ble_eq_true rfl | omega) (by first | assumption | decide | omega) ?_; k_whole); intro x' y' tx' ty' v' t' h' tk' F' N' hx' hy' hy2' hv0' hv1'; (try k_fold); (try ((with_reducible show wpAny _ _ _ _ _ _); k_gentoks))) | ((with_reducible show wpAny _ _ (call (Value.ref 129) _) _ _ _); k_dflt (refine one_ways (by k_asm) (by k_asm) (by k_asm) (by k_asm) (by k_asm) (by first | exact rfl | assumption) (by first | exact rm (by assumption) (by rfl) | ktr_room) (by first | exact un3 (by assumption) (by rfl) | ktr_units) (by k_mem) (by ((repeat' (first | (with_reducible first | exact Rest.nil | refine' Rest.d1 ?_ | refine' Rest.d2 ?_ | refine' Rest.d3 ?_ | refine' Rest.d4 ?_ | refine' Rest.d5 ?_ | refine' Rest.d6 ?_ | refine' Rest.d7 ?_ | refine' Rest.d8 ?_ | refine' Rest.d9 ?_ | refine' Rest.d10 ?_ | refine' Rest.d11 ?_) | (refine' Rest.keep (by ((repeat' (first | with_reducible exact nea_nil | exact df_all (by with_reducible assumption) | exact df_allm (by with_reducible assumption) (by k_mem) | refine nea_cons (by k_ne) ?_)); done)) ?_) | exact Rest.all (by with_reducible assumption) | exact Rest.all (rest_one (by with_reducible assumption)) | exact Rest.all (rest_two (by with_reducible assumption) (by with_reducible assumption)) | (with_reducible first | refine' Rest.app (by assumption) ?_ | refine' Rest.app (rest_one (by assumption)) ?_ | refine' Rest.app (rest_two (by assumption) (by assumption)) ?_ | refine' Rest.drop ?_))); done)) (by assumption) (by assumption) (by assumption) (by k_mem) (by first | exact fun _ => mem_ways3 | exact fun _ => mem_ways4) (by exact Nat.le_of_ble_eq_true rfl) (by exact Nat.le_of_ble_eq_true rfl) (by k_ne) ?_; k_whole); intro x' y' tx' ty' a' t' h' tk' F' N' hx' hy' hy2'; (try k_fold); (try ((with_reducible show wpAny _ _ _ _ _ _); k_gentoks))) | ((with_reducible show wpAny _ _ (call (Value.ref 143) _) _ _ _); k_dflt (refine strictest_call (by k_asm) (by k_asm) (by k_asm) (by k_asm) (by k_asm) (by first | exact rfl | assumption) (by first | exact rm (by assumption) (by rfl) | ktr_room) (by first | exact un3 (by assumption) (by rfl) | ktr_units) (by k_mem) (by (first | with_reducible assumption | exact Known.vals_are _ _ _ _ _ | exact ways_app (ways_one _ _) (by assumption))) ?_; k_whole); intro t' h' tk' F' N'; (try k_fold); (try ((with_reducible show wpAny _ _ _ _ _ _); k_gentoks)))) | ((with_reducible show LCg.CompSrc _ _ _ _ _ _ _ _ _ _ _ _ _ _); first | (k_dflt (refine LCg.CompSrc.range (by rfl) (by k_asm) (by k_asm) (by assumption) (by first | decide | rfl) (by first | rfl | decide) (by first | size_fits | exact Nat.le_of_ble_eq_true rfl) ?_); intro g'; refine halt ?_; (try ((with_reducible show wpAny _ _ _ _ _ _); k_gentoks))) | (k_dflt (refine LCg.CompSrc.range (a := 0) (by rfl) (by k_asm) (by k_asm) (by assumption) (by exact small_one (by omega) (by omega) (by omega) (by omega)) (by exact rangeSize_to (by omega)) (by (rw [sizeLine_eq]; omega)) ?_); intro g'; refine halt ?_; (try ((with_reducible show wpAny _ _ _ _ _ _); k_gentoks)))) | ((with_reducible show LCg.FinE _ _ _ _ _ _ _); first | (unfold LCg.FinE; intro D' h' tk' F' N' o1'; have o1' := off1_all o1'; (try simp only [List.nil_append, List.cons_append, List.append_nil] at N' o1'); (try dsimp only); (try ((with_reducible show wpAny _ _ _ _ _ _); k_gentoks)))) | ((with_reducible show LCg.CompEnd _ _ _ _ _ _ _ _ _ _ _ _ _ _); first | (refine halt ?_; (try ((with_reducible show wpAny _ _ _ _ _ _); k_gentoks)))) | ((with_reducible show wpAny _ _ (newTuple _) _ _ _); first | (k_dflt (refine newTupleM (by k_asm) (by k_asm) (by exact Nat.le_of_ble_eq_true rfl) ?_; k_whole); intro D' h' F' N' l1; (try k_sweep); (try ((with_reducible show wpAny _ _ _ _ _ _); k_gentoks)))) | ((with_reducible show wpAny _ _ (newList _) _ _ _); first | (k_dflt (refine newListM (by k_asm) (by k_asm) (by exact Nat.le_of_ble_eq_true rfl) ?_; k_whole); intro D' h' F' N' l1; (try k_sweep); (try ((with_reducible show wpAny _ _ _ _ _ _); k_gentoks)))) | ((with_reducible show wpAny _ _ (subscriptTail _ _ (Value.ref _) (Value.int _ _)) _ _ _); first | (with_unfolding_all (refine itemW (by k_asm) (by k_mem) (by exact Known.vals_are _ _ _ _ _) (by omega) (by (show _ < ((4 : Nat) : Int); omega)) (by (show 4 < 1000; decide)) ?_ (by with_unfolding_all rfl); k_whole); intro t'; (try ((with_reducible show wpAny _ _ _ _ _ _); k_gentoks)))) | ((with_reducible show wpAny _ _ (subscriptTail _ (PySem.Expr.Slice _ _ none _) (Value.ref _) (Value.ref _)) _ _ _); first | (k_dflt (refine regs_slice (s := ⟨_, _, _, _, _⟩) (by k_asm) (by k_asm) (by k_mem) (by omega) (by omega) ?_ (by with_unfolding_all rfl) (by kmk_pure)); intro D' rs' rgs' h' F' N' l1 hR' hL' hM'; (try k_sweep); (try ((with_reducible show wpAny _ _ _ _ _ _); k_gentoks))) | (k_dflt (refine pars_slice (s := ⟨_, _, _, _, _⟩) (by k_asm) (by k_asm) (by k_mem) (by omega) (by omega) ?_ (by with_unfolding_all rfl) (by kmk_pure)); intro D' ps' pgs' h' F' N' l1 hR' hL' hM' hO'; (try k_sweep); (try ((with_reducible show wpAny _ _ _ _ _ _); k_gentoks)))) | ((with_reducible show wpAny _ _ (call (Value.builtin _) _) _ _ _); first | ((with_reducible show wpAny _ _ (call (Value.builtin "len") [Value.ref _]) _ _ _); with_unfolding_all (refine lenN (by k_asm) (by k_mem) (by first | omega | ((try simp only [List.length_append, List.length_cons, List.length_nil]); omega)) ?_; k_whole); (try ((with_reducible show wpAny _ _ _ _ _ _); k_gentoks)))) | ((with_reducible show wpAny _ _ (binaryOp _ (Value.ref _) (Value.ref _)) _ _ _); first | (k_dflt (refine addL (by k_asm) (by k_asm) (by first | exact list_base (by k_asm) (by with_reducible assumption) | exact News.isList (by k_asm) (by k_mem)) (by first | exact list_base (by k_asm) (by with_reducible assumption) | exact News.isList (by k_asm) (by k_mem)) (by ((try simp only [List.length_cons, List.length_nil, List.length_append]); omega)) ?_; k_whole); intro D' h' F' N' l1; (try k_sweep); (try ((with_reducible show wpAny _ _ _ _ _ _); k_gentoks)))) | ((with_reducible show wpAny _ _ (eval (Expr.ListComp _ [⟨Expr.Tuple _ _ _, _, [_], _⟩] _ _) _) _ _ _); first | (refine halt ?_; (try ((with_reducible show wpAny _ _ _ _ _ _); k_gentoks)))) | ((with_reducible show wpAny _ _ (compareOp CmpOp.NotEq (Value.ref _) (Value.ref _)) _ _ _); first | (k_dflt (refine ne_waysF (by exact News.isList (by k_asm) (by k_mem)) (by exact News.isList (by k_asm) (by k_mem)) (by (first | with_reducible assumption | exact Known.vals_are _ _ _ _ _ | exact ways_app (ways_one _ _) (by assumption))) (by (first | with_reducible assumption | exact Known.vals_are _ _ _ _ _ | exact ways_app (ways_one _ _) (by assumption))) (by first | exact un3 (by assumption) (by rfl) | ktr_units) ?_; k_whole); (try ((with_reducible show wpAny _ _ _ _ _ _); k_gentoks)))) | ((with_reducible show wpAny _ _ (compareOp CmpOp.NotEq (Value.bool _) (Value.bool _)) _ _ _); first | (with_reducible refine ne_boolF ?_; (try ((with_reducible show wpAny _ _ _ _ _ _); k_gentoks)))) | ((with_reducible show wpAny _ _ (compareOp CmpOp.NotEq (Value.str (Way.s _) _) (Value.str _ _)) _ _ _); first | (refine ne_way ?_; (try ((with_reducible show wpAny _ _ _ _ _ _); k_gentoks)))) | ((with_reducible show wpAny _ _ (execs (Stmt.Assign [Expr.Tuple [Expr.Name (Str.ofString "told") _, _] _ _] _ _ :: _) _) _ _ _); first | (refine halt ?_; (try ((with_reducible show wpAny _ _ _ _ _ _); k_gentoks)))) | (k_end; wrow_close) | walk1 | (dsimp only; walk1) | (leave1; (try dsimp only))))
    exact ⟨_, _, _, _, _, _, rfl, rfl, by k_asm, by k_asm, by rw [← nl1]; assumption⟩
  case e14 => exact .nil
  case e15 =>
    intro i I oI C oC c oc D ys h tk t E' hi hP3 hoc F9 N9 off offc ne
    simp only [List.cons_append, List.nil_append] at N9
    (w_top off; repeat' (first | (k_unfold; (try dsimp only)) | ((with_reducible show wpAny _ _ (eval (Expr.Dict _ _ _) _) _ _ _); first | (k_dflt (refine kdn_str (by rfl) (by k_asm) (by k_asm) (by exact Top.nolimit (by k_asm)) (by rfl) (by rfl) (by exact List.cons_ne_nil _ _) (by exact Nat.le_of_ble_eq_true rfl) ?_); intro d' h' o' F' N' l1 lo' hd'; (try ((with_reducible show wpAny _ _ _ _ _ _); k_gentoks)))) | ((with_reducible show KdnMade _ _ _ _ _ _ _); first | (k_dflt (refine kdn_made_str (by k_asm) (by k_asm) (by k_updF) (by k_asm) (by rfl) (by exact of_decide_eq_true (by first | rfl | kernel_rfl!)) ?_); intro h' o' F' N' hd'; (try dsimp only at N'); (try ((with_reducible show wpAny _ _ _ _ _ _); k_gentoks)))) | ((with_reducible show wpAny _ _ (eval (Expr.ListComp _ [⟨Expr.Name _ _, _, [], _⟩] _ _) _) _ _ _); first | (k_dflt (refine LCg.ListComp_U (F₀ := by k_asm) (by with_unfolding_all rfl) (by decide) (by rfl) (by decide) (by rfl) ?_); (try ((with_reducible show wpAny _ _ _ _ _ _); k_gentoks)))) | ((with_reducible show wpAny _ _ (call (Value.ref _) _) _ _ _); first | ((with_reducible show wpAny _ _ (call (Value.ref 148) _) _ _ _); k_dflt (refine known_call (by k_asm) (by k_asm) (by k_asm) (by k_asm) (by k_asm) (by first | exact rfl | assumption) (by first | exact rm (by assumption) (by rfl) | ktr_room) (by first | exact un3 (by assumption) (by rfl) | ktr_units) (by k_mem) (by assumption) (by assumption) (by assumption) (by ((repeat' (first | (with_reducible first | exact Rest.nil | refine' Rest.d1 ?_ | refine' Rest.d2 ?_ | refine' Rest.d3 ?_ | refine' Rest.d4 ?_ | refine' Rest.d5 ?_ | refine' Rest.d6 ?_ | refine' Rest.d7 ?_ | refine' Rest.d8 ?_ | refine' Rest.d9 ?_ | refine' Rest.d10 ?_ | refine' Rest.d11 ?_) | (refine' Rest.keep (by ((repeat' (first | with_reducible exact nea_nil | exact df_all (by with_reducible assumption) | exact df_allm (by with_reducible assumption) (by k_mem) | refine nea_cons (by k_ne) ?_)); done)) ?_) | exact Rest.all (by with_reducible assumption) | exact Rest.all (rest_one (by with_reducible assumption)) | exact Rest.all (rest_two (by with_reducible assumption) (by with_reducible assumption)) | (with_reducible first | refine' Rest.app (by assumption) ?_ | refine' Rest.app (rest_one (by assumption)) ?_ | refine' Rest.app (rest_two (by assumption) (by assumption)) ?_ | refine' Rest.drop ?_))); done)) ?_; k_whole); intro x' y' tx' ty' ka' kk' t0' t1' t2' t3' h' tk' K' F' N' hx' hy' hy2' o1'; have o1' := off1_all o1'; (try k_fold); (try ((with_reducible show wpAny _ _ _ _ _ _); k_gentoks))) | ((with_reducible show wpAny _ _ (call (Value.ref 176) _) _ _ _); k_dflt (refine lawRow_call (by k_asm) (by k_asm) (by k_asm) (by k_asm) (by k_asm) (by first | exact rfl | assumption) (by first | exact rm (by assumption) (by rfl) | ktr_room) (by first | exact un3 (by assumption) (by rfl) | ktr_units) (by k_mem) (by k_mem) (by k_mem) (by first | assumption | exact PwIn.nil) (by ((repeat' (first | (with_reducible first | exact sub_nil | exact sub_self | refine sub_app ?_ ?_ | refine sub_cons ?_ ?_) | ((repeat with_reducible first | exact sub_self | exact sub_l sub_self | refine sub_tl ?_ | refine sub_r ?_); done) | ((with_reducible show _ ∈ _); k_mem) | (refine sub_cons (by k_mem) ?_))); done)) (by (first | assumption | exact Nat.le_of_ble_eq_true rfl | omega)) (by (first | assumption | exact Nat.le_of_ble_eq_true rfl | omega)) (by (first | assumption | exact kpws_lt _)) (by ((repeat' (first | with_reducible exact Keep.nil | (with_reducible refine' Keep.d1 ?_) | (with_reducible refine' Keep.d2 ?_) | (refine' Keep.keep (by ((repeat' (first | with_reducible exact nea_nil | exact df_all (by with_reducible assumption) | exact df_allm (by with_reducible assumption) (by k_mem) | refine nea_cons (by k_ne) ?_)); done)) ?_) | with_reducible refine' Keep.drop ?_ | exact Keep.allOf (by with_reducible assumption) | exact Keep.none)); done)) ?_; k_whole); intro row' dx' rl' pl' tl' rk' ts' n' c1' c2' h' tk' F' N' V' l1' l2' l3' l4' o1' o2' o3' o4' o5'; obtain ⟨u1', u2', u3', u4'⟩ := five_df l1' l2' l3' l4'; have o1' := off1_all o1'; have o2' := off1_all o2'; have o3' := off1_all o3'; have o4' := off1_all o4'; have o5' := off1_all o5'; (try k_fold); (try ((with_reducible show wpAny _ _ _ _ _ _); k_gentoks))) | ((with_reducible show wpAny _ _ (call (Value.ref 122) _) _ _ _); k_dflt (refine dip_call (by k_asm) (by k_asm) (by k_asm) (by k_asm) (by k_asm) (by first | exact rfl | assumption) (by first | exact rm (by assumption) (by rfl) | ktr_room) (by first | exact un3 (by assumption) (by rfl) | ktr_units) (by k_mem) (by ((repeat' (first | (with_reducible first | exact Rest.nil | refine' Rest.d1 ?_ | refine' Rest.d2 ?_ | refine' Rest.d3 ?_ | refine' Rest.d4 ?_ | refine' Rest.d5 ?_ | refine' Rest.d6 ?_ | refine' Rest.d7 ?_ | refine' Rest.d8 ?_ | refine' Rest.d9 ?_ | refine' Rest.d10 ?_ | refine' Rest.d11 ?_) | (refine' Rest.keep (by ((repeat' (first | with_reducible exact nea_nil | exact df_all (by with_reducible assumption) | exact df_allm (by with_reducible assumption) (by k_mem) | refine nea_cons (by k_ne) ?_)); done)) ?_) | exact Rest.all (by with_reducible assumption) | exact Rest.all (rest_one (by with_reducible assumption)) | exact Rest.all (rest_two (by with_reducible assumption) (by with_reducible assumption)) | (with_reducible first | refine' Rest.app (by assumption) ?_ | refine' Rest.app (rest_one (by assumption)) ?_ | refine' Rest.app (rest_two (by assumption) (by assumption)) ?_ | refine' Rest.drop ?_))); done)) (by assumption) (by assumption) (by assumption) (by first | assumption | decide | exact Nat.le_of_ble_eq_true rfl | omega) (by first | assumption | decide | omega) ?_; k_whole); intro x' y' tx' ty' v' t' h' tk' F' N' hx' hy' hy2' hv0' hv1'; (try k_fold); (try ((with_reducible show wpAny _ _ _ _ _ _); k_gentoks))) | ((with_reducible show wpAny _ _ (call (Value.ref 129) _) _ _ _); k_dflt (refine one_ways (by k_asm) (by k_asm) (by k_asm) (by k_asm) (by k_asm) (by first | exact rfl | assumption) (by first | exact rm (by assumption) (by rfl) | ktr_room) (by first | exact un3 (by assumption) (by rfl) | ktr_units) (by k_mem) (by ((repeat' (first | (with_reducible first | exact Rest.nil | refine' Rest.d1 ?_ | refine' Rest.d2 ?_ | refine' Rest.d3 ?_ | refine' Rest.d4 ?_ | refine' Rest.d5 ?_ | refine' Rest.d6 ?_ | refine' Rest.d7 ?_ | refine' Rest.d8 ?_ | refine' Rest.d9 ?_ | refine' Rest.d10 ?_ | refine' Rest.d11 ?_) | (refine' Rest.keep (by ((repeat' (first | with_reducible exact nea_nil | exact df_all (by with_reducible assumption) | exact df_allm (by with_reducible assumption) (by k_mem) | refine nea_cons (by k_ne) ?_)); done)) ?_) | exact Rest.all (by with_reducible assumption) | exact Rest.all (rest_one (by with_reducible assumption)) | exact Rest.all (rest_two (by with_reducible assumption) (by with_reducible assumption)) | (with_reducible first | refine' Rest.app (by assumption) ?_ | refine' Rest.app (rest_one (by assumption)) ?_ | refine' Rest.app (rest_two (by assumption) (by assumption)) ?_ | refine' Rest.drop ?_))); done)) (by assumption) (by assumption) (by assumption) (by k_mem) (by first | exact fun _ => mem_ways3 | exact fun _ => mem_ways4) (by exact Nat.le_of_ble_eq_true rfl) (by exact Nat.le_of_ble_eq_true rfl) (by k_ne) ?_; k_whole); intro x' y' tx' ty' a' t' h' tk' F' N' hx' hy' hy2'; (try k_fold); (try ((with_reducible show wpAny _ _ _ _ _ _); k_gentoks))) | ((with_reducible show wpAny _ _ (call (Value.ref 143) _) _ _ _); k_dflt (refine strictest_call (by k_asm) (by k_asm) (by k_asm) (by k_asm) (by k_asm) (by first | exact rfl | assumption) (by first | exact rm (by assumption) (by rfl) | ktr_room) (by first | exact un3 (by assumption) (by rfl) | ktr_units) (by k_mem) (by (first | with_reducible assumption | exact Known.vals_are _ _ _ _ _ | exact ways_app (ways_one _ _) (by assumption))) ?_; k_whole); intro t' h' tk' F' N'; (try k_fold); (try ((with_reducible show wpAny _ _ _ _ _ _); k_gentoks)))) | ((with_reducible show LCg.CompSrc _ _ _ _ _ _ _ _ _ _ _ _ _ _); first | (k_dflt (refine LCg.CompSrc.range (by rfl) (by k_asm) (by k_asm) (by assumption) (by first | decide | rfl) (by first | rfl | decide) (by first | size_fits | exact Nat.le_of_ble_eq_true rfl) ?_); intro g'; refine halt ?_; (try ((with_reducible show wpAny _ _ _ _ _ _); k_gentoks))) | (k_dflt (refine LCg.CompSrc.range (a := 0) (by rfl) (by k_asm) (by k_asm) (by assumption) (by exact small_one (by omega) (by omega) (by omega) (by omega)) (by exact rangeSize_to (by omega)) (by (rw [sizeLine_eq]; omega)) ?_); intro g'; refine halt ?_; (try ((with_reducible show wpAny _ _ _ _ _ _); k_gentoks)))) | ((with_reducible show LCg.FinE _ _ _ _ _ _ _); first | (unfold LCg.FinE; intro D' h' tk' F' N' o1'; have o1' := off1_all o1'; (try simp only [List.nil_append, List.cons_append, List.append_nil] at N' o1'); (try dsimp only); (try ((with_reducible show wpAny _ _ _ _ _ _); k_gentoks)))) | ((with_reducible show LCg.CompEnd _ _ _ _ _ _ _ _ _ _ _ _ _ _); first | (refine halt ?_; (try ((with_reducible show wpAny _ _ _ _ _ _); k_gentoks)))) | ((with_reducible show wpAny _ _ (newTuple _) _ _ _); first | (k_dflt (refine newTupleM (by k_asm) (by k_asm) (by exact Nat.le_of_ble_eq_true rfl) ?_; k_whole); intro D' h' F' N' l1; (try k_sweep); (try ((with_reducible show wpAny _ _ _ _ _ _); k_gentoks)))) | ((with_reducible show wpAny _ _ (newList _) _ _ _); first | (k_dflt (refine newListM (by k_asm) (by k_asm) (by exact Nat.le_of_ble_eq_true rfl) ?_; k_whole); intro D' h' F' N' l1; (try k_sweep); (try ((with_reducible show wpAny _ _ _ _ _ _); k_gentoks)))) | ((with_reducible show wpAny _ _ (subscriptTail _ _ (Value.ref _) (Value.int _ _)) _ _ _); first | (with_unfolding_all (refine itemW (by k_asm) (by k_mem) (by exact Known.vals_are _ _ _ _ _) (by omega) (by (show _ < ((4 : Nat) : Int); omega)) (by (show 4 < 1000; decide)) ?_ (by with_unfolding_all rfl); k_whole); intro t'; (try ((with_reducible show wpAny _ _ _ _ _ _); k_gentoks)))) | ((with_reducible show wpAny _ _ (subscriptTail _ (PySem.Expr.Slice _ _ none _) (Value.ref _) (Value.ref _)) _ _ _); first | (k_dflt (refine regs_slice (s := ⟨_, _, _, _, _⟩) (by k_asm) (by k_asm) (by k_mem) (by omega) (by omega) ?_ (by with_unfolding_all rfl) (by kmk_pure)); intro D' rs' rgs' h' F' N' l1 hR' hL' hM'; (try k_sweep); (try ((with_reducible show wpAny _ _ _ _ _ _); k_gentoks))) | (k_dflt (refine pars_slice (s := ⟨_, _, _, _, _⟩) (by k_asm) (by k_asm) (by k_mem) (by omega) (by omega) ?_ (by with_unfolding_all rfl) (by kmk_pure)); intro D' ps' pgs' h' F' N' l1 hR' hL' hM' hO'; (try k_sweep); (try ((with_reducible show wpAny _ _ _ _ _ _); k_gentoks)))) | ((with_reducible show wpAny _ _ (call (Value.builtin _) _) _ _ _); first | ((with_reducible show wpAny _ _ (call (Value.builtin "len") [Value.ref _]) _ _ _); with_unfolding_all (refine lenN (by k_asm) (by k_mem) (by first | omega | ((try simp only [List.length_append, List.length_cons, List.length_nil]); omega)) ?_; k_whole); (try ((with_reducible show wpAny _ _ _ _ _ _); k_gentoks)))) | ((with_reducible show wpAny _ _ (binaryOp _ (Value.ref _) (Value.ref _)) _ _ _); first | (k_dflt (refine addL (by k_asm) (by k_asm) (by first | exact list_base (by k_asm) (by with_reducible assumption) | exact News.isList (by k_asm) (by k_mem)) (by first | exact list_base (by k_asm) (by with_reducible assumption) | exact News.isList (by k_asm) (by k_mem)) (by ((try simp only [List.length_cons, List.length_nil, List.length_append]); omega)) ?_; k_whole); intro D' h' F' N' l1; (try k_sweep); (try ((with_reducible show wpAny _ _ _ _ _ _); k_gentoks)))) | ((with_reducible show wpAny _ _ (eval (Expr.ListComp _ [⟨Expr.Tuple _ _ _, _, [_], _⟩] _ _) _) _ _ _); first | (refine halt ?_; (try ((with_reducible show wpAny _ _ _ _ _ _); k_gentoks)))) | ((with_reducible show wpAny _ _ (compareOp CmpOp.NotEq (Value.ref _) (Value.ref _)) _ _ _); first | (k_dflt (refine ne_waysF (by exact News.isList (by k_asm) (by k_mem)) (by exact News.isList (by k_asm) (by k_mem)) (by (first | with_reducible assumption | exact Known.vals_are _ _ _ _ _ | exact ways_app (ways_one _ _) (by assumption))) (by (first | with_reducible assumption | exact Known.vals_are _ _ _ _ _ | exact ways_app (ways_one _ _) (by assumption))) (by first | exact un3 (by assumption) (by rfl) | ktr_units) ?_; k_whole); (try ((with_reducible show wpAny _ _ _ _ _ _); k_gentoks)))) | ((with_reducible show wpAny _ _ (compareOp CmpOp.NotEq (Value.bool _) (Value.bool _)) _ _ _); first | (with_reducible refine ne_boolF ?_; (try ((with_reducible show wpAny _ _ _ _ _ _); k_gentoks)))) | ((with_reducible show wpAny _ _ (compareOp CmpOp.NotEq (Value.str (Way.s _) _) (Value.str _ _)) _ _ _); first | (refine ne_way ?_; (try ((with_reducible show wpAny _ _ _ _ _ _); k_gentoks)))) | ((with_reducible show wpAny _ _ (execs (Stmt.Assign [Expr.Tuple [Expr.Name (Str.ofString "told") _, _] _ _] _ _ :: _) _) _ _ _); first | (refine halt ?_; (try ((with_reducible show wpAny _ _ _ _ _ _); k_gentoks)))) | (k_end; wrow_close) | walk1 | (dsimp only; walk1) | (leave1; (try dsimp only))))
    unfold Halt
    refine' comp_pairs ?f1 ?f2 ?f3 ?f4 ?f5 ?f6 ?f7 ?f8 ?f9 ?f10 ?f11 ?f12 ?f13 (PV pws) ?f14 (fun j zs => StrsAre zs ((atPlace (pws.take j) i).map Way.s)) ?f15 ?f16 ?f17
    case f10 => k_asm
    case f11 => k_asm
    case f1 => rfl
    case f2 => with_unfolding_all rfl
    case f3 => decide
    case f4 => rfl
    case f5 => decide
    case f6 => rfl
    case f7 => rfl
    case f8 => decide +kernel
    case f9 =>
      intro Q' hQ'
      walk1
      exact hQ'
    case f12 => k_mem
    case f13 => exact hP4
    case f14 => exact pw_pairs hP (by ((repeat' (first | (with_reducible first | exact sub_nil | exact sub_self | refine sub_app ?_ ?_ | refine sub_cons ?_ ?_) | ((repeat with_reducible first | exact sub_self | exact sub_l sub_self | refine sub_tl ?_ | refine sub_r ?_); done) | ((with_reducible show _ ∈ _); k_mem) | (refine sub_cons (by k_mem) ?_))); done))
    case f15 => exact .nil
    case f16 =>
      rintro j t9 a9 b9' I9 oI9 C9 oC9 D9 m9 zs h9 tk9 E9 hj9 ⟨p9, x9, tp9, tx9, rfl, rfl, hp9⟩ hz9 hC9 hx9 hy9 F10 N10 off9 ne9
      (w_top off; repeat' (first | (k_unfold; (try dsimp only)) | ((with_reducible show wpAny _ _ (eval (Expr.Dict _ _ _) _) _ _ _); first | (k_dflt (refine kdn_str (by rfl) (by k_asm) (by k_asm) (by exact Top.nolimit (by k_asm)) (by rfl) (by rfl) (by exact List.cons_ne_nil _ _) (by exact Nat.le_of_ble_eq_true rfl) ?_); intro d' h' o' F' N' l1 lo' hd'; (try ((with_reducible show wpAny _ _ _ _ _ _); k_gentoks)))) | ((with_reducible show KdnMade _ _ _ _ _ _ _); first | (k_dflt (refine kdn_made_str (by k_asm) (by k_asm) (by k_updF) (by k_asm) (by rfl) (by exact of_decide_eq_true (by first | rfl | kernel_rfl!)) ?_); intro h' o' F' N' hd'; (try dsimp only at N'); (try ((with_reducible show wpAny _ _ _ _ _ _); k_gentoks)))) | ((with_reducible show wpAny _ _ (eval (Expr.ListComp _ [⟨Expr.Name _ _, _, [], _⟩] _ _) _) _ _ _); first | (k_dflt (refine LCg.ListComp_U (F₀ := by k_asm) (by with_unfolding_all rfl) (by decide) (by rfl) (by decide) (by rfl) ?_); (try ((with_reducible show wpAny _ _ _ _ _ _); k_gentoks)))) | ((with_reducible show wpAny _ _ (call (Value.ref _) _) _ _ _); first | ((with_reducible show wpAny _ _ (call (Value.ref 148) _) _ _ _); k_dflt (refine known_call (by k_asm) (by k_asm) (by k_asm) (by k_asm) (by k_asm) (by first | exact rfl | assumption) (by first | exact rm (by assumption) (by rfl) | ktr_room) (by first | exact un3 (by assumption) (by rfl) | ktr_units) (by k_mem) (by assumption) (by assumption) (by assumption) (by ((repeat' (first | (with_reducible first | exact Rest.nil | refine' Rest.d1 ?_ | refine' Rest.d2 ?_ | refine' Rest.d3 ?_ | refine' Rest.d4 ?_ | refine' Rest.d5 ?_ | refine' Rest.d6 ?_ | refine' Rest.d7 ?_ | refine' Rest.d8 ?_ | refine' Rest.d9 ?_ | refine' Rest.d10 ?_ | refine' Rest.d11 ?_) | (refine' Rest.keep (by ((repeat' (first | with_reducible exact nea_nil | exact df_all (by with_reducible assumption) | exact df_allm (by with_reducible assumption) (by k_mem) | refine nea_cons (by k_ne) ?_)); done)) ?_) | exact Rest.all (by with_reducible assumption) | exact Rest.all (rest_one (by with_reducible assumption)) | exact Rest.all (rest_two (by with_reducible assumption) (by with_reducible assumption)) | (with_reducible first | refine' Rest.app (by assumption) ?_ | refine' Rest.app (rest_one (by assumption)) ?_ | refine' Rest.app (rest_two (by assumption) (by assumption)) ?_ | refine' Rest.drop ?_))); done)) ?_; k_whole); intro x' y' tx' ty' ka' kk' t0' t1' t2' t3' h' tk' K' F' N' hx' hy' hy2' o1'; have o1' := off1_all o1'; (try k_fold); (try ((with_reducible show wpAny _ _ _ _ _ _); k_gentoks))) | ((with_reducible show wpAny _ _ (call (Value.ref 176) _) _ _ _); k_dflt (refine lawRow_call (by k_asm) (by k_asm) (by k_asm) (by k_asm) (by k_asm) (by first | exact rfl | assumption) (by first | exact rm (by assumption) (by rfl) | ktr_room) (by first | exact un3 (by assumption) (by rfl) | ktr_units) (by k_mem) (by k_mem) (by k_mem) (by first | assumption | exact PwIn.nil) (by ((repeat' (first | (with_reducible first | exact sub_nil | exact sub_self | refine sub_app ?_ ?_ | refine sub_cons ?_ ?_) | ((repeat with_reducible first | exact sub_self | exact sub_l sub_self | refine sub_tl ?_ | refine sub_r ?_); done) | ((with_reducible show _ ∈ _); k_mem) | (refine sub_cons (by k_mem) ?_))); done)) (by (first | assumption | exact Nat.le_of_ble_eq_true rfl | omega)) (by (first | assumption | exact Nat.le_of_ble_eq_true rfl | omega)) (by (first | assumption | exact kpws_lt _)) (by ((repeat' (first | with_reducible exact Keep.nil | (with_reducible refine' Keep.d1 ?_) | (with_reducible refine' Keep.d2 ?_) | (refine' Keep.keep (by ((repeat' (first | with_reducible exact nea_nil | exact df_all (by with_reducible assumption) | exact df_allm (by with_reducible assumption) (by k_mem) | refine nea_cons (by k_ne) ?_)); done)) ?_) | with_reducible refine' Keep.drop ?_ | exact Keep.allOf (by with_reducible assumption) | exact Keep.none)); done)) ?_; k_whole); intro row' dx' rl' pl' tl' rk' ts' n' c1' c2' h' tk' F' N' V' l1' l2' l3' l4' o1' o2' o3' o4' o5'; obtain ⟨u1', u2', u3', u4'⟩ := five_df l1' l2' l3' l4'; have o1' := off1_all o1'; have o2' := off1_all o2'; have o3' := off1_all o3'; have o4' := off1_all o4'; have o5' := off1_all o5'; (try k_fold); (try ((with_reducible show wpAny _ _ _ _ _ _); k_gentoks))) | ((with_reducible show wpAny _ _ (call (Value.ref 122) _) _ _ _); k_dflt (refine dip_call (by k_asm) (by k_asm) (by k_asm) (by k_asm) (by k_asm) (by first | exact rfl | assumption) (by first | exact rm (by assumption) (by rfl) | ktr_room) (by first | exact un3 (by assumption) (by rfl) | ktr_units) (by k_mem) (by ((repeat' (first | (with_reducible first | exact Rest.nil | refine' Rest.d1 ?_ | refine' Rest.d2 ?_ | refine' Rest.d3 ?_ | refine' Rest.d4 ?_ | refine' Rest.d5 ?_ | refine' Rest.d6 ?_ | refine' Rest.d7 ?_ | refine' Rest.d8 ?_ | refine' Rest.d9 ?_ | refine' Rest.d10 ?_ | refine' Rest.d11 ?_) | (refine' Rest.keep (by ((repeat' (first | with_reducible exact nea_nil | exact df_all (by with_reducible assumption) | exact df_allm (by with_reducible assumption) (by k_mem) | refine nea_cons (by k_ne) ?_)); done)) ?_) | exact Rest.all (by with_reducible assumption) | exact Rest.all (rest_one (by with_reducible assumption)) | exact Rest.all (rest_two (by with_reducible assumption) (by with_reducible assumption)) | (with_reducible first | refine' Rest.app (by assumption) ?_ | refine' Rest.app (rest_one (by assumption)) ?_ | refine' Rest.app (rest_two (by assumption) (by assumption)) ?_ | refine' Rest.drop ?_))); done)) (by assumption) (by assumption) (by assumption) (by first | assumption | decide | exact Nat.le_of_ble_eq_true rfl | omega) (by first | assumption | decide | omega) ?_; k_whole); intro x' y' tx' ty' v' t' h' tk' F' N' hx' hy' hy2' hv0' hv1'; (try k_fold); (try ((with_reducible show wpAny _ _ _ _ _ _); k_gentoks))) | ((with_reducible show wpAny _ _ (call (Value.ref 129) _) _ _ _); k_dflt (refine one_ways (by k_asm) (by k_asm) (by k_asm) (by k_asm) (by k_asm) (by first | exact rfl | assumption) (by first | exact rm (by assumption) (by rfl) | ktr_room) (by first | exact un3 (by assumption) (by rfl) | ktr_units) (by k_mem) (by ((repeat' (first | (with_reducible first | exact Rest.nil | refine' Rest.d1 ?_ | refine' Rest.d2 ?_ | refine' Rest.d3 ?_ | refine' Rest.d4 ?_ | refine' Rest.d5 ?_ | refine' Rest.d6 ?_ | refine' Rest.d7 ?_ | refine' Rest.d8 ?_ | refine' Rest.d9 ?_ | refine' Rest.d10 ?_ | refine' Rest.d11 ?_) | (refine' Rest.keep (by ((repeat' (first | with_reducible exact nea_nil | exact df_all (by with_reducible assumption) | exact df_allm (by with_reducible assumption) (by k_mem) | refine nea_cons (by k_ne) ?_)); done)) ?_) | exact Rest.all (by with_reducible assumption) | exact Rest.all (rest_one (by with_reducible assumption)) | exact Rest.all (rest_two (by with_reducible assumption) (by with_reducible assumption)) | (with_reducible first | refine' Rest.app (by assumption) ?_ | refine' Rest.app (rest_one (by assumption)) ?_ | refine' Rest.app (rest_two (by assumption) (by assumption)) ?_ | refine' Rest.drop ?_))); done)) (by assumption) (by assumption) (by assumption) (by k_mem) (by first | exact fun _ => mem_ways3 | exact fun _ => mem_ways4) (by exact Nat.le_of_ble_eq_true rfl) (by exact Nat.le_of_ble_eq_true rfl) (by k_ne) ?_; k_whole); intro x' y' tx' ty' a' t' h' tk' F' N' hx' hy' hy2'; (try k_fold); (try ((with_reducible show wpAny _ _ _ _ _ _); k_gentoks))) | ((with_reducible show wpAny _ _ (call (Value.ref 143) _) _ _ _); k_dflt (refine strictest_call (by k_asm) (by k_asm) (by k_asm) (by k_asm) (by k_asm) (by first | exact rfl | assumption) (by first | exact rm (by assumption) (by rfl) | ktr_room) (by first | exact un3 (by assumption) (by rfl) | ktr_units) (by k_mem) (by (first | with_reducible assumption | exact Known.vals_are _ _ _ _ _ | exact ways_app (ways_one _ _) (by assumption))) ?_; k_whole); intro t' h' tk' F' N'; (try k_fold); (try ((with_reducible show wpAny _ _ _ _ _ _); k_gentoks)))) | ((with_reducible show LCg.CompSrc _ _ _ _ _ _ _ _ _ _ _ _ _ _); first | (k_dflt (refine LCg.CompSrc.range (by rfl) (by k_asm) (by k_asm) (by assumption) (by first | decide | rfl) (by first | rfl | decide) (by first | size_fits | exact Nat.le_of_ble_eq_true rfl) ?_); intro g'; refine halt ?_; (try ((with_reducible show wpAny _ _ _ _ _ _); k_gentoks))) | (k_dflt (refine LCg.CompSrc.range (a := 0) (by rfl) (by k_asm) (by k_asm) (by assumption) (by exact small_one (by omega) (by omega) (by omega) (by omega)) (by exact rangeSize_to (by omega)) (by (rw [sizeLine_eq]; omega)) ?_); intro g'; refine halt ?_; (try ((with_reducible show wpAny _ _ _ _ _ _); k_gentoks)))) | ((with_reducible show LCg.FinE _ _ _ _ _ _ _); first | (unfold LCg.FinE; intro D' h' tk' F' N' o1'; have o1' := off1_all o1'; (try simp only [List.nil_append, List.cons_append, List.append_nil] at N' o1'); (try dsimp only); (try ((with_reducible show wpAny _ _ _ _ _ _); k_gentoks)))) | ((with_reducible show LCg.CompEnd _ _ _ _ _ _ _ _ _ _ _ _ _ _); first | (refine halt ?_; (try ((with_reducible show wpAny _ _ _ _ _ _); k_gentoks)))) | ((with_reducible show wpAny _ _ (newTuple _) _ _ _); first | (k_dflt (refine newTupleM (by k_asm) (by k_asm) (by exact Nat.le_of_ble_eq_true rfl) ?_; k_whole); intro D' h' F' N' l1; (try k_sweep); (try ((with_reducible show wpAny _ _ _ _ _ _); k_gentoks)))) | ((with_reducible show wpAny _ _ (newList _) _ _ _); first | (k_dflt (refine newListM (by k_asm) (by k_asm) (by exact Nat.le_of_ble_eq_true rfl) ?_; k_whole); intro D' h' F' N' l1; (try k_sweep); (try ((with_reducible show wpAny _ _ _ _ _ _); k_gentoks)))) | ((with_reducible show wpAny _ _ (subscriptTail _ _ (Value.ref _) (Value.int _ _)) _ _ _); first | (with_unfolding_all (refine itemW (by k_asm) (by k_mem) (by exact Known.vals_are _ _ _ _ _) (by omega) (by (show _ < ((4 : Nat) : Int); omega)) (by (show 4 < 1000; decide)) ?_ (by with_unfolding_all rfl); k_whole); intro t'; (try ((with_reducible show wpAny _ _ _ _ _ _); k_gentoks)))) | ((with_reducible show wpAny _ _ (subscriptTail _ (PySem.Expr.Slice _ _ none _) (Value.ref _) (Value.ref _)) _ _ _); first | (k_dflt (refine regs_slice (s := ⟨_, _, _, _, _⟩) (by k_asm) (by k_asm) (by k_mem) (by omega) (by omega) ?_ (by with_unfolding_all rfl) (by kmk_pure)); intro D' rs' rgs' h' F' N' l1 hR' hL' hM'; (try k_sweep); (try ((with_reducible show wpAny _ _ _ _ _ _); k_gentoks))) | (k_dflt (refine pars_slice (s := ⟨_, _, _, _, _⟩) (by k_asm) (by k_asm) (by k_mem) (by omega) (by omega) ?_ (by with_unfolding_all rfl) (by kmk_pure)); intro D' ps' pgs' h' F' N' l1 hR' hL' hM' hO'; (try k_sweep); (try ((with_reducible show wpAny _ _ _ _ _ _); k_gentoks)))) | ((with_reducible show wpAny _ _ (call (Value.builtin _) _) _ _ _); first | ((with_reducible show wpAny _ _ (call (Value.builtin "len") [Value.ref _]) _ _ _); with_unfolding_all (refine lenN (by k_asm) (by k_mem) (by first | omega | ((try simp only [List.length_append, List.length_cons, List.length_nil]); omega)) ?_; k_whole); (try ((with_reducible show wpAny _ _ _ _ _ _); k_gentoks)))) | ((with_reducible show wpAny _ _ (binaryOp _ (Value.ref _) (Value.ref _)) _ _ _); first | (k_dflt (refine addL (by k_asm) (by k_asm) (by first | exact list_base (by k_asm) (by with_reducible assumption) | exact News.isList (by k_asm) (by k_mem)) (by first | exact list_base (by k_asm) (by with_reducible assumption) | exact News.isList (by k_asm) (by k_mem)) (by ((try simp only [List.length_cons, List.length_nil, List.length_append]); omega)) ?_; k_whole); intro D' h' F' N' l1; (try k_sweep); (try ((with_reducible show wpAny _ _ _ _ _ _); k_gentoks)))) | ((with_reducible show wpAny _ _ (eval (Expr.ListComp _ [⟨Expr.Tuple _ _ _, _, [_], _⟩] _ _) _) _ _ _); first | (refine halt ?_; (try ((with_reducible show wpAny _ _ _ _ _ _); k_gentoks)))) | ((with_reducible show wpAny _ _ (compareOp CmpOp.NotEq (Value.ref _) (Value.ref _)) _ _ _); first | (k_dflt (refine ne_waysF (by exact News.isList (by k_asm) (by k_mem)) (by exact News.isList (by k_asm) (by k_mem)) (by (first | with_reducible assumption | exact Known.vals_are _ _ _ _ _ | exact ways_app (ways_one _ _) (by assumption))) (by (first | with_reducible assumption | exact Known.vals_are _ _ _ _ _ | exact ways_app (ways_one _ _) (by assumption))) (by first | exact un3 (by assumption) (by rfl) | ktr_units) ?_; k_whole); (try ((with_reducible show wpAny _ _ _ _ _ _); k_gentoks)))) | ((with_reducible show wpAny _ _ (compareOp CmpOp.NotEq (Value.bool _) (Value.bool _)) _ _ _); first | (with_reducible refine ne_boolF ?_; (try ((with_reducible show wpAny _ _ _ _ _ _); k_gentoks)))) | ((with_reducible show wpAny _ _ (compareOp CmpOp.NotEq (Value.str (Way.s _) _) (Value.str _ _)) _ _ _); first | (refine ne_way ?_; (try ((with_reducible show wpAny _ _ _ _ _ _); k_gentoks)))) | ((with_reducible show wpAny _ _ (execs (Stmt.Assign [Expr.Tuple [Expr.Name (Str.ofString "told") _, _] _ _] _ _ :: _) _) _ _ _); first | (refine halt ?_; (try ((with_reducible show wpAny _ _ _ _ _ _); k_gentoks)))) | (k_end; wrow_close) | walk1 | (dsimp only; walk1) | (leave1; (try dsimp only))))
      · exact ⟨_, _, rfl, F10, N10, by rw [atPlace_yes hp9 (Int.ofNat.inj (by assumption))]; exact ways_snoc hz9 _ _⟩
      · exact ⟨_, _, rfl, F10, N10, by rw [atPlace_no hp9 (fun e => (by assumption : ((p9 : Nat) : Int) ≠ ((i : Nat) : Int)) (by rw [e]))]; exact hz9⟩
    case f17 =>
      intro D9 zs h9 tk9 hz9 F10 N10 off9
      rw [hP.length, List.take_length] at hz9
      (w_top off; repeat' (first | (k_unfold; (try dsimp only)) | ((with_reducible show wpAny _ _ (eval (Expr.Dict _ _ _) _) _ _ _); first | (k_dflt (refine kdn_str (by rfl) (by k_asm) (by k_asm) (by exact Top.nolimit (by k_asm)) (by rfl) (by rfl) (by exact List.cons_ne_nil _ _) (by exact Nat.le_of_ble_eq_true rfl) ?_); intro d' h' o' F' N' l1 lo' hd'; (try ((with_reducible show wpAny _ _ _ _ _ _); k_gentoks)))) | ((with_reducible show KdnMade _ _ _ _ _ _ _); first | (k_dflt (refine kdn_made_str (by k_asm) (by k_asm) (by k_updF) (by k_asm) (by rfl) (by exact of_decide_eq_true (by first | rfl | kernel_rfl!)) ?_); intro h' o' F' N' hd'; (try dsimp only at N'); (try ((with_reducible show wpAny _ _ _ _ _ _); k_gentoks)))) | ((with_reducible show wpAny _ _ (eval (Expr.ListComp _ [⟨Expr.Name _ _, _, [], _⟩] _ _) _) _ _ _); first | (k_dflt (refine LCg.ListComp_U (F₀ := by k_asm) (by with_unfolding_all rfl) (by decide) (by rfl) (by decide) (by rfl) ?_); (try ((with_reducible show wpAny _ _ _ _ _ _); k_gentoks)))) | ((with_reducible show wpAny _ _ (call (Value.ref _) _) _ _ _); first | ((with_reducible show wpAny _ _ (call (Value.ref 148) _) _ _ _); k_dflt (refine known_call (by k_asm) (by k_asm) (by k_asm) (by k_asm) (by k_asm) (by first | exact rfl | assumption) (by first | exact rm (by assumption) (by rfl) | ktr_room) (by first | exact un3 (by assumption) (by rfl) | ktr_units) (by k_mem) (by assumption) (by assumption) (by assumption) (by ((repeat' (first | (with_reducible first | exact Rest.nil | refine' Rest.d1 ?_ | refine' Rest.d2 ?_ | refine' Rest.d3 ?_ | refine' Rest.d4 ?_ | refine' Rest.d5 ?_ | refine' Rest.d6 ?_ | refine' Rest.d7 ?_ | refine' Rest.d8 ?_ | refine' Rest.d9 ?_ | refine' Rest.d10 ?_ | refine' Rest.d11 ?_) | (refine' Rest.keep (by ((repeat' (first | with_reducible exact nea_nil | exact df_all (by with_reducible assumption) | exact df_allm (by with_reducible assumption) (by k_mem) | refine nea_cons (by k_ne) ?_)); done)) ?_) | exact Rest.all (by with_reducible assumption) | exact Rest.all (rest_one (by with_reducible assumption)) | exact Rest.all (rest_two (by with_reducible assumption) (by with_reducible assumption)) | (with_reducible first | refine' Rest.app (by assumption) ?_ | refine' Rest.app (rest_one (by assumption)) ?_ | refine' Rest.app (rest_two (by assumption) (by assumption)) ?_ | refine' Rest.drop ?_))); done)) ?_; k_whole); intro x' y' tx' ty' ka' kk' t0' t1' t2' t3' h' tk' K' F' N' hx' hy' hy2' o1'; have o1' := off1_all o1'; (try k_fold); (try ((with_reducible show wpAny _ _ _ _ _ _); k_gentoks))) | ((with_reducible show wpAny _ _ (call (Value.ref 176) _) _ _ _); k_dflt (refine lawRow_call (by k_asm) (by k_asm) (by k_asm) (by k_asm) (by k_asm) (by first | exact rfl | assumption) (by first | exact rm (by assumption) (by rfl) | ktr_room) (by first | exact un3 (by assumption) (by rfl) | ktr_units) (by k_mem) (by k_mem) (by k_mem) (by first | assumption | exact PwIn.nil) (by ((repeat' (first | (with_reducible first | exact sub_nil | exact sub_self | refine sub_app ?_ ?_ | refine sub_cons ?_ ?_) | ((repeat with_reducible first | exact sub_self | exact sub_l sub_self | refine sub_tl ?_ | refine sub_r ?_); done) | ((with_reducible show _ ∈ _); k_mem) | (refine sub_cons (by k_mem) ?_))); done)) (by (first | assumption | exact Nat.le_of_ble_eq_true rfl | omega)) (by (first | assumption | exact Nat.le_of_ble_eq_true rfl | omega)) (by (first | assumption | exact kpws_lt _)) (by ((repeat' (first | with_reducible exact Keep.nil | (with_reducible refine' Keep.d1 ?_) | (with_reducible refine' Keep.d2 ?_) | (refine' Keep.keep (by ((repeat' (first | with_reducible exact nea_nil | exact df_all (by with_reducible assumption) | exact df_allm (by with_reducible assumption) (by k_mem) | refine nea_cons (by k_ne) ?_)); done)) ?_) | with_reducible refine' Keep.drop ?_ | exact Keep.allOf (by with_reducible assumption) | exact Keep.none)); done)) ?_; k_whole); intro row' dx' rl' pl' tl' rk' ts' n' c1' c2' h' tk' F' N' V' l1' l2' l3' l4' o1' o2' o3' o4' o5'; obtain ⟨u1', u2', u3', u4'⟩ := five_df l1' l2' l3' l4'; have o1' := off1_all o1'; have o2' := off1_all o2'; have o3' := off1_all o3'; have o4' := off1_all o4'; have o5' := off1_all o5'; (try k_fold); (try ((with_reducible show wpAny _ _ _ _ _ _); k_gentoks))) | ((with_reducible show wpAny _ _ (call (Value.ref 122) _) _ _ _); k_dflt (refine dip_call (by k_asm) (by k_asm) (by k_asm) (by k_asm) (by k_asm) (by first | exact rfl | assumption) (by first | exact rm (by assumption) (by rfl) | ktr_room) (by first | exact un3 (by assumption) (by rfl) | ktr_units) (by k_mem) (by ((repeat' (first | (with_reducible first | exact Rest.nil | refine' Rest.d1 ?_ | refine' Rest.d2 ?_ | refine' Rest.d3 ?_ | refine' Rest.d4 ?_ | refine' Rest.d5 ?_ | refine' Rest.d6 ?_ | refine' Rest.d7 ?_ | refine' Rest.d8 ?_ | refine' Rest.d9 ?_ | refine' Rest.d10 ?_ | refine' Rest.d11 ?_) | (refine' Rest.keep (by ((repeat' (first | with_reducible exact nea_nil | exact df_all (by with_reducible assumption) | exact df_allm (by with_reducible assumption) (by k_mem) | refine nea_cons (by k_ne) ?_)); done)) ?_) | exact Rest.all (by with_reducible assumption) | exact Rest.all (rest_one (by with_reducible assumption)) | exact Rest.all (rest_two (by with_reducible assumption) (by with_reducible assumption)) | (with_reducible first | refine' Rest.app (by assumption) ?_ | refine' Rest.app (rest_one (by assumption)) ?_ | refine' Rest.app (rest_two (by assumption) (by assumption)) ?_ | refine' Rest.drop ?_))); done)) (by assumption) (by assumption) (by assumption) (by first | assumption | decide | exact Nat.le_of_ble_eq_true rfl | omega) (by first | assumption | decide | omega) ?_; k_whole); intro x' y' tx' ty' v' t' h' tk' F' N' hx' hy' hy2' hv0' hv1'; (try k_fold); (try ((with_reducible show wpAny _ _ _ _ _ _); k_gentoks))) | ((with_reducible show wpAny _ _ (call (Value.ref 129) _) _ _ _); k_dflt (refine one_ways (by k_asm) (by k_asm) (by k_asm) (by k_asm) (by k_asm) (by first | exact rfl | assumption) (by first | exact rm (by assumption) (by rfl) | ktr_room) (by first | exact un3 (by assumption) (by rfl) | ktr_units) (by k_mem) (by ((repeat' (first | (with_reducible first | exact Rest.nil | refine' Rest.d1 ?_ | refine' Rest.d2 ?_ | refine' Rest.d3 ?_ | refine' Rest.d4 ?_ | refine' Rest.d5 ?_ | refine' Rest.d6 ?_ | refine' Rest.d7 ?_ | refine' Rest.d8 ?_ | refine' Rest.d9 ?_ | refine' Rest.d10 ?_ | refine' Rest.d11 ?_) | (refine' Rest.keep (by ((repeat' (first | with_reducible exact nea_nil | exact df_all (by with_reducible assumption) | exact df_allm (by with_reducible assumption) (by k_mem) | refine nea_cons (by k_ne) ?_)); done)) ?_) | exact Rest.all (by with_reducible assumption) | exact Rest.all (rest_one (by with_reducible assumption)) | exact Rest.all (rest_two (by with_reducible assumption) (by with_reducible assumption)) | (with_reducible first | refine' Rest.app (by assumption) ?_ | refine' Rest.app (rest_one (by assumption)) ?_ | refine' Rest.app (rest_two (by assumption) (by assumption)) ?_ | refine' Rest.drop ?_))); done)) (by assumption) (by assumption) (by assumption) (by k_mem) (by first | exact fun _ => mem_ways3 | exact fun _ => mem_ways4) (by exact Nat.le_of_ble_eq_true rfl) (by exact Nat.le_of_ble_eq_true rfl) (by k_ne) ?_; k_whole); intro x' y' tx' ty' a' t' h' tk' F' N' hx' hy' hy2'; (try k_fold); (try ((with_reducible show wpAny _ _ _ _ _ _); k_gentoks))) | ((with_reducible show wpAny _ _ (call (Value.ref 143) _) _ _ _); k_dflt (refine strictest_call (by k_asm) (by k_asm) (by k_asm) (by k_asm) (by k_asm) (by first | exact rfl | assumption) (by first | exact rm (by assumption) (by rfl) | ktr_room) (by first | exact un3 (by assumption) (by rfl) | ktr_units) (by k_mem) (by (first | with_reducible assumption | exact Known.vals_are _ _ _ _ _ | exact ways_app (ways_one _ _) (by assumption))) ?_; k_whole); intro t' h' tk' F' N'; (try k_fold); (try ((with_reducible show wpAny _ _ _ _ _ _); k_gentoks)))) | ((with_reducible show LCg.CompSrc _ _ _ _ _ _ _ _ _ _ _ _ _ _); first | (k_dflt (refine LCg.CompSrc.range (by rfl) (by k_asm) (by k_asm) (by assumption) (by first | decide | rfl) (by first | rfl | decide) (by first | size_fits | exact Nat.le_of_ble_eq_true rfl) ?_); intro g'; refine halt ?_; (try ((with_reducible show wpAny _ _ _ _ _ _); k_gentoks))) | (k_dflt (refine LCg.CompSrc.range (a := 0) (by rfl) (by k_asm) (by k_asm) (by assumption) (by exact small_one (by omega) (by omega) (by omega) (by omega)) (by exact rangeSize_to (by omega)) (by (rw [sizeLine_eq]; omega)) ?_); intro g'; refine halt ?_; (try ((with_reducible show wpAny _ _ _ _ _ _); k_gentoks)))) | ((with_reducible show LCg.FinE _ _ _ _ _ _ _); first | (unfold LCg.FinE; intro D' h' tk' F' N' o1'; have o1' := off1_all o1'; (try simp only [List.nil_append, List.cons_append, List.append_nil] at N' o1'); (try dsimp only); (try ((with_reducible show wpAny _ _ _ _ _ _); k_gentoks)))) | ((with_reducible show LCg.CompEnd _ _ _ _ _ _ _ _ _ _ _ _ _ _); first | (refine halt ?_; (try ((with_reducible show wpAny _ _ _ _ _ _); k_gentoks)))) | ((with_reducible show wpAny _ _ (newTuple _) _ _ _); first | (k_dflt (refine newTupleM (by k_asm) (by k_asm) (by exact Nat.le_of_ble_eq_true rfl) ?_; k_whole); intro D' h' F' N' l1; (try k_sweep); (try ((with_reducible show wpAny _ _ _ _ _ _); k_gentoks)))) | ((with_reducible show wpAny _ _ (newList _) _ _ _); first | (k_dflt (refine newListM (by k_asm) (by k_asm) (by exact Nat.le_of_ble_eq_true rfl) ?_; k_whole); intro D' h' F' N' l1; (try k_sweep); (try ((with_reducible show wpAny _ _ _ _ _ _); k_gentoks)))) | ((with_reducible show wpAny _ _ (subscriptTail _ _ (Value.ref _) (Value.int _ _)) _ _ _); first | (with_unfolding_all (refine itemW (by k_asm) (by k_mem) (by exact Known.vals_are _ _ _ _ _) (by omega) (by (show _ < ((4 : Nat) : Int); omega)) (by (show 4 < 1000; decide)) ?_ (by with_unfolding_all rfl); k_whole); intro t'; (try ((with_reducible show wpAny _ _ _ _ _ _); k_gentoks)))) | ((with_reducible show wpAny _ _ (subscriptTail _ (PySem.Expr.Slice _ _ none _) (Value.ref _) (Value.ref _)) _ _ _); first | (k_dflt (refine regs_slice (s := ⟨_, _, _, _, _⟩) (by k_asm) (by k_asm) (by k_mem) (by omega) (by omega) ?_ (by with_unfolding_all rfl) (by kmk_pure)); intro D' rs' rgs' h' F' N' l1 hR' hL' hM'; (try k_sweep); (try ((with_reducible show wpAny _ _ _ _ _ _); k_gentoks))) | (k_dflt (refine pars_slice (s := ⟨_, _, _, _, _⟩) (by k_asm) (by k_asm) (by k_mem) (by omega) (by omega) ?_ (by with_unfolding_all rfl) (by kmk_pure)); intro D' ps' pgs' h' F' N' l1 hR' hL' hM' hO'; (try k_sweep); (try ((with_reducible show wpAny _ _ _ _ _ _); k_gentoks)))) | ((with_reducible show wpAny _ _ (call (Value.builtin _) _) _ _ _); first | ((with_reducible show wpAny _ _ (call (Value.builtin "len") [Value.ref _]) _ _ _); with_unfolding_all (refine lenN (by k_asm) (by k_mem) (by first | omega | ((try simp only [List.length_append, List.length_cons, List.length_nil]); omega)) ?_; k_whole); (try ((with_reducible show wpAny _ _ _ _ _ _); k_gentoks)))) | ((with_reducible show wpAny _ _ (binaryOp _ (Value.ref _) (Value.ref _)) _ _ _); first | (k_dflt (refine addL (by k_asm) (by k_asm) (by first | exact list_base (by k_asm) (by with_reducible assumption) | exact News.isList (by k_asm) (by k_mem)) (by first | exact list_base (by k_asm) (by with_reducible assumption) | exact News.isList (by k_asm) (by k_mem)) (by ((try simp only [List.length_cons, List.length_nil, List.length_append]); omega)) ?_; k_whole); intro D' h' F' N' l1; (try k_sweep); (try ((with_reducible show wpAny _ _ _ _ _ _); k_gentoks)))) | ((with_reducible show wpAny _ _ (eval (Expr.ListComp _ [⟨Expr.Tuple _ _ _, _, [_], _⟩] _ _) _) _ _ _); first | (refine halt ?_; (try ((with_reducible show wpAny _ _ _ _ _ _); k_gentoks)))) | ((with_reducible show wpAny _ _ (compareOp CmpOp.NotEq (Value.ref _) (Value.ref _)) _ _ _); first | (k_dflt (refine ne_waysF (by exact News.isList (by k_asm) (by k_mem)) (by exact News.isList (by k_asm) (by k_mem)) (by (first | with_reducible assumption | exact Known.vals_are _ _ _ _ _ | exact ways_app (ways_one _ _) (by assumption))) (by (first | with_reducible assumption | exact Known.vals_are _ _ _ _ _ | exact ways_app (ways_one _ _) (by assumption))) (by first | exact un3 (by assumption) (by rfl) | ktr_units) ?_; k_whole); (try ((with_reducible show wpAny _ _ _ _ _ _); k_gentoks)))) | ((with_reducible show wpAny _ _ (compareOp CmpOp.NotEq (Value.bool _) (Value.bool _)) _ _ _); first | (with_reducible refine ne_boolF ?_; (try ((with_reducible show wpAny _ _ _ _ _ _); k_gentoks)))) | ((with_reducible show wpAny _ _ (compareOp CmpOp.NotEq (Value.str (Way.s _) _) (Value.str _ _)) _ _ _); first | (refine ne_way ?_; (try ((with_reducible show wpAny _ _ _ _ _ _); k_gentoks)))) | ((with_reducible show wpAny _ _ (execs (Stmt.Assign [Expr.Tuple [Expr.Name (Str.ofString "told") _, _] _ _] _ _ :: _) _) _ _ _); first | (refine halt ?_; (try ((with_reducible show wpAny _ _ _ _ _ _); k_gentoks)))) | (k_end; wrow_close) | walk1 | (dsimp only; walk1) | (leave1; (try dsimp only))))
      exact ⟨_, _, rfl, by k_asm, news_sub (by k_asm) (fun p hp => List.Mem.tail _ hp), by rw [befores_succ]; exact ways_snoc hP3 _ _⟩
  intro D ys h tk hB F9 N9 off
  clear km
  have off := off1_all off
  replace N9 := news_keep (as := []) N9 (by ((repeat' (first | with_reducible exact Keep.nil | (with_reducible refine' Keep.d1 ?_) | (with_reducible refine' Keep.d2 ?_) | (refine' Keep.keep (by ((repeat' (first | with_reducible exact nea_nil | exact df_all (by with_reducible assumption) | exact df_allm (by with_reducible assumption) (by k_mem) | refine nea_cons (by k_ne) ?_)); done)) ?_) | with_reducible refine' Keep.drop ?_ | exact Keep.allOf (by with_reducible assumption) | exact Keep.none)); done))
  rename StrsAre _ (List.map Way.s (List.foldl stepW (List.replicate _ _, false) pws).fst) => V9
  rw [← hb9, told_befores] at V9
  rw [← hb9, before_changed] at N9
  rename StrsAre _ (List.map Way.s (List.foldl stepW (_, false) (List.take _ (Known.pws K9))).fst) => V8
  have V8' := told_known (K := K9) V8
  clear V8
  obtain ⟨e0, e1, e2, e3, rfl⟩ := V8'
  dsimp only
  (w_top off; repeat' (first | (k_unfold; (try dsimp only)) | ((with_reducible show wpAny _ _ (eval (Expr.Dict _ _ _) _) _ _ _); first | (k_dflt (refine kdn_str (by rfl) (by k_asm) (by k_asm) (by exact Top.nolimit (by k_asm)) (by rfl) (by rfl) (by exact List.cons_ne_nil _ _) (by exact Nat.le_of_ble_eq_true rfl) ?_); intro d' h' o' F' N' l1 lo' hd'; (try ((with_reducible show wpAny _ _ _ _ _ _); k_gentoks)))) | ((with_reducible show KdnMade _ _ _ _ _ _ _); first | (k_dflt (refine kdn_made_str (by k_asm) (by k_asm) (by k_updF) (by k_asm) (by rfl) (by exact of_decide_eq_true (by first | rfl | kernel_rfl!)) ?_); intro h' o' F' N' hd'; (try dsimp only at N'); (try ((with_reducible show wpAny _ _ _ _ _ _); k_gentoks)))) | ((with_reducible show wpAny _ _ (eval (Expr.ListComp _ [⟨Expr.Name _ _, _, [], _⟩] _ _) _) _ _ _); first | (k_dflt (refine LCg.ListComp_U (F₀ := by k_asm) (by with_unfolding_all rfl) (by decide) (by rfl) (by decide) (by rfl) ?_); (try ((with_reducible show wpAny _ _ _ _ _ _); k_gentoks)))) | ((with_reducible show wpAny _ _ (call (Value.ref _) _) _ _ _); first | ((with_reducible show wpAny _ _ (call (Value.ref 148) _) _ _ _); k_dflt (refine known_call (by k_asm) (by k_asm) (by k_asm) (by k_asm) (by k_asm) (by first | exact rfl | assumption) (by first | exact rm (by assumption) (by rfl) | ktr_room) (by first | exact un3 (by assumption) (by rfl) | ktr_units) (by k_mem) (by assumption) (by assumption) (by assumption) (by ((repeat' (first | (with_reducible first | exact Rest.nil | refine' Rest.d1 ?_ | refine' Rest.d2 ?_ | refine' Rest.d3 ?_ | refine' Rest.d4 ?_ | refine' Rest.d5 ?_ | refine' Rest.d6 ?_ | refine' Rest.d7 ?_ | refine' Rest.d8 ?_ | refine' Rest.d9 ?_ | refine' Rest.d10 ?_ | refine' Rest.d11 ?_) | (refine' Rest.keep (by ((repeat' (first | with_reducible exact nea_nil | exact df_all (by with_reducible assumption) | exact df_allm (by with_reducible assumption) (by k_mem) | refine nea_cons (by k_ne) ?_)); done)) ?_) | exact Rest.all (by with_reducible assumption) | exact Rest.all (rest_one (by with_reducible assumption)) | exact Rest.all (rest_two (by with_reducible assumption) (by with_reducible assumption)) | (with_reducible first | refine' Rest.app (by assumption) ?_ | refine' Rest.app (rest_one (by assumption)) ?_ | refine' Rest.app (rest_two (by assumption) (by assumption)) ?_ | refine' Rest.drop ?_))); done)) ?_; k_whole); intro x' y' tx' ty' ka' kk' t0' t1' t2' t3' h' tk' K' F' N' hx' hy' hy2' o1'; have o1' := off1_all o1'; (try k_fold); (try ((with_reducible show wpAny _ _ _ _ _ _); k_gentoks))) | ((with_reducible show wpAny _ _ (call (Value.ref 176) _) _ _ _); k_dflt (refine lawRow_call (by k_asm) (by k_asm) (by k_asm) (by k_asm) (by k_asm) (by first | exact rfl | assumption) (by first | exact rm (by assumption) (by rfl) | ktr_room) (by first | exact un3 (by assumption) (by rfl) | ktr_units) (by k_mem) (by k_mem) (by k_mem) (by first | assumption | exact PwIn.nil) (by ((repeat' (first | (with_reducible first | exact sub_nil | exact sub_self | refine sub_app ?_ ?_ | refine sub_cons ?_ ?_) | ((repeat with_reducible first | exact sub_self | exact sub_l sub_self | refine sub_tl ?_ | refine sub_r ?_); done) | ((with_reducible show _ ∈ _); k_mem) | (refine sub_cons (by k_mem) ?_))); done)) (by (first | assumption | exact Nat.le_of_ble_eq_true rfl | omega)) (by (first | assumption | exact Nat.le_of_ble_eq_true rfl | omega)) (by (first | assumption | exact kpws_lt _)) (by ((repeat' (first | with_reducible exact Keep.nil | (with_reducible refine' Keep.d1 ?_) | (with_reducible refine' Keep.d2 ?_) | (refine' Keep.keep (by ((repeat' (first | with_reducible exact nea_nil | exact df_all (by with_reducible assumption) | exact df_allm (by with_reducible assumption) (by k_mem) | refine nea_cons (by k_ne) ?_)); done)) ?_) | with_reducible refine' Keep.drop ?_ | exact Keep.allOf (by with_reducible assumption) | exact Keep.none)); done)) ?_; k_whole); intro row' dx' rl' pl' tl' rk' ts' n' c1' c2' h' tk' F' N' V' l1' l2' l3' l4' o1' o2' o3' o4' o5'; obtain ⟨u1', u2', u3', u4'⟩ := five_df l1' l2' l3' l4'; have o1' := off1_all o1'; have o2' := off1_all o2'; have o3' := off1_all o3'; have o4' := off1_all o4'; have o5' := off1_all o5'; (try k_fold); (try ((with_reducible show wpAny _ _ _ _ _ _); k_gentoks))) | ((with_reducible show wpAny _ _ (call (Value.ref 122) _) _ _ _); k_dflt (refine dip_call (by k_asm) (by k_asm) (by k_asm) (by k_asm) (by k_asm) (by first | exact rfl | assumption) (by first | exact rm (by assumption) (by rfl) | ktr_room) (by first | exact un3 (by assumption) (by rfl) | ktr_units) (by k_mem) (by ((repeat' (first | (with_reducible first | exact Rest.nil | refine' Rest.d1 ?_ | refine' Rest.d2 ?_ | refine' Rest.d3 ?_ | refine' Rest.d4 ?_ | refine' Rest.d5 ?_ | refine' Rest.d6 ?_ | refine' Rest.d7 ?_ | refine' Rest.d8 ?_ | refine' Rest.d9 ?_ | refine' Rest.d10 ?_ | refine' Rest.d11 ?_) | (refine' Rest.keep (by ((repeat' (first | with_reducible exact nea_nil | exact df_all (by with_reducible assumption) | exact df_allm (by with_reducible assumption) (by k_mem) | refine nea_cons (by k_ne) ?_)); done)) ?_) | exact Rest.all (by with_reducible assumption) | exact Rest.all (rest_one (by with_reducible assumption)) | exact Rest.all (rest_two (by with_reducible assumption) (by with_reducible assumption)) | (with_reducible first | refine' Rest.app (by assumption) ?_ | refine' Rest.app (rest_one (by assumption)) ?_ | refine' Rest.app (rest_two (by assumption) (by assumption)) ?_ | refine' Rest.drop ?_))); done)) (by assumption) (by assumption) (by assumption) (by first | assumption | decide | exact Nat.le_of_ble_eq_true rfl | omega) (by first | assumption | decide | omega) ?_; k_whole); intro x' y' tx' ty' v' t' h' tk' F' N' hx' hy' hy2' hv0' hv1'; (try k_fold); (try ((with_reducible show wpAny _ _ _ _ _ _); k_gentoks))) | ((with_reducible show wpAny _ _ (call (Value.ref 129) _) _ _ _); k_dflt (refine one_ways (by k_asm) (by k_asm) (by k_asm) (by k_asm) (by k_asm) (by first | exact rfl | assumption) (by first | exact rm (by assumption) (by rfl) | ktr_room) (by first | exact un3 (by assumption) (by rfl) | ktr_units) (by k_mem) (by ((repeat' (first | (with_reducible first | exact Rest.nil | refine' Rest.d1 ?_ | refine' Rest.d2 ?_ | refine' Rest.d3 ?_ | refine' Rest.d4 ?_ | refine' Rest.d5 ?_ | refine' Rest.d6 ?_ | refine' Rest.d7 ?_ | refine' Rest.d8 ?_ | refine' Rest.d9 ?_ | refine' Rest.d10 ?_ | refine' Rest.d11 ?_) | (refine' Rest.keep (by ((repeat' (first | with_reducible exact nea_nil | exact df_all (by with_reducible assumption) | exact df_allm (by with_reducible assumption) (by k_mem) | refine nea_cons (by k_ne) ?_)); done)) ?_) | exact Rest.all (by with_reducible assumption) | exact Rest.all (rest_one (by with_reducible assumption)) | exact Rest.all (rest_two (by with_reducible assumption) (by with_reducible assumption)) | (with_reducible first | refine' Rest.app (by assumption) ?_ | refine' Rest.app (rest_one (by assumption)) ?_ | refine' Rest.app (rest_two (by assumption) (by assumption)) ?_ | refine' Rest.drop ?_))); done)) (by assumption) (by assumption) (by assumption) (by k_mem) (by first | exact fun _ => mem_ways3 | exact fun _ => mem_ways4) (by exact Nat.le_of_ble_eq_true rfl) (by exact Nat.le_of_ble_eq_true rfl) (by k_ne) ?_; k_whole); intro x' y' tx' ty' a' t' h' tk' F' N' hx' hy' hy2'; (try k_fold); (try ((with_reducible show wpAny _ _ _ _ _ _); k_gentoks))) | ((with_reducible show wpAny _ _ (call (Value.ref 143) _) _ _ _); k_dflt (refine strictest_call (by k_asm) (by k_asm) (by k_asm) (by k_asm) (by k_asm) (by first | exact rfl | assumption) (by first | exact rm (by assumption) (by rfl) | ktr_room) (by first | exact un3 (by assumption) (by rfl) | ktr_units) (by k_mem) (by (first | with_reducible assumption | exact Known.vals_are _ _ _ _ _ | exact ways_app (ways_one _ _) (by assumption))) ?_; k_whole); intro t' h' tk' F' N'; (try k_fold); (try ((with_reducible show wpAny _ _ _ _ _ _); k_gentoks)))) | ((with_reducible show LCg.CompSrc _ _ _ _ _ _ _ _ _ _ _ _ _ _); first | (k_dflt (refine LCg.CompSrc.range (by rfl) (by k_asm) (by k_asm) (by assumption) (by first | decide | rfl) (by first | rfl | decide) (by first | size_fits | exact Nat.le_of_ble_eq_true rfl) ?_); intro g'; refine halt ?_; (try ((with_reducible show wpAny _ _ _ _ _ _); k_gentoks))) | (k_dflt (refine LCg.CompSrc.range (a := 0) (by rfl) (by k_asm) (by k_asm) (by assumption) (by exact small_one (by omega) (by omega) (by omega) (by omega)) (by exact rangeSize_to (by omega)) (by (rw [sizeLine_eq]; omega)) ?_); intro g'; refine halt ?_; (try ((with_reducible show wpAny _ _ _ _ _ _); k_gentoks)))) | ((with_reducible show LCg.FinE _ _ _ _ _ _ _); first | (unfold LCg.FinE; intro D' h' tk' F' N' o1'; have o1' := off1_all o1'; (try simp only [List.nil_append, List.cons_append, List.append_nil] at N' o1'); (try dsimp only); (try ((with_reducible show wpAny _ _ _ _ _ _); k_gentoks)))) | ((with_reducible show LCg.CompEnd _ _ _ _ _ _ _ _ _ _ _ _ _ _); first | (refine halt ?_; (try ((with_reducible show wpAny _ _ _ _ _ _); k_gentoks)))) | ((with_reducible show wpAny _ _ (newTuple _) _ _ _); first | (k_dflt (refine newTupleM (by k_asm) (by k_asm) (by exact Nat.le_of_ble_eq_true rfl) ?_; k_whole); intro D' h' F' N' l1; (try k_sweep); (try ((with_reducible show wpAny _ _ _ _ _ _); k_gentoks)))) | ((with_reducible show wpAny _ _ (newList _) _ _ _); first | (k_dflt (refine newListM (by k_asm) (by k_asm) (by exact Nat.le_of_ble_eq_true rfl) ?_; k_whole); intro D' h' F' N' l1; (try k_sweep); (try ((with_reducible show wpAny _ _ _ _ _ _); k_gentoks)))) | ((with_reducible show wpAny _ _ (subscriptTail _ _ (Value.ref _) (Value.int _ _)) _ _ _); first | (with_unfolding_all (refine itemW (by k_asm) (by k_mem) (by exact Known.vals_are _ _ _ _ _) (by omega) (by (show _ < ((4 : Nat) : Int); omega)) (by (show 4 < 1000; decide)) ?_ (by with_unfolding_all rfl); k_whole); intro t'; (try ((with_reducible show wpAny _ _ _ _ _ _); k_gentoks)))) | ((with_reducible show wpAny _ _ (subscriptTail _ (PySem.Expr.Slice _ _ none _) (Value.ref _) (Value.ref _)) _ _ _); first | (k_dflt (refine regs_slice (s := ⟨_, _, _, _, _⟩) (by k_asm) (by k_asm) (by k_mem) (by omega) (by omega) ?_ (by with_unfolding_all rfl) (by kmk_pure)); intro D' rs' rgs' h' F' N' l1 hR' hL' hM'; (try k_sweep); (try ((with_reducible show wpAny _ _ _ _ _ _); k_gentoks))) | (k_dflt (refine pars_slice (s := ⟨_, _, _, _, _⟩) (by k_asm) (by k_asm) (by k_mem) (by omega) (by omega) ?_ (by with_unfolding_all rfl) (by kmk_pure)); intro D' ps' pgs' h' F' N' l1 hR' hL' hM' hO'; (try k_sweep); (try ((with_reducible show wpAny _ _ _ _ _ _); k_gentoks)))) | ((with_reducible show wpAny _ _ (call (Value.builtin _) _) _ _ _); first | ((with_reducible show wpAny _ _ (call (Value.builtin "len") [Value.ref _]) _ _ _); with_unfolding_all (refine lenN (by k_asm) (by k_mem) (by first | omega | ((try simp only [List.length_append, List.length_cons, List.length_nil]); omega)) ?_; k_whole); (try ((with_reducible show wpAny _ _ _ _ _ _); k_gentoks)))) | ((with_reducible show wpAny _ _ (binaryOp _ (Value.ref _) (Value.ref _)) _ _ _); first | (k_dflt (refine addL (by k_asm) (by k_asm) (by first | exact list_base (by k_asm) (by with_reducible assumption) | exact News.isList (by k_asm) (by k_mem)) (by first | exact list_base (by k_asm) (by with_reducible assumption) | exact News.isList (by k_asm) (by k_mem)) (by ((try simp only [List.length_cons, List.length_nil, List.length_append]); omega)) ?_; k_whole); intro D' h' F' N' l1; (try k_sweep); (try ((with_reducible show wpAny _ _ _ _ _ _); k_gentoks)))) | ((with_reducible show wpAny _ _ (eval (Expr.ListComp _ [⟨Expr.Tuple _ _ _, _, [_], _⟩] _ _) _) _ _ _); first | (refine halt ?_; (try ((with_reducible show wpAny _ _ _ _ _ _); k_gentoks)))) | ((with_reducible show wpAny _ _ (compareOp CmpOp.NotEq (Value.ref _) (Value.ref _)) _ _ _); first | (k_dflt (refine ne_waysF (by exact News.isList (by k_asm) (by k_mem)) (by exact News.isList (by k_asm) (by k_mem)) (by (first | with_reducible assumption | exact Known.vals_are _ _ _ _ _ | exact ways_app (ways_one _ _) (by assumption))) (by (first | with_reducible assumption | exact Known.vals_are _ _ _ _ _ | exact ways_app (ways_one _ _) (by assumption))) (by first | exact un3 (by assumption) (by rfl) | ktr_units) ?_; k_whole); (try ((with_reducible show wpAny _ _ _ _ _ _); k_gentoks)))) | ((with_reducible show wpAny _ _ (compareOp CmpOp.NotEq (Value.bool _) (Value.bool _)) _ _ _); first | (with_reducible refine ne_boolF ?_; (try ((with_reducible show wpAny _ _ _ _ _ _); k_gentoks)))) | ((with_reducible show wpAny _ _ (compareOp CmpOp.NotEq (Value.str (Way.s _) _) (Value.str _ _)) _ _ _); first | (refine ne_way ?_; (try ((with_reducible show wpAny _ _ _ _ _ _); k_gentoks)))) | ((with_reducible show wpAny _ _ (execs (Stmt.Assign [Expr.Tuple [Expr.Name (Str.ofString "told") _, _] _ _] _ _ :: _) _) _ _ _); first | (refine halt ?_; (try ((with_reducible show wpAny _ _ _ _ _ _); k_gentoks)))) | (k_end; wrow_close) | walk1 | (dsimp only; walk1) | (leave1; (try dsimp only))))
  unfold Halt
  k_dflt (refine' right_tail2 (K := K9) (bvs := ys) (pws := pws) (b := b9) ?B ?F ?X ?T ?N ?qK ?qJ ?qN ?hs ?ap ?dj ?d9 ?da ?m1 ?m2 ?m3 ?m4 ?dJ ?dK ?dA ?dN ?hd ?hu ?hx ?hy ?hy2 R9 P9 ?hn V9 hB ?hh ?hod ?hE ?ret; (case B => k_asm); (case F => k_asm); (case X => k_asm); (case T => k_asm); (case N => k_asm); (case m1 => exact rfl); (case m2 => exact rfl); (case m3 => exact rfl); (case m4 => exact rfl); (case qK => k_mem); (case qJ => k_mem); (case qN => k_mem); (case dJ => assumption); (case dK => assumption); (case dN => assumption); (case hod => exact dict_one (by assumption)); (case hs => ((repeat' (first | (with_reducible first | exact sub_nil | exact sub_self | refine sub_app ?_ ?_ | refine sub_cons ?_ ?_) | ((repeat with_reducible first | exact sub_self | exact sub_l sub_self | refine sub_tl ?_ | refine sub_r ?_); done) | ((with_reducible show _ ∈ _); k_mem) | (refine sub_cons (by k_mem) ?_))); done)); (case dA => assumption); (case hd => omega); (case hu => omega); (case hx => assumption); (case hy => assumption); (case hy2 => assumption); (case hn => assumption); (case hh => rfl))
  case ap => exact ⟨by ((repeat' (first | with_reducible exact df_nil | refine df_conl (by (first | k_ne | exact (cells_far _).1 | exact (cells_far _).2.1 | exact (cells_far _).2.2)) ?_)); done), by ((repeat' (first | with_reducible exact df_nil | refine df_conl (by (first | k_ne | exact (cells_far _).1 | exact (cells_far _).2.1 | exact (cells_far _).2.2)) ?_)); done), by ((repeat' (first | with_reducible exact df_nil | refine df_conl (by (first | k_ne | exact (cells_far _).1 | exact (cells_far _).2.1 | exact (cells_far _).2.2)) ?_)); done), by ((repeat' (first | with_reducible exact df_nil | refine df_conl (by (first | k_ne | exact (cells_far _).1 | exact (cells_far _).2.1 | exact (cells_far _).2.2)) ?_)); done)⟩
  case dj => ((repeat' (first | with_reducible exact df_nil | refine df_conl (by (first | k_ne | exact (cells_far _).1 | exact (cells_far _).2.1 | exact (cells_far _).2.2)) ?_)); done)
  case d9 => ((repeat' (first | with_reducible exact df_nil | refine df_all2 (by ((repeat' (first | with_reducible exact df_nil | refine df_cons (by (first | k_ne | exact (cells_far _).1 | exact (cells_far _).2.1 | exact (cells_far _).2.2)) ?_)); done)) ?_)); done)
  case da => ((repeat' (first | with_reducible exact df_nil | refine df_conl (by (first | k_ne | exact (cells_far _).1 | exact (cells_far _).2.1 | exact (cells_far _).2.2)) ?_)); done)
  case hE => passes_own
  case ret =>
    intro h' tk' m' jx jy jtx jty F' N'
    (w_top off; repeat' (first | (k_unfold; (try dsimp only)) | ((with_reducible show wpAny _ _ (eval (Expr.Dict _ _ _) _) _ _ _); first | (k_dflt (refine kdn_str (by rfl) (by k_asm) (by k_asm) (by exact Top.nolimit (by k_asm)) (by rfl) (by rfl) (by exact List.cons_ne_nil _ _) (by exact Nat.le_of_ble_eq_true rfl) ?_); intro d' h' o' F' N' l1 lo' hd'; (try ((with_reducible show wpAny _ _ _ _ _ _); k_gentoks)))) | ((with_reducible show KdnMade _ _ _ _ _ _ _); first | (k_dflt (refine kdn_made_str (by k_asm) (by k_asm) (by k_updF) (by k_asm) (by rfl) (by exact of_decide_eq_true (by first | rfl | kernel_rfl!)) ?_); intro h' o' F' N' hd'; (try dsimp only at N'); (try ((with_reducible show wpAny _ _ _ _ _ _); k_gentoks)))) | ((with_reducible show wpAny _ _ (eval (Expr.ListComp _ [⟨Expr.Name _ _, _, [], _⟩] _ _) _) _ _ _); first | (k_dflt (refine LCg.ListComp_U (F₀ := by k_asm) (by with_unfolding_all rfl) (by decide) (by rfl) (by decide) (by rfl) ?_); (try ((with_reducible show wpAny _ _ _ _ _ _); k_gentoks)))) | ((with_reducible show wpAny _ _ (call (Value.ref _) _) _ _ _); first | ((with_reducible show wpAny _ _ (call (Value.ref 148) _) _ _ _); k_dflt (refine known_call (by k_asm) (by k_asm) (by k_asm) (by k_asm) (by k_asm) (by first | exact rfl | assumption) (by first | exact rm (by assumption) (by rfl) | ktr_room) (by first | exact un3 (by assumption) (by rfl) | ktr_units) (by k_mem) (by assumption) (by assumption) (by assumption) (by ((repeat' (first | (with_reducible first | exact Rest.nil | refine' Rest.d1 ?_ | refine' Rest.d2 ?_ | refine' Rest.d3 ?_ | refine' Rest.d4 ?_ | refine' Rest.d5 ?_ | refine' Rest.d6 ?_ | refine' Rest.d7 ?_ | refine' Rest.d8 ?_ | refine' Rest.d9 ?_ | refine' Rest.d10 ?_ | refine' Rest.d11 ?_) | (refine' Rest.keep (by ((repeat' (first | with_reducible exact nea_nil | exact df_all (by with_reducible assumption) | exact df_allm (by with_reducible assumption) (by k_mem) | refine nea_cons (by k_ne) ?_)); done)) ?_) | exact Rest.all (by with_reducible assumption) | exact Rest.all (rest_one (by with_reducible assumption)) | exact Rest.all (rest_two (by with_reducible assumption) (by with_reducible assumption)) | (with_reducible first | refine' Rest.app (by assumption) ?_ | refine' Rest.app (rest_one (by assumption)) ?_ | refine' Rest.app (rest_two (by assumption) (by assumption)) ?_ | refine' Rest.drop ?_))); done)) ?_; k_whole); intro x' y' tx' ty' ka' kk' t0' t1' t2' t3' h' tk' K' F' N' hx' hy' hy2' o1'; have o1' := off1_all o1'; (try k_fold); (try ((with_reducible show wpAny _ _ _ _ _ _); k_gentoks))) | ((with_reducible show wpAny _ _ (call (Value.ref 176) _) _ _ _); k_dflt (refine lawRow_call (by k_asm) (by k_asm) (by k_asm) (by k_asm) (by k_asm) (by first | exact rfl | assumption) (by first | exact rm (by assumption) (by rfl) | ktr_room) (by first | exact un3 (by assumption) (by rfl) | ktr_units) (by k_mem) (by k_mem) (by k_mem) (by first | assumption | exact PwIn.nil) (by ((repeat' (first | (with_reducible first | exact sub_nil | exact sub_self | refine sub_app ?_ ?_ | refine sub_cons ?_ ?_) | ((repeat with_reducible first | exact sub_self | exact sub_l sub_self | refine sub_tl ?_ | refine sub_r ?_); done) | ((with_reducible show _ ∈ _); k_mem) | (refine sub_cons (by k_mem) ?_))); done)) (by (first | assumption | exact Nat.le_of_ble_eq_true rfl | omega)) (by (first | assumption | exact Nat.le_of_ble_eq_true rfl | omega)) (by (first | assumption | exact kpws_lt _)) (by ((repeat' (first | with_reducible exact Keep.nil | (with_reducible refine' Keep.d1 ?_) | (with_reducible refine' Keep.d2 ?_) | (refine' Keep.keep (by ((repeat' (first | with_reducible exact nea_nil | exact df_all (by with_reducible assumption) | exact df_allm (by with_reducible assumption) (by k_mem) | refine nea_cons (by k_ne) ?_)); done)) ?_) | with_reducible refine' Keep.drop ?_ | exact Keep.allOf (by with_reducible assumption) | exact Keep.none)); done)) ?_; k_whole); intro row' dx' rl' pl' tl' rk' ts' n' c1' c2' h' tk' F' N' V' l1' l2' l3' l4' o1' o2' o3' o4' o5'; obtain ⟨u1', u2', u3', u4'⟩ := five_df l1' l2' l3' l4'; have o1' := off1_all o1'; have o2' := off1_all o2'; have o3' := off1_all o3'; have o4' := off1_all o4'; have o5' := off1_all o5'; (try k_fold); (try ((with_reducible show wpAny _ _ _ _ _ _); k_gentoks))) | ((with_reducible show wpAny _ _ (call (Value.ref 122) _) _ _ _); k_dflt (refine dip_call (by k_asm) (by k_asm) (by k_asm) (by k_asm) (by k_asm) (by first | exact rfl | assumption) (by first | exact rm (by assumption) (by rfl) | ktr_room) (by first | exact un3 (by assumption) (by rfl) | ktr_units) (by k_mem) (by ((repeat' (first | (with_reducible first | exact Rest.nil | refine' Rest.d1 ?_ | refine' Rest.d2 ?_ | refine' Rest.d3 ?_ | refine' Rest.d4 ?_ | refine' Rest.d5 ?_ | refine' Rest.d6 ?_ | refine' Rest.d7 ?_ | refine' Rest.d8 ?_ | refine' Rest.d9 ?_ | refine' Rest.d10 ?_ | refine' Rest.d11 ?_) | (refine' Rest.keep (by ((repeat' (first | with_reducible exact nea_nil | exact df_all (by with_reducible assumption) | exact df_allm (by with_reducible assumption) (by k_mem) | refine nea_cons (by k_ne) ?_)); done)) ?_) | exact Rest.all (by with_reducible assumption) | exact Rest.all (rest_one (by with_reducible assumption)) | exact Rest.all (rest_two (by with_reducible assumption) (by with_reducible assumption)) | (with_reducible first | refine' Rest.app (by assumption) ?_ | refine' Rest.app (rest_one (by assumption)) ?_ | refine' Rest.app (rest_two (by assumption) (by assumption)) ?_ | refine' Rest.drop ?_))); done)) (by assumption) (by assumption) (by assumption) (by first | assumption | decide | exact Nat.le_of_ble_eq_true rfl | omega) (by first | assumption | decide | omega) ?_; k_whole); intro x' y' tx' ty' v' t' h' tk' F' N' hx' hy' hy2' hv0' hv1'; (try k_fold); (try ((with_reducible show wpAny _ _ _ _ _ _); k_gentoks))) | ((with_reducible show wpAny _ _ (call (Value.ref 129) _) _ _ _); k_dflt (refine one_ways (by k_asm) (by k_asm) (by k_asm) (by k_asm) (by k_asm) (by first | exact rfl | assumption) (by first | exact rm (by assumption) (by rfl) | ktr_room) (by first | exact un3 (by assumption) (by rfl) | ktr_units) (by k_mem) (by ((repeat' (first | (with_reducible first | exact Rest.nil | refine' Rest.d1 ?_ | refine' Rest.d2 ?_ | refine' Rest.d3 ?_ | refine' Rest.d4 ?_ | refine' Rest.d5 ?_ | refine' Rest.d6 ?_ | refine' Rest.d7 ?_ | refine' Rest.d8 ?_ | refine' Rest.d9 ?_ | refine' Rest.d10 ?_ | refine' Rest.d11 ?_) | (refine' Rest.keep (by ((repeat' (first | with_reducible exact nea_nil | exact df_all (by with_reducible assumption) | exact df_allm (by with_reducible assumption) (by k_mem) | refine nea_cons (by k_ne) ?_)); done)) ?_) | exact Rest.all (by with_reducible assumption) | exact Rest.all (rest_one (by with_reducible assumption)) | exact Rest.all (rest_two (by with_reducible assumption) (by with_reducible assumption)) | (with_reducible first | refine' Rest.app (by assumption) ?_ | refine' Rest.app (rest_one (by assumption)) ?_ | refine' Rest.app (rest_two (by assumption) (by assumption)) ?_ | refine' Rest.drop ?_))); done)) (by assumption) (by assumption) (by assumption) (by k_mem) (by first | exact fun _ => mem_ways3 | exact fun _ => mem_ways4) (by exact Nat.le_of_ble_eq_true rfl) (by exact Nat.le_of_ble_eq_true rfl) (by k_ne) ?_; k_whole); intro x' y' tx' ty' a' t' h' tk' F' N' hx' hy' hy2'; (try k_fold); (try ((with_reducible show wpAny _ _ _ _ _ _); k_gentoks))) | ((with_reducible show wpAny _ _ (call (Value.ref 143) _) _ _ _); k_dflt (refine strictest_call (by k_asm) (by k_asm) (by k_asm) (by k_asm) (by k_asm) (by first | exact rfl | assumption) (by first | exact rm (by assumption) (by rfl) | ktr_room) (by first | exact un3 (by assumption) (by rfl) | ktr_units) (by k_mem) (by (first | with_reducible assumption | exact Known.vals_are _ _ _ _ _ | exact ways_app (ways_one _ _) (by assumption))) ?_; k_whole); intro t' h' tk' F' N'; (try k_fold); (try ((with_reducible show wpAny _ _ _ _ _ _); k_gentoks)))) | ((with_reducible show LCg.CompSrc _ _ _ _ _ _ _ _ _ _ _ _ _ _); first | (k_dflt (refine LCg.CompSrc.range (by rfl) (by k_asm) (by k_asm) (by assumption) (by first | decide | rfl) (by first | rfl | decide) (by first | size_fits | exact Nat.le_of_ble_eq_true rfl) ?_); intro g'; refine halt ?_; (try ((with_reducible show wpAny _ _ _ _ _ _); k_gentoks))) | (k_dflt (refine LCg.CompSrc.range (a := 0) (by rfl) (by k_asm) (by k_asm) (by assumption) (by exact small_one (by omega) (by omega) (by omega) (by omega)) (by exact rangeSize_to (by omega)) (by (rw [sizeLine_eq]; omega)) ?_); intro g'; refine halt ?_; (try ((with_reducible show wpAny _ _ _ _ _ _); k_gentoks)))) | ((with_reducible show LCg.FinE _ _ _ _ _ _ _); first | (unfold LCg.FinE; intro D' h' tk' F' N' o1'; have o1' := off1_all o1'; (try simp only [List.nil_append, List.cons_append, List.append_nil] at N' o1'); (try dsimp only); (try ((with_reducible show wpAny _ _ _ _ _ _); k_gentoks)))) | ((with_reducible show LCg.CompEnd _ _ _ _ _ _ _ _ _ _ _ _ _ _); first | (refine halt ?_; (try ((with_reducible show wpAny _ _ _ _ _ _); k_gentoks)))) | ((with_reducible show wpAny _ _ (newTuple _) _ _ _); first | (k_dflt (refine newTupleM (by k_asm) (by k_asm) (by exact Nat.le_of_ble_eq_true rfl) ?_; k_whole); intro D' h' F' N' l1; (try k_sweep); (try ((with_reducible show wpAny _ _ _ _ _ _); k_gentoks)))) | ((with_reducible show wpAny _ _ (newList _) _ _ _); first | (k_dflt (refine newListM (by k_asm) (by k_asm) (by exact Nat.le_of_ble_eq_true rfl) ?_; k_whole); intro D' h' F' N' l1; (try k_sweep); (try ((with_reducible show wpAny _ _ _ _ _ _); k_gentoks)))) | ((with_reducible show wpAny _ _ (subscriptTail _ _ (Value.ref _) (Value.int _ _)) _ _ _); first | (with_unfolding_all (refine itemW (by k_asm) (by k_mem) (by exact Known.vals_are _ _ _ _ _) (by omega) (by (show _ < ((4 : Nat) : Int); omega)) (by (show 4 < 1000; decide)) ?_ (by with_unfolding_all rfl); k_whole); intro t'; (try ((with_reducible show wpAny _ _ _ _ _ _); k_gentoks)))) | ((with_reducible show wpAny _ _ (subscriptTail _ (PySem.Expr.Slice _ _ none _) (Value.ref _) (Value.ref _)) _ _ _); first | (k_dflt (refine regs_slice (s := ⟨_, _, _, _, _⟩) (by k_asm) (by k_asm) (by k_mem) (by omega) (by omega) ?_ (by with_unfolding_all rfl) (by kmk_pure)); intro D' rs' rgs' h' F' N' l1 hR' hL' hM'; (try k_sweep); (try ((with_reducible show wpAny _ _ _ _ _ _); k_gentoks))) | (k_dflt (refine pars_slice (s := ⟨_, _, _, _, _⟩) (by k_asm) (by k_asm) (by k_mem) (by omega) (by omega) ?_ (by with_unfolding_all rfl) (by kmk_pure)); intro D' ps' pgs' h' F' N' l1 hR' hL' hM' hO'; (try k_sweep); (try ((with_reducible show wpAny _ _ _ _ _ _); k_gentoks)))) | ((with_reducible show wpAny _ _ (call (Value.builtin _) _) _ _ _); first | ((with_reducible show wpAny _ _ (call (Value.builtin "len") [Value.ref _]) _ _ _); with_unfolding_all (refine lenN (by k_asm) (by k_mem) (by first | omega | ((try simp only [List.length_append, List.length_cons, List.length_nil]); omega)) ?_; k_whole); (try ((with_reducible show wpAny _ _ _ _ _ _); k_gentoks)))) | ((with_reducible show wpAny _ _ (binaryOp _ (Value.ref _) (Value.ref _)) _ _ _); first | (k_dflt (refine addL (by k_asm) (by k_asm) (by first | exact list_base (by k_asm) (by with_reducible assumption) | exact News.isList (by k_asm) (by k_mem)) (by first | exact list_base (by k_asm) (by with_reducible assumption) | exact News.isList (by k_asm) (by k_mem)) (by ((try simp only [List.length_cons, List.length_nil, List.length_append]); omega)) ?_; k_whole); intro D' h' F' N' l1; (try k_sweep); (try ((with_reducible show wpAny _ _ _ _ _ _); k_gentoks)))) | ((with_reducible show wpAny _ _ (eval (Expr.ListComp _ [⟨Expr.Tuple _ _ _, _, [_], _⟩] _ _) _) _ _ _); first | (refine halt ?_; (try ((with_reducible show wpAny _ _ _ _ _ _); k_gentoks)))) | ((with_reducible show wpAny _ _ (compareOp CmpOp.NotEq (Value.ref _) (Value.ref _)) _ _ _); first | (k_dflt (refine ne_waysF (by exact News.isList (by k_asm) (by k_mem)) (by exact News.isList (by k_asm) (by k_mem)) (by (first | with_reducible assumption | exact Known.vals_are _ _ _ _ _ | exact ways_app (ways_one _ _) (by assumption))) (by (first | with_reducible assumption | exact Known.vals_are _ _ _ _ _ | exact ways_app (ways_one _ _) (by assumption))) (by first | exact un3 (by assumption) (by rfl) | ktr_units) ?_; k_whole); (try ((with_reducible show wpAny _ _ _ _ _ _); k_gentoks)))) | ((with_reducible show wpAny _ _ (compareOp CmpOp.NotEq (Value.bool _) (Value.bool _)) _ _ _); first | (with_reducible refine ne_boolF ?_; (try ((with_reducible show wpAny _ _ _ _ _ _); k_gentoks)))) | ((with_reducible show wpAny _ _ (compareOp CmpOp.NotEq (Value.str (Way.s _) _) (Value.str _ _)) _ _ _); first | (refine ne_way ?_; (try ((with_reducible show wpAny _ _ _ _ _ _); k_gentoks)))) | ((with_reducible show wpAny _ _ (execs (Stmt.Assign [Expr.Tuple [Expr.Name (Str.ofString "told") _, _] _ _] _ _ :: _) _) _ _ _); first | (refine halt ?_; (try ((with_reducible show wpAny _ _ _ _ _ _); k_gentoks)))) | (k_end; wrow_close) | walk1 | (dsimp only; walk1) | (leave1; (try dsimp only))))
    exact hret _ _ _ _ (by assumption) (by assumption) (keep_of (by assumption) (by assumption)) rfl

theorem max_strictest (a b : Way) : a.max b = strictest [a, b] := by cases a <;> cases b <;> rfl
theorem mul_road (a b : Way) : a.mul b = road [a, b] := by cases a <;> cases b <;> rfl
theorem ways_bi1 (t : Tok) : StrsAre [Value.str (Str.ofString "bi") t] ([Way.bi].map Way.s) := .cons _ _ .nil
theorem ways_co1 (t : Tok) : StrsAre [Value.str (Str.ofString "co") t] ([Way.co].map Way.s) := .cons _ _ .nil
theorem two_ways (a b : Way) (t u : Tok) : StrsAre [Value.str a.s t, .str b.s u] ([a, b].map Way.s) := .cons _ _ (.cons _ _ .nil)
section
variable {prog : Program} {w : World} {A : Around} {E : Value → Shared → Prop} {s : Shared} {Q : Value → Shared → Prop}
theorem ne_strF {a b : Str} {t u : Tok} (e : (a != b) = false) (h : Q (.bool false) s) : wpAny (model prog w) A (compareOp .NotEq (.str a t) (.str b u)) Q E s := by
  refine ne_str ?_
  rw [e]; exact h
theorem maxs_ne (a b : Way) : ((a.max b).s != (strictest [a, b]).s) = false := by rw [max_strictest]; simp
theorem muls_ne (a b : Way) : ((a.mul b).s != (road [a, b]).s) = false := by rw [mul_road]; simp
end
section
variable {w : World} {mean : ExcName → Option Value} {mg mb : Str → Option Value}
    {dp un : Nat} {gd : Option (List Code)} {cn : Str} {cs : Scope} {aa : Addr} {ccd : Value} {cl : List (Str × Addr)} {outer : List Env} {A₀ : Around} {base h₀ : Heap} {L : Addr} {m : Str → Option Value} {s : Shared} {Q E : Value → Shared → Prop} {led : Led}
    (B : Below A₀ base outer h₀) (F : Fr h₀ L s.heap m) (X : (hd.heap_39 w.params).In h₀) (N : News h₀ L s.heap led) (T : Top hd.view_39 LZ mean mg mb h₀) (hk : cs.kind = .function)
include B F X N T hk
theorem jarMade_call {sc : Addr} {vs : List Value} {ns : List Int} (hd : dp + 2 < recursionLimit) (hu : un + 20 < cLine) (hi : IntsAre vs ns) (hz : ns.length < 1000) (hl : h₀.IsList sc vs.toArray)
    (ret : ∀ jar x y tx ty h' tk', Fr h₀ L h' m → News h₀ L h' [(jar, jarO x y tx ty)] → 0 ≤ x → 0 ≤ y → y < 2147483647 → Q (.ref jar) { s with heap := h', toks := tk' }) :
    wpAny (model Pg w) (ktrTop dp un gd cn cs L aa ccd cl outer) (call (.ref 115) [.ref sc]) Q E s := by
  refine (jarMade_ok hi (by rw [IntsAre.length hi]; exact hz)).use (rest := []) B F X (news_sub (news := []) N fun p hp => nomatch hp) T hk hd hu (fun p hp => nomatch hp) (hl.at fun o e => F.keep _ o e) .nil ?_
  rintro r news' h' tk' F' N' K' ⟨jar, x, y, tx, ty, rfl, a, b, c, _, rfl⟩
  exact ret jar x y tx ty h' tk' F' N' a b c
theorem right_call {jar : Addr} {x y : Int} {tx ty : Tok} (hd : dp + 120 < recursionLimit) (hu : un + 1400 < cLine) (hm : (jar, jarO x y tx ty) ∈ led) (hx : 0 ≤ x) (hy : 0 ≤ y) (hy2 : y < 2147483647)
    (ret : ∀ h' tk', Fr h₀ L h' m → News h₀ L h' [] → Q (.bool true) { s with heap := h', toks := tk' }) :
    wpAny (model Pg w) (ktrTop dp un gd cn cs L aa ccd cl outer) (call (.ref 181) [.ref jar]) Q E s := by
  refine (right_ok hx hy hy2).use (rest := []) B F X (news_sub (news := [(jar, jarO x y tx ty)]) N fun p hp => by rw [List.mem_singleton.mp hp]; exact hm) T hk hd hu (fun p hp => hp) trivial (.drop .nil) ?_
  rintro r news' h' tk' F' N' K' e
  have e : r = .bool true := e
  rw [e]
  exact ret h' tk' F' fun p hp => nomatch hp
end
section
variable {w : World} {mean : ExcName → Option Value} {mg mb : Str → Option Value}
    {dp un : Nat} {gd : Option (List Code)} {cn : Str} {cs : Scope} {aa : Addr} {ccd : Value} {cl : List (Str × Addr)} {outer : List Env} {A₀ : Around} {base h₀ : Heap} {L : Addr} {m : Str → Option Value} {s : Shared} {Q E : Value → Shared → Prop} {led rest : Led}
    {row dx rl pl tl : Addr} {rk : RowK} {ts : List Value} {v rv : Value} {n1 n2 n : Nat} {ta : Addr} {tw : Tok}
/-- a written type is walked over a row of one type -/
theorem walk_known (t : Ty) {w0 w1 : List Way} {b0 b1 : Bool} (h : t.depth ≤ 3) (hn : t.noAdt = true) (e : (marks ⟨.bi, .bi, .bi, .bi⟩ t .co).foldl (stepN [.pT]) (w0, b0) = (w1, b1)) (hl : w0.length = 1)
    (B : Below A₀ base outer h₀) (F : Fr h₀ L s.heap m) (X : (hd.heap_39 w.params).In h₀) (N : News h₀ L s.heap led) (T : Top hd.view_39 LZ mean mg mb h₀) (hk : cs.kind = .function)
    (hd : dp + 80 < recursionLimit) (hu : un + 10 * 80 < cLine) (m1 : ∀ p ∈ rowLed row dx rl pl tl rk [] [v] n1 n2 n ts b0, p ∈ led) (P : ParsV [v] [.pT]) (hi : StrsAre ts (w0.map Way.s)) (ap : Apart row dx rl pl tl) (hr : Rest [row, dx, rl, pl, tl] led rest) (TI : TyIn rest (.ref ta) t)
    (ret : ∀ ts' h' tk', Fr h₀ L h' m → News h₀ L h' (rowLed row dx rl pl tl rk [] [v] n1 n2 n ts' b1 ++ rest) → StrsAre ts' (w1.map Way.s) → Q .none { s with heap := h', toks := tk' }) :
    wpAny (model Pg w) (ktrTop dp un gd cn cs L aa ccd cl outer) (call (.ref 78) [.ref row, rv, .ref ta, .str (Str.ofString "co") tw]) Q E s := by
  have IH : WalkSpec w mean mg mb 78 80 t := @walk_deep w mean mg mb t h
  refine walk_call2 (K := ⟨.bi, .bi, .bi, .bi⟩) (ws := w0) (a := .co) (rs := []) (rgs := []) (pgs := [.pT]) @IH B F X N T hk hd hu m1 .nil P hl hi ap hr (.inl hn) TI ?_
  intro ts' h' tk' F' N' hi'
  have e' : (marks ⟨.bi, .bi, .bi, .bi⟩ t .co).foldl (stepN ([] ++ [.pT])) (w0, b0) = (w1, b1) := e
  rw [e'] at N' hi'
  exact ret ts' h' tk' F' N' hi'
end
theorem law_end (l : OpenLaw) (args : List WData) : l.row.claim.post args (.bool true) args = true := postW_of (by rfl) (by wtm_val) (by rfl)
theorem law_holds : PySem.Challenge.rw_xm0581_01.Holds := hd ⟨left_real, by
  k_go0
  all_goals (try k_fold)
  rename Below _ _ _ _ => K9
  unfold Top.heap at K9
  (try (rename Glob _ _ _ _ _ _ _ _ => g1; clear g1))
  (try (rename TopE _ _ _ _ => g2; clear g2))
  (try (rename TopW _ _ _ => g3; clear g3))
  (try (rename BMod _ _ _ _ _ => g4; clear g4))
  (try (rename Dflts _ _ => g5; clear g5))
  (try (rename Heap.CodeRec _ _ _ => g6; clear g6))
  (try (rename Tables _ _ _ _ => g7; clear g7))
  (w_top off; repeat' (first | (k_unfold; (try dsimp only)) | ((with_reducible show wpAny _ _ (call (Value.ref _) _) _ _ _); first | ((with_reducible show wpAny _ _ (call (Value.ref 29) [Value.str (Str.ofString "in") _, Value.str (Str.ofString "co") _]) _ _ _); k_dflt (refine within_call (a := .inn) (b := .co) (by k_asm) (by k_asm) (by k_asm) (by k_asm) (by k_asm) (by first | exact rfl | assumption) (by first | exact rm (by assumption) (by rfl) | ktr_room) (by first | exact un3 (by assumption) (by rfl) | ktr_units) ?_; k_whole); intro t' h' tk' F' N'; (try k_fold); (try ((with_reducible show wpAny _ _ _ _ _ _); k_gentoks))) | ((with_reducible show wpAny _ _ (call (Value.ref 22) [Value.str (Str.ofString "co") _, Value.str (Str.ofString "bi") _]) _ _ _); k_dflt (refine stricter_call (a := .co) (b := .bi) (by k_asm) (by k_asm) (by k_asm) (by k_asm) (by k_asm) (by first | exact rfl | assumption) (by first | exact rm (by assumption) (by rfl) | ktr_room) (by first | exact un3 (by assumption) (by rfl) | ktr_units) ?_; k_whole); intro t' h' tk' F' N'; (try k_fold); (try ((with_reducible show wpAny _ _ _ _ _ _); k_gentoks))) | ((with_reducible show wpAny _ _ (call (Value.ref 176) _) _ _ _); k_dflt (refine lawRow_call (pws := []) (frz := []) (by k_asm) (by k_asm) (by k_asm) (by k_asm) (by k_asm) (by first | exact rfl | assumption) (by first | exact rm (by assumption) (by rfl) | ktr_room) (by first | exact un3 (by assumption) (by rfl) | ktr_units) (by k_mem) (by k_mem) (by k_mem) (by exact PwIn.nil) (by exact fun _ h => nomatch h) (by exact Nat.le_of_ble_eq_true rfl) (by exact Nat.le_of_ble_eq_true rfl) (by exact fun _ h => nomatch h) (by exact Keep.none) ?_; k_whole); intro row' dx' rl' pl' tl' rk' ts' n' c1' c2' h' tk' F' N' V' l1' l2' l3' l4' o1' o2' o3' o4' o5'; obtain ⟨u1', u2', u3', u4'⟩ := five_df l1' l2' l3' l4'; (try k_fold); (try ((with_reducible show wpAny _ _ _ _ _ _); k_gentoks))) | ((with_reducible show wpAny _ _ (call (Value.ref 78) _) _ _ _); refine halt ?_; (try ((with_reducible show wpAny _ _ _ _ _ _); k_gentoks)))) | ((with_reducible show wpAny _ _ (compareOp CmpOp.NotEq (Value.str _ _) (Value.str _ _)) _ _ _); first | (with_reducible refine ne_strF (by first | exact maxs_ne _ _ | exact muls_ne _ _ | decide +kernel) ?_; (try ((with_reducible show wpAny _ _ _ _ _ _); k_gentoks)))) | ((with_reducible show wpAny _ _ (newList _) _ _ _); first | (k_dflt (refine newListM (by k_asm) (by k_asm) (by exact Nat.le_of_ble_eq_true rfl) ?_; k_whole); intro D' h' F' N' l1; (try k_sweep); (try ((with_reducible show wpAny _ _ _ _ _ _); k_gentoks)))) | ((with_reducible show wpAny _ _ (newTuple _) _ _ _); first | (k_dflt (refine newTupleM (by k_asm) (by k_asm) (by exact Nat.le_of_ble_eq_true rfl) ?_; k_whole); intro D' h' F' N' l1; (try k_sweep); (try ((with_reducible show wpAny _ _ _ _ _ _); k_gentoks)))) | ((with_reducible show wpAny _ _ (eval (Expr.Dict _ _ _) _) _ _ _); first | (k_dflt refine' newDict_K ?zd1 ?zd2 ?zd3 ?_; (case zd1 => k_asm); (case zd2 => k_asm); (case zd3 => exact Top.nolimit (by assumption)); k_whole; intro d' h' o' F' N' l1 lo' hs' fs' hi' fi'; (try k_sweep); (try ((with_reducible show wpAny _ _ _ _ _ _); k_gentoks)))) | (k_end; wrow_close) | walk1 | (dsimp only; walk1) | (leave1; (try dsimp only))))
  unfold Halt
  rename StrsAre _ (List.map Way.s (List.foldl stepW _ _).1) => V9
  k_dflt (refine walk_known (.ref .ra true (.tup .oth (.par .pU))) (w0 := [.bi]) (w1 := [.bi]) (b0 := false) (b1 := false) (by decide) (by rfl) (by rfl) (by rfl) (by k_asm) (by k_asm) (by k_asm) (by k_asm) (by k_asm) (by first | exact rfl | assumption) (by first | exact rm (by assumption) (by rfl) | ktr_room) (by first | exact un3 (by assumption) (by rfl) | ktr_units) (by ((repeat' (first | (with_reducible first | exact sub_nil | exact sub_self | refine sub_app ?_ ?_ | refine sub_cons ?_ ?_) | ((repeat with_reducible first | exact sub_self | exact sub_l sub_self | refine sub_tl ?_ | refine sub_r ?_); done) | ((with_reducible show _ ∈ _); k_mem) | (refine sub_cons (by k_mem) ?_))); done)) (by exact ParsV.one _) (by exact V9) (by exact ⟨by ((repeat' (first | with_reducible exact df_nil | refine df_conl (by (first | k_ne | exact (cells_far _).1 | exact (cells_far _).2.1 | exact (cells_far _).2.2)) ?_)); done), by ((repeat' (first | with_reducible exact df_nil | refine df_conl (by (first | k_ne | exact (cells_far _).1 | exact (cells_far _).2.1 | exact (cells_far _).2.2)) ?_)); done), by ((repeat' (first | with_reducible exact df_nil | refine df_conl (by (first | k_ne | exact (cells_far _).1 | exact (cells_far _).2.1 | exact (cells_far _).2.2)) ?_)); done), by ((repeat' (first | with_reducible exact df_nil | refine df_conl (by (first | k_ne | exact (cells_far _).1 | exact (cells_far _).2.1 | exact (cells_far _).2.2)) ?_)); done)⟩) (by ((repeat' (first | (with_reducible first | exact Rest.nil | refine' Rest.d1 ?_ | refine' Rest.d2 ?_ | refine' Rest.d3 ?_ | refine' Rest.d4 ?_ | refine' Rest.d5 ?_ | refine' Rest.d6 ?_ | refine' Rest.d7 ?_ | refine' Rest.d8 ?_ | refine' Rest.d9 ?_ | refine' Rest.d10 ?_ | refine' Rest.d11 ?_) | (refine' Rest.keep (by ((repeat' (first | with_reducible exact nea_nil | exact df_all (by with_reducible assumption) | exact df_allm (by with_reducible assumption) (by k_mem) | refine nea_cons (by k_ne) ?_)); done)) ?_) | exact Rest.all (by with_reducible assumption) | exact Rest.all (rest_one (by with_reducible assumption)) | exact Rest.all (rest_two (by with_reducible assumption) (by with_reducible assumption)) | (with_reducible first | refine' Rest.app (by assumption) ?_ | refine' Rest.app (rest_one (by assumption)) ?_ | refine' Rest.app (rest_two (by assumption) (by assumption)) ?_ | refine' Rest.drop ?_))); done)) (by exact .ref (by k_mem) rfl ⟨_, rfl⟩ (.tup (by k_mem) (by k_mem) (.oth (by k_mem)) (.par (by k_mem) rfl ⟨_, rfl⟩))) ?_; k_whole)
  intro ts3 h3 tk3 F3 N3 hi3
  simp only [rowLed, List.cons_append, List.nil_append] at N3
  (try k_fold)
  (w_top off; repeat' (first | (k_unfold; (try dsimp only)) | ((with_reducible show wpAny _ _ (compareOp CmpOp.NotEq (Value.ref _) (Value.ref _)) _ _ _); first | (k_dflt (first | refine ne_waysF (ws := [.bi]) (by exact News.isList (by k_asm) (by k_mem)) (by exact News.isList (by k_asm) (by k_mem)) (by with_reducible assumption) (by with_reducible exact ways_bi1 _) (by first | exact un3 (by assumption) (by rfl) | ktr_units) ?_ | refine ne_waysF (ws := [.co]) (by exact News.isList (by k_asm) (by k_mem)) (by exact News.isList (by k_asm) (by k_mem)) (by with_reducible assumption) (by with_reducible exact ways_co1 _) (by first | exact un3 (by assumption) (by rfl) | ktr_units) ?_); k_whole; (try ((with_reducible show wpAny _ _ _ _ _ _); k_gentoks)))) | ((with_reducible show wpAny _ _ (compareOp CmpOp.NotEq (Value.bool _) (Value.bool _)) _ _ _); first | (with_reducible refine ne_boolF ?_; (try ((with_reducible show wpAny _ _ _ _ _ _); k_gentoks)))) | ((with_reducible show wpAny _ _ (newList _) _ _ _); first | (k_dflt (refine newListM (by k_asm) (by k_asm) (by exact Nat.le_of_ble_eq_true rfl) ?_; k_whole); intro D' h' F' N' l1; (try k_sweep); (try ((with_reducible show wpAny _ _ _ _ _ _); k_gentoks)))) | ((with_reducible show wpAny _ _ (newTuple _) _ _ _); first | (k_dflt (refine newTupleM (by k_asm) (by k_asm) (by exact Nat.le_of_ble_eq_true rfl) ?_; k_whole); intro D' h' F' N' l1; (try k_sweep); (try ((with_reducible show wpAny _ _ _ _ _ _); k_gentoks)))) | ((with_reducible show wpAny _ _ (eval (Expr.Dict _ _ _) _) _ _ _); first | (k_dflt refine' newDict_K ?zd1 ?zd2 ?zd3 ?_; (case zd1 => k_asm); (case zd2 => k_asm); (case zd3 => exact Top.nolimit (by assumption)); k_whole; intro d' h' o' F' N' l1 lo' hs' fs' hi' fi'; (try k_sweep); (try ((with_reducible show wpAny _ _ _ _ _ _); k_gentoks)))) | ((with_reducible show wpAny _ _ (call (Value.ref _) _) _ _ _); first | ((with_reducible show wpAny _ _ (call (Value.ref 78) _) _ _ _); refine halt ?_; (try ((with_reducible show wpAny _ _ _ _ _ _); k_gentoks)))) | (k_end; wrow_close) | walk1 | (dsimp only; walk1) | (leave1; (try dsimp only))))
  unfold Halt
  k_dflt (refine walk_known (.box (.par .pT)) (w0 := [.bi]) (w1 := [.co]) (b0 := false) (b1 := true) (by decide) (by rfl) (by rfl) (by rfl) (by k_asm) (by k_asm) (by k_asm) (by k_asm) (by k_asm) (by first | exact rfl | assumption) (by first | exact rm (by assumption) (by rfl) | ktr_room) (by first | exact un3 (by assumption) (by rfl) | ktr_units) (by ((repeat' (first | (with_reducible first | exact sub_nil | exact sub_self | refine sub_app ?_ ?_ | refine sub_cons ?_ ?_) | ((repeat with_reducible first | exact sub_self | exact sub_l sub_self | refine sub_tl ?_ | refine sub_r ?_); done) | ((with_reducible show _ ∈ _); k_mem) | (refine sub_cons (by k_mem) ?_))); done)) (by exact ParsV.one _) (by exact hi3) (by exact ⟨by ((repeat' (first | with_reducible exact df_nil | refine df_conl (by (first | k_ne | exact (cells_far _).1 | exact (cells_far _).2.1 | exact (cells_far _).2.2)) ?_)); done), by ((repeat' (first | with_reducible exact df_nil | refine df_conl (by (first | k_ne | exact (cells_far _).1 | exact (cells_far _).2.1 | exact (cells_far _).2.2)) ?_)); done), by ((repeat' (first | with_reducible exact df_nil | refine df_conl (by (first | k_ne | exact (cells_far _).1 | exact (cells_far _).2.1 | exact (cells_far _).2.2)) ?_)); done), by ((repeat' (first | with_reducible exact df_nil | refine df_conl (by (first | k_ne | exact (cells_far _).1 | exact (cells_far _).2.1 | exact (cells_far _).2.2)) ?_)); done)⟩) (by ((repeat' (first | (with_reducible first | exact Rest.nil | refine' Rest.d1 ?_ | refine' Rest.d2 ?_ | refine' Rest.d3 ?_ | refine' Rest.d4 ?_ | refine' Rest.d5 ?_ | refine' Rest.d6 ?_ | refine' Rest.d7 ?_ | refine' Rest.d8 ?_ | refine' Rest.d9 ?_ | refine' Rest.d10 ?_ | refine' Rest.d11 ?_) | (refine' Rest.keep (by ((repeat' (first | with_reducible exact nea_nil | exact df_all (by with_reducible assumption) | exact df_allm (by with_reducible assumption) (by k_mem) | refine nea_cons (by k_ne) ?_)); done)) ?_) | exact Rest.all (by with_reducible assumption) | exact Rest.all (rest_one (by with_reducible assumption)) | exact Rest.all (rest_two (by with_reducible assumption) (by with_reducible assumption)) | (with_reducible first | refine' Rest.app (by assumption) ?_ | refine' Rest.app (rest_one (by assumption)) ?_ | refine' Rest.app (rest_two (by assumption) (by assumption)) ?_ | refine' Rest.drop ?_))); done)) (by exact .box (by k_mem) (.par (by k_mem) rfl ⟨_, rfl⟩)) ?_; k_whole)
  intro ts4 h4 tk4 F4 N4 hi4
  simp only [rowLed, List.cons_append, List.nil_append] at N4
  (try k_fold)
  (w_top off; repeat' (first | (k_unfold; (try dsimp only)) | ((with_reducible show wpAny _ _ (compareOp CmpOp.NotEq (Value.ref _) (Value.ref _)) _ _ _); first | (k_dflt (first | refine ne_waysF (ws := [.bi]) (by exact News.isList (by k_asm) (by k_mem)) (by exact News.isList (by k_asm) (by k_mem)) (by with_reducible assumption) (by with_reducible exact ways_bi1 _) (by first | exact un3 (by assumption) (by rfl) | ktr_units) ?_ | refine ne_waysF (ws := [.co]) (by exact News.isList (by k_asm) (by k_mem)) (by exact News.isList (by k_asm) (by k_mem)) (by with_reducible assumption) (by with_reducible exact ways_co1 _) (by first | exact un3 (by assumption) (by rfl) | ktr_units) ?_); k_whole; (try ((with_reducible show wpAny _ _ _ _ _ _); k_gentoks)))) | ((with_reducible show wpAny _ _ (compareOp CmpOp.NotEq (Value.bool _) (Value.bool _)) _ _ _); first | (with_reducible refine ne_boolF ?_; (try ((with_reducible show wpAny _ _ _ _ _ _); k_gentoks)))) | ((with_reducible show wpAny _ _ (newList _) _ _ _); first | (k_dflt (refine newListM (by k_asm) (by k_asm) (by exact Nat.le_of_ble_eq_true rfl) ?_; k_whole); intro D' h' F' N' l1; (try k_sweep); (try ((with_reducible show wpAny _ _ _ _ _ _); k_gentoks)))) | ((with_reducible show wpAny _ _ (newTuple _) _ _ _); first | (k_dflt (refine newTupleM (by k_asm) (by k_asm) (by exact Nat.le_of_ble_eq_true rfl) ?_; k_whole); intro D' h' F' N' l1; (try k_sweep); (try ((with_reducible show wpAny _ _ _ _ _ _); k_gentoks)))) | ((with_reducible show wpAny _ _ (eval (Expr.Dict _ _ _) _) _ _ _); first | (k_dflt refine' newDict_K ?zd1 ?zd2 ?zd3 ?_; (case zd1 => k_asm); (case zd2 => k_asm); (case zd3 => exact Top.nolimit (by assumption)); k_whole; intro d' h' o' F' N' l1 lo' hs' fs' hi' fi'; (try k_sweep); (try ((with_reducible show wpAny _ _ _ _ _ _); k_gentoks)))) | ((with_reducible show wpAny _ _ (call (Value.ref _) _) _ _ _); first | ((with_reducible show wpAny _ _ (call (Value.ref 115) _) _ _ _); k_dflt (refine jarMade_call (by k_asm) (by k_asm) (by k_asm) (by k_asm) (by k_asm) (by first | exact rfl | assumption) (by first | exact rm (by assumption) (by rfl) | ktr_room) (by first | exact un3 (by assumption) (by rfl) | ktr_units) (by assumption) (by omega) (by assumption) ?_; k_whole); intro jar' x' y' tx' ty' h' tk' F' N' hx' hy' hy2'; (try k_fold); (try ((with_reducible show wpAny _ _ _ _ _ _); k_gentoks))) | ((with_reducible show wpAny _ _ (call (Value.ref 129) _) _ _ _); k_dflt (refine one_ways (by k_asm) (by k_asm) (by k_asm) (by k_asm) (by k_asm) (by first | exact rfl | assumption) (by first | exact rm (by assumption) (by rfl) | ktr_room) (by first | exact un3 (by assumption) (by rfl) | ktr_units) (by k_mem) (by ((repeat' (first | (with_reducible first | exact Rest.nil | refine' Rest.d1 ?_ | refine' Rest.d2 ?_ | refine' Rest.d3 ?_ | refine' Rest.d4 ?_ | refine' Rest.d5 ?_ | refine' Rest.d6 ?_ | refine' Rest.d7 ?_ | refine' Rest.d8 ?_ | refine' Rest.d9 ?_ | refine' Rest.d10 ?_ | refine' Rest.d11 ?_) | (refine' Rest.keep (by ((repeat' (first | with_reducible exact nea_nil | exact df_all (by with_reducible assumption) | exact df_allm (by with_reducible assumption) (by k_mem) | refine nea_cons (by k_ne) ?_)); done)) ?_) | exact Rest.all (by with_reducible assumption) | exact Rest.all (rest_one (by with_reducible assumption)) | exact Rest.all (rest_two (by with_reducible assumption) (by with_reducible assumption)) | (with_reducible first | refine' Rest.app (by assumption) ?_ | refine' Rest.app (rest_one (by assumption)) ?_ | refine' Rest.app (rest_two (by assumption) (by assumption)) ?_ | refine' Rest.drop ?_))); done)) (by assumption) (by assumption) (by assumption) (by k_mem) (by first | exact fun _ => mem_ways3 | exact fun _ => mem_ways4) (by exact Nat.le_of_ble_eq_true rfl) (by exact Nat.le_of_ble_eq_true rfl) (by k_ne) ?_; k_whole); intro x' y' tx' ty' a' t' h' tk' F' N' hx' hy' hy2'; (try k_fold); (try ((with_reducible show wpAny _ _ _ _ _ _); k_gentoks))) | ((with_reducible show wpAny _ _ (call (Value.ref 22) _) _ _ _); k_dflt (refine stricter_call (by k_asm) (by k_asm) (by k_asm) (by k_asm) (by k_asm) (by first | exact rfl | assumption) (by first | exact rm (by assumption) (by rfl) | ktr_room) (by first | exact un3 (by assumption) (by rfl) | ktr_units) ?_; k_whole); intro t' h' tk' F' N'; (try k_fold); (try ((with_reducible show wpAny _ _ _ _ _ _); k_gentoks))) | ((with_reducible show wpAny _ _ (call (Value.ref 29) [Value.str (Way.s _) _, Value.str (Way.s _) _]) _ _ _); k_dflt (refine within_call (by k_asm) (by k_asm) (by k_asm) (by k_asm) (by k_asm) (by first | exact rfl | assumption) (by first | exact rm (by assumption) (by rfl) | ktr_room) (by first | exact un3 (by assumption) (by rfl) | ktr_units) ?_; k_whole); intro t' h' tk' F' N'; (try k_fold); (try ((with_reducible show wpAny _ _ _ _ _ _); k_gentoks))) | ((with_reducible show wpAny _ _ (call (Value.ref 143) _) _ _ _); k_dflt (refine strictest_call (by k_asm) (by k_asm) (by k_asm) (by k_asm) (by k_asm) (by first | exact rfl | assumption) (by first | exact rm (by assumption) (by rfl) | ktr_room) (by first | exact un3 (by assumption) (by rfl) | ktr_units) (by k_mem) (by exact two_ways _ _ _ _) ?_; k_whole); intro t' h' tk' F' N'; (try k_fold); (try ((with_reducible show wpAny _ _ _ _ _ _); k_gentoks))) | ((with_reducible show wpAny _ _ (call (Value.ref 136) _) _ _ _); k_dflt (refine road_call (by k_asm) (by k_asm) (by k_asm) (by k_asm) (by k_asm) (by first | exact rfl | assumption) (by first | exact rm (by assumption) (by rfl) | ktr_room) (by first | exact un3 (by assumption) (by rfl) | ktr_units) (by k_mem) (by exact two_ways _ _ _ _) ?_; k_whole); intro t' h' tk' F' N'; (try k_fold); (try ((with_reducible show wpAny _ _ _ _ _ _); k_gentoks))) | ((with_reducible show wpAny _ _ (call (Value.ref 181) _) _ _ _); k_dflt (refine right_call (by k_asm) (by k_asm) (by k_asm) (by k_asm) (by k_asm) (by first | exact rfl | assumption) (by first | exact rm (by assumption) (by rfl) | ktr_room) (by first | exact un3 (by assumption) (by rfl) | ktr_units) (by k_mem) (by assumption) (by assumption) (by assumption) ?_; k_whole); intro h' tk' F' N'; (try k_fold); (try ((with_reducible show wpAny _ _ _ _ _ _); k_gentoks)))) | ((with_reducible show wpAny _ _ (compareOp CmpOp.NotEq (Value.str _ _) (Value.str _ _)) _ _ _); first | (with_reducible refine ne_strF (by first | exact maxs_ne _ _ | exact muls_ne _ _ | decide +kernel) ?_; (try ((with_reducible show wpAny _ _ _ _ _ _); k_gentoks)))) | ((with_reducible show GoodW _ _ _ _ _ _ _); first | (refine halt ?_; (try ((with_reducible show wpAny _ _ _ _ _ _); k_gentoks)))) | (k_end; wrow_close) | walk1 | (dsimp only; walk1) | (leave1; (try dsimp only))))
  unfold Halt
  (refine goodW_bool (by assumption) (by assumption) (raisesW_false ?_) ?_)
  · exact allW_false_nil
  · exact law_end _ _⟩

end Mine
theorem PySem.Challenge.cw_xm0581_01_holds : PySem.Challenge.rw_xm0581_01.Holds :=
  Mine.law_holds
