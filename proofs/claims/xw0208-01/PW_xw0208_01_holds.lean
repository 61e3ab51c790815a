import PyProof.Rows.All
import Wide.All
import OpenK.AllK
import Wide.FinOn
import PySem.Challenge.RW_xw0208_01
open PySem PySem.W PySem.Spec PySem.Calls PyProof.Rows
set_option Elab.async false
set_option maxRecDepth 100000
set_option maxHeartbeats 8000000
set_option linter.unusedVariables false
set_option linter.unusedSimpArgs false
namespace Mine
def keepB : List Stmt → List Stmt
  | a0 :: _ :: a2 :: a3 :: a4 :: a5 :: a6 :: _ :: a8 :: a9 :: a10 :: a11 :: a12 :: a13 :: a14 :: a15 :: a16 :: _ :: a18 :: a19 :: _ :: a21 :: _ :: l => a0 :: a2 :: a3 :: a4 :: a5 :: a6 :: a8 :: a9 :: a10 :: a11 :: a12 :: a13 :: a14 :: a15 :: a16 :: a18 :: a19 :: a21 :: l
  | l => l
/-- the text without its statements that bind nothing -/
def V : Program := { PySem.Challenge.rw_xw0208_01.row.toRowW.prog with main := { PySem.Challenge.rw_xw0208_01.row.toRowW.prog.main with body := keepB PySem.Challenge.rw_xw0208_01.row.toRowW.prog.main.body } }
section
local macro_rules | `(tactic| o_head $_) => `(tactic| (exfalso; assumption))
/-- names the heap that the top leaves -/
theorem hd (f : False) : PySem.Challenge.rw_xw0208_01.row.Holds := by
  k_head
end
/-- the addresses of what is written out of the heap behind the top -/
def tops : List Addr := [2, 3, 15, 17, 18, 20, 21, 22, 23, 25, 26, 28, 29, 37, 39, 40, 42, 43, 44, 46, 47, 49, 50, 51, 53, 54, 56, 57, 58, 59, 60, 61, 62, 65, 67, 68, 70, 71, 72, 74, 75, 77, 78, 79, 80, 81, 82, 83, 84, 85, 86, 87, 88, 89, 90, 91, 92, 93, 94, 95, 96, 98, 99, 101, 102, 103, 105, 106, 108, 109, 110, 112, 113, 115, 116, 117, 119, 120, 122, 123, 124, 126, 127, 129, 130, 131, 138, 140, 141, 143, 144, 145, 146, 147, 148, 151, 158, 159, 161, 162, 164, 165, 166, 167, 168, 178, 179, 181, 182, 184, 185, 186, 188, 189, 191, 192, 193, 195, 196, 198, 199, 200, 202, 203, 205, 206, 207, 209, 210, 212, 213, 214, 216, 217, 219, 220, 221, 223, 224, 226, 227, 228, 230, 231, 233, 234, 235, 237, 238, 240, 241, 242, 244, 245, 247, 248, 249, 251, 252, 254, 255, 256, 258, 259, 261, 262, 263, 265, 266, 268, 269, 270, 272, 273, 275, 276, 277, 279, 280, 282, 283, 284, 286, 287, 289, 290, 291, 292, 293, 294, 295, 298, 300, 301, 303, 304, 305, 307, 308, 310, 311, 312, 314, 315, 317, 318, 319, 321, 322, 324, 325, 326, 328, 329, 331, 332, 333, 335, 336, 338, 339, 340, 342, 343, 345, 346, 347, 350, 351, 352, 355, 356]
theorem tops_are : ∀ P, tops = (hd.heap_1 P).map (·.1) := fun _ => by kernel_rfl
theorem head_ok : PySem.Challenge.rw_xw0208_01.wellSaid = true := by kernel_rfl
theorem head_left : LeftO PySem.Challenge.rw_xw0208_01.row.prog V [Str.ofString "DtdFault"] (fun s => xlAt V [] s && recOk (RowW.records PySem.Challenge.rw_xw0208_01.row.toRowW) s) (Hook.obs (kmHook hd.heap_1 tops tops_are [341, 334])) (Hook.val (kmHook hd.heap_1 tops tops_are [341, 334])) 4466 := by
  intro w; kernel_rfl
/-- all of h but what lies at `as` stands in h' -/
def Kp (as : List Addr) (h h' : Heap) : Prop := ∀ b o, h.get? b = some o → b ∉ as → h'.get? b = some o

theorem Kp.refl (as : List Addr) (h : Heap) : Kp as h h := fun _ _ e _ => e
theorem Kp.trans {as : List Addr} {h h₁ h₂ : Heap} (x : Kp as h h₁) (y : Kp as h₁ h₂) : Kp as h h₂ := fun b o e n => y b o (x b o e n) n
theorem Kp.mono {as bs : List Addr} {h h' : Heap} (x : Kp as h h') (s : ∀ a ∈ as, a ∈ bs) : Kp bs h h' := fun b o e n => x b o e fun m => n (s b m)

section
variable {prog : Program} {w : World} {A₀ : Around} {E : Value → Shared → Prop} {s : Shared} {base h₀ : Heap} {outer : List Env} {L : Addr} {m : Str → Option Value} {news : List (Addr × Obj)} {K : Frag}
  {p : Program} {loose : List Str} {mean : ExcName → Option Value} {mg mb : Str → Option Value} {dp un : Nat} {gd : Option (List Code)} {cn : Str} {cs : Scope} {a : Addr} {ccd : Value} {cl : List (Str × Addr)}
  {name qual : Str} {params : Arguments} {body : List Stmt} {scope : Scope} {dV kV doc pm cdv ct oc : Value} {an od : Option Addr} {osl : Array (Option Value)} {f : Addr} {vs : List Value} {binds : List (Str × Value)} {Q : Value → Shared → Prop}

/-- a call of a def of the text is entered; what is not in the ledger stays in the callee's base -/
theorem enter (B : Below A₀ base outer h₀) (F : Fr h₀ L s.heap m) (X₀ : K.In h₀) (N : News h₀ L s.heap news) (T : Top p loose mean mg mb h₀) (hke : cs.kind = .function)
    (ho : K.lookup f = some ⟨oc, od, .func (fnOf name qual params body scope dV kV doc pm an cdv ct), osl⟩) (hcd : codeIn K cdv qual = true) (hroom : dp < recursionLimit)
    (hbind : BindsTo s (fnOf name qual params body scope dV kV doc pm an cdv ct) ⟨vs, []⟩ binds) (hloc : ∀ y ∈ binds, scope.names.lookup y.1 = some .local)
    (h : ∀ g L' h₁, Fr g L' h₁ (fun y => binds.reverse.lookup y) → News g L' h₁ news → Below (ktrTop dp un gd cn cs L a ccd cl outer) base (envX cn cs L a ccd cl :: outer) g → K.In g → Top p loose mean mg mb g →
      Kp (news.map (·.1)) s.heap g → s.heap.objs.size ≤ L' → (∀ p ∈ news, p.1 < L') →
      wpAny (model prog w) ((ktrTop dp un gd cn cs L a ccd cl outer).deeper (envOf qual scope L' f cdv)) (execs body (envOf qual scope L' f cdv))
        (fun fl s' => Q (match fl with | .ret v => v | _ => .none) s')
        (fun e s' => wpAny (model prog w) ((ktrTop dp un gd cn cs L a ccd cl outer).deeper (envOf qual scope L' f cdv)) (leaving (envOf qual scope L' f cdv) e) (fun _ s'' => E e s'') (fun e' s'' => E e' s'') s')
        { s with heap := h₁, toks := s.toks + binds.length })
    (hcell : ∀ x ∈ scope.names, x.2 ≠ .cell) (hco : scope.isCoroutine = false) (hgen : scope.isGenerator = false) (hk : scope.kind = .function) :
    wpAny (model prog w) (ktrTop dp un gd cn cs L a ccd cl outer) (call (.ref f) vs) Q E s := by
  have X := X₀.keeps F.keep
  obtain ⟨FG, BG, st, _⟩ := groundX (A := ktrTop dp un gd cn cs L a ccd cl outer) (R := fun _ _ => True) B F N rfl rfl hke
  refine wpAny_call (codeAny_call_def (fd := fnOf name qual params body scope dV kV doc pm an cdv ct) (body := body) (binds := binds) hroom (X _ _ ho) rfl (T.nolimit.keeps F.keep) (codeRec_of X hcd) rfl hbind hcell hloc (fun h₁ hns hk₁ => ?_) hco hgen hk)
  exact h _ s.heap.objs.size h₁ ⟨hns, fun b o e => hk₁ b o (of_hideAll _ e), Nat.le_of_eq (hideAll_size _ _)⟩
    (fun p hp => ⟨hk₁ _ _ (N p hp).1, Nat.ne_of_lt (Heap.lt_size (N p hp).1), hideAll_none _ (List.mem_map_of_mem hp)⟩) BG (X₀.keeps st) (T.keeps st)
    (fun b o e n => hideAll_get _ e n) (Nat.le_refl _) (fun p hp => Heap.lt_size (N p hp).1)

/-- back in the caller's frame -/
theorem back {h g h' : Heap} {L' : Addr} {m' : Str → Option Value} {news' : List (Addr × Obj)} (F : Fr h₀ L h m) (N : News h₀ L h news) (ST : Kp (news.map (·.1)) h g) (F' : Fr g L' h' m') (N' : News g L' h' news') :
    Fr h₀ L h' m ∧ News h₀ L h' news' ∧ Kp (news.map (·.1)) h h' := by
  have nm : ∀ b o, h₀.get? b = some o → b ∉ news.map (·.1) := fun b o e q => by
    obtain ⟨p, hp, rfl⟩ := List.mem_map.mp q
    rw [(N p hp).2.2] at e; cases e
  have st : h₀.StaysIn g := fun b o e => ST b o (F.keep b o e) (nm b o e)
  obtain ⟨oL, es, ep, hL, hLd, hLk, hLf⟩ := F.ns
  have nL : L ∉ news.map (·.1) := fun q => by
    obtain ⟨p, hp, e⟩ := List.mem_map.mp q
    exact (N p hp).2.1 e
  have hLg := ST L oL hL nL
  refine ⟨⟨⟨oL, es, ep, F'.keep L oL hLg, hLd, hLk, hLf⟩, fun b o e => F'.keep b o (st b o e), F.above⟩, fun p hp => ⟨(N' p hp).1, fun q => ?_, ?_⟩, fun b o e n => F'.keep b o (ST b o e n)⟩
  · have := (N' p hp).2.2; rw [q, hLg] at this; cases this
  · cases q : h₀.get? p.1 with
    | none => rfl
    | some o => have := (N' p hp).2.2; rw [st _ _ q] at this; cases this
end

/-- one entry of the ledger is written anew, the rest stands -/
theorem News.upd1 {h₀ h h' : Heap} {L d : Addr} {o o' : Obj} {news : List (Addr × Obj)} {g : Obj → List (Addr × Obj)} (N : News h₀ L h news) (U : UpdF d o news g) (K : ∀ b o, h.get? b = some o → b ≠ d → h'.get? b = some o) (hd : h'.get? d = some o') : News h₀ L h' (g o') := by
  obtain ⟨pre, post, rfl, hg, h1, h2⟩ := U.split
  rw [hg]
  have D := N (d, o) (by simp)
  intro p hp
  rcases List.mem_append.mp hp with q | q
  · have P := N p (List.mem_append_left _ q); exact ⟨K _ _ P.1 (h1 p q), P.2⟩
  · rcases List.mem_cons.mp q with rfl | q
    · exact ⟨hd, D.2⟩
    · have P := N p (List.mem_append_right _ (.tail _ q)); exact ⟨K _ _ P.1 (h2 p q), P.2⟩
theorem UpdF.mem {d : Addr} {o : Obj} {news : List (Addr × Obj)} {g : Obj → List (Addr × Obj)} (U : UpdF d o news g) : (d, o) ∈ news := by
  obtain ⟨pre, post, rfl, _⟩ := U.split
  simp
theorem keepBut {h₀ h h' : Heap} {L d : Addr} {n0 n1 : List (Addr × Obj)} (N₀ : News h₀ L h n0) (N1 : News h₀ L h' n1) (K : Kp (n0.map (·.1)) h h') (same : ∀ p ∈ n0, p.1 ≠ d → p ∈ n1) : ∀ b o, h.get? b = some o → b ≠ d → h'.get? b = some o := fun b o e n => by
  by_cases q : b ∈ n0.map (·.1)
  · obtain ⟨p, hp, rfl⟩ := List.mem_map.mp q
    have := (N₀ p hp).1
    rw [e] at this; cases this
    exact (N1 p (same p hp n)).1
  · exact K b o e q
theorem keepAll {h₀ h h' : Heap} {L : Addr} {n0 n1 : List (Addr × Obj)} (N₀ : News h₀ L h n0) (N1 : News h₀ L h' n1) (K : Kp (n0.map (·.1)) h h') (same : ∀ p ∈ n0, p ∈ n1) : ∀ b o, h.get? b = some o → h'.get? b = some o := fun b o e => by
  by_cases q : b ∈ n0.map (·.1)
  · obtain ⟨p, hp, rfl⟩ := List.mem_map.mp q
    have := (N₀ p hp).1
    rw [e] at this; cases this
    exact (N1 p (same p hp)).1
  · exact K b o e q
theorem News.same {h₀ h h' : Heap} {L : Addr} {news : List (Addr × Obj)} (N : News h₀ L h news) (K : ∀ b o, h.get? b = some o → h'.get? b = some o) : News h₀ L h' news := fun p hp => ⟨K _ _ (N p hp).1, (N p hp).2⟩
theorem keepMods {h₀ h h' : Heap} {L : Addr} {mods : List Addr} {n0 n1 : List (Addr × Obj)} (N₀ : News h₀ L h n0) (N1 : News h₀ L h' n1) (K : Kp (n0.map (·.1)) h h') (same : ∀ p ∈ n0, p.1 ∉ mods → p ∈ n1) : ∀ b o, h.get? b = some o → b ∉ mods → h'.get? b = some o := fun b o e n => by
  by_cases q : b ∈ n0.map (·.1)
  · obtain ⟨p, hp, rfl⟩ := List.mem_map.mp q
    have := (N₀ p hp).1
    rw [e] at this; cases this
    exact (N1 p (same p hp n)).1
  · exact K b o e q
theorem UpdF.pick {d : Addr} {o o' : Obj} {news : List (Addr × Obj)} {g : Obj → List (Addr × Obj)} (U : UpdF d o news g) {p : Addr × Obj} (hp : p ∈ g o') : p = (d, o') ∨ (p ∈ news ∧ p.1 ≠ d) := by
  obtain ⟨pre, post, rfl, hg, h1, h2⟩ := U.split
  rw [hg] at hp
  rcases List.mem_append.mp hp with q | q
  · exact .inr ⟨List.mem_append_left _ q, h1 p q⟩
  · rcases List.mem_cons.mp q with rfl | q
    · exact .inl rfl
    · exact .inr ⟨List.mem_append_right _ (.tail _ q), h2 p q⟩
theorem UpdF.other {d d2 : Addr} {o o' o2 : Obj} {news : List (Addr × Obj)} {g : Obj → List (Addr × Obj)} {g2 : Obj → List (Addr × Obj)} (U : UpdF d o news g) (V : UpdF d2 o2 (g o') g2) (hne : d2 ≠ d) : (d2, o2) ∈ news :=
  (UpdF.pick U (UpdF.mem V)).elim (fun q => absurd (Prod.mk.inj q).1 hne) (·.1)
theorem News.upd2 {h₀ h h' : Heap} {L d d2 : Addr} {o o' o2 o2' : Obj} {news : List (Addr × Obj)} {g : Obj → List (Addr × Obj)} {gg : Obj → Obj → List (Addr × Obj)} (N : News h₀ L h news) (U : UpdF d o news g) (V : ∀ o', UpdF d2 o2 (g o') (gg o')) (hne : d2 ≠ d)
    (K : ∀ b o, h.get? b = some o → b ≠ d → b ≠ d2 → h'.get? b = some o) (hd : h'.get? d = some o') (hd2 : h'.get? d2 = some o2') : News h₀ L h' (gg o' o2') := fun p hp => by
  rcases UpdF.pick (V o') hp with rfl | ⟨q, n2⟩
  · exact ⟨hd2, (N _ (UpdF.other U (V o') hne)).2⟩
  · rcases UpdF.pick U q with rfl | ⟨q, n1⟩
    · exact ⟨hd, (N _ (UpdF.mem U)).2⟩
    · exact ⟨K _ _ (N p q).1 n1 n2, (N p q).2⟩
local macro_rules | `(tactic| k_ne) => `(tactic| first | ((try dsimp only); first | with_reducible assumption | exact Ne.symm (by with_reducible assumption)) | (refine neN ?_; (try dsimp only); omega))
local macro_rules | `(tactic| walk_at "callWith ref") => `(tactic| (k_here; k_dflt (refine' callWith_K (by k_asm) (by k_is) ?_; k_whole)))
local macro_rules | `(tactic| k_room) => `(tactic| ktr_room)
local macro_rules | `(tactic| tb_rel) => `(tactic| (first | exact List.forall_mem_nil _ | (refine' List.forall_mem_cons.mpr ⟨?a, ?b⟩; (case a => first | k_mem | exact fun _ => (by k_mem) | exact fun hq => absurd rfl hq | exact fun hq => absurd (by simp) hq | exact fun _ _ => (by k_mem) | exact fun hq => absurd rfl hq | exact fun _ hq => absurd rfl hq); (case b => tb_rel))))
section
open PySem.Builtin
theorem fromIndex_nat (len n : Nat) : fromIndex len (n : Int) = n := by
  unfold fromIndex
  rw [if_neg (by omega)]
  omega
theorem take1_drop (l : List Nat) (n c : Nat) : ((l.drop n).take 1 == [c]) = decide (l[n]? = some c) := by
  have : (l.drop n).take 1 = (l[n]?).toList := by
    cases h : l[n]? with
    | none => rw [List.drop_eq_nil_of_le (List.getElem?_eq_none_iff.mp h)]; rfl
    | some a =>
      obtain ⟨hn, rfl⟩ := List.getElem?_eq_some_iff.mp h
      rw [List.drop_eq_getElem_cons hn]; rfl
  rw [this]
  cases h : l[n]? with
  | none => simp
  | some a => simp [Bool.beq_eq_decide_eq]
/-- a text's signs -/
def sg (t : Str) : List Nat := t.cps.toList
theorem sg_len (t : Str) : (sg t).length = t.length := by unfold sg Str.length; rw [Array.length_toList]
theorem sw1 {t word : Str} {c : Nat} (n : Nat) (hw : word.cps = #[c]) : Txt.startswith3 t word (n : Int) = decide ((sg t)[n]? = some c) := by
  unfold Txt.startswith3
  rw [fromIndex_nat, StrLaws.subAt_eq, hw]
  have hl : word.length = 1 := by unfold Str.length; rw [hw]; rfl
  rw [hl]
  show (decide (n + 1 ≤ t.length) && (((sg t).drop n).take 1 == [c])) = _
  rw [take1_drop]
  by_cases h : (sg t)[n]? = some c
  · have : n < (sg t).length := (List.getElem?_eq_some_iff.mp h).1
    rw [sg_len] at this
    rw [decide_eq_true h, decide_eq_true (show n + 1 ≤ t.length from this)]; rfl
  · rw [decide_eq_false h, Bool.and_false]
end
section
open Builtin Builtin.ObjectAttr
def clsOk (K : Frag) (C : Addr) : Bool := match K.lookup C with
  | some ⟨_, _, .cls cd, _⟩ => !cd.abstract && !cd.hasDel && !cd.mro.isEmpty
  | _ => false
theorem cls_of {K : Frag} {h : Heap} {C : Addr} (X : K.In h) (e : clsOk K C = true) : ∃ oc od cd sl, h.get? C = some ⟨oc, od, .cls cd, sl⟩ ∧ cd.abstract = false ∧ cd.hasDel = false ∧ cd.mro.isEmpty = false := by
  unfold clsOk at e
  split at e
  · rename_i oc od cd sl ho
    simp only [Bool.and_eq_true, Bool.not_eq_true'] at e
    exact ⟨oc, od, cd, sl, X _ _ ho, e.1.1, e.1.2, e.2⟩
  · cases e

abbrev excO (d : Option Addr) (t : Addr) : Obj := { cls := .ref 168, dict := d, data := .fields #[.ref t, .none, .none, .none, .bool false, .none] }

section
variable {prog : Program} {w : World} {A : Around} {E : Value → Shared → Prop} {R : Result → Shared → Prop} {h : Heap} {g : Array GenState} {d : Drawn} {t : Nat} {os : OsState} {e : Addr}

theorem type_exc {M : Model} {oe : Obj} (he : h.get? e = some oe) (hc : oe.cls = .ref 168) : Looks M h (typeOf (.ref e)) (.ref 168) := hc ▸ (Looks.ld he).andThen .now
theorem mro_exc (X : (hd.heap_1 w.params).In h) : Looks (model prog w) h (mroOf (.ref 168)) [.ref 168, .ref 147, .type "Exception", .type "BaseException", .type "object"] := Looks.of_peek X (by kernel_rfl)
theorem refuse_exc (X : (hd.heap_1 w.params).In h) {oe : Obj} (he : h.get? e = some oe) (hc : oe.cls = .ref 168) : Looks (model prog w) h (refuseIfOverridden (.ref e) "__setattr__") () := by
  rw [refuse_eq]
  refine (type_exc he hc).andThen ((mro_exc X).andThen ?_)
  rw [refuseLoop_ref, refuseLoop_ref]
  exact Looks.of_pure (PySem.F.store_Exception.passes _)
theorem isobj_exc (X : (hd.heap_1 w.params).In h) {oe : Obj} (he : h.get? e = some oe) (hc : oe.cls = .ref 168) : Looks (model prog w) h (isInstance (.ref e) (.type "object")) true :=
  (type_exc he hc).andThen (Looks.of_peek X (by kernel_rfl))
theorem look_exc (X : (hd.heap_1 w.params).In h) : Looks (model prog w) h (typeLookup (.ref 168) "__setattr__") (some (.builtin "object.__setattr__")) := Looks.of_peek X (by kernel_rfl)
theorem lookM_exc (X : (hd.heap_1 w.params).In h) : Looks (model prog w) h (typeLookup (.ref 168) "message") none := Looks.of_peek X (by kernel_rfl)
theorem lookP_exc (X : (hd.heap_1 w.params).In h) : Looks (model prog w) h (typeLookup (.ref 168) "place") none := Looks.of_peek X (by kernel_rfl)
theorem hd_exc : (clsIn (hd.heap_1 w.params) 168).any (·.hasDict) = true := by kernel_rfl

theorem exc_new {rest : List Value} (X : (hd.heap_1 w.params).In h) (hq : R (.ok (.ret (.ref (h.objs.size + 1)))) ⟨(h.push { cls := .type "tuple", data := .seq rest.toArray }).push (excO none h.objs.size), g, d, t, os⟩) (hrest : rest.length ≤ sizeLine) :
    codeAny (model prog w) A (.call (.builtin "Exception.__new__") ⟨.ref 168 :: rest, []⟩) R ⟨h, g, d, t, os⟩ := by
  have FE := PySem.F.excBase_Exception
  have made : Looks (model prog w) h (Bind.madeBy (.ref 168)) (some "Exception.__new__") := Looks.of_peek X (by kernel_rfl)
  have base : Looks (model prog w) h (Bind.staticBase (.ref 168)) (.ref 168) := Looks.of_peek X (by kernel_rfl)
  have sE : Looks (model prog w) h (isSubtype (.ref 168) (.type "Exception")) true := Looks.of_peek X (by kernel_rfl)
  have sA : Looks (model prog w) h (isSubtype (.ref 168) (.type "AttributeError")) false := Looks.of_peek X (by kernel_rfl)
  have sN : Looks (model prog w) h (isSubtype (.ref 168) (.type "NameError")) false := Looks.of_peek X (by kernel_rfl)
  have ty : Looks (model prog w) h (isType (.ref 168)) true := Looks.of_peek X (by kernel_rfl)
  have here : Looks (model prog w) h (Bind.madeHere "BaseException.__new__" (.ref 168)) () := Looks.of_peek X (by kernel_rfl)
  have dl : Looks (model prog w) h (classHasDel 168) false := Looks.of_peek X (by kernel_rfl)
  have hstar := FE.noStar
  refine codeAny_call_builtin_code (Code.quiet_builtin _ FE.quiet) ?_
  have chk : Looks (model prog w) h (checkBuiltinCall "Exception.__new__" ⟨.ref 168 :: rest, []⟩) () := Looks.of_peek X (by kernel_rfl)
  refine chk.here ?_
  refine codeAny_builtinAt FE.entry ?_
  unfold Builtin.«BaseException.__new__»
  refine PySem.wpAt_bind ?_
  show PySem.wpAt _ _ _ (stack >>= _) _ _ _
  refine PySem.wpAt_bind (PySem.wpAt_stack fun p below => PySem.wpAt_of_wpAny ?_)
  dsimp only
  rw [if_pos FE.ends]
  refine wpAny_pure (PySem.wpAt_of_wpAny ?_)
  rw [FE.owner]
  repeat (first | simp only [Bool.not_true, Bool.false_eq_true, if_false] | lk)
  rw [if_neg (by rw [List.size_toArray]; omega)]
  repeat (first | with_reducible refine (dl.keeps (fun b o e => Heap.get?_push_of_some _ (Heap.get?_push_of_some _ e))).at ?_ | lk)
  rw [Heap.size_push]
  exact hq

theorem exc_call {rest : List Value} {Q : Value → Shared → Prop} (X : (hd.heap_1 w.params).In h) (hrest : rest.length ≤ sizeLine)
    (hq : wpAny (model prog w) (A.under (.builtin "type.__call__" ⟨.ref 168 :: rest, []⟩)) (call (.ref 165) (.ref (h.objs.size + 1) :: rest)) (fun v s' => v = .none ∧ Q (.ref (h.objs.size + 1)) s') E
      ⟨(h.push { cls := .type "tuple", data := .seq rest.toArray }).push (excO none h.objs.size), g, d, t, os⟩) :
    wpAny (model prog w) A (call (.ref 168) rest) Q E ⟨h, g, d, t, os⟩ := by
  have FE := PySem.F.excBase_Exception
  have typ : Looks (model prog w) h (isInstance (.ref 168) (.type "type")) true := Looks.of_peek X (by kernel_rfl)
  have call : Looks (model prog w) h (specialOf (.ref 168) "__call__") (some (.builtin "type.__call__")) := Looks.of_peek X (by kernel_rfl)
  have made : Looks (model prog w) h (Bind.madeBy (.ref 168)) (some "Exception.__new__") := Looks.of_peek X (by kernel_rfl)
  have hi : Looks (model prog w) h (typeLookup (.ref 168) "__init__") (some (.ref 165)) := Looks.of_peek X (by kernel_rfl)
  have self : Looks (model prog w) h (isSubtype (.ref 168) (.ref 168)) true := Looks.of_peek X (by kernel_rfl)
  have hb : ∀ v, Looks (model prog w) h (bindSpecial (.ref 165) v) (.ref 165, [v]) := fun v => bind_fn X v (by kernel_rfl)
  refine wpAny_call (codeAny_of_tree ?_)
  show wpAny _ _ (callAny (.ref 168) _) _ _ _
  obtain ⟨oc, od, cd, sl, hC, e1, e2, e4⟩ := cls_of (C := 168) X (by kernel_rfl)
  refine nd_load hC ?_
  show wpAny _ _ (callAny.viaDunder (.ref 168) _) _ _ _
  unfold callAny.viaDunder
  refine wpAny_bind (call.at ?_)
  dsimp only
  rw [tc_bind]
  refine wpAny_bind (wpAny_pure (wpAny_bind (wpAny_pure ?_)))
  refine wpAny_pure (a := Fin.again (.call (.builtin "type.__call__") ⟨.ref 168 :: rest, []⟩)) (And.intro rfl ?_)
  refine codeAny_call_builtin_at (Code.quiet_builtin _ (by decide +kernel)) entry_typeCall (check_slot tc_kind tc_split typ (tc_args _ _ _) ?_)
  unfold Builtin.«type.__call__»
  have hm : Looks (model prog w) h (mroOf (.ref 168)) cd.mro := ((Looks.ld (part := none) hC).andThen .now).andThen .now
  repeat (first | simp only [e4, Bool.false_eq_true, if_false] | with_reducible refine wpAny_call ?_ | lk)
  refine exc_new X ?_ hrest
  have k : ∀ b o, h.get? b = some o → ((h.push { cls := .type "tuple", data := .seq rest.toArray }).push (excO none h.objs.size)).get? b = some o := fun b o e => Heap.get?_push_of_some _ (Heap.get?_push_of_some _ e)
  have hx : ((h.push { cls := .type "tuple", data := .seq rest.toArray }).push (excO none h.objs.size)).get? (h.objs.size + 1) = some (excO none h.objs.size) := by heap_get
  have t1 : Looks (model prog w) ((h.push { cls := .type "tuple", data := .seq rest.toArray }).push (excO none h.objs.size)) (typeOf (.ref (h.objs.size + 1))) (.ref 168) := (Looks.ld hx).andThen .now
  have s1 := self.keeps k
  have i1 := hi.keeps k
  have b1 := (hb (.ref (h.objs.size + 1))).keeps k
  unfold isInstance callSpecial? specialOf
  have hq' : wpAny (model prog w) (A.under (.builtin "type.__call__" ⟨.ref 168 :: rest, []⟩)) (PySem.call (.ref 165) ([.ref (h.objs.size + 1)] ++ rest)) (fun v s' => v = .none ∧ Q (.ref (h.objs.size + 1)) s') E
      ⟨(h.push { cls := .type "tuple", data := .seq rest.toArray }).push (excO none h.objs.size), g, d, t, os⟩ := hq
  repeat (first | with_reducible refine wpAny_mono hq' (fun v s' z => ?_) (fun _ _ z => z) | lk)
  obtain ⟨rfl, z⟩ := z
  exact wpAny_pure z
end
section
variable {prog : Program} {w : World} {A : Around} {E : Value → Shared → Prop} {R : Result → Shared → Prop} {h : Heap} {g : Array GenState} {d : Drawn} {t : Nat} {os : OsState} {e : Addr}

/-- what a store at an exception of ours leaves -/
structure Stored (h h' : Heap) (e : Addr) (name : Str) (v : Value) (mA : Str → Option Value) : Prop where
  inst : h'.Inst e 168 (fun y => if y = name then some v else mA y)
  keep : ∀ b o, b ≠ e → (∀ o₀ dx, h.get? e = some o₀ → o₀.dict = some dx → b ≠ dx) → h.get? b = some o → h'.get? b = some o
  same : ∀ o₀, h.get? e = some o₀ → ∃ o₁, h'.get? e = some o₁ ∧ o₁.cls = o₀.cls ∧ o₁.data = o₀.data ∧ o₁.slots = o₀.slots ∧ (∀ dx, o₀.dict = some dx → o₁.dict = some dx) ∧ ∀ dx, o₁.dict = some dx → o₀.dict = some dx ∨ h.get? dx = none

theorem exc_store {name : Str} {v : Value} {mA : Str → Option Value} {ns : List Str} {tk : Tok} {Q : Fin → Shared → Prop} (X : (hd.heap_1 w.params).In h) (hl : Looks (model prog w) h (typeLookup (.ref 168) name) none) (I : h.Inst e 168 mA) (hw : Within mA ns) (hsz : ns.length ≤ 100)
    (hq : ∀ h' tk', Stored h h' e name v mA → Q (.done (.ret .none)) ⟨h', g, d, tk', os⟩) :
    wpAny (model prog w) A (Builtin.«object.__setattr__» ⟨[.ref e, .str name tk, v], []⟩) Q E ⟨h, g, d, t, os⟩ := by
  obtain ⟨o, hx, hc, hnc, hd⟩ := I
  have r1 := refuse_exc (prog := prog) X hx hc
  have t1 := type_exc (M := model prog w) hx hc
  obtain ⟨oc, od, cd, sl, hC, e1, e2, e4⟩ := cls_of (C := 168) X (by kernel_rfl)
  have hcd : Looks (model prog w) h (classData 168) cd := (Looks.ld hC).andThen .now
  obtain ⟨cd', hc', hD⟩ := any_some (hd_exc (w := w))
  have hdict : cd.hasDict = true := by
    have := looks_clsIn (M := model prog w) X hc'
    unfold clsIn at hc'
    split at hc'
    · rename_i ho
      cases hc'
      have := X _ _ ho
      rw [hC] at this
      cases this
      exact hD
    · cases hc'
  unfold Builtin.«object.__setattr__»
  dsimp only
  rw [if_neg (by decide)]
  refine wpAny_bind (r1.at ?_)
  refine wpAny_bind (wpAny_pure (wpAny_bind (t1.at (wpAny_bind (hl.at ?_)))))
  refine wpAny_bind (wpAny_pure ?_)
  dsimp only
  unfold storeInOwnDict
  refine wpAny_bind (wpAny_pure ?_)
  rw [if_neg (by decide)]
  have fin : ∀ (dx : Addr) (h₁ : Heap) (mB : Str → Option Value) (tk₁ : Tok), h₁.get? e = some { o with dict := some dx } → dx ≠ e → h₁.Ns1 dx mB → (∀ y, mB y = mA y) →
      (∀ b ob, b ≠ e → (∀ o₀ dx', h.get? e = some o₀ → o₀.dict = some dx' → b ≠ dx') → h.get? b = some ob → h₁.get? b = some ob ∧ b ≠ dx) → (∀ dx', o.dict = some dx' → dx' = dx) → (o.dict = some dx ∨ h.get? dx = none) →
      wpAny (model prog w) A (storeInDict dx (.str name tk) name v) Q E ⟨h₁, g, d, tk₁, os⟩ := by
    intro dx h₁ mB tk₁ hx₁ hne hns hB hk hdx hdn
    unfold storeInDict newKeyGuard
    refine wpAny_bind (wpAny_pure (wpAny_bind (wpAny_nsSet1 hns fun h' hn' hs => ?_)))
    obtain ⟨oD, esD, epD, hoD, hdD, hcD⟩ := hn'.count (Within.cons name v (show Within mB ns from fun y hy => hw y (by rw [← hB y]; exact hy)))
    refine wpAny_bind (wpAny_lookBehind hoD (by rw [hdD]; exact pastItsLine_dict (Nat.le_trans hcD (by rw [List.length_cons, sizeLine_eq]; omega))) ?_)
    have hx' : h'.get? e = some { o with dict := some dx } := (hs.2 e (Ne.symm hne)).trans hx₁
    refine wpAny_pure (hq h' _ ⟨⟨_, hx', hc, hnc, .inr ⟨dx, rfl, hne, ?_⟩⟩, fun b ob h1 h2 h3 => ?_, fun o₀ h₀ => ?_⟩)
    · obtain ⟨o', es, ep, e1, e2, e3, eu, e4⟩ := hn'
      exact ⟨o', es, ep, e1, e2, e3, eu, fun y => by rw [e4 y]; by_cases hy : y = name <;> simp [hy, hB]⟩
    · obtain ⟨k1, k2⟩ := hk b ob h1 h2 h3
      exact (hs.2 b k2).trans k1
    · obtain rfl : o = o₀ := Option.some.inj (hx.symm.trans h₀)
      exact ⟨_, hx', rfl, rfl, rfl, fun dx' q => by rw [hdx dx' q], fun dx' q => by cases q; exact hdn⟩
  refine wpAny_bind ?_
  show wpAny _ _ (instanceDict e true) _ _ _
  unfold instanceDict
  refine wpAny_bind (wpAny_loadPart_at hx ?_)
  rw [hc]
  dsimp only
  refine wpAny_bind (hcd.at ?_)
  rw [hdict, if_neg (by decide)]
  rcases hd with ⟨hdn, hmA⟩ | ⟨dx, hdx, hne, hns⟩
  · rw [hdn]
    dsimp only
    rw [if_neg (by simp [typeHasDict])]
    split
    · rename_i c hcd
      exact absurd hcd (hnc c)
    · have hx₁ : (h.push { cls := .type "dict", data := .dict #[] }).get? e = some o := Heap.get?_push_of_some _ hx
      have hxs : e ≠ h.objs.size := Nat.ne_of_lt (Heap.lt_size hx)
      refine wpAny_bind (wpAny_alloc' ?_)
      refine wpAny_bind (wpAny_update' hx₁ ?_)
      refine wpAny_pure ?_
      have hgd : ((h.push { cls := .type "dict", data := .dict #[] }).update e fun o => { cls := o.cls, dict := some h.objs.size, data := o.data, slots := o.slots }).get? h.objs.size
          = some { cls := .type "dict", data := .dict #[] } :=
        (Heap.get?_update_ne _ _ _ _ hxs.symm).trans (Heap.get?_push_at rfl rfl)
      have hnd : ((h.push { cls := .type "dict", data := .dict #[] }).update e fun o => { cls := o.cls, dict := some h.objs.size, data := o.data, slots := o.slots }).Ns h.objs.size (fun _ => none) :=
        ⟨_, #[], _, hgd, rfl, fun e he => absurd he (by simp), fun _ => rfl⟩
      refine fin h.objs.size _ (fun _ => none) _ (Heap.get?_update_self _ hx₁ ?_) hxs.symm (Heap.Ns1.of_empty hnd) (fun y => (hmA y).symm) (fun b ob h1 _ h3 => ⟨(Heap.get?_update_ne _ _ _ _ h1).trans (Heap.get?_push_of_some _ h3), Nat.ne_of_lt (Heap.lt_size h3)⟩)
        (fun dx' q => by rw [hdn] at q; cases q) (.inr (Heap.get?_none_of_le (Nat.le_refl _)))
      have hfr := (Heap.get?_some_iff.mp hx).2
      obtain ⟨oc, od, odt, osl⟩ := o
      cases odt <;> first | rfl | exact hfr
  · rw [hdx]
    dsimp only
    refine wpAny_pure ?_
    have hoo : ({ o with dict := some dx } : Obj) = o := by
      obtain ⟨oc, od, odt, osl⟩ := o
      cases hdx; rfl
    exact fin dx h mA t (by rw [hoo]; exact hx) hne hns (fun _ => rfl) (fun b ob _ h2 h3 => ⟨h3, h2 o dx hx hdx⟩) (fun dx' q => by rw [hdx] at q; cases q; rfl) (.inl hdx)

theorem exc_set {name : Str} {v : Value} {mA : Str → Option Value} {ns : List Str} {Q : Unit → Shared → Prop} (X : (hd.heap_1 w.params).In h) (hl : Looks (model prog w) h (typeLookup (.ref 168) name) none) (I : h.Inst e 168 mA) (hw : Within mA ns) (hsz : ns.length ≤ 100)
    (hq : ∀ h' tk', Stored h h' e name v mA → Q () ⟨h', g, d, tk', os⟩) :
    wpAny (model prog w) A (setAttr (.ref e) name v) Q E ⟨h, g, d, t, os⟩ := by
  have SF := PySem.F.store_object
  obtain ⟨o, hx, hc, _⟩ := id I
  have t1 := type_exc (M := model prog w) hx hc
  have l1 := look_exc (prog := prog) X
  have b1 := isobj_exc (prog := prog) X hx hc
  refine wpAny_bind (wpAny_mkText (wpAny_bind (wpAny_bind (wpAny_bind (t1.at (l1.at (wpAny_holding ?_)))))))
  rw [SF.slot.bind]
  refine wpAny_bind (wpAny_pure (wpAny_bind (wpAny_call (codeAny_call_builtin SF.slot.plain SF.entry (@check_slot (model prog w) _ _ _ "object.__setattr__" "object" "__setattr__" (.ref e) [.str name t, v] [] _ SF.kind SF.split b1 (SF.args (.ref e) (.str name t) v) ?_)))))
  exact exc_store X hl I hw hsz fun h' tk' S => wpAny_pure (wpAny_pure (hq h' tk' S))
end
section
variable {prog : Program} {w : World} {A : Around} {E : Value → Shared → Prop} {R : Result → Shared → Prop} {h : Heap} {g : Array GenState} {d : Drawn} {t : Nat} {os : OsState} {e : Addr}

theorem exc_init {oe : Obj} {t0 : Addr} {vs : List Value} {v : Value} {Q : Value → Shared → Prop} (X : (hd.heap_1 w.params).In h) (he : h.get? e = some oe) (hc : oe.cls = .ref 168) (hdt : oe.data = .fields (.ref t0 :: vs).toArray)
    (hq : ∀ h', (∀ b o, b ≠ e → h.get? b = some o → h'.get? b = some o) → h'.get? e = some { oe with data := .fields (.ref h.objs.size :: vs).toArray } → h.objs.size ≤ h'.objs.size → Q .none ⟨h', g, d, t, os⟩) :
    wpAny (model prog w) A (call (.builtin "Exception.__init__") [.ref e, v]) Q E ⟨h, g, d, t, os⟩ := by
  have FE := PySem.F.excBase_Exception
  have hshort := FE.noStar
  have isE : Looks (model prog w) h (isInstance (.ref e) (.type "Exception")) true := (type_exc he hc).andThen (Looks.of_peek X (by kernel_rfl))
  refine wpAny_call (codeAny_call_builtin FE.init.plain FE.initEntry ?_)
  simp only [checkBuiltinCall, FE.initKind, FE.initSplit, FE.initRow]
  refine wpAny_bind (isE.at ?_)
  obtain ⟨oc, od, cd, sl, hC, e1, e2, e4⟩ := cls_of (C := 168) X (by kernel_rfl)
  obtain ⟨oc', od', odt, osl⟩ := oe
  dsimp only at hc hdt
  subst hc hdt
  rw [if_neg (by decide)]
  unfold Bind.checkArgs
  repeat (first | with_reducible refine wpAny_loadPart_at he ?_ | with_reducible refine wpAny_loadPart_at hC ?_ | wp_step)
  have hes : e ≠ h.objs.size := Nat.ne_of_lt (Heap.lt_size he)
  refine hq _ (fun b o h1 h2 => (Heap.get?_update_ne _ _ _ _ h1).trans (Heap.get?_push_of_some _ h2)) ?_ (by rw [Heap.size_after_update, Heap.size_push]; exact Nat.le_succ _)
  exact Heap.get?_update_self _ (Heap.get?_push_of_some _ he) rfl
end
theorem Fr.moved {h₀ h h' : Heap} {L : Addr} {m : Str → Option Value} {as : List Addr} (F : Fr h₀ L h m) (hL : L ∉ as) (hf : ∀ a ∈ as, h₀.get? a = none) (K : Kp as h h') : Fr h₀ L h' m := by
  obtain ⟨oL, es, ep, e, r⟩ := F.ns
  refine ⟨⟨oL, es, ep, K L oL e hL, r⟩, fun b o q => K b o (F.keep b o q) fun hm => ?_, F.above⟩
  rw [hf b hm] at q; cases q

section
variable {prog : Program} {w : World} {A : Around} {E : Value → Shared → Prop} {s : Shared} {h₀ : Heap} {L : Addr} {m : Str → Option Value} {e t0 dx : Addr} {name : Str} {v : Value} {od : Obj} {mA : Str → Option Value}

theorem initN {Q : Value → Shared → Prop} (F : Fr h₀ L s.heap m) (X : (hd.heap_1 w.params).In h₀) (N : News h₀ L s.heap [(e, excO none t0)])
    (hq : ∀ h' t', Fr h₀ L h' m → News h₀ L h' [(e, excO none t')] → Kp [e] s.heap h' → Q .none { s with heap := h' }) :
    wpAny (model prog w) A (call (.builtin "Exception.__init__") [.ref e, v]) Q E s := by
  obtain ⟨hp, g, d, t, os⟩ := s
  have n := N _ (.head _)
  refine exc_init (X.keeps F.keep) n.1 rfl rfl fun h' k he _ => hq h' hp.objs.size (Fr.moved (as := [e]) F (by simpa using n.2.1.symm) (by intro a ha; rw [List.mem_singleton.mp ha]; exact n.2.2) (fun b o e1 n1 => k b o (by simpa using n1) e1)) (fun p hp => ?_) (fun b o e1 n1 => k b o (by simpa using n1) e1)
  rw [List.mem_singleton.mp hp]
  exact ⟨he, n.2⟩

theorem setNew {Q : Unit → Shared → Prop} (F : Fr h₀ L s.heap m) (X : (hd.heap_1 w.params).In h₀) (hl : ∀ h, (hd.heap_1 w.params).In h → Looks (model prog w) h (typeLookup (.ref 168) name) none) (N : News h₀ L s.heap [(e, excO none t0)])
    (hq : ∀ h' tk' dx od, Fr h₀ L h' m → News h₀ L h' [(e, excO (some dx) t0), (dx, od)] → h'.Ns1 dx (fun y => if y = name then some v else none) → dx ≠ e → Kp [e] s.heap h' → Q () { s with heap := h', toks := tk' }) :
    wpAny (model prog w) A (setAttr (.ref e) name v) Q E s := by
  obtain ⟨hp, g, d, t, os⟩ := s
  have n := N _ (.head _)
  have X' := X.keeps F.keep
  refine exc_set X' (hl _ X') (mA := fun _ => none) (ns := []) ⟨_, n.1, rfl, (fun c q => by cases q), .inl ⟨rfl, fun _ => rfl⟩⟩ Within.nil (by decide) fun h' tk' S => ?_
  obtain ⟨oe, he, hc, hd, hs, h1, h2⟩ := S.same _ n.1
  obtain ⟨oe', he', hc', hnc, hdd⟩ := S.inst
  rw [he] at he'; cases he'
  have K : Kp [e] hp h' := fun b o e1 n1 => S.keep b o (by simpa using n1) (fun o₀ dx q1 q2 => by rw [n.1] at q1; cases q1; cases q2) e1
  have F' : Fr h₀ L h' m := Fr.moved (as := [e]) F (by simpa using n.2.1.symm) (by intro a ha; rw [List.mem_singleton.mp ha]; exact n.2.2) K
  rcases hdd with ⟨_, q⟩ | ⟨dx, hdx, hne, hns⟩
  · have := q name; simp at this
  · have hno : hp.get? dx = none := (h2 dx hdx).elim (fun q => by cases q) id
    obtain ⟨od, es, ep, hod, r⟩ := id hns
    have hoe : oe = excO (some dx) t0 := by
      obtain ⟨c1, c2, c3, c4⟩ := oe
      dsimp only at hc hd hs hdx
      subst hc hd hs hdx; rfl
    refine hq h' tk' dx od F' (fun p hp' => ?_) hns hne K
    rcases List.mem_cons.mp hp' with rfl | hp'
    · exact ⟨by rw [← hoe]; exact he, n.2⟩
    · rw [List.mem_singleton.mp hp']
      refine ⟨hod, fun q => ?_, ?_⟩
      · obtain ⟨oL, _, _, eL, _⟩ := F.ns
        rw [show dx = L from q, eL] at hno; cases hno
      · cases q : h₀.get? dx with
        | none => rfl
        | some o => have := F.keep _ _ q; rw [hno] at this; cases this

theorem setOld {Q : Unit → Shared → Prop} {ns : List Str} (F : Fr h₀ L s.heap m) (X : (hd.heap_1 w.params).In h₀) (hl : ∀ h, (hd.heap_1 w.params).In h → Looks (model prog w) h (typeLookup (.ref 168) name) none) (N : News h₀ L s.heap [(e, excO (some dx) t0), (dx, od)])
    (hns : s.heap.Ns1 dx mA) (hne : dx ≠ e) (hw : Within mA ns) (hsz : ns.length ≤ 100)
    (hq : ∀ h' tk' od', Fr h₀ L h' m → News h₀ L h' [(e, excO (some dx) t0), (dx, od')] → Kp [e, dx] s.heap h' → Q () { s with heap := h', toks := tk' }) :
    wpAny (model prog w) A (setAttr (.ref e) name v) Q E s := by
  obtain ⟨hp, g, d, t, os⟩ := s
  have n := N _ (.head _)
  have nd := N _ (.tail _ (.head _))
  have X' := X.keeps F.keep
  refine exc_set X' (hl _ X') (mA := mA) (ns := ns) ⟨_, n.1, rfl, (fun c q => by cases q), .inr ⟨dx, rfl, hne, hns⟩⟩ hw hsz fun h' tk' S => ?_
  obtain ⟨oe, he, hc, hd, hs, h1, h2⟩ := S.same _ n.1
  obtain ⟨oe', he', hc', hnc, hdd⟩ := S.inst
  rw [he] at he'; cases he'
  have K : Kp [e, dx] hp h' := fun b o e1 n1 => S.keep b o (fun q => n1 (by simp [q])) (fun o₀ dx' q1 q2 => by rw [n.1] at q1; cases q1; cases q2; exact fun q => n1 (by simp [q])) e1
  have F' : Fr h₀ L h' m := Fr.moved (as := [e, dx]) F (by intro q; rcases List.mem_cons.mp q with q | q; exact n.2.1 q.symm; exact nd.2.1 (List.mem_singleton.mp q).symm) (by
    intro a ha; rcases List.mem_cons.mp ha with rfl | ha; exact n.2.2; rw [List.mem_singleton.mp ha]; exact nd.2.2) K
  have hdx := h1 dx rfl
  rcases hdd with ⟨q, _⟩ | ⟨dx', hdx', hne', hns'⟩
  · rw [hdx] at q; cases q
  · rw [hdx] at hdx'; cases hdx'
    obtain ⟨od', es, ep, hod, r⟩ := id hns'
    have hoe : oe = excO (some dx) t0 := by
      obtain ⟨c1, c2, c3, c4⟩ := oe
      dsimp only at hc hd hs hdx
      subst hc hd hs hdx; rfl
    refine hq h' tk' od' F' (fun p hp' => ?_) K
    rcases List.mem_cons.mp hp' with rfl | hp'
    · exact ⟨by rw [← hoe]; exact he, n.2⟩
    · rw [List.mem_singleton.mp hp']
      exact ⟨hod, nd.2⟩
end
end
section
open Builtin Builtin.ObjectAttr
section
variable {w : World} {A₀ : Around} {E : Value → Shared → Prop} {s : Shared} {base h₀ : Heap} {outer : List Env} {L : Addr} {m : Str → Option Value} {news : List (Addr × Obj)}
  {p : Program} {loose : List Str} {mean : ExcName → Option Value} {mg mb : Str → Option Value} {dp un : Nat} {gd : Option (List Code)} {cn : Str} {cs : Scope} {a : Addr} {ccd : Value} {cl : List (Str × Addr)} {Q : Value → Shared → Prop}
  {e t0 : Addr} {msg : Str} {mt pt : Tok} {pl : Int}

theorem excMeth : findCls (hd.heap_1 w.params) (.type "Exception") (.type "type") "__init__" = some (.val (.builtin "Exception.__init__")) := by kernel_rfl
theorem excMeta : typeOf (.type "Exception") = pure (.type "type") := by kernel_rfl
theorem excStub : Manifest.isStub "Exception" = false := by decide +kernel

theorem init147 (B : Below A₀ base outer h₀) (F : Fr h₀ L s.heap m) (X : (hd.heap_1 w.params).In h₀) (T : Top p loose mean mg mb h₀) (hk : cs.kind = .function) (hdp : dp + 2 < recursionLimit)
  (N : News h₀ L s.heap [(e, excO none t0)])
  (ret : ∀ h' tk' dx t' od, Fr h₀ L h' m → News h₀ L h' [(e, excO (some dx) t'), (dx, od)] → dx ≠ e → h'.Ns1 dx (fun y => if y = "message" then some (.str msg mt) else none) → Kp [e] s.heap h' → Q .none { s with heap := h', toks := tk' }) :
  wpAny (model PySem.Challenge.rw_xw0208_01.row.prog w) (ktrTop dp un gd cn cs L a ccd cl outer) (call (.ref 144) [.ref e, .str msg mt]) Q E s := by
  revert X; k_fill; intro X
  k_dflt (refine' enter B F X N T hk ?k6 ?k7 ?k8 ?k9 ?kB ?_ ?c5 ?c2 ?c3 ?c4; (case k6 => k_is); (case k7 => k_is); (case k8 => ktr_room); (case k9 => exact BindsTo.of_eq rfl); (case c5 => decide); (case kB => exact locs rfl); (case c2 => exact rfl); (case c3 => exact rfl); (case c4 => exact rfl); k_whole; intro g' L' h' F' N' B' X' T' K' S' l'; (try dsimp only); (try k_fold))
  k_steps
  refine method_type F' X' excMeta excStub excMeth (by k_handed) ?_
  k_steps
  refine initN F' X' N' fun h1 t1 F1 N1 K1 => ?_
  k_steps
  refine setNew F1 X' (fun h Y => lookM_exc Y) N1 fun h2 tk2 dx od F2 N2 S2 ne2 K2 => ?_
  k_steps
  all_goals (repeat' (first | k_unfold | dsimp only))
  obtain ⟨F8, N8, K8⟩ := back F N K' F2 N2
  exact ret _ _ _ _ _ F8 N8 ne2 S2 K8
end
end
section
open Builtin Builtin.ObjectAttr
section
variable {w : World} {A₀ : Around} {E : Value → Shared → Prop} {s : Shared} {base h₀ : Heap} {outer : List Env} {L : Addr} {m : Str → Option Value} {news : List (Addr × Obj)}
  {p : Program} {loose : List Str} {mean : ExcName → Option Value} {mg mb : Str → Option Value} {dp un : Nat} {gd : Option (List Code)} {cn : Str} {cs : Scope} {a : Addr} {ccd : Value} {cl : List (Str × Addr)} {Q : Value → Shared → Prop}
  {e t0 : Addr} {msg : Str} {mt pt : Tok} {pl : Int}

theorem init165 (B : Below A₀ base outer h₀) (F : Fr h₀ L s.heap m) (X : (hd.heap_1 w.params).In h₀) (T : Top p loose mean mg mb h₀) (hk : cs.kind = .function) (hdp : dp + 4 < recursionLimit)
  (N : News h₀ L s.heap [(e, excO none t0)])
  (ret : ∀ h' tk' dx t', Fr h₀ L h' m → News h₀ L h' [(e, excO (some dx) t')] → Kp [e] s.heap h' → Q .none { s with heap := h', toks := tk' }) :
  wpAny (model PySem.Challenge.rw_xw0208_01.row.prog w) (ktrTop dp un gd cn cs L a ccd cl outer) (call (.ref 165) [.ref e, .str msg mt, .int pl pt]) Q E s := by
  revert X; k_fill; intro X
  k_dflt (refine' enter B F X N T hk ?k6 ?k7 ?k8 ?k9 ?kB ?_ ?c5 ?c2 ?c3 ?c4; (case k6 => k_is); (case k7 => k_is); (case k8 => ktr_room); (case k9 => first | exact BindsTo.of_eq rfl | exact binds_K (by k_in) rfl (by k_is) rfl rfl rfl); (case c5 => decide); (case kB => exact locs rfl); (case c2 => exact rfl); (case c3 => exact rfl); (case c4 => exact rfl); k_whole; intro g' L' h' F' N' B' X' T' K' S' l'; (try dsimp only); (try k_fold))
  (repeat' (first | ((with_reducible show wpAny _ _ (call (Value.ref 144) [Value.ref _, Value.str _ _]) _ _ _); k_dflt (refine' init147 (by k_asm) (by k_asm) (by k_asm) (by k_asm) rfl (by ktr_room) (by k_asm) ?_; k_whole; intro zh1 ztk1 zdx1 zt1 zod1 zF1 zN1 zne1 zS1 zK1; (try dsimp only))) | (k_unfold; (try dsimp only)) | (k_end; wrow_close) | walk1 | (dsimp only; walk1) | (leave1; try dsimp only)))
  (with_reducible rename Fr g' L' _ _ => F1); (with_reducible rename News g' L' _ _ => N1); (with_reducible rename _ ≠ e => ne1); (with_reducible rename Heap.Ns1 _ _ _ => S1)
  refine setOld (ns := ["message"]) F1 X' (fun h Y => lookP_exc Y) N1 S1 ne1 (Within.cons "message" _ Within.nil) (by decide) fun h2 tk2 od2 F2 N2 K2 => ?_
  (repeat' (first | ((with_reducible show wpAny _ _ (call (Value.ref 144) [Value.ref _, Value.str _ _]) _ _ _); k_dflt (refine' init147 (by k_asm) (by k_asm) (by k_asm) (by k_asm) rfl (by ktr_room) (by k_asm) ?_; k_whole; intro zh1 ztk1 zdx1 zt1 zod1 zF1 zN1 zne1 zS1 zK1; (try dsimp only))) | (k_unfold; (try dsimp only)) | (k_end; wrow_close) | walk1 | (dsimp only; walk1) | (leave1; try dsimp only)))
  all_goals (repeat' (first | k_unfold | dsimp only))
  obtain ⟨F8, N8, K8⟩ := back F N K' F2 N2
  exact ret _ _ _ _ F8 (fun p hp => N8 p (by rw [List.mem_singleton.mp hp]; exact .head _)) K8
end
section
variable {w : World} {A₀ : Around} {E : Value → Shared → Prop} {s : Shared} {base h₀ : Heap} {outer : List Env} {L : Addr} {m : Str → Option Value} {news : List (Addr × Obj)}
  {p : Program} {loose : List Str} {mean : ExcName → Option Value} {mg mb : Str → Option Value} {dp un : Nat} {gd : Option (List Code)} {cn : Str} {cs : Scope} {a : Addr} {ccd : Value} {cl : List (Str × Addr)} {Q : Value → Shared → Prop}
  {e t0 : Addr} {msg : Str} {mt pt : Tok} {pl : Int}

theorem under168 (vals : List Value) : (ktrTop dp un gd cn cs L a ccd cl outer).under (.builtin "type.__call__" ⟨.ref 168 :: vals, []⟩) = ktrTop (dp + 1) (un + 1) gd cn cs L a ccd cl outer := by
  unfold ktrTop Around.under
  rfl

theorem make168 (B : Below A₀ base outer h₀) (F : Fr h₀ L s.heap m) (X : (hd.heap_1 w.params).In h₀) (T : Top p loose mean mg mb h₀) (hk : cs.kind = .function) (hdp : dp + 6 < recursionLimit)
  (N : News h₀ L s.heap news)
  (ret : ∀ h' tk' e dx t', Fr h₀ L h' m → News h₀ L h' ((e, excO (some dx) t') :: news) → s.heap.get? e = none → (∀ b o, s.heap.get? b = some o → h'.get? b = some o) → Q (.ref e) { s with heap := h', toks := tk' }) :
  wpAny (model PySem.Challenge.rw_xw0208_01.row.prog w) (ktrTop dp un gd cn cs L a ccd cl outer) (call (.ref 168) [.str msg mt, .int pl pt]) Q E s := by
  have hdp' : dp + 5 < recursionLimit := by omega
  obtain ⟨h, g, d, t, os⟩ := s
  refine exc_call (X.keeps F.keep) (by show 2 ≤ sizeLine; rw [sizeLine_eq]; omega) ?_
  rw [under168]
  have F1 := (F.push { cls := .type "tuple", data := .seq [Value.str msg mt, .int pl pt].toArray }).push (excO none h.objs.size)
  have N1 := (News.push F (News.nil (h₀ := h₀) (L := L) (h := h)) { cls := .type "tuple", data := .seq [Value.str msg mt, .int pl pt].toArray }).push (F.push _) (excO none h.objs.size)
  rw [Heap.size_push] at N1
  have N2 : News h₀ L _ [(h.objs.size + 1, excO none h.objs.size)] := fun p hp => N1 p (by rw [List.mem_singleton.mp hp]; exact .head _)
  refine init165 (s := ⟨_, g, d, t, os⟩) B F1 X T hk hdp' N2 fun h' tk' dx t' F' N' K' => ⟨rfl, ?_⟩
  have kp : ∀ b o, h.get? b = some o → h'.get? b = some o := fun b o e => K' b o (Heap.get?_push_of_some _ (Heap.get?_push_of_some _ e)) (by
    have := Heap.lt_size e
    intro q; rw [List.mem_singleton.mp q] at this; exact Nat.lt_irrefl _ (Nat.lt_of_succ_lt this))
  refine ret h' tk' _ dx t' F' (fun p hp => ?_) (Heap.get?_none_of_le (Nat.le_succ _)) kp
  rcases List.mem_cons.mp hp with rfl | hp
  · exact N' _ (.head _)
  · exact ⟨kp _ _ (N p hp).1, (N p hp).2⟩
end
/-- an exception of ours flies; G stands but for the frames' slots -/
def Raised (G : Heap) (l : List Env) (e : Addr) (h : Heap) : Prop :=
  (∃ B a0, (∀ b o, G.get? b = some o → b ∉ l.filterMap (·.frame) → B.get? b = some o) ∧ Heap.FlyingW B l e (.ref 168) a0 h) ∧ G.UpToSlots h

theorem Raised.mono {G G' : Heap} {l : List Env} {e : Addr} {h : Heap} (R : Raised G l e h) (k : ∀ b o, G'.get? b = some o → G.get? b = some o) : Raised G' l e h := by
  obtain ⟨⟨B, a0, hB, hf⟩, hu⟩ := R
  exact ⟨⟨B, a0, fun b o q n => hB b o (k b o q) n, hf⟩, fun b o q n => hu b o (k b o q) n⟩

section
variable {M : Model} {A : Around} {E : Value → Shared → Prop} {s : Shared} {h base G : Heap} {env : Env} {outer : List Env} {L e : Addr} {Q : Unit → Shared → Prop}

theorem frame_mem {b : Addr} (hf : env.frame = some L) (hm : b ∈ (env :: outer).filterMap (·.frame)) : b = L ∨ b ∈ outer.filterMap (·.frame) := by
  rw [List.filterMap_cons, hf] at hm
  exact (List.mem_cons.mp hm)

theorem leave_first {d : Option Addr} {t0 : Addr} (hfr : A.frames = some (env :: outer)) (hf : env.frame = some L) (hl : h.FunFrames base (env :: outer)) (he : s.heap.get? e = some (excO d t0)) (hn : h.get? e = none)
    (hk : ∀ b o, h.get? b = some o → s.heap.get? b = some o) (hG : ∀ b o, G.get? b = some o → h.get? b = some o ∧ b ≠ L)
    (hQ : ∀ h', Raised G outer e h' → Q () { s with heap := h' }) : wpAny M A (leaving env (.ref e)) Q E s := by
  have hin : ∀ env' ∈ (env :: outer), ∀ b, env'.frame = some b → b ∈ (env :: outer).filterMap (·.frame) := fun env' he b hb => List.mem_filterMap.mpr ⟨env', he, hb⟩
  have hl' : h.FunFrames (hideAll h ((env :: outer).filterMap (·.frame))) (env :: outer) := funFrames_hide hl hin
  have hen : (hideAll h ((env :: outer).filterMap (·.frame))).get? e = none := by
    cases q : (hideAll h ((env :: outer).filterMap (·.frame))).get? e with
    | none => rfl
    | some o => have := of_hideAll _ q; rw [hn] at this; cases this
  refine wpAny_leaving_firstW (base := hideAll h ((env :: outer).filterMap (·.frame))) (a0 := .ref t0) hfr (hl'.of_keeps fun b o hb _ => ⟨o, hk b o hb, rfl⟩) hf he (fun b o q => hk b o (of_hideAll _ q)) hen rfl rfl rfl fun h' hL => ?_
  obtain ⟨k1, ⟨_, _, k2⟩, k3, k4⟩ := hL
  refine hQ h' ⟨⟨_, _, fun b o q n => hideAll_get _ (hG b o q).1 fun hm => ?_, k1, hen, k2, k3⟩, fun b o q n => k4 b o (hk b o (hG b o q).1) n⟩
  rcases frame_mem hf hm with z | z
  · exact (hG b o q).2 z
  · exact n z

theorem leave_next {G₂ : Heap} (hfr : A.frames = some (env :: outer)) (hf : env.frame = some L) (R : Raised G₂ (env :: outer) e s.heap) (hG : ∀ b o, G.get? b = some o → G₂.get? b = some o ∧ b ≠ L)
    (hQ : ∀ h', Raised G outer e h' → Q () { s with heap := h' }) : wpAny M A (leaving env (.ref e)) Q E s := by
  obtain ⟨⟨B, a0, hB, hfl⟩, hu⟩ := R
  refine wpAny_leaves_onW hfr hf hfl fun h' x1 x2 => hQ h' ⟨⟨B, a0, fun b o q n => hB b o (hG b o q).1 fun hm => ?_, x1⟩, fun b o q n => ?_⟩
  · rcases frame_mem hf hm with z | z
    · exact (hG b o q).2 z
    · exact n z
  · obtain ⟨sl, h1⟩ := hu b o (hG b o q).1 n
    obtain ⟨sl2, h2⟩ := x2 b _ h1 n
    exact ⟨sl2, h2⟩
end

section
variable {prog : Program} {w : World} {A : Around} {E : Value → Shared → Prop} {s : Shared} {env : Env} {Q : Flow → Shared → Prop}
theorem typ168 {h : Heap} (X : (hd.heap_1 w.params).In h) : ∃ o, h.get? 168 = some o ∧ o.cls = .type "type" := by
  have e : ((hd.heap_1 w.params).lookup 168).map (·.cls) = some (.type "type") := by kernel_rfl
  obtain ⟨o, ho, hc⟩ := Option.map_eq_some_iff.mp e
  exact ⟨o, X _ _ ho, hc⟩
theorem raise_own {x : Sem Value} (hh : A.handled = none)
    (h : wpAny (model prog w) A x (fun v s₁ => ∃ e d t, v = .ref e ∧ (hd.heap_1 w.params).In s₁.heap ∧ s₁.heap.get? e = some (excO d t) ∧ E (.ref e) s₁) E s) :
    wpAny (model prog w) A (raiseStmt env (some x) none) Q E s := by
  unfold raiseStmt
  refine wpAny_bind (wpAny_mono h (fun v s₁ h₁ => ?_) fun _ _ x => x)
  obtain ⟨e, d, t, rfl, X, he, hE⟩ := h₁
  obtain ⟨hp, g, dr, tk, os⟩ := s₁
  have b1 : Looks (model prog w) hp (isSubtype (.ref 168) (.type "BaseException")) true := Looks.of_peek X (by kernel_rfl)
  replace he : hp.get? e = some (excO d t) := he
  obtain ⟨oC, hC, hCt⟩ := typ168 X
  replace hC : hp.get? 168 = some oC := hC
  repeat (first | with_reducible refine wpAny_loadPart_at he ?_ | (with_reducible refine wpAny_loadPart_at hC ?_; rw [hCt]) | with_reducible refine b1.at ?_ | wp_step)
  exact wpAny_raiseNew_none hh hE
end
end
abbrev scanD (h1 h2 h3 h4 : Int) (k1 k2 k3 k4 : Tok) (t : Str) (tt : Tok) (b : Int) (bt : Tok) (i : Int) (it : Tok) : List DictEntry :=
  [⟨h1, .str "text" k1, .str t tt⟩, ⟨h2, .str "begin" k2, .int b bt⟩, ⟨h3, .str "is_whole" k3, .bool true⟩, ⟨h4, .str "at" k4, .int i it⟩]

section
variable {w : World} {A₀ : Around} {E : Value → Shared → Prop} {s : Shared} {base h₀ : Heap} {outer : List Env} {L : Addr} {m : Str → Option Value} {news : List (Addr × Obj)}
  {p : Program} {loose : List Str} {mean : ExcName → Option Value} {mg mb : Str → Option Value} {dp un : Nat} {gd : Option (List Code)} {cn : Str} {cs : Scope} {a : Addr} {ccd : Value} {cl : List (Str × Addr)} {Q : Value → Shared → Prop}
  {x dx : Addr} {h1 h2 h3 h4 : Int} {k1 k2 k3 k4 tt bt it wt mt : Tok} {t word msg : Str} {b i : Int} {n c : Nat} {gf : Obj → List (Addr × Obj)}

theorem fresh_of {h g : Heap} {n0 : List (Addr × Obj)} {e : Addr} (K : Kp (n0.map (·.1)) h g) (hg : g.get? e = none) (hn : e ∉ n0.map (·.1)) : h.get? e = none := by
  cases q : h.get? e with
  | none => rfl
  | some o => have := K e o q hn; rw [hg] at this; cases this

theorem takes_spec (B : Below A₀ base outer h₀) (F : Fr h₀ L s.heap m) (X : (hd.heap_1 w.params).In h₀) (N : News h₀ L s.heap news) (T : Top p loose mean mg mb h₀) (hk : cs.kind = .function) (hdp : dp + 2 < recursionLimit)
  (hx : (x, instObj 293 dx) ∈ news) (U : UpdF dx (dictOf (scanD h1 h2 h3 h4 k1 k2 k3 k4 t tt b bt i it) 4) news gf) (hne : x ≠ dx) (hwz : word.length ≤ 1000)
  (retT : Txt.startswith3 t word i = true → ∀ h' tk' it', Fr h₀ L h' m → News h₀ L h' (gf (dictOf (scanD h1 h2 h3 h4 k1 k2 k3 k4 t tt b bt (i + word.length) it') 4)) → (∀ b o, s.heap.get? b = some o → b ≠ dx → h'.get? b = some o) → Q (.bool true) { s with heap := h', toks := tk' })
  (retF : Txt.startswith3 t word i = false → ∀ h' tk', Fr h₀ L h' m → News h₀ L h' news → (∀ b o, s.heap.get? b = some o → h'.get? b = some o) → Q (.bool false) { s with heap := h', toks := tk' }) :
  wpAny (model PySem.Challenge.rw_xw0208_01.row.prog w) (ktrTop dp un gd cn cs L a ccd cl outer) (call (.ref 227) [.ref x, .str word wt]) Q E s := by
  revert X; k_fill; intro X
  have N₀ : News h₀ L s.heap [(x, instObj 293 dx), (dx, dictOf (scanD h1 h2 h3 h4 k1 k2 k3 k4 t tt b bt i it) 4)] := cb_drop N (List.forall_mem_cons.mpr ⟨hx, List.forall_mem_cons.mpr ⟨UpdF.mem U, List.forall_mem_nil _⟩⟩)
  k_dflt (refine' enter B F X N₀ T hk ?k6 ?k7 ?k8 ?k9 ?kB ?_ ?c5 ?c2 ?c3 ?c4; (case k6 => k_is); (case k7 => k_is); (case k8 => ktr_room); (case k9 => exact BindsTo.of_eq rfl); (case c5 => decide); (case kB => exact locs rfl); (case c2 => exact rfl); (case c3 => exact rfl); (case c4 => exact rfl); k_whole; intro g' L' h' F' N' B' X' T' K' S' l'; (try dsimp only); (try k_fold))
  (repeat' (first | ((with_reducible show wpAny _ _ (call (Value.ref 168) [Value.str _ _, Value.int _ _]) _ _ _); k_dflt (refine' make168 (by k_asm) (by k_asm) (by k_asm) (by k_asm) rfl (by ktr_room) (by k_asm) ?_; k_whole; intro zh1 ztk1 ze1 zdx1 zt1 zF1 zN1 zfe1 zK1; (try dsimp only))) | ((with_reducible show wpAny _ _ (call (Value.ref 144) [Value.ref _, Value.str _ _]) _ _ _); k_dflt (refine' init147 (by k_asm) (by k_asm) (by k_asm) (by k_asm) rfl (by ktr_room) (by k_asm) ?_; k_whole; intro zh1 ztk1 zdx1 zt1 zod1 zF1 zN1 zne1 zS1 zK1; (try dsimp only))) | (k_unfold; (try dsimp only)) | (k_end; wrow_close) | walk1 | (dsimp only; walk1) | (leave1; try dsimp only)))
  all_goals (repeat' (first | k_unfold | dsimp only))
  all_goals ((with_reducible rename Fr g' L' _ _ => F9); (with_reducible rename News g' L' _ _ => N9))
  all_goals (obtain ⟨F8, N8, K8⟩ := back F N₀ K' F9 N9)
  · have K7 := keepBut (d := dx) N₀ N8 K8 (by tb_rel)
    exact retT (by assumption) _ _ _ F8 (News.upd1 N U K7 (N8 (dx, _) (by k_mem)).1) K7
  · have K7 := keepAll N₀ N8 K8 (by tb_rel)
    exact retF (by assumption) _ _ F8 (News.same N K7) K7

theorem takes1 (B : Below A₀ base outer h₀) (F : Fr h₀ L s.heap m) (X : (hd.heap_1 w.params).In h₀) (N : News h₀ L s.heap news) (T : Top p loose mean mg mb h₀) (hk : cs.kind = .function) (hdp : dp + 2 < recursionLimit)
  (hx : (x, instObj 293 dx) ∈ news) (U : UpdF dx (dictOf (scanD h1 h2 h3 h4 k1 k2 k3 k4 t tt b bt (n : Int) it) 4) news gf) (hne : x ≠ dx) (hw : word.cps = #[c])
  (retT : (sg t)[n]? = some c → ∀ h' tk' it', Fr h₀ L h' m → News h₀ L h' (gf (dictOf (scanD h1 h2 h3 h4 k1 k2 k3 k4 t tt b bt ((n + 1 : Nat) : Int) it') 4)) → (∀ b o, s.heap.get? b = some o → b ≠ dx → h'.get? b = some o) → Q (.bool true) { s with heap := h', toks := tk' })
  (retF : (sg t)[n]? ≠ some c → ∀ h' tk', Fr h₀ L h' m → News h₀ L h' news → (∀ b o, s.heap.get? b = some o → h'.get? b = some o) → Q (.bool false) { s with heap := h', toks := tk' }) :
  wpAny (model PySem.Challenge.rw_xw0208_01.row.prog w) (ktrTop dp un gd cn cs L a ccd cl outer) (call (.ref 227) [.ref x, .str word wt]) Q E s := by
  have hl : word.length = 1 := by unfold Str.length; rw [hw]; rfl
  refine takes_spec B F X N T hk hdp hx U hne (by omega) (fun q h' tk' it' F' N' K' => ?_) (fun q h' tk' F' N' K' => ?_)
  · rw [sw1 n hw] at q
    rw [hl] at N'
    exact retT (of_decide_eq_true q) _ _ _ F' N' K'
  · rw [sw1 n hw] at q
    exact retF (of_decide_eq_false q) _ _ F' N' K'

theorem fault_spec (B : Below A₀ base outer h₀) (F : Fr h₀ L s.heap m) (X : (hd.heap_1 w.params).In h₀) (N : News h₀ L s.heap news) (T : Top p loose mean mg mb h₀) (hk : cs.kind = .function) (hdp : dp + 10 < recursionLimit)
  (hx : (x, instObj 293 dx) ∈ news) (hdx : (dx, dictOf (scanD h1 h2 h3 h4 k1 k2 k3 k4 t tt b bt i it) 4) ∈ news)
  (ret : ∀ h' tk' e d t0, Fr h₀ L h' m → News h₀ L h' ((e, excO d t0) :: news) → s.heap.get? e = none → (∀ b o, s.heap.get? b = some o → h'.get? b = some o) → Q (.ref e) { s with heap := h', toks := tk' }) :
  wpAny (model PySem.Challenge.rw_xw0208_01.row.prog w) (ktrTop dp un gd cn cs L a ccd cl outer) (call (.ref 206) [.ref x, .str msg mt]) Q E s := by
  revert X; k_fill; intro X
  have N₀ : News h₀ L s.heap [(x, instObj 293 dx), (dx, dictOf (scanD h1 h2 h3 h4 k1 k2 k3 k4 t tt b bt i it) 4)] := cb_drop N (List.forall_mem_cons.mpr ⟨hx, List.forall_mem_cons.mpr ⟨hdx, List.forall_mem_nil _⟩⟩)
  k_dflt (refine' enter B F X N₀ T hk ?k6 ?k7 ?k8 ?k9 ?kB ?_ ?c5 ?c2 ?c3 ?c4; (case k6 => k_is); (case k7 => k_is); (case k8 => ktr_room); (case k9 => first | exact BindsTo.of_eq rfl | exact binds_K (by k_in) rfl (by k_is) rfl rfl rfl); (case c5 => decide); (case kB => exact locs rfl); (case c2 => exact rfl); (case c3 => exact rfl); (case c4 => exact rfl); k_whole; intro g' L' h' F' N' B' X' T' K' S' l'; (try dsimp only); (try k_fold))
  (repeat' (first | ((with_reducible show wpAny _ _ (call (Value.ref 168) [Value.str _ _, Value.int _ _]) _ _ _); k_dflt (refine' make168 (by k_asm) (by k_asm) (by k_asm) (by k_asm) rfl (by ktr_room) (by k_asm) ?_; k_whole; intro zh1 ztk1 ze1 zdx1 zt1 zF1 zN1 zfe1 zK1; (try dsimp only))) | ((with_reducible show wpAny _ _ (call (Value.ref 144) [Value.ref _, Value.str _ _]) _ _ _); k_dflt (refine' init147 (by k_asm) (by k_asm) (by k_asm) (by k_asm) rfl (by ktr_room) (by k_asm) ?_; k_whole; intro zh1 ztk1 zdx1 zt1 zod1 zF1 zN1 zne1 zS1 zK1; (try dsimp only))) | (k_unfold; (try dsimp only)) | (k_end; wrow_close) | walk1 | (dsimp only; walk1) | (leave1; try dsimp only)))
  all_goals (repeat' (first | k_unfold | dsimp only))
  (with_reducible rename Fr g' L' _ _ => F9); (with_reducible rename News g' L' _ _ => N9)
  obtain ⟨F8, N8, K8⟩ := back F N₀ K' F9 N9
  have K7 := keepAll N₀ N8 K8 (by tb_rel)
  have ke := (N8 _ (.head _)).1
  refine ret _ _ _ _ _ F8 (List.forall_mem_cons.mpr ⟨N8 _ (.head _), News.same N K7⟩) ?_ K7
  exact fresh_of K' (N9 _ (.head _)).2.2 (by
    intro q
    rcases List.mem_cons.mp q with q | q
    · have := (N8 (x, _) (by k_mem)).1; rw [q] at ke; rw [ke] at this; cases this
    · have := (N8 (dx, _) (by k_mem)).1; rw [List.mem_singleton.mp q] at ke; rw [ke] at this; cases this)
end
section
variable {prog : Program} {w : World} {A : Around} {E : Value → Shared → Prop} {s : Shared} {env : Env} {Q : Flow → Shared → Prop}
theorem raiseX {x : Expr} {pos : Pos} (hh : A.handled = none)
    (h : wpAny (model prog w) A (eval x env) (fun v s₁ => ∃ e d t, v = .ref e ∧ (hd.heap_1 w.params).In s₁.heap ∧ s₁.heap.get? e = some (excO d t) ∧ E (.ref e) s₁) E s) :
    wpAny (model prog w) A (exec (.Raise (some x) none pos) env) Q E s := by
  rw [arm_exec_Raise]
  exact wpAny_bind (wpAny_standAt (raise_own hh (wpAny_bind (wpAny_mono h (fun v s1 hv => wpAny_bind (wpAny_standAt (wpAny_pure hv))) fun _ _ x => x))))
end
local macro_rules | `(tactic| walk_at "exec Raise some none") => `(tactic| (k_here; k_dflt (refine' raiseX rfl ?_); (try dsimp only)))
local macro_rules | `(tactic| walk_at "Exists") => `(tactic| (k_here; (refine' ⟨_, _, _, rfl, ?X, ?N, ?_⟩); (case X => k_in); (case N => exact (News.get (by k_asm) (by k_mem)))))
section
variable {M : Model} {A A' : Around} {E : Value → Shared → Prop} {s : Shared} {h h₀ h2 base g hA : Heap} {env : Env} {outer : List Env} {L L₀ e t : Addr} {d : Option Addr} {m m₀ mA : Str → Option Value} {n0 nA n2 : List (Addr × Obj)} {mods mods2 : List Addr} {Q : Unit → Shared → Prop}
theorem hide_in {as : List Addr} {a : Addr} {o : Obj} (q : (hideAll h as).get? a = some o) : h.get? a = some o ∧ a ∉ as := ⟨of_hideAll _ q, fun m => by rw [hideAll_none _ m] at q; cases q⟩

theorem in_ledger (N₀ : News h₀ L₀ h n0) (K : Kp (n0.map (·.1)) h g) (FA : Fr g L hA mA) (NA : News g L hA nA) (same : ∀ p ∈ n0, p.1 ∉ mods → p ∈ nA) : ∀ b o, (hideAll h mods).get? b = some o → hA.get? b = some o := fun b o q => by
  obtain ⟨q, nm⟩ := hide_in q
  by_cases hb : b ∈ n0.map (·.1)
  · obtain ⟨p, hp, rfl⟩ := List.mem_map.mp hb
    have := (N₀ p hp).1
    rw [q] at this; cases this
    exact (NA p (same p hp nm)).1
  · exact FA.keep b o (K b o q hb)

theorem raise_out (N₀ : News h₀ L₀ h n0) (K : Kp (n0.map (·.1)) h g) (S : h.objs.size ≤ L) (B : Below A base outer g) (FA : Fr g L hA mA) (NA : News g L hA nA) (same : ∀ p ∈ n0, p.1 ∉ mods → p ∈ nA)
    (fe : hA.get? e = none) (KA : ∀ b o, hA.get? b = some o → s.heap.get? b = some o) (he : s.heap.get? e = some (excO d t)) (hfr : A'.frames = some (env :: outer)) (hf : env.frame = some L) (hke : env.scope.kind = .function)
    (hQ : ∀ h', Raised (hideAll h mods) outer e h' → Q () { s with heap := h' }) : wpAny M A' (leaving env (.ref e)) Q E s :=
  leave_first hfr hf (pushX B FA hf hke).frames he fe KA (fun b o q => ⟨in_ledger N₀ K FA NA same b o q, Nat.ne_of_lt (Nat.lt_of_lt_of_le (Heap.lt_size (hide_in q).1) S)⟩) hQ

theorem raise_thru (N₀ : News h₀ L₀ h n0) (K : Kp (n0.map (·.1)) h g) (S : h.objs.size ≤ L) (F2 : Fr g L h2 mA) (N2 : News g L h2 n2) (same : ∀ p ∈ n0, p.1 ∉ mods → p ∈ n2) (hm : ∀ a ∈ mods2, a ∈ mods ∨ h.get? a = none)
    (R : Raised (hideAll h2 mods2) (env :: outer) e s.heap) (hfr : A'.frames = some (env :: outer)) (hf : env.frame = some L)
    (hQ : ∀ h', Raised (hideAll h mods) outer e h' → Q () { s with heap := h' }) : wpAny M A' (leaving env (.ref e)) Q E s :=
  leave_next hfr hf R (fun b o q => ⟨hideAll_get _ (in_ledger N₀ K F2 N2 same b o q) (fun hb => (hm b hb).elim (hide_in q).2 (fun z => by rw [(hide_in q).1] at z; cases z)), Nat.ne_of_lt (Nat.lt_of_lt_of_le (Heap.lt_size (hide_in q).1) S)⟩) hQ
end
section
variable {w : World} {A₀ : Around} {E : Value → Shared → Prop} {s : Shared} {base h₀ : Heap} {outer : List Env} {L : Addr} {m : Str → Option Value} {news : List (Addr × Obj)}
  {p : Program} {loose : List Str} {mean : ExcName → Option Value} {mg mb : Str → Option Value} {dp un : Nat} {gd : Option (List Code)} {cn : Str} {cs : Scope} {a : Addr} {ccd : Value} {cl : List (Str × Addr)} {Q : Value → Shared → Prop}
  {x dx : Addr} {h1 h2 h3 h4 : Int} {k1 k2 k3 k4 tt bt it wt mt : Tok} {t word msg : Str} {b i : Int} {n c : Nat} {gf : Obj → List (Addr × Obj)}

theorem expect1 (B : Below A₀ base outer h₀) (F : Fr h₀ L s.heap m) (X : (hd.heap_1 w.params).In h₀) (N : News h₀ L s.heap news) (T : Top p loose mean mg mb h₀) (hk : cs.kind = .function) (hdp : dp + 12 < recursionLimit)
  (hx : (x, instObj 293 dx) ∈ news) (U : UpdF dx (dictOf (scanD h1 h2 h3 h4 k1 k2 k3 k4 t tt b bt (n : Int) it) 4) news gf) (hne : x ≠ dx) (hw : word.cps = #[c])
  (retT : (sg t)[n]? = some c → ∀ h' tk' it', Fr h₀ L h' m → News h₀ L h' (gf (dictOf (scanD h1 h2 h3 h4 k1 k2 k3 k4 t tt b bt ((n + 1 : Nat) : Int) it') 4)) → (∀ b o, s.heap.get? b = some o → b ≠ dx → h'.get? b = some o) → Q .none { s with heap := h', toks := tk' })
  (exc : (sg t)[n]? ≠ some c → ∀ h' tk' e, Raised s.heap (envX cn cs L a ccd cl :: outer) e h' → E (.ref e) { s with heap := h', toks := tk' }) :
  wpAny (model PySem.Challenge.rw_xw0208_01.row.prog w) (ktrTop dp un gd cn cs L a ccd cl outer) (call (.ref 234) [.ref x, .str word wt]) Q E s := by
  revert X; k_fill; intro X
  have N₀ : News h₀ L s.heap [(x, instObj 293 dx), (dx, dictOf (scanD h1 h2 h3 h4 k1 k2 k3 k4 t tt b bt (n : Int) it) 4)] := cb_drop N (List.forall_mem_cons.mpr ⟨hx, List.forall_mem_cons.mpr ⟨UpdF.mem U, List.forall_mem_nil _⟩⟩)
  have hl : word.length = 1 := by unfold Str.length; rw [hw]; rfl
  have hwl : word.length ≤ 1000 := by omega
  k_dflt (refine' enter B F X N₀ T hk ?k6 ?k7 ?k8 ?k9 ?kB ?_ ?c5 ?c2 ?c3 ?c4; (case k6 => k_is); (case k7 => k_is); (case k8 => ktr_room); (case k9 => exact BindsTo.of_eq rfl); (case c5 => decide); (case kB => exact locs rfl); (case c2 => exact rfl); (case c3 => exact rfl); (case c4 => exact rfl); k_whole; intro g' L' h' F' N' B' X' T' K' S' l'; (try dsimp only); (try k_fold))
  (repeat' (first | ((with_reducible show wpAny _ _ (call (Value.ref 206) [Value.ref _, Value.str _ _]) _ _ _); k_dflt (refine' fault_spec (by k_asm) (by k_asm) (by k_asm) (by k_asm) (by k_asm) rfl (by ktr_room) (by k_mem) (by k_mem) ?_; k_whole; intro zh1 ztk1 ze1 zd1 zt1 zF1 zN1 zfe1 zK1; (try dsimp only))) | ((with_reducible show wpAny _ _ (call (Value.ref 227) [Value.ref _, Value.str _ _]) _ _ _); k_dflt (refine' takes1 (by k_asm) (by k_asm) (by k_asm) (by k_asm) (by k_asm) rfl (by ktr_room) (by k_mem) (by k_updF) (by first | assumption | k_ne) (by first | assumption | (show Str.cps _ = #[44]; rfl) | (show Str.cps _ = #[124]; rfl) | (show Str.cps _ = #[41]; rfl) | (show Str.cps _ = #[42]; rfl) | (show Str.cps _ = #[63]; rfl) | (show Str.cps _ = #[43]; rfl)) ?_ ?_; k_whole; (intro zq1 zh1 ztk1 zi1 zF1 zN1 zK1; (try dsimp only at zN1); (try dsimp only)))) | ((with_reducible show wpAny _ _ (call (Value.ref 168) [Value.str _ _, Value.int _ _]) _ _ _); k_dflt (refine' make168 (by k_asm) (by k_asm) (by k_asm) (by k_asm) rfl (by ktr_room) (by k_asm) ?_; k_whole; intro zh1 ztk1 ze1 zdx1 zt1 zF1 zN1 zfe1 zK1; (try dsimp only))) | ((with_reducible show wpAny _ _ (call (Value.ref 144) [Value.ref _, Value.str _ _]) _ _ _); k_dflt (refine' init147 (by k_asm) (by k_asm) (by k_asm) (by k_asm) rfl (by ktr_room) (by k_asm) ?_; k_whole; intro zh1 ztk1 zdx1 zt1 zod1 zF1 zN1 zne1 zS1 zK1; (try dsimp only))) | (k_unfold; (try dsimp only)) | (k_end; wrow_close) | walk1 | (dsimp only; walk1) | (leave1; try dsimp only)))
  · (with_reducible rename Fr g' L' _ _ => F9); (with_reducible rename News g' L' _ _ => N9)
    obtain ⟨F8, N8, K8⟩ := back F N₀ K' F9 N9
    have K7 := keepBut (d := dx) N₀ N8 K8 (by tb_rel)
    exact retT (by assumption) _ _ _ F8 (News.upd1 N U K7 (N8 (dx, _) (by k_mem)).1) K7
  · (with_reducible rename Heap.get? _ _ = Option.none => fe); (with_reducible rename ∀ b o, _ = some o → _ = some o => KA)
    exact raise_out (mods := []) N₀ K' S' B' (by assumption) (by assumption) (by tb_rel) fe KA (News.get (by assumption) (.head _)) rfl rfl rfl fun h' R => exc (by assumption) _ _ _ R
end
section
open PySem.Builtin
variable {prog : Program} {w : World} {A : Around} {E : Value → Shared → Prop} {s : Shared} {Q : Value → Shared → Prop} {x t : Str} {tt it u : Tok} {n c : Nat} {l : List Nat}
theorem text_at {value slice : Expr} (hn : n < (sg t).length) (ht : t.length ≤ 1000) (h : ∀ c, (sg t)[n]? = some c → Q (.str ⟨#[c]⟩ s.toks) { s with toks := s.toks + 1 })
    (hs : subscripted slice false (.str t tt) (.int (n : Int) it) = operate [.str t tt, .int (n : Int) it] (getItem (.str t tt) (.int (n : Int) it)) := by with_unfolding_all rfl)
    (hz : ∀ r, letTemporaryGo value (.str t tt) r = pure () := by intro _; with_unfolding_all rfl) :
    wpAny (model prog w) A (subscriptTail value slice (.str t tt) (.int (n : Int) it)) Q E s := by
  have hn' : n < t.length := by rw [← sg_len]; exact hn
  refine item_str (by unfold fitsSsize; simp; omega) (by omega) (by omega) (fun _ => ?_) hs hz
  have hx : Txt.item t (n : Int) = ⟨#[(sg t)[n]]⟩ := by
    have hc : Txt.charAt t (n : Int) = some (sg t)[n] := by
      unfold Txt.charAt seqIndex?
      have h1 : ¬ ((n : Int) < 0) := by omega
      have h2 : (decide (0 ≤ (n : Int)) && decide ((n : Int) < (t.length : Int))) = true := by
        rw [decide_eq_true (show 0 ≤ (n : Int) by omega), decide_eq_true (show (n : Int) < (t.length : Int) by omega)]; rfl
      simp only [if_neg h1]
      rw [if_pos h2]
      show t.cps[(n : Int).toNat]? = _
      rw [Int.toNat_natCast, ← Array.getElem?_toList]
      exact List.getElem?_eq_some_iff.mpr ⟨hn, rfl⟩
    unfold Txt.item
    rw [hc]; rfl
  rw [hx]
  exact h _ (List.getElem?_eq_some_iff.mpr ⟨hn, rfl⟩)
theorem in_one (hl : sg x = l) (h : Q (.bool (l.contains c)) s) : wpAny (model prog w) A (compareOp .In (.str ⟨#[c]⟩ u) (.str x tt)) Q E s := by
  refine P.in_str ?_
  rw [StrLaws.found_one, show decide (c ∈ x.cps.toList) = l.contains c from by rw [show x.cps.toList = l from hl, List.contains_eq_mem]]
  exact h
end
local macro_rules | `(tactic| walk_at "compareOp In str str") => `(tactic| (k_here; (with_reducible show wpAny _ _ (compareOp CmpOp.In (Value.str (Str.mk #[_]) _) (Value.str _ _)) _ _ _); k_dflt (refine' in_one (by first | (show sg _ = [32, 9, 10, 13]; rfl) | (show sg _ = [63, 42, 43]; rfl)) ?_)))
def isSp (c : Nat) : Bool := [32, 9, 10, 13].contains c
section
variable {w : World} {A₀ : Around} {E : Value → Shared → Prop} {s : Shared} {base h₀ : Heap} {outer : List Env} {L : Addr} {m : Str → Option Value} {news : List (Addr × Obj)}
  {p : Program} {loose : List Str} {mean : ExcName → Option Value} {mg mb : Str → Option Value} {dp un : Nat} {gd : Option (List Code)} {cn : Str} {cs : Scope} {a : Addr} {ccd : Value} {cl : List (Str × Addr)} {Q : Value → Shared → Prop}
  {st : Tok} {c : Nat}
theorem is_space_spec (B : Below A₀ base outer h₀) (F : Fr h₀ L s.heap m) (X : (hd.heap_1 w.params).In h₀) (N : News h₀ L s.heap news) (T : Top p loose mean mg mb h₀) (hk : cs.kind = .function) (hdp : dp + 2 < recursionLimit)
  (ret : ∀ h' tk', Fr h₀ L h' m → News h₀ L h' news → (∀ b o, s.heap.get? b = some o → h'.get? b = some o) → Q (.bool (isSp c)) { s with heap := h', toks := tk' }) :
  wpAny (model PySem.Challenge.rw_xw0208_01.row.prog w) (ktrTop dp un gd cn cs L a ccd cl outer) (call (.ref 109) [.str ⟨#[c]⟩ st]) Q E s := by
  revert X; k_fill; intro X
  have N₀ : News h₀ L s.heap [] := News.nil
  k_dflt (refine' enter B F X N₀ T hk ?k6 ?k7 ?k8 ?k9 ?kB ?_ ?c5 ?c2 ?c3 ?c4; (case k6 => k_is); (case k7 => k_is); (case k8 => ktr_room); (case k9 => exact BindsTo.of_eq rfl); (case c5 => decide); (case kB => exact locs rfl); (case c2 => exact rfl); (case c3 => exact rfl); (case c4 => exact rfl); k_whole; intro g' L' h' F' N' B' X' T' K' S' l'; (try dsimp only); (try k_fold))
  (repeat' (first | ((with_reducible show wpAny _ _ (call (Value.ref 206) [Value.ref _, Value.str _ _]) _ _ _); k_dflt (refine' fault_spec (by k_asm) (by k_asm) (by k_asm) (by k_asm) (by k_asm) rfl (by ktr_room) (by k_mem) (by k_mem) ?_; k_whole; intro zh1 ztk1 ze1 zd1 zt1 zF1 zN1 zfe1 zK1; (try dsimp only))) | ((with_reducible show wpAny _ _ (call (Value.ref 227) [Value.ref _, Value.str _ _]) _ _ _); k_dflt (refine' takes1 (by k_asm) (by k_asm) (by k_asm) (by k_asm) (by k_asm) rfl (by ktr_room) (by k_mem) (by k_updF) (by first | assumption | k_ne) (by first | assumption | (show Str.cps _ = #[44]; rfl) | (show Str.cps _ = #[124]; rfl) | (show Str.cps _ = #[41]; rfl) | (show Str.cps _ = #[42]; rfl) | (show Str.cps _ = #[63]; rfl) | (show Str.cps _ = #[43]; rfl)) ?_ ?_; k_whole; (intro zq1 zh1 ztk1 zi1 zF1 zN1 zK1; (try dsimp only at zN1); (try dsimp only)))) | ((with_reducible show wpAny _ _ (call (Value.ref 168) [Value.str _ _, Value.int _ _]) _ _ _); k_dflt (refine' make168 (by k_asm) (by k_asm) (by k_asm) (by k_asm) rfl (by ktr_room) (by k_asm) ?_; k_whole; intro zh1 ztk1 ze1 zdx1 zt1 zF1 zN1 zfe1 zK1; (try dsimp only))) | ((with_reducible show wpAny _ _ (call (Value.ref 144) [Value.ref _, Value.str _ _]) _ _ _); k_dflt (refine' init147 (by k_asm) (by k_asm) (by k_asm) (by k_asm) rfl (by ktr_room) (by k_asm) ?_; k_whole; intro zh1 ztk1 zdx1 zt1 zod1 zF1 zN1 zne1 zS1 zK1; (try dsimp only))) | (k_unfold; (try dsimp only)) | (k_end; wrow_close) | walk1 | (dsimp only; walk1) | (leave1; try dsimp only)))
  all_goals (repeat' (first | k_unfold | dsimp only))
  all_goals ((with_reducible rename Fr g' L' _ _ => F9); (with_reducible rename News g' L' _ _ => N9))
  all_goals (obtain ⟨F8, N8, K8⟩ := back F N₀ K' F9 N9)
  all_goals have K7 := keepAll N₀ N8 K8 (by tb_rel)
  all_goals rename (List.contains [32, 9, 10, 13] c = _) => hc
  · have e1 : (({ cps := #[c] } : Str) != Str.ofString "") = isSp c := by
      rw [show isSp c = true from hc, bne_iff_ne]
      intro q
      have := congrArg (fun x : Str => x.cps.size) q
      revert this
      exact fun z => absurd z (by show ¬ (1 = 0); decide)
    rw [e1]
    exact ret _ _ F8 (News.same N K7) K7
  · have e1 : List.contains [32, 9, 10, 13] c = isSp c := rfl
    rw [e1]
    exact ret _ _ F8 (News.same N K7) K7
end
def skip (l : List Nat) (n : Nat) : Nat := n + ((l.drop n).takeWhile isSp).length
theorem skip_sp {l : List Nat} {n c : Nat} (h : l[n]? = some c) (hc : isSp c = true) : skip l n = skip l (n + 1) := by
  obtain ⟨hn, rfl⟩ := List.getElem?_eq_some_iff.mp h
  unfold skip
  rw [List.drop_eq_getElem_cons hn, List.takeWhile_cons, hc]
  simp only [if_true, List.length_cons]
  omega
theorem skip_no {l : List Nat} {n c : Nat} (h : l[n]? = some c) (hc : isSp c = false) : skip l n = n := by
  obtain ⟨hn, rfl⟩ := List.getElem?_eq_some_iff.mp h
  unfold skip
  rw [List.drop_eq_getElem_cons hn, List.takeWhile_cons, hc]
  simp
theorem skip_end {l : List Nat} {n : Nat} (h : l.length ≤ n) : skip l n = n := by
  unfold skip
  rw [List.drop_eq_nil_of_le h]
  simp
theorem skip_le {l : List Nat} {n : Nat} (h : n ≤ l.length) : skip l n ≤ l.length := by
  unfold skip
  have : ((l.drop n).takeWhile isSp).length ≤ (l.drop n).length := List.Sublist.length_le (List.takeWhile_sublist _)
  rw [List.length_drop] at this
  omega
theorem lt_of_get {l : List Nat} {n c : Nat} (h : l[n]? = some c) : n + 1 ≤ l.length := (List.getElem?_eq_some_iff.mp h).1
theorem skip_ge {l : List Nat} {n : Nat} : n ≤ skip l n := Nat.le_add_right _ _
local macro_rules | `(tactic| bits_fit) => `(tactic| (first | assumption | omega | exact lt_of_get (by assumption) | (with_reducible refine skip_le ?_; bits_fit)))
local macro_rules | `(tactic| walk_at "subscriptTail") => `(tactic| (k_here; (with_reducible show wpAny _ _ (subscriptTail _ _ (Value.str _ _) (Value.int (Nat.cast _) _)) _ _ _); k_dflt (refine' text_at (by first | assumption | omega | ((try rw [sg_len]); omega)) (by first | assumption | omega) ?_ (by with_unfolding_all rfl) (by intro _; with_unfolding_all rfl)); (intro c1 hc1; (try dsimp only))))
section
variable {w : World} {A₀ : Around} {E : Value → Shared → Prop} {s : Shared} {base h₀ : Heap} {outer : List Env} {L : Addr} {m : Str → Option Value} {news : List (Addr × Obj)}
  {p : Program} {loose : List Str} {mean : ExcName → Option Value} {mg mb : Str → Option Value} {dp un : Nat} {gd : Option (List Code)} {cn : Str} {cs : Scope} {a : Addr} {ccd : Value} {cl : List (Str × Addr)} {Q : Value → Shared → Prop}
  {x dx : Addr} {h1 h2 h3 h4 : Int} {k1 k2 k3 k4 tt bt it wt mt : Tok} {t word msg : Str} {b i : Int} {n c : Nat} {gf : Obj → List (Addr × Obj)}

theorem spaces_spec (B : Below A₀ base outer h₀) (F : Fr h₀ L s.heap m) (X : (hd.heap_1 w.params).In h₀) (N : News h₀ L s.heap news) (T : Top p loose mean mg mb h₀) (hk : cs.kind = .function) (hdp : dp + 5 < recursionLimit)
  (hx : (x, instObj 293 dx) ∈ news) (U : UpdF dx (dictOf (scanD h1 h2 h3 h4 k1 k2 k3 k4 t tt b bt (n : Int) it) 4) news gf) (hne : x ≠ dx) (hn : n ≤ (sg t).length) (hlt : t.length ≤ 1000)
  (ret : ∀ h' tk' it' v vt, Fr h₀ L h' m → News h₀ L h' (gf (dictOf (scanD h1 h2 h3 h4 k1 k2 k3 k4 t tt b bt ((skip (sg t) n : Nat) : Int) it') 4)) → (∀ b o, s.heap.get? b = some o → b ≠ dx → h'.get? b = some o) → Q (.int v vt) { s with heap := h', toks := tk' }) :
  wpAny (model PySem.Challenge.rw_xw0208_01.row.prog w) (ktrTop dp un gd cn cs L a ccd cl outer) (call (.ref 241) [.ref x]) Q E s := by
  revert X; k_fill; intro X
  have N₀ : News h₀ L s.heap [(x, instObj 293 dx), (dx, dictOf (scanD h1 h2 h3 h4 k1 k2 k3 k4 t tt b bt (n : Int) it) 4)] := cb_drop N (List.forall_mem_cons.mpr ⟨hx, List.forall_mem_cons.mpr ⟨UpdF.mem U, List.forall_mem_nil _⟩⟩)
  k_dflt (refine' enter B F X N₀ T hk ?k6 ?k7 ?k8 ?k9 ?kB ?_ ?c5 ?c2 ?c3 ?c4; (case k6 => k_is); (case k7 => k_is); (case k8 => ktr_room); (case k9 => exact BindsTo.of_eq rfl); (case c5 => decide); (case kB => exact locs rfl); (case c2 => exact rfl); (case c3 => exact rfl); (case c4 => exact rfl); k_whole; intro g' L' h' F' N' B' X' T' K' S' l'; (try dsimp only); (try k_fold))
  iterate 8 (first | ((with_reducible show wpAny _ _ (call (Value.ref 109) [Value.str (Str.mk #[_]) _]) _ _ _); k_dflt (refine' is_space_spec (by k_asm) (by k_asm) (by k_asm) (by k_asm) (by k_asm) rfl (by ktr_room) ?_; k_whole; (intro zh1 ztk1 zF1 zN1 zK1; (try dsimp only)))) | ((with_reducible show wpAny _ _ (call (Value.ref 206) [Value.ref _, Value.str _ _]) _ _ _); k_dflt (refine' fault_spec (by k_asm) (by k_asm) (by k_asm) (by k_asm) (by k_asm) rfl (by ktr_room) (by k_mem) (by k_mem) ?_; k_whole; intro zh1 ztk1 ze1 zd1 zt1 zF1 zN1 zfe1 zK1; (try dsimp only))) | ((with_reducible show wpAny _ _ (call (Value.ref 227) [Value.ref _, Value.str _ _]) _ _ _); k_dflt (refine' takes1 (by k_asm) (by k_asm) (by k_asm) (by k_asm) (by k_asm) rfl (by ktr_room) (by k_mem) (by k_updF) (by first | assumption | k_ne) (by first | assumption | (show Str.cps _ = #[44]; rfl) | (show Str.cps _ = #[124]; rfl) | (show Str.cps _ = #[41]; rfl) | (show Str.cps _ = #[42]; rfl) | (show Str.cps _ = #[63]; rfl) | (show Str.cps _ = #[43]; rfl)) ?_ ?_; k_whole; (intro zq1 zh1 ztk1 zi1 zF1 zN1 zK1; (try dsimp only at zN1); (try dsimp only)))) | ((with_reducible show wpAny _ _ (call (Value.ref 168) [Value.str _ _, Value.int _ _]) _ _ _); k_dflt (refine' make168 (by k_asm) (by k_asm) (by k_asm) (by k_asm) rfl (by ktr_room) (by k_asm) ?_; k_whole; intro zh1 ztk1 ze1 zdx1 zt1 zF1 zN1 zfe1 zK1; (try dsimp only))) | ((with_reducible show wpAny _ _ (call (Value.ref 144) [Value.ref _, Value.str _ _]) _ _ _); k_dflt (refine' init147 (by k_asm) (by k_asm) (by k_asm) (by k_asm) rfl (by ktr_room) (by k_asm) ?_; k_whole; intro zh1 ztk1 zdx1 zt1 zod1 zF1 zN1 zne1 zS1 zK1; (try dsimp only))) | walk1 | (dsimp only; walk1))
  (with_reducible rename Fr g' L' _ _ => F9); (with_reducible rename News g' L' _ _ => N9)
  have hl := sg_len t
  refine While_inv (fun k m1 news1 => ∃ j it', n ≤ j ∧ j ≤ (sg t).length ∧ skip (sg t) j = skip (sg t) n ∧ _ = m1 ∧ [(x, instObj 293 dx), (dx, dictOf (scanD h1 h2 h3 h4 k1 k2 k3 k4 t tt b bt (j : Int) it') 4)] = news1 ∧ k = (sg t).length - j) F9 N9 ⟨n, it, Nat.le_refl _, hn, rfl, rfl, rfl, rfl⟩ ?_
  rintro k m1 news1 hh1 tk1 F1 N1 ⟨j, it', hj1, hj2, hj3, rfl, rfl, rfl⟩
  (repeat' (first | ((with_reducible show wpAny _ _ (call (Value.ref 109) [Value.str (Str.mk #[_]) _]) _ _ _); k_dflt (refine' is_space_spec (by k_asm) (by k_asm) (by k_asm) (by k_asm) (by k_asm) rfl (by ktr_room) ?_; k_whole; (intro zh1 ztk1 zF1 zN1 zK1; (try dsimp only)))) | ((with_reducible show wpAny _ _ (call (Value.ref 206) [Value.ref _, Value.str _ _]) _ _ _); k_dflt (refine' fault_spec (by k_asm) (by k_asm) (by k_asm) (by k_asm) (by k_asm) rfl (by ktr_room) (by k_mem) (by k_mem) ?_; k_whole; intro zh1 ztk1 ze1 zd1 zt1 zF1 zN1 zfe1 zK1; (try dsimp only))) | ((with_reducible show wpAny _ _ (call (Value.ref 227) [Value.ref _, Value.str _ _]) _ _ _); k_dflt (refine' takes1 (by k_asm) (by k_asm) (by k_asm) (by k_asm) (by k_asm) rfl (by ktr_room) (by k_mem) (by k_updF) (by first | assumption | k_ne) (by first | assumption | (show Str.cps _ = #[44]; rfl) | (show Str.cps _ = #[124]; rfl) | (show Str.cps _ = #[41]; rfl) | (show Str.cps _ = #[42]; rfl) | (show Str.cps _ = #[63]; rfl) | (show Str.cps _ = #[43]; rfl)) ?_ ?_; k_whole; (intro zq1 zh1 ztk1 zi1 zF1 zN1 zK1; (try dsimp only at zN1); (try dsimp only)))) | ((with_reducible show wpAny _ _ (call (Value.ref 168) [Value.str _ _, Value.int _ _]) _ _ _); k_dflt (refine' make168 (by k_asm) (by k_asm) (by k_asm) (by k_asm) rfl (by ktr_room) (by k_asm) ?_; k_whole; intro zh1 ztk1 ze1 zdx1 zt1 zF1 zN1 zfe1 zK1; (try dsimp only))) | ((with_reducible show wpAny _ _ (call (Value.ref 144) [Value.ref _, Value.str _ _]) _ _ _); k_dflt (refine' init147 (by k_asm) (by k_asm) (by k_asm) (by k_asm) rfl (by ktr_room) (by k_asm) ?_; k_whole; intro zh1 ztk1 zdx1 zt1 zod1 zF1 zN1 zne1 zS1 zK1; (try dsimp only))) | (k_unfold; (try dsimp only)) | (k_end; wrow_close) | walk1 | (dsimp only; walk1) | (leave1; try dsimp only)))
  · (with_reducible rename Fr g' L' _ _ => F9); (with_reducible rename News g' L' _ _ => N9)
    (with_reducible rename (sg t)[j]? = some _ => hc); (with_reducible rename isSp _ = true => hs)
    rw [show ((j : Int) + 1) = ((j + 1 : Nat) : Int) from by omega] at N9
    exact WhileStep.intro F9 N9 (n' := (sg t).length - (j + 1)) (by omega) ⟨j + 1, _, by omega, by omega, (skip_sp hc hs).symm.trans hj3, rfl, rfl, rfl⟩
  all_goals (repeat' (first | k_unfold | dsimp only))
  all_goals ((with_reducible rename Fr g' L' _ _ => F9); (with_reducible rename News g' L' _ _ => N9))
  all_goals (obtain ⟨F8, N8, K8⟩ := back F N₀ K' F9 N9)
  all_goals have K7 := keepBut (d := dx) N₀ N8 K8 (by tb_rel)
  · (with_reducible rename (sg t)[j]? = some _ => hc); (with_reducible rename isSp _ = false => hs)
    have e : skip (sg t) n = j := hj3.symm.trans (skip_no hc hs)
    rw [← e] at N8
    exact ret _ _ _ _ _ F8 (News.upd1 N U K7 (N8 (dx, _) (by k_mem)).1) K7
  · have e : skip (sg t) n = j := hj3.symm.trans (skip_end (by omega))
    rw [← e] at N8
    exact ret _ _ _ _ _ F8 (News.upd1 N U K7 (N8 (dx, _) (by k_mem)).1) K7
end
abbrev grpD (g1 g2 g3 : Int) (q1 q2 q3 : Tok) (pv : Int) (pvt : Tok) (pa : Addr) (G : Str) (Gt : Tok) : List DictEntry :=
  [⟨g1, .str "place" q1, .int pv pvt⟩, ⟨g2, .str "particles" q2, .ref pa⟩, ⟨g3, .str "sign" q3, .str G Gt⟩]
section
variable {w : World} {A₀ : Around} {E : Value → Shared → Prop} {s : Shared} {base h₀ : Heap} {outer : List Env} {L : Addr} {m : Str → Option Value} {news : List (Addr × Obj)}
  {p : Program} {loose : List Str} {mean : ExcName → Option Value} {mg mb : Str → Option Value} {dp un : Nat} {gd : Option (List Code)} {cn : Str} {cs : Scope} {a : Addr} {ccd : Value} {cl : List (Str × Addr)} {Q : Value → Shared → Prop}
  {x dx y dy : Addr} {h1 h2 h3 h4 g1 g2 g3 pv i : Int} {k1 k2 k3 k4 tt bt it q1 q2 q3 pvt Gt st : Tok} {t G sgn : Str} {b : Int} {pa : Addr} {gf : Obj → List (Addr × Obj)}

theorem set_sign_spec (B : Below A₀ base outer h₀) (F : Fr h₀ L s.heap m) (X : (hd.heap_1 w.params).In h₀) (N : News h₀ L s.heap news) (T : Top p loose mean mg mb h₀) (hk : cs.kind = .function) (hdp : dp + 12 < recursionLimit)
  (hx : (x, instObj 293 dx) ∈ news) (hdx : (dx, dictOf (scanD h1 h2 h3 h4 k1 k2 k3 k4 t tt b bt i it) 4) ∈ news) (hy : (y, instObj 60 dy) ∈ news) (U : UpdF dy (dictOf (grpD g1 g2 g3 q1 q2 q3 pv pvt pa G Gt) 3) news gf)
  (n1 : x ≠ dx) (n2 : y ≠ dy) (n3 : x ≠ dy) (n4 : dx ≠ dy)
  (retS : G = Str.ofString "" → ∀ h' tk', Fr h₀ L h' m → News h₀ L h' (gf (dictOf (grpD g1 g2 g3 q1 q2 q3 pv pvt pa sgn st) 3)) → (∀ b o, s.heap.get? b = some o → b ≠ dy → h'.get? b = some o) → Q .none { s with heap := h', toks := tk' })
  (retN : G ≠ Str.ofString "" → G = sgn → ∀ h' tk', Fr h₀ L h' m → News h₀ L h' news → (∀ b o, s.heap.get? b = some o → h'.get? b = some o) → Q .none { s with heap := h', toks := tk' })
  (exc : G ≠ Str.ofString "" → G ≠ sgn → ∀ h' tk' e, Raised (hideAll s.heap []) (envX cn cs L a ccd cl :: outer) e h' → E (.ref e) { s with heap := h', toks := tk' }) :
  wpAny (model PySem.Challenge.rw_xw0208_01.row.prog w) (ktrTop dp un gd cn cs L a ccd cl outer) (call (.ref 50) [.ref y, .ref x, .str sgn st]) Q E s := by
  revert X; k_fill; intro X
  have N₀ : News h₀ L s.heap [(x, instObj 293 dx), (dx, dictOf (scanD h1 h2 h3 h4 k1 k2 k3 k4 t tt b bt i it) 4), (y, instObj 60 dy), (dy, dictOf (grpD g1 g2 g3 q1 q2 q3 pv pvt pa G Gt) 3)] := cb_drop N (List.forall_mem_cons.mpr ⟨hx, List.forall_mem_cons.mpr ⟨hdx, List.forall_mem_cons.mpr ⟨hy, List.forall_mem_cons.mpr ⟨UpdF.mem U, List.forall_mem_nil _⟩⟩⟩⟩)
  k_dflt (refine' enter B F X N₀ T hk ?k6 ?k7 ?k8 ?k9 ?kB ?_ ?c5 ?c2 ?c3 ?c4; (case k6 => k_is); (case k7 => k_is); (case k8 => ktr_room); (case k9 => exact BindsTo.of_eq rfl); (case c5 => decide); (case kB => exact locs rfl); (case c2 => exact rfl); (case c3 => exact rfl); (case c4 => exact rfl); k_whole; intro g' L' h' F' N' B' X' T' K' S' l'; (try dsimp only); (try k_fold))
  (repeat' (first | ((with_reducible show wpAny _ _ (call (Value.ref 109) [Value.str (Str.mk #[_]) _]) _ _ _); k_dflt (refine' is_space_spec (by k_asm) (by k_asm) (by k_asm) (by k_asm) (by k_asm) rfl (by ktr_room) ?_; k_whole; (intro zh1 ztk1 zF1 zN1 zK1; (try dsimp only)))) | ((with_reducible show wpAny _ _ (call (Value.ref 206) [Value.ref _, Value.str _ _]) _ _ _); k_dflt (refine' fault_spec (by k_asm) (by k_asm) (by k_asm) (by k_asm) (by k_asm) rfl (by ktr_room) (by k_mem) (by k_mem) ?_; k_whole; intro zh1 ztk1 ze1 zd1 zt1 zF1 zN1 zfe1 zK1; (try dsimp only))) | ((with_reducible show wpAny _ _ (call (Value.ref 227) [Value.ref _, Value.str _ _]) _ _ _); k_dflt (refine' takes1 (by k_asm) (by k_asm) (by k_asm) (by k_asm) (by k_asm) rfl (by ktr_room) (by k_mem) (by k_updF) (by first | assumption | k_ne) (by first | assumption | (show Str.cps _ = #[44]; rfl) | (show Str.cps _ = #[124]; rfl) | (show Str.cps _ = #[41]; rfl) | (show Str.cps _ = #[42]; rfl) | (show Str.cps _ = #[63]; rfl) | (show Str.cps _ = #[43]; rfl)) ?_ ?_; k_whole; (intro zq1 zh1 ztk1 zi1 zF1 zN1 zK1; (try dsimp only at zN1); (try dsimp only)))) | ((with_reducible show wpAny _ _ (call (Value.ref 168) [Value.str _ _, Value.int _ _]) _ _ _); k_dflt (refine' make168 (by k_asm) (by k_asm) (by k_asm) (by k_asm) rfl (by ktr_room) (by k_asm) ?_; k_whole; intro zh1 ztk1 ze1 zdx1 zt1 zF1 zN1 zfe1 zK1; (try dsimp only))) | ((with_reducible show wpAny _ _ (call (Value.ref 144) [Value.ref _, Value.str _ _]) _ _ _); k_dflt (refine' init147 (by k_asm) (by k_asm) (by k_asm) (by k_asm) rfl (by ktr_room) (by k_asm) ?_; k_whole; intro zh1 ztk1 zdx1 zt1 zod1 zF1 zN1 zne1 zS1 zK1; (try dsimp only))) | (k_unfold; (try dsimp only)) | (k_end; wrow_close) | walk1 | (dsimp only; walk1) | (leave1; try dsimp only)))
  all_goals (repeat' (first | k_unfold | dsimp only))
  · (with_reducible rename Fr g' L' _ _ => F9); (with_reducible rename News g' L' _ _ => N9)
    (with_reducible rename (G == Str.ofString "") = true => hc)
    obtain ⟨F8, N8, K8⟩ := back F N₀ K' F9 N9
    have K7 := keepBut (d := dy) N₀ N8 K8 (by tb_rel)
    exact retS (eq_of_beq hc) _ _ F8 (News.upd1 N U K7 (N8 (dy, _) (by k_mem)).1) K7
  · (with_reducible rename (G == Str.ofString "") = false => hc); (with_reducible rename (G != sgn) = true => hd)
    (with_reducible rename Heap.get? _ _ = Option.none => fe); (with_reducible rename ∀ b o, _ = some o → _ = some o => KA)
    exact raise_out (mods := []) N₀ K' S' B' F' N' (by tb_rel) fe KA (News.get (by assumption) (.head _)) rfl rfl rfl fun h' R => exc (by intro q; rw [q] at hc; simp at hc) (by simpa using hd) _ _ _ R
  · (with_reducible rename (G == Str.ofString "") = false => hc); (with_reducible rename (G != sgn) = false => hd)
    obtain ⟨F8, N8, K8⟩ := back F N₀ K' F' N'
    have K7 := keepAll N₀ N8 K8 (by tb_rel)
    exact retN (by intro q; rw [q] at hc; simp at hc) (by simpa using hd) _ _ F8 (News.same N K7) K7
end
section
variable {w : World} {A₀ : Around} {E : Value → Shared → Prop} {s : Shared} {base h₀ : Heap} {outer : List Env} {L : Addr} {m : Str → Option Value} {news : List (Addr × Obj)}
  {p : Program} {loose : List Str} {mean : ExcName → Option Value} {mg mb : Str → Option Value} {dp un : Nat} {gd : Option (List Code)} {cn : Str} {cs : Scope} {a : Addr} {ccd : Value} {cl : List (Str × Addr)} {Q : Value → Shared → Prop}
  {x dx y dy : Addr} {h1 h2 h3 h4 g1 g2 g3 pv : Int} {k1 k2 k3 k4 tt bt it q1 q2 q3 pvt Gt st : Tok} {t G : Str} {b : Int} {n : Nat} {pa : Addr} {gf : Obj → List (Addr × Obj)} {gg : Obj → Obj → List (Addr × Obj)}

theorem goes_on_spec (B : Below A₀ base outer h₀) (F : Fr h₀ L s.heap m) (X : (hd.heap_1 w.params).In h₀) (N : News h₀ L s.heap news) (T : Top p loose mean mg mb h₀) (hk : cs.kind = .function) (hdp : dp + 15 < recursionLimit)
  (hx : (x, instObj 293 dx) ∈ news) (U : UpdF dx (dictOf (scanD h1 h2 h3 h4 k1 k2 k3 k4 t tt b bt (n : Int) it) 4) news gf) (hy : (y, instObj 60 dy) ∈ news) (V : ∀ o', UpdF dy (dictOf (grpD g1 g2 g3 q1 q2 q3 pv pvt pa G Gt) 3) (gf o') (gg o'))
  (n1 : x ≠ dx) (n2 : y ≠ dy) (n3 : x ≠ dy) (n4 : dx ≠ dy) (n5 : y ≠ dx) (hn : n ≤ (sg t).length) (hlt : t.length ≤ 1000)
  (retT : ∀ c, (sg t)[skip (sg t) n]? = some c → (c = 44 ∨ c = 124) → (G = Str.ofString "" ∨ G = ⟨#[c]⟩) → ∀ h' tk' it' Gt', Fr h₀ L h' m → News h₀ L h' (gg (dictOf (scanD h1 h2 h3 h4 k1 k2 k3 k4 t tt b bt ((skip (sg t) n + 1 : Nat) : Int) it') 4) (dictOf (grpD g1 g2 g3 q1 q2 q3 pv pvt pa ⟨#[c]⟩ Gt') 3)) → (∀ b o, s.heap.get? b = some o → b ≠ dx → b ≠ dy → h'.get? b = some o) → Q (.bool true) { s with heap := h', toks := tk' })
  (retF : (sg t)[skip (sg t) n]? = some 41 → ∀ h' tk' it', Fr h₀ L h' m → News h₀ L h' (gf (dictOf (scanD h1 h2 h3 h4 k1 k2 k3 k4 t tt b bt ((skip (sg t) n + 1 : Nat) : Int) it') 4)) → (∀ b o, s.heap.get? b = some o → b ≠ dx → h'.get? b = some o) → Q (.bool false) { s with heap := h', toks := tk' })
  (exc : (∀ c, (sg t)[skip (sg t) n]? = some c → c ≠ 41 ∧ ((c = 44 ∨ c = 124) → G ≠ Str.ofString "" ∧ G ≠ ⟨#[c]⟩)) → ∀ h' tk' e, Raised (hideAll s.heap [dx]) (envX cn cs L a ccd cl :: outer) e h' → E (.ref e) { s with heap := h', toks := tk' }) :
  wpAny (model PySem.Challenge.rw_xw0208_01.row.prog w) (ktrTop dp un gd cn cs L a ccd cl outer) (call (.ref 71) [.ref x, .ref y]) Q E s := by
  revert X; k_fill; intro X
  have m1 : @Ne Nat x dx := n1
  have m2 : @Ne Nat y dy := n2
  have m3 : @Ne Nat x dy := n3
  have m4 : @Ne Nat dx dy := n4
  have m5 : @Ne Nat y dx := n5
  have hyd : (dy, dictOf (grpD g1 g2 g3 q1 q2 q3 pv pvt pa G Gt) 3) ∈ news := UpdF.other U (V default) (Ne.symm n4)
  have N₀ : News h₀ L s.heap [(x, instObj 293 dx), (dx, dictOf (scanD h1 h2 h3 h4 k1 k2 k3 k4 t tt b bt (n : Int) it) 4), (y, instObj 60 dy), (dy, dictOf (grpD g1 g2 g3 q1 q2 q3 pv pvt pa G Gt) 3)] := cb_drop N (List.forall_mem_cons.mpr ⟨hx, List.forall_mem_cons.mpr ⟨UpdF.mem U, List.forall_mem_cons.mpr ⟨hy, List.forall_mem_cons.mpr ⟨hyd, List.forall_mem_nil _⟩⟩⟩⟩)
  k_dflt (refine' enter B F X N₀ T hk ?k6 ?k7 ?k8 ?k9 ?kB ?_ ?c5 ?c2 ?c3 ?c4; (case k6 => k_is); (case k7 => k_is); (case k8 => ktr_room); (case k9 => exact BindsTo.of_eq rfl); (case c5 => decide); (case kB => exact locs rfl); (case c2 => exact rfl); (case c3 => exact rfl); (case c4 => exact rfl); k_whole; intro g' L' h' F' N' B' X' T' K' S' l'; (try dsimp only); (try k_fold))
  (repeat' (first | ((with_reducible show wpAny _ _ (call (Value.ref 234) [Value.ref _, Value.str _ _]) _ _ _); k_dflt (refine' expect1 (by k_asm) (by k_asm) (by k_asm) (by k_asm) (by k_asm) rfl (by ktr_room) (by k_mem) (by k_updF) (by first | assumption | k_ne) (by first | assumption | (show Str.cps _ = #[44]; rfl) | (show Str.cps _ = #[124]; rfl) | (show Str.cps _ = #[41]; rfl)) ?_ ?_; k_whole; (intro zq1 zh1 ztk1 zi1 zF1 zN1 zK1; (try dsimp only at zN1); (try dsimp only)))) | ((with_reducible show wpAny _ _ (call (Value.ref 50) [Value.ref _, Value.ref _, Value.str _ _]) _ _ _); k_dflt (refine' set_sign_spec (by k_asm) (by k_asm) (by k_asm) (by k_asm) (by k_asm) rfl (by ktr_room) (by k_mem) (by k_mem) (by k_mem) (by k_updF) (by first | assumption | k_ne) (by first | assumption | k_ne) (by first | assumption | k_ne) (by first | assumption | k_ne) ?_ ?_ ?_; k_whole; (intro zq1 zh1 ztk1 zF1 zN1 zK1; (try dsimp only at zN1); (try dsimp only)))) | ((try dsimp only [List.append_nil, List.cons_append, List.nil_append]); (with_reducible show wpAny _ _ (call (Value.ref 241) [Value.ref _]) _ _ _); k_dflt (refine' spaces_spec (by k_asm) (by k_asm) (by k_asm) (by k_asm) (by k_asm) rfl (by ktr_room) (by k_mem) (by k_updF) (by first | assumption | k_ne) (by bits_fit) (by first | assumption | omega) ?_; k_whole; (intro zh1 ztk1 zi1 zv1 zvt1 zF1 zN1 zK1; (try dsimp only at zN1); (try dsimp only)))) | ((with_reducible show wpAny _ _ (call (Value.ref 109) [Value.str (Str.mk #[_]) _]) _ _ _); k_dflt (refine' is_space_spec (by k_asm) (by k_asm) (by k_asm) (by k_asm) (by k_asm) rfl (by ktr_room) ?_; k_whole; (intro zh1 ztk1 zF1 zN1 zK1; (try dsimp only)))) | ((with_reducible show wpAny _ _ (call (Value.ref 206) [Value.ref _, Value.str _ _]) _ _ _); k_dflt (refine' fault_spec (by k_asm) (by k_asm) (by k_asm) (by k_asm) (by k_asm) rfl (by ktr_room) (by k_mem) (by k_mem) ?_; k_whole; intro zh1 ztk1 ze1 zd1 zt1 zF1 zN1 zfe1 zK1; (try dsimp only))) | ((with_reducible show wpAny _ _ (call (Value.ref 227) [Value.ref _, Value.str _ _]) _ _ _); k_dflt (refine' takes1 (by k_asm) (by k_asm) (by k_asm) (by k_asm) (by k_asm) rfl (by ktr_room) (by k_mem) (by k_updF) (by first | assumption | k_ne) (by first | assumption | (show Str.cps _ = #[44]; rfl) | (show Str.cps _ = #[124]; rfl) | (show Str.cps _ = #[41]; rfl) | (show Str.cps _ = #[42]; rfl) | (show Str.cps _ = #[63]; rfl) | (show Str.cps _ = #[43]; rfl)) ?_ ?_; k_whole; (intro zq1 zh1 ztk1 zi1 zF1 zN1 zK1; (try dsimp only at zN1); (try dsimp only)))) | ((with_reducible show wpAny _ _ (call (Value.ref 168) [Value.str _ _, Value.int _ _]) _ _ _); k_dflt (refine' make168 (by k_asm) (by k_asm) (by k_asm) (by k_asm) rfl (by ktr_room) (by k_asm) ?_; k_whole; intro zh1 ztk1 ze1 zdx1 zt1 zF1 zN1 zfe1 zK1; (try dsimp only))) | ((with_reducible show wpAny _ _ (call (Value.ref 144) [Value.ref _, Value.str _ _]) _ _ _); k_dflt (refine' init147 (by k_asm) (by k_asm) (by k_asm) (by k_asm) rfl (by ktr_room) (by k_asm) ?_; k_whole; intro zh1 ztk1 zdx1 zt1 zod1 zF1 zN1 zne1 zS1 zK1; (try dsimp only))) | (k_unfold; (try dsimp only)) | (k_end; wrow_close) | walk1 | (dsimp only; walk1) | (leave1; try dsimp only)))
  all_goals (repeat' (first | k_unfold | dsimp only))
  · (with_reducible rename Fr g' L' _ _ => F9); (with_reducible rename News g' L' _ _ => N9); (with_reducible rename (sg t)[_]? = some 44 => hc); (with_reducible rename G = _ => hG)
    obtain ⟨F8, N8, K8⟩ := back F N₀ K' F9 N9
    have K7 := keepMods (mods := [dx, dy]) N₀ N8 K8 (by tb_rel)
    have K6 : ∀ b o, s.heap.get? b = some o → b ≠ dx → b ≠ dy → Heap.get? _ b = some o := fun b o e z1 z2 => K7 b o e (by simp [z1, z2])
    exact retT 44 hc (by simp) (.inl hG) _ _ _ _ F8 (News.upd2 N U V (Ne.symm n4) K6 (N8 (dx, _) (by k_mem)).1 (N8 (dy, _) (by k_mem)).1) K6
  · (with_reducible rename Fr g' L' _ _ => F9); (with_reducible rename News g' L' _ _ => N9); (with_reducible rename (sg t)[_]? = some 44 => hc); (with_reducible rename G = _ => hG)
    subst hG
    obtain ⟨F8, N8, K8⟩ := back F N₀ K' F9 N9
    have K7 := keepMods (mods := [dx, dy]) N₀ N8 K8 (by tb_rel)
    have K6 : ∀ b o, s.heap.get? b = some o → b ≠ dx → b ≠ dy → Heap.get? _ b = some o := fun b o e z1 z2 => K7 b o e (by simp [z1, z2])
    exact retT 44 hc (by simp) (.inr rfl) _ _ _ _ F8 (News.upd2 N U V (Ne.symm n4) K6 (N8 (dx, _) (by k_mem)).1 (N8 (dy, _) (by k_mem)).1) K6
  · (with_reducible rename Raised _ _ _ _ => R); (with_reducible rename (sg t)[_]? = some 44 => hc); (with_reducible rename G ≠ Str.ofString "" => hG1); (with_reducible rename G ≠ _ => hG2)
    refine' raise_thru (mods := [dx]) (mods2 := []) N₀ K' S' ?F2q1 ?N2q1 ?sameq1 ?hmq1 R rfl rfl fun h' R' => exc (fun c q => by rw [hc] at q; cases q; exact ⟨by decide, fun _ => ⟨hG1, hG2⟩⟩) _ _ _ R'
    case F2q1 => assumption
    case N2q1 => assumption
    case sameq1 => tb_rel
    case hmq1 => intro a ha; cases ha
  · (with_reducible rename Fr g' L' _ _ => F9); (with_reducible rename News g' L' _ _ => N9); (with_reducible rename (sg t)[_]? = some 124 => hc); (with_reducible rename G = _ => hG)
    obtain ⟨F8, N8, K8⟩ := back F N₀ K' F9 N9
    have K7 := keepMods (mods := [dx, dy]) N₀ N8 K8 (by tb_rel)
    have K6 : ∀ b o, s.heap.get? b = some o → b ≠ dx → b ≠ dy → Heap.get? _ b = some o := fun b o e z1 z2 => K7 b o e (by simp [z1, z2])
    exact retT 124 hc (by simp) (.inl hG) _ _ _ _ F8 (News.upd2 N U V (Ne.symm n4) K6 (N8 (dx, _) (by k_mem)).1 (N8 (dy, _) (by k_mem)).1) K6
  · (with_reducible rename Fr g' L' _ _ => F9); (with_reducible rename News g' L' _ _ => N9); (with_reducible rename (sg t)[_]? = some 124 => hc); (with_reducible rename G = _ => hG)
    subst hG
    obtain ⟨F8, N8, K8⟩ := back F N₀ K' F9 N9
    have K7 := keepMods (mods := [dx, dy]) N₀ N8 K8 (by tb_rel)
    have K6 : ∀ b o, s.heap.get? b = some o → b ≠ dx → b ≠ dy → Heap.get? _ b = some o := fun b o e z1 z2 => K7 b o e (by simp [z1, z2])
    exact retT 124 hc (by simp) (.inr rfl) _ _ _ _ F8 (News.upd2 N U V (Ne.symm n4) K6 (N8 (dx, _) (by k_mem)).1 (N8 (dy, _) (by k_mem)).1) K6
  · (with_reducible rename Raised _ _ _ _ => R); (with_reducible rename (sg t)[_]? = some 124 => hc); (with_reducible rename G ≠ Str.ofString "" => hG1); (with_reducible rename G ≠ _ => hG2)
    refine' raise_thru (mods := [dx]) (mods2 := []) N₀ K' S' ?F2q2 ?N2q2 ?sameq2 ?hmq2 R rfl rfl fun h' R' => exc (fun c q => by rw [hc] at q; cases q; exact ⟨by decide, fun _ => ⟨hG1, hG2⟩⟩) _ _ _ R'
    case F2q2 => assumption
    case N2q2 => assumption
    case sameq2 => tb_rel
    case hmq2 => intro a ha; cases ha
  · (with_reducible rename Fr g' L' _ _ => F9); (with_reducible rename News g' L' _ _ => N9); (with_reducible rename (sg t)[_]? = some 41 => hc)
    obtain ⟨F8, N8, K8⟩ := back F N₀ K' F9 N9
    have K7 := keepBut (d := dx) N₀ N8 K8 (by tb_rel)
    exact retF hc _ _ _ F8 (News.upd1 N U K7 (N8 (dx, _) (by k_mem)).1) K7
  · (with_reducible rename Raised _ _ _ _ => R); (with_reducible rename (sg t)[_]? ≠ some 44 => hc1); (with_reducible rename (sg t)[_]? ≠ some 124 => hc2); (with_reducible rename (sg t)[_]? ≠ some 41 => hc3)
    refine' raise_thru (mods := [dx]) (mods2 := []) N₀ K' S' ?F2q3 ?N2q3 ?sameq3 ?hmq3 R rfl rfl fun h' R' => exc (fun c q => ⟨fun e => hc3 (by rw [q, e]), fun e => e.elim (fun e => absurd (by rw [q, e]) hc1) (fun e => absurd (by rw [q, e]) hc2)⟩) _ _ _ R'
    case F2q3 => assumption
    case N2q3 => assumption
    case sameq3 => tb_rel
    case hmq3 => intro a ha; cases ha
end
local macro_rules | `(tactic| walk_at "exec For Name Name cons nil") => `(tactic| (k_here; (rename Fr _ _ _ _ => lF'); (with_unfolding_all refine' For_turnsG lF' ?g ?_; (case g => exact rfl); k_whole)))
section
variable {w : World} {A₀ : Around} {E : Value → Shared → Prop} {s : Shared} {base h₀ : Heap} {outer : List Env} {L : Addr} {m : Str → Option Value} {news : List (Addr × Obj)}
  {p : Program} {loose : List Str} {mean : ExcName → Option Value} {mg mb : Str → Option Value} {dp un : Nat} {gd : Option (List Code)} {cn : Str} {cs : Scope} {a : Addr} {ccd : Value} {cl : List (Str × Addr)} {Q : Value → Shared → Prop}
  {x dx : Addr} {h1 h2 h3 h4 : Int} {k1 k2 k3 k4 tt bt it : Tok} {t : Str} {b : Int} {n : Nat} {gf : Obj → List (Addr × Obj)}

theorem read_mark_spec (B : Below A₀ base outer h₀) (F : Fr h₀ L s.heap m) (X : (hd.heap_1 w.params).In h₀) (N : News h₀ L s.heap news) (T : Top p loose mean mg mb h₀) (hk : cs.kind = .function) (hdp : dp + 5 < recursionLimit)
  (hx : (x, instObj 293 dx) ∈ news) (U : UpdF dx (dictOf (scanD h1 h2 h3 h4 k1 k2 k3 k4 t tt b bt (n : Int) it) 4) news gf) (hne : x ≠ dx)
  (retT : ∀ c, (sg t)[n]? = some c → c ∈ [63, 42, 43] → ∀ h' tk' it' vt, Fr h₀ L h' m → News h₀ L h' (gf (dictOf (scanD h1 h2 h3 h4 k1 k2 k3 k4 t tt b bt ((n + 1 : Nat) : Int) it') 4)) → (∀ b o, s.heap.get? b = some o → b ≠ dx → h'.get? b = some o) → Q (.str ⟨#[c]⟩ vt) { s with heap := h', toks := tk' })
  (retF : (∀ c, (sg t)[n]? = some c → c ∉ [63, 42, 43]) → ∀ h' tk' vt, Fr h₀ L h' m → News h₀ L h' news → (∀ b o, s.heap.get? b = some o → h'.get? b = some o) → Q (.str (Str.ofString "") vt) { s with heap := h', toks := tk' }) :
  wpAny (model PySem.Challenge.rw_xw0208_01.row.prog w) (ktrTop dp un gd cn cs L a ccd cl outer) (call (.ref 29) [.ref x]) Q E s := by
  revert X; k_fill; intro X
  have m1 : @Ne Nat x dx := hne
  have N₀ : News h₀ L s.heap [(x, instObj 293 dx), (dx, dictOf (scanD h1 h2 h3 h4 k1 k2 k3 k4 t tt b bt (n : Int) it) 4)] := cb_drop N (List.forall_mem_cons.mpr ⟨hx, List.forall_mem_cons.mpr ⟨UpdF.mem U, List.forall_mem_nil _⟩⟩)
  k_dflt (refine' enter B F X N₀ T hk ?k6 ?k7 ?k8 ?k9 ?kB ?_ ?c5 ?c2 ?c3 ?c4; (case k6 => k_is); (case k7 => k_is); (case k8 => ktr_room); (case k9 => exact BindsTo.of_eq rfl); (case c5 => decide); (case kB => exact locs rfl); (case c2 => exact rfl); (case c3 => exact rfl); (case c4 => exact rfl); k_whole; intro g' L' h' F' N' B' X' T' K' S' l'; (try dsimp only); (try k_fold))
  (repeat' (first | ((with_reducible show wpAny _ _ (call (Value.ref 234) [Value.ref _, Value.str _ _]) _ _ _); k_dflt (refine' expect1 (by k_asm) (by k_asm) (by k_asm) (by k_asm) (by k_asm) rfl (by ktr_room) (by k_mem) (by k_updF) (by first | assumption | k_ne) (by first | assumption | (show Str.cps _ = #[44]; rfl) | (show Str.cps _ = #[124]; rfl) | (show Str.cps _ = #[41]; rfl)) ?_ ?_; k_whole; (intro zq1 zh1 ztk1 zi1 zF1 zN1 zK1; (try dsimp only at zN1); (try dsimp only)))) | ((with_reducible show wpAny _ _ (call (Value.ref 50) [Value.ref _, Value.ref _, Value.str _ _]) _ _ _); k_dflt (refine' set_sign_spec (by k_asm) (by k_asm) (by k_asm) (by k_asm) (by k_asm) rfl (by ktr_room) (by k_mem) (by k_mem) (by k_mem) (by k_updF) (by first | assumption | k_ne) (by first | assumption | k_ne) (by first | assumption | k_ne) (by first | assumption | k_ne) ?_ ?_ ?_; k_whole; (intro zq1 zh1 ztk1 zF1 zN1 zK1; (try dsimp only at zN1); (try dsimp only)))) | ((try dsimp only [List.append_nil, List.cons_append, List.nil_append]); (with_reducible show wpAny _ _ (call (Value.ref 241) [Value.ref _]) _ _ _); k_dflt (refine' spaces_spec (by k_asm) (by k_asm) (by k_asm) (by k_asm) (by k_asm) rfl (by ktr_room) (by k_mem) (by k_updF) (by first | assumption | k_ne) (by bits_fit) (by first | assumption | omega) ?_; k_whole; (intro zh1 ztk1 zi1 zv1 zvt1 zF1 zN1 zK1; (try dsimp only at zN1); (try dsimp only)))) | ((with_reducible show wpAny _ _ (call (Value.ref 109) [Value.str (Str.mk #[_]) _]) _ _ _); k_dflt (refine' is_space_spec (by k_asm) (by k_asm) (by k_asm) (by k_asm) (by k_asm) rfl (by ktr_room) ?_; k_whole; (intro zh1 ztk1 zF1 zN1 zK1; (try dsimp only)))) | ((with_reducible show wpAny _ _ (call (Value.ref 206) [Value.ref _, Value.str _ _]) _ _ _); k_dflt (refine' fault_spec (by k_asm) (by k_asm) (by k_asm) (by k_asm) (by k_asm) rfl (by ktr_room) (by k_mem) (by k_mem) ?_; k_whole; intro zh1 ztk1 ze1 zd1 zt1 zF1 zN1 zfe1 zK1; (try dsimp only))) | ((with_reducible show wpAny _ _ (call (Value.ref 227) [Value.ref _, Value.str _ _]) _ _ _); k_dflt (refine' takes1 (by k_asm) (by k_asm) (by k_asm) (by k_asm) (by k_asm) rfl (by ktr_room) (by k_mem) (by k_updF) (by first | assumption | k_ne) (by first | assumption | (show Str.cps _ = #[44]; rfl) | (show Str.cps _ = #[124]; rfl) | (show Str.cps _ = #[41]; rfl) | (show Str.cps _ = #[42]; rfl) | (show Str.cps _ = #[63]; rfl) | (show Str.cps _ = #[43]; rfl)) ?_ ?_; k_whole; (intro zq1 zh1 ztk1 zi1 zF1 zN1 zK1; (try dsimp only at zN1); (try dsimp only)))) | ((with_reducible show wpAny _ _ (call (Value.ref 168) [Value.str _ _, Value.int _ _]) _ _ _); k_dflt (refine' make168 (by k_asm) (by k_asm) (by k_asm) (by k_asm) rfl (by ktr_room) (by k_asm) ?_; k_whole; intro zh1 ztk1 ze1 zdx1 zt1 zF1 zN1 zfe1 zK1; (try dsimp only))) | ((with_reducible show wpAny _ _ (call (Value.ref 144) [Value.ref _, Value.str _ _]) _ _ _); k_dflt (refine' init147 (by k_asm) (by k_asm) (by k_asm) (by k_asm) rfl (by ktr_room) (by k_asm) ?_; k_whole; intro zh1 ztk1 zdx1 zt1 zod1 zF1 zN1 zne1 zS1 zK1; (try dsimp only))) | (k_unfold; (try dsimp only)) | (k_end; wrow_close) | walk1 | (dsimp only; walk1) | (leave1; try dsimp only)))
  all_goals (repeat' (first | k_unfold | dsimp only))
  · (with_reducible rename Fr g' L' _ _ => F9); (with_reducible rename News g' L' _ _ => N9); (with_reducible rename (sg t)[_]? = some 63 => hc)
    obtain ⟨F8, N8, K8⟩ := back F N₀ K' F9 N9
    have K7 := keepBut (d := dx) N₀ N8 K8 (by tb_rel)
    exact retT 63 hc (by simp) _ _ _ _ F8 (News.upd1 N U K7 (N8 (dx, _) (by k_mem)).1) K7
  · (with_reducible rename Fr g' L' _ _ => F9); (with_reducible rename News g' L' _ _ => N9); (with_reducible rename (sg t)[_]? = some 42 => hc)
    obtain ⟨F8, N8, K8⟩ := back F N₀ K' F9 N9
    have K7 := keepBut (d := dx) N₀ N8 K8 (by tb_rel)
    exact retT 42 hc (by simp) _ _ _ _ F8 (News.upd1 N U K7 (N8 (dx, _) (by k_mem)).1) K7
  · (with_reducible rename Fr g' L' _ _ => F9); (with_reducible rename News g' L' _ _ => N9); (with_reducible rename (sg t)[_]? = some 43 => hc)
    obtain ⟨F8, N8, K8⟩ := back F N₀ K' F9 N9
    have K7 := keepBut (d := dx) N₀ N8 K8 (by tb_rel)
    exact retT 43 hc (by simp) _ _ _ _ F8 (News.upd1 N U K7 (N8 (dx, _) (by k_mem)).1) K7
  · (rename Fr g' L' _ _ => F9); (rename News g' L' _ _ => N9); (with_reducible rename (sg t)[_]? ≠ some 63 => hc1); (with_reducible rename (sg t)[_]? ≠ some 42 => hc2); (with_reducible rename (sg t)[_]? ≠ some 43 => hc3)
    obtain ⟨F8, N8, K8⟩ := back F N₀ K' F9 N9
    have K7 := keepAll N₀ N8 K8 (by tb_rel)
    refine retF (fun c q hm => ?_) _ _ _ F8 (News.same N K7) K7
    simp only [List.mem_cons, List.not_mem_nil, or_false] at hm
    rcases hm with rfl | rfl | rfl
    · exact hc1 q
    · exact hc2 q
    · exact hc3 q
end
section
open PySem.Builtin PySem.Builtin.Str
theorem slice_hi (x : Str) (l : Option Int) {b : Int} (hb : (x.length : Int) ≤ b) : StrLaws.sliceText x l (some b) = StrLaws.sliceText x l (some (x.length : Int)) := by
  have e : strSliceIndices l (some b) 1 x.length = strSliceIndices l (some (x.length : Int)) 1 x.length := by
    have h1 : ¬ (b < 0) := by omega
    have h2 : ¬ ((x.length : Int) < 0) := by omega
    have h3 : min b (x.length : Int) = x.length := by omega
    have h4 : min (x.length : Int) (x.length : Int) = x.length := by omega
    simp [strSliceIndices, h1, h2, h3, h4]
  unfold StrLaws.sliceText
  rw [e]
theorem sg_slice (t : Str) {a b : Nat} (hab : a ≤ b) (ha : a ≤ t.length) : sg (Txt.slice t (some (a : Int)) (some (b : Int))) = ((sg t).drop a).take (b - a) := by
  show sg (StrLaws.sliceText t (some (a : Int)) (some (b : Int))) = _
  by_cases hb : b ≤ t.length
  · rw [StrLaws.sliceText_nat t hab hb]; unfold sg; simp
  · rw [slice_hi t _ (by omega), StrLaws.sliceText_nat t ha (Nat.le_refl _)]
    have h1 : ((sg t).drop a).length = t.length - a := by rw [List.length_drop, sg_len]
    show (((sg t).drop a).take (t.length - a)).toArray.toList = _
    rw [List.take_of_length_le (by omega), List.take_of_length_le (by omega)]
theorem sg_slice_to (t : Str) {b : Nat} (hb : b ≤ t.length) : sg (Txt.slice t none (some (b : Int))) = (sg t).take b := by
  show sg (StrLaws.sliceText t none (some (b : Int))) = _
  rw [StrLaws.sliceText_to ⟨by omega, by rw [Array.length_toList]; show (b : Int) ≤ t.length; omega⟩]
  unfold sg
  simp
theorem sw_pre {t word : Str} {k : Nat} (hw : sg word = (sg t).take k) : Txt.startswith3 t word 0 = true := by
  unfold Txt.startswith3
  rw [show fromIndex t.length 0 = 0 from fromIndex_nat t.length 0, StrLaws.subAt_eq]
  have h1 : word.length = min k t.length := by rw [← sg_len, hw, List.length_take, sg_len]
  show (decide (0 + word.length ≤ t.length) && (((sg t).drop 0).take word.length == sg word)) = true
  rw [decide_eq_true (show 0 + word.length ≤ t.length by omega), Bool.true_and, List.drop_zero, hw, h1]
  rw [beq_iff_eq]
  by_cases hk : k ≤ t.length
  · rw [show min k t.length = k by omega]
  · rw [show min k t.length = t.length by omega, List.take_of_length_le (Nat.le_of_eq (sg_len t)), List.take_of_length_le (by rw [sg_len]; omega)]
end
section
variable {prog : Program} {w : World} {A : Around} {E : Value → Shared → Prop} {s : Shared} {env : Env} {h₀ : Heap} {x : Str} {body : List Stmt} {Q : Flow → Shared → Prop}
theorem iter_rangeJ {r : Addr} {a₀ b₀ : Int} {t₀ u₀ v₀ : Tok} {n : Nat} {m₀ : Str → Option Value} {news : List (Addr × Obj)} (J : Nat → (Str → Option Value) → List (Addr × Obj) → Prop)
    (hh : A.handled = none) (hr : IsRange s.heap r a₀ b₀ 1 t₀ u₀ v₀) (hsmall : Builtin.Range.small a₀ b₀ 1 = true) (hn : Builtin.Range.rangeSize a₀ b₀ 1 = (n : Int)) (F : Fr h₀ env.locals s.heap m₀) (N : News h₀ env.locals s.heap news) (hj : J 0 m₀ news)
    (turn : ∀ i t m₁ nx h tk own, i < n → OwnOff own (news.map (·.1)) → J i m₁ nx → Fr h₀ env.locals h (fun y => if y = x then some (.int (a₀ + (i : Int)) t) else m₁ y) → News h₀ env.locals h (nx ++ own) →
      wpAny (model prog w) A (execs body env) (InvPostN h₀ env.locals (J (i + 1)) own (news.map (·.1)) { s with heap := h, toks := tk } Q) E { s with heap := h, toks := tk })
    (done : ∀ m₁ nx h tk, J n m₁ nx → Fr h₀ env.locals h m₁ → News h₀ env.locals h nx → Q .next { s with heap := h, toks := tk }) :
    wpAny (model prog w) A (pyIter (.ref r)) (fun it s₂ => LoopAtV prog w A h₀ env x body Q E it s₂) E s := by
  refine wpAny_pyIter_range hr hsmall ?_
  have W : Walks prog w A s.heap.objs.size [s.heap.objs.size] [s.heap.objs.size] n (fun i v => i < n ∧ ∃ t, v = .int (a₀ + i * 1) t)
      (fun i h => IsRangeIter h s.heap.objs.size (a₀ + (i : Nat) * 1) ((n : Int) - (i : Nat)) 1) := (Walks.range hh _ a₀ 1 n).bound
  refine loop_invN J W ?_ ?_ ?_ ?_ (by show IsRangeIter _ _ _ _ _; rw [hn]; simpa using Heap.get?_push_size _ rfl) (F.push _) (fun p hp => ⟨Heap.get?_push_of_some _ (N p hp).1, (N p hp).2⟩) hj ?_ ?_
  · intro hm
    exact absurd F.ns.lt ((List.mem_singleton.mp hm) ▸ Nat.lt_irrefl _)
  · intro b hb
    rw [List.mem_singleton.mp hb]
    exact next_is_new F
  · intro p hp hI
    exact absurd (Heap.lt_size (N p hp).1) ((List.mem_singleton.mp hI) ▸ Nat.lt_irrefl _)
  · intro p hp hI
    exact absurd (Heap.lt_size (N p hp).1) ((List.mem_singleton.mp hI) ▸ Nat.lt_irrefl _)
  · rintro i v m₁ nx h tk own hi ⟨_, t, rfl⟩ _ hoff hJ F₁ N₁
    have e1 : a₀ + (i : Int) * 1 = a₀ + (i : Int) := by omega
    rw [e1] at F₁
    exact turn i t m₁ nx h tk own hi hoff hJ F₁ N₁
  · intro m₁ nx h tk hJ F₁ N₁
    exact done m₁ nx h tk hJ F₁ N₁
end
local macro_rules | `(tactic| k_all) => `(tactic| (intro p hp; exact Nat.ne_of_lt ((by assumption : ∀ q ∈ _, @LT.lt Nat _ (Prod.fst q) _) p hp)))
section
variable {w : World} {A₀ : Around} {E : Value → Shared → Prop} {s : Shared} {base h₀ : Heap} {outer : List Env} {L : Addr} {m : Str → Option Value} {news : List (Addr × Obj)}
  {p : Program} {loose : List Str} {mean : ExcName → Option Value} {mg mb : Str → Option Value} {dp un : Nat} {gd : Option (List Code)} {cn : Str} {cs : Scope} {a : Addr} {ccd : Value} {cl : List (Str × Addr)} {Q : Value → Shared → Prop}
  {tt : Tok} {t : Str}
theorem scan_new (B : Below A₀ base outer h₀) (F : Fr h₀ L s.heap m) (X : (hd.heap_1 w.params).In h₀) (N : News h₀ L s.heap news) (T : Top p loose mean mg mb h₀) (hk : cs.kind = .function) (hdp : dp + 10 < recursionLimit)
  (ret : ∀ h' tk' x dx h1 h2 h3 h4 k1 k2 k3 k4 b1 it, Fr h₀ L h' m → News h₀ L h' ((x, instObj 293 dx) :: (dx, dictOf (scanD h1 h2 h3 h4 k1 k2 k3 k4 t tt 0 b1 0 it) 4) :: news) → (∀ q ∈ news, q.1 < dx) → dx < x → Q (.ref x) { s with heap := h', toks := tk' }) :
  wpAny (model PySem.Challenge.rw_xw0208_01.row.prog w) (ktrTop dp un gd cn cs L a ccd cl outer) (call (.ref 293) [.str t tt]) Q E s := by
  revert X; k_fill; intro X
  (refine' call_cls ?k1 ?k2 ?k3 ?k4 ?k5 ?k6 ?_; (case k1 => k_asm); (case k2 => k_asm); (case k3 => k_asm); (case k4 => k_is); (case k5 => k_is); (case k6 => k_is); k_whole; intro x' d' h' F' N' l1 l2; (try k_lt2 l2); (try k_sweep))
  k_dflt (refine' code_def ?k1 ?k2 ?k3 ?k4 ?k5 ?kA ?kF ?kK ?k6 ?k7 ?k8 ?k9 ?kB ?_ ?c2 ?c3 ?c4 ?c5; (case kA => exact rfl); (case kF => exact rfl); (case kK => exact hk); (case k1 => k_asm); (case k2 => k_asm); (case k3 => k_asm); (case k4 => k_asm); (case k5 => k_asm); (case k6 => k_is); (case k7 => k_is); (case k8 => ktr_room); (case k9 => first | exact BindsTo.of_eq rfl | exact binds_K (by k_in) rfl (by k_is) rfl rfl rfl | fail "k_enter: no rule for these arguments"); (case c5 => decide); (case kB => exact locs rfl); (case c2 => exact rfl); (case c3 => exact rfl); (case c4 => exact rfl); k_whole; intro g' L' h' FG' F' N' B' X' T'; (try dsimp only); (try k_lift B'); (try k_fold))
  k_steps
  (with_reducible rename Fr h₀ L _ m => F8); (with_reducible rename News h₀ L _ _ => N8)
  exact ret _ _ _ _ _ _ _ _ _ _ _ _ _ _ F8 N8 l1 l2
end
section
open PySem.Builtin PySem.Builtin.Str
variable {t : Str} {j c : Nat}
theorem item_nat (hj : (j : Int) < t.length) : ∃ c, (sg t)[j]? = some c ∧ Txt.item t (j : Int) = ⟨#[c]⟩ := by
  have hn : j < (sg t).length := by rw [sg_len]; omega
  refine ⟨(sg t)[j], List.getElem?_eq_some_iff.mpr ⟨hn, rfl⟩, ?_⟩
  have hc : Txt.charAt t (j : Int) = some (sg t)[j] := by
    unfold Txt.charAt seqIndex?
    have h1 : ¬ ((j : Int) < 0) := by omega
    have h2 : (decide (0 ≤ (j : Int)) && decide ((j : Int) < (t.length : Int))) = true := by
      rw [decide_eq_true (show 0 ≤ (j : Int) by omega), decide_eq_true hj]; rfl
    simp only [if_neg h1]
    rw [if_pos h2]
    show t.cps[(j : Int).toNat]? = _
    rw [Int.toNat_natCast, ← Array.getElem?_toList]
    exact List.getElem?_eq_some_iff.mpr ⟨hn, rfl⟩
  unfold Txt.item
  rw [hc]; rfl
theorem item_is (hj : (j : Int) < t.length) (q : (sg t)[j]? = some c) : Txt.item t (j : Int) = ⟨#[c]⟩ := by
  obtain ⟨c', h1, h2⟩ := item_nat hj
  rw [q] at h1; cases h1; exact h2
theorem occ_one (x : Str) (c : Nat) : (occurrences x ⟨#[c]⟩ 0 x.length 1).isEmpty = !(sg x).contains c := by
  have := StrLaws.found_one x c
  rw [show decide (c ∈ x.cps.toList) = (sg x).contains c from by rw [show x.cps.toList = sg x from rfl, List.contains_eq_mem]] at this
  rw [← this]; simp
theorem mk1 (hj : (j : Int) < t.length) (e : (occurrences (Str.ofString "?*+") (Txt.item t (j : Int)) 0 (Str.ofString "?*+").length 1).isEmpty = true) (q : (sg t)[j]? = some c) (m : c ∈ [63, 42, 43]) : False := by
  rw [item_is hj q, occ_one, show sg (Str.ofString "?*+") = [63, 42, 43] from rfl, List.contains_eq_mem, decide_eq_true m] at e
  cases e
theorem mk2 (hj : (j : Int) < t.length) (e : (occurrences (Str.ofString "?*+") (Txt.item t (j : Int)) 0 (Str.ofString "?*+").length 1).isEmpty = false) (n : ∀ c, (sg t)[j]? = some c → ¬c ∈ [63, 42, 43]) : False := by
  obtain ⟨c, h1, h2⟩ := item_nat hj
  rw [h2, occ_one, show sg (Str.ofString "?*+") = [63, 42, 43] from rfl, List.contains_eq_mem, decide_eq_false (n c h1)] at e
  cases e
theorem mk3 (hj : ¬ (j : Int) < t.length) (q : (sg t)[j]? = some c) : False := by
  obtain ⟨h, _⟩ := List.getElem?_eq_some_iff.mp q
  rw [sg_len] at h; omega
theorem mk4 (hj : (j : Int) < t.length) (q : (sg t)[j]? = some c) (e : (({ cps := #[c] } : Str) != Txt.item t (j : Int)) = true) : False := by
  rw [item_is hj q] at e; simp at e
theorem mk5 (hj : (j : Int) < t.length) (q : (sg t)[j]? = some c) (e : ((j + 1 : Nat) : Int) ≠ (j : Int) + ((Txt.item t (j : Int)).length : Int)) : False := by
  rw [item_is hj q] at e; exact e rfl
end
section
variable {h₀ : Heap} {L : Addr} {x : Str} {stored : List Str} {m₀ m' : Str → Option Value} {own news' : List (Addr × Obj)} {s₁ : Shared} {h' : Heap} {tk' : Nat} {pre : List Int}
theorem turn_end (F : Fr h₀ L h' m') (N : News h₀ L h' news') (hs : ∀ p ∈ own, p ∈ news') (hm : ∀ z, z ≠ x → stored.contains z = false → m' z = m₀ z) :
    InvEndN h₀ L (KstS (σ := Unit) (fun _ => []) (fun _ => []) (fun _ => True) x stored m₀ (fun _ _ => True) pre) own ([].map (fun x : Addr × Obj => x.1)) s₁ { s₁ with heap := h', toks := tk' } :=
  ⟨h', tk', m', news', [], rfl, F, N, (fun _ h => nomatch h), hs, rfl, (), rfl, trivial, (fun _ h => nomatch h), (fun z h1 _ h2 => hm z h1 h2), trivial⟩
end
section
variable {w : World} {A₀ : Around} {E : Value → Shared → Prop} {s : Shared} {base h₀ : Heap} {outer : List Env} {L : Addr} {m : Str → Option Value} {news : List (Addr × Obj)}
  {p : Program} {loose : List Str} {mean : ExcName → Option Value} {mg mb : Str → Option Value} {dp un : Nat} {gd : Option (List Code)} {cn : Str} {cs : Scope} {a : Addr} {ccd : Value} {cl : List (Str × Addr)} {Q : Value → Shared → Prop}
  {x dx : Addr} {h1 h2 h3 h4 : Int} {k1 k2 k3 k4 tt bt it wt : Tok} {t word : Str} {b : Int} {n k : Nat} {gf : Obj → List (Addr × Obj)}

theorem takes_pre (B : Below A₀ base outer h₀) (F : Fr h₀ L s.heap m) (X : (hd.heap_1 w.params).In h₀) (N : News h₀ L s.heap news) (T : Top p loose mean mg mb h₀) (hk : cs.kind = .function) (hdp : dp + 2 < recursionLimit)
  (hx : (x, instObj 293 dx) ∈ news) (U : UpdF dx (dictOf (scanD h1 h2 h3 h4 k1 k2 k3 k4 t tt b bt 0 it) 4) news gf) (hne : x ≠ dx) (hw : sg word = (sg t).take k) (hk1 : k ≤ t.length) (hkl : k ≤ 1000)
  (retT : ∀ h' tk' it', Fr h₀ L h' m → News h₀ L h' (gf (dictOf (scanD h1 h2 h3 h4 k1 k2 k3 k4 t tt b bt (k : Int) it') 4)) → (∀ b o, s.heap.get? b = some o → b ≠ dx → h'.get? b = some o) → Q (.bool true) { s with heap := h', toks := tk' }) :
  wpAny (model PySem.Challenge.rw_xw0208_01.row.prog w) (ktrTop dp un gd cn cs L a ccd cl outer) (call (.ref 227) [.ref x, .str word wt]) Q E s := by
  have hl : word.length = k := by rw [← sg_len, hw, List.length_take, sg_len]; omega
  refine takes_spec B F X N T hk hdp hx U hne (by omega) (fun _ h' tk' it' F' N' K' => ?_) (fun q h' tk' F' N' K' => ?_)
  · rw [hl, show (0 : Int) + (k : Int) = (k : Int) by omega] at N'
    exact retT _ _ _ F' N' K'
  · rw [sw_pre hw] at q; cases q

theorem marks_spec (B : Below A₀ base outer h₀) (F : Fr h₀ L s.heap m) (X : (hd.heap_1 w.params).In h₀) (N : News h₀ L s.heap news) (T : Top p loose mean mg mb h₀) (hk : cs.kind = .function) (hdp : dp + 10 < recursionLimit) (hlt : t.length ≤ 900)
  (ret : ∀ h' tk', Fr h₀ L h' m → News h₀ L h' news → (∀ b o, s.heap.get? b = some o → h'.get? b = some o) → Q (.bool true) { s with heap := h', toks := tk' }) :
  wpAny (model PySem.Challenge.rw_xw0208_01.row.prog w) (ktrTop dp un gd cn cs L a ccd cl outer) (call (.ref 332) [.str t tt]) Q E s := by
  revert X; k_fill; intro X
  have N₀ : News h₀ L s.heap [] := News.nil
  have hlt2 : t.length ≤ 1000 := by omega
  k_dflt (refine' enter B F X N₀ T hk ?k6 ?k7 ?k8 ?k9 ?kB ?_ ?c5 ?c2 ?c3 ?c4; (case k6 => k_is); (case k7 => k_is); (case k8 => ktr_room); (case k9 => exact BindsTo.of_eq rfl); (case c5 => decide); (case kB => exact locs rfl); (case c2 => exact rfl); (case c3 => exact rfl); (case c4 => exact rfl); k_whole; intro g' L' h' F' N' B' X' T' K' S' l'; (try dsimp only); (try k_fold))
  iterate 19 (first | ((with_reducible show wpAny _ _ (call (Value.ref 293) [Value.str _ _]) _ _ _); k_dflt (refine' scan_new (by k_asm) (by k_asm) (by k_asm) (by k_asm) (by k_asm) rfl (by ktr_room) ?_; k_whole; intro zh' ztk' zx' zdx' zh1 zh2 zh3 zh4 zk1 zk2 zk3 zk4 zb1 zit' zF' zN' zl1 zl2; (try k_lt zl1); (try k_lt2 zl2); (try k_sweep); (try dsimp only))) | walk1 | (dsimp only; walk1))
  (with_reducible rename IsRange _ _ _ _ _ _ _ _ => R9); (with_reducible rename Fr g' L' _ _ => F9); (with_reducible rename News g' L' _ _ => N9)
  refine kst_range (σ := Unit) (n := t.length + 1) (fun _ => []) (fun _ => []) (fun _ => True) ["scanner", "due"] (fun _ _ => True) () rfl R9 ?hsm ?hrn F9 N9 trivial (fun _ h => nomatch h) trivial ?turn ?done
  case hsm => exact small_one (by omega) (by omega) (by omega) (by omega)
  case hrn => rw [rangeSize_nat]; omega
  case done =>
    intro c u hh tk _ _ F1 N1
    (repeat' (first | ((with_reducible show wpAny _ _ (call (Value.ref 293) [Value.str _ _]) _ _ _); k_dflt (refine' scan_new (by k_asm) (by k_asm) (by k_asm) (by k_asm) (by k_asm) rfl (by ktr_room) ?_; k_whole; intro zh' ztk' zx' zdx' zh1 zh2 zh3 zh4 zk1 zk2 zk3 zk4 zb1 zit' zF' zN' zl1 zl2; (try k_lt zl1); (try k_lt2 zl2); (try k_sweep); (try dsimp only))) | (k_unfold; (try dsimp only)) | (k_end; wrow_close) | walk1 | (dsimp only; walk1) | (leave1; try dsimp only)))
    (try dsimp only)
    obtain ⟨F2, N2, K2⟩ := back F N₀ K' F1 N1
    have kk := keepAll N₀ N2 K2 (fun _ h => nomatch h)
    exact ret _ _ F2 (News.same N kk) kk
  case turn =>
    intro c pre k9 t9 u hh tk own hk9 hlen hown _ _ F1 N1
    obtain ⟨j, rfl⟩ : ∃ j : Nat, j = pre.length := ⟨_, rfl⟩
    rw [Int.zero_add] at hk9
    subst hk9
    generalize pre.length = j at *
    dsimp only [List.nil_append] at N1
    repeat ((fail_if_success (with_reducible show wpAny _ _ (call (Value.ref 227) [Value.ref _, Value.str _ _]) _ _ _)); (first | ((with_reducible show wpAny _ _ (call (Value.ref 293) [Value.str _ _]) _ _ _); k_dflt (refine' scan_new (by k_asm) (by k_asm) (by k_asm) (by k_asm) (by k_asm) rfl (by ktr_room) ?_; k_whole; intro zh' ztk' zx' zdx' zh1 zh2 zh3 zh4 zk1 zk2 zk3 zk4 zb1 zit' zF' zN' zl1 zl2; (try k_lt zl1); (try k_lt2 zl2); (try k_sweep); (try dsimp only))) | walk1 | (dsimp only; walk1)))
    k_dflt (refine' takes_pre (by k_asm) (by k_asm) (by k_asm) (by k_asm) (by k_asm) rfl (by ktr_room) (by k_mem) (by k_updF) (by first | assumption | k_ne) (by exact sg_slice_to _ (by omega)) (by omega) (by omega) ?_; k_whole)
    intro hh1 tkk1 i1 FT NT KT
    (try dsimp only at NT)
    (try dsimp only)
    repeat ((fail_if_success (with_reducible show wpAny _ _ (eval (Expr.IfExp _ _ _ _) _) _ _ _)); (first | ((with_reducible show wpAny _ _ (call (Value.ref 293) [Value.str _ _]) _ _ _); k_dflt (refine' scan_new (by k_asm) (by k_asm) (by k_asm) (by k_asm) (by k_asm) rfl (by ktr_room) ?_; k_whole; intro zh' ztk' zx' zdx' zh1 zh2 zh3 zh4 zk1 zk2 zk3 zk4 zb1 zit' zF' zN' zl1 zl2; (try k_lt zl1); (try k_lt2 zl2); (try k_sweep); (try dsimp only))) | walk1 | (dsimp only; walk1)))
    (with_reducible rename Fr g' L' _ _ => F6); (with_reducible rename News g' L' _ _ => N6)
    obtain ⟨m6, hm6, F7⟩ : ∃ M, M = _ ∧ Fr g' L' _ M := ⟨_, rfl, F6⟩
    obtain ⟨n6, hn6, N7⟩ : ∃ n6, n6 = _ ∧ News g' L' _ n6 := ⟨_, rfl, N6⟩
    obtain ⟨P2, hP2⟩ : ∃ P : Value → Shared → Prop, P = fun v s' => ∃ (d : Str) (u : Tok) (hh : Heap) (tk : Nat), v = .str d u ∧ s' = { s with heap := hh, toks := tk } ∧ Fr g' L' hh m6 ∧ News g' L' hh n6 ∧ ((∃ c, (sg t)[j]? = some c ∧ c ∈ [63, 42, 43] ∧ d = ⟨#[c]⟩) ∨ ((∀ c, (sg t)[j]? = some c → ¬ c ∈ [63, 42, 43]) ∧ d = Str.ofString "")) := ⟨_, rfl⟩
    refine wpAny_mono (Q := P2) ?ev ?go (fun _ _ h => h)
    case ev =>
      clear F6 N6
      subst hm6 hn6
      (repeat' (first | ((with_reducible show wpAny _ _ (call (Value.ref 293) [Value.str _ _]) _ _ _); k_dflt (refine' scan_new (by k_asm) (by k_asm) (by k_asm) (by k_asm) (by k_asm) rfl (by ktr_room) ?_; k_whole; intro zh' ztk' zx' zdx' zh1 zh2 zh3 zh4 zk1 zk2 zk3 zk4 zb1 zit' zF' zN' zl1 zl2; (try k_lt zl1); (try k_lt2 zl2); (try k_sweep); (try dsimp only))) | (k_unfold; (try dsimp only)) | (k_end; wrow_close) | walk1 | (dsimp only; walk1) | (leave1; try dsimp only)))
      all_goals (rw [hP2]; refine ⟨_, _, _, _, rfl, rfl, by assumption, by assumption, ?_⟩)
      · (with_reducible rename (_ : Int) < _ => hj); (with_reducible rename _ = true => hem)
        exact .inr ⟨fun c q m => mk1 hj hem q m, rfl⟩
      · (with_reducible rename (_ : Int) < _ => hj); (with_reducible rename _ = false => hem)
        obtain ⟨c, h1, h2⟩ := item_nat hj
        exact .inl ⟨c, h1, Decidable.byContradiction fun n => mk2 hj hem (fun c' h' => by rw [h1] at h'; cases h'; exact n), h2⟩
      · (with_reducible rename ¬ (_ : Int) < _ => hj)
        exact .inr ⟨fun c q _ => mk3 hj q, rfl⟩
    case go =>
    intro v s' hp; rw [hP2] at hp
    obtain ⟨d, u, hh, tk, rfl, rfl, F8, N8, hd⟩ := hp
    clear F6 N6 F7 N7
    subst hm6 hn6
    (try dsimp only)
    repeat ((fail_if_success (with_reducible show wpAny _ _ (call (Value.ref 29) [Value.ref _]) _ _ _)); (first | ((with_reducible show wpAny _ _ (call (Value.ref 293) [Value.str _ _]) _ _ _); k_dflt (refine' scan_new (by k_asm) (by k_asm) (by k_asm) (by k_asm) (by k_asm) rfl (by ktr_room) ?_; k_whole; intro zh' ztk' zx' zdx' zh1 zh2 zh3 zh4 zk1 zk2 zk3 zk4 zb1 zit' zF' zN' zl1 zl2; (try k_lt zl1); (try k_lt2 zl2); (try k_sweep); (try dsimp only))) | walk1 | (dsimp only; walk1)))
    k_dflt (refine' read_mark_spec (by k_asm) (by k_asm) (by k_asm) (by k_asm) (by k_asm) rfl (by ktr_room) (by k_mem) (by k_updF) (by first | assumption | k_ne) ?_ ?_; k_whole)
    · intro c1 hc1 hm1 hh1 tkk1 i1 vt1 F1 N1 K1
      (try dsimp only at N1)
      obtain rfl : d = ⟨#[c1]⟩ := hd.elim (fun ⟨c, q1, _, q3⟩ => by rw [hc1] at q1; cases q1; exact q3) (fun q => absurd hm1 (q.1 _ hc1))
      have hGG : (({ cps := #[c1] } : Str) != ({ cps := #[c1] } : Str)) = false := bne_self_eq_false _
      repeat' ((fail_if_success (with_reducible show InvEndN _ _ _ _ _ _ _)); (first | ((with_reducible show wpAny _ _ (call (Value.ref 293) [Value.str _ _]) _ _ _); k_dflt (refine' scan_new (by k_asm) (by k_asm) (by k_asm) (by k_asm) (by k_asm) rfl (by ktr_room) ?_; k_whole; intro zh' ztk' zx' zdx' zh1 zh2 zh3 zh4 zk1 zk2 zk3 zk4 zb1 zit' zF' zN' zl1 zl2; (try k_lt zl1); (try k_lt2 zl2); (try k_sweep); (try dsimp only))) | walk1 | (dsimp only; walk1)))
      all_goals (try dsimp only)
      all_goals first
        | (exfalso; (with_reducible rename (_ : Int) ≠ _ => q); exact q rfl)
        | (exfalso; omega)
        | skip
      all_goals (refine turn_end (by assumption) (by assumption) (fun p hp => .tail _ (.tail _ hp)) ?_)
      all_goals (
        intro z h1 h2
        have h3 : z ≠ Str.ofString "scanner" := fun e => by subst e; exact Bool.noConfusion (h2.symm.trans (by rfl))
        have h4 : z ≠ Str.ofString "due" := fun e => by subst e; exact Bool.noConfusion (h2.symm.trans (by rfl))
        simp only [h1, h3, h4, if_false]
        dsimp only [kstB]
        rw [h2]; rfl)
    · intro hn1 hh1 tkk1 vt1 F1 N1 K1
      obtain rfl : d = Str.ofString "" := hd.elim (fun ⟨c, q1, q2, _⟩ => absurd q2 (hn1 _ q1)) (fun q => q.2)
      have hGG : (Str.ofString "" != Str.ofString "") = false := bne_self_eq_false _
      repeat' ((fail_if_success (with_reducible show InvEndN _ _ _ _ _ _ _)); (first | ((with_reducible show wpAny _ _ (call (Value.ref 293) [Value.str _ _]) _ _ _); k_dflt (refine' scan_new (by k_asm) (by k_asm) (by k_asm) (by k_asm) (by k_asm) rfl (by ktr_room) ?_; k_whole; intro zh' ztk' zx' zdx' zh1 zh2 zh3 zh4 zk1 zk2 zk3 zk4 zb1 zit' zF' zN' zl1 zl2; (try k_lt zl1); (try k_lt2 zl2); (try k_sweep); (try dsimp only))) | walk1 | (dsimp only; walk1)))
      all_goals (try dsimp only)
      all_goals first
        | (exfalso; (with_reducible rename (_ : Int) ≠ _ => q); exact q (by rfl))
        | (exfalso; omega)
        | skip
      all_goals (refine turn_end (by assumption) (by assumption) (fun p hp => .tail _ (.tail _ hp)) ?_)
      all_goals (
        intro z h1 h2
        have h3 : z ≠ Str.ofString "scanner" := fun e => by subst e; exact Bool.noConfusion (h2.symm.trans (by rfl))
        have h4 : z ≠ Str.ofString "due" := fun e => by subst e; exact Bool.noConfusion (h2.symm.trans (by rfl))
        simp only [h1, h3, h4, if_false]
        dsimp only [kstB]
        rw [h2]; rfl)
end
def isLow (c : Nat) : Bool := decide (97 ≤ c) && decide (c ≤ 122)
def isFirst (c : Nat) : Bool := isLow c || (decide (65 ≤ c) && decide (c ≤ 90)) || decide (c = 95) || decide (c = 58)
def isPart (c : Nat) : Bool := isFirst c || (decide (48 ≤ c) && decide (c ≤ 57)) || decide (c = 45) || decide (c = 46)
theorem one_lt (a b : Nat) : ([a] < [b]) ↔ a < b := by
  simp [List.cons_lt_cons_iff]
theorem lt_one (b : Nat) {x : Str} {l : Nat} (hl : x.cps.toList = [l]) : decide ([b] < x.cps.toList) = decide (b < l) := by
  rw [hl]; exact decide_eq_decide.mpr (one_lt _ _)
theorem lt_two (b : Nat) {x : Str} {l : Nat} (hl : x.cps.toList = [l]) : decide (x.cps.toList < [b]) = decide (l < b) := by
  rw [hl]; exact decide_eq_decide.mpr (one_lt _ _)
theorem lt_three (b : Nat) {x : Str} {l : Nat} (hl : x.cps.toList = [l]) : (([b] : List Nat) < x.cps.toList) ↔ b < l := by
  rw [hl]; exact one_lt _ _
theorem lt_four (b : Nat) {x : Str} {l : Nat} (hl : x.cps.toList = [l]) : (x.cps.toList < ([b] : List Nat)) ↔ l < b := by
  rw [hl]; exact one_lt _ _
theorem eq_one (c : Nat) {x : Str} {l : Nat} (hl : x = ⟨#[l]⟩) : (({ cps := #[c] } : Str) == x) = decide (c = l) := by
  rw [hl]
  by_cases h : c = l
  · subst h; simp
  · rw [decide_eq_false h, beq_eq_false_iff_ne]
    intro q; apply h
    have := congrArg (fun x : Str => x.cps.toList) q
    simpa using this
theorem bool_eq {Q : Value → Shared → Prop} {b b' : Bool} {s : Shared} (e : b = b') (h : Q (.bool b') s) : Q (.bool b) s := e ▸ h
section
variable {c : Nat} {a b : Bool}
theorem fs1 (h : isLow c = true) : isLow c = isFirst c := by unfold isFirst; rw [h]; rfl
theorem fs2 (h : isLow c = false) (h2 : (({ cps := #[c] } : Str) == Str.ofString "_") = true) : (({ cps := #[c] } : Str) == Str.ofString "_") = isFirst c := by
  rw [eq_one c (x := Str.ofString "_") (l := 95) rfl] at *; unfold isFirst; grind
theorem fs3 (h : isLow c = false) (h1 : ({ cps := #[c] } : Str).cps.toList < (Str.ofString "A").cps.toList) (h2 : (({ cps := #[c] } : Str) == Str.ofString "_") = false) : (({ cps := #[c] } : Str) == Str.ofString ":") = isFirst c := by
  have h1 := (lt_three c (x := Str.ofString "A") (l := 65) rfl).mp h1
  rw [eq_one c (x := Str.ofString "_") (l := 95) rfl] at h2; rw [eq_one c (x := Str.ofString ":") (l := 58) rfl]; unfold isFirst; grind
theorem fs4 (h : isLow c = false) (h1 : (Str.ofString "Z").cps.toList < ({ cps := #[c] } : Str).cps.toList) (h2 : (({ cps := #[c] } : Str) == Str.ofString "_") = false) : (({ cps := #[c] } : Str) == Str.ofString ":") = isFirst c := by
  have h1 := (lt_four c (x := Str.ofString "Z") (l := 90) rfl).mp h1
  rw [eq_one c (x := Str.ofString "_") (l := 95) rfl] at h2; rw [eq_one c (x := Str.ofString ":") (l := 58) rfl]; unfold isFirst; grind
theorem fs5 (h : isLow c = false) (h1 : ¬ ({ cps := #[c] } : Str).cps.toList < (Str.ofString "A").cps.toList) (h2 : ¬ (Str.ofString "Z").cps.toList < ({ cps := #[c] } : Str).cps.toList) : (!decide ((Str.ofString "Z").cps.toList < [c])) = isFirst c := by
  have h1 := fun z => h1 ((lt_three c (x := Str.ofString "A") (l := 65) rfl).mpr z)
  have h2 := fun z => h2 ((lt_four c (x := Str.ofString "Z") (l := 90) rfl).mpr z)
  rw [lt_two c (l := 90) rfl]; unfold isFirst; grind
theorem ps1 (h : isFirst c = true) : true = isPart c := by unfold isPart; rw [h]; rfl
theorem ps2 (h2 : (({ cps := #[c] } : Str) == Str.ofString "-") = true) : (({ cps := #[c] } : Str) == Str.ofString "-") = isPart c := by
  rw [eq_one c (x := Str.ofString "-") (l := 45) rfl] at *; unfold isPart; grind
theorem ps3 (h : isFirst c = false) (h1 : ({ cps := #[c] } : Str).cps.toList < (Str.ofString "0").cps.toList) (h2 : (({ cps := #[c] } : Str) == Str.ofString "-") = false) : (({ cps := #[c] } : Str) == Str.ofString ".") = isPart c := by
  have h1 := (lt_three c (x := Str.ofString "0") (l := 48) rfl).mp h1
  rw [eq_one c (x := Str.ofString "-") (l := 45) rfl] at h2; rw [eq_one c (x := Str.ofString ".") (l := 46) rfl]; unfold isPart; grind
theorem ps4 (h : isFirst c = false) (h1 : (Str.ofString "9").cps.toList < ({ cps := #[c] } : Str).cps.toList) (h2 : (({ cps := #[c] } : Str) == Str.ofString "-") = false) : (({ cps := #[c] } : Str) == Str.ofString ".") = isPart c := by
  have h1 := (lt_four c (x := Str.ofString "9") (l := 57) rfl).mp h1
  rw [eq_one c (x := Str.ofString "-") (l := 45) rfl] at h2; rw [eq_one c (x := Str.ofString ".") (l := 46) rfl]; unfold isPart; grind
theorem ps5 (h : isFirst c = false) (h1 : ¬ ({ cps := #[c] } : Str).cps.toList < (Str.ofString "0").cps.toList) (h2 : ¬ (Str.ofString "9").cps.toList < ({ cps := #[c] } : Str).cps.toList) : (!decide ((Str.ofString "9").cps.toList < [c])) = isPart c := by
  have h1 := fun z => h1 ((lt_three c (x := Str.ofString "0") (l := 48) rfl).mpr z)
  have h2 := fun z => h2 ((lt_four c (x := Str.ofString "9") (l := 57) rfl).mpr z)
  rw [lt_two c (l := 57) rfl]; unfold isPart; grind
end
section
variable {w : World} {A₀ : Around} {E : Value → Shared → Prop} {s : Shared} {base h₀ : Heap} {outer : List Env} {L : Addr} {m : Str → Option Value} {news : List (Addr × Obj)}
  {p : Program} {loose : List Str} {mean : ExcName → Option Value} {mg mb : Str → Option Value} {dp un : Nat} {gd : Option (List Code)} {cn : Str} {cs : Scope} {a : Addr} {ccd : Value} {cl : List (Str × Addr)} {Q : Value → Shared → Prop}
  {st : Tok} {c : Nat}
theorem small_spec (B : Below A₀ base outer h₀) (F : Fr h₀ L s.heap m) (X : (hd.heap_1 w.params).In h₀) (N : News h₀ L s.heap news) (T : Top p loose mean mg mb h₀) (hk : cs.kind = .function) (hdp : dp + 2 < recursionLimit)
  (ret : ∀ h' tk', Fr h₀ L h' m → News h₀ L h' news → (∀ b o, s.heap.get? b = some o → h'.get? b = some o) → Q (.bool (isLow c)) { s with heap := h', toks := tk' }) :
  wpAny (model PySem.Challenge.rw_xw0208_01.row.prog w) (ktrTop dp un gd cn cs L a ccd cl outer) (call (.ref 116) [.str ⟨#[c]⟩ st]) Q E s := by
  revert X; k_fill; intro X
  have N₀ : News h₀ L s.heap [] := News.nil
  k_dflt (refine' enter B F X N₀ T hk ?k6 ?k7 ?k8 ?k9 ?kB ?_ ?c5 ?c2 ?c3 ?c4; (case k6 => k_is); (case k7 => k_is); (case k8 => ktr_room); (case k9 => exact BindsTo.of_eq rfl); (case c5 => decide); (case kB => exact locs rfl); (case c2 => exact rfl); (case c3 => exact rfl); (case c4 => exact rfl); k_whole; intro g' L' h' F' N' B' X' T' K' S' l'; (try dsimp only); (try k_fold))
  (repeat' (first | ((with_reducible show wpAny _ _ (call (Value.ref 234) [Value.ref _, Value.str _ _]) _ _ _); k_dflt (refine' expect1 (by k_asm) (by k_asm) (by k_asm) (by k_asm) (by k_asm) rfl (by ktr_room) (by k_mem) (by k_updF) (by first | assumption | k_ne) (by first | assumption | (show Str.cps _ = #[44]; rfl) | (show Str.cps _ = #[124]; rfl) | (show Str.cps _ = #[41]; rfl)) ?_ ?_; k_whole; (intro zq1 zh1 ztk1 zi1 zF1 zN1 zK1; (try dsimp only at zN1); (try dsimp only)))) | ((with_reducible show wpAny _ _ (call (Value.ref 50) [Value.ref _, Value.ref _, Value.str _ _]) _ _ _); k_dflt (refine' set_sign_spec (by k_asm) (by k_asm) (by k_asm) (by k_asm) (by k_asm) rfl (by ktr_room) (by k_mem) (by k_mem) (by k_mem) (by k_updF) (by first | assumption | k_ne) (by first | assumption | k_ne) (by first | assumption | k_ne) (by first | assumption | k_ne) ?_ ?_ ?_; k_whole; (intro zq1 zh1 ztk1 zF1 zN1 zK1; (try dsimp only at zN1); (try dsimp only)))) | ((try dsimp only [List.append_nil, List.cons_append, List.nil_append]); (with_reducible show wpAny _ _ (call (Value.ref 241) [Value.ref _]) _ _ _); k_dflt (refine' spaces_spec (by k_asm) (by k_asm) (by k_asm) (by k_asm) (by k_asm) rfl (by ktr_room) (by k_mem) (by k_updF) (by first | assumption | k_ne) (by bits_fit) (by first | assumption | omega) ?_; k_whole; (intro zh1 ztk1 zi1 zv1 zvt1 zF1 zN1 zK1; (try dsimp only at zN1); (try dsimp only)))) | ((with_reducible show wpAny _ _ (call (Value.ref 109) [Value.str (Str.mk #[_]) _]) _ _ _); k_dflt (refine' is_space_spec (by k_asm) (by k_asm) (by k_asm) (by k_asm) (by k_asm) rfl (by ktr_room) ?_; k_whole; (intro zh1 ztk1 zF1 zN1 zK1; (try dsimp only)))) | ((with_reducible show wpAny _ _ (call (Value.ref 206) [Value.ref _, Value.str _ _]) _ _ _); k_dflt (refine' fault_spec (by k_asm) (by k_asm) (by k_asm) (by k_asm) (by k_asm) rfl (by ktr_room) (by k_mem) (by k_mem) ?_; k_whole; intro zh1 ztk1 ze1 zd1 zt1 zF1 zN1 zfe1 zK1; (try dsimp only))) | ((with_reducible show wpAny _ _ (call (Value.ref 227) [Value.ref _, Value.str _ _]) _ _ _); k_dflt (refine' takes1 (by k_asm) (by k_asm) (by k_asm) (by k_asm) (by k_asm) rfl (by ktr_room) (by k_mem) (by k_updF) (by first | assumption | k_ne) (by first | assumption | (show Str.cps _ = #[44]; rfl) | (show Str.cps _ = #[124]; rfl) | (show Str.cps _ = #[41]; rfl) | (show Str.cps _ = #[42]; rfl) | (show Str.cps _ = #[63]; rfl) | (show Str.cps _ = #[43]; rfl)) ?_ ?_; k_whole; (intro zq1 zh1 ztk1 zi1 zF1 zN1 zK1; (try dsimp only at zN1); (try dsimp only)))) | ((with_reducible show wpAny _ _ (call (Value.ref 168) [Value.str _ _, Value.int _ _]) _ _ _); k_dflt (refine' make168 (by k_asm) (by k_asm) (by k_asm) (by k_asm) rfl (by ktr_room) (by k_asm) ?_; k_whole; intro zh1 ztk1 ze1 zdx1 zt1 zF1 zN1 zfe1 zK1; (try dsimp only))) | ((with_reducible show wpAny _ _ (call (Value.ref 144) [Value.ref _, Value.str _ _]) _ _ _); k_dflt (refine' init147 (by k_asm) (by k_asm) (by k_asm) (by k_asm) rfl (by ktr_room) (by k_asm) ?_; k_whole; intro zh1 ztk1 zdx1 zt1 zod1 zF1 zN1 zne1 zS1 zK1; (try dsimp only))) | (k_unfold; (try dsimp only)) | (k_end; wrow_close) | walk1 | (dsimp only; walk1) | (leave1; try dsimp only)))
  all_goals (repeat' (first | k_unfold | dsimp only))
  all_goals ((with_reducible rename Fr g' L' _ _ => F9); (with_reducible rename News g' L' _ _ => N9))
  all_goals (obtain ⟨F8, N8, K8⟩ := back F N₀ K' F9 N9)
  all_goals have K7 := keepAll N₀ N8 K8 (by tb_rel)
  · rename _ < _ => q1
    have q2 := (lt_three c (x := Str.ofString "a") (l := 97) rfl).mp q1
    have e1 : (!decide ([c] < (Str.ofString "a").cps.toList)) = isLow c := by
      rw [lt_one c (l := 97) rfl]; unfold isLow; grind
    rw [e1]
    exact ret _ _ F8 (News.same N K7) K7
  · rename ¬ _ < _ => q1
    have q2 := fun z => q1 ((lt_three c (x := Str.ofString "a") (l := 97) rfl).mpr z)
    have e1 : (!decide ((Str.ofString "z").cps.toList < [c])) = isLow c := by
      rw [lt_two c (l := 122) rfl]; unfold isLow; grind
    rw [e1]
    exact ret _ _ F8 (News.same N K7) K7

theorem first_spec (B : Below A₀ base outer h₀) (F : Fr h₀ L s.heap m) (X : (hd.heap_1 w.params).In h₀) (N : News h₀ L s.heap news) (T : Top p loose mean mg mb h₀) (hk : cs.kind = .function) (hdp : dp + 4 < recursionLimit) (hc : c < 128)
  (ret : ∀ h' tk', Fr h₀ L h' m → News h₀ L h' news → (∀ b o, s.heap.get? b = some o → h'.get? b = some o) → Q (.bool (isFirst c)) { s with heap := h', toks := tk' }) :
  wpAny (model PySem.Challenge.rw_xw0208_01.row.prog w) (ktrTop dp un gd cn cs L a ccd cl outer) (call (.ref 123) [.str ⟨#[c]⟩ st]) Q E s := by
  revert X; k_fill; intro X
  have N₀ : News h₀ L s.heap [] := News.nil
  k_dflt (refine' enter B F X N₀ T hk ?k6 ?k7 ?k8 ?k9 ?kB ?_ ?c5 ?c2 ?c3 ?c4; (case k6 => k_is); (case k7 => k_is); (case k8 => ktr_room); (case k9 => exact BindsTo.of_eq rfl); (case c5 => decide); (case kB => exact locs rfl); (case c2 => exact rfl); (case c3 => exact rfl); (case c4 => exact rfl); k_whole; intro g' L' h' F' N' B' X' T' K' S' l'; (try dsimp only); (try k_fold))
  (repeat' (first | ((with_reducible show wpAny _ _ (call (Value.ref 116) [Value.str (Str.mk #[_]) _]) _ _ _); k_dflt (refine' small_spec (by k_asm) (by k_asm) (by k_asm) (by k_asm) (by k_asm) rfl (by ktr_room) ?_; k_whole; (intro zh1 ztk1 zF1 zN1 zK1; (try dsimp only)))) | ((with_reducible show wpAny _ _ (call (Value.ref 234) [Value.ref _, Value.str _ _]) _ _ _); k_dflt (refine' expect1 (by k_asm) (by k_asm) (by k_asm) (by k_asm) (by k_asm) rfl (by ktr_room) (by k_mem) (by k_updF) (by first | assumption | k_ne) (by first | assumption | (show Str.cps _ = #[44]; rfl) | (show Str.cps _ = #[124]; rfl) | (show Str.cps _ = #[41]; rfl)) ?_ ?_; k_whole; (intro zq1 zh1 ztk1 zi1 zF1 zN1 zK1; (try dsimp only at zN1); (try dsimp only)))) | ((with_reducible show wpAny _ _ (call (Value.ref 50) [Value.ref _, Value.ref _, Value.str _ _]) _ _ _); k_dflt (refine' set_sign_spec (by k_asm) (by k_asm) (by k_asm) (by k_asm) (by k_asm) rfl (by ktr_room) (by k_mem) (by k_mem) (by k_mem) (by k_updF) (by first | assumption | k_ne) (by first | assumption | k_ne) (by first | assumption | k_ne) (by first | assumption | k_ne) ?_ ?_ ?_; k_whole; (intro zq1 zh1 ztk1 zF1 zN1 zK1; (try dsimp only at zN1); (try dsimp only)))) | ((try dsimp only [List.append_nil, List.cons_append, List.nil_append]); (with_reducible show wpAny _ _ (call (Value.ref 241) [Value.ref _]) _ _ _); k_dflt (refine' spaces_spec (by k_asm) (by k_asm) (by k_asm) (by k_asm) (by k_asm) rfl (by ktr_room) (by k_mem) (by k_updF) (by first | assumption | k_ne) (by bits_fit) (by first | assumption | omega) ?_; k_whole; (intro zh1 ztk1 zi1 zv1 zvt1 zF1 zN1 zK1; (try dsimp only at zN1); (try dsimp only)))) | ((with_reducible show wpAny _ _ (call (Value.ref 109) [Value.str (Str.mk #[_]) _]) _ _ _); k_dflt (refine' is_space_spec (by k_asm) (by k_asm) (by k_asm) (by k_asm) (by k_asm) rfl (by ktr_room) ?_; k_whole; (intro zh1 ztk1 zF1 zN1 zK1; (try dsimp only)))) | ((with_reducible show wpAny _ _ (call (Value.ref 206) [Value.ref _, Value.str _ _]) _ _ _); k_dflt (refine' fault_spec (by k_asm) (by k_asm) (by k_asm) (by k_asm) (by k_asm) rfl (by ktr_room) (by k_mem) (by k_mem) ?_; k_whole; intro zh1 ztk1 ze1 zd1 zt1 zF1 zN1 zfe1 zK1; (try dsimp only))) | ((with_reducible show wpAny _ _ (call (Value.ref 227) [Value.ref _, Value.str _ _]) _ _ _); k_dflt (refine' takes1 (by k_asm) (by k_asm) (by k_asm) (by k_asm) (by k_asm) rfl (by ktr_room) (by k_mem) (by k_updF) (by first | assumption | k_ne) (by first | assumption | (show Str.cps _ = #[44]; rfl) | (show Str.cps _ = #[124]; rfl) | (show Str.cps _ = #[41]; rfl) | (show Str.cps _ = #[42]; rfl) | (show Str.cps _ = #[63]; rfl) | (show Str.cps _ = #[43]; rfl)) ?_ ?_; k_whole; (intro zq1 zh1 ztk1 zi1 zF1 zN1 zK1; (try dsimp only at zN1); (try dsimp only)))) | ((with_reducible show wpAny _ _ (call (Value.ref 168) [Value.str _ _, Value.int _ _]) _ _ _); k_dflt (refine' make168 (by k_asm) (by k_asm) (by k_asm) (by k_asm) rfl (by ktr_room) (by k_asm) ?_; k_whole; intro zh1 ztk1 ze1 zdx1 zt1 zF1 zN1 zfe1 zK1; (try dsimp only))) | ((with_reducible show wpAny _ _ (call (Value.ref 144) [Value.ref _, Value.str _ _]) _ _ _); k_dflt (refine' init147 (by k_asm) (by k_asm) (by k_asm) (by k_asm) rfl (by ktr_room) (by k_asm) ?_; k_whole; intro zh1 ztk1 zdx1 zt1 zod1 zF1 zN1 zne1 zS1 zK1; (try dsimp only))) | (k_unfold; (try dsimp only)) | (k_end; wrow_close) | walk1 | (dsimp only; walk1) | (leave1; try dsimp only)))
  all_goals (repeat' (first | k_unfold | dsimp only))
  all_goals ((with_reducible rename Fr g' L' _ _ => F9); (with_reducible rename News g' L' _ _ => N9))
  all_goals (obtain ⟨F8, N8, K8⟩ := back F N₀ K' F9 N9)
  all_goals have K7 := keepAll N₀ N8 K8 (by tb_rel)
  all_goals refine bool_eq (by first | exact fs1 (by assumption) | exact fs2 (by assumption) (by assumption) | exact fs3 (by assumption) (by assumption) (by assumption) | exact fs4 (by assumption) (by assumption) (by assumption) | exact fs5 (by assumption) (by assumption) (by assumption)) ?_
  all_goals exact ret _ _ F8 (News.same N K7) K7

theorem part_spec (B : Below A₀ base outer h₀) (F : Fr h₀ L s.heap m) (X : (hd.heap_1 w.params).In h₀) (N : News h₀ L s.heap news) (T : Top p loose mean mg mb h₀) (hk : cs.kind = .function) (hdp : dp + 6 < recursionLimit) (hc : c < 128)
  (ret : ∀ h' tk', Fr h₀ L h' m → News h₀ L h' news → (∀ b o, s.heap.get? b = some o → h'.get? b = some o) → Q (.bool (isPart c)) { s with heap := h', toks := tk' }) :
  wpAny (model PySem.Challenge.rw_xw0208_01.row.prog w) (ktrTop dp un gd cn cs L a ccd cl outer) (call (.ref 130) [.str ⟨#[c]⟩ st]) Q E s := by
  revert X; k_fill; intro X
  have N₀ : News h₀ L s.heap [] := News.nil
  k_dflt (refine' enter B F X N₀ T hk ?k6 ?k7 ?k8 ?k9 ?kB ?_ ?c5 ?c2 ?c3 ?c4; (case k6 => k_is); (case k7 => k_is); (case k8 => ktr_room); (case k9 => exact BindsTo.of_eq rfl); (case c5 => decide); (case kB => exact locs rfl); (case c2 => exact rfl); (case c3 => exact rfl); (case c4 => exact rfl); k_whole; intro g' L' h' F' N' B' X' T' K' S' l'; (try dsimp only); (try k_fold))
  (repeat' (first | ((with_reducible show wpAny _ _ (call (Value.ref 123) [Value.str (Str.mk #[_]) _]) _ _ _); k_dflt (refine' first_spec (by k_asm) (by k_asm) (by k_asm) (by k_asm) (by k_asm) rfl (by ktr_room) (by first | assumption | exact (by assumption : ∀ z n : Nat, (sg _)[n]? = some z → z < 128) _ _ (by assumption)) ?_; k_whole; (intro zh1 ztk1 zF1 zN1 zK1; (try dsimp only)))) | ((with_reducible show wpAny _ _ (call (Value.ref 116) [Value.str (Str.mk #[_]) _]) _ _ _); k_dflt (refine' small_spec (by k_asm) (by k_asm) (by k_asm) (by k_asm) (by k_asm) rfl (by ktr_room) ?_; k_whole; (intro zh1 ztk1 zF1 zN1 zK1; (try dsimp only)))) | ((with_reducible show wpAny _ _ (call (Value.ref 234) [Value.ref _, Value.str _ _]) _ _ _); k_dflt (refine' expect1 (by k_asm) (by k_asm) (by k_asm) (by k_asm) (by k_asm) rfl (by ktr_room) (by k_mem) (by k_updF) (by first | assumption | k_ne) (by first | assumption | (show Str.cps _ = #[44]; rfl) | (show Str.cps _ = #[124]; rfl) | (show Str.cps _ = #[41]; rfl)) ?_ ?_; k_whole; (intro zq1 zh1 ztk1 zi1 zF1 zN1 zK1; (try dsimp only at zN1); (try dsimp only)))) | ((with_reducible show wpAny _ _ (call (Value.ref 50) [Value.ref _, Value.ref _, Value.str _ _]) _ _ _); k_dflt (refine' set_sign_spec (by k_asm) (by k_asm) (by k_asm) (by k_asm) (by k_asm) rfl (by ktr_room) (by k_mem) (by k_mem) (by k_mem) (by k_updF) (by first | assumption | k_ne) (by first | assumption | k_ne) (by first | assumption | k_ne) (by first | assumption | k_ne) ?_ ?_ ?_; k_whole; (intro zq1 zh1 ztk1 zF1 zN1 zK1; (try dsimp only at zN1); (try dsimp only)))) | ((try dsimp only [List.append_nil, List.cons_append, List.nil_append]); (with_reducible show wpAny _ _ (call (Value.ref 241) [Value.ref _]) _ _ _); k_dflt (refine' spaces_spec (by k_asm) (by k_asm) (by k_asm) (by k_asm) (by k_asm) rfl (by ktr_room) (by k_mem) (by k_updF) (by first | assumption | k_ne) (by bits_fit) (by first | assumption | omega) ?_; k_whole; (intro zh1 ztk1 zi1 zv1 zvt1 zF1 zN1 zK1; (try dsimp only at zN1); (try dsimp only)))) | ((with_reducible show wpAny _ _ (call (Value.ref 109) [Value.str (Str.mk #[_]) _]) _ _ _); k_dflt (refine' is_space_spec (by k_asm) (by k_asm) (by k_asm) (by k_asm) (by k_asm) rfl (by ktr_room) ?_; k_whole; (intro zh1 ztk1 zF1 zN1 zK1; (try dsimp only)))) | ((with_reducible show wpAny _ _ (call (Value.ref 206) [Value.ref _, Value.str _ _]) _ _ _); k_dflt (refine' fault_spec (by k_asm) (by k_asm) (by k_asm) (by k_asm) (by k_asm) rfl (by ktr_room) (by k_mem) (by k_mem) ?_; k_whole; intro zh1 ztk1 ze1 zd1 zt1 zF1 zN1 zfe1 zK1; (try dsimp only))) | ((with_reducible show wpAny _ _ (call (Value.ref 227) [Value.ref _, Value.str _ _]) _ _ _); k_dflt (refine' takes1 (by k_asm) (by k_asm) (by k_asm) (by k_asm) (by k_asm) rfl (by ktr_room) (by k_mem) (by k_updF) (by first | assumption | k_ne) (by first | assumption | (show Str.cps _ = #[44]; rfl) | (show Str.cps _ = #[124]; rfl) | (show Str.cps _ = #[41]; rfl) | (show Str.cps _ = #[42]; rfl) | (show Str.cps _ = #[63]; rfl) | (show Str.cps _ = #[43]; rfl)) ?_ ?_; k_whole; (intro zq1 zh1 ztk1 zi1 zF1 zN1 zK1; (try dsimp only at zN1); (try dsimp only)))) | ((with_reducible show wpAny _ _ (call (Value.ref 168) [Value.str _ _, Value.int _ _]) _ _ _); k_dflt (refine' make168 (by k_asm) (by k_asm) (by k_asm) (by k_asm) rfl (by ktr_room) (by k_asm) ?_; k_whole; intro zh1 ztk1 ze1 zdx1 zt1 zF1 zN1 zfe1 zK1; (try dsimp only))) | ((with_reducible show wpAny _ _ (call (Value.ref 144) [Value.ref _, Value.str _ _]) _ _ _); k_dflt (refine' init147 (by k_asm) (by k_asm) (by k_asm) (by k_asm) rfl (by ktr_room) (by k_asm) ?_; k_whole; intro zh1 ztk1 zdx1 zt1 zod1 zF1 zN1 zne1 zS1 zK1; (try dsimp only))) | (k_unfold; (try dsimp only)) | (k_end; wrow_close) | walk1 | (dsimp only; walk1) | (leave1; try dsimp only)))
  all_goals (repeat' (first | k_unfold | dsimp only))
  all_goals ((with_reducible rename Fr g' L' _ _ => F9); (with_reducible rename News g' L' _ _ => N9))
  all_goals (obtain ⟨F8, N8, K8⟩ := back F N₀ K' F9 N9)
  all_goals have K7 := keepAll N₀ N8 K8 (by tb_rel)
  all_goals refine bool_eq (by first | exact ps1 (by assumption) | exact ps2 (by assumption) | exact ps3 (by assumption) (by assumption) (by assumption) | exact ps4 (by assumption) (by assumption) (by assumption) | exact ps5 (by assumption) (by assumption) (by assumption)) ?_
  all_goals exact ret _ _ F8 (News.same N K7) K7
end
def nameAt (l : List Nat) (n : Nat) : Bool := match l[n]? with | some c => isFirst c | none => false
def run (l : List Nat) (n : Nat) : Nat := n + ((l.drop n).takeWhile isPart).length
theorem run_in {l : List Nat} {n c : Nat} (h : l[n]? = some c) (hc : isPart c = true) : run l n = run l (n + 1) := by
  obtain ⟨hn, rfl⟩ := List.getElem?_eq_some_iff.mp h
  unfold run
  rw [List.drop_eq_getElem_cons hn, List.takeWhile_cons, hc]
  simp only [if_true, List.length_cons]
  omega
theorem run_no {l : List Nat} {n c : Nat} (h : l[n]? = some c) (hc : isPart c = false) : run l n = n := by
  obtain ⟨hn, rfl⟩ := List.getElem?_eq_some_iff.mp h
  unfold run
  rw [List.drop_eq_getElem_cons hn, List.takeWhile_cons, hc]
  simp
theorem run_end {l : List Nat} {n : Nat} (h : l.length ≤ n) : run l n = n := by
  unfold run
  rw [List.drop_eq_nil_of_le h]
  simp
theorem run_le {l : List Nat} {n : Nat} (h : n ≤ l.length) : run l n ≤ l.length := by
  unfold run
  have : ((l.drop n).takeWhile isPart).length ≤ (l.drop n).length := List.Sublist.length_le (List.takeWhile_sublist _)
  rw [List.length_drop] at this
  omega
theorem run_ge {l : List Nat} {n : Nat} : n ≤ run l n := Nat.le_add_right _ _
theorem run_word {l : List Nat} {n : Nat} : (l.drop n).take (run l n - n) = (l.drop n).takeWhile isPart := by
  unfold run
  rw [Nat.add_sub_cancel_left]
  exact (List.prefix_iff_eq_take.mp (List.takeWhile_prefix isPart)).symm
theorem first_part {c : Nat} (h : isFirst c = true) : isPart c = true := by unfold isPart; rw [h]; rfl
theorem run_gt {l : List Nat} {n : Nat} (h : nameAt l n = true) : n < run l n := by
  unfold nameAt at h
  split at h
  · rename_i c q
    rw [run_in q (first_part h)]
    exact run_ge
  · cases h
local macro_rules | `(tactic| bits_fit) => `(tactic| (with_reducible refine run_le ?_; bits_fit))
section
variable {w : World} {A₀ : Around} {E : Value → Shared → Prop} {s : Shared} {base h₀ : Heap} {outer : List Env} {L : Addr} {m : Str → Option Value} {news : List (Addr × Obj)}
  {p : Program} {loose : List Str} {mean : ExcName → Option Value} {mg mb : Str → Option Value} {dp un : Nat} {gd : Option (List Code)} {cn : Str} {cs : Scope} {a : Addr} {ccd : Value} {cl : List (Str × Addr)} {Q : Value → Shared → Prop}
  {x dx : Addr} {h1 h2 h3 h4 : Int} {k1 k2 k3 k4 tt bt it wt mt : Tok} {t word msg : Str} {b i : Int} {n c : Nat} {gf : Obj → List (Addr × Obj)}

theorem looks_spec (B : Below A₀ base outer h₀) (F : Fr h₀ L s.heap m) (X : (hd.heap_1 w.params).In h₀) (N : News h₀ L s.heap news) (T : Top p loose mean mg mb h₀) (hk : cs.kind = .function) (hdp : dp + 8 < recursionLimit)
  (hx : (x, instObj 293 dx) ∈ news) (hdx : (dx, dictOf (scanD h1 h2 h3 h4 k1 k2 k3 k4 t tt b bt (n : Int) it) 4) ∈ news) (hn : n ≤ (sg t).length) (hlt : t.length ≤ 1000) (hA : ∀ z n : Nat, (sg t)[n]? = some z → z < 128)
  (ret : ∀ h' tk', Fr h₀ L h' m → News h₀ L h' news → (∀ b o, s.heap.get? b = some o → h'.get? b = some o) → Q (.bool (nameAt (sg t) n)) { s with heap := h', toks := tk' }) :
  wpAny (model PySem.Challenge.rw_xw0208_01.row.prog w) (ktrTop dp un gd cn cs L a ccd cl outer) (call (.ref 255) [.ref x]) Q E s := by
  revert X; k_fill; intro X
  have N₀ : News h₀ L s.heap [(x, instObj 293 dx), (dx, dictOf (scanD h1 h2 h3 h4 k1 k2 k3 k4 t tt b bt (n : Int) it) 4)] := cb_drop N (List.forall_mem_cons.mpr ⟨hx, List.forall_mem_cons.mpr ⟨hdx, List.forall_mem_nil _⟩⟩)
  have hl := sg_len t
  k_dflt (refine' enter B F X N₀ T hk ?k6 ?k7 ?k8 ?k9 ?kB ?_ ?c5 ?c2 ?c3 ?c4; (case k6 => k_is); (case k7 => k_is); (case k8 => ktr_room); (case k9 => exact BindsTo.of_eq rfl); (case c5 => decide); (case kB => exact locs rfl); (case c2 => exact rfl); (case c3 => exact rfl); (case c4 => exact rfl); k_whole; intro g' L' h' F' N' B' X' T' K' S' l'; (try dsimp only); (try k_fold))
  (repeat' (first | ((with_reducible show wpAny _ _ (call (Value.ref 130) [Value.str (Str.mk #[_]) _]) _ _ _); k_dflt (refine' part_spec (by k_asm) (by k_asm) (by k_asm) (by k_asm) (by k_asm) rfl (by ktr_room) (by first | assumption | exact (by assumption : ∀ z n : Nat, (sg _)[n]? = some z → z < 128) _ _ (by assumption)) ?_; k_whole; (intro zh1 ztk1 zF1 zN1 zK1; (try dsimp only)))) | ((with_reducible show wpAny _ _ (call (Value.ref 123) [Value.str (Str.mk #[_]) _]) _ _ _); k_dflt (refine' first_spec (by k_asm) (by k_asm) (by k_asm) (by k_asm) (by k_asm) rfl (by ktr_room) (by first | assumption | exact (by assumption : ∀ z n : Nat, (sg _)[n]? = some z → z < 128) _ _ (by assumption)) ?_; k_whole; (intro zh1 ztk1 zF1 zN1 zK1; (try dsimp only)))) | ((with_reducible show wpAny _ _ (call (Value.ref 116) [Value.str (Str.mk #[_]) _]) _ _ _); k_dflt (refine' small_spec (by k_asm) (by k_asm) (by k_asm) (by k_asm) (by k_asm) rfl (by ktr_room) ?_; k_whole; (intro zh1 ztk1 zF1 zN1 zK1; (try dsimp only)))) | ((with_reducible show wpAny _ _ (call (Value.ref 234) [Value.ref _, Value.str _ _]) _ _ _); k_dflt (refine' expect1 (by k_asm) (by k_asm) (by k_asm) (by k_asm) (by k_asm) rfl (by ktr_room) (by k_mem) (by k_updF) (by first | assumption | k_ne) (by first | assumption | (show Str.cps _ = #[44]; rfl) | (show Str.cps _ = #[124]; rfl) | (show Str.cps _ = #[41]; rfl)) ?_ ?_; k_whole; (intro zq1 zh1 ztk1 zi1 zF1 zN1 zK1; (try dsimp only at zN1); (try dsimp only)))) | ((with_reducible show wpAny _ _ (call (Value.ref 50) [Value.ref _, Value.ref _, Value.str _ _]) _ _ _); k_dflt (refine' set_sign_spec (by k_asm) (by k_asm) (by k_asm) (by k_asm) (by k_asm) rfl (by ktr_room) (by k_mem) (by k_mem) (by k_mem) (by k_updF) (by first | assumption | k_ne) (by first | assumption | k_ne) (by first | assumption | k_ne) (by first | assumption | k_ne) ?_ ?_ ?_; k_whole; (intro zq1 zh1 ztk1 zF1 zN1 zK1; (try dsimp only at zN1); (try dsimp only)))) | ((try dsimp only [List.append_nil, List.cons_append, List.nil_append]); (with_reducible show wpAny _ _ (call (Value.ref 241) [Value.ref _]) _ _ _); k_dflt (refine' spaces_spec (by k_asm) (by k_asm) (by k_asm) (by k_asm) (by k_asm) rfl (by ktr_room) (by k_mem) (by k_updF) (by first | assumption | k_ne) (by bits_fit) (by first | assumption | omega) ?_; k_whole; (intro zh1 ztk1 zi1 zv1 zvt1 zF1 zN1 zK1; (try dsimp only at zN1); (try dsimp only)))) | ((with_reducible show wpAny _ _ (call (Value.ref 109) [Value.str (Str.mk #[_]) _]) _ _ _); k_dflt (refine' is_space_spec (by k_asm) (by k_asm) (by k_asm) (by k_asm) (by k_asm) rfl (by ktr_room) ?_; k_whole; (intro zh1 ztk1 zF1 zN1 zK1; (try dsimp only)))) | ((with_reducible show wpAny _ _ (call (Value.ref 206) [Value.ref _, Value.str _ _]) _ _ _); k_dflt (refine' fault_spec (by k_asm) (by k_asm) (by k_asm) (by k_asm) (by k_asm) rfl (by ktr_room) (by k_mem) (by k_mem) ?_; k_whole; intro zh1 ztk1 ze1 zd1 zt1 zF1 zN1 zfe1 zK1; (try dsimp only))) | ((with_reducible show wpAny _ _ (call (Value.ref 227) [Value.ref _, Value.str _ _]) _ _ _); k_dflt (refine' takes1 (by k_asm) (by k_asm) (by k_asm) (by k_asm) (by k_asm) rfl (by ktr_room) (by k_mem) (by k_updF) (by first | assumption | k_ne) (by first | assumption | (show Str.cps _ = #[44]; rfl) | (show Str.cps _ = #[124]; rfl) | (show Str.cps _ = #[41]; rfl) | (show Str.cps _ = #[42]; rfl) | (show Str.cps _ = #[63]; rfl) | (show Str.cps _ = #[43]; rfl)) ?_ ?_; k_whole; (intro zq1 zh1 ztk1 zi1 zF1 zN1 zK1; (try dsimp only at zN1); (try dsimp only)))) | (k_unfold; (try dsimp only)) | (k_end; wrow_close) | walk1 | (dsimp only; walk1) | (leave1; try dsimp only)))
  all_goals (repeat' (first | k_unfold | dsimp only))
  all_goals ((with_reducible rename Fr g' L' _ _ => F9); (with_reducible rename News g' L' _ _ => N9))
  all_goals (obtain ⟨F8, N8, K8⟩ := back F N₀ K' F9 N9)
  all_goals have K7 := keepAll N₀ N8 K8 (by tb_rel)
  · (with_reducible rename (sg t)[n]? = some _ => hc)
    refine bool_eq (b' := nameAt (sg t) n) ?_ (ret _ _ F8 (News.same N K7) K7)
    unfold nameAt; rw [hc]
  · refine bool_eq (b' := nameAt (sg t) n) ?_ (ret _ _ F8 (News.same N K7) K7)
    unfold nameAt; rw [List.getElem?_eq_none (by omega)]
    exact decide_eq_false (by omega)

theorem token_spec (B : Below A₀ base outer h₀) (F : Fr h₀ L s.heap m) (X : (hd.heap_1 w.params).In h₀) (N : News h₀ L s.heap news) (T : Top p loose mean mg mb h₀) (hk : cs.kind = .function) (hdp : dp + 12 < recursionLimit)
  (hx : (x, instObj 293 dx) ∈ news) (U : UpdF dx (dictOf (scanD h1 h2 h3 h4 k1 k2 k3 k4 t tt b bt (n : Int) it) 4) news gf) (hne : x ≠ dx) (hn : n ≤ (sg t).length) (hlt : t.length ≤ 1000) (hA : ∀ z n : Nat, (sg t)[n]? = some z → z < 128) (hgo : nameAt (sg t) n = true)
  (ret : ∀ h' tk' it' v vt, sg v = ((sg t).drop n).takeWhile isPart → Fr h₀ L h' m → News h₀ L h' (gf (dictOf (scanD h1 h2 h3 h4 k1 k2 k3 k4 t tt b bt ((run (sg t) n : Nat) : Int) it') 4)) → (∀ b o, s.heap.get? b = some o → b ≠ dx → h'.get? b = some o) → Q (.str v vt) { s with heap := h', toks := tk' }) :
  wpAny (model PySem.Challenge.rw_xw0208_01.row.prog w) (ktrTop dp un gd cn cs L a ccd cl outer) (call (.ref 262) [.ref x]) Q E s := by
  revert X; k_fill; intro X
  have N₀ : News h₀ L s.heap [(x, instObj 293 dx), (dx, dictOf (scanD h1 h2 h3 h4 k1 k2 k3 k4 t tt b bt (n : Int) it) 4)] := cb_drop N (List.forall_mem_cons.mpr ⟨hx, List.forall_mem_cons.mpr ⟨UpdF.mem U, List.forall_mem_nil _⟩⟩)
  k_dflt (refine' enter B F X N₀ T hk ?k6 ?k7 ?k8 ?k9 ?kB ?_ ?c5 ?c2 ?c3 ?c4; (case k6 => k_is); (case k7 => k_is); (case k8 => ktr_room); (case k9 => exact BindsTo.of_eq rfl); (case c5 => decide); (case kB => exact locs rfl); (case c2 => exact rfl); (case c3 => exact rfl); (case c4 => exact rfl); k_whole; intro g' L' h' F' N' B' X' T' K' S' l'; (try dsimp only); (try k_fold))
  iterate 8 (first | ((with_reducible show wpAny _ _ (call (Value.ref 130) [Value.str (Str.mk #[_]) _]) _ _ _); k_dflt (refine' part_spec (by k_asm) (by k_asm) (by k_asm) (by k_asm) (by k_asm) rfl (by ktr_room) (by first | assumption | exact (by assumption : ∀ z n : Nat, (sg _)[n]? = some z → z < 128) _ _ (by assumption)) ?_; k_whole; (intro zh1 ztk1 zF1 zN1 zK1; (try dsimp only)))) | ((with_reducible show wpAny _ _ (call (Value.ref 123) [Value.str (Str.mk #[_]) _]) _ _ _); k_dflt (refine' first_spec (by k_asm) (by k_asm) (by k_asm) (by k_asm) (by k_asm) rfl (by ktr_room) (by first | assumption | exact (by assumption : ∀ z n : Nat, (sg _)[n]? = some z → z < 128) _ _ (by assumption)) ?_; k_whole; (intro zh1 ztk1 zF1 zN1 zK1; (try dsimp only)))) | ((with_reducible show wpAny _ _ (call (Value.ref 116) [Value.str (Str.mk #[_]) _]) _ _ _); k_dflt (refine' small_spec (by k_asm) (by k_asm) (by k_asm) (by k_asm) (by k_asm) rfl (by ktr_room) ?_; k_whole; (intro zh1 ztk1 zF1 zN1 zK1; (try dsimp only)))) | ((with_reducible show wpAny _ _ (call (Value.ref 234) [Value.ref _, Value.str _ _]) _ _ _); k_dflt (refine' expect1 (by k_asm) (by k_asm) (by k_asm) (by k_asm) (by k_asm) rfl (by ktr_room) (by k_mem) (by k_updF) (by first | assumption | k_ne) (by first | assumption | (show Str.cps _ = #[44]; rfl) | (show Str.cps _ = #[124]; rfl) | (show Str.cps _ = #[41]; rfl)) ?_ ?_; k_whole; (intro zq1 zh1 ztk1 zi1 zF1 zN1 zK1; (try dsimp only at zN1); (try dsimp only)))) | ((with_reducible show wpAny _ _ (call (Value.ref 50) [Value.ref _, Value.ref _, Value.str _ _]) _ _ _); k_dflt (refine' set_sign_spec (by k_asm) (by k_asm) (by k_asm) (by k_asm) (by k_asm) rfl (by ktr_room) (by k_mem) (by k_mem) (by k_mem) (by k_updF) (by first | assumption | k_ne) (by first | assumption | k_ne) (by first | assumption | k_ne) (by first | assumption | k_ne) ?_ ?_ ?_; k_whole; (intro zq1 zh1 ztk1 zF1 zN1 zK1; (try dsimp only at zN1); (try dsimp only)))) | ((try dsimp only [List.append_nil, List.cons_append, List.nil_append]); (with_reducible show wpAny _ _ (call (Value.ref 241) [Value.ref _]) _ _ _); k_dflt (refine' spaces_spec (by k_asm) (by k_asm) (by k_asm) (by k_asm) (by k_asm) rfl (by ktr_room) (by k_mem) (by k_updF) (by first | assumption | k_ne) (by bits_fit) (by first | assumption | omega) ?_; k_whole; (intro zh1 ztk1 zi1 zv1 zvt1 zF1 zN1 zK1; (try dsimp only at zN1); (try dsimp only)))) | ((with_reducible show wpAny _ _ (call (Value.ref 109) [Value.str (Str.mk #[_]) _]) _ _ _); k_dflt (refine' is_space_spec (by k_asm) (by k_asm) (by k_asm) (by k_asm) (by k_asm) rfl (by ktr_room) ?_; k_whole; (intro zh1 ztk1 zF1 zN1 zK1; (try dsimp only)))) | ((with_reducible show wpAny _ _ (call (Value.ref 206) [Value.ref _, Value.str _ _]) _ _ _); k_dflt (refine' fault_spec (by k_asm) (by k_asm) (by k_asm) (by k_asm) (by k_asm) rfl (by ktr_room) (by k_mem) (by k_mem) ?_; k_whole; intro zh1 ztk1 ze1 zd1 zt1 zF1 zN1 zfe1 zK1; (try dsimp only))) | ((with_reducible show wpAny _ _ (call (Value.ref 227) [Value.ref _, Value.str _ _]) _ _ _); k_dflt (refine' takes1 (by k_asm) (by k_asm) (by k_asm) (by k_asm) (by k_asm) rfl (by ktr_room) (by k_mem) (by k_updF) (by first | assumption | k_ne) (by first | assumption | (show Str.cps _ = #[44]; rfl) | (show Str.cps _ = #[124]; rfl) | (show Str.cps _ = #[41]; rfl) | (show Str.cps _ = #[42]; rfl) | (show Str.cps _ = #[63]; rfl) | (show Str.cps _ = #[43]; rfl)) ?_ ?_; k_whole; (intro zq1 zh1 ztk1 zi1 zF1 zN1 zK1; (try dsimp only at zN1); (try dsimp only)))) | walk1 | (dsimp only; walk1))
  (with_reducible rename Fr g' L' _ _ => F9); (with_reducible rename News g' L' _ _ => N9)
  have hl := sg_len t
  have hgt := run_gt hgo
  refine While_inv (fun k m1 news1 => ∃ j it', n ≤ j ∧ j ≤ (sg t).length ∧ run (sg t) j = run (sg t) n ∧ _ = m1 ∧ [(x, instObj 293 dx), (dx, dictOf (scanD h1 h2 h3 h4 k1 k2 k3 k4 t tt b bt (j : Int) it') 4)] = news1 ∧ k = (sg t).length - j) F9 N9 ⟨n, it, Nat.le_refl _, hn, rfl, rfl, rfl, rfl⟩ ?_
  rintro k m1 news1 hh1 tk1 F1 N1 ⟨j, it', hj1, hj2, hj3, rfl, rfl, rfl⟩
  (repeat' (first | ((with_reducible show wpAny _ _ (call (Value.ref 130) [Value.str (Str.mk #[_]) _]) _ _ _); k_dflt (refine' part_spec (by k_asm) (by k_asm) (by k_asm) (by k_asm) (by k_asm) rfl (by ktr_room) (by first | assumption | exact (by assumption : ∀ z n : Nat, (sg _)[n]? = some z → z < 128) _ _ (by assumption)) ?_; k_whole; (intro zh1 ztk1 zF1 zN1 zK1; (try dsimp only)))) | ((with_reducible show wpAny _ _ (call (Value.ref 123) [Value.str (Str.mk #[_]) _]) _ _ _); k_dflt (refine' first_spec (by k_asm) (by k_asm) (by k_asm) (by k_asm) (by k_asm) rfl (by ktr_room) (by first | assumption | exact (by assumption : ∀ z n : Nat, (sg _)[n]? = some z → z < 128) _ _ (by assumption)) ?_; k_whole; (intro zh1 ztk1 zF1 zN1 zK1; (try dsimp only)))) | ((with_reducible show wpAny _ _ (call (Value.ref 116) [Value.str (Str.mk #[_]) _]) _ _ _); k_dflt (refine' small_spec (by k_asm) (by k_asm) (by k_asm) (by k_asm) (by k_asm) rfl (by ktr_room) ?_; k_whole; (intro zh1 ztk1 zF1 zN1 zK1; (try dsimp only)))) | ((with_reducible show wpAny _ _ (call (Value.ref 234) [Value.ref _, Value.str _ _]) _ _ _); k_dflt (refine' expect1 (by k_asm) (by k_asm) (by k_asm) (by k_asm) (by k_asm) rfl (by ktr_room) (by k_mem) (by k_updF) (by first | assumption | k_ne) (by first | assumption | (show Str.cps _ = #[44]; rfl) | (show Str.cps _ = #[124]; rfl) | (show Str.cps _ = #[41]; rfl)) ?_ ?_; k_whole; (intro zq1 zh1 ztk1 zi1 zF1 zN1 zK1; (try dsimp only at zN1); (try dsimp only)))) | ((with_reducible show wpAny _ _ (call (Value.ref 50) [Value.ref _, Value.ref _, Value.str _ _]) _ _ _); k_dflt (refine' set_sign_spec (by k_asm) (by k_asm) (by k_asm) (by k_asm) (by k_asm) rfl (by ktr_room) (by k_mem) (by k_mem) (by k_mem) (by k_updF) (by first | assumption | k_ne) (by first | assumption | k_ne) (by first | assumption | k_ne) (by first | assumption | k_ne) ?_ ?_ ?_; k_whole; (intro zq1 zh1 ztk1 zF1 zN1 zK1; (try dsimp only at zN1); (try dsimp only)))) | ((try dsimp only [List.append_nil, List.cons_append, List.nil_append]); (with_reducible show wpAny _ _ (call (Value.ref 241) [Value.ref _]) _ _ _); k_dflt (refine' spaces_spec (by k_asm) (by k_asm) (by k_asm) (by k_asm) (by k_asm) rfl (by ktr_room) (by k_mem) (by k_updF) (by first | assumption | k_ne) (by bits_fit) (by first | assumption | omega) ?_; k_whole; (intro zh1 ztk1 zi1 zv1 zvt1 zF1 zN1 zK1; (try dsimp only at zN1); (try dsimp only)))) | ((with_reducible show wpAny _ _ (call (Value.ref 109) [Value.str (Str.mk #[_]) _]) _ _ _); k_dflt (refine' is_space_spec (by k_asm) (by k_asm) (by k_asm) (by k_asm) (by k_asm) rfl (by ktr_room) ?_; k_whole; (intro zh1 ztk1 zF1 zN1 zK1; (try dsimp only)))) | ((with_reducible show wpAny _ _ (call (Value.ref 206) [Value.ref _, Value.str _ _]) _ _ _); k_dflt (refine' fault_spec (by k_asm) (by k_asm) (by k_asm) (by k_asm) (by k_asm) rfl (by ktr_room) (by k_mem) (by k_mem) ?_; k_whole; intro zh1 ztk1 ze1 zd1 zt1 zF1 zN1 zfe1 zK1; (try dsimp only))) | ((with_reducible show wpAny _ _ (call (Value.ref 227) [Value.ref _, Value.str _ _]) _ _ _); k_dflt (refine' takes1 (by k_asm) (by k_asm) (by k_asm) (by k_asm) (by k_asm) rfl (by ktr_room) (by k_mem) (by k_updF) (by first | assumption | k_ne) (by first | assumption | (show Str.cps _ = #[44]; rfl) | (show Str.cps _ = #[124]; rfl) | (show Str.cps _ = #[41]; rfl) | (show Str.cps _ = #[42]; rfl) | (show Str.cps _ = #[63]; rfl) | (show Str.cps _ = #[43]; rfl)) ?_ ?_; k_whole; (intro zq1 zh1 ztk1 zi1 zF1 zN1 zK1; (try dsimp only at zN1); (try dsimp only)))) | (k_unfold; (try dsimp only)) | (k_end; wrow_close) | walk1 | (dsimp only; walk1) | (leave1; try dsimp only)))
  · (with_reducible rename Fr g' L' _ _ => F9); (with_reducible rename News g' L' _ _ => N9)
    (with_reducible rename (sg t)[j]? = some _ => hc); (with_reducible rename isPart _ = true => hs)
    rw [show ((j : Int) + 1) = ((j + 1 : Nat) : Int) from by omega] at N9
    exact WhileStep.intro F9 N9 (n' := (sg t).length - (j + 1)) (by omega) ⟨j + 1, _, by omega, by omega, (run_in hc hs).symm.trans hj3, rfl, rfl, rfl⟩
  · (with_reducible rename (sg t)[j]? = some _ => hc); (with_reducible rename isPart _ = false => hs)
    have := run_no hc hs
    exfalso; omega
  · (with_reducible rename (sg t)[j]? = some _ => hc); (with_reducible rename isPart _ = false => hs)
    have e : run (sg t) n = j := hj3.symm.trans (run_no hc hs)
    (repeat' (first | k_unfold | dsimp only))
    (with_reducible rename Fr g' L' _ _ => F9); (with_reducible rename News g' L' _ _ => N9)
    obtain ⟨F8, N8, K8⟩ := back F N₀ K' F9 N9
    have K7 := keepBut (d := dx) N₀ N8 K8 (by tb_rel)
    have hv : sg (Txt.slice t (some (n : Int)) (some (j : Int))) = ((sg t).drop n).takeWhile isPart := by
      rw [sg_slice t hj1 (by omega), ← run_word, e]
    rw [← e] at N8
    exact ret _ _ _ _ _ hv F8 (News.upd1 N U K7 (N8 (dx, _) (by k_mem)).1) K7
  · have := run_end (l := sg t) (n := j) (by omega)
    exfalso; omega
  · have e : run (sg t) n = j := hj3.symm.trans (run_end (by omega))
    (repeat' (first | k_unfold | dsimp only))
    (with_reducible rename Fr g' L' _ _ => F9); (with_reducible rename News g' L' _ _ => N9)
    obtain ⟨F8, N8, K8⟩ := back F N₀ K' F9 N9
    have K7 := keepBut (d := dx) N₀ N8 K8 (by tb_rel)
    have hv : sg (Txt.slice t (some (n : Int)) (some (j : Int))) = ((sg t).drop n).takeWhile isPart := by
      rw [sg_slice t hj1 (by omega), ← run_word, e]
    rw [← e] at N8
    exact ret _ _ _ _ _ hv F8 (News.upd1 N U K7 (N8 (dx, _) (by k_mem)).1) K7

theorem name_spec (B : Below A₀ base outer h₀) (F : Fr h₀ L s.heap m) (X : (hd.heap_1 w.params).In h₀) (N : News h₀ L s.heap news) (T : Top p loose mean mg mb h₀) (hk : cs.kind = .function) (hdp : dp + 16 < recursionLimit)
  (hx : (x, instObj 293 dx) ∈ news) (U : UpdF dx (dictOf (scanD h1 h2 h3 h4 k1 k2 k3 k4 t tt b bt (n : Int) it) 4) news gf) (hne : x ≠ dx) (hn : n ≤ (sg t).length) (hlt : t.length ≤ 1000) (hA : ∀ z n : Nat, (sg t)[n]? = some z → z < 128)
  (ret : nameAt (sg t) n = true → ∀ h' tk' it' v vt, sg v = ((sg t).drop n).takeWhile isPart → Fr h₀ L h' m → News h₀ L h' (gf (dictOf (scanD h1 h2 h3 h4 k1 k2 k3 k4 t tt b bt ((run (sg t) n : Nat) : Int) it') 4)) → (∀ b o, s.heap.get? b = some o → b ≠ dx → h'.get? b = some o) → Q (.str v vt) { s with heap := h', toks := tk' })
  (exc : nameAt (sg t) n = false → ∀ h' tk' e, Raised s.heap (envX cn cs L a ccd cl :: outer) e h' → E (.ref e) { s with heap := h', toks := tk' }) :
  wpAny (model PySem.Challenge.rw_xw0208_01.row.prog w) (ktrTop dp un gd cn cs L a ccd cl outer) (call (.ref 269) [.ref x]) Q E s := by
  revert X; k_fill; intro X
  have N₀ : News h₀ L s.heap [(x, instObj 293 dx), (dx, dictOf (scanD h1 h2 h3 h4 k1 k2 k3 k4 t tt b bt (n : Int) it) 4)] := cb_drop N (List.forall_mem_cons.mpr ⟨hx, List.forall_mem_cons.mpr ⟨UpdF.mem U, List.forall_mem_nil _⟩⟩)
  k_dflt (refine' enter B F X N₀ T hk ?k6 ?k7 ?k8 ?k9 ?kB ?_ ?c5 ?c2 ?c3 ?c4; (case k6 => k_is); (case k7 => k_is); (case k8 => ktr_room); (case k9 => exact BindsTo.of_eq rfl); (case c5 => decide); (case kB => exact locs rfl); (case c2 => exact rfl); (case c3 => exact rfl); (case c4 => exact rfl); k_whole; intro g' L' h' F' N' B' X' T' K' S' l'; (try dsimp only); (try k_fold))
  (repeat' (first | ((try dsimp only [List.append_nil, List.cons_append, List.nil_append]); (with_reducible show wpAny _ _ (call (Value.ref 262) [Value.ref _]) _ _ _); k_dflt (refine' token_spec (by k_asm) (by k_asm) (by k_asm) (by k_asm) (by k_asm) rfl (by ktr_room) (by k_mem) (by k_updF) (by first | assumption | k_ne) (by bits_fit) (by first | assumption | omega) (by assumption) (by assumption) ?_; k_whole; (intro zh1 ztk1 zi1 zv1 zvt1 zhv1 zF1 zN1 zK1; (try dsimp only at zN1); (try dsimp only)))) | ((try dsimp only [List.append_nil, List.cons_append, List.nil_append]); (with_reducible show wpAny _ _ (call (Value.ref 255) [Value.ref _]) _ _ _); k_dflt (refine' looks_spec (by k_asm) (by k_asm) (by k_asm) (by k_asm) (by k_asm) rfl (by ktr_room) (by k_mem) (by k_mem) (by bits_fit) (by first | assumption | omega) (by assumption) ?_; k_whole; (intro zh1 ztk1 zF1 zN1 zK1; (try dsimp only)))) | ((with_reducible show wpAny _ _ (call (Value.ref 130) [Value.str (Str.mk #[_]) _]) _ _ _); k_dflt (refine' part_spec (by k_asm) (by k_asm) (by k_asm) (by k_asm) (by k_asm) rfl (by ktr_room) (by first | assumption | exact (by assumption : ∀ z n : Nat, (sg _)[n]? = some z → z < 128) _ _ (by assumption)) ?_; k_whole; (intro zh1 ztk1 zF1 zN1 zK1; (try dsimp only)))) | ((with_reducible show wpAny _ _ (call (Value.ref 123) [Value.str (Str.mk #[_]) _]) _ _ _); k_dflt (refine' first_spec (by k_asm) (by k_asm) (by k_asm) (by k_asm) (by k_asm) rfl (by ktr_room) (by first | assumption | exact (by assumption : ∀ z n : Nat, (sg _)[n]? = some z → z < 128) _ _ (by assumption)) ?_; k_whole; (intro zh1 ztk1 zF1 zN1 zK1; (try dsimp only)))) | ((with_reducible show wpAny _ _ (call (Value.ref 116) [Value.str (Str.mk #[_]) _]) _ _ _); k_dflt (refine' small_spec (by k_asm) (by k_asm) (by k_asm) (by k_asm) (by k_asm) rfl (by ktr_room) ?_; k_whole; (intro zh1 ztk1 zF1 zN1 zK1; (try dsimp only)))) | ((with_reducible show wpAny _ _ (call (Value.ref 234) [Value.ref _, Value.str _ _]) _ _ _); k_dflt (refine' expect1 (by k_asm) (by k_asm) (by k_asm) (by k_asm) (by k_asm) rfl (by ktr_room) (by k_mem) (by k_updF) (by first | assumption | k_ne) (by first | assumption | (show Str.cps _ = #[44]; rfl) | (show Str.cps _ = #[124]; rfl) | (show Str.cps _ = #[41]; rfl)) ?_ ?_; k_whole; (intro zq1 zh1 ztk1 zi1 zF1 zN1 zK1; (try dsimp only at zN1); (try dsimp only)))) | ((with_reducible show wpAny _ _ (call (Value.ref 50) [Value.ref _, Value.ref _, Value.str _ _]) _ _ _); k_dflt (refine' set_sign_spec (by k_asm) (by k_asm) (by k_asm) (by k_asm) (by k_asm) rfl (by ktr_room) (by k_mem) (by k_mem) (by k_mem) (by k_updF) (by first | assumption | k_ne) (by first | assumption | k_ne) (by first | assumption | k_ne) (by first | assumption | k_ne) ?_ ?_ ?_; k_whole; (intro zq1 zh1 ztk1 zF1 zN1 zK1; (try dsimp only at zN1); (try dsimp only)))) | ((try dsimp only [List.append_nil, List.cons_append, List.nil_append]); (with_reducible show wpAny _ _ (call (Value.ref 241) [Value.ref _]) _ _ _); k_dflt (refine' spaces_spec (by k_asm) (by k_asm) (by k_asm) (by k_asm) (by k_asm) rfl (by ktr_room) (by k_mem) (by k_updF) (by first | assumption | k_ne) (by bits_fit) (by first | assumption | omega) ?_; k_whole; (intro zh1 ztk1 zi1 zv1 zvt1 zF1 zN1 zK1; (try dsimp only at zN1); (try dsimp only)))) | ((with_reducible show wpAny _ _ (call (Value.ref 109) [Value.str (Str.mk #[_]) _]) _ _ _); k_dflt (refine' is_space_spec (by k_asm) (by k_asm) (by k_asm) (by k_asm) (by k_asm) rfl (by ktr_room) ?_; k_whole; (intro zh1 ztk1 zF1 zN1 zK1; (try dsimp only)))) | ((with_reducible show wpAny _ _ (call (Value.ref 206) [Value.ref _, Value.str _ _]) _ _ _); k_dflt (refine' fault_spec (by k_asm) (by k_asm) (by k_asm) (by k_asm) (by k_asm) rfl (by ktr_room) (by k_mem) (by k_mem) ?_; k_whole; intro zh1 ztk1 ze1 zd1 zt1 zF1 zN1 zfe1 zK1; (try dsimp only))) | ((with_reducible show wpAny _ _ (call (Value.ref 227) [Value.ref _, Value.str _ _]) _ _ _); k_dflt (refine' takes1 (by k_asm) (by k_asm) (by k_asm) (by k_asm) (by k_asm) rfl (by ktr_room) (by k_mem) (by k_updF) (by first | assumption | k_ne) (by first | assumption | (show Str.cps _ = #[44]; rfl) | (show Str.cps _ = #[124]; rfl) | (show Str.cps _ = #[41]; rfl) | (show Str.cps _ = #[42]; rfl) | (show Str.cps _ = #[63]; rfl) | (show Str.cps _ = #[43]; rfl)) ?_ ?_; k_whole; (intro zq1 zh1 ztk1 zi1 zF1 zN1 zK1; (try dsimp only at zN1); (try dsimp only)))) | (k_unfold; (try dsimp only)) | (k_end; wrow_close) | walk1 | (dsimp only; walk1) | (leave1; try dsimp only)))
  · (with_reducible rename Fr g' L' _ _ => F9); (with_reducible rename News g' L' _ _ => N9)
    obtain ⟨F8, N8, K8⟩ := back F N₀ K' F9 N9
    have K7 := keepBut (d := dx) N₀ N8 K8 (by tb_rel)
    exact ret (by assumption) _ _ _ _ _ (by assumption) F8 (News.upd1 N U K7 (N8 (dx, _) (by k_mem)).1) K7
  · (with_reducible rename Heap.get? _ _ = Option.none => fe); (with_reducible rename ∀ b o, _ = some o → _ = some o => KA)
    exact raise_out (mods := []) N₀ K' S' B' (by assumption) (by assumption) (by tb_rel) fe KA (News.get (by assumption) (.head _)) rfl rfl rfl fun h' R => exc (by assumption) _ _ _ R
end
section
variable {prog : Program} {w : World} {A : Around} {E : Value → Shared → Prop} {s : Shared} {T : String} {r d : Addr} {n : Nat} {P : Nat → Value → Prop} {OK : Heap → Prop}
theorem collect_src {Q : List Value → Shared → Prop} (K : KdlSrc prog w T r d n P OK) (hh : A.handled = none) (hok : OK s.heap) (hn : n ≤ sizeLine)
    (hQ : ∀ (h' : Heap) (tk : Nat) (acc : Array Value), (∀ b o, s.heap.get? b = some o → h'.get? b = some o) → ItemsOf P acc n → Q acc.toList { s with heap := h', toks := tk }) :
    wpAny (model prog w) A (collect (.ref r)) Q E s := by
  have hlt := K.there _ hok
  unfold collect
  refine wpAny_bind (wpAny_runValue (codeAny_builtin PySem.F.entry_proto_collect ?_))
  rw [Around.under_plainId PySem.F.plain_proto_collect _]
  show wpAny _ A.in1 (newList [] >>= fun l => again (.builtin "list.__iadd__" ⟨[l, .ref r], []⟩)) _ _ s
  refine wpAny_bind (wpAny_newObj_type ?_)
  refine wpAny_pure ⟨plainId_quiet PySem.F.plain_list_iadd _, codeAny_builtin PySem.F.entry_list_iadd ?_⟩
  rw [Around.under_plainId PySem.F.plain_list_iadd _]
  have hS : (s.heap.push { cls := .type "list", data := .seq ([] : List Value).toArray }).get? s.heap.objs.size = some { cls := .type "list", data := .seq #[] 0 } := Heap.get?_push_size _ rfl
  show wpAny _ A.in1 (Builtin.List.listExtendWith (.ref s.heap.objs.size) (.ref r) (.ref s.heap.objs.size)) _ _ _
  have fin' : ∀ h' tk acc' c', (∀ b o, s.heap.get? b = some o → h'.get? b = some o) → h'.get? s.heap.objs.size = some { cls := .type "list", dict := none, data := .seq acc' c', slots := #[] } → ItemsOf P acc' n →
      wpAny (model prog w) A (match Value.ref s.heap.objs.size with
      | Value.ref a => do
        match (← load a).data with
          | Data.seq xs _ => pure xs.toList
          | _ => unsupported "internal:collect"
      | _ => unsupported "internal:collect") Q E { s with heap := h', toks := tk } := fun h' tk acc' c' hk hS' hacc => by
    show wpAny _ A (load s.heap.objs.size >>= _) _ _ _
    refine wpAny_bind (wpAny_load hS' ?_)
    exact wpAny_pure (hQ h' tk acc' hk hacc)
  refine wpAny_mono (kdl_extend (A := A) (R := fun r s' => r = .ok (.ret (.ref s.heap.objs.size)) ∧ ∃ (h' : Heap) (tk : Nat) (acc' : Array Value) (c' : Nat), (∀ b o, s.heap.get? b = some o → h'.get? b = some o) ∧ h'.get? s.heap.objs.size = some { cls := .type "list", dict := none, data := .seq acc' c', slots := #[] } ∧ ItemsOf P acc' n ∧ s' = { s with heap := h', toks := tk })
    (s := { s with heap := s.heap.push { cls := .type "list", data := .seq ([] : List Value).toArray } }) K hh (K.keep _ _ hok fun b _ o e => Heap.get?_push_of_some _ e) _ (Nat.ne_of_gt hlt.1) (Nat.ne_of_gt hlt.2) _ 0 hS (fun h' tk acc' c' hk hS' hacc => ?_) hn) (fun fin s' h => ?_) (fun e s' h => ?_)
  · exact ⟨rfl, h', tk, acc', c', (fun b o e => hk b o (Nat.ne_of_lt (Heap.lt_size e)) (Heap.get?_push_of_some _ e)), hS', hacc, rfl⟩
  · cases fin with
    | done f =>
      obtain ⟨e, h', tk, acc', c', k1, k2, k3, rfl⟩ := h
      cases e
      exact fin' _ _ _ _ k1 k2 k3
    | again c' => exact ⟨h.1, codeAny_mono h.2 fun r s'' hr => by obtain ⟨rfl, h', tk, acc', c', k1, k2, k3, rfl⟩ := hr; exact fin' _ _ _ _ k1 k2 k3⟩
  · exact absurd h.1 (by simp)

theorem code_tuple_src {Q₁ : Value → Shared → Prop} (K : KdlSrc prog w T r d n P OK) (hh : A.handled = none) (hok : OK s.heap) (hn : n ≤ sizeLine) (hT : (Value.type T == Value.type "tuple") = false)
    (h : ∀ (h' : Heap) (tk : Nat) (acc : Array Value), (∀ b o, s.heap.get? b = some o → h'.get? b = some o) → ItemsOf P acc n → Q₁ (.ref h'.objs.size) { s with heap := h'.push { cls := .type "tuple", data := .seq acc }, toks := tk }) :
    codeAny (model prog w) A (.call (.builtin "tuple.__new__") ⟨[.type "tuple", .ref r], []⟩) (wants Q₁ E) s := by
  refine codeAny_of_tree ?_
  show wpAny _ A.in1 (do checkBuiltinCall "tuple.__new__" ⟨[.type "tuple", .ref r], []⟩; again (.builtin "tuple.__new__" ⟨[.type "tuple", .ref r], []⟩)) _ _ s
  refine wpAny_bind (wpAny_of_eq (PySem.F.newCall_tuple_1 _) (wpAny_pure ⟨plainId_quiet PySem.F.plain_tuple_new _, codeAny_builtin PySem.F.entry_tuple_new ?_⟩))
  rw [Around.under_plainId PySem.F.plain_tuple_new _]
  have hsub := sub_tuple_self
  have hinit := init_tuple_lookup
  have hmh := madeHere_tuple
  have hTI := K.type s hok
  wp_walk using wpAny_typeOf hTI, collect_src (A := A.in1) (hn := hn) K hh hok
  intro h' tk acc hm hacc
  show wpAny _ _ (Builtin.Tuple.tupleExact acc.toList.toArray >>= fun v => ret v) _ _ _
  unfold Builtin.Tuple.tupleExact
  refine wpAny_bind (wpAny_newObj_type ?_ (by show acc.toList.toArray.size ≤ sizeLine; simp only [Array.toArray_toList]; rw [hacc.1]; exact hn))
  refine wpAny_pure ?_
  have e : acc.toList.toArray = acc := by simp
  rw [e]
  exact h h' tk acc hm hacc
theorem call_tuple_src {Q : Value → Shared → Prop} (K : KdlSrc prog w T r d n P OK) (hh : A.handled = none) (hok : OK s.heap) (hn : n ≤ sizeLine) (hT : (Value.type T == Value.type "tuple") = false)
    (hQ : ∀ (h' : Heap) (tk : Nat) (acc : Array Value), (∀ b o, s.heap.get? b = some o → h'.get? b = some o) → ItemsOf P acc n → Q (.ref h'.objs.size) { s with heap := h'.push { cls := .type "tuple", data := .seq acc }, toks := tk }) :
    wpAny (model prog w) A (call (.type "tuple") [.ref r]) Q E s := by
  refine callType_codes (Q₁ := fun obj s₁ => s₁.TypeIs obj "tuple" ∧ Q obj s₁) PySem.F.called_tuple (PySem.F.typeCall_tuple_1 _) PySem.F.entry_object_init
    (code_tuple_src K hh hok hn hT fun h' tk acc hm hacc => ⟨⟨_, Heap.get?_push_size _ rfl, rfl⟩, hQ h' tk acc hm hacc⟩) fun obj s₁ h₁ => ?_
  exact ⟨h₁.1, PySem.F.args_object_init_2 obj _, object_init_meets PySem.F.called_tuple.init.lookup PySem.F.called_tuple.made (by decide) prog w A.in1 _ s₁ ⟨h₁.1, rfl, h₁.2⟩⟩
end
theorem strs_of : ∀ {vs : List Value} {ks : List Str}, vs.length = ks.length → (∀ (j : Nat) (v : Value), vs[j]? = some v → ∃ (k : Str) (t : Tok), ks[j]? = some k ∧ v = Value.str k t) → StrsAre vs ks
  | [], [], _, _ => .nil
  | v :: vs, k :: ks, hl, hv => by
    obtain ⟨k', t, e, rfl⟩ := hv 0 v rfl
    simp only [List.getElem?_cons_zero, Option.some.injEq] at e
    subst e
    exact .cons _ _ (strs_of (by simpa using hl) fun j u hu => by simpa using hv (j + 1) u (by simpa using hu))
section
variable {prog : Program} {w : World} {A : Around} {E : Value → Shared → Prop} {s : Shared} {h₀ : Heap} {L d : Addr} {m : Str → Option Value} {news : List (Addr × Obj)} {o : Obj} {kvs : List (Str × Value)} {Q : Value → Shared → Prop}
/-- the tuple of the keys of a dict of texts -/
theorem tuple_dict (hh : A.handled = none) (F : Fr h₀ L s.heap m) (N : News h₀ L s.heap news) (hp : (d, o) ∈ news) (hd : o.IsDictOf (PySem.strKind prog w) kvs) (lo : (d == sysModules) = false) (hn : kvs.length ≤ 16777216)
    (h : ∀ (D : Addr) h' tk (vs : List Value), Fr h₀ L h' m → News h₀ L h' ((D, { cls := .type "tuple", data := .seq vs.toArray }) :: news) → (∀ q ∈ news, q.1 < D) → (∀ b o, s.heap.get? b = some o → h'.get? b = some o) → StrsAre vs (kvs.map (·.1)) → Q (.ref D) { s with heap := h', toks := tk }) :
    wpAny (model prog w) A (call (.type "tuple") [.ref d]) Q E s := by
  obtain ⟨ep, hat⟩ := (kda_dict N hp hd).dictAt
  refine call_tuple_src (kdl_dict (knd := PySem.strKind prog w) (kvs := kvs) (ep := ep) lo) hh hat (kdl_size hn) (by decide) fun h' tk acc hk hacc => ?_
  have F' : Fr h₀ L h' m := F.keeps hk
  have N' : News h₀ L h' news := fun p hp => ⟨hk _ _ (N p hp).1, (N p hp).2⟩
  refine h _ _ tk acc.toList (F'.push _) ?_ (fun q hq => Heap.lt_size (N' q hq).1) (fun b o e => Heap.get?_push_of_some _ (hk b o e)) ?_
  · have := News.push F' N' { cls := .type "tuple", data := .seq acc }
    simpa using this
  · refine strs_of (by rw [Array.length_toList, hacc.1, List.length_map]) fun j v e => ?_
    obtain ⟨k, x, hx, hk'⟩ := hacc.2 j v (by rw [← Array.getElem?_toList]; exact e)
    obtain ⟨t, rfl⟩ := Value.isStrOf_shape hk'
    exact ⟨k, t, by rw [List.getElem?_map, hx]; rfl, rfl⟩
end
def word (l : List Nat) (n : Nat) : List Nat := (l.drop n).takeWhile isPart
def mix (l : List Nat) (n : Nat) (ns : List (List Nat)) : Option (Nat × List (List Nat)) :=
  if h : l[n]? = some 124 then
    if nameAt l (skip l (n + 1)) then
      if word l (skip l (n + 1)) ∈ ns then none
      else mix l (skip l (run l (skip l (n + 1)))) (ns ++ [word l (skip l (n + 1))])
    else none
  else some (n, ns)
termination_by l.length - n
decreasing_by
  have h1 := (List.getElem?_eq_some_iff.mp h).1
  have h2 : n + 1 ≤ skip l (n + 1) := skip_ge
  have h3 : skip l (n + 1) ≤ run l (skip l (n + 1)) := run_ge
  have h4 : run l (skip l (n + 1)) ≤ skip l (run l (skip l (n + 1))) := skip_ge
  omega
theorem mix_end {l : List Nat} {n : Nat} {ns : List (List Nat)} (h : l[n]? ≠ some 124) : mix l n ns = some (n, ns) := by
  rw [mix, dif_neg h]
theorem mix_no {l : List Nat} {n : Nat} {ns : List (List Nat)} (h : l[n]? = some 124) (h2 : nameAt l (skip l (n + 1)) = false) : mix l n ns = none := by
  rw [mix, dif_pos h, h2]; rfl
theorem mix_twice {l : List Nat} {n : Nat} {ns : List (List Nat)} (h : l[n]? = some 124) (h3 : word l (skip l (n + 1)) ∈ ns) : mix l n ns = none := by
  rw [mix, dif_pos h, if_pos h3]; split <;> rfl
theorem mix_on {l : List Nat} {n : Nat} {ns : List (List Nat)} (h : l[n]? = some 124) (h2 : nameAt l (skip l (n + 1)) = true) (h3 : word l (skip l (n + 1)) ∉ ns) :
    mix l n ns = mix l (skip l (run l (skip l (n + 1)))) (ns ++ [word l (skip l (n + 1))]) := by
  rw [mix, dif_pos h, h2, if_neg h3]; rfl
def fin1 (l : List Nat) : Option (Nat × List (List Nat)) → Option (Nat × List (List Nat))
  | none => none
  | some (j, ns) => if l[j]? = some 41 then (if l[j + 1]? = some 42 then some (j + 2, ns) else if ns = [] then some (j + 1, ns) else none) else none
def mixed (l : List Nat) (n : Nat) : Option (Nat × List (List Nat)) := fin1 l (mix l (skip l n) [])

section
variable {prog : Program} {w : World} {A : Around} {E : Value → Shared → Prop} {s : Shared} {h₀ : Heap} {L a b : Addr} {oa ob : Obj} {news : List (Addr × Obj)} {ka : List (Str × Value)} {Q : Value → Shared → Prop}
theorem ne_empty (N : News h₀ L s.heap news) (pa : (a, oa) ∈ news) (pb : (b, ob) ∈ news) (da : oa.IsDictOf (PySem.strKind prog w) ka) (db : ob.IsDictOf (PySem.strKind prog w) []) (la : (a == sysModules) = false) (lb : (b == sysModules) = false) (hu : A.units < cLine)
    (h : Q (.bool (!(ka.map (·.1)).isEmpty)) s) : wpAny (model prog w) A (compareOp .NotEq (.ref a) (.ref b)) Q E s := by
  refine keq_ne (r := true) la lb (Heap.dictOf_iff.mpr ⟨oa, (N _ pa).1, da⟩) (Heap.dictOf_iff.mpr ⟨ob, (N _ pb).1, db⟩) hu (fun e => ?_) ?_
  · cases ka with
    | nil => exact .nil
    | cons _ _ => simp at e
  · have : (ka.map (·.1)).isEmpty = ((ka.length == ([] : List (Str × Value)).length) && true) := by cases ka <;> rfl
    rw [← this]; exact h
theorem fr_named {h : Heap} {m : Str → Option Value} (F : Fr h₀ L h m) : ∃ M, M = m ∧ Fr h₀ L h M := ⟨m, rfl, F⟩
theorem upd_self (m : Str → Option Value) (x : Str) : (fun y => if y = x then m x else m y) = m := by
  funext y; split
  · rename_i e; rw [e]
  · rfl
theorem upd_upd (m : Str → Option Value) (x : Str) (v v' : Option Value) : (fun y => if y = x then v else if y = x then v' else m y) = fun y => if y = x then v else m y := by
  funext y; split <;> rfl
theorem sg_inj {a b : Str} (h : sg a = sg b) : a = b := by
  cases a with | mk x => cases b with | mk y =>
  have : x.toList = y.toList := h
  rw [Array.toList_inj] at this
  rw [this]
theorem not_in {ks : List Str} {v : Str} {u : List Nat} (h : sg v = u) (n : ¬ v ∈ ks) : u ∉ ks.map sg := fun q => by
  obtain ⟨k, hk, e⟩ := List.mem_map.mp q
  exact n (sg_inj (e.trans h.symm) ▸ hk)
theorem yes_in {ks : List Str} {v : Str} {u : List Nat} (h : sg v = u) (n : v ∈ ks) : u ∈ ks.map sg := h ▸ List.mem_map_of_mem n
theorem value_some {kvs : List (Str × Value)} {k : Str} : (valueAt kvs k).isSome = decide (k ∈ kvs.map (·.1)) := by
  unfold valueAt
  rw [Option.isSome_map, Bool.eq_iff_iff, List.find?_isSome, decide_eq_true_eq]
  simp
theorem stored_new {kvs : List (Str × Value)} {k : Str} {v : Value} (h : k ∉ kvs.map (·.1)) : (stored kvs k v).map (·.1) = kvs.map (·.1) ++ [k] := by
  unfold stored
  rw [if_neg]
  · simp
  · simp only [List.any_eq_true, decide_eq_true_eq, not_exists, not_and]
    intro p hp e
    exact h (List.mem_map.mpr ⟨p, hp, e⟩)
theorem in_dict {d : Addr} {o : Obj} {kvs : List (Str × Value)} {k : Str} {t : Tok} (N : News h₀ L s.heap news) (hp : (d, o) ∈ news) (hd : o.IsDictOf (PySem.strKind prog w) kvs) (lo : (d == sysModules) = false)
    (h : Q (.bool (decide (k ∈ kvs.map (·.1)))) { s with toks := s.toks + 1 }) : wpAny (model prog w) A (compareOp .In (.str k t) (.ref d)) Q E s :=
  kda_in N hp hd lo (strKind_is _ _ _ _) _ value_some h
end
local macro_rules | `(tactic| walk_at "compareOp In str ref") => `(tactic| (k_here; k_dflt (refine' in_dict (by k_asm) (by k_mem) (by assumption) (by assumption) ?_)))
local macro_rules | `(tactic| walk_at "compareOp NotEq ref ref") => `(tactic| (k_here; k_dflt (refine' ne_empty (by k_asm) (by k_mem) (by k_mem) (by assumption) (by assumption) (by assumption) (by assumption) (by ktr_units) ?_)))
local macro_rules | `(tactic| walk_at "setItem ref str") => `(tactic| (k_here; k_dflt (refine' kda_set (knd := PySem.strKind _ _) ?F ?N ?U ?d (strKind_is _ _ _ _) ?z ?_; (case F => k_asm); (case N => k_asm); (case U => k_updF); (case d => assumption); (case z => rw [sizeLine_eq]; omega)); intro h' o' F' N' hd'; (try dsimp only at N')))
local macro_rules | `(tactic| walk_at "call type:tuple") => `(tactic| (k_here; (with_reducible show wpAny _ _ (call (Value.type _) [Value.ref _]) _ _ _); k_dflt (refine' tuple_dict rfl ?F ?N ?hp ?hd ?lo ?hn ?_; (case F => k_asm); (case N => k_asm); (case hp => k_mem); (case hd => assumption); (case lo => assumption); (case hn => omega)); intro D' h' tk' vs' F' N' l1 K1 hs1))
section
variable {w : World} {A₀ : Around} {E : Value → Shared → Prop} {s : Shared} {base h₀ : Heap} {outer : List Env} {L : Addr} {m : Str → Option Value} {news : List (Addr × Obj)}
  {p : Program} {loose : List Str} {mean : ExcName → Option Value} {mg mb : Str → Option Value} {dp un : Nat} {gd : Option (List Code)} {cn : Str} {cs : Scope} {a : Addr} {ccd : Value} {cl : List (Str × Addr)} {Q : Value → Shared → Prop}
  {x dx : Addr} {h1 h2 h3 h4 : Int} {k1 k2 k3 k4 tt bt it wt mt : Tok} {t msg : Str} {b i : Int} {n c : Nat} {gf : Obj → List (Addr × Obj)}

theorem mixed_spec (B : Below A₀ base outer h₀) (F : Fr h₀ L s.heap m) (X : (hd.heap_1 w.params).In h₀) (N : News h₀ L s.heap news) (T : Top p loose mean mg mb h₀) (hk : cs.kind = .function) (hdp : dp + 20 < recursionLimit) (hun : un + 1000 < cLine)
  (hx : (x, instObj 293 dx) ∈ news) (U : UpdF dx (dictOf (scanD h1 h2 h3 h4 k1 k2 k3 k4 t tt b bt (n : Int) it) 4) news gf) (hne : x ≠ dx) (hn : n ≤ (sg t).length) (hlt : t.length ≤ 1000) (hA : ∀ z n : Nat, (sg t)[n]? = some z → z < 128)
  (ret : ∀ j js, mixed (sg t) n = some (j, js) → ∀ h' tk' it' D1 D2 ut vs ks, Fr h₀ L h' m → News h₀ L h' ((D2, { cls := .type "tuple", data := .seq #[.str (Str.ofString "mixed") ut, .ref D1] }) :: (D1, { cls := .type "tuple", data := .seq (List.toArray vs) }) :: gf (dictOf (scanD h1 h2 h3 h4 k1 k2 k3 k4 t tt b bt ((j : Nat) : Int) it') 4)) →
    StrsAre vs ks → ks.map sg = js → (∀ b o, s.heap.get? b = some o → b ≠ dx → h'.get? b = some o) → Q (.ref D2) { s with heap := h', toks := tk' })
  (exc : mixed (sg t) n = none → ∀ h' tk' e, Raised (hideAll s.heap [dx]) (envX cn cs L a ccd cl :: outer) e h' → E (.ref e) { s with heap := h', toks := tk' }) :
  wpAny (model PySem.Challenge.rw_xw0208_01.row.prog w) (ktrTop dp un gd cn cs L a ccd cl outer) (call (.ref 78) [.ref x]) Q E s := by
  revert X; k_fill; intro X
  have m1 : @Ne Nat x dx := hne
  have N₀ : News h₀ L s.heap [(x, instObj 293 dx), (dx, dictOf (scanD h1 h2 h3 h4 k1 k2 k3 k4 t tt b bt (n : Int) it) 4)] := cb_drop N (List.forall_mem_cons.mpr ⟨hx, List.forall_mem_cons.mpr ⟨UpdF.mem U, List.forall_mem_nil _⟩⟩)
  k_dflt (refine' enter B F X N₀ T hk ?k6 ?k7 ?k8 ?k9 ?kB ?_ ?c5 ?c2 ?c3 ?c4; (case k6 => k_is); (case k7 => k_is); (case k8 => ktr_room); (case k9 => exact BindsTo.of_eq rfl); (case c5 => decide); (case kB => exact locs rfl); (case c2 => exact rfl); (case c3 => exact rfl); (case c4 => exact rfl); k_whole; intro g' L' h' F' N' B' X' T' K' S' l'; (try dsimp only); (try k_fold))
  have hl := sg_len t
  iterate 12 (first | ((try dsimp only [List.append_nil, List.cons_append, List.nil_append]); (with_reducible show wpAny _ _ (call (Value.ref 269) [Value.ref _]) _ _ _); k_dflt (refine' name_spec (by k_asm) (by k_asm) (by k_asm) (by k_asm) (by k_asm) rfl (by ktr_room) (by k_mem) (by k_updF) (by first | assumption | k_ne) (by bits_fit) (by first | assumption | omega) (by assumption) ?_ ?_; k_whole; (intro zq1 zh1 ztk1 zi1 zv1 zvt1 zhv1 zF1 zN1 zK1; (try dsimp only at zN1); (try dsimp only)))) | ((with_reducible show wpAny _ _ (call (Value.ref 234) [Value.ref _, Value.str _ _]) _ _ _); k_dflt (refine' expect1 (by k_asm) (by k_asm) (by k_asm) (by k_asm) (by k_asm) rfl (by ktr_room) (by k_mem) (by k_updF) (by first | assumption | k_ne) (by first | assumption | (show Str.cps _ = #[44]; rfl) | (show Str.cps _ = #[124]; rfl) | (show Str.cps _ = #[41]; rfl)) ?_ ?_; k_whole; (intro zq1 zh1 ztk1 zi1 zF1 zN1 zK1; (try dsimp only at zN1); (try dsimp only)))) | ((with_reducible show wpAny _ _ (call (Value.ref 50) [Value.ref _, Value.ref _, Value.str _ _]) _ _ _); k_dflt (refine' set_sign_spec (by k_asm) (by k_asm) (by k_asm) (by k_asm) (by k_asm) rfl (by ktr_room) (by k_mem) (by k_mem) (by k_mem) (by k_updF) (by first | assumption | k_ne) (by first | assumption | k_ne) (by first | assumption | k_ne) (by first | assumption | k_ne) ?_ ?_ ?_; k_whole; (intro zq1 zh1 ztk1 zF1 zN1 zK1; (try dsimp only at zN1); (try dsimp only)))) | ((try dsimp only [List.append_nil, List.cons_append, List.nil_append]); (with_reducible show wpAny _ _ (call (Value.ref 241) [Value.ref _]) _ _ _); k_dflt (refine' spaces_spec (by k_asm) (by k_asm) (by k_asm) (by k_asm) (by k_asm) rfl (by ktr_room) (by k_mem) (by k_updF) (by first | assumption | k_ne) (by bits_fit) (by first | assumption | omega) ?_; k_whole; (intro zh1 ztk1 zi1 zv1 zvt1 zF1 zN1 zK1; (try dsimp only at zN1); (try dsimp only)))) | ((with_reducible show wpAny _ _ (call (Value.ref 109) [Value.str (Str.mk #[_]) _]) _ _ _); k_dflt (refine' is_space_spec (by k_asm) (by k_asm) (by k_asm) (by k_asm) (by k_asm) rfl (by ktr_room) ?_; k_whole; (intro zh1 ztk1 zF1 zN1 zK1; (try dsimp only)))) | ((with_reducible show wpAny _ _ (call (Value.ref 206) [Value.ref _, Value.str _ _]) _ _ _); k_dflt (refine' fault_spec (by k_asm) (by k_asm) (by k_asm) (by k_asm) (by k_asm) rfl (by ktr_room) (by k_mem) (by k_mem) ?_; k_whole; intro zh1 ztk1 ze1 zd1 zt1 zF1 zN1 zfe1 zK1; (try dsimp only))) | ((with_reducible show wpAny _ _ (call (Value.ref 227) [Value.ref _, Value.str _ _]) _ _ _); k_dflt (refine' takes1 (by k_asm) (by k_asm) (by k_asm) (by k_asm) (by k_asm) rfl (by ktr_room) (by k_mem) (by k_updF) (by first | assumption | k_ne) (by first | assumption | (show Str.cps _ = #[44]; rfl) | (show Str.cps _ = #[124]; rfl) | (show Str.cps _ = #[41]; rfl) | (show Str.cps _ = #[42]; rfl) | (show Str.cps _ = #[63]; rfl) | (show Str.cps _ = #[43]; rfl)) ?_ ?_; k_whole; (intro zq1 zh1 ztk1 zi1 zF1 zN1 zK1; (try dsimp only at zN1); (try dsimp only)))) | ((with_reducible show wpAny _ _ (call (Value.ref 144) [Value.ref _, Value.str _ _]) _ _ _); k_dflt (refine' init147 (by k_asm) (by k_asm) (by k_asm) (by k_asm) rfl (by ktr_room) (by k_asm) ?_; k_whole; intro zh1 ztk1 zdx1 zt1 zod1 zF1 zN1 zne1 zS1 zK1; (try dsimp only))) | walk1 | (dsimp only; walk1))
  (with_reducible rename Fr g' L' _ _ => F9); (with_reducible rename News g' L' _ _ => N9); (with_reducible rename (_ == sysModules) = false => lo9); (with_reducible rename Obj.IsDictOf (strKind _ _) _ _ => d9)
  obtain ⟨M, hM, F8⟩ := fr_named F9
  refine While_inv (fun k m1 news1 => ∃ (j : Nat) (it' : Tok) (kvs : List (Str × Value)) (o : Obj) (nv : Option Value), n ≤ j ∧ j ≤ (sg t).length ∧ kvs.length ≤ j ∧ mix (sg t) j ((kvs.map (·.1)).map sg) = mix (sg t) (skip (sg t) n) [] ∧ o.IsDictOf (strKind PySem.Challenge.rw_xw0208_01.row.prog w) kvs ∧ (fun y => if y = Str.ofString "name" then nv else M y) = m1 ∧
    [(_, o), (x, instObj 293 dx), (dx, dictOf (scanD h1 h2 h3 h4 k1 k2 k3 k4 t tt b bt (j : Int) it') 4)] = news1 ∧ k = (sg t).length - j) F8 N9 ⟨skip (sg t) n, _, [], _, M (Str.ofString "name"), skip_ge, skip_le hn, Nat.zero_le _, rfl, d9, upd_self _ _, rfl, rfl⟩ ?_
  rintro k m1 news1 hh1 tk1 F1 N1 ⟨j, it', kvs, o, nv, hj1, hj2, hj3, hj4, hd1, rfl, rfl, rfl⟩
  subst hM
  dsimp only at F1
  (repeat' (first | ((try dsimp only [List.append_nil, List.cons_append, List.nil_append]); (with_reducible show wpAny _ _ (call (Value.ref 269) [Value.ref _]) _ _ _); k_dflt (refine' name_spec (by k_asm) (by k_asm) (by k_asm) (by k_asm) (by k_asm) rfl (by ktr_room) (by k_mem) (by k_updF) (by first | assumption | k_ne) (by bits_fit) (by first | assumption | omega) (by assumption) ?_ ?_; k_whole; (intro zq1 zh1 ztk1 zi1 zv1 zvt1 zhv1 zF1 zN1 zK1; (try dsimp only at zN1); (try dsimp only)))) | ((with_reducible show wpAny _ _ (call (Value.ref 234) [Value.ref _, Value.str _ _]) _ _ _); k_dflt (refine' expect1 (by k_asm) (by k_asm) (by k_asm) (by k_asm) (by k_asm) rfl (by ktr_room) (by k_mem) (by k_updF) (by first | assumption | k_ne) (by first | assumption | (show Str.cps _ = #[44]; rfl) | (show Str.cps _ = #[124]; rfl) | (show Str.cps _ = #[41]; rfl)) ?_ ?_; k_whole; (intro zq1 zh1 ztk1 zi1 zF1 zN1 zK1; (try dsimp only at zN1); (try dsimp only)))) | ((with_reducible show wpAny _ _ (call (Value.ref 50) [Value.ref _, Value.ref _, Value.str _ _]) _ _ _); k_dflt (refine' set_sign_spec (by k_asm) (by k_asm) (by k_asm) (by k_asm) (by k_asm) rfl (by ktr_room) (by k_mem) (by k_mem) (by k_mem) (by k_updF) (by first | assumption | k_ne) (by first | assumption | k_ne) (by first | assumption | k_ne) (by first | assumption | k_ne) ?_ ?_ ?_; k_whole; (intro zq1 zh1 ztk1 zF1 zN1 zK1; (try dsimp only at zN1); (try dsimp only)))) | ((try dsimp only [List.append_nil, List.cons_append, List.nil_append]); (with_reducible show wpAny _ _ (call (Value.ref 241) [Value.ref _]) _ _ _); k_dflt (refine' spaces_spec (by k_asm) (by k_asm) (by k_asm) (by k_asm) (by k_asm) rfl (by ktr_room) (by k_mem) (by k_updF) (by first | assumption | k_ne) (by bits_fit) (by first | assumption | omega) ?_; k_whole; (intro zh1 ztk1 zi1 zv1 zvt1 zF1 zN1 zK1; (try dsimp only at zN1); (try dsimp only)))) | ((with_reducible show wpAny _ _ (call (Value.ref 109) [Value.str (Str.mk #[_]) _]) _ _ _); k_dflt (refine' is_space_spec (by k_asm) (by k_asm) (by k_asm) (by k_asm) (by k_asm) rfl (by ktr_room) ?_; k_whole; (intro zh1 ztk1 zF1 zN1 zK1; (try dsimp only)))) | ((with_reducible show wpAny _ _ (call (Value.ref 206) [Value.ref _, Value.str _ _]) _ _ _); k_dflt (refine' fault_spec (by k_asm) (by k_asm) (by k_asm) (by k_asm) (by k_asm) rfl (by ktr_room) (by k_mem) (by k_mem) ?_; k_whole; intro zh1 ztk1 ze1 zd1 zt1 zF1 zN1 zfe1 zK1; (try dsimp only))) | ((with_reducible show wpAny _ _ (call (Value.ref 227) [Value.ref _, Value.str _ _]) _ _ _); k_dflt (refine' takes1 (by k_asm) (by k_asm) (by k_asm) (by k_asm) (by k_asm) rfl (by ktr_room) (by k_mem) (by k_updF) (by first | assumption | k_ne) (by first | assumption | (show Str.cps _ = #[44]; rfl) | (show Str.cps _ = #[124]; rfl) | (show Str.cps _ = #[41]; rfl) | (show Str.cps _ = #[42]; rfl) | (show Str.cps _ = #[63]; rfl) | (show Str.cps _ = #[43]; rfl)) ?_ ?_; k_whole; (intro zq1 zh1 ztk1 zi1 zF1 zN1 zK1; (try dsimp only at zN1); (try dsimp only)))) | ((with_reducible show wpAny _ _ (call (Value.ref 144) [Value.ref _, Value.str _ _]) _ _ _); k_dflt (refine' init147 (by k_asm) (by k_asm) (by k_asm) (by k_asm) rfl (by ktr_room) (by k_asm) ?_; k_whole; intro zh1 ztk1 zdx1 zt1 zod1 zF1 zN1 zne1 zS1 zK1; (try dsimp only))) | (k_unfold; (try dsimp only)) | (k_end; wrow_close) | walk1 | (dsimp only; walk1) | (leave1; try dsimp only)))
  · (with_reducible rename Heap.get? _ _ = Option.none => fe); (with_reducible rename ∀ b o, _ = some o → _ = some o => KA); (with_reducible rename _ ∈ List.map _ kvs => q9); (with_reducible rename sg _ = _ => hv9); (with_reducible rename (sg t)[j]? = some 124 => h9)
    have e : mixed (sg t) n = Option.none := by
      unfold mixed; rw [← hj4, mix_twice h9 (yes_in hv9 q9)]; rfl
    exact raise_out (mods := [dx]) N₀ K' S' B' (by assumption) (by assumption) (by tb_rel) fe KA (News.get (by assumption) (.head _)) rfl rfl rfl fun h' R => exc e _ _ _ R
  · (with_reducible rename Fr g' L' _ _ => F9); (with_reducible rename News g' L' _ _ => N9); (with_reducible rename ¬ _ ∈ List.map _ kvs => q9); (with_reducible rename sg _ = _ => hv9); (with_reducible rename (sg t)[j]? = some 124 => h9); (with_reducible rename nameAt _ _ = true => n9); (with_reducible rename Obj.IsDictOf _ _ (stored _ _ _) => d8)
    have hs := stored_new (v := Value.bool true) q9
    have hsl := congrArg List.length hs
    simp only [List.length_append, List.length_map, List.length_cons, List.length_nil] at hsl
    have g1 := lt_of_get h9
    have g2 : j + 1 ≤ skip (sg t) (j + 1) := skip_ge
    have g3 : skip (sg t) (j + 1) ≤ run (sg t) (skip (sg t) (j + 1)) := run_ge
    have g4 : run (sg t) (skip (sg t) (j + 1)) ≤ skip (sg t) (run (sg t) (skip (sg t) (j + 1))) := skip_ge
    have g5 : skip (sg t) (run (sg t) (skip (sg t) (j + 1))) ≤ (sg t).length := skip_le (run_le (skip_le g1))
    refine WhileStep.intro F9 N9 (n' := (sg t).length - skip (sg t) (run (sg t) (skip (sg t) (j + 1)))) (by omega) ⟨_, _, _, _, _, by omega, g5, by omega, ?_, d8, (upd_upd _ _ _ _).symm, rfl, rfl⟩
    rw [hs, List.map_append, ← hj4, mix_on h9 n9 (not_in hv9 q9)]
    show mix _ _ (_ ++ [sg _]) = _
    rw [hv9]; rfl
  · (with_reducible rename Raised _ _ _ _ => R); (with_reducible rename (sg t)[j]? = some 124 => h9); (with_reducible rename nameAt _ _ = false => n9)
    have e : mixed (sg t) n = Option.none := by
      unfold mixed; rw [← hj4, mix_no h9 n9]; rfl
    refine' raise_thru (mods := [dx]) (mods2 := []) N₀ K' S' ?F2q1 ?N2q1 ?sameq1 ?hmq1 R rfl rfl fun h' R' => exc e _ _ _ R'
    case F2q1 => assumption
    case N2q1 => assumption
    case sameq1 => tb_rel
    case hmq1 => intro a ha; cases ha
  · (with_reducible rename (sg t)[j]? ≠ some 124 => h9); (with_reducible rename (sg t)[j]? = some 41 => h8); (with_reducible rename (sg t)[_]? = some 42 => h7)
    have e : mixed (sg t) n = some (j + 2, (kvs.map (·.1)).map sg) := by
      unfold mixed; rw [← hj4, mix_end h9]; unfold fin1; simp only; rw [if_pos h8, if_pos h7]
    (repeat' (first | k_unfold | dsimp only))
    (with_reducible rename Fr g' L' _ _ => F9); (with_reducible rename News g' L' _ _ => N9)
    obtain ⟨F8, N8, K8⟩ := back F N₀ K' F9 N9
    have K7 := keepBut (d := dx) N₀ N8 K8 (by tb_rel)
    exact ret _ _ e _ _ _ _ _ _ _ _ F8 (List.forall_mem_cons.mpr ⟨N8 _ (.head _), List.forall_mem_cons.mpr ⟨N8 _ (.tail _ (.head _)), News.upd1 N U K7 (N8 (dx, _) (by k_mem)).1⟩⟩) (by assumption) rfl K7
  · (with_reducible rename (sg t)[j]? ≠ some 124 => h9); (with_reducible rename (sg t)[j]? = some 41 => h8); (with_reducible rename (sg t)[_]? ≠ some 42 => h7); (with_reducible rename List.isEmpty _ = true => h6)
    have e : mixed (sg t) n = some (j + 1, (kvs.map (·.1)).map sg) := by
      unfold mixed; rw [← hj4, mix_end h9]; unfold fin1; simp only; rw [if_pos h8, if_neg h7, if_pos]
      rw [List.isEmpty_iff.mp h6]; rfl
    (repeat' (first | k_unfold | dsimp only))
    (with_reducible rename Fr g' L' _ _ => F9); (with_reducible rename News g' L' _ _ => N9)
    obtain ⟨F8, N8, K8⟩ := back F N₀ K' F9 N9
    have K7 := keepBut (d := dx) N₀ N8 K8 (by tb_rel)
    exact ret _ _ e _ _ _ _ _ _ _ _ F8 (List.forall_mem_cons.mpr ⟨N8 _ (.head _), List.forall_mem_cons.mpr ⟨N8 _ (.tail _ (.head _)), News.upd1 N U K7 (N8 (dx, _) (by k_mem)).1⟩⟩) (by assumption) rfl K7
  · (with_reducible rename Heap.get? _ _ = Option.none => fe); (with_reducible rename ∀ b o, _ = some o → _ = some o => KA); (with_reducible rename (sg t)[j]? ≠ some 124 => h9); (with_reducible rename (sg t)[j]? = some 41 => h8); (with_reducible rename (sg t)[_]? ≠ some 42 => h7); (with_reducible rename List.isEmpty _ = false => h6)
    have e : mixed (sg t) n = Option.none := by
      unfold mixed; rw [← hj4, mix_end h9]; unfold fin1; simp only; rw [if_pos h8, if_neg h7, if_neg]
      intro q
      rw [List.map_eq_nil_iff] at q
      rw [q] at h6; cases h6
    exact raise_out (mods := [dx]) N₀ K' S' B' (by assumption) (by assumption) (by tb_rel) fe KA (News.get (by assumption) (.head _)) rfl rfl rfl fun h' R => exc e _ _ _ R
  · (with_reducible rename Raised _ _ _ _ => R); (with_reducible rename (sg t)[j]? ≠ some 124 => h9); (with_reducible rename (sg t)[j]? ≠ some 41 => h8)
    have e : mixed (sg t) n = Option.none := by
      unfold mixed; rw [← hj4, mix_end h9]; unfold fin1; simp only; rw [if_neg h8]
    refine' raise_thru (mods := [dx]) (mods2 := []) N₀ K' S' ?F2q2 ?N2q2 ?sameq2 ?hmq2 R rfl rfl fun h' R' => exc e _ _ _ R'
    case F2q2 => assumption
    case N2q2 => assumption
    case sameq2 => tb_rel
    case hmq2 => intro a ha; cases ha
end
section
variable {prog : Program} {w : World} {A₀ : Around} {E : Value → Shared → Prop} {s' : Shared} {base g G : Heap} {outer : List Env} {L a e C : Addr} {m : Str → Option Value} {name : Str} {scope : Scope} {cd : Value} {mods : List Addr}
  {b₀ : Stmt} {suite : List Stmt} {pos np : Pos} {rest : List ExceptHandler} {Q : Flow → Shared → Prop} {news : List (Addr × Obj)} {KF : Frag}
  {p : Program} {loose : List Str} {mean : ExcName → Option Value} {mg mb : Str → Option Value} {x : Str}

theorem fr_hide (F : Fr g L G m) (hm : ∀ b ∈ mods, b ≠ L ∧ g.get? b = none) : Fr g L (hideAll G mods) m := by
  obtain ⟨oL, es, ep, hL, r⟩ := F.ns
  refine ⟨⟨oL, es, ep, hideAll_get _ hL fun q => (hm _ q).1 rfl, r⟩, fun b o q => hideAll_get _ (F.keep b o q) fun z => ?_, Nat.le_trans F.above (Nat.le_refl _)⟩
  rw [(hm _ z).2] at q; cases q

theorem caught_own (R : Raised (hideAll G mods) (envOf name scope L a cd :: outer) e s'.heap) (F0 : Fr g L G m) (N : News g L G news) (hm : ∀ b ∈ mods, b ≠ L ∧ g.get? b = none) (K : Below A₀ base outer g) (XB : KF.In base) (TB : Top p loose mean mg mb base)
    (ex : nsIn KF mainGlobals x = some (some (.ref 168))) (q : ktsIn KF 168 "BaseException" = true)
    (k : ∀ h' g', KtsTurn (outer.filterMap (·.frame)) g g' → Fr g' L h' m → (∀ q ∈ news, q.1 ∉ mods → h'.get? q.1 = some q.2 ∧ q.1 ≠ L ∧ g'.get? q.1 = none) → Below A₀ base outer g' → KF.In g' → Top p loose mean mg mb g' →
      wpAny (model prog w) ((A₀.deeper (envOf name scope L a cd)).mark (some (.ref e))) (execs (b₀ :: suite) (envOf name scope L a cd)) Q E { s' with heap := h' })
    (hk : scope.kind = .function := by rfl) (hx : (envOf name scope L a cd).kindOf x = some .globalImplicit := by rfl) (hd : (x == ("__debug__" : Str)) = false := by decide)
    (hE : PassesOwnAt (model prog w) ((A₀.deeper (envOf name scope L a cd)).mark (some (.ref e))) (A₀.deeper (envOf name scope L a cd)) (envOf name scope L a cd) E := by passes_own) :
    wpAny (model prog w) (A₀.deeper (envOf name scope L a cd)) (noteFrame (.ref e) (envOf name scope L a cd))
      (fun _ s₂ => wpAny (model prog w) (A₀.deeper (envOf name scope L a cd)) (setFlight (.ref e) none) (fun _ s₃ =>
        wpAny (model prog w) (A₀.deeper (envOf name scope L a cd)) (handleBy (.ref e) (envOf name scope L a cd) (.ExceptHandler (some (.Name x np)) none (b₀ :: suite) pos :: rest)) Q E s₃) E s₂) E s' := by
  obtain ⟨⟨B, a0, hBG, hfl⟩, hsm⟩ := R
  have F := fr_hide F0 hm
  have hL : B.get? L = none := by
    obtain ⟨_, ⟨L', _, hf, hn', _⟩, _⟩ := hfl.2.2.1
    obtain rfl : L = L' := Option.some.inj hf
    exact hn'
  have Nl0 : ∀ q ∈ news, q.1 ∉ mods → B.get? q.1 = some q.2 := fun q hq nm => hBG _ _ (hideAll_get _ (N q hq).1 nm) fun hm => by
    rcases kts_mem hm with z | z
    · exact (N q hq).2.1 z
    · obtain ⟨_, o, ho, _⟩ := K.frames.mem z
      rw [(N q hq).2.2] at ho; cases ho
  refine wpAny_looks_onW (Around.frames_deeper K.stack) rfl hfl fun h₄ hheld₄ hsm₄ => ?_
  refine wpAny_landsW hheld₄ fun h₅ hheld hsm₅' => ?_
  have hsm₅ := hsm₄.trans hsm₅'
  obtain ⟨g₅, T₅, F₅, K₅⟩ := kts_ground K F hBG hheld.1 (hsm.trans hsm₅)
  have X₅ : KF.In g₅ := XB.keeps K₅.stays
  have P₅ : TopRead p loose mg mb g₅ := topRead_of (TB.keeps K₅.stays)
  obtain ⟨ob, hob, hobc⟩ := hheld.there
  obtain ⟨nm, q', N', bs, bm, hdct, sn, sub, ab, col, dd, k0, k1, k2, k3, k5, newId, hC, hbase, hbT⟩ := kts_cls X₅ q
  have hC₅ := F₅.keep _ _ hC
  refine wpAny_handleBy_cons (codeAny_handlers_test (name_K F₅ X₅ P₅ ex ?_ hk hx hd)) (by intro q; cases q)
  refine wpAny_excMatches_sub_self hC₅ hob hobc hbase (codeAny_handlers_suite ?_)
  refine lands_againW hheld fun h₆ hfl₆ hsm₆ => ?_
  obtain ⟨g₆, T₆, F₆, K₆⟩ := kts_ground K F hBG hfl₆.1 ((hsm.trans hsm₅).trans hsm₆)
  have Nl : ∀ q ∈ news, q.1 ∉ mods → h₆.get? q.1 = some q.2 ∧ q.1 ≠ L ∧ g₆.get? q.1 = none := fun q hq nm =>
    ⟨hfl₆.1 _ _ (Nl0 q hq nm), (fun z => by have := Nl0 q hq nm; rw [z, hL] at this; cases this), T₆.none_ _ (N q hq).2.2⟩
  have X₆ : KF.In g₆ := XB.keeps K₆.stays
  have P₆ : Top p loose mean mg mb g₆ := TB.keeps K₆.stays
  exact wpAny_passesOwnAt hE (k h₆ g₆ T₆ F₆ Nl K₆ X₆ P₆)
end

section
variable {prog : Program} {w : World} {A₀ : Around} {E : Value → Shared → Prop} {s : Shared} {base h₀ : Heap} {outer : List Env} {L : Addr} {m : Str → Option Value} {news : List (Addr × Obj)} {K : Frag}
  {p : Program} {loose : List Str} {mean : ExcName → Option Value} {mg mb : Str → Option Value} {dp un : Nat} {gd : Option (List Code)} {cn : Str} {cs : Scope} {a : Addr} {ccd : Value} {cl : List (Str × Addr)}
  {name qual : Str} {params : Arguments} {body : List Stmt} {scope : Scope} {dV kV doc pm cdv ct oc : Value} {an od : Option Addr} {osl : Array (Option Value)} {f : Addr} {vs : List Value} {binds : List (Str × Value)} {Q : Value → Shared → Prop}

/-- a def with cells of its own is entered -/
theorem enterC (B : Below A₀ base outer h₀) (F : Fr h₀ L s.heap m) (X₀ : K.In h₀) (N : News h₀ L s.heap news) (T : Top p loose mean mg mb h₀) (hke : cs.kind = .function)
    (ho : K.lookup f = some ⟨oc, od, .func (fnOf name qual params body scope dV kV doc pm an cdv ct), osl⟩) (hcd : codeIn K cdv qual = true) (hroom : dp < recursionLimit)
    (hbind : BindsTo s (fnOf name qual params body scope dV kV doc pm an cdv ct) ⟨vs, []⟩ binds)
    (hkind : ∀ n, ∀ x ∈ binds, scope.names.lookup x.1 = some .local ∨ (scope.names.lookup x.1 = some .cell ∧ ((cellsFrom n scope.names []).lookup x.1).isSome = true))
    (hnd : ((cellsFrom 0 scope.names []).map (·.1)).Nodup)
    (h : ∀ g L' h₁ tk cells, Fr g L' h₁ (bindL (envOfC qual scope L' f cdv).kindOf binds fun _ => none) → News g L' h₁ (cells ++ news) →
      CellsAre (bindC (envOfC qual scope L' f cdv).kindOf binds fun _ => none) (cellsFrom (L' + 1) scope.names []) cells → Below (ktrTop dp un gd cn cs L a ccd cl outer) base (envX cn cs L a ccd cl :: outer) g → K.In g → Top p loose mean mg mb g →
      Kp (news.map (·.1)) s.heap g → s.heap.objs.size ≤ L' → (∀ p ∈ news, p.1 < L') →
      wpAny (model prog w) ((ktrTop dp un gd cn cs L a ccd cl outer).deeper (envOfC qual scope L' f cdv)) (execs body (envOfC qual scope L' f cdv))
        (fun fl s' => Q (match fl with | .ret v => v | _ => .none) s')
        (fun e s' => wpAny (model prog w) ((ktrTop dp un gd cn cs L a ccd cl outer).deeper (envOfC qual scope L' f cdv)) (leaving (envOfC qual scope L' f cdv) e) (fun _ s'' => E e s'') (fun e' s'' => E e' s'') s')
        { s with heap := h₁, toks := tk })
    (hco : scope.isCoroutine = false) (hgen : scope.isGenerator = false) (hk : scope.kind = .function) :
    wpAny (model prog w) (ktrTop dp un gd cn cs L a ccd cl outer) (call (.ref f) vs) Q E s := by
  have X := X₀.keeps F.keep
  obtain ⟨FG, BG, st, _⟩ := groundX (A := ktrTop dp un gd cn cs L a ccd cl outer) (R := fun _ _ => True) B F N rfl rfl hke
  refine wpAny_call (codeAny_call_function hroom (X _ _ ho) rfl hco hgen rfl (codeRec_of X hcd) (hbind _ _ _ _ ?_))
  refine wpAny_newFunctionEnv_cells hk (hkind _) fun env' he s' x => ?_
  subst he
  refine ⟨(T.nolimit.keeps F.keep).keeps x.toInCall.keep, codeAny_func ?_⟩
  obtain ⟨h₁, tk, rfl, _⟩ := x.done
  have hk₁ := x.toInCall.keep
  obtain ⟨cells, NC, Y⟩ := Cl.news (h₀ := s.heap) (Nat.le_refl _) fun n c hm => ⟨x.cell n c (lookup_of_mem_nodup (cellsFrom_names scope.names 0 (s.heap.objs.size + 1) [] [] rfl ▸ hnd) hm), x.above n c hm⟩
  refine h _ s.heap.objs.size h₁ tk cells ⟨x.toInCall.ns, fun b o e => hk₁ b o (of_hideAll _ e), Nat.le_of_eq (hideAll_size _ _)⟩ (fun p hp => ?_) Y BG (X₀.keeps st) (T.keeps st)
    (fun b o e n => hideAll_get _ e n) (Nat.le_refl _) (fun p hp => Heap.lt_size (N p hp).1)
  rcases List.mem_append.mp hp with hp | hp
  · refine ⟨(NC p hp).1, (NC p hp).2.1, ?_⟩
    cases q : (hideAll s.heap (news.map (·.1))).get? p.1 with
    | none => rfl
    | some o => have := of_hideAll _ q; rw [(NC p hp).2.2] at this; cases this
  · exact ⟨hk₁ _ _ (N p hp).1, Nat.ne_of_lt (Heap.lt_size (N p hp).1), hideAll_none _ (List.mem_map_of_mem hp)⟩

/-- a lambda of the ledger is entered -/
theorem enterL {lbody : Expr} {clos : List (Str × Addr)} {ctv : Value} {c' : Addr} (B : Below A₀ base outer h₀) (F : Fr h₀ L s.heap m) (X₀ : K.In h₀) (N : News h₀ L s.heap news) (T : Top p loose mean mg mb h₀) (hke : cs.kind = .function)
    (ho : (f, kla_obj name qual params lbody scope clos pm c' ctv) ∈ news) (hcd : s.heap.CodeRec (.ref c') qual) (hroom : dp < recursionLimit)
    (hbind : bindArgs (kla_fn name qual params lbody scope clos pm (.ref c') ctv) ⟨vs, []⟩ = pure binds) (hloc : ∀ y ∈ binds, scope.names.lookup y.1 = some .local)
    (h : ∀ g L' h₁, Fr g L' h₁ (fun y => binds.reverse.lookup y) → News g L' h₁ news → Below (ktrTop dp un gd cn cs L a ccd cl outer) base (envX cn cs L a ccd cl :: outer) g → K.In g → Top p loose mean mg mb g →
      Kp (news.map (·.1)) s.heap g → s.heap.objs.size ≤ L' → (∀ p ∈ news, p.1 < L') →
      wpAny (model prog w) ((ktrTop dp un gd cn cs L a ccd cl outer).deeper (envX qual scope L' f (.ref c') clos)) (eval lbody (envX qual scope L' f (.ref c') clos))
        (fun v s' => Q v s')
        (fun e s' => wpAny (model prog w) ((ktrTop dp un gd cn cs L a ccd cl outer).deeper (envX qual scope L' f (.ref c') clos)) (leaving (envX qual scope L' f (.ref c') clos) e) (fun _ s'' => E e s'') (fun e' s'' => E e' s'') s')
        { s with heap := h₁, toks := s.toks + binds.length })
    (hcell : ∀ x ∈ scope.names, x.2 ≠ .cell) (hco : scope.isCoroutine = false) (hgen : scope.isGenerator = false) (hk : scope.kind = .function) :
    wpAny (model prog w) (ktrTop dp un gd cn cs L a ccd cl outer) (call (.ref f) vs) Q E s := by
  obtain ⟨FG, BG, st, _⟩ := groundX (A := ktrTop dp un gd cn cs L a ccd cl outer) (R := fun _ _ => True) B F N rfl rfl hke
  refine wpAny_call (kla_callFunE hroom (N _ ho).1 rfl hco hgen rfl hcd ?_)
  rw [hbind]
  refine wpAny_pure (wpAny_newFunctionEnv hcell hloc (fun h₁ hns hsb => ⟨((T.nolimit).keeps F.keep).fresh _ hsb, ?_⟩) hk)
  show codeAny _ _ (.expr lbody (envX qual scope s.heap.objs.size f (.ref c') clos)) _ _
  have hk₁ : ∀ b o, s.heap.get? b = some o → h₁.get? b = some o := fun b o e => hsb.extBut b o (Nat.ne_of_lt (Heap.lt_size e)) (Heap.get?_push_of_some _ e)
  exact kla_codeExpr (h _ s.heap.objs.size h₁ ⟨hns, fun b o e => hk₁ b o (of_hideAll _ e), Nat.le_of_eq (hideAll_size _ _)⟩
    (fun p hp => ⟨hk₁ _ _ (N p hp).1, Nat.ne_of_lt (Heap.lt_size (N p hp).1), hideAll_none _ (List.mem_map_of_mem hp)⟩) BG (X₀.keeps st) (T.keeps st)
    (fun b o e n => hideAll_get _ e n) (Nat.le_refl _) (fun p hp => Heap.lt_size (N p hp).1))

/-- back in the caller's frame, its ground turned by an exception that was caught -/
theorem back_turn {A₁ : Around} {h g g' h' : Heap} {L' : Addr} {m' : Str → Option Value} {news' : List (Addr × Obj)} (B : Below A₁ base outer h₀) (F : Fr h₀ L h m) (N : News h₀ L h news) (ST : Kp (news.map (·.1)) h g)
    (TU : KtsTurn ((envX cn cs L a ccd cl :: outer).filterMap (·.frame)) g g') (F' : Fr g' L' h' m') (N' : News g' L' h' news') :
    ∃ h₁, KtsTurn (outer.filterMap (·.frame)) h₀ h₁ ∧ Fr h₁ L h' m ∧ News h₁ L h' news' ∧ Below A₁ base outer h₁ ∧ (∀ b o, h.get? b = some o → b ∉ news.map (·.1) → b ∉ (L :: outer.filterMap (·.frame)) → h'.get? b = some o) := by
  have nm : ∀ b o, h₀.get? b = some o → b ∉ news.map (·.1) := fun b o e q => by
    obtain ⟨p, hp, rfl⟩ := List.mem_map.mp q
    rw [(N p hp).2.2] at e; cases e
  have st : h₀.StaysIn g := fun b o e => ST b o (F.keep b o e) (nm b o e)
  obtain ⟨oL, es, ep, hL, hLd, hLk, hLf⟩ := F.ns
  have nL : L ∉ news.map (·.1) := fun q => by
    obtain ⟨p, hp, e⟩ := List.mem_map.mp q
    exact (N p hp).2.1 e
  have hLg := ST L oL hL nL
  have nL₀ : h₀.get? L = none := kts_self F
  have fm : ((envX cn cs L a ccd cl :: outer).filterMap (·.frame)) = L :: outer.filterMap (·.frame) := rfl
  rw [fm] at TU
  obtain ⟨sl, hs⟩ := TU.up hLg
  obtain ⟨T₁, S₁⟩ := kts_turn_at (h := h') (fs := outer.filterMap (·.frame)) (g := h₀)
    (fun b hb => by
      obtain ⟨_, o, ho', _⟩ := B.frames.mem hb
      exact ⟨o, ho'⟩)
    (fun b o e nmem => F'.keep b o (TU.other b o (st b o e) (fun q => by
      rcases List.mem_cons.mp q with z | z
      · rw [z, nL₀] at e
        cases e
      · exact nmem z)))
    (fun b o e hm => by
      obtain ⟨sl', hs'⟩ := TU.up (st b o e)
      exact ⟨sl', F'.keep _ _ hs'⟩)
  have B₃ : Below A₁ base outer (ktsHeap h' (outer.filterMap (·.frame)) h₀) := ⟨B.stack, fun b o e => T₁.other b o (B.stays b o e) (fun hm => by
    rw [(B.frames.mem hm).1] at e
    cases e), B.frames.of_keeps fun b o e _ => by
    obtain ⟨sl', hs'⟩ := T₁.up e
    exact ⟨_, hs', rfl⟩⟩
  refine ⟨_, T₁, ⟨⟨_, es, ep, F'.keep _ _ hs, hLd, hLk, hLf⟩, S₁, by rw [T₁.size]; exact F.above⟩, fun p hp => ⟨(N' p hp).1, fun q => ?_, ?_⟩, B₃, fun b o e n1 n2 => F'.keep b o (TU.other b o (ST b o e n1) n2)⟩
  · have := (N' p hp).2.2; rw [q, hs] at this; cases this
  · refine T₁.none_ _ ?_
    cases q : h₀.get? p.1 with
    | none => rfl
    | some o =>
      obtain ⟨sl', hs'⟩ := TU.up (st _ _ q)
      have := (N' p hp).2.2
      rw [hs'] at this
      cases this
end
theorem News.apart {h₀ h : Heap} {L a b : Addr} {o o' : Obj} {news : List (Addr × Obj)} (N : News h₀ L h news) (h1 : (a, o) ∈ news) (h2 : (b, o') ∈ news) (hn : o ≠ o') : @Ne Nat a b := fun q => by
  have e1 := (N _ h1).1
  have e2 := (N _ h2).1
  dsimp only at e1 e2
  rw [show a = b from q, e2] at e1
  cases e1
  exact hn rfl
inductive DelF (d : Addr) : List (Addr × Obj) → List (Addr × Obj) → Prop
  | nil : DelF d [] []
  | drop {o r r'} : DelF d r r' → DelF d ((d, o) :: r) r'
  | keep {p r r'} : p.1 ≠ d → DelF d r r' → DelF d (p :: r) (p :: r')
  | tail {r} : (∀ p ∈ r, p.1 ≠ d) → DelF d r r
theorem DelF.sub {d : Addr} {l l' : List (Addr × Obj)} (D : DelF d l l') : ∀ p ∈ l', p ∈ l ∧ p.1 ≠ d := by
  induction D with
  | nil => exact fun _ h => nomatch h
  | drop _ ih => exact fun p hp => ⟨.tail _ (ih p hp).1, (ih p hp).2⟩
  | keep n _ ih =>
    intro p hp
    rcases List.mem_cons.mp hp with rfl | hp
    · exact ⟨.head _, n⟩
    · exact ⟨.tail _ (ih p hp).1, (ih p hp).2⟩
  | tail h => exact fun p hp => ⟨hp, h p hp⟩
theorem off_frames {A : Around} {base h₀ h : Heap} {outer : List Env} {L : Addr} {news : List (Addr × Obj)} (N : News h₀ L h news) (B : Below A base outer h₀) {p : Addr × Obj} (hp : p ∈ news) : p.1 ∉ L :: outer.filterMap (·.frame) := fun q => by
  rcases List.mem_cons.mp q with z | z
  · exact (N p hp).2.1 z
  · obtain ⟨_, o, ho, _⟩ := B.frames.mem z
    rw [(N p hp).2.2] at ho; cases ho
theorem turn_news {A : Around} {base h₀ h h' h1 : Heap} {outer : List Env} {L dx : Addr} {news nk : List (Addr × Obj)} (N : News h₀ L h news) (B : Below A base outer h₀) (D : DelF dx news nk) (TT : KtsTurn (outer.filterMap (·.frame)) h₀ h1)
    (K : ∀ b o, h.get? b = some o → b ∉ [dx] → b ∉ L :: outer.filterMap (·.frame) → h'.get? b = some o) : News h1 L h' nk := fun p hp =>
  have q := D.sub p hp
  ⟨K _ _ (N p q.1).1 (fun z => q.2 (List.mem_singleton.mp z)) (off_frames N B q.1), (N p q.1).2.1, TT.none_ _ (N p q.1).2.2⟩
theorem turn_upd {A : Around} {base h₀ h h' h1 : Heap} {outer : List Env} {L d : Addr} {o o' : Obj} {news : List (Addr × Obj)} {g : Obj → List (Addr × Obj)} (N : News h₀ L h news) (B : Below A base outer h₀) (U : UpdF d o news g) (TT : KtsTurn (outer.filterMap (·.frame)) h₀ h1)
    (K : ∀ b o, h.get? b = some o → b ∉ [d] → b ∉ L :: outer.filterMap (·.frame) → h'.get? b = some o) (hd : h'.get? d = some o') : News h1 L h' (g o') := fun p hp => by
  rcases UpdF.pick U hp with rfl | ⟨hn, hne⟩
  · exact ⟨hd, (N _ (UpdF.mem U)).2.1, TT.none_ _ (N _ (UpdF.mem U)).2.2⟩
  · exact ⟨K _ _ (N p hn).1 (fun z => hne (List.mem_singleton.mp z)) (off_frames N B hn), (N p hn).2.1, TT.none_ _ (N p hn).2.2⟩
theorem cell_dict {o : Obj} {v : Option Value} {es : List DictEntry} {n : Nat} (h : o.data = .cell v) : o ≠ dictOf es n := fun q => by rw [q] at h; cases h
theorem keepTurn {h₀ h1 h h' : Heap} {L : Addr} {mods fs : List Addr} {n0 n1 : List (Addr × Obj)} (N₀ : News h₀ L h n0) (N1 : News h1 L h' n1) (K : ∀ b o, h.get? b = some o → b ∉ n0.map (·.1) → b ∉ fs → h'.get? b = some o) (same : ∀ p ∈ n0, p.1 ∉ mods → p ∈ n1) :
    ∀ b o, h.get? b = some o → b ∉ mods → b ∉ fs → h'.get? b = some o := fun b o e n nf => by
  by_cases q : b ∈ n0.map (·.1)
  · obtain ⟨p, hp, rfl⟩ := List.mem_map.mp q
    have := (N₀ p hp).1
    rw [e] at this; cases this
    exact (N1 p (same p hp n)).1
  · exact K b o e q nf
abbrev par0 : Arguments := { posonlyargs := [], args := [], vararg := none, kwonlyargs := [], kw_defaults := [], kwarg := none, defaults := [] }
abbrev bodM (p1 p2 p3 : Pos) : Expr := (Expr.Name (Str.ofString "read_mixed") p1).Call [Expr.Name (Str.ofString "scanner") p2] [] p3
abbrev scoM : Scope := { kind := ScopeKind.function, names := [(Str.ofString "scanner", NameKind.free), (Str.ofString "read_mixed", NameKind.globalImplicit)], isGenerator := false, isCoroutine := false }
abbrev bodG (p1 p2 p3 p4 : Pos) : Expr := (Expr.Name (Str.ofString "goes_on") p1).Call [Expr.Name (Str.ofString "scanner") p2, Expr.Name (Str.ofString "group") p3] [] p4
abbrev scoG : Scope := { kind := ScopeKind.function, names := [(Str.ofString "group", NameKind.free), (Str.ofString "scanner", NameKind.free), (Str.ofString "goes_on", NameKind.globalImplicit)], isGenerator := false, isCoroutine := false }
section
local macro_rules | `(tactic| walk_at "callWith ref") => `(tactic| (k_here; k_dflt (first
  | (refine' callWith_F ?k1 ?_; (case k1 => exact FnAt.of (by k_asm) (by k_mem)); k_whole)
  | (refine' callWith_F0 ?k1 ?_; (case k1 => exact FnAt.of (by k_asm) (by k_mem)); k_whole; try dsimp only [List.nil_append, List.cons_append]))))
local macro_rules | `(tactic| walk_at "FnAt") => `(tactic| (k_dflt (exact FnAt.of (by k_asm) (by k_mem))))
local macro_rules | `(tactic| walk_at "eval Name") => `(tactic| (k_here; k_dflt (refine' nameX_F (by k_asm) rfl (by k_mem) (by assumption) ?_ rfl rfl; k_whole)))
section
variable {w : World} {A₀ : Around} {E : Value → Shared → Prop} {s : Shared} {base h₀ : Heap} {outer : List Env} {L : Addr} {m : Str → Option Value} {news : List (Addr × Obj)}
  {p : Program} {loose : List Str} {mean : ExcName → Option Value} {mg mb : Str → Option Value} {dp un : Nat} {gd : Option (List Code)} {cn : Str} {cs : Scope} {a : Addr} {ccd : Value} {cl : List (Str × Addr)} {Q : Value → Shared → Prop}
  {x dx : Addr} {h1 h2 h3 h4 : Int} {k1 k2 k3 k4 tt bt it wt mt qt : Tok} {t msg : Str} {b i : Int} {n c : Nat} {gf : Obj → List (Addr × Obj)} {nk : List (Addr × Obj)} {fl c' c1 : Addr} {oc o1 : Obj} {vs0 : Array Value} {lname qual : Str} {pm ctv : Value} {p1 p2 p3 : Pos}

theorem lam_mixed (B : Below A₀ base outer h₀) (F : Fr h₀ L s.heap m) (X : (hd.heap_1 w.params).In h₀) (N : News h₀ L s.heap news) (T : Top p loose mean mg mb h₀) (hk : cs.kind = .function) (hdp : dp + 22 < recursionLimit) (hun : un + 1100 < cLine)
  (hf : (fl, kla_obj lname qual par0 (bodM p1 p2 p3) scoM [(Str.ofString "scanner", c1)] pm c' ctv) ∈ news) (hcd : (c', oc) ∈ news) (hoc : oc.data = .fields vs0) (hq : vs0[1]? = some (.str qual qt)) (hc1 : (c1, o1) ∈ news) (ho1 : o1.data = .cell (some (.ref x)))
  (hx : (x, instObj 293 dx) ∈ news) (U : UpdF dx (dictOf (scanD h1 h2 h3 h4 k1 k2 k3 k4 t tt b bt (n : Int) it) 4) news gf) (hne : x ≠ dx) (hn : n ≤ (sg t).length) (hlt : t.length ≤ 1000) (hA : ∀ z n : Nat, (sg t)[n]? = some z → z < 128)
  (ret : ∀ j js, mixed (sg t) n = some (j, js) → ∀ h' tk' it' D1 D2 ut vs ks, Fr h₀ L h' m → News h₀ L h' ((D2, { cls := .type "tuple", data := .seq #[.str (Str.ofString "mixed") ut, .ref D1] }) :: (D1, { cls := .type "tuple", data := .seq (List.toArray vs) }) :: gf (dictOf (scanD h1 h2 h3 h4 k1 k2 k3 k4 t tt b bt ((j : Nat) : Int) it') 4)) →
    StrsAre vs ks → ks.map sg = js → (∀ b o, s.heap.get? b = some o → b ≠ dx → h'.get? b = some o) → Q (.ref D2) { s with heap := h', toks := tk' })
  (exc : mixed (sg t) n = none → ∀ h' tk' e, Raised (hideAll s.heap [dx]) (envX cn cs L a ccd cl :: outer) e h' → E (.ref e) { s with heap := h', toks := tk' }) :
  wpAny (model PySem.Challenge.rw_xw0208_01.row.prog w) (ktrTop dp un gd cn cs L a ccd cl outer) (call (.ref fl) []) Q E s := by
  revert X; k_fill; intro X
  have m1 : @Ne Nat x dx := hne
  have m2 : @Ne Nat fl dx := News.apart N hf (UpdF.mem U) (fun q => by have z := congrArg (fun o : Obj => o.data) q; cases z)
  have m3 : @Ne Nat c1 dx := News.apart N hc1 (UpdF.mem U) (cell_dict ho1)
  have N₀ : News h₀ L s.heap [(fl, kla_obj lname qual par0 (bodM p1 p2 p3) scoM [(Str.ofString "scanner", c1)] pm c' ctv), (c1, o1), (x, instObj 293 dx), (dx, dictOf (scanD h1 h2 h3 h4 k1 k2 k3 k4 t tt b bt (n : Int) it) 4)] :=
    cb_drop N (List.forall_mem_cons.mpr ⟨hf, List.forall_mem_cons.mpr ⟨hc1, List.forall_mem_cons.mpr ⟨hx, List.forall_mem_cons.mpr ⟨UpdF.mem U, List.forall_mem_nil _⟩⟩⟩⟩)
  k_dflt (refine' enterL B F X N₀ T hk (.head _) (codeRec_news N hcd hoc hq) ?k8 ?k9 ?kB ?_ ?c5 ?c2 ?c3 ?c4; (case k8 => ktr_room); (case k9 => exact rfl); (case kB => exact locs rfl); (case c5 => decide); (case c2 => exact rfl); (case c3 => exact rfl); (case c4 => exact rfl); k_whole; intro g' L' h' F' N' B' X' T' K' S' l'; (try dsimp only); (try k_fold))
  repeat ((fail_if_success ((try dsimp only [List.append_nil, List.cons_append, List.nil_append]); (with_reducible show wpAny _ _ (call (Value.ref 78) [Value.ref _]) _ _ _))); (first | walk1 | (dsimp only; walk1)))
  (try dsimp only [List.append_nil, List.cons_append, List.nil_append])
  k_dflt (refine' mixed_spec (by k_asm) (by k_asm) (by k_asm) (by k_asm) (by k_asm) rfl (by ktr_room) (by ktr_units) (by k_mem) (by k_updF) (by first | assumption | k_ne) (by bits_fit) (by first | assumption | omega) (by assumption) ?_ ?_; k_whole; (intro j1 js1 q1 h1 tk1 i1 D1 D2 u1 vs1 ks1 F1 N1 hs1 hks1 K1; (try dsimp only at N1); (try dsimp only)))
  all_goals k_steps
  · (with_reducible rename Fr g' L' _ _ => F9); (with_reducible rename News g' L' _ _ => N9)
    obtain ⟨F8, N8, K8⟩ := back F N₀ K' F9 N9
    have K7 := keepBut (d := dx) N₀ N8 K8 (by tb_rel)
    exact ret _ _ (by assumption) _ _ _ _ _ _ _ _ F8 (List.forall_mem_cons.mpr ⟨N8 _ (.head _), List.forall_mem_cons.mpr ⟨N8 _ (.tail _ (.head _)), News.upd1 N U K7 (N8 (dx, _) (by k_mem)).1⟩⟩) (by assumption) (by assumption) K7
  · (with_reducible rename Raised _ _ _ _ => R)
    refine' raise_thru (mods := [dx]) (mods2 := [dx]) N₀ K' S' ?F2q1 ?N2q1 ?sameq1 ?hmq1 R rfl rfl fun h' R' => exc (by assumption) _ _ _ R'
    case F2q1 => assumption
    case N2q1 => assumption
    case sameq1 => tb_rel
    case hmq1 => intro a ha; exact .inl ha
theorem heard_mixed (B : Below A₀ base outer h₀) (F : Fr h₀ L s.heap m) (X : (hd.heap_1 w.params).In h₀) (N : News h₀ L s.heap news) (T : Top p loose mean mg mb h₀) (hk : cs.kind = .function) (hdp : dp + 24 < recursionLimit) (hun : un + 1200 < cLine)
  (XB : (hd.heap_1 w.params).In base) (TB : Top p loose mean mg mb base) (DF : DelF dx news nk)
  (hf : (fl, kla_obj lname qual par0 (bodM p1 p2 p3) scoM [(Str.ofString "scanner", c1)] pm c' ctv) ∈ news) (hcd : (c', oc) ∈ news) (hoc : oc.data = .fields vs0) (hq : vs0[1]? = some (.str qual qt)) (hc1 : (c1, o1) ∈ news) (ho1 : o1.data = .cell (some (.ref x)))
  (hx : (x, instObj 293 dx) ∈ news) (U : UpdF dx (dictOf (scanD h1 h2 h3 h4 k1 k2 k3 k4 t tt b bt i it) 4) news gf) (hi : i = (n : Int)) (hne : x ≠ dx) (hn : n ≤ (sg t).length) (hlt : t.length ≤ 1000) (hA : ∀ z n : Nat, (sg t)[n]? = some z → z < 128)
  (ret : ∀ j js, mixed (sg t) n = some (j, js) → ∀ h' tk' it' D1 D2 ut vs ks, Fr h₀ L h' m → News h₀ L h' ((D2, { cls := .type "tuple", data := .seq #[.str (Str.ofString "mixed") ut, .ref D1] }) :: (D1, { cls := .type "tuple", data := .seq (List.toArray vs) }) :: gf (dictOf (scanD h1 h2 h3 h4 k1 k2 k3 k4 t tt b bt ((j : Nat) : Int) it') 4)) →
    StrsAre vs ks → ks.map sg = js → (∀ b o, s.heap.get? b = some o → b ≠ dx → h'.get? b = some o) → Q (.ref D2) { s with heap := h', toks := tk' })
  (caught : mixed (sg t) n = none → ∀ h' tk' ut h₁, KtsTurn (outer.filterMap (·.frame)) h₀ h₁ → Fr h₁ L h' m → Below A₀ base outer h₁ → (hd.heap_1 w.params).In h₁ → Top p loose mean mg mb h₁ → News h₁ L h' nk → (∀ b o, s.heap.get? b = some o → b ∉ [dx] → b ∉ L :: outer.filterMap (·.frame) → h'.get? b = some o) →
    Q (.str (Str.ofString "refused") ut) { s with heap := h', toks := tk' }) :
  wpAny (model PySem.Challenge.rw_xw0208_01.row.prog w) (ktrTop dp un gd cn cs L a ccd cl outer) (call (.ref 325) [.ref fl]) Q E s := by
  subst hi
  revert X XB; k_fill; intro X XB
  have m1 : @Ne Nat x dx := hne
  have m2 : @Ne Nat fl dx := News.apart N hf (UpdF.mem U) (fun q => by have z := congrArg (fun o : Obj => o.data) q; cases z)
  have m3 : @Ne Nat c1 dx := News.apart N hc1 (UpdF.mem U) (cell_dict ho1)
  have m4 : @Ne Nat c' dx := News.apart N hcd (UpdF.mem U) (fun q => by rw [q] at hoc; cases hoc)
  have N₀ : News h₀ L s.heap [(fl, kla_obj lname qual par0 (bodM p1 p2 p3) scoM [(Str.ofString "scanner", c1)] pm c' ctv), (c', oc), (c1, o1), (x, instObj 293 dx), (dx, dictOf (scanD h1 h2 h3 h4 k1 k2 k3 k4 t tt b bt (n : Int) it) 4)] :=
    cb_drop N (List.forall_mem_cons.mpr ⟨hf, List.forall_mem_cons.mpr ⟨hcd, List.forall_mem_cons.mpr ⟨hc1, List.forall_mem_cons.mpr ⟨hx, List.forall_mem_cons.mpr ⟨UpdF.mem U, List.forall_mem_nil _⟩⟩⟩⟩⟩)
  k_dflt (refine' enter B F X N₀ T hk ?k6 ?k7 ?k8 ?k9 ?kB ?_ ?c5 ?c2 ?c3 ?c4; (case k6 => k_is); (case k7 => k_is); (case k8 => ktr_room); (case k9 => exact BindsTo.of_eq rfl); (case c5 => decide); (case kB => exact locs rfl); (case c2 => exact rfl); (case c3 => exact rfl); (case c4 => exact rfl); k_whole; intro g' L' h' F' N' B' X' T' K' S' l'; (try dsimp only); (try k_fold))
  repeat ((fail_if_success ((try dsimp only [List.append_nil, List.cons_append, List.nil_append]); (with_reducible show wpAny _ _ (call (Value.ref _) []) _ _ _))); (first | walk1 | (dsimp only; walk1)))
  (try dsimp only [List.append_nil, List.cons_append, List.nil_append])
  k_dflt (refine' lam_mixed (by k_asm) (by k_asm) (by k_asm) (by k_asm) (by k_asm) rfl (by ktr_room) (by ktr_units) (by k_mem) (by k_mem) (by assumption) (by assumption) (by k_mem) (by assumption) (by k_mem) (by k_updF) (by first | assumption | k_ne) (by bits_fit) (by first | assumption | omega) (by assumption) ?_ ?_; k_whole; (intro j1 js1 q1 h1 tk1 i1 D1 D2 u1 vs1 ks1 F1 N1 hs1 hks1 K1; (try dsimp only at N1); (try dsimp only)))
  all_goals k_steps
  · (with_reducible rename Fr g' L' _ _ => F9); (with_reducible rename News g' L' _ _ => N9)
    obtain ⟨F8, N8, K8⟩ := back F N₀ K' F9 N9
    have K7 := keepBut (d := dx) N₀ N8 K8 (by tb_rel)
    exact ret _ _ (by assumption) _ _ _ _ _ _ _ _ F8 (List.forall_mem_cons.mpr ⟨N8 _ (.head _), List.forall_mem_cons.mpr ⟨N8 _ (.tail _ (.head _)), News.upd1 N U K7 (N8 (dx, _) (by k_mem)).1⟩⟩) (by assumption) (by assumption) K7
  · (with_reducible rename Raised _ _ _ _ => R); (with_reducible rename mixed _ _ = none => hno)
    k_dflt (refine' caught_own (mods := [dx]) R ?F ?N ?hm B' XB TB ?ex ?q ?_ ?c1 ?c2 ?c3 ?c4; (case F => k_asm); (case N => k_asm); (case hm => exact List.forall_mem_cons.mpr ⟨⟨(N' (dx, _) (by k_mem)).2.1, (N' (dx, _) (by k_mem)).2.2⟩, List.forall_mem_nil _⟩); (case ex => k_is); (case q => kernel_rfl); (case c1 => rfl); (case c2 => rfl); (case c3 => decide); (case c4 => passes_own))
    k_whole
    intro h6 g6 T6 F6 Nl6 K6 X6 P6
    have N6 : News g6 L' h6 [(fl, kla_obj lname qual par0 (bodM p1 p2 p3) scoM [(Str.ofString "scanner", c1)] pm c' ctv), (c', oc), (c1, o1), (x, instObj 293 dx)] :=
      List.forall_mem_cons.mpr ⟨Nl6 _ (by k_mem) (fun z => m2 (List.mem_singleton.mp z)), List.forall_mem_cons.mpr ⟨Nl6 _ (by k_mem) (fun z => m4 (List.mem_singleton.mp z)), List.forall_mem_cons.mpr ⟨Nl6 _ (by k_mem) (fun z => m3 (List.mem_singleton.mp z)), List.forall_mem_cons.mpr ⟨Nl6 _ (by k_mem) (fun z => m1 (List.mem_singleton.mp z)), List.forall_mem_nil _⟩⟩⟩⟩
    k_steps
    dsimp only
    obtain ⟨h1', TT, F8, N8, B8, K8⟩ := back_turn B F N₀ K' T6 F6 N6
    have K7 := keepTurn (mods := [dx]) N₀ N8 K8 (by tb_rel)
    exact caught hno _ _ _ h1' TT F8 B8 (XB.keeps B8.stays) (TB.keeps B8.stays) (turn_news N B DF TT K7) K7
end
end
section
local macro_rules | `(tactic| walk_at "callWith ref") => `(tactic| (k_here; k_dflt (first
  | (refine' callWith_F ?k1 ?_; (case k1 => exact FnAt.of (by k_asm) (by k_mem)); k_whole)
  | (refine' callWith_F0 ?k1 ?_; (case k1 => exact FnAt.of (by k_asm) (by k_mem)); k_whole; try dsimp only [List.nil_append, List.cons_append]))))
local macro_rules | `(tactic| walk_at "FnAt") => `(tactic| (k_dflt (exact FnAt.of (by k_asm) (by k_mem))))
local macro_rules | `(tactic| walk_at "eval Name") => `(tactic| (k_here; k_dflt (refine' nameX_F (by k_asm) rfl (by k_mem) (by assumption) ?_ rfl rfl; k_whole)))
section
variable {w : World} {A₀ : Around} {E : Value → Shared → Prop} {s : Shared} {base h₀ : Heap} {outer : List Env} {L : Addr} {m : Str → Option Value} {news : List (Addr × Obj)}
  {p : Program} {loose : List Str} {mean : ExcName → Option Value} {mg mb : Str → Option Value} {dp un : Nat} {gd : Option (List Code)} {cn : Str} {cs : Scope} {a : Addr} {ccd : Value} {cl : List (Str × Addr)} {Q : Value → Shared → Prop}
  {x dx y dy : Addr} {h1 h2 h3 h4 g1 g2 g3 pv : Int} {k1 k2 k3 k4 tt bt it q1 q2 q3 pvt Gt st qt : Tok} {t G : Str} {b : Int} {n : Nat} {pa : Addr} {gf : Obj → List (Addr × Obj)} {gg : Obj → Obj → List (Addr × Obj)} {nk : List (Addr × Obj)}
  {fl c' c1 c2 : Addr} {oc o1 o2 : Obj} {vs0 : Array Value} {lname qual : Str} {pm ctv : Value} {p1 p2 p3 p4 : Pos}

theorem lam_goes (B : Below A₀ base outer h₀) (F : Fr h₀ L s.heap m) (X : (hd.heap_1 w.params).In h₀) (N : News h₀ L s.heap news) (T : Top p loose mean mg mb h₀) (hk : cs.kind = .function) (hdp : dp + 17 < recursionLimit)
  (hf : (fl, kla_obj lname qual par0 (bodG p1 p2 p3 p4) scoG [(Str.ofString "scanner", c1), (Str.ofString "group", c2)] pm c' ctv) ∈ news) (hcd : (c', oc) ∈ news) (hoc : oc.data = .fields vs0) (hq : vs0[1]? = some (.str qual qt)) (hc1 : (c1, o1) ∈ news) (ho1 : o1.data = .cell (some (.ref x))) (hc2 : (c2, o2) ∈ news) (ho2 : o2.data = .cell (some (.ref y)))
  (hx : (x, instObj 293 dx) ∈ news) (U : UpdF dx (dictOf (scanD h1 h2 h3 h4 k1 k2 k3 k4 t tt b bt (n : Int) it) 4) news gf) (hy : (y, instObj 60 dy) ∈ news) (V : ∀ o', UpdF dy (dictOf (grpD g1 g2 g3 q1 q2 q3 pv pvt pa G Gt) 3) (gf o') (gg o'))
  (n1 : x ≠ dx) (n2 : y ≠ dy) (n3 : x ≠ dy) (n4 : dx ≠ dy) (n5 : y ≠ dx) (hn : n ≤ (sg t).length) (hlt : t.length ≤ 1000)
  (retT : ∀ c, (sg t)[skip (sg t) n]? = some c → (c = 44 ∨ c = 124) → (G = Str.ofString "" ∨ G = ⟨#[c]⟩) → ∀ h' tk' it' Gt', Fr h₀ L h' m → News h₀ L h' (gg (dictOf (scanD h1 h2 h3 h4 k1 k2 k3 k4 t tt b bt ((skip (sg t) n + 1 : Nat) : Int) it') 4) (dictOf (grpD g1 g2 g3 q1 q2 q3 pv pvt pa ⟨#[c]⟩ Gt') 3)) → (∀ b o, s.heap.get? b = some o → b ≠ dx → b ≠ dy → h'.get? b = some o) → Q (.bool true) { s with heap := h', toks := tk' })
  (retF : (sg t)[skip (sg t) n]? = some 41 → ∀ h' tk' it', Fr h₀ L h' m → News h₀ L h' (gf (dictOf (scanD h1 h2 h3 h4 k1 k2 k3 k4 t tt b bt ((skip (sg t) n + 1 : Nat) : Int) it') 4)) → (∀ b o, s.heap.get? b = some o → b ≠ dx → h'.get? b = some o) → Q (.bool false) { s with heap := h', toks := tk' })
  (exc : (∀ c, (sg t)[skip (sg t) n]? = some c → c ≠ 41 ∧ ((c = 44 ∨ c = 124) → G ≠ Str.ofString "" ∧ G ≠ ⟨#[c]⟩)) → ∀ h' tk' e, Raised (hideAll s.heap [dx]) (envX cn cs L a ccd cl :: outer) e h' → E (.ref e) { s with heap := h', toks := tk' }) :
  wpAny (model PySem.Challenge.rw_xw0208_01.row.prog w) (ktrTop dp un gd cn cs L a ccd cl outer) (call (.ref fl) []) Q E s := by
  revert X; k_fill; intro X
  have hyd : (dy, dictOf (grpD g1 g2 g3 q1 q2 q3 pv pvt pa G Gt) 3) ∈ news := UpdF.other U (V default) (Ne.symm n4)
  have m1 : @Ne Nat x dx := n1
  have m2 : @Ne Nat y dy := n2
  have m3 : @Ne Nat x dy := n3
  have m4 : @Ne Nat dx dy := n4
  have m5 : @Ne Nat y dx := n5
  have l2 : @Ne Nat fl dx := News.apart N hf (UpdF.mem U) (fun q => by have z := congrArg (fun o : Obj => o.data) q; cases z)
  have l3 : @Ne Nat c1 dx := News.apart N hc1 (UpdF.mem U) (cell_dict ho1)
  have l4 : @Ne Nat c2 dx := News.apart N hc2 (UpdF.mem U) (cell_dict ho2)
  have l5 : @Ne Nat fl dy := News.apart N hf hyd (fun q => by have z := congrArg (fun o : Obj => o.data) q; cases z)
  have l6 : @Ne Nat c1 dy := News.apart N hc1 hyd (cell_dict ho1)
  have l7 : @Ne Nat c2 dy := News.apart N hc2 hyd (cell_dict ho2)
  have N₀ : News h₀ L s.heap [(fl, kla_obj lname qual par0 (bodG p1 p2 p3 p4) scoG [(Str.ofString "scanner", c1), (Str.ofString "group", c2)] pm c' ctv), (c1, o1), (c2, o2), (x, instObj 293 dx), (dx, dictOf (scanD h1 h2 h3 h4 k1 k2 k3 k4 t tt b bt (n : Int) it) 4), (y, instObj 60 dy), (dy, dictOf (grpD g1 g2 g3 q1 q2 q3 pv pvt pa G Gt) 3)] :=
    cb_drop N (List.forall_mem_cons.mpr ⟨hf, List.forall_mem_cons.mpr ⟨hc1, List.forall_mem_cons.mpr ⟨hc2, List.forall_mem_cons.mpr ⟨hx, List.forall_mem_cons.mpr ⟨UpdF.mem U, List.forall_mem_cons.mpr ⟨hy, List.forall_mem_cons.mpr ⟨hyd, List.forall_mem_nil _⟩⟩⟩⟩⟩⟩⟩)
  k_dflt (refine' enterL B F X N₀ T hk (.head _) (codeRec_news N hcd hoc hq) ?k8 ?k9 ?kB ?_ ?c5 ?c2 ?c3 ?c4; (case k8 => ktr_room); (case k9 => exact rfl); (case kB => exact locs rfl); (case c5 => decide); (case c2 => exact rfl); (case c3 => exact rfl); (case c4 => exact rfl); k_whole; intro g' L' h' F' N' B' X' T' K' S' l'; (try dsimp only); (try k_fold))
  repeat ((fail_if_success ((try dsimp only [List.append_nil, List.cons_append, List.nil_append]); (with_reducible show wpAny _ _ (call (Value.ref 71) [Value.ref _, Value.ref _]) _ _ _))); (first | walk1 | (dsimp only; walk1)))
  (try dsimp only [List.append_nil, List.cons_append, List.nil_append])
  k_dflt (refine' goes_on_spec (by k_asm) (by k_asm) (by k_asm) (by k_asm) (by k_asm) rfl (by ktr_room) (by k_mem) (by k_updF) (by k_mem) (by intro o9; (try dsimp only); k_updF) (by first | assumption | k_ne) (by first | assumption | k_ne) (by first | assumption | k_ne) (by first | assumption | k_ne) (by first | assumption | k_ne) (by bits_fit) (by first | assumption | omega) ?_ ?_ ?_; k_whole; (intro c1 hc1 hc2 hc3 h1 tk1 i1 i2 F1 N1 K1; (try dsimp only at N1); (try dsimp only)))
  all_goals k_steps
  · (with_reducible rename Fr g' L' _ _ => F9); (with_reducible rename News g' L' _ _ => N9)
    obtain ⟨F8, N8, K8⟩ := back F N₀ K' F9 N9
    have K7 := keepMods (mods := [dx, dy]) N₀ N8 K8 (by tb_rel)
    have K6 : ∀ b o, s.heap.get? b = some o → b ≠ dx → b ≠ dy → Heap.get? _ b = some o := fun b o e z1 z2 => K7 b o e (by simp [z1, z2])
    exact retT _ (by assumption) (by assumption) (by assumption) _ _ _ _ F8 (News.upd2 N U V (Ne.symm n4) K6 (N8 (dx, _) (by k_mem)).1 (N8 (dy, _) (by k_mem)).1) K6
  · (with_reducible rename Fr g' L' _ _ => F9); (with_reducible rename News g' L' _ _ => N9)
    obtain ⟨F8, N8, K8⟩ := back F N₀ K' F9 N9
    have K7 := keepBut (d := dx) N₀ N8 K8 (by tb_rel)
    exact retF (by assumption) _ _ _ F8 (News.upd1 N U K7 (N8 (dx, _) (by k_mem)).1) K7
  · (with_reducible rename Raised _ _ _ _ => R)
    refine' raise_thru (mods := [dx]) (mods2 := [dx]) N₀ K' S' ?F2q1 ?N2q1 ?sameq1 ?hmq1 R rfl rfl fun h' R' => exc (by assumption) _ _ _ R'
    case F2q1 => assumption
    case N2q1 => assumption
    case sameq1 => tb_rel
    case hmq1 => intro a ha; exact .inl ha
theorem heard_goes (B : Below A₀ base outer h₀) (F : Fr h₀ L s.heap m) (X : (hd.heap_1 w.params).In h₀) (N : News h₀ L s.heap news) (T : Top p loose mean mg mb h₀) (hk : cs.kind = .function) (hdp : dp + 20 < recursionLimit)
  (XB : (hd.heap_1 w.params).In base) (TB : Top p loose mean mg mb base) (DF : DelF dx news nk)
  (hf : (fl, kla_obj lname qual par0 (bodG p1 p2 p3 p4) scoG [(Str.ofString "scanner", c1), (Str.ofString "group", c2)] pm c' ctv) ∈ news) (hcd : (c', oc) ∈ news) (hoc : oc.data = .fields vs0) (hq : vs0[1]? = some (.str qual qt)) (hc1 : (c1, o1) ∈ news) (ho1 : o1.data = .cell (some (.ref x))) (hc2 : (c2, o2) ∈ news) (ho2 : o2.data = .cell (some (.ref y)))
  (hx : (x, instObj 293 dx) ∈ news) (U : UpdF dx (dictOf (scanD h1 h2 h3 h4 k1 k2 k3 k4 t tt b bt (n : Int) it) 4) news gf) (hy : (y, instObj 60 dy) ∈ news) (V : ∀ o', UpdF dy (dictOf (grpD g1 g2 g3 q1 q2 q3 pv pvt pa G Gt) 3) (gf o') (gg o'))
  (n1 : x ≠ dx) (n2 : y ≠ dy) (n3 : x ≠ dy) (n4 : dx ≠ dy) (n5 : y ≠ dx) (hn : n ≤ (sg t).length) (hlt : t.length ≤ 1000)
  (retT : ∀ c, (sg t)[skip (sg t) n]? = some c → (c = 44 ∨ c = 124) → (G = Str.ofString "" ∨ G = ⟨#[c]⟩) → ∀ h' tk' it' Gt', Fr h₀ L h' m → News h₀ L h' (gg (dictOf (scanD h1 h2 h3 h4 k1 k2 k3 k4 t tt b bt ((skip (sg t) n + 1 : Nat) : Int) it') 4) (dictOf (grpD g1 g2 g3 q1 q2 q3 pv pvt pa ⟨#[c]⟩ Gt') 3)) → (∀ b o, s.heap.get? b = some o → b ≠ dx → b ≠ dy → h'.get? b = some o) → Q (.bool true) { s with heap := h', toks := tk' })
  (retF : (sg t)[skip (sg t) n]? = some 41 → ∀ h' tk' it', Fr h₀ L h' m → News h₀ L h' (gf (dictOf (scanD h1 h2 h3 h4 k1 k2 k3 k4 t tt b bt ((skip (sg t) n + 1 : Nat) : Int) it') 4)) → (∀ b o, s.heap.get? b = some o → b ≠ dx → h'.get? b = some o) → Q (.bool false) { s with heap := h', toks := tk' })
  (caught : (∀ c, (sg t)[skip (sg t) n]? = some c → c ≠ 41 ∧ ((c = 44 ∨ c = 124) → G ≠ Str.ofString "" ∧ G ≠ ⟨#[c]⟩)) → ∀ h' tk' ut h₁, KtsTurn (outer.filterMap (·.frame)) h₀ h₁ → Fr h₁ L h' m → Below A₀ base outer h₁ → (hd.heap_1 w.params).In h₁ → Top p loose mean mg mb h₁ → News h₁ L h' nk → (∀ b o, s.heap.get? b = some o → b ∉ [dx] → b ∉ L :: outer.filterMap (·.frame) → h'.get? b = some o) →
    Q (.str (Str.ofString "refused") ut) { s with heap := h', toks := tk' }) :
  wpAny (model PySem.Challenge.rw_xw0208_01.row.prog w) (ktrTop dp un gd cn cs L a ccd cl outer) (call (.ref 325) [.ref fl]) Q E s := by
  revert X XB; k_fill; intro X XB
  have hyd : (dy, dictOf (grpD g1 g2 g3 q1 q2 q3 pv pvt pa G Gt) 3) ∈ news := UpdF.other U (V default) (Ne.symm n4)
  have m1 : @Ne Nat x dx := n1
  have m2 : @Ne Nat y dy := n2
  have m3 : @Ne Nat x dy := n3
  have m4 : @Ne Nat dx dy := n4
  have m5 : @Ne Nat y dx := n5
  have l1 : @Ne Nat c' dx := News.apart N hcd (UpdF.mem U) (fun q => by rw [q] at hoc; cases hoc)
  have l2 : @Ne Nat fl dx := News.apart N hf (UpdF.mem U) (fun q => by have z := congrArg (fun o : Obj => o.data) q; cases z)
  have l3 : @Ne Nat c1 dx := News.apart N hc1 (UpdF.mem U) (cell_dict ho1)
  have l4 : @Ne Nat c2 dx := News.apart N hc2 (UpdF.mem U) (cell_dict ho2)
  have l5 : @Ne Nat fl dy := News.apart N hf hyd (fun q => by have z := congrArg (fun o : Obj => o.data) q; cases z)
  have l6 : @Ne Nat c1 dy := News.apart N hc1 hyd (cell_dict ho1)
  have l7 : @Ne Nat c2 dy := News.apart N hc2 hyd (cell_dict ho2)
  have l8 : @Ne Nat c' dy := News.apart N hcd hyd (fun q => by rw [q] at hoc; cases hoc)
  have N₀ : News h₀ L s.heap [(fl, kla_obj lname qual par0 (bodG p1 p2 p3 p4) scoG [(Str.ofString "scanner", c1), (Str.ofString "group", c2)] pm c' ctv), (c', oc), (c1, o1), (c2, o2), (x, instObj 293 dx), (y, instObj 60 dy), (dy, dictOf (grpD g1 g2 g3 q1 q2 q3 pv pvt pa G Gt) 3), (dx, dictOf (scanD h1 h2 h3 h4 k1 k2 k3 k4 t tt b bt (n : Int) it) 4)] :=
    cb_drop N (List.forall_mem_cons.mpr ⟨hf, List.forall_mem_cons.mpr ⟨hcd, List.forall_mem_cons.mpr ⟨hc1, List.forall_mem_cons.mpr ⟨hc2, List.forall_mem_cons.mpr ⟨hx, List.forall_mem_cons.mpr ⟨hy, List.forall_mem_cons.mpr ⟨hyd, List.forall_mem_cons.mpr ⟨UpdF.mem U, List.forall_mem_nil _⟩⟩⟩⟩⟩⟩⟩⟩)
  k_dflt (refine' enter B F X N₀ T hk ?k6 ?k7 ?k8 ?k9 ?kB ?_ ?c5 ?c2 ?c3 ?c4; (case k6 => k_is); (case k7 => k_is); (case k8 => ktr_room); (case k9 => exact BindsTo.of_eq rfl); (case c5 => decide); (case kB => exact locs rfl); (case c2 => exact rfl); (case c3 => exact rfl); (case c4 => exact rfl); k_whole; intro g' L' h' F' N' B' X' T' K' S' l'; (try dsimp only); (try k_fold))
  repeat ((fail_if_success ((try dsimp only [List.append_nil, List.cons_append, List.nil_append]); (with_reducible show wpAny _ _ (call (Value.ref _) []) _ _ _))); (first | walk1 | (dsimp only; walk1)))
  (try dsimp only [List.append_nil, List.cons_append, List.nil_append])
  k_dflt (refine' lam_goes (by k_asm) (by k_asm) (by k_asm) (by k_asm) (by k_asm) rfl (by ktr_room) (by k_mem) (by k_mem) (by assumption) (by assumption) (by k_mem) (by assumption) (by k_mem) (by assumption) (by k_mem) (by k_updF) (by k_mem) (by intro o9; (try dsimp only); k_updF) (by first | assumption | k_ne) (by first | assumption | k_ne) (by first | assumption | k_ne) (by first | assumption | k_ne) (by first | assumption | k_ne) (by bits_fit) (by first | assumption | omega) ?_ ?_ ?_; k_whole; (intro c1 hc1 hc2 hc3 h1 tk1 i1 i2 F1 N1 K1; (try dsimp only at N1); (try dsimp only)))
  all_goals k_steps
  · (with_reducible rename Fr g' L' _ _ => F9); (with_reducible rename News g' L' _ _ => N9)
    obtain ⟨F8, N8, K8⟩ := back F N₀ K' F9 N9
    have K7 := keepMods (mods := [dx, dy]) N₀ N8 K8 (by tb_rel)
    have K6 : ∀ b o, s.heap.get? b = some o → b ≠ dx → b ≠ dy → Heap.get? _ b = some o := fun b o e z1 z2 => K7 b o e (by simp [z1, z2])
    exact retT _ (by assumption) (by assumption) (by assumption) _ _ _ _ F8 (News.upd2 N U V (Ne.symm n4) K6 (N8 (dx, _) (by k_mem)).1 (N8 (dy, _) (by k_mem)).1) K6
  · (with_reducible rename Fr g' L' _ _ => F9); (with_reducible rename News g' L' _ _ => N9)
    obtain ⟨F8, N8, K8⟩ := back F N₀ K' F9 N9
    have K7 := keepBut (d := dx) N₀ N8 K8 (by tb_rel)
    exact retF (by assumption) _ _ _ F8 (News.upd1 N U K7 (N8 (dx, _) (by k_mem)).1) K7
  · (with_reducible rename Raised _ _ _ _ => R); (with_reducible rename ∀ c, (sg t)[_]? = some c → _ => hno)
    k_dflt (refine' caught_own (mods := [dx]) R ?F ?N ?hm B' XB TB ?ex ?q ?_ ?c1 ?c2 ?c3 ?c4; (case F => k_asm); (case N => k_asm); (case hm => exact List.forall_mem_cons.mpr ⟨⟨(N' (dx, _) (by k_mem)).2.1, (N' (dx, _) (by k_mem)).2.2⟩, List.forall_mem_nil _⟩); (case ex => k_is); (case q => kernel_rfl); (case c1 => rfl); (case c2 => rfl); (case c3 => decide); (case c4 => passes_own))
    k_whole
    intro h6 g6 T6 F6 Nl6 K6 X6 P6
    have N6 : News g6 L' h6 [(fl, kla_obj lname qual par0 (bodG p1 p2 p3 p4) scoG [(Str.ofString "scanner", c1), (Str.ofString "group", c2)] pm c' ctv), (c', oc), (c1, o1), (c2, o2), (x, instObj 293 dx), (y, instObj 60 dy), (dy, dictOf (grpD g1 g2 g3 q1 q2 q3 pv pvt pa G Gt) 3)] :=
      List.forall_mem_cons.mpr ⟨Nl6 _ (by k_mem) (fun z => l2 (List.mem_singleton.mp z)), List.forall_mem_cons.mpr ⟨Nl6 _ (by k_mem) (fun z => l1 (List.mem_singleton.mp z)), List.forall_mem_cons.mpr ⟨Nl6 _ (by k_mem) (fun z => l3 (List.mem_singleton.mp z)), List.forall_mem_cons.mpr ⟨Nl6 _ (by k_mem) (fun z => l4 (List.mem_singleton.mp z)), List.forall_mem_cons.mpr ⟨Nl6 _ (by k_mem) (fun z => m1 (List.mem_singleton.mp z)), List.forall_mem_cons.mpr ⟨Nl6 _ (by k_mem) (fun z => m5 (List.mem_singleton.mp z)), List.forall_mem_cons.mpr ⟨Nl6 _ (by k_mem) (fun z => Ne.symm m4 (List.mem_singleton.mp z)), List.forall_mem_nil _⟩⟩⟩⟩⟩⟩⟩
    k_steps
    dsimp only
    obtain ⟨h1', TT, F8, N8, B8, K8⟩ := back_turn B F N₀ K' T6 F6 N6
    have K7 := keepTurn (mods := [dx]) N₀ N8 K8 (by tb_rel)
    exact caught hno _ _ _ h1' TT F8 B8 (XB.keeps B8.stays) (TB.keeps B8.stays) (turn_news N B DF TT K7) K7
end
end
theorem eqv_strs : ∀ l : List Str, PyData.eqvAll (l.map PyData.str) (l.map PyData.str) = true
  | [] => by simp [PyData.eqvAll]
  | a :: r => by simp [PyData.eqvAll, PyData.eqv, eqv_strs r]
theorem lay_strs : ∀ l : List Str, (∀ x ∈ l, PyData.strOk x = true) → PyData.canLayAll0 (l.map PyData.str) = true
  | [], _ => rfl
  | x :: r, h => by simp [PyData.canLayAll0, PyData.canLay0, h x (.head _), lay_strs r fun y hy => h y (.tail _ hy)]
theorem depth_strs : ∀ l : List Str, PyData.depthAll (l.map PyData.str) ≤ 1
  | [] => by simp [PyData.depthAll]
  | _ :: r => by
    have := depth_strs r
    simp [PyData.depthAll, PyData.depth]; omega
theorem ok_low {x : Str} (h : ∀ c ∈ sg x, c < 128) : PyData.strOk x = true := by
  unfold PyData.strOk
  rw [← Array.all_toList, List.all_eq_true]
  intro c hc
  exact decide_eq_true (Nat.lt_trans (h c hc) (by decide))
theorem shaped_strs (l : List Str) (h : ∀ x ∈ l, PyData.strOk x = true) : SeqAt.shaped (.tuple (l.map PyData.str)) = true := by
  have := depth_strs l
  simp [SeqAt.shaped, PyData.canLay0, PyData.depth, lay_strs l h]; omega
abbrev tupO (vs : List Value) : Obj := { cls := .type "tuple", data := .seq vs.toArray }
section
variable {prog : Program} {w : World} {A : Around} {E : Value → Shared → Prop} {s : Shared} {h₀ : Heap} {L a b a1 b1 l : Addr} {m : Str → Option Value} {news : List (Addr × Obj)} {vs us : List Value} {ks : List Str} {x : Str} {u1 u2 : Tok} {Q : Value → Shared → Prop}
theorem told_eq (N : News h₀ L s.heap news) (ha : (a, ({ cls := .type "tuple", data := .seq #[.str x u1, .ref a1] } : Obj)) ∈ news) (ha1 : (a1, tupO vs) ∈ news) (hb : (b, ({ cls := .type "tuple", data := .seq #[.str x u2, .ref b1] } : Obj)) ∈ news) (hb1 : (b1, tupO us) ∈ news)
    (s1 : StrsAre vs ks) (s2 : StrsAre us ks) (hok : ∀ x ∈ ks, PyData.strOk x = true) (hu : A.units + 200 < cLine) (h : Q (.bool true) s) : wpAny (model prog w) A (compareOp .Eq (.ref a) (.ref b)) Q E s := by
  have ra : Reads s.heap (.ref a1) (.tuple (ks.map PyData.str)) [] := reads_newDataT ⟨_, (N _ ha1).1, rfl, 0, rfl⟩ (StrsAre.carried s1)
  have rb : Reads s.heap (.ref b1) (.tuple (ks.map PyData.str)) [] := reads_newDataT ⟨_, (N _ hb1).1, rfl, 0, rfl⟩ (StrsAre.carried s2)
  have e1 : SeqAt.EqAt A.in1 s (.ref a1) (.ref b1) (PyData.eqv (.tuple (ks.map PyData.str)) (.tuple (ks.map PyData.str))) := keq_at ra rb (shaped_strs _ hok) (shaped_strs _ hok) (by rw [units_in1]; omega)
  have e0 : SeqAt.EqAt A.in1 s (.str x u1) (.str x u2) (PyData.eqv (.str x) (.str x)) := keq_flat (.str _ _) (.str _ _)
  have t1 : PyData.eqv (.tuple (ks.map PyData.str)) (.tuple (ks.map PyData.str)) = true := by simp [PyData.eqv, eqv_strs]
  have t0 : PyData.eqv (.str x) (.str x) = true := by simp [PyData.eqv]
  rw [t1] at e1
  rw [t0] at e0
  refine SeqAt.eq_tupleAt (items := #[.str x u1, .ref a1]) (items2 := #[.str x u2, .ref b1]) (e := fun _ => true) ⟨_, (N _ ha).1, rfl, 0, rfl⟩ ⟨_, (N _ hb).1, rfl, 0, rfl⟩ (by omega) (fun j h1 h2 => ?_) ?_
  · match j, h1, h2 with
    | 0, _, _ => exact e0
    | 1, _, _ => exact e1
    | j + 2, h1, _ => simp at h1; omega
  · simpa [List.range, List.range.loop] using h
theorem tuple_list {items : List Value} {c : Nat} (F : Fr h₀ L s.heap m) (N : News h₀ L s.heap news) (hl : (l, listOf items.toArray c) ∈ news) (hz : items.length ≤ 16384)
    (h : ∀ D h', Fr h₀ L h' m → News h₀ L h' ((D, tupO items) :: news) → (∀ p ∈ news, p.1 < D) → Q (.ref D) { s with heap := h' }) : wpAny (model prog w) A (call (.type "tuple") [.ref l]) Q E s :=
  kde_tupleOf F N (News.isList N hl) (by simpa using hz) (by simp) h
end
def TabS (l c : Int) (qual : Str) (ps : Array Value) (news : List (Addr × Obj)) : Prop :=
  ps = #[] ∨ ∃ c' oc vs0 qt, ps = #[rawInt l, rawInt c, .ref c'] ∧ (c', oc) ∈ news ∧ oc.data = .fields vs0 ∧ (vs0[1]? : Option Value) = some (.str qual qt)
section
variable {M : Model} {A : Around} {E : Value → Shared → Prop} {s : Shared} {h₀ : Heap} {L a c P : Addr} {m mg mb : Str → Option Value} {cn : Str} {cs : Scope} {ccd : Value} {cl : List (Str × Addr)} {news ow : List (Addr × Obj)} {g : Obj → List (Addr × Obj)}
  {p : Program} {loose : List Str} {mean : ExcName → Option Value} {name qual : Str} {params : Arguments} {body : Expr} {scope : Scope} {ps : Array Value} {pos : Pos} {firstLine : Nat} {clos : List (Str × Addr)} {l1 l2 : Int}
/-- a lambda is made, its code object standing or not -/
theorem lam_any {Q : Value → Shared → Prop} (F : Fr h₀ L s.heap m) (N : News h₀ L s.heap news) (T : Top p loose mean mg mb h₀) (C : CodeHd h₀ c P) (hcd : ccd = .ref c) (U : UpdF P (tabObj ps) news g) (hps : TabS l1 l2 qual ps ow) (e1 : (pos.line : Int) = l1) (e2 : (pos.col : Int) = l2) (hsub : ∀ p ∈ ow, p ∈ news)
    (hcl : closureFor scope (envX cn cs L a ccd cl) = pure clos)
    (h : ∀ f c' oc vs t ctv h' tk, Fr h₀ L h' m →
      News h₀ L h' ((f, kla_obj name qual params body scope clos ((mg "__name__").getD .none) c' ctv) :: (c', oc) :: g (tabObj #[rawInt l1, rawInt l2, .ref c'])) →
      oc.data = .fields vs → vs[1]? = some (.str qual t) → (∀ q ∈ news, q.1 < f) → ((ps = #[] ∧ ∀ q ∈ news, q.1 < c') ∨ ((c', oc) ∈ ow ∧ ps = #[rawInt l1, rawInt l2, .ref c'])) → c' < f → Q (.ref f) { s with heap := h', toks := tk }) :
    wpAny M A (makeFunction name qual params (.expr body) scope (envX cn cs L a ccd cl) [] [] [] pos firstLine) Q E s := by
  subst e1 e2
  rcases hps with rfl | ⟨c', oc, vs0, qt, rfl, hm, hoc, hq⟩
  · refine kla_nest F N T C hcd U trivial rfl hcl fun f c' oc vs t ctv h' tk F' N' hd hv y1 y2 => ?_
    exact h f c' oc vs t ctv h' tk F' N' hd hv (fun q hq => Nat.lt_trans (y1 q hq) y2) (.inl ⟨rfl, y1⟩) y2
  · refine kla_hit F N T C hcd (UpdF.mem U) (by simp [TriplesOk, rawInt]) (c' := c') (by simp [codeAmong, rawInt]) hcl fun f ctv h' tk F' N' y1 => ?_
    obtain ⟨pre, post, e, hg, _, _⟩ := U.split
    have hm' := hsub _ hm
    refine h f c' oc vs0 qt ctv h' tk F' (List.forall_mem_cons.mpr ⟨N' _ (.head _), List.forall_mem_cons.mpr ⟨N' _ (.tail _ hm'), fun p hp => N' p (.tail _ ?_)⟩⟩) hoc hq y1 (.inr ⟨hm, rfl⟩) (y1 _ hm')
    rw [hg] at hp
    rw [e]; exact hp
end
local macro_rules | `(tactic| k_all) => `(tactic| first | assumption | (intro p9 hp9; have z9 := (by assumption : ∀ q ∈ _, @LT.lt Nat _ (Prod.fst q) _) p9 hp9; (show @Ne Nat _ _); omega))
local macro_rules | `(tactic| walk_at "eval Lambda") => `(tactic| (k_here; kn_here; k_dflt (refine' kla_eval ?d0 ?_; (case d0 => exact rfl)); (k_dflt (refine' lam_any ?F ?N ?T ?C ?cd ?U ?ps ?e1 ?e2 ?sub ?cl ?_; (case F => k_asm); (case N => k_asm); (case T => k_asm); (case cd => exact rfl); (case C => kn_code); (case U => k_updF); (case ps => assumption); (case e1 => rfl); (case e2 => rfl); (case sub => (intro p9 hp9; (repeat apply List.mem_cons_of_mem); exact (by assumption : ∀ p ∈ _, p ∈ _) _ hp9)); (case cl => exact rfl); k_whole); intro f' c' oc' vs' t' ct' h' tk' F' N' d1' d2' l1 hor' l2; (try dsimp only at N'); (try k_lt l1))))
section
variable {h₀ h : Heap} {L P : Addr} {news : List (Addr × Obj)} {l c : Int} {q : Str} {ps : Array Value} {gP : Obj → List (Addr × Obj)}
theorem tab_part (N : News h₀ L h news) (UP : UpdF P (tabObj ps) news gP) (hps : TabS l c q ps news) : ∃ ow, TabS l c q ps ow ∧ (∀ p ∈ ow, p.1 ≠ P) ∧ (∀ p ∈ ow, p ∈ news) ∧ News h₀ L h ((P, tabObj ps) :: ow) := by
  rcases hps with rfl | ⟨c', oc, vs0, qt, rfl, hcm, hoc, hq⟩
  · exact ⟨[], .inl rfl, (fun _ h => nomatch h), (fun _ h => nomatch h), cb_drop N (List.forall_mem_cons.mpr ⟨UpdF.mem UP, List.forall_mem_nil _⟩)⟩
  · refine ⟨[(c', oc)], .inr ⟨c', oc, vs0, qt, rfl, .head _, hoc, hq⟩, fun p hp => ?_, fun p hp => ?_, cb_drop N (List.forall_mem_cons.mpr ⟨UpdF.mem UP, List.forall_mem_cons.mpr ⟨hcm, List.forall_mem_nil _⟩⟩)⟩
    · rw [List.mem_singleton.mp hp]
      refine News.apart N hcm (UpdF.mem UP) (fun q => ?_)
      rw [q] at hoc; cases hoc; cases hq
    · rw [List.mem_singleton.mp hp]; exact hcm
end
section
variable {ps : Array Value} {news ow : List (Addr × Obj)} {c L : Addr} {oc : Obj} {l k : Int}
theorem hor_ne (h : (ps = #[] ∧ ∀ q ∈ news, q.1 < c) ∨ ((c, oc) ∈ ow ∧ ps = #[rawInt l, rawInt k, .ref c])) (oL : ∀ p ∈ ow, @LT.lt Nat _ (Prod.fst p) L) {q : Addr × Obj} (hq : q ∈ news) (hl : @LT.lt Nat _ L q.1) : @Ne Nat c q.1 :=
  h.elim (fun z => Nat.ne_of_gt (z.2 q hq)) (fun z => Nat.ne_of_lt (Nat.lt_trans (oL _ z.1) hl))
theorem hor_fin (h : (ps = #[] ∧ ∀ q ∈ news, q.1 < c) ∨ ((c, oc) ∈ ow ∧ ps = #[rawInt l, rawInt k, .ref c])) {o : Obj} (hq : (L + 1, o) ∈ news) {n : Nat} (hn : n ≤ L) : (ps = #[] ∧ n ≤ c) ∨ ps = #[rawInt l, rawInt k, .ref c] :=
  h.imp (fun z => ⟨z.1, Nat.le_of_lt (Nat.lt_of_le_of_lt (Nat.le_trans hn (Nat.le_succ _)) (z.2 _ hq))⟩) (fun z => z.2)
end
def qualM : Str := (envOfC (Str.ofString "_law_mixed_right") default 0 0 .none).qual ++ Str.ofString "<lambda>"
section
variable {w : World} {A₀ : Around} {E : Value → Shared → Prop} {s : Shared} {base h₀ : Heap} {outer : List Env} {L : Addr} {m : Str → Option Value} {news : List (Addr × Obj)}
  {p : Program} {loose : List Str} {mean : ExcName → Option Value} {mg mb : Str → Option Value} {dp un : Nat} {gd : Option (List Code)} {cn : Str} {cs : Scope} {a : Addr} {ccd : Value} {cl : List (Str × Addr)} {Q : Value → Shared → Prop}
  {tt dt plt : Tok} {t : Str} {pl : Int} {ps : Array Value} {gP : Obj → List (Addr × Obj)} {d : Addr} {dvs : List Value} {dks : List Str} {dc j0 : Nat}

theorem mixed_no (B : Below A₀ base outer h₀) (F : Fr h₀ L s.heap m) (X : (hd.heap_1 w.params).In h₀) (N : News h₀ L s.heap news) (T : Top p loose mean mg mb h₀) (hk : cs.kind = .function) (hdp : dp + 30 < recursionLimit) (hun : un + 2000 < cLine)
  (XB : (hd.heap_1 w.params).In base) (TB : Top p loose mean mg mb base)
  (UP : UpdF 341 (tabObj ps) news gP) (hps : TabS 200 22 qualM ps news) (hlt : t.length ≤ 1000) (hA : ∀ z n : Nat, (sg t)[n]? = some z → z < 128) (hno : mixed (sg t) 0 = none)
  (ret : ∀ h' tk' h₁ c' oc vs0 qt, KtsTurn (outer.filterMap (·.frame)) h₀ h₁ → Fr h₁ L h' m → Below A₀ base outer h₁ → (hd.heap_1 w.params).In h₁ → Top p loose mean mg mb h₁ → News h₁ L h' ((c', oc) :: gP (tabObj #[rawInt 200, rawInt 22, .ref c'])) →
    oc.data = .fields vs0 → (vs0[1]? : Option Value) = some (.str qualM qt) → (∀ b o, s.heap.get? b = some o → b ∉ [341] → b ∉ L :: outer.filterMap (·.frame) → h'.get? b = some o) → ((ps = #[] ∧ s.heap.objs.size ≤ c') ∨ ps = #[rawInt 200, rawInt 22, .ref c']) → Q (.bool true) { s with heap := h', toks := tk' }) :
  wpAny (model PySem.Challenge.rw_xw0208_01.row.prog w) (ktrTop dp un gd cn cs L a ccd cl outer) (call (.ref 346) [.str t tt, .str (Str.ofString "refused") dt, .int pl plt]) Q E s := by
  revert X XB; k_fill; intro X XB
  obtain ⟨ow, hps0, hp3, _, N₀⟩ := tab_part N UP hps
  k_dflt (refine' enterC B F X N₀ T hk ?k6 ?k7 ?k8 ?k9 ?kB ?kC ?_ ?c2 ?c3 ?c4; (case k6 => k_is); (case k7 => k_is); (case k8 => ktr_room); (case k9 => exact BindsTo.of_eq rfl); (case kB => exact kindsX rfl); (case kC => decide +kernel); (case c2 => exact rfl); (case c3 => exact rfl); (case c4 => exact rfl); k_whole; intro g' L' h' tk' cells' F' N' Y' B' X' T' K' S' l'; have oL : ∀ p ∈ ow, @LT.lt Nat _ (Prod.fst p) L' := fun p hp => l' p (.tail _ hp); (try k_lt l'); k_cells Y'; (try simp only [List.cons_append, List.nil_append] at N'); (try dsimp only); (try k_fold))
  have C9 : CodeHd g' 345 341 := codeHd_of_K X' (by kernel_rfl)
  have sub0 : ∀ p ∈ ow, p ∈ ow := fun _ h => h
  repeat ((fail_if_success (with_reducible show wpAny _ _ (call (Value.ref 325) [Value.ref _]) _ _ _)); (first | ((with_reducible show wpAny _ _ (call (Value.ref 293) [Value.str _ _]) _ _ _); k_dflt (refine' scan_new (by k_asm) (by k_asm) (by k_asm) (by k_asm) (by k_asm) rfl (by ktr_room) ?_; k_whole; intro zh' ztk' zx' zdx' zh1 zh2 zh3 zh4 zk1 zk2 zk3 zk4 zb1 zit' zF' zN' zl1 zl2; (try k_lt zl1); (try k_lt2 zl2); (try k_sweep); (try dsimp only))) | walk1 | (dsimp only; walk1)))
  (with_reducible rename (_ ∧ _) ∨ (_ ∧ _) => hor9); (with_reducible rename Obj.data _ = Data.fields _ => hd9); (with_reducible rename _ = some (Value.str (_ ++ _) _) => hv9)
  have hfin := hor_fin (L := L') hor9 (by k_mem) S'
  have nd1 := hor_ne (q := (_, dictOf (scanD _ _ _ _ _ _ _ _ t tt 0 _ _ _) 4)) hor9 oL (by k_mem) (by (try dsimp only); omega)
  dsimp only at nd1
  k_dflt (refine' heard_mixed ?B ?F ?X ?N ?T ?hk ?hd ?hun ?XB ?TB ?DF ?hf ?hcd ?hoc ?hq ?hc1 ?ho1 ?hx ?U ?hi ?ne ?hn ?ht ?hA ?_ ?_; (case B => k_asm); (case F => k_asm); (case X => k_asm); (case N => k_asm); (case T => k_asm); (case hk => exact rfl); (case hd => ktr_room); (case hun => ktr_units); (case XB => assumption); (case TB => assumption); (case hf => k_mem); (case hcd => k_mem); (case hoc => assumption); (case hq => assumption); (case hc1 => k_mem); (case ho1 => assumption); (case hx => k_mem); (case U => k_updF); (case hi => first | exact (rfl : (0 : Int) = ((0 : Nat) : Int)) | exact rfl); (case DF => exact DelF.keep (by k_ne) (DelF.keep nd1 (DelF.keep (by k_ne) (DelF.drop (DelF.keep (by k_ne) (DelF.keep (by k_ne) (DelF.tail (fun p hp => neN (by have := oL p hp; omega))))))))); (case ne => k_ne); (case hn => exact Nat.zero_le _); (case ht => first | assumption | omega); (case hA => assumption); k_whole)
  · intro j1 js1 q1; exfalso; rw [hno] at q1; cases q1
  · intro _ h8 tk8 ut8 g8 TU F1 B1 X1 T1 N1 K1
    (try dsimp only at N1)
    (repeat' (first | ((with_reducible show wpAny _ _ (call (Value.ref 293) [Value.str _ _]) _ _ _); k_dflt (refine' scan_new (by k_asm) (by k_asm) (by k_asm) (by k_asm) (by k_asm) rfl (by ktr_room) ?_; k_whole; intro zh' ztk' zx' zdx' zh1 zh2 zh3 zh4 zk1 zk2 zk3 zk4 zb1 zit' zF' zN' zl1 zl2; (try k_lt zl1); (try k_lt2 zl2); (try k_sweep); (try dsimp only))) | (k_unfold; (try dsimp only)) | (k_end; wrow_close) | walk1 | (dsimp only; walk1) | (leave1; try dsimp only)))
    (repeat' (first | k_unfold | dsimp only))
    (with_reducible rename Fr _ L' _ _ => FZ); (with_reducible rename News _ L' _ _ => NZ)
    refine bool_eq (b' := true) rfl ?_
    obtain ⟨h1', TT, F8, N8, B8, K8⟩ := back_turn (cn := cn) (cs := cs) (a := a) (ccd := ccd) (cl := cl) B F N₀ K' TU FZ NZ
    have K7 := keepTurn (mods := [341]) N₀ N8 K8 (fun p hp hn => by
      rcases List.mem_cons.mp hp with rfl | hp
      · exact absurd (List.mem_singleton.mpr rfl) hn
      · (repeat apply List.mem_cons_of_mem); exact hp)
    have n341 := (N8 (341, _) (by k_mem)).1
    exact ret _ _ h1' _ _ _ _ TT F8 B8 (XB.keeps B8.stays) (TB.keeps B8.stays) (List.forall_mem_cons.mpr ⟨N8 (_, _) (by k_mem), turn_upd N B UP TT K7 n341⟩) hd9 hv9 K7 hfin
end
section
variable {prog : Program} {w : World} {A : Around} {E : Value → Shared → Prop} {s : Shared} {h₀ : Heap} {L l : Addr} {news : List (Addr × Obj)} {b : Str} {u : Tok} {Q : Value → Shared → Prop} {items : List Value} {c : Nat}
theorem eq_list_str (N : News h₀ L s.heap news) (hl : (l, listOf items.toArray c) ∈ news) (hu : A.units < cLine) (h : Q (.bool false) s) : wpAny (model prog w) A (compareOp .Eq (.ref l) (.str b u)) Q E s :=
  SeqAt.RcAt.list_str b u (News.isList N hl) hu prog w E Q h
end
section
variable {prog : Program} {w : World} {A : Around} {E : Value → Shared → Prop} {s : Shared} {h₀ : Heap} {L a b a1 b1 : Addr} {news : List (Addr × Obj)} {vs us : List Value} {ks ks' : List Str} {x : Str} {u1 u2 : Tok} {Q : Value → Shared → Prop}
theorem told_eq2 (N : News h₀ L s.heap news) (ha : (a, ({ cls := .type "tuple", data := .seq #[.str x u1, .ref a1] } : Obj)) ∈ news) (ha1 : (a1, tupO vs) ∈ news) (hb : (b, ({ cls := .type "tuple", data := .seq #[.str x u2, .ref b1] } : Obj)) ∈ news) (hb1 : (b1, tupO us) ∈ news)
    (s1 : StrsAre vs ks') (s2 : StrsAre us ks) (he : ks' = ks) (hok : ∀ x ∈ ks, PyData.strOk x = true) (hu : A.units + 200 < cLine) (h : Q (.bool true) s) : wpAny (model prog w) A (compareOp .Eq (.ref a) (.ref b)) Q E s := by
  subst he
  exact told_eq N ha ha1 hb hb1 s1 s2 hok hu h
end
theorem map_inj : ∀ {a b : List Str}, a.map sg = b.map sg → a = b
  | [], [], _ => rfl
  | [], _ :: _, h => by simp at h
  | _ :: _, [], h => by simp at h
  | x :: r, y :: q, h => by
    simp only [List.map_cons, List.cons.injEq] at h
    rw [sg_inj h.1, map_inj h.2]
theorem same_ks {l : List Nat} {j0 j1 : Nat} {js : List (List Nat)} {ks dks : List Str} (h1 : mixed l 0 = some (j0, dks.map sg)) (h2 : mixed l 0 = some (j1, js)) (h3 : ks.map sg = js) : ks = dks := by
  rw [h1] at h2; cases h2; exact map_inj h3
section
variable {w : World} {A₀ : Around} {E : Value → Shared → Prop} {s : Shared} {base h₀ : Heap} {outer : List Env} {L : Addr} {m : Str → Option Value} {news : List (Addr × Obj)}
  {p : Program} {loose : List Str} {mean : ExcName → Option Value} {mg mb : Str → Option Value} {dp un : Nat} {gd : Option (List Code)} {cn : Str} {cs : Scope} {a : Addr} {ccd : Value} {cl : List (Str × Addr)} {Q : Value → Shared → Prop}
  {tt dt plt : Tok} {t : Str} {pl : Int} {ps : Array Value} {gP : Obj → List (Addr × Obj)} {d : Addr} {dvs : List Value} {dks : List Str} {dc j0 : Nat}

theorem mixed_yes (B : Below A₀ base outer h₀) (F : Fr h₀ L s.heap m) (X : (hd.heap_1 w.params).In h₀) (N : News h₀ L s.heap news) (T : Top p loose mean mg mb h₀) (hk : cs.kind = .function) (hdp : dp + 30 < recursionLimit) (hun : un + 2000 < cLine)
  (XB : (hd.heap_1 w.params).In base) (TB : Top p loose mean mg mb base)
  (UP : UpdF 341 (tabObj ps) news gP) (hps : TabS 200 22 qualM ps news) (hlt : t.length ≤ 1000) (hA : ∀ z n : Nat, (sg t)[n]? = some z → z < 128) (hdd : (d, listOf (List.toArray dvs) dc) ∈ news) (hds : StrsAre dvs dks) (hdl : dvs.length ≤ 1000) (hok : ∀ x ∈ dks, PyData.strOk x = true) (hyes : mixed (sg t) 0 = some (j0, dks.map sg))
  (ret : ∀ h' tk' h₁ c' oc vs0 qt, KtsTurn (outer.filterMap (·.frame)) h₀ h₁ → Fr h₁ L h' m → Below A₀ base outer h₁ → (hd.heap_1 w.params).In h₁ → Top p loose mean mg mb h₁ → News h₁ L h' ((c', oc) :: gP (tabObj #[rawInt 200, rawInt 22, .ref c'])) →
    oc.data = .fields vs0 → (vs0[1]? : Option Value) = some (.str qualM qt) → (∀ b o, s.heap.get? b = some o → b ∉ [341] → b ∉ L :: outer.filterMap (·.frame) → h'.get? b = some o) → ((ps = #[] ∧ s.heap.objs.size ≤ c') ∨ ps = #[rawInt 200, rawInt 22, .ref c']) → Q (.bool true) { s with heap := h', toks := tk' }) :
  wpAny (model PySem.Challenge.rw_xw0208_01.row.prog w) (ktrTop dp un gd cn cs L a ccd cl outer) (call (.ref 346) [.str t tt, .ref d, .int (j0 : Int) plt]) Q E s := by
  revert X XB; k_fill; intro X XB
  have ed : @Ne Nat d 341 := News.apart N hdd (UpdF.mem UP) (fun q => by have z := congrArg (fun o : Obj => o.cls) q; cases z)
  obtain ⟨ow, hps0, hp3, hsub, _⟩ := tab_part N UP hps
  have N₀ : News h₀ L s.heap ((341, tabObj ps) :: (d, listOf (List.toArray dvs) dc) :: ow) := cb_drop N (List.forall_mem_cons.mpr ⟨UpdF.mem UP, List.forall_mem_cons.mpr ⟨hdd, hsub⟩⟩)
  k_dflt (refine' enterC B F X N₀ T hk ?k6 ?k7 ?k8 ?k9 ?kB ?kC ?_ ?c2 ?c3 ?c4; (case k6 => k_is); (case k7 => k_is); (case k8 => ktr_room); (case k9 => exact BindsTo.of_eq rfl); (case kB => exact kindsX rfl); (case kC => decide +kernel); (case c2 => exact rfl); (case c3 => exact rfl); (case c4 => exact rfl); k_whole; intro g' L' h' tk' cells' F' N' Y' B' X' T' K' S' l'; have oL : ∀ p ∈ ow, @LT.lt Nat _ (Prod.fst p) L' := fun p hp => l' p (.tail _ (.tail _ hp)); (try k_lt l'); k_cells Y'; (try simp only [List.cons_append, List.nil_append] at N'); (try dsimp only); (try k_fold))
  have C9 : CodeHd g' 345 341 := codeHd_of_K X' (by kernel_rfl)
  have sub0 : ∀ p ∈ ow, p ∈ ow := fun _ h => h
  repeat ((fail_if_success (with_reducible show wpAny _ _ (call (Value.ref 325) [Value.ref _]) _ _ _)); (first | ((with_reducible show wpAny _ _ (call (Value.ref 293) [Value.str _ _]) _ _ _); k_dflt (refine' scan_new (by k_asm) (by k_asm) (by k_asm) (by k_asm) (by k_asm) rfl (by ktr_room) ?_; k_whole; intro zh' ztk' zx' zdx' zh1 zh2 zh3 zh4 zk1 zk2 zk3 zk4 zb1 zit' zF' zN' zl1 zl2; (try k_lt zl1); (try k_lt2 zl2); (try k_sweep); (try dsimp only))) | walk1 | (dsimp only; walk1)))
  (with_reducible rename (_ ∧ _) ∨ (_ ∧ _) => hor9); (with_reducible rename Obj.data _ = Data.fields _ => hd9); (with_reducible rename _ = some (Value.str (_ ++ _) _) => hv9)
  have hfin := hor_fin (L := L') hor9 (by k_mem) S'
  have nd1 := hor_ne (q := (_, dictOf (scanD _ _ _ _ _ _ _ _ t tt 0 _ _ _) 4)) hor9 oL (by k_mem) (by (try dsimp only); omega)
  dsimp only at nd1
  k_dflt (refine' heard_mixed ?B ?F ?X ?N ?T ?hk ?hd ?hun ?XB ?TB ?DF ?hf ?hcd ?hoc ?hq ?hc1 ?ho1 ?hx ?U ?hi ?ne ?hn ?ht ?hA ?_ ?_; (case B => k_asm); (case F => k_asm); (case X => k_asm); (case N => k_asm); (case T => k_asm); (case hk => exact rfl); (case hd => ktr_room); (case hun => ktr_units); (case XB => assumption); (case TB => assumption); (case hf => k_mem); (case hcd => k_mem); (case hoc => assumption); (case hq => assumption); (case hc1 => k_mem); (case ho1 => assumption); (case hx => k_mem); (case U => k_updF); (case hi => first | exact (rfl : (0 : Int) = ((0 : Nat) : Int)) | exact rfl); (case DF => exact DelF.keep (by k_ne) (DelF.keep nd1 (DelF.keep (by k_ne) (DelF.drop (DelF.keep (by k_ne) (DelF.keep (by k_ne) (DelF.keep (by k_ne) (DelF.tail (fun p hp => neN (by have := oL p hp; omega)))))))))); (case ne => k_ne); (case hn => exact Nat.zero_le _); (case ht => first | assumption | omega); (case hA => assumption); k_whole)
  · intro j1 js1 q9 h8 tk8 it8 D1 D2 ut8 vs8 ks8 F1 N1 hs8 hk8 K1
    (try dsimp only at N1)
    repeat ((fail_if_success (with_reducible show wpAny _ _ (compareOp CmpOp.Eq (Value.ref _) (Value.str _ _)) _ _ _)); (first | ((with_reducible show wpAny _ _ (call (Value.ref 293) [Value.str _ _]) _ _ _); k_dflt (refine' scan_new (by k_asm) (by k_asm) (by k_asm) (by k_asm) (by k_asm) rfl (by ktr_room) ?_; k_whole; intro zh' ztk' zx' zdx' zh1 zh2 zh3 zh4 zk1 zk2 zk3 zk4 zb1 zit' zF' zN' zl1 zl2; (try k_lt zl1); (try k_lt2 zl2); (try k_sweep); (try dsimp only))) | walk1 | (dsimp only; walk1)))
    k_dflt (refine' eq_list_str (by k_asm) (by k_mem) (by ktr_units) ?_)
    repeat ((fail_if_success (with_reducible show wpAny _ _ (call (Value.type "tuple") [Value.ref _]) _ _ _)); (first | ((with_reducible show wpAny _ _ (call (Value.ref 293) [Value.str _ _]) _ _ _); k_dflt (refine' scan_new (by k_asm) (by k_asm) (by k_asm) (by k_asm) (by k_asm) rfl (by ktr_room) ?_; k_whole; intro zh' ztk' zx' zdx' zh1 zh2 zh3 zh4 zk1 zk2 zk3 zk4 zb1 zit' zF' zN' zl1 zl2; (try k_lt zl1); (try k_lt2 zl2); (try k_sweep); (try dsimp only))) | walk1 | (dsimp only; walk1)))
    k_dflt (refine' tuple_list (by k_asm) (by k_asm) (by k_mem) (by omega) ?_)
    intro DD hD FD ND lD
    (try k_lt lD)
    repeat ((fail_if_success (with_reducible show wpAny _ _ (compareOp CmpOp.Eq (Value.ref _) (Value.ref _)) _ _ _)); (first | ((with_reducible show wpAny _ _ (call (Value.ref 293) [Value.str _ _]) _ _ _); k_dflt (refine' scan_new (by k_asm) (by k_asm) (by k_asm) (by k_asm) (by k_asm) rfl (by ktr_room) ?_; k_whole; intro zh' ztk' zx' zdx' zh1 zh2 zh3 zh4 zk1 zk2 zk3 zk4 zb1 zit' zF' zN' zl1 zl2; (try k_lt zl1); (try k_lt2 zl2); (try k_sweep); (try dsimp only))) | walk1 | (dsimp only; walk1)))
    k_dflt (refine' told_eq2 (by k_asm) (by k_mem) (by k_mem) (by k_mem) (by k_mem) (by assumption) (by assumption) (by exact same_ks (by assumption) (by assumption) (by assumption)) (by assumption) (by ktr_units) ?_)
    (repeat' (first | ((with_reducible show wpAny _ _ (call (Value.ref 293) [Value.str _ _]) _ _ _); k_dflt (refine' scan_new (by k_asm) (by k_asm) (by k_asm) (by k_asm) (by k_asm) rfl (by ktr_room) ?_; k_whole; intro zh' ztk' zx' zdx' zh1 zh2 zh3 zh4 zk1 zk2 zk3 zk4 zb1 zit' zF' zN' zl1 zl2; (try k_lt zl1); (try k_lt2 zl2); (try k_sweep); (try dsimp only))) | (k_unfold; (try dsimp only)) | (k_end; wrow_close) | walk1 | (dsimp only; walk1) | (leave1; try dsimp only)))
    have ej := hyes.symm.trans q9
    cases ej
    (repeat' (first | k_unfold | dsimp only))
    (with_reducible rename Fr _ L' _ _ => FZ); (with_reducible rename News _ L' _ _ => NZ)
    refine bool_eq (b' := true) (beq_self_eq_true _) ?_
    obtain ⟨h1', TT, F8, N8, B8, K8⟩ := back_turn (cn := cn) (cs := cs) (a := a) (ccd := ccd) (cl := cl) B F N₀ K' KtsTurn.refl FZ NZ
    have K7 := keepTurn (mods := [341]) N₀ N8 K8 (fun p hp hn => by
      rcases List.mem_cons.mp hp with rfl | hp
      · exact absurd (List.mem_singleton.mpr rfl) hn
      · rcases List.mem_cons.mp hp with rfl | hp
        · k_mem
        · (repeat apply List.mem_cons_of_mem); exact hp)
    have n341 := (N8 (341, _) (by k_mem)).1
    exact ret _ _ h1' _ _ _ _ TT F8 B8 (XB.keeps B8.stays) (TB.keeps B8.stays) (List.forall_mem_cons.mpr ⟨N8 (_, _) (by k_mem), turn_upd N B UP TT K7 n341⟩) hd9 hv9 K7 hfin
  · intro hno9; exfalso; rw [hyes] at hno9; cases hno9
end
def InvEndG (h₀ : Heap) (L I : Addr) (J : (Str → Option Value) → List (Addr × Obj) → Prop) (own : List (Addr × Obj)) (s₁ s₂ : Shared) : Prop :=
  ∃ h' tk m' nx, s₂ = { s₁ with heap := h', toks := tk } ∧ Fr h₀ L h' m' ∧ News h₀ L h' (nx ++ own) ∧ (∀ p ∈ nx, p.1 ≠ I) ∧ J m' nx
def InvPostG (h₀ : Heap) (L I : Addr) (J : (Str → Option Value) → List (Addr × Obj) → Prop) (own : List (Addr × Obj)) (s₁ : Shared) (Q : Flow → Shared → Prop) (f : Flow) (s₂ : Shared) : Prop :=
  match f with
  | .ret v => Q (.ret v) s₂
  | .brk => Q .next s₂
  | _ => InvEndG h₀ L I J own s₁ s₂
section
variable {prog : Program} {w : World} {A : Around} {E : Value → Shared → Prop} {s : Shared} {env : Env} {h₀ : Heap} {x : Str} {body : List Stmt} {Q : Flow → Shared → Prop}
/-- a for loop over a range whose ledger may grow -/
theorem iter_rangeG {r : Addr} {a₀ b₀ : Int} {t₀ u₀ v₀ : Tok} {n : Nat} {m₀ : Str → Option Value} {news : List (Addr × Obj)} (J : Nat → (Str → Option Value) → List (Addr × Obj) → Prop)
    (hh : A.handled = none) (hr : IsRange s.heap r a₀ b₀ 1 t₀ u₀ v₀) (hsmall : Builtin.Range.small a₀ b₀ 1 = true) (hn : Builtin.Range.rangeSize a₀ b₀ 1 = (n : Int)) (F : Fr h₀ env.locals s.heap m₀) (N : News h₀ env.locals s.heap news) (hj : J 0 m₀ news)
    (turn : ∀ i t m₁ nx h tk own I, i < n → (∀ p ∈ nx, p.1 ≠ I) → OwnOff own (nx.map (·.1)) → (∀ p ∈ own, p.1 = I) → (∃ oI, (I, oI) ∈ own) → J i m₁ nx → Fr h₀ env.locals h (fun y => if y = x then some (.int (a₀ + (i : Int)) t) else m₁ y) → News h₀ env.locals h (nx ++ own) →
      wpAny (model prog w) A (execs body env) (InvPostG h₀ env.locals I (J (i + 1)) own { s with heap := h, toks := tk } Q) E { s with heap := h, toks := tk })
    (done : ∀ m₁ nx h tk, J n m₁ nx → Fr h₀ env.locals h m₁ → News h₀ env.locals h nx → Q .next { s with heap := h, toks := tk }) :
    wpAny (model prog w) A (pyIter (.ref r)) (fun it s₂ => LoopAtV prog w A h₀ env x body Q E it s₂) E s := by
  refine wpAny_pyIter_range hr hsmall ?_
  have W : Walks prog w A s.heap.objs.size [s.heap.objs.size] [s.heap.objs.size] n (fun i v => i < n ∧ ∃ t, v = .int (a₀ + i * 1) t)
      (fun i h => IsRangeIter h s.heap.objs.size (a₀ + (i : Nat) * 1) ((n : Int) - (i : Nat)) 1) := (Walks.range hh _ a₀ 1 n).bound
  have hL : env.locals ∉ [s.heap.objs.size] := fun hm => absurd F.ns.lt ((List.mem_singleton.mp hm) ▸ Nat.lt_irrefl _)
  refine ⟨s.heap.objs.size, [s.heap.objs.size], [s.heap.objs.size], n, _, _, m₀, news, J, rfl, W, hL, ?_, ?_, (by show IsRangeIter _ _ _ _ _; rw [hn]; simpa using Heap.get?_push_size _ rfl), F.push _, (fun p hp => ⟨Heap.get?_push_of_some _ (N p hp).1, (N p hp).2⟩), hj, ?_, ?_⟩
  · intro b hb
    rw [List.mem_singleton.mp hb]
    exact next_is_new F
  · intro p hp hI
    exact absurd (Heap.lt_size (N p hp).1) ((List.mem_singleton.mp hI) ▸ Nat.lt_irrefl _)
  · rintro i v m₁ nx s₁ own ⟨hh', tk', rfl⟩ hin ⟨_, t, rfl⟩ hJ hoff hown _ hall hst F₁ N₁
    have hI : ∀ p ∈ own, p.1 = s.heap.objs.size := fun p hp => List.mem_singleton.mp (hown p hp)
    have hnI : ∀ p ∈ nx, p.1 ≠ s.heap.objs.size := fun p hp q => hoff p hp (List.mem_singleton.mpr q)
    have hsep : OwnOff own (nx.map (·.1)) := by
      intro p hp b hb e
      obtain ⟨q, hq, rfl⟩ := List.mem_map.mp hb
      exact hnI q hq (e.symm.trans (hI p hp))
    have N₂ : News h₀ env.locals hh' (nx ++ own) := fun p hp => N₁ p ((List.mem_append.mp hp).elim (fun h => List.mem_append.mpr (.inr h)) fun h => List.mem_append.mpr (.inl h))
    have e1 : a₀ + (i : Int) * 1 = a₀ + (i : Int) := by omega
    rw [e1] at F₁
    have hex : ∃ oI, (s.heap.objs.size, oI) ∈ own := by
      obtain ⟨o, ho⟩ : ∃ o, hh'.get? s.heap.objs.size = some o := ⟨_, hst⟩
      exact ⟨o, hall _ (List.mem_singleton.mpr rfl) (next_is_new F) o ho⟩
    refine wpAny_mono (turn i t m₁ nx hh' tk' own s.heap.objs.size hin hnI hsep hI hex hJ F₁ N₂) (fun f s₂ p => ?_) fun _ _ e => e
    have fin : InvEndG h₀ env.locals s.heap.objs.size (J (i + 1)) own { s with heap := hh', toks := tk' } s₂ → LoopStepU h₀ env.locals [s.heap.objs.size] own (J (i + 1)) { s with heap := hh', toks := tk' } .next s₂ := by
      rintro ⟨h', tk, m', nx', e, F', N', hn, hm⟩
      exact ⟨rfl, h', tk, m', nx', e, F', fun p hp => N' p ((List.mem_append.mp hp).elim (fun h => List.mem_append.mpr (.inr h)) fun h => List.mem_append.mpr (.inl h)), fun p hp hq => hn p hp (List.mem_singleton.mp hq), hm⟩
    cases f with
    | ret v => exact .ret p
    | brk => exact .brk p
    | next => exact .next (fin p)
    | cont => exact .cont (fin p)
  · rintro h' tk m' news' F' N' _ hJ
    exact done m' news' h' tk hJ F' N'
end
theorem fm_0 (x : Int) {b : Int} (h : 0 < b) : 0 ≤ x.fmod b := by
  rw [Int.fmod_eq_emod_of_nonneg x (Int.le_of_lt h)]; exact Int.emod_nonneg x (Int.ne_of_gt h)
theorem fm_1 (x : Int) {b : Int} (h : 0 < b) : x.fmod b < b := by
  rw [Int.fmod_eq_emod_of_nonneg x (Int.le_of_lt h)]; exact Int.emod_lt_of_pos x h
theorem fd_0 {x b : Int} (hx : 0 ≤ x) (h : 0 < b) : 0 ≤ x.fdiv b := by
  rw [Int.fdiv_eq_ediv_of_nonneg x (Int.le_of_lt h)]; exact Int.ediv_nonneg hx (Int.le_of_lt h)
theorem sq_ok {A x : Int} : IntMulOk ([A, x.fmod 2147483647].getD (Int.toNat 1) 0) ([A, x.fmod 2147483647].getD (Int.toNat 1) 0) := by
  have h1 := fm_0 x (b := 2147483647) (by decide)
  have h2 := fm_1 x (b := 2147483647) (by decide)
  exact IntMulOk.of_left (intBits_le_64 (k := x.fmod 2147483647) (by omega) (by omega))
local macro_rules | `(tactic| mul_fits) => `(tactic| exact sq_ok)
section
variable {w : World} {A₀ : Around} {E : Value → Shared → Prop} {s : Shared} {base h₀ : Heap} {outer : List Env} {L : Addr} {m : Str → Option Value} {news : List (Addr × Obj)}
  {p : Program} {loose : List Str} {mean : ExcName → Option Value} {mg mb : Str → Option Value} {dp un : Nat} {gd : Option (List Code)} {cn : Str} {cs : Scope} {a : Addr} {ccd : Value} {cl : List (Str × Addr)} {Q : Value → Shared → Prop}
  {l : Addr} {A C k : Int} {ta tc kt : Tok} {cap : Nat} {gf : Obj → List (Addr × Obj)}

theorem take_spec (B : Below A₀ base outer h₀) (F : Fr h₀ L s.heap m) (X : (hd.heap_1 w.params).In h₀) (N : News h₀ L s.heap news) (T : Top p loose mean mg mb h₀) (hk : cs.kind = .function) (hdp : dp + 2 < recursionLimit) (hun : un + 100 < cLine)
  (U : UpdF l (listOf #[.int A ta, .int C tc] cap) news gf) (hA : 0 ≤ A) (hC0 : 0 ≤ C) (hC1 : C < 2147483647) (hk0 : 0 < k) (hk8 : k ≤ 8)
  (ret : ∀ h' tk' r rt A' ta' C' tc', 0 ≤ r → r < k → 0 ≤ A' → 0 ≤ C' → C' < 2147483647 → Fr h₀ L h' m → News h₀ L h' (gf (listOf #[.int A' ta', .int C' tc'] cap)) → (∀ b o, s.heap.get? b = some o → b ≠ l → h'.get? b = some o) → Q (.int r rt) { s with heap := h', toks := tk' }) :
  wpAny (model PySem.Challenge.rw_xw0208_01.row.prog w) (ktrTop dp un gd cn cs L a ccd cl outer) (call (.ref 311) [.ref l, .int k kt]) Q E s := by
  revert X; k_fill; intro X
  have N₀ : News h₀ L s.heap [(l, listOf #[.int A ta, .int C tc] cap)] := cb_drop N (List.forall_mem_cons.mpr ⟨UpdF.mem U, List.forall_mem_nil _⟩)
  have hmul1 : IntMulOk C 39373 := IntMulOk.of_right (by decide)
  k_dflt (refine' enter B F X N₀ T hk ?k6 ?k7 ?k8 ?k9 ?kB ?_ ?c5 ?c2 ?c3 ?c4; (case k6 => k_is); (case k7 => k_is); (case k8 => ktr_room); (case k9 => exact BindsTo.of_eq rfl); (case c5 => decide); (case kB => exact locs rfl); (case c2 => exact rfl); (case c3 => exact rfl); (case c4 => exact rfl); k_whole; intro g' L' h' F' N' B' X' T' K' S' l'; (try dsimp only); (try k_fold))
  k_steps
  all_goals (repeat' (first | k_unfold | dsimp only))
  all_goals ((with_reducible rename Fr g' L' _ _ => F9); (with_reducible rename News g' L' _ _ => N9))
  all_goals (obtain ⟨F8, N8, K8⟩ := back F N₀ K' F9 N9)
  all_goals have K7 := keepBut (d := l) N₀ N8 K8 (by tb_rel)
  · exact ret _ _ _ _ (A.fdiv k) _ C _ (fm_0 _ hk0) (fm_1 _ hk0) (fd_0 hA hk0) hC0 hC1 F8 (News.upd1 N U K7 (N8 (l, _) (by k_mem)).1) K7
  · exact ret _ _ _ _ A _ ((C * 39373 + 7).fmod 2147483647) _ (fm_0 _ hk0) (fm_1 _ hk0) hA (fm_0 _ (by decide)) (fm_1 _ (by decide)) F8 (News.upd1 N U K7 (N8 (l, _) (by k_mem)).1) K7
end
local macro_rules | `(tactic| walk_at "call ref") => `(tactic| ((with_reducible show wpAny _ _ (call (Value.ref 311) [Value.ref _, Value.int _ _]) _ _ _); k_dflt (refine' take_spec (by k_asm) (by k_asm) (by k_asm) (by k_asm) (by k_asm) rfl (by ktr_room) (by ktr_units) (by k_updF) (by assumption) (by assumption) (by assumption) (by omega) (by omega) ?_; k_whole; (intro h1 tk1 r1 rt1 A1 ta1 C1 tc1 hr0 hr1 hA1 hC10 hC11 F1 N1 K1; (try dsimp only at N1); (try dsimp only)))))
section
variable {prog : Program} {w : World} {A : Around} {E : Value → Shared → Prop} {s : Shared} {value slice : PySem.Expr} {l : Addr} {vs : List Value} {ks : List Str} {k : Int} {u : Tok} {Q : Value → Shared → Prop} {h₀ : Heap} {L : Addr} {news : List (Addr × Obj)} {c : Nat}
theorem strs_at : ∀ {vs : List Value} {ks : List Str}, StrsAre vs ks → ∀ {i : Nat}, i < vs.length → ∃ x t, vs[i]? = some (.str x t) ∧ x ∈ ks
  | _, _, .nil, i, h => by simp at h
  | _, _, .cons x t r, 0, _ => ⟨x, t, rfl, .head _⟩
  | _, _, .cons x t r, i + 1, h => by
    obtain ⟨y, u, h1, h2⟩ := strs_at r (i := i) (by simpa using h)
    exact ⟨y, u, by simpa using h1, .tail _ h2⟩
theorem len_strs (N : News h₀ L s.heap news) (hl : (l, listOf vs.toArray c) ∈ news) (h8 : vs.length ≤ 8) (h : ∀ u tk, Q (.int (vs.length : Int) u) { s with toks := tk }) : wpAny (model prog w) A (call (.builtin "len") [.ref l]) Q E s :=
  Calls.call_len_list (News.isList N hl) (by rw [List.size_toArray]; omega) (by rw [List.size_toArray]; exact h _ _)
theorem item_strs (N : News h₀ L s.heap news) (hl : (l, listOf vs.toArray c) ∈ news) (hS : StrsAre vs ks) (h0 : 0 ≤ k) (h1 : k < (vs.length : Int)) (h8 : vs.length ≤ 8) (h : ∀ x t, x ∈ ks → Q (.str x t) s)
    (hs : subscripted slice false (.ref l) (.int k u) = operate [.ref l, .int k u] (getItem (.ref l) (.int k u)) := by with_unfolding_all rfl) :
    wpAny (model prog w) A (subscriptTail value slice (.ref l) (.int k u)) Q E s := by
  obtain ⟨x, t, hx, hm⟩ := strs_at hS (i := k.toNat) (by omega)
  exact tail_any (News.isList N hl).typeIs slot_list_getitem.lookup (wpAny_getItem_list (News.isList N hl) h0 (by omega) (by simpa using hx) (h x t hm)) hs
end
section
variable {w : World} {A₀ : Around} {E : Value → Shared → Prop} {s : Shared} {base h₀ : Heap} {outer : List Env} {L : Addr} {m : Str → Option Value} {news : List (Addr × Obj)}
  {p : Program} {loose : List Str} {mean : ExcName → Option Value} {mg mb : Str → Option Value} {dp un : Nat} {gd : Option (List Code)} {cn : Str} {cs : Scope} {a : Addr} {ccd : Value} {cl : List (Str × Addr)} {Q : Value → Shared → Prop}
  {l d : Addr} {A C k : Int} {ta tc kt : Tok} {cap dc : Nat} {vs : List Value} {ks : List Str} {gf : Obj → List (Addr × Obj)}

end
local macro_rules | `(tactic| walk_at "call builtin:len") => `(tactic| (k_here; (with_reducible show wpAny _ _ (call (Value.builtin "len") [Value.ref _]) _ _ _); k_dflt (refine' len_strs (by k_asm) (by k_mem) (by assumption) ?_; k_whole; intro u9 k9)))
local macro_rules | `(tactic| walk_at "subscriptTail") => `(tactic| (k_here; (with_reducible show wpAny _ _ (subscriptTail _ _ (Value.ref _) (Value.int _ _)) _ _ _); k_dflt (refine' item_strs (by k_asm) (by k_mem) (by assumption) (by assumption) (by assumption) (by assumption) ?_ (by with_unfolding_all rfl); k_whole; intro x9 t9 hm9)))
section
variable {w : World} {A₀ : Around} {E : Value → Shared → Prop} {s : Shared} {base h₀ : Heap} {outer : List Env} {L : Addr} {m : Str → Option Value} {news : List (Addr × Obj)}
  {p : Program} {loose : List Str} {mean : ExcName → Option Value} {mg mb : Str → Option Value} {dp un : Nat} {gd : Option (List Code)} {cn : Str} {cs : Scope} {a : Addr} {ccd : Value} {cl : List (Str × Addr)} {Q : Value → Shared → Prop}
  {l d : Addr} {A C k : Int} {ta tc kt : Tok} {cap dc : Nat} {vs : List Value} {ks : List Str} {gf : Obj → List (Addr × Obj)}
theorem one_spec (B : Below A₀ base outer h₀) (F : Fr h₀ L s.heap m) (X : (hd.heap_1 w.params).In h₀) (N : News h₀ L s.heap news) (T : Top p loose mean mg mb h₀) (hk : cs.kind = .function) (hdp : dp + 4 < recursionLimit) (hun : un + 200 < cLine)
  (U : UpdF l (listOf #[.int A ta, .int C tc] cap) news gf) (hd : (d, listOf vs.toArray dc) ∈ news) (hne : d ≠ l) (hS : StrsAre vs ks) (h0 : 0 < vs.length) (h8 : vs.length ≤ 8) (hA : 0 ≤ A) (hC0 : 0 ≤ C) (hC1 : C < 2147483647)
  (ret : ∀ x, x ∈ ks → ∀ h' tk' xt A' ta' C' tc', 0 ≤ A' → 0 ≤ C' → C' < 2147483647 → Fr h₀ L h' m → News h₀ L h' (gf (listOf #[.int A' ta', .int C' tc'] cap)) → (∀ b o, s.heap.get? b = some o → b ≠ l → h'.get? b = some o) → Q (.str x xt) { s with heap := h', toks := tk' }) :
  wpAny (model PySem.Challenge.rw_xw0208_01.row.prog w) (ktrTop dp un gd cn cs L a ccd cl outer) (call (.ref 318) [.ref l, .ref d]) Q E s := by
  revert X; k_fill; intro X
  have m1 : @Ne Nat d l := hne
  have N₀ : News h₀ L s.heap [(d, listOf vs.toArray dc), (l, listOf #[.int A ta, .int C tc] cap)] := cb_drop N (List.forall_mem_cons.mpr ⟨hd, List.forall_mem_cons.mpr ⟨UpdF.mem U, List.forall_mem_nil _⟩⟩)
  k_dflt (refine' enter B F X N₀ T hk ?k6 ?k7 ?k8 ?k9 ?kB ?_ ?c5 ?c2 ?c3 ?c4; (case k6 => k_is); (case k7 => k_is); (case k8 => ktr_room); (case k9 => exact BindsTo.of_eq rfl); (case c5 => decide); (case kB => exact locs rfl); (case c2 => exact rfl); (case c3 => exact rfl); (case c4 => exact rfl); k_whole; intro g' L' h' F' N' B' X' T' K' S' l'; (try dsimp only); (try k_fold))
  k_steps
  (repeat' (first | k_unfold | dsimp only))
  (with_reducible rename Fr g' L' _ _ => F9); (with_reducible rename News g' L' _ _ => N9)
  obtain ⟨F8, N8, K8⟩ := back F N₀ K' F9 N9
  have K7 := keepBut (d := l) N₀ N8 K8 (by tb_rel)
  have hl8 := (N8 (l, listOf #[.int _ _, .int _ _] cap) (by k_mem)).1
  refine' ret _ ?a _ _ _ _ _ _ _ ?b ?c ?d F8 (News.upd1 N U K7 hl8) K7
  all_goals assumption
end
section
variable {w : World} {A₀ : Around} {E : Value → Shared → Prop} {s : Shared} {base h₀ : Heap} {outer : List Env} {L : Addr} {m : Str → Option Value} {news : List (Addr × Obj)}
  {p : Program} {loose : List Str} {mean : ExcName → Option Value} {mg mb : Str → Option Value} {dp un : Nat} {gd : Option (List Code)} {cn : Str} {cs : Scope} {a : Addr} {ccd : Value} {cl : List (Str × Addr)} {Q : Value → Shared → Prop}
  {sa : Addr} {vs : List Value} {ns : List Int}

theorem list_in {h g : Heap} {sa : Addr} {its : Array Value} (hl : h.IsList sa its) (k : ∀ b o, h.get? b = some o → g.get? b = some o) : g.IsList sa its := by
  obtain ⟨o, ho, r⟩ := hl
  exact ⟨o, k _ _ ho, r⟩
theorem pool_A (c : Int) (b : Bool) : 0 ≤ (if -1 - c > c then -1 - c else c) * if b = true then 1 else 0 := by
  split <;> split <;> omega
theorem pool_off {g : Heap} {l : Addr} (N : News h₀ L s.heap news) (K : Kp [] s.heap g) (hn : g.get? l = none) : ∀ p ∈ news, p.1 ≠ l := fun p hp e => by
  have := K _ _ (N p hp).1 List.not_mem_nil
  rw [e, hn] at this; cases this
theorem pool_spec (B : Below A₀ base outer h₀) (F : Fr h₀ L s.heap m) (X : (hd.heap_1 w.params).In h₀) (N : News h₀ L s.heap news) (T : Top p loose mean mg mb h₀) (hk : cs.kind = .function) (hdp : dp + 4 < recursionLimit) (hun : un + 200 < cLine)
  (hl : h₀.IsList sa vs.toArray) (hS : IntsAre vs ns) (hlen : ns.length ≤ 63)
  (ret : ∀ h' tk' l A ta C tc, 0 ≤ A → 0 ≤ C → C < 2147483647 → Fr h₀ L h' m → News h₀ L h' ((l, listOf #[.int A ta, .int C tc] 0) :: news) → (∀ p ∈ news, p.1 ≠ l) → (∀ b o, s.heap.get? b = some o → h'.get? b = some o) → Q (.ref l) { s with heap := h', toks := tk' }) :
  wpAny (model PySem.Challenge.rw_xw0208_01.row.prog w) (ktrTop dp un gd cn cs L a ccd cl outer) (call (.ref 304) [.ref sa]) Q E s := by
  revert X; k_fill; intro X
  have N₀ : News h₀ L s.heap [] := News.nil
  cases hS with
  | nil =>
    k_dflt (refine' enter B F X N₀ T hk ?k6 ?k7 ?k8 ?k9 ?kB ?_ ?c5 ?c2 ?c3 ?c4; (case k6 => k_is); (case k7 => k_is); (case k8 => ktr_room); (case k9 => exact BindsTo.of_eq rfl); (case c5 => decide); (case kB => exact locs rfl); (case c2 => exact rfl); (case c3 => exact rfl); (case c4 => exact rfl); k_whole; intro g' L' h' F' N' B' X' T' K' S' l'; (try dsimp only); (try k_fold))
    have hl' : g'.IsList sa ([] : List Value).toArray := list_in (list_in hl F.keep) fun b o e => K' b o e (List.not_mem_nil)
    k_steps
    all_goals (repeat' (first | k_unfold | dsimp only))
    all_goals ((with_reducible rename Fr g' L' _ _ => F9); (with_reducible rename News g' L' _ _ => N9))
    all_goals (obtain ⟨F8, N8, K8⟩ := back F N₀ K' F9 N9)
    all_goals have K7 := keepAll N₀ N8 K8 (by tb_rel)
    all_goals have hl8 := N8 (_, listOf #[.int _ _, .int _ _] 0) (.head _)
    all_goals exact ret _ _ _ _ _ _ _ (pool_A _ _) (fm_0 _ (by decide)) (fm_1 _ (by decide)) F8 (List.forall_mem_cons.mpr ⟨hl8, News.same N K7⟩) (pool_off N K' (N9 (_, listOf #[.int _ _, .int _ _] 0) (.head _)).2.2) K7
  | cons n t r =>
    k_dflt (refine' enter B F X N₀ T hk ?k6 ?k7 ?k8 ?k9 ?kB ?_ ?c5 ?c2 ?c3 ?c4; (case k6 => k_is); (case k7 => k_is); (case k8 => ktr_room); (case k9 => exact BindsTo.of_eq rfl); (case c5 => decide); (case kB => exact locs rfl); (case c2 => exact rfl); (case c3 => exact rfl); (case c4 => exact rfl); k_whole; intro g' L' h' F' N' B' X' T' K' S' l'; (try dsimp only); (try k_fold))
    have hl' : g'.IsList sa (Value.int n t :: _).toArray := list_in (list_in hl F.keep) fun b o e => K' b o e (List.not_mem_nil)
    k_steps
    all_goals (repeat' (first | k_unfold | dsimp only))
    all_goals ((with_reducible rename Fr g' L' _ _ => F9); (with_reducible rename News g' L' _ _ => N9))
    all_goals (obtain ⟨F8, N8, K8⟩ := back F N₀ K' F9 N9)
    all_goals have K7 := keepAll N₀ N8 K8 (by tb_rel)
    all_goals have hl8 := N8 (_, listOf #[.int _ _, .int _ _] 0) (.head _)
    all_goals exact ret _ _ _ _ _ _ _ (pool_A _ _) (fm_0 _ (by decide)) (fm_1 _ (by decide)) F8 (List.forall_mem_cons.mpr ⟨hl8, News.same N K7⟩) (pool_off N K' (N9 (_, listOf #[.int _ _, .int _ _] 0) (.head _)).2.2) K7
end
def Stops (p : Nat → Bool) (t : List Nat) : Prop := ∀ c, t.head? = some c → p c = false
theorem takeWhile_stop {p : Nat → Bool} {t : List Nat} (h : Stops p t) : ∀ {g : List Nat}, (∀ x ∈ g, p x = true) → (g ++ t).takeWhile p = g
  | [], _ => by
    cases t with
    | nil => rfl
    | cons c r => rw [List.nil_append, List.takeWhile_cons, h c rfl]; rfl
  | c :: r, hg => by
    rw [List.cons_append, List.takeWhile_cons, hg c (.head _), if_pos rfl, takeWhile_stop h fun x hx => hg x (.tail _ hx)]
theorem drop_add {l g t : List Nat} {n : Nat} (h : l.drop n = g ++ t) : l.drop (n + g.length) = t := by
  rw [← List.drop_drop, h, List.drop_left]
theorem skip_at {l g t : List Nat} {n : Nat} (h : l.drop n = g ++ t) (hg : ∀ x ∈ g, isSp x = true) (ht : Stops isSp t) : skip l n = n + g.length := by
  unfold skip; rw [h, takeWhile_stop ht hg]
theorem get_at {l t : List Nat} {n c : Nat} (h : l.drop n = c :: t) : l[n]? = some c := by
  have := congrArg (fun x : List Nat => x[0]?) h
  simpa using this
structure Piece where
  g : List Nat
  n : List Nat
  g' : List Nat
structure Piece.Ok (q : Piece) : Prop where
  sp : ∀ x ∈ q.g, isSp x = true
  sp' : ∀ x ∈ q.g', isSp x = true
  part : ∀ x ∈ q.n, isPart x = true
  first : ∃ c r, q.n = c :: r ∧ isFirst c = true
def Piece.flat (q : Piece) : List Nat := 124 :: (q.g ++ (q.n ++ q.g'))
def flats (qs : List Piece) : List Nat := (qs.map Piece.flat).flatten
theorem part_not_sp {c : Nat} (h : isSp c = true) : isPart c = false := by
  have h' : c = 32 ∨ c = 9 ∨ c = 10 ∨ c = 13 := by simpa [isSp] using h
  rcases h' with rfl | rfl | rfl | rfl <;> rfl
theorem first_not_sp {c : Nat} (h : isFirst c = true) : isSp c = false := by
  cases q : isSp c with
  | false => rfl
  | true => have := part_not_sp q; rw [first_part h] at this; cases this
theorem mix_piece {l e : List Nat} {n : Nat} {q : Piece} (hq : q.Ok) (h : l.drop n = q.flat ++ e) (h1 : Stops isSp e) (h2 : Stops isPart e) (ns : List (List Nat)) :
    mix l n ns = if q.n ∈ ns then none else mix l (n + q.flat.length) (ns ++ [q.n]) := by
  obtain ⟨c, r, hn, hc⟩ := hq.first
  have a0 : l[n]? = some 124 := get_at h
  have e1 : l.drop (n + 1) = q.g ++ (q.n ++ (q.g' ++ e)) := by
    have := drop_add (g := [124]) (t := q.g ++ (q.n ++ (q.g' ++ e))) (l := l) (n := n) (by rw [h]; simp [Piece.flat])
    exact this
  have s1 : skip l (n + 1) = n + 1 + q.g.length := skip_at e1 hq.sp (by
    intro d hd; rw [hn] at hd; simp at hd; subst hd; exact first_not_sp hc)
  have e2 := drop_add e1
  have sg' : Stops isPart (q.g' ++ e) := by
    intro d hd
    cases hg : q.g' with
    | nil => rw [hg] at hd; exact h2 d hd
    | cons z y => rw [hg] at hd; simp at hd; subst hd; exact part_not_sp (hq.sp' _ (by rw [hg]; exact .head _))
  have w1 : word l (n + 1 + q.g.length) = q.n := by unfold word; rw [e2, takeWhile_stop sg' hq.part]
  have r1 : run l (n + 1 + q.g.length) = n + 1 + q.g.length + q.n.length := by unfold run; rw [e2, takeWhile_stop sg' hq.part]
  have e3 := drop_add e2
  have s2 : skip l (n + 1 + q.g.length + q.n.length) = n + 1 + q.g.length + q.n.length + q.g'.length := skip_at e3 hq.sp' h1
  have na : nameAt l (n + 1 + q.g.length) = true := by
    unfold nameAt
    rw [get_at (c := c) (t := r ++ (q.g' ++ e)) (by rw [e2, hn]; rfl)]
    exact hc
  by_cases hm : q.n ∈ ns
  · rw [if_pos hm]
    exact mix_twice a0 (by rw [s1, w1]; exact hm)
  · rw [if_neg hm, mix_on a0 (by rw [s1]; exact na) (by rw [s1, w1]; exact hm), s1, w1, r1, s2]
    have : n + q.flat.length = n + 1 + q.g.length + q.n.length + q.g'.length := by
      unfold Piece.flat; simp only [List.length_cons, List.length_append]; omega
    rw [this]
theorem flats_head (qs : List Piece) (e : List Nat) {p : Nat → Bool} (hp : p 124 = false) (he : Stops p e) : Stops p (flats qs ++ e) := by
  cases qs with
  | nil => exact he
  | cons q r => intro c hc; simp [flats, Piece.flat] at hc; subst hc; exact hp
theorem mix_pieces {l e : List Nat} (h1 : Stops isSp e) (h2 : Stops isPart e) : ∀ (qs : List Piece) (n : Nat) (ns : List (List Nat)), (∀ q ∈ qs, q.Ok) → l.drop n = flats qs ++ e → ns.Nodup →
    mix l n ns = if (ns ++ qs.map (·.n)).Nodup then mix l (n + (flats qs).length) (ns ++ qs.map (·.n)) else none
  | [], n, ns, _, _, hd => by simp [flats, hd]
  | q :: r, n, ns, hq, h, hd => by
    have hf : flats (q :: r) = q.flat ++ flats r := by simp [flats]
    have h' : l.drop n = q.flat ++ (flats r ++ e) := by rw [h, hf, List.append_assoc]
    rw [mix_piece (hq q (.head _)) h' (flats_head r e rfl h1) (flats_head r e rfl h2)]
    by_cases hm : q.n ∈ ns
    · rw [if_pos hm, if_neg]
      intro z
      exact (List.nodup_append.mp z).2.2 q.n hm q.n (by simp) rfl
    · rw [if_neg hm, mix_pieces h1 h2 r (n + q.flat.length) (ns ++ [q.n]) (fun x hx => hq x (.tail _ hx)) (drop_add h') (by
        rw [List.nodup_append]
        exact ⟨hd, by simp, fun a ha b hb => by simp at hb; subst hb; exact fun z => hm (z ▸ ha)⟩)]
      rw [hf, List.length_append, Nat.add_assoc]
      simp only [List.map_cons, List.append_assoc, List.cons_append, List.nil_append]
theorem none_41 {l : List Nat} (h : 41 ∉ l) (n : Nat) : mixed l n = none := by
  unfold mixed
  cases mix l (skip l n) [] with
  | none => rfl
  | some x =>
    obtain ⟨j, ns⟩ := x
    unfold fin1
    exact if_neg fun q => h (List.mem_of_getElem? q)
/-- what read_mixed tells of a drawn text -/
theorem mixed_drawn {g0 e : List Nat} {qs : List Piece} (hg : ∀ x ∈ g0, isSp x = true) (hq : ∀ q ∈ qs, q.Ok)
    (he : (∃ r, e = 41 :: r) ∨ (∃ r, e = 124 :: 41 :: r) ∨ (∃ r, e = 44 :: r) ∨ 41 ∉ e) :
    mixed (g0 ++ flats qs ++ e) 0 = if e[0]? = some 41 ∧ (qs.map (·.n)).Nodup ∧ (e[1]? = some 42 ∨ qs = []) then some ((g0 ++ flats qs).length + 1 + (if e[1]? = some 42 then 1 else 0), qs.map (·.n)) else none := by
  have no41 : 41 ∉ e → 41 ∉ g0 ++ flats qs ++ e := by
    intro h hm
    rcases List.mem_append.mp hm with hm | hm
    · rcases List.mem_append.mp hm with hm | hm
      · have := hg _ hm; exact absurd this (by decide)
      · obtain ⟨y, hy, hm⟩ := List.mem_flatten.mp hm
        obtain ⟨q, hqq, rfl⟩ := List.mem_map.mp hy
        have ok := hq q hqq
        unfold Piece.flat at hm
        rcases List.mem_cons.mp hm with z | hm
        · cases z
        · rcases List.mem_append.mp hm with hm | hm
          · exact absurd (ok.sp _ hm) (by decide)
          · rcases List.mem_append.mp hm with hm | hm
            · exact absurd (ok.part _ hm) (by decide)
            · exact absurd (ok.sp' _ hm) (by decide)
    · exact h hm
  by_cases hno : 41 ∈ e
  · have he' : ∃ c r, e = c :: r ∧ isSp c = false ∧ isPart c = false ∧ (c = 41 ∨ (c = 124 ∧ ∃ z, r = 41 :: z) ∨ c = 44) := by
      rcases he with ⟨r, h⟩ | ⟨r, h⟩ | ⟨r, h⟩ | h
      · exact ⟨41, r, h, rfl, rfl, .inl rfl⟩
      · exact ⟨124, 41 :: r, h, rfl, rfl, .inr (.inl ⟨rfl, r, rfl⟩)⟩
      · exact ⟨44, r, h, rfl, rfl, .inr (.inr rfl)⟩
      · exact absurd hno h
    obtain ⟨c, r, rfl, i1, i2, hc⟩ := he'
    have t1 : Stops isSp (c :: r) := by intro d hd; simp at hd; subst hd; exact i1
    have t2 : Stops isPart (c :: r) := by intro d hd; simp at hd; subst hd; exact i2
    obtain ⟨l, hl⟩ : ∃ l, l = g0 ++ flats qs ++ c :: r := ⟨_, rfl⟩
    rw [← hl]
    have d0 : l.drop 0 = g0 ++ (flats qs ++ c :: r) := by rw [hl]; simp
    have s0 : skip l 0 = g0.length := by rw [skip_at d0 hg (flats_head qs _ rfl t1)]; omega
    have d1 : l.drop g0.length = flats qs ++ c :: r := by have := drop_add d0; rwa [Nat.zero_add] at this
    have d2 := drop_add d1
    have hj : g0.length + (flats qs).length = (g0 ++ flats qs).length := by rw [List.length_append]
    rw [hj] at d2
    have g1 := get_at d2
    have g2 : l[(g0 ++ flats qs).length + 1]? = r[0]? := by
      have := drop_add (g := [c]) (t := r) d2
      rw [show [c].length = 1 from rfl] at this
      have := congrArg (fun x : List Nat => x[0]?) this
      simpa using this
    unfold mixed
    rw [s0, mix_pieces t1 t2 qs g0.length [] hq d1 List.nodup_nil, hj, List.nil_append]
    have ge0 : (c :: r)[0]? = some c := rfl
    have ge1 : (c :: r)[1]? = r[0]? := by simp
    rw [ge0, ge1]
    by_cases hn : (qs.map (·.n)).Nodup
    · rw [if_pos hn]
      rcases hc with rfl | ⟨rfl, z, rfl⟩ | rfl
      · rw [mix_end (by rw [g1]; simp)]
        unfold fin1
        simp only [g1, g2, if_true]
        by_cases hs : r[0]? = some 42
        · simp [hs, hn]
        · by_cases hk : qs = []
          · subst hk; simp [hs]
          · simp [hs, hn, hk]
      · have d3 : l.drop ((g0 ++ flats qs).length + 1) = 41 :: z := drop_add (g := [124]) (t := 41 :: z) d2
        have s3 : skip l ((g0 ++ flats qs).length + 1) = (g0 ++ flats qs).length + 1 := by
          have := skip_at (g := []) d3 (fun _ h => nomatch h) (by intro d hd; simp at hd; subst hd; rfl)
          simpa using this
        rw [mix_no g1 (by rw [s3]; unfold nameAt; rw [get_at d3]; rfl)]
        simp [fin1]
      · rw [mix_end (by rw [g1]; simp)]
        unfold fin1
        simp only [g1]
        simp
    · rw [if_neg hn]
      simp [fin1, hn]
  · rw [none_41 (no41 hno)]
    rw [if_neg]
    rintro ⟨h, _⟩
    exact hno (List.mem_of_getElem? h)
theorem flats_snoc (qs : List Piece) (q : Piece) : flats (qs ++ [q]) = flats qs ++ q.flat := by simp [flats]
section
variable {t : Str} {e c : Nat}
theorem slice_one (hc : (sg t)[e]? = some c) : Txt.slice t (some (e : Int)) (some ((e : Int) + 1)) = ⟨#[c]⟩ := by
  obtain ⟨hl, rfl⟩ := List.getElem?_eq_some_iff.mp hc
  apply sg_inj
  rw [show ((e : Int) + 1) = ((e + 1 : Nat) : Int) from by omega, sg_slice t (by omega) (by rw [← sg_len]; omega), show e + 1 - e = 1 by omega, List.drop_eq_getElem_cons hl]
  rfl
theorem join1 {a b c : Bool} (h : a = true) : a = (a || (b && c)) := by rw [h]; rfl
theorem join2 {a b c : Bool} (h : a = false) (k : b = false) : b = (a || (b && c)) := by rw [h, k]; rfl
theorem join3 {a b c : Bool} (h : a = false) (k : b = true) : c = (a || (b && c)) := by rw [h, k]; rfl
theorem slice_c (hc : (sg t)[e]? = some c) {mt : Str} (h : Txt.slice t (some (e : Int)) (some ((e : Int) + 1)) = mt) : mt = ⟨#[c]⟩ := h ▸ slice_one hc
theorem slice_none (h : ¬ (e : Int) < t.length) : Txt.slice t (some (e : Int)) (some ((e : Int) + 1)) = Str.ofString "" ∨ t.length < e := by
  by_cases q : t.length < e
  · exact .inr q
  · refine .inl (sg_inj ?_)
    rw [show ((e : Int) + 1) = ((e + 1 : Nat) : Int) from by omega, sg_slice t (by omega) (by omega), List.drop_eq_nil_of_le (by rw [sg_len]; omega), List.take_nil]
    rfl
theorem occ_sp {b : Bool} (hc : (sg t)[e]? = some c) (hl : (e : Int) < t.length) (h : (Builtin.Str.occurrences (Str.ofString " \t\n\r") (Txt.item t (e : Int)) 0 (Str.ofString " \t\n\r").length 1).isEmpty = b) : isSp c = !b := by
  rw [item_is hl hc, occ_one, show sg (Str.ofString " \t\n\r") = [32, 9, 10, 13] from rfl] at h
  show List.contains [32, 9, 10, 13] c = !b
  rw [← h, Bool.not_not]
theorem any_two {c : Nat} (h44 : ¬ c = 44) (h124 : ¬ c = 124) : ([Str.ofString ",", Str.ofString "|"].any fun x => x == ({ cps := #[c] } : Str)) = false := by
  have h : ∀ d : Nat, ¬ c = d → ((⟨#[d]⟩ : Str) == ⟨#[c]⟩) = false := fun d hd => by
    rw [eq_one d (x := ⟨#[c]⟩) (l := c) rfl]; exact decide_eq_false (fun q => hd q.symm)
  have h1 : (Str.ofString "," == (⟨#[c]⟩ : Str)) = false := h 44 h44
  have h2 : (Str.ofString "|" == (⟨#[c]⟩ : Str)) = false := h 124 h124
  simp only [List.any_cons, List.any_nil, h1, h2, Bool.or_false]
theorem any_let {c : Nat} (h : c = 44 ∨ c = 124) : ([Str.ofString ",", Str.ofString "|"].any fun x => x == ({ cps := #[c] } : Str)) = true := by
  rcases h with rfl | rfl <;> rfl
theorem gin_iff {c : Nat} {G : Str} : ([Str.ofString "", ({ cps := #[c] } : Str)].any fun x => x == G) = true ↔ (G = Str.ofString "" ∨ G = ⟨#[c]⟩) := by
  simp only [List.any_cons, List.any_nil, Bool.or_false, Bool.or_eq_true, beq_iff_eq]
  exact ⟨fun q => q.imp Eq.symm Eq.symm, fun q => q.imp Eq.symm Eq.symm⟩
end
def qualS : Str := (envOfC (Str.ofString "_law_signs_right") default 0 0 .none).qual ++ Str.ofString "<lambda>"
section
variable {w : World} {A₀ : Around} {E : Value → Shared → Prop} {s : Shared} {base h₀ : Heap} {outer : List Env} {L : Addr} {m : Str → Option Value} {news : List (Addr × Obj)}
  {p : Program} {loose : List Str} {mean : ExcName → Option Value} {mg mb : Str → Option Value} {dp un : Nat} {gd : Option (List Code)} {cn : Str} {cs : Scope} {a : Addr} {ccd : Value} {cl : List (Str × Addr)} {Q : Value → Shared → Prop}
  {tt dt plt : Tok} {t : Str} {pl : Int} {ps : Array Value} {gP : Obj → List (Addr × Obj)}

theorem signs_spec (B : Below A₀ base outer h₀) (F : Fr h₀ L s.heap m) (X : (hd.heap_1 w.params).In h₀) (N : News h₀ L s.heap news) (T : Top p loose mean mg mb h₀) (hk : cs.kind = .function) (hdp : dp + 30 < recursionLimit) (hun : un + 2000 < cLine)
  (XB : (hd.heap_1 w.params).In base) (TB : Top p loose mean mg mb base)
  (UP : UpdF 334 (tabObj ps) news gP) (hps : TabS 189 26 qualS ps news) (hlt : t.length ≤ 900)
  (ret : ∀ h' tk' h₁ c' oc vs0 qt, KtsTurn (outer.filterMap (·.frame)) h₀ h₁ → Fr h₁ L h' m → Below A₀ base outer h₁ → (hd.heap_1 w.params).In h₁ → Top p loose mean mg mb h₁ → News h₁ L h' ((c', oc) :: gP (tabObj #[rawInt 189, rawInt 26, .ref c'])) →
    oc.data = .fields vs0 → (vs0[1]? : Option Value) = some (.str qualS qt) → (∀ b o, s.heap.get? b = some o → b ∉ [334] → b ∉ L :: outer.filterMap (·.frame) → h'.get? b = some o) → ((ps = #[] ∧ s.heap.objs.size ≤ c') ∨ ps = #[rawInt 189, rawInt 26, .ref c']) → Q (.bool true) { s with heap := h', toks := tk' }) :
  wpAny (model PySem.Challenge.rw_xw0208_01.row.prog w) (ktrTop dp un gd cn cs L a ccd cl outer) (call (.ref 339) [.str t tt]) Q E s := by
  revert X XB; k_fill; intro X XB
  obtain ⟨ow, hps0, hp3, _, N₀⟩ := tab_part N UP hps
  k_dflt (refine' enterC B F X N₀ T hk ?k6 ?k7 ?k8 ?k9 ?kB ?kC ?_ ?c2 ?c3 ?c4; (case k6 => k_is); (case k7 => k_is); (case k8 => ktr_room); (case k9 => exact BindsTo.of_eq rfl); (case kB => exact kindsX rfl); (case kC => decide +kernel); (case c2 => exact rfl); (case c3 => exact rfl); (case c4 => exact rfl); k_whole; intro g' L' h' tk' cells' F' N' Y' B' X' T' K' S' l'; have oL : ∀ p ∈ ow, @LT.lt Nat _ (Prod.fst p) L' := fun p hp => l' p (.tail _ hp); (try k_lt l'); k_cells Y'; (try simp only [List.cons_append, List.nil_append] at N'); (try dsimp only); (try k_fold))
  have C9 : CodeHd g' 338 334 := codeHd_of_K X' (by kernel_rfl)
  repeat ((fail_if_success (with_reducible show wpAny _ _ (pyIter _) _ _ _)); (first | ((with_reducible show wpAny _ _ (call (Value.ref 293) [Value.str _ _]) _ _ _); k_dflt (refine' scan_new (by k_asm) (by k_asm) (by k_asm) (by k_asm) (by k_asm) rfl (by ktr_room) ?_; k_whole; intro zh' ztk' zx' zdx' zh1 zh2 zh3 zh4 zk1 zk2 zk3 zk4 zb1 zit' zF' zN' zl1 zl2; (try k_lt zl1); (try k_lt2 zl2); (try k_sweep); (try dsimp only))) | walk1 | (dsimp only; walk1)))
  (with_reducible rename IsRange _ _ _ _ _ _ _ _ => R9); (with_reducible rename Fr g' L' _ _ => F9); (with_reducible rename News g' L' _ _ => N9)
  obtain ⟨M, hM, F8⟩ := fr_named F9
  obtain ⟨y, dy, x, dx, lp, oS, oG, h1, h2, h3, h4, k1, k2, k3, k4, b1, it0, g1, g2, g3, q1, q2, q3, pvt, Gt0, N8, hoS, hoG, lx1, lx2, ly1, ly2⟩ : ∃ (y dy x dx lp : Addr) (oS oG : Obj) (h1 h2 h3 h4 : Int) (k1 k2 k3 k4 b1 it0 : Tok) (g1 g2 g3 : Int) (q1 q2 q3 pvt Gt0 : Tok), News g' L' _ ([(y, instObj 60 dy), (dy, dictOf (grpD g1 g2 g3 q1 q2 q3 0 pvt lp (Str.ofString "") Gt0) 3), (x, instObj 293 dx), (dx, dictOf (scanD h1 h2 h3 h4 k1 k2 k3 k4 t tt 0 b1 ((0 : Nat) : Int) it0) 4), (L' + 1 + 1, oS), (L' + 1, oG), (334, tabObj ps)] ++ ow) ∧
      oS.data = .cell (some (.ref x)) ∧ oG.data = .cell (some (.ref y)) ∧ @LT.lt Nat _ (L' + 1 + 1) dx ∧ @LT.lt Nat _ dx x ∧ @LT.lt Nat _ x dy ∧ @LT.lt Nat _ dy y :=
    ⟨_, _, _, _, _, _, _, _, _, _, _, _, _, _, _, _, _, _, _, _, _, _, _, _, _, fun p hp => N9 p (List.mem_cons_of_mem _ (List.mem_cons_of_mem _ hp)), by assumption, by assumption, by omega, by omega, by omega, by omega⟩
  obtain ⟨tA0, ha0⟩ : ∃ tA0, M (Str.ofString "at") = some (.int ((0 : Nat) : Int) tA0) := by rw [hM]; exact ⟨_, rfl⟩
  obtain ⟨tS0, hs0⟩ : ∃ tS0, M (Str.ofString "sign") = some (.str (Str.ofString "") tS0) := by rw [hM]; exact ⟨_, rfl⟩
  have ox0 : ∀ p ∈ ow, @Ne Nat p.1 dx := fun p hp => by have := oL p hp; omega
  have oy0 : ∀ p ∈ ow, @Ne Nat p.1 dy := fun p hp => by have := oL p hp; omega
  refine iter_rangeG (n := t.length + 1) (fun i m nx => ∃ (j : Nat) (G : Str) (tA tS it Gt : Tok) (ps1 : Array Value) (cs : List (Addr × Obj)), i ≤ j ∧ j ≤ (sg t).length ∧
      m (Str.ofString "at") = some (.int (j : Int) tA) ∧ m (Str.ofString "sign") = some (.str G tS) ∧ (∀ z, z ≠ Str.ofString "turn" → z ≠ Str.ofString "at" → z ≠ Str.ofString "sign" → ([Str.ofString "met", Str.ofString "is_let", Str.ofString "told"] : List Str).contains z = false → m z = M z) ∧
      (G = Str.ofString "" ∨ G = ⟨#[44]⟩ ∨ G = ⟨#[124]⟩) ∧ TabS 189 26 qualS ps1 cs ∧ (ps1 = ps ∨ (ps = #[] ∧ ∃ c0, ps1 = #[rawInt 189, rawInt 26, .ref c0] ∧ @LT.lt Nat _ L' c0)) ∧ (∀ p ∈ ow, p ∈ cs) ∧ (∀ p ∈ cs, @Ne Nat p.1 dx) ∧ (∀ p ∈ cs, @Ne Nat p.1 dy) ∧ (∀ p ∈ cs, @Ne Nat p.1 334) ∧
      nx = [(y, instObj 60 dy), (dy, dictOf (grpD g1 g2 g3 q1 q2 q3 0 pvt lp G Gt) 3), (x, instObj 293 dx), (dx, dictOf (scanD h1 h2 h3 h4 k1 k2 k3 k4 t tt 0 b1 (j : Int) it) 4), (L' + 1 + 1, oS), (L' + 1, oG), (334, tabObj ps1)] ++ cs)
    rfl R9 ?hsm ?hrn F8 N8 ⟨0, Str.ofString "", tA0, tS0, it0, Gt0, ps, ow, Nat.le_refl _, Nat.zero_le _, ha0, hs0, fun _ _ _ _ _ => rfl, .inl rfl, hps0, .inl rfl, fun _ h => h, ox0, oy0, hp3, rfl⟩ ?turn ?done
  case hsm => exact small_one (by omega) (by omega) (by omega) (by omega)
  case hrn => rw [rangeSize_nat]; omega
  case done =>
    rintro m₁ nx hh tk9 ⟨j, G, tA, tS, it, Gt, ps, cs9, hj1, hj2, _⟩
    have := sg_len t
    exfalso; omega
  case turn =>
    rintro i t1 m₁ nx hh tk9 own I hi hnI hoff hown ⟨oI, hoI⟩ ⟨j, G, tA, tS, it, Gt, ps1, cs9, hj1, hj2, ha, hsn, hM1, hG, hps1, hpp, hoc9, cx9, cy9, ct9, rfl⟩ F1 N1
    replace F1 := kst_fr (ps := [(Str.ofString "at", Value.int (j : Int) tA), (Str.ofString "sign", Value.str G tS)]) (stored := [Str.ofString "met", Str.ofString "is_let", Str.ofString "told"]) (m₀ := M) (List.forall_mem_cons.mpr ⟨ha, List.forall_mem_cons.mpr ⟨hsn, List.forall_mem_nil _⟩⟩) (fun z n1 n2 n3 => hM1 z n1 (n2 _ (.head _)) (n2 _ (.tail _ (.head _))) n3) F1
    have od1 : ∀ p ∈ own, p.1 ≠ dx := OwnOff.ne hoff (by simp)
    have od2 : ∀ p ∈ own, p.1 ≠ dy := OwnOff.ne hoff (by simp)
    have od3 : ∀ p ∈ own, p.1 ≠ 334 := OwnOff.ne hoff (by simp)
    rw [List.append_assoc] at N1
    obtain ⟨ow2, how2⟩ : ∃ ow2, ow2 = cs9 ++ own := ⟨_, rfl⟩
    rw [← how2] at N1
    have sub1 : ∀ p ∈ cs9, p ∈ ow2 := fun p hp => by rw [how2]; exact List.mem_append_left _ hp
    have sub2 : ∀ p ∈ own, p ∈ ow2 := fun p hp => by rw [how2]; exact List.mem_append_right _ hp
    have oe1 : ∀ p ∈ ow2, p.1 ≠ dx := fun p hp => by rw [how2] at hp; exact (List.mem_append.mp hp).elim (cx9 p) (od1 p)
    have oe2 : ∀ p ∈ ow2, p.1 ≠ dy := fun p hp => by rw [how2] at hp; exact (List.mem_append.mp hp).elim (cy9 p) (od2 p)
    have oe3 : ∀ p ∈ ow2, p.1 ≠ 334 := fun p hp => by rw [how2] at hp; exact (List.mem_append.mp hp).elim (ct9 p) (od3 p)
    subst hM
    simp only [List.cons_append, List.nil_append] at N1
    iterate 1 (first | ((with_reducible show wpAny _ _ (call (Value.ref 293) [Value.str _ _]) _ _ _); k_dflt (refine' scan_new (by k_asm) (by k_asm) (by k_asm) (by k_asm) (by k_asm) rfl (by ktr_room) ?_; k_whole; intro zh' ztk' zx' zdx' zh1 zh2 zh3 zh4 zk1 zk2 zk3 zk4 zb1 zit' zF' zN' zl1 zl2; (try k_lt zl1); (try k_lt2 zl2); (try k_sweep); (try dsimp only))) | walk1 | (dsimp only; walk1))
    obtain ⟨MM, hMM, F2⟩ := fr_named F1
    have hat : MM (Str.ofString "at") = some (.int (j : Int) tA) := by rw [hMM]; rfl
    refine While_inv (fun k m1 news1 => ∃ (e : Nat) (tE : Tok), j ≤ e ∧ e ≤ (sg t).length ∧ skip (sg t) e = skip (sg t) j ∧ (fun y => if y = Str.ofString "at" then some (Value.int (e : Int) tE) else MM y) = m1 ∧ _ = news1 ∧ k = (sg t).length - e) F2 N1 ⟨j, tA, Nat.le_refl _, hj2, rfl, by rw [← hat]; exact upd_self MM _, rfl, rfl⟩ ?_
    rintro k m1 news1 hh1 tk1 F3 N3 ⟨e, tE, he1, he2, he3, rfl, rfl, rfl⟩
    subst hMM
    obtain ⟨m3, hm3, F4⟩ := fr_named F3
    obtain ⟨n3, hn3, N4⟩ : ∃ n3, n3 = _ ∧ News g' L' hh1 n3 := ⟨_, rfl, N3⟩
    have hsl := sg_len t
    obtain ⟨P1, hP1⟩ : ∃ P : Bool → Shared → Prop, P = fun ok s' => ∃ (hh : Heap) (tk : Nat), s' = { s with heap := hh, toks := tk } ∧ Fr g' L' hh m3 ∧ News g' L' hh n3 ∧ ((ok = true ∧ ∃ c, (sg t)[e]? = some c ∧ isSp c = true ∧ e < (sg t).length) ∨ (ok = false ∧ skip (sg t) j = e)) := ⟨_, rfl⟩
    refine wpAny_mono (Q := P1) ?cond ?rest (fun _ _ h => h)
    case cond =>
      clear F3 N3
      subst hm3
      (repeat' (first | ((with_reducible show wpAny _ _ (call (Value.ref 293) [Value.str _ _]) _ _ _); k_dflt (refine' scan_new (by k_asm) (by k_asm) (by k_asm) (by k_asm) (by k_asm) rfl (by ktr_room) ?_; k_whole; intro zh' ztk' zx' zdx' zh1 zh2 zh3 zh4 zk1 zk2 zk3 zk4 zb1 zit' zF' zN' zl1 zl2; (try k_lt zl1); (try k_lt2 zl2); (try k_sweep); (try dsimp only))) | (k_unfold; (try dsimp only)) | (k_end; wrow_close) | walk1 | (dsimp only; walk1) | (leave1; try dsimp only)))
      · (with_reducible rename (_ : Int) < _ => hlt9); (with_reducible rename _ = true => hem)
        obtain ⟨c, hc, hit⟩ := item_nat hlt9
        rw [hP1]; exact ⟨_, _, rfl, by assumption, by assumption, .inr ⟨rfl, he3.symm.trans (skip_no hc (occ_sp hc hlt9 hem))⟩⟩
      · (with_reducible rename (_ : Int) < _ => hlt9); (with_reducible rename _ = false => hem)
        obtain ⟨c, hc, hit⟩ := item_nat hlt9
        rw [hP1]; exact ⟨_, _, rfl, by assumption, by assumption, .inl ⟨rfl, c, hc, occ_sp hc hlt9 hem, by omega⟩⟩
      · (with_reducible rename ¬ (_ : Int) < _ => hlt9)
        rw [hP1]; exact ⟨_, _, rfl, by assumption, by assumption, .inr ⟨rfl, he3.symm.trans (skip_end (by omega))⟩⟩
    case rest =>
      intro ok s' hp; rw [hP1] at hp
      obtain ⟨hh, tk, rfl, F5, N5, ⟨rfl, c, hc, hsp, hlt⟩ | ⟨rfl, hsk⟩⟩ := hp
      · clear F3 N3 F4 N4
        subst hm3 hn3
        (try dsimp only)
        (repeat' (first | ((with_reducible show wpAny _ _ (call (Value.ref 293) [Value.str _ _]) _ _ _); k_dflt (refine' scan_new (by k_asm) (by k_asm) (by k_asm) (by k_asm) (by k_asm) rfl (by ktr_room) ?_; k_whole; intro zh' ztk' zx' zdx' zh1 zh2 zh3 zh4 zk1 zk2 zk3 zk4 zb1 zit' zF' zN' zl1 zl2; (try k_lt zl1); (try k_lt2 zl2); (try k_sweep); (try dsimp only))) | (k_unfold; (try dsimp only)) | (k_end; wrow_close) | walk1 | (dsimp only; walk1) | (leave1; try dsimp only)))
        (with_reducible rename Fr g' L' _ _ => FZ); (with_reducible rename News g' L' _ _ => NZ)
        exact WhileStep.intro FZ NZ (n' := (sg t).length - (e + 1)) (by omega) ⟨e + 1, _, by omega, by omega, (skip_sp hc hsp).symm.trans he3, by
          funext z
          by_cases hz : z = Str.ofString "at"
          · simp only [hz, if_true]; rfl
          · simp only [hz, if_false], rfl, rfl⟩
      · clear F3 N3 F4 N4
        subst hm3 hn3
        (try dsimp only)
        repeat ((fail_if_success (with_reducible show wpAny _ _ (storeName _ _ _) _ _ _)); (first | ((with_reducible show wpAny _ _ (call (Value.ref 293) [Value.str _ _]) _ _ _); k_dflt (refine' scan_new (by k_asm) (by k_asm) (by k_asm) (by k_asm) (by k_asm) rfl (by ktr_room) ?_; k_whole; intro zh' ztk' zx' zdx' zh1 zh2 zh3 zh4 zk1 zk2 zk3 zk4 zb1 zit' zF' zN' zl1 zl2; (try k_lt zl1); (try k_lt2 zl2); (try k_sweep); (try dsimp only))) | walk1 | (dsimp only; walk1)))
        obtain ⟨mt, hmt⟩ : ∃ mt, Txt.slice t (some (e : Int)) (some ((e : Int) + 1)) = mt := ⟨_, rfl⟩
        rw [hmt]
        repeat ((fail_if_success (with_reducible show wpAny _ _ (eval (Expr.BoolOp _ _ _) _) _ _ _)); (first | ((with_reducible show wpAny _ _ (call (Value.ref 293) [Value.str _ _]) _ _ _); k_dflt (refine' scan_new (by k_asm) (by k_asm) (by k_asm) (by k_asm) (by k_asm) rfl (by ktr_room) ?_; k_whole; intro zh' ztk' zx' zdx' zh1 zh2 zh3 zh4 zk1 zk2 zk3 zk4 zb1 zit' zF' zN' zl1 zl2; (try k_lt zl1); (try k_lt2 zl2); (try k_sweep); (try dsimp only))) | walk1 | (dsimp only; walk1)))
        (with_reducible rename Fr g' L' _ _ => F6); (with_reducible rename News g' L' _ _ => N6)
        obtain ⟨m6, hm6, F7⟩ := fr_named F6
        obtain ⟨n6, hn6, N7⟩ : ∃ n6, n6 = _ ∧ News g' L' _ n6 := ⟨_, rfl, N6⟩
        obtain ⟨P2, hP2⟩ : ∃ P : Value → Shared → Prop, P = fun v s' => ∃ (b : Bool) (hh : Heap) (tk : Nat), v = .bool b ∧ s' = { s with heap := hh, toks := tk } ∧ Fr g' L' hh m6 ∧ News g' L' hh n6 ∧ b = (mt == Str.ofString ")" || (([Str.ofString ",", Str.ofString "|"].any fun x => x == mt) && ([Str.ofString "", mt].any fun x => x == G))) := ⟨_, rfl⟩
        refine wpAny_mono (Q := P2) ?ev ?go (fun _ _ h => h)
        case ev =>
          clear F6 N6
          subst hm6
          (repeat' (first | ((with_reducible show wpAny _ _ (call (Value.ref 293) [Value.str _ _]) _ _ _); k_dflt (refine' scan_new (by k_asm) (by k_asm) (by k_asm) (by k_asm) (by k_asm) rfl (by ktr_room) ?_; k_whole; intro zh' ztk' zx' zdx' zh1 zh2 zh3 zh4 zk1 zk2 zk3 zk4 zb1 zit' zF' zN' zl1 zl2; (try k_lt zl1); (try k_lt2 zl2); (try k_sweep); (try dsimp only))) | (k_unfold; (try dsimp only)) | (k_end; wrow_close) | walk1 | (dsimp only; walk1) | (leave1; try dsimp only)))
          all_goals (rw [hP2]; refine ⟨_, _, _, rfl, rfl, by assumption, ?_, ?_⟩)
          all_goals first
            | exact join1 (by assumption)
            | exact join2 (by assumption) (by assumption)
            | exact join3 (by assumption) (by assumption)
            | assumption
            | ((with_reducible rename News g' L' _ _ => NZ); first | exact NZ | exact fun p hp => NZ p (.tail _ hp) | exact fun p hp => NZ p (.tail _ (.tail _ hp)))
        case go =>
          intro v s' hp; rw [hP2] at hp
          obtain ⟨b, hh, tk, rfl, rfl, F8, N8, hb⟩ := hp
          clear F6 N6 F7 N7
          subst hm6 hn6
          (try dsimp only)
          repeat ((fail_if_success (with_reducible show wpAny _ _ (call (Value.ref 325) [Value.ref _]) _ _ _)); (first | ((with_reducible show wpAny _ _ (call (Value.ref 293) [Value.str _ _]) _ _ _); k_dflt (refine' scan_new (by k_asm) (by k_asm) (by k_asm) (by k_asm) (by k_asm) rfl (by ktr_room) ?_; k_whole; intro zh' ztk' zx' zdx' zh1 zh2 zh3 zh4 zk1 zk2 zk3 zk4 zb1 zit' zF' zN' zl1 zl2; (try k_lt zl1); (try k_lt2 zl2); (try k_sweep); (try dsimp only))) | walk1 | (dsimp only; walk1)))
          rename_i f9 c9 oc9 vs9 tq9 cv9 h9 tkk9 F9 N9 hd9 hv9 hor9 l29 l19
          have nd1 : @Ne Nat c9 dx := hor9.elim (fun z => Nat.ne_of_gt (z.2 (dx, _) (by k_mem))) (fun z => cx9 _ z.1)
          have nd2 : @Ne Nat c9 dy := hor9.elim (fun z => Nat.ne_of_gt (z.2 (dy, _) (by k_mem))) (fun z => cy9 _ z.1)
          have nd3 : @Ne Nat c9 334 := hor9.elim (fun z => Nat.ne_of_gt (z.2 (334, _) (by k_mem))) (fun z => ct9 _ z.1)
          have ndI : @Ne Nat c9 I := hor9.elim (fun z => Nat.ne_of_gt (z.2 (I, oI) (by (repeat apply List.mem_cons_of_mem); exact sub2 _ hoI))) (fun z => hnI _ (List.mem_append_right _ z.1))
          have hfin : (ps = #[] ∧ @LT.lt Nat _ L' c9) ∨ ps = #[rawInt 189, rawInt 26, .ref c9] := by
            rcases hor9 with ⟨z1, z2⟩ | ⟨z1, z2⟩
            · have z3 : @LT.lt Nat _ (L' + 1) c9 := z2 (L' + 1, oG) (by k_mem)
              rcases hpp with e9 | ⟨e9, c0, e2, _⟩
              · exact .inl ⟨e9 ▸ z1, by omega⟩
              · rw [e2] at z1; simp at z1
            · rcases hpp with e9 | ⟨e9, c0, e2, h9⟩
              · exact .inr (e9 ▸ z2)
              · rw [e2] at z2
                have e3 : c0 = c9 := by simpa using z2
                exact .inl ⟨e9, e3 ▸ h9⟩
          k_dflt (refine' heard_goes ?B ?F ?X ?N ?T ?hk ?hd ?XB ?TB ?DF ?hf ?hcd ?hoc ?hq ?hc1 ?ho1 ?hc2 ?ho2 ?hx ?U ?hy ?V ?n1 ?n2 ?n3 ?n4 ?n5 ?hn ?ht ?_ ?_ ?_; (case B => k_asm); (case F => k_asm); (case X => k_asm); (case N => k_asm); (case T => k_asm); (case hk => exact rfl); (case hd => ktr_room); (case XB => assumption); (case TB => assumption); (case hf => k_mem); (case hcd => k_mem); (case hoc => assumption); (case hq => assumption); (case hc1 => k_mem); (case ho1 => assumption); (case hc2 => k_mem); (case ho2 => assumption); (case hx => k_mem); (case U => k_updF); (case DF => exact DelF.keep (by k_ne) (DelF.keep nd1 (DelF.keep (by k_ne) (DelF.keep (by k_ne) (DelF.keep (by k_ne) (DelF.drop (DelF.keep (by k_ne) (DelF.keep (by k_ne) (DelF.keep (by k_ne) (DelF.tail oe1)))))))))); (case hy => k_mem); (case V => intro o9; (try dsimp only); k_updF); (case n1 => first | assumption | k_ne); (case n2 => first | assumption | k_ne); (case n3 => first | assumption | k_ne); (case n4 => first | assumption | k_ne); (case n5 => first | assumption | k_ne); (case hn => omega); (case ht => first | assumption | omega); k_whole)
          · intro c2 r2 r3 r4 hh5 tk5 it5 Gt5 F5 N5 K5
            rw [hsk] at r2
            have hx := slice_c r2 hmt
            subst hx
            have helt : e < (sg t).length := (List.getElem?_eq_some_iff.mp r2).1
            have h41 : ¬ c2 = 41 := by rcases r3 with rfl | rfl <;> decide
            have hq41 : (({ cps := #[c2] } : Str) == Str.ofString ")") = false := by rw [eq_one c2 (x := Str.ofString ")") (l := 41) rfl]; exact decide_eq_false h41
            have hqn : (({ cps := #[c2] } : Str) != Str.ofString ")") = true := by show (!(({ cps := #[c2] } : Str) == Str.ofString ")")) = true; rw [hq41]; rfl
            have hB : (true != (({ cps := #[c2] } : Str) != Str.ofString ")")) = false := by rw [hqn]; rfl
            have hCC : (({ cps := #[c2] } : Str) != ({ cps := #[c2] } : Str)) = false := bne_self_eq_false _
            have hbt : b = true := by rw [hb, hq41, any_let r3, gin_iff.mpr r4]; rfl
            subst hbt
            (try dsimp only at N5)
            rw [hsk] at N5
            (repeat' (first | ((with_reducible show wpAny _ _ (call (Value.ref 293) [Value.str _ _]) _ _ _); k_dflt (refine' scan_new (by k_asm) (by k_asm) (by k_asm) (by k_asm) (by k_asm) rfl (by ktr_room) ?_; k_whole; intro zh' ztk' zx' zdx' zh1 zh2 zh3 zh4 zk1 zk2 zk3 zk4 zb1 zit' zF' zN' zl1 zl2; (try k_lt zl1); (try k_lt2 zl2); (try k_sweep); (try dsimp only))) | (k_unfold; (try dsimp only)) | (k_end; wrow_close) | walk1 | (dsimp only; walk1) | (leave1; try dsimp only)))
            · exfalso; omega
            (with_reducible rename Fr g' L' _ _ => FZ); (with_reducible rename News g' L' _ _ => NZ)
            have NW : News g' L' _ ([(y, instObj 60 dy), (dy, dictOf (grpD g1 g2 g3 q1 q2 q3 0 pvt lp ⟨#[c2]⟩ Gt5) 3), (x, instObj 293 dx), (dx, dictOf (scanD h1 h2 h3 h4 k1 k2 k3 k4 t tt 0 b1 ((e + 1 : Nat) : Int) it5) 4), (L' + 1 + 1, oS), (L' + 1, oG), (334, tabObj #[rawInt 189, rawInt 26, .ref c9])]) := cb_drop NZ (by tb_rel)
            have NC := NZ (c9, oc9) (by k_mem)
            have sub3 : ∀ p ∈ ow2, News g' L' _ [p] := fun p hp => List.forall_mem_cons.mpr ⟨NZ p (by (repeat apply List.mem_cons_of_mem); exact hp), List.forall_mem_nil _⟩
            refine ⟨_, _, _, ([(y, instObj 60 dy), (dy, dictOf (grpD g1 g2 g3 q1 q2 q3 0 pvt lp ⟨#[c2]⟩ Gt5) 3), (x, instObj 293 dx), (dx, dictOf (scanD h1 h2 h3 h4 k1 k2 k3 k4 t tt 0 b1 ((e + 1 : Nat) : Int) it5) 4), (L' + 1 + 1, oS), (L' + 1, oG), (334, tabObj #[rawInt 189, rawInt 26, .ref c9])]) ++ ((c9, oc9) :: cs9), rfl, FZ, fun p hp => ?_, fun p hp => ?_, e + 1, ⟨#[c2]⟩, _, _, _, _, _, _, by omega, by have := sg_len t; omega, rfl, rfl, fun z n1 n2 n3 n4 => ?_, r3.elim (fun q => .inr (.inl (by rw [q]))) (fun q => .inr (.inr (by rw [q]))), .inr ⟨c9, oc9, vs9, _, rfl, .head _, hd9, hv9⟩, hfin.elim (fun z => .inr ⟨z.1, c9, rfl, z.2⟩) (fun z => .inl z.symm), fun p hp => .tail _ (hoc9 p hp), List.forall_mem_cons.mpr ⟨nd1, cx9⟩, List.forall_mem_cons.mpr ⟨nd2, cy9⟩, List.forall_mem_cons.mpr ⟨nd3, ct9⟩, rfl⟩
            · rcases List.mem_append.mp hp with hp | hp
              · rcases List.mem_append.mp hp with hp | hp
                · exact NW p hp
                · rcases List.mem_cons.mp hp with rfl | hp
                  · exact NC
                  · exact sub3 p (sub1 p hp) p (.head _)
              · exact sub3 p (sub2 p hp) p (.head _)
            · rcases List.mem_append.mp hp with hp | hp
              · have hp1 : p.1 ∈ [y, dy, x, dx, L' + 1 + 1, L' + 1, 334] := List.mem_map_of_mem (f := Prod.fst) hp
                obtain ⟨q, hq, hq1⟩ : ∃ q ∈ [(y, instObj 60 dy), (dy, dictOf (grpD g1 g2 g3 q1 q2 q3 0 pvt lp G Gt) 3), (x, instObj 293 dx), (dx, dictOf (scanD h1 h2 h3 h4 k1 k2 k3 k4 t tt 0 b1 (j : Int) it) 4), (L' + 1 + 1, oS), (L' + 1, oG), (334, tabObj ps1)], q.1 = p.1 := List.mem_map.mp hp1
                rw [← hq1]; exact hnI q (List.mem_append_left _ hq)
              · rcases List.mem_cons.mp hp with rfl | hp
                · exact ndI
                · exact hnI p (List.mem_append_right _ hp)
            · have n5 : z ≠ Str.ofString "met" := fun q => by subst q; exact Bool.noConfusion (n4.symm.trans (by rfl))
              have n6 : z ≠ Str.ofString "is_let" := fun q => by subst q; exact Bool.noConfusion (n4.symm.trans (by rfl))
              have n7 : z ≠ Str.ofString "told" := fun q => by subst q; exact Bool.noConfusion (n4.symm.trans (by rfl))
              simp only [n1, n2, n3, n5, n6, n7, if_false]
              (try dsimp only [kstB])
              (try simp only [n1, n2, n3, n5, n6, n7, if_false])
              (try rw [n4])
              (try rfl)
          · intro r2 hh5 tk5 it5 F5 N5 K5
            rw [hsk] at r2
            have hx := slice_c r2 hmt
            subst hx
            have hbt : b = true := by rw [hb]; rfl
            subst hbt
            have hGG : (G != G) = false := bne_self_eq_false G
            (try dsimp only at N5)
            rw [hsk] at N5
            (repeat' (first | ((with_reducible show wpAny _ _ (call (Value.ref 293) [Value.str _ _]) _ _ _); k_dflt (refine' scan_new (by k_asm) (by k_asm) (by k_asm) (by k_asm) (by k_asm) rfl (by ktr_room) ?_; k_whole; intro zh' ztk' zx' zdx' zh1 zh2 zh3 zh4 zk1 zk2 zk3 zk4 zb1 zit' zF' zN' zl1 zl2; (try k_lt zl1); (try k_lt2 zl2); (try k_sweep); (try dsimp only))) | (k_unfold; (try dsimp only)) | (k_end; wrow_close) | walk1 | (dsimp only; walk1) | (leave1; try dsimp only)))
            · exfalso; omega
            (repeat' (first | k_unfold | dsimp only [InvPostG]))
            (with_reducible rename Fr _ L' _ _ => FZ); (with_reducible rename News _ L' _ _ => NZ)
            refine bool_eq (b' := true) (by first | rfl | exact beq_self_eq_true _) ?_
            obtain ⟨h1', TT, F8, N8, B8, K8⟩ := back_turn (cn := cn) (cs := cs) (a := a) (ccd := ccd) (cl := cl) B F N₀ K' KtsTurn.refl FZ NZ
            have K7 := keepTurn (mods := [334]) N₀ N8 K8 (fun p hp hn => by
              rcases List.mem_cons.mp hp with rfl | hp
              · exact absurd (List.mem_singleton.mpr rfl) hn
              · (repeat apply List.mem_cons_of_mem); exact sub1 _ (hoc9 _ hp))
            have n334 := (N8 (334, _) (by k_mem)).1
            exact ret _ _ h1' _ _ _ _ TT F8 B8 (XB.keeps B8.stays) (TB.keeps B8.stays) (List.forall_mem_cons.mpr ⟨N8 (c9, oc9) (by k_mem), turn_upd N B UP TT K7 n334⟩) hd9 hv9 K7 (hfin.imp (fun z => ⟨z.1, Nat.le_trans S' (Nat.le_of_lt z.2)⟩) id)
          · intro r
            have hbf : b = false := by
              rw [hb]
              cases hg : (sg t)[e]? with
              | none =>
                have hz : mt = Str.ofString "" := by
                  rw [← hmt]
                  exact (slice_none (t := t) (e := e) (by have := List.getElem?_eq_none_iff.mp hg; omega)).elim id (fun q => absurd q (by omega))
                rw [hz]; rfl
              | some c =>
                have r1 := r c (by rw [hsk, hg])
                have hx := slice_c hg hmt
                have hq41 : (({ cps := #[c] } : Str) == Str.ofString ")") = false := by rw [eq_one c (x := Str.ofString ")") (l := 41) rfl]; exact decide_eq_false r1.1
                rw [hx]
                by_cases hl : c = 44 ∨ c = 124
                · rw [hq41, any_let hl, Bool.eq_false_iff.mpr (fun q => (gin_iff.mp q).elim (r1.2 hl).1 (r1.2 hl).2)]; rfl
                · rw [hq41, any_two (fun q => hl (.inl q)) (fun q => hl (.inr q))]; rfl
            subst hbf
            (repeat' (first | ((with_reducible show wpAny _ _ (call (Value.ref 293) [Value.str _ _]) _ _ _); k_dflt (refine' scan_new (by k_asm) (by k_asm) (by k_asm) (by k_asm) (by k_asm) rfl (by ktr_room) ?_; k_whole; intro zh' ztk' zx' zdx' zh1 zh2 zh3 zh4 zk1 zk2 zk3 zk4 zb1 zit' zF' zN' zl1 zl2; (try k_lt zl1); (try k_lt2 zl2); (try k_sweep); (try dsimp only))) | (k_unfold; (try dsimp only)) | (k_end; wrow_close) | walk1 | (dsimp only; walk1) | (leave1; try dsimp only)))
            (with_reducible rename KtsTurn _ _ _ => TU)
            (repeat' (first | k_unfold | dsimp only [InvPostG]))
            (with_reducible rename Fr _ L' _ _ => FZ); (with_reducible rename News _ L' _ _ => NZ)
            refine bool_eq (b' := true) (by first | rfl | exact beq_self_eq_true _) ?_
            obtain ⟨h1', TT, F8, N8, B8, K8⟩ := back_turn (cn := cn) (cs := cs) (a := a) (ccd := ccd) (cl := cl) B F N₀ K' TU FZ NZ
            have K7 := keepTurn (mods := [334]) N₀ N8 K8 (fun p hp hn => by
              rcases List.mem_cons.mp hp with rfl | hp
              · exact absurd (List.mem_singleton.mpr rfl) hn
              · (repeat apply List.mem_cons_of_mem); exact sub1 _ (hoc9 _ hp))
            have n334 := (N8 (334, _) (by k_mem)).1
            exact ret _ _ h1' _ _ _ _ TT F8 B8 (XB.keeps B8.stays) (TB.keeps B8.stays) (List.forall_mem_cons.mpr ⟨N8 (c9, oc9) (by k_mem), turn_upd N B UP TT K7 n334⟩) hd9 hv9 K7 (hfin.imp (fun z => ⟨z.1, Nat.le_trans S' (Nat.le_of_lt z.2)⟩) id)
end
def addOne (σ : List Str) (k : Str) : List Str := if k ∈ σ then σ else σ ++ [k]
def firsts (l : List Str) : List Str := l.foldl addOne []
theorem addOne_len (σ : List Str) (k : Str) : (addOne σ k).length = if decide (k ∈ σ) = true then σ.length else σ.length + 1 := by
  unfold addOne; by_cases h : k ∈ σ <;> simp [h]
theorem addOne_mem (σ : List Str) (k j : Str) : decide (j ∈ addOne σ k) = (decide (j ∈ σ) || decide (j = k)) := by
  unfold addOne
  by_cases h : k ∈ σ
  · rw [if_pos h]
    by_cases e : j = k
    · subst e; simp [h]
    · simp [e]
  · rw [if_neg h]; simp
theorem firsts_snoc (l : List Str) (k : Str) : firsts (l ++ [k]) = addOne (firsts l) k := by
  unfold firsts; rw [List.foldl_append]; rfl
theorem foldl_addOne_le : ∀ (l σ : List Str), (l.foldl addOne σ).length ≤ σ.length + l.length
  | [], σ => Nat.le_refl _
  | k :: r, σ => by
    have h1 := foldl_addOne_le r (addOne σ k)
    have h2 := addOne_len σ k
    have h3 : (addOne σ k).length ≤ σ.length + 1 := by rw [h2]; split <;> omega
    simp only [List.foldl_cons, List.length_cons]; omega
theorem firsts_le (l : List Str) : (firsts l).length ≤ l.length := by have := foldl_addOne_le l []; simpa [firsts] using this
theorem strs_get : ∀ {vs : List Value} {ks : List Str}, StrsAre vs ks → ∀ (i : Nat) (v : Value), vs[i]? = some v → ∃ x t, v = .str x t ∧ ks[i]? = some x
  | _, _, .nil, i, v, h => by simp at h
  | _, _, .cons x t _, 0, v, h => by simp at h; exact ⟨x, t, h.symm, rfl⟩
  | _, _, .cons x t r, i + 1, v, h => by
    simp only [List.getElem?_cons_succ] at h ⊢
    exact strs_get r i v h
theorem strs_len : ∀ {vs : List Value} {ks : List Str}, StrsAre vs ks → vs.length = ks.length
  | _, _, .nil => rfl
  | _, _, .cons _ _ r => by simp [strs_len r]
section
variable {prog : Program} {w : World} {A : Around} {R : Result → Shared → Prop} {I : Addr} {fp wr : List Addr} {G : Array GenState → Array GenState → Prop} {n : Nat} {P : Nat → Value → Prop} {St : Nat → Shared → Prop}

theorem setIs_congr {h : Heap} {a : Addr} {S S' : Str → Bool} {n n' : Nat} (hS : h.SetOf (strKind prog w) a S n) (e : ∀ k, S k = S' k) (en : n = n') : h.SetOf (strKind prog w) a S' n' := by
  obtain rfl : S = S' := funext e
  subst en; exact hS
/-- the set's turns over a list of texts -/
theorem set_turns (W : WalksS prog w A.in1 I fp wr G n P St) (S : Addr) (hSf : S ∉ fp) (ks : List Str) (hn : ks.length = n) (hval : ∀ i v, P i v → ∃ x t, v = .str x t ∧ ks[i]? = some x) (hb : n + 1 < scanBound) (i : Nat) (s : Shared) (hi : i ≤ n) (hst : St i s)
    (hS : s.heap.SetOf (strKind prog w) S (fun k' => decide (k' ∈ firsts (ks.take i))) (firsts (ks.take i)).length)
    (hR : ∀ s', Moved (S :: wr) G s s' → s'.heap.SetOf (strKind prog w) S (fun k' => decide (k' ∈ firsts ks)) (firsts ks).length → R (.ok (.ret .none)) s') :
    codeAny (model prog w) A (.builtin "set.update.loop" ⟨[.ref S, .ref I], []⟩) R s := by
  have hSw : S ∉ wr := fun h => hSf (W.sub _ h)
  have hsub : ∀ b ∈ wr, b ∈ S :: wr := fun b hb => List.mem_cons_of_mem _ hb
  refine codeAny_builtin PyProof.Rows.F.entry_set_update_loop ?_
  rw [Around.under_plainId PyProof.Rows.F.plain_set_update_loop _]
  show wpAny _ A.in1 (pyNext (.ref I) >>= _) _ _ s
  have mv : ∀ {s' : Shared} {S' : Str → Bool} {c : Nat}, Moved wr G s s' → s.heap.SetOf (strKind prog w) S S' c → s'.heap.SetOf (strKind prog w) S S' c := fun hm h => by
    obtain ⟨o, es, ep, t, ho, rest⟩ := h
    exact ⟨o, es, ep, t, hm.heap S _ hSw ho, rest⟩
  by_cases hlt : i < n
  · refine wpAny_bind (W.item i s _ _ hlt hst fun v s' hP hst' hm => ?_)
    obtain ⟨x, t, rfl, hx⟩ := hval i v hP
    have hS' := mv hm hS
    have htk : ks.take (i + 1) = ks.take i ++ [x] := by rw [List.take_add_one, hx]; rfl
    show wpAny _ A.in1 (holding [Value.str x t] (setAdd S (.str x t)) >>= _) _ _ s'
    refine wpAny_bind (wpAny_holding ?_)
    unfold setAdd
    refine wpAny_holding ?_
    refine wpAny_bind ((strKind prog w).pyHash (k := x) (strKind_is _ _ _ _) ?_)
    have hroom : (firsts (ks.take i)).length + 1 < scanBound := by
      have := firsts_le (ks.take i)
      rw [List.length_take] at this; omega
    refine wpAny_setAddHashed_of (knd := strKind prog w) (s := { s' with toks := s'.toks + 1 }) (strKind_is _ _ _ _) rfl hS' hroom fun h' hsb hS2 => ?_
    have hS3 : h'.SetOf (strKind prog w) S (fun k' => decide (k' ∈ firsts (ks.take (i + 1)))) (firsts (ks.take (i + 1))).length :=
      setIs_congr hS2 (fun k' => by rw [htk, firsts_snoc, addOne_mem]) (by rw [htk, firsts_snoc, addOne_len])
    refine wpAny_pure ⟨plainId_quiet PyProof.Rows.F.plain_set_update_loop _, set_turns W S hSf ks hn hval hb (i + 1) _ hlt (W.frame _ s' _ _ hst' (Nat.le_succ _) fun b hb o e => ?_) hS3 fun s'' hm'' hS'' => ?_⟩
    · rw [hsb.2 b (fun h : b = S => hSf (by rw [← h]; exact hb))]; exact e
    · refine hR s'' (Moved.trans W.gtrans ((hm.mono hsub).then_heap (Nat.le_succ _) fun b o hb e => ?_) hm'') hS''
      rw [hsb.2 b (fun h : b = S => hb (by rw [h]; exact List.mem_cons_self))]; exact e
  · obtain rfl : i = n := Nat.le_antisymm hi (Nat.not_lt.mp hlt)
    refine wpAny_bind (W.done s _ _ hst fun s' hm => ?_)
    show wpAny _ A.in1 (ret Value.none) _ _ s'
    have htk : ks.take i = ks := List.take_of_length_le (by omega)
    exact wpAny_pure (hR s' (hm.mono hsub) (by rw [htk] at hS; exact mv hm hS))
termination_by n - i
theorem set_call {E : Value → Shared → Prop} {s : Shared} {l : Addr} {items : Array Value} {ks : List Str} {Q : Value → Shared → Prop}
    (hh : A.handled = none) (hl : s.heap.IsList l items) (hi : StrsAre items.toList ks) (hb : items.size + 1 < scanBound)
    (h : ∀ (h' : Heap) (tk : Nat), h'.SetOf (strKind prog w) s.heap.objs.size (fun k' => decide (k' ∈ firsts ks)) (firsts ks).length →
      (∀ b o, b < s.heap.objs.size → s.heap.get? b = some o → h'.get? b = some o) → Q (.ref s.heap.objs.size) { s with heap := h', toks := tk }) :
    wpAny (model prog w) A (call (.type "set") [.ref l]) Q E s := by
  have hlen : ks.length = items.size := by rw [← strs_len hi, Array.length_toList]
  obtain ⟨c, tl, hmro⟩ := F.called_set.mro
  have hmade := F.called_set.made
  have hsub := F.called_set.sub
  have h1 := F.called_set.notType
  have h2 := F.called_set.canCreate
  have hct := F.typeCall_set_1 (.ref l)
  have hsls := F.sub_list_set
  have hslf := F.sub_list_frozenset
  have hne : (Value.type "list" == Value.type "dict") = false := by decide
  refine wpAny_call (codeAny_of_tree ?_)
  show wpAny _ _ (callAny (.type "set") _) _ _ _
  refine wpAny_pure ⟨Code.quiet_builtin _ (by decide +kernel), codeAny_builtin F.entry_type_call ?_⟩
  rw [Around.under_plain (weight_type_call_type "set" [.ref l] []) rfl]
  repeat (any_goals (first | assumption | wp_step))
  refine codeAny_mono (code_set_new_1 (.ref l) (E := E) (Q₁ := fun obj s₁ => ∃ led : Bool, obj = .ref s.heap.objs.size ∧ s₁ = { s with heap := s.heap.push { cls := .type "set", dict := none, data := .set #[] 0 (.fresh 0 0 led) } }) fun led => ⟨led, rfl, rfl⟩) fun r s₁ hr => ?_
  match r, hr with
  | .error e, hr => exact hr
  | .ok .next, hr => exact hr.elim
  | .ok .brk, hr => exact hr.elim
  | .ok .cont, hr => exact hr.elim
  | .ok (.ret obj), hr =>
    obtain ⟨led, rfl, rfl⟩ := hr
    obtain ⟨H1, hH1⟩ : ∃ H1, H1 = s.heap.push { cls := .type "set", dict := none, data := .set #[] 0 (.fresh 0 0 led) } := ⟨_, rfl⟩
    rw [← hH1]
    have hS : H1.get? s.heap.objs.size = some { cls := .type "set", dict := none, data := .set #[] 0 (.fresh 0 0 led) } := by rw [hH1]; exact Heap.get?_push_size _ rfl
    have hz : H1.objs.size = s.heap.objs.size + 1 := by rw [hH1, Heap.size_push]
    have up : ∀ b o, s.heap.get? b = some o → H1.get? b = some o := fun b o e => by rw [hH1]; exact Heap.get?_push_of_some _ e
    have hT : Shared.TypeIs { s with heap := H1 } (.ref s.heap.objs.size) "set" := ⟨_, hS, rfl⟩
    have hli := F.called_set.init.lookup
    have hbi := F.called_set.init.bind (.ref s.heap.objs.size)
    repeat (any_goals (first | assumption | wp_step))
    refine codeAny_mono (codeAny_call_builtin (R := wants (fun r s₂ => r = .none ∧ ∃ h' tk, s₂ = { s with heap := h', toks := tk } ∧ h'.SetOf (strKind prog w) s.heap.objs.size (fun k' => decide (k' ∈ firsts ks)) (firsts ks).length ∧
        (∀ b o, b < s.heap.objs.size → s.heap.get? b = some o → h'.get? b = some o)) E) F.called_set.init.plain F.entry_set_init (check_set_init_1 hT ?_)) fun r₂ s₂ hr₂ => ?_
    · obtain ⟨⟨ocls, odict, odata, oslots⟩, hol, hcl, nl, hdl⟩ := hl
      simp only at hcl hdl
      subst hcl; subst hdl
      have hlS : l < s.heap.objs.size := Heap.lt_size hol
      have hol' := up _ _ hol
      have hl1 : H1.IsList l items := ⟨_, hol', rfl, nl, rfl⟩
      unfold Builtin.«set.__init__» noKeywords Builtin.Frozenset.updateFrom
      generalize hPI : pyIter = PI
      wp_walk
      subst hPI
      refine wpAny_pyIter_list hl1 ?_
      refine wpAny_bind (wpAny_runValue ?_)
      have hh3 : A.in1.in1.in1.handled = none := by simp [hh]
      have hneI : l ≠ H1.objs.size := by rw [hz]; exact Nat.ne_of_lt (Nat.lt_succ_of_lt hlS)
      have hSf : s.heap.objs.size ∉ [H1.objs.size, l] := by
        rw [hz]; simp only [List.mem_cons, List.not_mem_nil, or_false, not_or]
        exact ⟨Nat.ne_of_lt (Nat.lt_succ_self _), Nat.ne_of_gt hlS⟩
      have hval : ∀ (i : Nat) (v : Value), items[i]? = some v → ∃ x t, v = .str x t ∧ ks[i]? = some x := fun i v hv => strs_get hi i v (by rw [Array.getElem?_toList]; exact hv)
      refine set_turns ((Walks.list hh3 _ l hneI items).toS) s.heap.objs.size hSf ks hlen hval hb 0 _ (Nat.zero_le _) ⟨⟨_, Heap.get?_push_size _ rfl, rfl, rfl⟩, (hl1.push _)⟩ ?_ ?_
      · exact setIs_congr ((PyProof.Rows.setObjOf_fresh (knd := strKind prog w) led).setOf (Heap.get?_push_of_some _ hS) (by unfold scanBound; omega)) (fun _ => by simp [firsts]) rfl
      · intro s' hm hS'
        obtain ⟨h', g', d', tk', os'⟩ := s'
        have eg : g' = s.gens := hm.gens
        have ed : d' = s.drawn := hm.drawn
        have eo : os' = s.os := hm.os
        subst eg; subst ed; subst eo
        show wpAny _ _ _ _ _ _
        refine wpAny_pure ?_
        show wpAny _ _ (ret Value.none) _ _ _
        refine wpAny_pure ⟨rfl, h', tk', rfl, hS', fun b o hb e => ?_⟩
        refine hm.heap b o ?_ (Heap.get?_push_of_some _ (up _ _ e))
        simp only [List.mem_cons, List.not_mem_nil, or_false, not_or]
        exact ⟨Nat.ne_of_lt hb, by rw [hz]; exact Nat.ne_of_lt (Nat.lt_succ_of_lt hb)⟩
    · match r₂, hr₂ with
      | .error e, hr₂ => exact hr₂
      | .ok .next, hr₂ => exact hr₂.elim
      | .ok .brk, hr₂ => exact hr₂.elim
      | .ok .cont, hr₂ => exact hr₂.elim
      | .ok (.ret r), hr₂ =>
        obtain ⟨rfl, h', tk, rfl, hS', hk'⟩ := hr₂
        repeat (any_goals (first | assumption | wp_step))
        exact h _ _ hS' hk'
end
section
variable {prog : Program} {w : World} {A : Around} {E : Value → Shared → Prop} {s : Shared} {h₀ : Heap} {L : Addr} {m : Str → Option Value} {news : List (Addr × Obj)}
theorem set_strs {l : Addr} {vs : List Value} {ks : List Str} {c : Nat} {Q : Value → Shared → Prop} (F : Fr h₀ L s.heap m) (N : News h₀ L s.heap news)
    (hh : A.handled = none) (hl : (l, listOf vs.toArray c) ∈ news) (hi : StrsAre vs ks) (h8 : vs.length ≤ 8)
    (h : ∀ a h' (tk : Nat) o, Fr h₀ L h' m → News h₀ L h' ((a, o) :: news) → o.SetObjOf (strKind prog w) (fun k' => decide (k' ∈ firsts ks)) (firsts ks).length → (∀ p ∈ news, p.1 < a) → Q (.ref a) { s with heap := h', toks := tk }) :
    wpAny (model prog w) A (call (.type "set") [.ref l]) Q E s := by
  refine set_call (items := vs.toArray) hh (News.isList N hl) (by simpa using hi) (by rw [List.size_toArray]; unfold scanBound; omega) fun h' tk hS hk => ?_
  obtain ⟨o, ho, hso⟩ := hS.objOf
  have hLlt : L < s.heap.objs.size := F.ns.lt
  have up : ∀ b o, s.heap.get? b = some o → h'.get? b = some o := fun b o e => hk b o (Heap.lt_size e) e
  refine h _ h' tk o ⟨F.ns.at' fun o' e => up L o' e, fun b o' e => up b o' (F.keep b o' e), F.above⟩ (List.forall_mem_cons.mpr ⟨⟨ho, Nat.ne_of_gt hLlt, ?_⟩, fun p hp => ⟨up _ _ (N p hp).1, (N p hp).2⟩⟩) hso fun p hp => Heap.lt_size (N p hp).1
  cases hq : h₀.get? s.heap.objs.size with
  | none => rfl
  | some o' => exact absurd (Heap.lt_size (F.keep _ _ hq)) (Nat.lt_irrefl _)
theorem len_set {a : Addr} {o : Obj} {S : Str → Bool} {n : Nat} {Q : Value → Shared → Prop} (N : News h₀ L s.heap news) (ha : (a, o) ∈ news) (hso : o.SetObjOf (strKind prog w) S n) (hn : n ≤ 100) (h : ∀ u tk, Q (.int (n : Int) u) { s with toks := tk }) :
    wpAny (model prog w) A (call (.builtin "len") [.ref a]) Q E s := by
  have N1 : News h₀ L s.heap [(a, o)] := List.forall_mem_cons.mpr ⟨N _ ha, List.forall_mem_nil _⟩
  exact len_sl1 (own := []) (rest := []) N1 hso (by omega) (h _ _)
end
section
variable {prog : Program} {w : World} {A : Around} {h₀ : Heap} {L : Addr} {m : Str → Option Value} {env : Env} {elt : Expr} {x : Str} {scope : Scope} {cl : List (Str × Addr)} {s : Shared} {S : List (Addr × Obj) → Prop} {P : Nat → Value → Prop} {Fin : List Value → List (Addr × Obj) → Prop}
open PyProof.Rows.LCg in
/-- the turns of a comprehension by what holds between them -/
theorem comp_ind (J : Nat → List Value → List (Addr × Obj) → Prop) (n : Nat) (fin : ∀ ys nw, J n ys nw → Fin ys nw)
    (step : ∀ i ys nw, i < n → J i ys nw → ∀ v I oI C oC D m₂ h tk (E' : Value → Shared → Prop), P i v → NsObj oC m₂ → m₂ x = some v → Fr h₀ L h m → News h₀ L h ((I, oI) :: (C, oC) :: (D, lst ys) :: nw) → Off3 I C D nw → ((@Ne Nat I C) ∧ (@Ne Nat I D) ∧ (@Ne Nat C D)) →
      wpAny (model prog w) A (eval elt (compEnvC scope cl C env)) (CompEnd h₀ L m { s with heap := h, toks := tk } I oI C oC D (lst ys) S (fun y nw' => J (i + 1) (ys ++ [y]) nw')) E' { s with heap := h, toks := tk }) :
    ∀ (k i : Nat) (ys : List Value) (nw : List (Addr × Obj)), i + k = n → J i ys nw → CompRest prog w A h₀ L m env elt x scope cl s S P Fin k i ys nw
  | 0, i, ys, nw, e, hJ => CompRest.zero (fin ys nw (by rw [← e]; exact hJ))
  | k + 1, i, ys, nw, e, hJ => CompRest.succ fun v I oI C oC D m₂ h tk E' hP hC hx F N off ne =>
      wpAny_mono (step i ys nw (by omega) hJ v I oI C oC D m₂ h tk E' hP hC hx F N off ne) (fun y s' ⟨h', tk', nw', e', F', N', o', hS', hJ'⟩ =>
        ⟨h', tk', nw', e', F', N', o', hS', comp_ind J n fin step k (i + 1) (ys ++ [y]) nw' (by omega) hJ'⟩) fun _ _ e => e
end
section
variable {prog : Program} {w : World} {A : Around} {h₀ : Heap} {L : Addr} {m : Str → Option Value} {env : Env} {ct elt : Expr} {x : Str} {scope : Scope} {cl : List (Str × Addr)} {s : Shared} {S : List (Addr × Obj) → Prop} {P : Nat → Value → Prop} {Fin : List Value → List (Addr × Obj) → Prop}
open PyProof.Rows.LCg in
/-- the turns of a comprehension whose test never holds -/
theorem comp_none (lo n : Nat) (nw : List (Addr × Obj)) (hS : S nw) (fin : Fin [] nw)
    (step : ∀ i, lo ≤ i → i < n → ∀ v I oI C oC D m₂ h tk (E' : Value → Shared → Prop) (Pq : Bool → Shared → Prop), P i v → NsObj oC m₂ → m₂ x = some v → Fr h₀ L h m → News h₀ L h ((I, oI) :: (C, oC) :: (D, lst []) :: nw) → Off3 I C D nw → ((@Ne Nat I C) ∧ (@Ne Nat I D) ∧ (@Ne Nat C D)) →
      (∀ (hh : Heap) (tk' : Nat), Fr h₀ L hh m → News h₀ L hh ((I, oI) :: (C, oC) :: (D, lst []) :: nw) → Pq false { s with heap := hh, toks := tk' }) →
      wpAny (model prog w) A (isTrue ct (compEnvC scope cl C env) (eval ct (compEnvC scope cl C env))) Pq E' { s with heap := h, toks := tk }) :
    ∀ (k i : Nat), lo ≤ i → i + k = n → LCt.CompRestT prog w A h₀ L m env ct elt x scope cl s S P Fin k i [] nw
  | 0, _, _, _ => LCt.CompRestT.zero fin
  | k + 1, i, hl, e => LCt.CompRestT.succ fun v I oI C oC D m₂ h tk E' hP hC hx F N off ne =>
      step i hl (by omega) v I oI C oC D m₂ h tk E' _ hP hC hx F N off ne (fun hh tk' F' N' => by
        rw [if_neg Bool.false_ne_true]
        exact ⟨hh, tk', nw, rfl, F', N', off, hS, comp_none lo n nw hS fin step k (i + 1) (by omega) (by omega)⟩)
end
theorem sg_app (a b : Str) : sg (a ++ b) = sg a ++ sg b := by
  show (a.cps ++ b.cps).toList = _
  rw [Array.toList_append]; rfl
abbrev menuN : List Str := [Str.ofString "a", Str.ofString "b", Str.ofString "c-1"]
abbrev menuG : List Str := [Str.ofString "", Str.ofString " ", Str.ofString "\n\t"]
abbrev menuE : List Str := [Str.ofString ")*", Str.ofString ")*", Str.ofString ")", Str.ofString "", Str.ofString "|)*", Str.ofString ",b)*"]
abbrev menuB : List Str := [Str.ofString "", Str.ofString "x", Str.ofString "*", Str.ofString " "]
theorem gap_sp {y : Str} (h : y ∈ menuG) : ∀ x ∈ sg y, isSp x = true := by
  simp only [menuG, List.mem_cons, List.not_mem_nil, or_false] at h
  rcases h with rfl | rfl | rfl <;> decide
theorem name_ok {y z x : Str} (hy : y ∈ menuG) (hz : z ∈ menuG) (hx : x ∈ menuN) : Piece.Ok ⟨sg y, sg x, sg z⟩ := by
  refine ⟨gap_sp hy, gap_sp hz, ?_, ?_⟩
  · simp only [menuN, List.mem_cons, List.not_mem_nil, or_false] at hx
    show ∀ c ∈ sg x, isPart c = true
    rcases hx with rfl | rfl | rfl <;> decide
  · simp only [menuN, List.mem_cons, List.not_mem_nil, or_false] at hx
    rcases hx with rfl | rfl | rfl
    · exact ⟨97, [], rfl, rfl⟩
    · exact ⟨98, [], rfl, rfl⟩
    · exact ⟨99, [45, 49], rfl, rfl⟩
theorem menu_len {x : Str} {ks : List Str} (h : x ∈ ks) (hk : ks.all (fun k => decide (k.length ≤ 4)) = true) : x.length ≤ 4 := of_decide_eq_true (List.all_eq_true.mp hk x h)
def endOk (e : List Nat) : Bool := match e with
  | 41 :: _ => true
  | 124 :: 41 :: _ => true
  | 44 :: _ => true
  | r => !r.contains 41
theorem endOk_is {e : List Nat} (h : endOk e = true) : (∃ r, e = 41 :: r) ∨ (∃ r, e = 124 :: 41 :: r) ∨ (∃ r, e = 44 :: r) ∨ 41 ∉ e := by
  unfold endOk at h
  split at h
  · exact .inl ⟨_, rfl⟩
  · exact .inr (.inl ⟨_, rfl⟩)
  · exact .inr (.inr (.inl ⟨_, rfl⟩))
  · refine .inr (.inr (.inr fun q => ?_))
    rw [List.contains_eq_mem, decide_eq_true q] at h; cases h
theorem ends_all {P : Str → Str → Bool} (h : menuE.all (fun x => menuB.all fun y => P x y) = true) {xa xb : Str} (ha : xa ∈ menuE) (hb : xb ∈ menuB) : P xa xb = true :=
  List.all_eq_true.mp (List.all_eq_true.mp h xa ha) xb hb
theorem end_ok {xa xb : Str} (ha : xa ∈ menuE) (hb : xb ∈ menuB) : endOk (sg (xa ++ xb)) = true := ends_all (P := fun x y => endOk (sg (x ++ y))) (by decide +kernel) ha hb
theorem end_low {xa xb : Str} (ha : xa ∈ menuE) (hb : xb ∈ menuB) : ∀ c ∈ sg (xa ++ xb), c < 128 := fun c hc => of_decide_eq_true (List.all_eq_true.mp (ends_all (P := fun x y => (sg (x ++ y)).all fun c => decide (c < 128)) (by decide +kernel) ha hb) c hc)
theorem end_0 {xa xb : Str} (ha : xa ∈ menuE) (hb : xb ∈ menuB) : (Txt.slice (xa ++ xb) none (some 1) == Str.ofString ")") = decide ((sg (xa ++ xb))[0]? = some 41) :=
  beq_iff_eq.mp (ends_all (P := fun x y => (Txt.slice (x ++ y) none (some 1) == Str.ofString ")") == decide ((sg (x ++ y))[0]? = some 41)) (by decide +kernel) ha hb)
theorem end_1 {xa xb : Str} (ha : xa ∈ menuE) (hb : xb ∈ menuB) : (Txt.slice (xa ++ xb) (some 1) (some 2) == Str.ofString "*") = decide ((sg (xa ++ xb))[1]? = some 42) :=
  beq_iff_eq.mp (ends_all (P := fun x y => (Txt.slice (x ++ y) (some 1) (some 2) == Str.ofString "*") == decide ((sg (x ++ y))[1]? = some 42)) (by decide +kernel) ha hb)
theorem name_str {x : Str} (hx : x ∈ menuN) : PyData.strOk x = true := of_decide_eq_true (p := PyData.strOk x = true) (by
  simp only [menuN, List.mem_cons, List.not_mem_nil, or_false] at hx
  rcases hx with rfl | rfl | rfl <;> decide +kernel)
theorem nodup_sg {ks : List Str} : (ks.map sg).Nodup ↔ ks.Nodup := by
  unfold List.Nodup
  rw [List.pairwise_map]
  exact ⟨fun h => h.imp fun hab q => hab (congrArg sg q), fun h => h.imp fun hab q => hab (sg_inj q)⟩
theorem foldl_addOne_nodup : ∀ (l σ : List Str), (l.foldl addOne σ).length = σ.length + l.length ↔ (l.Nodup ∧ ∀ x ∈ l, x ∉ σ)
  | [], σ => by simp
  | k :: r, σ => by
    have h1 := foldl_addOne_le r (addOne σ k)
    have h2 := foldl_addOne_nodup r (addOne σ k)
    simp only [List.foldl_cons, List.length_cons, List.nodup_cons, List.mem_cons, forall_eq_or_imp]
    by_cases hk : k ∈ σ
    · have e : addOne σ k = σ := if_pos hk
      rw [e] at h1 ⊢
      constructor
      · intro q; omega
      · rintro ⟨_, q, _⟩; exact absurd hk q
    · have e : addOne σ k = σ ++ [k] := if_neg hk
      rw [e] at h2 ⊢
      rw [show σ.length + (r.length + 1) = (σ ++ [k]).length + r.length from by simp; omega, h2]
      constructor
      · rintro ⟨a, b⟩
        refine ⟨⟨fun q => b k q (by simp), a⟩, hk, fun x hx q => b x hx (by simp [q])⟩
      · rintro ⟨⟨a, b⟩, _, c⟩
        refine ⟨b, fun x hx q => ?_⟩
        rcases List.mem_append.mp q with q | q
        · exact c x hx q
        · rw [List.mem_singleton.mp q] at hx; exact a hx
theorem firsts_nodup (ks : List Str) : (firsts ks).length = ks.length ↔ ks.Nodup := by
  have := foldl_addOne_nodup ks []
  simpa [firsts] using this
theorem drawn_due {Tx x0 xa xb : Str} {qs : List Piece} {ks : List Str} (h0 : x0 ∈ menuG) (hT : sg Tx = sg x0 ++ flats qs) (hq : ∀ q ∈ qs, q.Ok) (hn : qs.map (·.n) = ks.map sg) (ha : xa ∈ menuE) (hb : xb ∈ menuB) :
    mixed (sg (Tx ++ (xa ++ xb))) 0 = if (Txt.slice (xa ++ xb) none (some 1) == Str.ofString ")") = true ∧ ks.Nodup ∧ ((Txt.slice (xa ++ xb) (some 1) (some 2) == Str.ofString "*") = true ∨ ks = []) then
      some (Tx.length + 1 + (if (Txt.slice (xa ++ xb) (some 1) (some 2) == Str.ofString "*") = true then 1 else 0), ks.map sg) else none := by
  rw [sg_app, hT, mixed_drawn (gap_sp h0) hq (endOk_is (end_ok ha hb)), hn, ← hT, sg_len, end_0 ha hb, end_1 ha hb]
  have e1 : (qs = []) = (ks = []) := propext ⟨fun q => by rw [q] at hn; simpa using hn.symm, fun q => by rw [q] at hn; simpa using hn⟩
  simp only [nodup_sg, e1, decide_eq_true_eq]
theorem drawn_low {Tx x0 xa xb : Str} {qs : List Piece} (h0 : x0 ∈ menuG) (hT : sg Tx = sg x0 ++ flats qs) (hq : ∀ q ∈ qs, q.Ok) (ha : xa ∈ menuE) (hb : xb ∈ menuB) : ∀ z n : Nat, (sg (Tx ++ (xa ++ xb)))[n]? = some z → z < 128 := by
  have sp : ∀ c, isSp c = true → c < 128 := fun c h => by
    have h' : c = 32 ∨ c = 9 ∨ c = 10 ∨ c = 13 := by simpa [isSp] using h
    omega
  have pt : ∀ c, isPart c = true → c < 128 := fun c h => by
    simp only [isPart, isFirst, isLow, Bool.or_eq_true, Bool.and_eq_true, decide_eq_true_eq] at h
    omega
  intro z n h
  have hm := List.mem_of_getElem? h
  rw [sg_app, hT] at hm
  rcases List.mem_append.mp hm with hm | hm
  · rcases List.mem_append.mp hm with hm | hm
    · exact sp _ (gap_sp h0 _ hm)
    · obtain ⟨y, hy, hm⟩ := List.mem_flatten.mp hm
      obtain ⟨q, hqq, rfl⟩ := List.mem_map.mp hy
      have ok := hq q hqq
      unfold Piece.flat at hm
      rcases List.mem_cons.mp hm with z | hm
      · omega
      · rcases List.mem_append.mp hm with hm | hm
        · exact sp _ (ok.sp _ hm)
        · rcases List.mem_append.mp hm with hm | hm
          · exact pt _ (ok.part _ hm)
          · exact sp _ (ok.sp' _ hm)
  · exact end_low ha hb _ hm
theorem tabS_mono {l c : Int} {q : Str} {ps : Array Value} {a b : List (Addr × Obj)} (h : TabS l c q ps a) (hs : ∀ p ∈ a, p ∈ b) : TabS l c q ps b := by
  rcases h with h | ⟨c', oc, vs0, qt, e, hm, r⟩
  · exact .inl h
  · exact .inr ⟨c', oc, vs0, qt, e, hs _ hm, r⟩
theorem turn_upd2 {A : Around} {base h₀ h h' h1 : Heap} {outer : List Env} {L d d2 : Addr} {o o' o2 o2' : Obj} {news : List (Addr × Obj)} {g : Obj → List (Addr × Obj)} {gg : Obj → Obj → List (Addr × Obj)} (N : News h₀ L h news) (B : Below A base outer h₀) (U : UpdF d o news g) (V : ∀ o', UpdF d2 o2 (g o') (gg o')) (hne : d2 ≠ d) (TT : KtsTurn (outer.filterMap (·.frame)) h₀ h1)
    (K : ∀ b o, h.get? b = some o → b ∉ [d, d2] → b ∉ L :: outer.filterMap (·.frame) → h'.get? b = some o) (hd : h'.get? d = some o') (hd2 : h'.get? d2 = some o2') : News h1 L h' (gg o' o2') := fun p hp => by
  have q2 := UpdF.other U (V o') hne
  rcases UpdF.pick (V o') hp with rfl | ⟨hn, hne2⟩
  · exact ⟨hd2, (N _ q2).2.1, TT.none_ _ (N _ q2).2.2⟩
  · rcases UpdF.pick U hn with rfl | ⟨hn, hne1⟩
    · exact ⟨hd, (N _ (UpdF.mem U)).2.1, TT.none_ _ (N _ (UpdF.mem U)).2.2⟩
    · exact ⟨K _ _ (N p hn).1 (fun z => by rcases List.mem_cons.mp z with z | z; exact hne1 z; exact hne2 (List.mem_singleton.mp z)) (off_frames N B hn), (N p hn).2.1, TT.none_ _ (N p hn).2.2⟩
theorem nat_of {r b : Int} (_h1 : r < b) (h0 : 0 ≤ r) : ∃ n : Nat, r = n := ⟨r.toNat, by omega⟩
theorem strs_snoc1 {y : Str} {t : Tok} : ∀ {vs : List Value} {ks : List Str}, StrsAre vs ks → StrsAre (vs ++ [.str y t]) (ks ++ [y])
  | _, _, .nil => .cons y t .nil
  | _, _, .cons x u r => .cons x u (strs_snoc1 r)
local macro_rules | `(tactic| walk_at "call ref") => `(tactic| ((try dsimp only [List.append_nil, List.cons_append, List.nil_append]); (with_reducible show wpAny _ _ (call (Value.ref 318) [Value.ref _, Value.ref _]) _ _ _); k_dflt (refine' one_spec (by k_asm) (by k_asm) (by k_asm) (by k_asm) (by k_asm) rfl (by ktr_room) (by ktr_units) (by k_updF) (by k_mem) (by k_ne) (by first | assumption | (repeat constructor)) (by exact Nat.le_of_ble_eq_true rfl) (by exact Nat.le_of_ble_eq_true rfl) (by assumption) (by assumption) (by assumption) ?_; k_whole; (intro x1 hx1 h1 tk1 xt1 A1 ta1 C1 tc1 hA1 hC10 hC11 F1 N1 K1; have hxl1 := menu_len hx1 (by decide +kernel); (try dsimp only at N1); (try dsimp only)))))
section
variable {prog : Program} {w : World} {A : Around} {E : Value → Shared → Prop} {s : Shared} {h₀ : Heap} {L : Addr} {news : List (Addr × Obj)} {Q : Value → Shared → Prop}
theorem eq_nil {a b : Addr} {vs : List Value} {c c2 : Nat} (N : News h₀ L s.heap news) (ha : (a, listOf vs.toArray c) ∈ news) (hb : (b, listOf (List.toArray []) c2) ∈ news) (hu : A.units < cLine) (h : Q (.bool vs.isEmpty) s) : wpAny (model prog w) A (compareOp .Eq (.ref a) (.ref b)) Q E s := by
  cases vs with
  | nil => exact SeqAt.eq_listAt (e := fun _ => true) (News.isList N ha) (News.isList N hb) rfl hu (fun j h1 => by simp at h1) h
  | cons x r => exact SeqAt.eq_list_lengthsAt (News.isList N ha) (News.isList N hb) (by simp) hu h
end
local macro_rules | `(tactic| walk_at "compareOp Eq ref ref") => `(tactic| (k_here; k_dflt (refine' eq_nil (by k_asm) (by k_mem) (by k_mem) (by ktr_units) ?_)))
local macro_rules | `(tactic| walk_at "call type:set") => `(tactic| (k_here; (with_reducible show wpAny _ _ (call (Value.type "set") [Value.ref _]) _ _ _); k_dflt (refine' set_strs (by k_asm) (by k_asm) rfl (by k_mem) (by assumption) (by assumption) ?_; k_whole; intro a9 h9 tk9 o9 F9 N9 so9 l9; (try k_lt l9))))
local macro_rules | `(tactic| walk_at "call builtin:len") => `(tactic| (k_here; (with_reducible show wpAny _ _ (call (Value.builtin "len") [Value.ref _]) _ _ _); (with_reducible rename Obj.SetObjOf _ _ _ _ => hso); k_dflt (refine' len_set (by k_asm) (by k_mem) hso (by first | assumption | omega) ?_; k_whole; intro u9 k9)))
theorem mixed_pl {M : Model} {A : Around} {E : Value → Shared → Prop} {s : Shared} {Q : Value → Shared → Prop} {f a b : Value} {pl pl' : Int} {t : Tok} (e : pl = pl') (h : wpAny M A (call f [a, b, .int pl' t]) Q E s) : wpAny M A (call f [a, b, .int pl t]) Q E s := e ▸ h
abbrev starOf {xa xb : Str} (_ : xa ∈ menuE) (_ : xb ∈ menuB) : Nat := if (Txt.slice (xa ++ xb) (some 1) (some 2) == Str.ofString "*") = true then 1 else 0
abbrev condOf {xa xb : Str} (_ : xa ∈ menuE) (_ : xb ∈ menuB) (ks : List Str) : Prop := (Txt.slice (xa ++ xb) none (some 1) == Str.ofString ")") = true ∧ ks.Nodup ∧ ((Txt.slice (xa ++ xb) (some 1) (some 2) == Str.ofString "*") = true ∨ ks = [])
section
variable {w : World} {A₀ : Around} {E : Value → Shared → Prop} {s : Shared} {base h₀ : Heap} {outer : List Env} {L : Addr} {m : Str → Option Value} {news : List (Addr × Obj)}
  {p : Program} {loose : List Str} {mean : ExcName → Option Value} {mg mb : Str → Option Value} {dp un : Nat} {gd : Option (List Code)} {cn : Str} {cs : Scope} {a : Addr} {ccd : Value} {cl : List (Str × Addr)} {Q : Value → Shared → Prop}
  {l : Addr} {A C : Int} {ta tc : Tok} {ps : Array Value} {gP : Obj → List (Addr × Obj)} {gg : Obj → Obj → List (Addr × Obj)}

theorem drawn_spec (B : Below A₀ base outer h₀) (F : Fr h₀ L s.heap m) (X : (hd.heap_1 w.params).In h₀) (N : News h₀ L s.heap news) (T : Top p loose mean mg mb h₀) (hk : cs.kind = .function) (hdp : dp + 40 < recursionLimit) (hun : un + 3000 < cLine)
  (XB : (hd.heap_1 w.params).In base) (TB : Top p loose mean mg mb base)
  (UP : UpdF 341 (tabObj ps) news gP) (hps : TabS 200 22 qualM ps news) (V : ∀ o', UpdF l (listOf #[.int A ta, .int C tc] 0) (gP o') (gg o')) (hA : 0 ≤ A) (hC0 : 0 ≤ C) (hC1 : C < 2147483647)
  (ret : ∀ h' tk' h₁ c' oc vs0 qt A' ta' C' tc', 0 ≤ A' → 0 ≤ C' → C' < 2147483647 → KtsTurn (outer.filterMap (·.frame)) h₀ h₁ → Fr h₁ L h' m → Below A₀ base outer h₁ → (hd.heap_1 w.params).In h₁ → Top p loose mean mg mb h₁ → News h₁ L h' ((c', oc) :: gg (tabObj #[rawInt 200, rawInt 22, .ref c']) (listOf #[.int A' ta', .int C' tc'] 0)) →
    oc.data = .fields vs0 → (vs0[1]? : Option Value) = some (.str qualM qt) → (∀ b o, s.heap.get? b = some o → b ∉ [341, l] → b ∉ L :: outer.filterMap (·.frame) → h'.get? b = some o) → ((ps = #[] ∧ s.heap.objs.size ≤ c') ∨ ps = #[rawInt 200, rawInt 22, .ref c']) → Q (.bool true) { s with heap := h', toks := tk' }) :
  wpAny (model PySem.Challenge.rw_xw0208_01.row.prog w) (ktrTop dp un gd cn cs L a ccd cl outer) (call (.ref 351) [.ref l]) Q E s := by
  revert X XB; k_fill; intro X XB
  have hll : (l, listOf #[.int A ta, .int C tc] 0) ∈ news := by
    obtain ⟨pre, post, e, hg, z1, z2⟩ := UP.split
    have q := UpdF.mem (V (tabObj ps))
    rw [hg, ← e] at q; exact q
  have hl3 : @Ne Nat l 341 := News.apart N hll (UpdF.mem UP) (fun q => by have z := congrArg (fun o : Obj => o.cls) q; cases z)
  obtain ⟨ow, hps0, hpn, hp3, hpl⟩ : ∃ ow, TabS 200 22 qualM ps ow ∧ (∀ p ∈ ow, p ∈ news) ∧ (∀ p ∈ ow, p.1 ≠ 341) ∧ (∀ p ∈ ow, p.1 ≠ l) := by
    rcases hps with rfl | ⟨c', oc, vs0, qt, rfl, hcm, hoc, hq⟩
    · exact ⟨[], .inl rfl, (fun _ h => nomatch h), (fun _ h => nomatch h), (fun _ h => nomatch h)⟩
    · refine ⟨[(c', oc)], .inr ⟨c', oc, vs0, qt, rfl, .head _, hoc, hq⟩, fun p hp => ?_, fun p hp => ?_, fun p hp => ?_⟩
      · rw [List.mem_singleton.mp hp]; exact hcm
      · rw [List.mem_singleton.mp hp]
        refine News.apart N hcm (UpdF.mem UP) (fun q => ?_)
        rw [q] at hoc; cases hoc; cases hq
      · rw [List.mem_singleton.mp hp]
        exact News.apart N hcm hll (fun q => by rw [q] at hoc; cases hoc)
  have N₀ : News h₀ L s.heap ((l, listOf #[.int A ta, .int C tc] 0) :: (341, tabObj ps) :: ow) := cb_drop N (List.forall_mem_cons.mpr ⟨hll, List.forall_mem_cons.mpr ⟨UpdF.mem UP, hpn⟩⟩)
  k_dflt (refine' enterC B F X N₀ T hk ?k6 ?k7 ?k8 ?k9 ?kB ?kC ?_ ?c2 ?c3 ?c4; (case k6 => k_is); (case k7 => k_is); (case k8 => ktr_room); (case k9 => exact BindsTo.of_eq rfl); (case kB => exact kindsX rfl); (case kC => decide +kernel); (case c2 => exact rfl); (case c3 => exact rfl); (case c4 => exact rfl); k_whole; intro g' L' h' tk' cells' F' N' Y' B' X' T' K' S' l'; have oL : ∀ p ∈ ow, @LT.lt Nat _ (Prod.fst p) L' := fun p hp => l' p (.tail _ (.tail _ hp)); (try k_lt l'); k_cells Y'; (try simp only [List.cons_append, List.nil_append] at N'); (try dsimp only); (try k_fold))
  have C9 : CodeHd g' 345 341 := codeHd_of_K X' (by kernel_rfl)
  iterate 21 (first | walk1 | (dsimp only; walk1))
  rename_i _ _ r1 _ A1 ta1 C1 tc1 hr0 hr1 hA1 hC10 hC11 _ _ _ h9 tk9 _ _ _ R9 F9 N9 K9
  (with_reducible rename Obj.data _ = Data.cell _ => dS); rename Obj => oS
  obtain ⟨rn, rfl⟩ := nat_of hr1 hr0
  refine LCg.CompSrc.range (n := rn) rfl F9 N9 R9 (small_one (by omega) (by omega) (by omega) (by omega)) (by rw [rangeSize_nat]; omega) (by simp only [sizeLine_eq]; omega) fun g9 => ?_
  refine comp_ind (fun i ys nw => ∃ (A : Int) (ta : Tok) (C : Int) (tc : Tok) (ks : List Str), 0 ≤ A ∧ 0 ≤ C ∧ C < 2147483647 ∧ StrsAre ys ks ∧ ks.length = i ∧ (∀ x ∈ ks, x ∈ menuN) ∧ nw = (L' + 1, oS) :: (l, listOf #[.int A ta, .int C tc] 0) :: (341, tabObj ps) :: ow) rn ?fin ?step rn 0 [] _ (by omega) ⟨A1, ta1, C1, tc1, [], hA1, hC10, hC11, .nil, rfl, (fun _ h => nomatch h), rfl⟩
  case step =>
    rintro i ys nw hi ⟨A2, ta2, C2, tc2, ks2, hA2, hC20, hC21, hs2, hl2, hm2, rfl⟩ v I oI C5 oC D5 m2 hh5 tk5 E' hP hC hx F5 N5 off5 ne5
    have off6 := off5
    simp only [LCg.Off3] at off6
    k_steps
    rename_i x9 hx9 _ _ _ A9 ta9 C9 tc9 hA9 hC90 hC91 FZ NZ _ _
    exact LCg.CompEnd.intro FZ NZ ((L' + 1, oS) :: (l, listOf #[.int A9 ta9, .int C9 tc9] 0) :: (341, tabObj ps) :: ow) (fun p hp => List.mem_cons_of_mem _ hp) off5 trivial ⟨A9, ta9, C9, tc9, ks2 ++ [x9], hA9, hC90, hC91, strs_snoc1 hs2, by simp [hl2], fun x hx => (List.mem_append.mp hx).elim (hm2 x) (fun z => by rw [List.mem_singleton.mp z]; exact hx9), rfl⟩
  case fin =>
    rintro ys nw ⟨A2, ta2, C2, tc2, ks2, hA2, hC20, hC21, hs2, hl2, hm2, rfl⟩
    unfold LCg.FinE
    intro D9 hh9 tk9 F9 N9 o9
    have o8 := o9
    simp only [LCg.Off1] at o8
    have hyl : ys.length ≤ 3 := by have := StrsAre.length hs2; omega
    repeat ((fail_if_success (with_reducible show wpAny _ _ (pyIter _) _ _ _)); (first | walk1 | (dsimp only; walk1)))
    rename_i lg _ l18 Dt _ l17 _ _ _ _ x0 hx0 _ _ tx0 A3 ta3 C3 tc3 hA3 hC30 hC31 _ hxl0 h8 F8 N8
    (with_unfolding_all refine' For_invVF F8 ?k1 ?k2 ?_; (case k1 => exact rfl); (case k2 => exact rfl); k_whole)
    repeat ((fail_if_success (with_reducible show wpAny _ _ (pyIter _) _ _ _)); (first | walk1 | (dsimp only; walk1)))
    obtain ⟨M, hM, F7⟩ := fr_named F8
    have N7 : News g' L' h8 ([(lg, listOf #[.str (Str.ofString "") tk9, .str (Str.ofString " ") (tk9 + 1), .str (Str.ofString "\n\t") (tk9 + 1 + 1)] 0), (D9, listOf ys.toArray ys.length), (L' + 1, oS), (l, listOf #[.int A3 ta3, .int C3 tc3] 0), (341, tabObj ps)] ++ ow) := fun p hp => N8 p (.tail _ hp)
    refine kdl_iter (vs := ys) (nn := ys.length) (fun i m nx => ∃ (A : Int) (ta : Tok) (C : Int) (tc : Tok) (Tx : Str) (tT : Tok) (qs : List Piece), 0 ≤ A ∧ 0 ≤ C ∧ C < 2147483647 ∧ m (Str.ofString "text") = some (.str Tx tT) ∧ sg Tx = sg x0 ++ flats qs ∧ qs.map (·.n) = (ks2.take i).map sg ∧ (∀ q ∈ qs, q.Ok) ∧ Tx.length ≤ 4 + 13 * i ∧
        (∀ z, z ≠ Str.ofString "name" → z ≠ Str.ofString "text" → m z = M z) ∧ nx = [(lg, listOf #[.str (Str.ofString "") tk9, .str (Str.ofString " ") (tk9 + 1), .str (Str.ofString "\n\t") (tk9 + 1 + 1)] 0), (D9, listOf ys.toArray ys.length), (L' + 1, oS), (l, listOf #[.int A ta, .int C tc] 0), (341, tabObj ps)] ++ ow) rfl (.tail _ (.head _)) F7 N7
      ⟨A3, ta3, C3, tc3, x0, tx0, [], hA3, hC30, hC31, by rw [hM]; rfl, by simp [flats], rfl, (fun _ h => nomatch h), by omega, fun _ _ _ => rfl, rfl⟩ ?turn ?done
    case turn =>
      rintro i v m₁ nx hh tk own hv hoff hD ⟨A4, ta4, C4, tc4, Tx, tT, qs, hA4, hC40, hC41, hT, hsT, hqn, hqo, hTl, hM1, rfl⟩ F1 N1
      obtain ⟨xn, tn, rfl, hkx⟩ := strs_get hs2 i v hv
      have hxn := hm2 xn (List.mem_of_getElem? hkx)
      have hxnl : xn.length ≤ 4 := menu_len hxn (by decide +kernel)
      have hi3 : i < 3 := by have := (List.getElem?_eq_some_iff.mp hv).1; omega
      have od1 : ∀ p ∈ own, p.1 ≠ l := OwnOff.ne hoff (by simp)
      replace F1 := kst_fr (ps := [(Str.ofString "text", Value.str Tx tT)]) (stored := []) (m₀ := M) (List.forall_mem_cons.mpr ⟨hT, List.forall_mem_nil _⟩) (fun z n1 n2 _ => hM1 z n1 (n2 _ (.head _))) F1
      rw [List.append_assoc] at N1
      obtain ⟨ow3, how3⟩ : ∃ ow3, ow3 = ow ++ own := ⟨_, rfl⟩
      rw [← how3] at N1
      have oe1 : ∀ p ∈ ow3, p.1 ≠ l := fun p hp => by rw [how3] at hp; exact (List.mem_append.mp hp).elim (hpl p) (od1 p)
      subst hM
      simp only [List.cons_append, List.nil_append] at N1
      k_steps
      rename_i y1 hy1 _ _ _ _ _ _ _ _ _ _ _ hyl1 _ _ _ _ _ _ y2 hy2 _ _ _ A9 ta9 C9 tc9 hA9 hC90 hC91 _ hyl2 _ _ _ h9 FZ NZ
      have NZ' : News g' L' h9 ([(lg, listOf #[.str (Str.ofString "") tk9, .str (Str.ofString " ") (tk9 + 1), .str (Str.ofString "\n\t") (tk9 + 1 + 1)] 0), (D9, listOf ys.toArray ys.length), (L' + 1, oS), (l, listOf #[.int A9 ta9, .int C9 tc9] 0), (341, tabObj ps)] ++ ow3) := NZ
      refine ⟨_, _, _, _, [(lg, listOf #[.str (Str.ofString "") tk9, .str (Str.ofString " ") (tk9 + 1), .str (Str.ofString "\n\t") (tk9 + 1 + 1)] 0), (D9, listOf ys.toArray ys.length), (L' + 1, oS), (l, listOf #[.int A9 ta9, .int C9 tc9] 0), (341, tabObj ps)] ++ ow, rfl, FZ, NZ', fun p hp => (List.mem_append.mp hp).elim (fun z => List.mem_append_left _ z) (fun z => List.mem_append_right _ (by rw [how3]; exact List.mem_append_left _ z)), fun p hp => List.mem_append_right _ (by rw [how3]; exact List.mem_append_right _ hp), hoff, .tail _ (.head _),
        A9, ta9, C9, tc9, _, _, qs ++ [⟨sg y1, sg xn, sg y2⟩], hA9, hC90, hC91, rfl, ?_, ?_, ?_, ?_, ?_, rfl⟩
      · rw [flats_snoc]
        simp only [sg_app, hsT, Piece.flat, List.append_assoc]
        rfl
      · rw [List.take_add_one, hkx]; simp [hqn]
      · intro q hq
        rcases List.mem_append.mp hq with hq | hq
        · exact hqo q hq
        · rw [List.mem_singleton.mp hq]; exact name_ok hy1 hy2 hxn
      · have e1 : (Str.ofString "|").length = 1 := rfl
        simp only [strLen_append]; omega
      · intro z n1 n2
        simp only [n1, n2, if_false, kstB]
        rfl
    case done =>
      rintro m₁ nx hh tk ⟨A4, ta4, C4, tc4, Tx, tT, qs, hA4, hC40, hC41, hT, hsT, hqn, hqo, hTl, hM1, rfl⟩ F1 N1
      replace F1 := kst_frOut (x := Str.ofString "name") (ps := [(Str.ofString "text", Value.str Tx tT)]) (stored := []) (m₀ := M) (List.forall_mem_cons.mpr ⟨hT, List.forall_mem_nil _⟩) (fun z n1 n2 _ => hM1 z n1 (n2 _ (.head _))) F1
      subst hM
      have hTl2 : Tx.length ≤ 50 := by omega
      have hy8 : ys.length ≤ 8 := by omega
      have hf8 : (firsts ks2).length ≤ 100 := by have := firsts_le ks2; omega
      have hys := StrsAre.length hs2
      have hnd := firsts_nodup ks2
      have he3 : ys.isEmpty = true ↔ ks2 = [] := by rw [List.isEmpty_iff]; exact ⟨fun q => List.eq_nil_of_length_eq_zero (by rw [← hys, q]; rfl), fun q => List.eq_nil_of_length_eq_zero (by rw [hys, q]; rfl)⟩
      rw [List.take_of_length_le (Nat.le_of_eq hys.symm)] at hqn
      simp only [List.cons_append, List.nil_append] at N1
      repeat ((fail_if_success (with_reducible show wpAny _ _ (eval (Expr.BoolOp _ _ _) _) _ _ _)); (first | walk1 | (dsimp only; walk1)))
      (with_reducible rename Fr g' L' _ _ => F6); (with_reducible rename News g' L' _ _ => N6)
      (with_reducible rename _ ∈ [Str.ofString ")*", _, _, _, _, _] => hxa); (with_reducible rename _ ∈ [Str.ofString "", Str.ofString "x", _, _] => hxb)
      have due := drawn_due hx0 hsT hqo hqn hxa hxb
      have la := menu_len hxa (by decide +kernel)
      have lb := menu_len hxb (by decide +kernel)
      obtain ⟨m6, hm6, F7⟩ := fr_named F6
      obtain ⟨n6, hn6, N7⟩ : ∃ n6, n6 = _ ∧ News g' L' _ n6 := ⟨_, rfl, N6⟩
      obtain ⟨P2, hP2⟩ : ∃ P : Value → Shared → Prop, P = fun v s' => ∃ (b : Bool) (hh : Heap) (tk : Nat), v = .bool b ∧ s' = { s with heap := hh, toks := tk } ∧ Fr g' L' hh m6 ∧ News g' L' hh n6 ∧ (b = true ↔ condOf hxa hxb ks2) := ⟨_, rfl⟩
      refine wpAny_mono (Q := P2) ?ev ?go (fun _ _ h => h)
      case ev =>
        clear F6 N6
        subst hm6 hn6
        k_steps
        all_goals (rw [hP2])
        · (with_reducible rename (_ == Str.ofString ")") = true => q0); (with_reducible rename ((firsts ks2).length : Int) = _ => q2); (with_reducible rename News g' L' _ _ => NZ); (with_reducible rename (_ == Str.ofString "*") = true => q1)
          exact ⟨_, _, _, rfl, rfl, by assumption, by first | exact NZ | exact fun p hp => NZ p (.tail _ hp) | exact fun p hp => NZ p (.tail _ (.tail _ hp)) | exact fun p hp => NZ p (.tail _ (.tail _ (.tail _ hp))), ⟨fun _ => ⟨q0, hnd.mp (by omega), .inl q1⟩, fun _ => q1⟩⟩
        · (with_reducible rename (_ == Str.ofString ")") = true => q0); (with_reducible rename ((firsts ks2).length : Int) = _ => q2); (with_reducible rename News g' L' _ _ => NZ); (with_reducible rename (_ == Str.ofString "*") = false => q1)
          exact ⟨_, _, _, rfl, rfl, by assumption, by first | exact NZ | exact fun p hp => NZ p (.tail _ hp) | exact fun p hp => NZ p (.tail _ (.tail _ hp)) | exact fun p hp => NZ p (.tail _ (.tail _ (.tail _ hp))), ⟨fun z => ⟨q0, hnd.mp (by omega), .inr (he3.mp z)⟩, fun z => z.2.2.elim (fun y => Bool.noConfusion (q1.symm.trans y)) he3.mpr⟩⟩
        · (with_reducible rename ((firsts ks2).length : Int) ≠ _ => q2); (with_reducible rename News g' L' _ _ => NZ)
          exact ⟨_, _, _, rfl, rfl, by assumption, by first | exact NZ | exact fun p hp => NZ p (.tail _ hp) | exact fun p hp => NZ p (.tail _ (.tail _ hp)) | exact fun p hp => NZ p (.tail _ (.tail _ (.tail _ hp))), ⟨fun z => absurd (of_decide_eq_true z) q2, fun z => absurd (by have := hnd.mpr z.2.1; omega) q2⟩⟩
        · (with_reducible rename (_ == Str.ofString ")") = false => q0); (with_reducible rename News g' L' _ _ => NZ)
          exact ⟨_, _, _, rfl, rfl, by assumption, by first | exact NZ | exact fun p hp => NZ p (.tail _ hp) | exact fun p hp => NZ p (.tail _ (.tail _ hp)) | exact fun p hp => NZ p (.tail _ (.tail _ (.tail _ hp))), ⟨fun z => Bool.noConfusion (q0.symm.trans z), fun z => Bool.noConfusion (q0.symm.trans z.1)⟩⟩
      case go =>
        intro v s' hp; rw [hP2] at hp
        obtain ⟨b, hh, tk, rfl, rfl, F8, N8, hb⟩ := hp
        clear F6 N6 F7 N7
        subst hm6 hn6
        (try dsimp only)
        repeat ((fail_if_success (with_reducible show wpAny _ _ (eval (Expr.IfExp _ _ _ _) _) _ _ _)); (first | walk1 | (dsimp only; walk1)))
        (with_reducible rename Fr g' L' _ _ => F6); (with_reducible rename News g' L' _ _ => N6)
        obtain ⟨m6, hm6, F7⟩ := fr_named F6
        obtain ⟨n6, hn6, N7⟩ : ∃ n6, n6 = _ ∧ News g' L' _ n6 := ⟨_, rfl, N6⟩
        obtain ⟨P3, hP3⟩ : ∃ P : Value → Shared → Prop, P = fun v s' => ∃ (hh : Heap) (tk : Nat) (u : Tok), s' = { s with heap := hh, toks := tk } ∧ Fr g' L' hh m6 ∧ News g' L' hh n6 ∧ ((b = true ∧ v = .ref D9) ∨ (b = false ∧ v = .str (Str.ofString "refused") u)) := ⟨_, rfl⟩
        refine wpAny_mono (Q := P3) ?ev2 ?go2 (fun _ _ h => h)
        case ev2 =>
          clear F6 N6
          subst hm6 hn6
          cases b
          · k_steps
            rw [hP3]; exact ⟨_, _, _, rfl, by assumption, by assumption, .inr ⟨rfl, rfl⟩⟩
          · k_steps
            rw [hP3]; exact ⟨_, _, 0, rfl, by assumption, by assumption, .inl ⟨rfl, rfl⟩⟩
        case go2 =>
          intro v s' hp; rw [hP3] at hp
          obtain ⟨hh, tk, u, rfl, F8, N8, hv⟩ := hp
          clear F6 N6 F7 N7
          subst hm6 hn6
          (try dsimp only)
          repeat ((fail_if_success (with_reducible show wpAny _ _ (call (Value.ref 346) _) _ _ _)); (first | walk1 | (dsimp only; walk1)))
          (with_reducible rename Fr g' L' _ _ => FI); have hLt := FI.ns.lt
          rcases hv with ⟨hbt, rfl⟩ | ⟨hbf, rfl⟩
          · rw [if_pos (by exact hb.mp hbt)] at due
            refine mixed_pl (pl' := ((Tx.length + 1 + (starOf hxa hxb) : Nat) : Int)) (by unfold starOf; split <;> omega) ?_
            k_dflt (refine' mixed_yes ?B ?F ?X ?N ?T ?hk ?hd ?hun ?XB ?TB ?UP ?ps ?ht ?hA ?hdd ?hds ?hdl ?hok ?hy ?_; (case B => k_asm); (case F => k_asm); (case X => k_asm); (case N => k_asm); (case T => k_asm); (case hk => exact rfl); (case hd => ktr_room); (case hun => ktr_units); (case XB => assumption); (case TB => assumption); (case UP => k_updF); (case ps => exact tabS_mono hps0 (fun p hp => by (repeat apply List.mem_cons_of_mem); exact hp)); (case ht => rw [strLen_append, strLen_append]; omega); (case hA => exact drawn_low hx0 hsT hqo hxa hxb); (case hdd => k_mem); (case hds => exact hs2); (case hdl => omega); (case hok => exact fun x hx => name_str (hm2 x hx)); (case hy => exact due); k_whole)
            intro hh1 tkk1 hb1 c9 oc9 vs9 qt9 TU FZ BZ XZ TZ NZ hd9 hq9 KZ hs9
            obtain ⟨h1', TT, F8, N8, B8, K8⟩ := back_turn (cn := cn) (cs := cs) (a := a) (ccd := ccd) (cl := cl) B F N₀ K' TU FZ NZ
            have K7 := keepTurn (mods := [341, l]) N₀ N8 K8 (fun p hp hn => by
              rcases List.mem_cons.mp hp with rfl | hp
              · exact absurd (by simp) hn
              · rcases List.mem_cons.mp hp with rfl | hp
                · exact absurd (by simp) hn
                · (repeat apply List.mem_cons_of_mem); exact hp)
            have n341 := (N8 (341, _) (by k_mem)).1
            have nl := (N8 (l, listOf #[.int _ _, .int _ _] 0) (by k_mem)).1
            refine' ret _ _ h1' _ _ _ _ _ _ _ _ ?zA ?zB ?zC TT F8 B8 (XB.keeps B8.stays) (TB.keeps B8.stays) (List.forall_mem_cons.mpr ⟨N8 (c9, oc9) (.head _), turn_upd2 N B UP V hl3 TT K7 n341 nl⟩) hd9 hq9 K7 (hs9.imp (fun z => ⟨z.1, Nat.le_trans (Nat.le_trans S' (Nat.le_of_lt hLt)) z.2⟩) id)
            all_goals assumption
          · rw [if_neg (by exact fun z => Bool.noConfusion (hbf.symm.trans (hb.mpr z)))] at due
            k_dflt (refine' mixed_no ?B ?F ?X ?N ?T ?hk ?hd ?hun ?XB ?TB ?UP ?ps ?ht ?hA ?hy ?_; (case B => k_asm); (case F => k_asm); (case X => k_asm); (case N => k_asm); (case T => k_asm); (case hk => exact rfl); (case hd => ktr_room); (case hun => ktr_units); (case XB => assumption); (case TB => assumption); (case UP => k_updF); (case ps => exact tabS_mono hps0 (fun p hp => by (repeat apply List.mem_cons_of_mem); exact hp)); (case ht => rw [strLen_append, strLen_append]; omega); (case hA => exact drawn_low hx0 hsT hqo hxa hxb); (case hy => exact due); k_whole)
            intro hh1 tkk1 hb1 c9 oc9 vs9 qt9 TU FZ BZ XZ TZ NZ hd9 hq9 KZ hs9
            obtain ⟨h1', TT, F8, N8, B8, K8⟩ := back_turn (cn := cn) (cs := cs) (a := a) (ccd := ccd) (cl := cl) B F N₀ K' TU FZ NZ
            have K7 := keepTurn (mods := [341, l]) N₀ N8 K8 (fun p hp hn => by
              rcases List.mem_cons.mp hp with rfl | hp
              · exact absurd (by simp) hn
              · rcases List.mem_cons.mp hp with rfl | hp
                · exact absurd (by simp) hn
                · (repeat apply List.mem_cons_of_mem); exact hp)
            have n341 := (N8 (341, _) (by k_mem)).1
            have nl := (N8 (l, listOf #[.int _ _, .int _ _] 0) (by k_mem)).1
            refine' ret _ _ h1' _ _ _ _ _ _ _ _ ?zA ?zB ?zC TT F8 B8 (XB.keeps B8.stays) (TB.keeps B8.stays) (List.forall_mem_cons.mpr ⟨N8 (c9, oc9) (.head _), turn_upd2 N B UP V hl3 TT K7 n341 nl⟩) hd9 hq9 K7 (hs9.imp (fun z => ⟨z.1, Nat.le_trans (Nat.le_trans S' (Nat.le_of_lt hLt)) z.2⟩) id)
            all_goals assumption
end
theorem fr_unturn {h₀ h₁ h' : Heap} {L : Addr} {m : Str → Option Value} (T : KtsTurn [] h₀ h₁) (F : Fr h₁ L h' m) : Fr h₀ L h' m := ⟨F.ns, fun b o e => F.keep b o (T.other b o e List.not_mem_nil), by have := F.above; rw [T.size] at this; exact this⟩
theorem news_unturn {h₀ h₁ h' : Heap} {L : Addr} {news : List (Addr × Obj)} (T : KtsTurn [] h₀ h₁) (N : News h₁ L h' news) : News h₀ L h' news := fun p hp => ⟨(N p hp).1, (N p hp).2.1, by
  cases q : h₀.get? p.1 with
  | none => rfl
  | some o => have := T.other _ _ q List.not_mem_nil; rw [(N p hp).2.2] at this; cases this⟩
theorem updF_same {d : Addr} {o : Obj} {news : List (Addr × Obj)} {g : Obj → List (Addr × Obj)} (U : UpdF d o news g) : g o = news := by
  obtain ⟨pre, post, e, hg, _, _⟩ := U.split
  rw [hg, e]
theorem same_code {ps : Array Value} {l k : Int} {c c0 : Addr} {P : Prop} (h : (#[rawInt l, rawInt k, .ref c0] = (#[] : Array Value) ∧ P) ∨ (#[rawInt l, rawInt k, .ref c0] : Array Value) = #[rawInt l, rawInt k, .ref c]) : c0 = c := by
  rcases h with ⟨h, _⟩ | h
  · simp at h
  · simpa using h
theorem new_code {l k : Int} {c : Addr} {n : Nat} (h : ((#[] : Array Value) = #[] ∧ @LE.le Nat _ n c) ∨ (#[] : Array Value) = #[rawInt l, rawInt k, .ref c]) : @LE.le Nat _ n c := by
  rcases h with ⟨_, h⟩ | h
  · exact h
  · simp at h
section
variable {w : World} {A₀ : Around} {E : Value → Shared → Prop} {s : Shared} {h₀ : Heap} {L : Addr} {m : Str → Option Value} {news : List (Addr × Obj)}
  {p : Program} {loose : List Str} {mean : ExcName → Option Value} {mg mb : Str → Option Value} {dp un : Nat} {gd : Option (List Code)} {cn : Str} {cs : Scope} {a : Addr} {ccd : Value} {cl : List (Str × Addr)} {Q : Value → Shared → Prop}
  {tt dt plt : Tok} {t : Str} {pl : Int} {ps : Array Value} {gP : Obj → List (Addr × Obj)} {d : Addr} {dvs : List Value} {dks : List Str} {dc j0 : Nat} {c0 : Addr} {oc0 : Obj} {vs9 : Array Value} {qt9 : Tok} {l : Addr} {A C : Int} {ta tc : Tok} {gg : Obj → Obj → List (Addr × Obj)}
theorem signs_miss (B : Below A₀ h₀ [] h₀) (F : Fr h₀ L s.heap m) (X : (hd.heap_1 w.params).In h₀) (N : News h₀ L s.heap news) (T : Top p loose mean mg mb h₀) (hk : cs.kind = .function) (hdp : dp + 40 < recursionLimit) (hun : un + 3000 < cLine)
  (UP : UpdF 334 (tabObj #[]) news gP) (hlt : t.length ≤ 900)
  (ret : ∀ h' tk' c' oc vs0 qt, Fr h₀ L h' m → News h₀ L h' ((c', oc) :: gP (tabObj #[rawInt 189, rawInt 26, .ref c'])) → oc.data = .fields vs0 → (vs0[1]? : Option Value) = some (.str qualS qt) → (∀ p ∈ news, @LT.lt Nat _ (Prod.fst p) c') → Q (.bool true) { s with heap := h', toks := tk' }) :
  wpAny (model PySem.Challenge.rw_xw0208_01.row.prog w) (ktrTop dp un gd cn cs L a ccd cl []) (call (.ref 339) [.str t tt]) Q E s :=
  signs_spec B F X N T hk (by omega) (by omega) X T UP (.inl rfl) hlt fun h' tk' h₁ c' oc vs0 qt TT F' _ _ _ N' hd hq _ hs =>
    ret h' tk' c' oc vs0 qt (fr_unturn TT F') (news_unturn TT N') hd hq fun p hp => Nat.lt_of_lt_of_le (Heap.lt_size (N p hp).1) (new_code hs)
theorem yes_miss (B : Below A₀ h₀ [] h₀) (F : Fr h₀ L s.heap m) (X : (hd.heap_1 w.params).In h₀) (N : News h₀ L s.heap news) (T : Top p loose mean mg mb h₀) (hk : cs.kind = .function) (hdp : dp + 40 < recursionLimit) (hun : un + 3000 < cLine)
  (UP : UpdF 341 (tabObj #[]) news gP) (hlt : t.length ≤ 1000) (hA : ∀ z n : Nat, (sg t)[n]? = some z → z < 128) (hdd : (d, listOf (List.toArray dvs) dc) ∈ news) (hds : StrsAre dvs dks) (hdl : dvs.length ≤ 1000) (hok : ∀ x ∈ dks, PyData.strOk x = true) (hyes : mixed (sg t) 0 = some (j0, dks.map sg)) (hpl : (j0 : Int) = pl)
  (ret : ∀ h' tk' c' oc vs0 qt, Fr h₀ L h' m → News h₀ L h' ((c', oc) :: gP (tabObj #[rawInt 200, rawInt 22, .ref c'])) → oc.data = .fields vs0 → (vs0[1]? : Option Value) = some (.str qualM qt) → (∀ p ∈ news, @LT.lt Nat _ (Prod.fst p) c') → Q (.bool true) { s with heap := h', toks := tk' }) :
  wpAny (model PySem.Challenge.rw_xw0208_01.row.prog w) (ktrTop dp un gd cn cs L a ccd cl []) (call (.ref 346) [.str t tt, .ref d, .int pl plt]) Q E s :=
  hpl ▸ mixed_yes B F X N T hk (by omega) (by omega) X T UP (.inl rfl) hlt hA hdd hds hdl hok hyes fun h' tk' h₁ c' oc vs0 qt TT F' _ _ _ N' hd hq _ hs =>
    ret h' tk' c' oc vs0 qt (fr_unturn TT F') (news_unturn TT N') hd hq fun p hp => Nat.lt_of_lt_of_le (Heap.lt_size (N p hp).1) (new_code hs)
theorem drawn_hit (B : Below A₀ h₀ [] h₀) (F : Fr h₀ L s.heap m) (X : (hd.heap_1 w.params).In h₀) (N : News h₀ L s.heap news) (T : Top p loose mean mg mb h₀) (hk : cs.kind = .function) (hdp : dp + 40 < recursionLimit) (hun : un + 3000 < cLine)
  (UP : UpdF 341 (tabObj #[rawInt 200, rawInt 22, .ref c0]) news gP) (hm : (c0, oc0) ∈ news) (hd0 : oc0.data = .fields vs9) (hq0 : (vs9[1]? : Option Value) = some (.str qualM qt9)) (V : ∀ o', UpdF l (listOf #[.int A ta, .int C tc] 0) (gP o') (gg o')) (hA : 0 ≤ A) (hC0 : 0 ≤ C) (hC1 : C < 2147483647)
  (ret : ∀ h' tk' A' ta' C' tc', 0 ≤ A' → 0 ≤ C' → C' < 2147483647 → Fr h₀ L h' m → News h₀ L h' (gg (tabObj #[rawInt 200, rawInt 22, .ref c0]) (listOf #[.int A' ta', .int C' tc'] 0)) → Q (.bool true) { s with heap := h', toks := tk' }) :
  wpAny (model PySem.Challenge.rw_xw0208_01.row.prog w) (ktrTop dp un gd cn cs L a ccd cl []) (call (.ref 351) [.ref l]) Q E s :=
  drawn_spec B F X N T hk hdp hun X T UP (.inr ⟨c0, oc0, vs9, qt9, rfl, hm, hd0, hq0⟩) V hA hC0 hC1 fun h' tk' h₁ c' oc vs0 qt A' ta' C' tc' a1 a2 a3 TT F' _ _ _ N' hd hq _ hs => by
    obtain rfl := same_code (ps := #[]) hs
    exact ret h' tk' A' ta' C' tc' a1 a2 a3 (fr_unturn TT F') fun p hp => news_unturn TT N' p (.tail _ hp)
end
section
variable {h₀ h h' : Heap} {L P l : Addr} {o : Obj} {news : List (Addr × Obj)}
theorem news_hold (N : News h₀ L h news) (hT : (P, o) ∈ news) (hP : h'.get? P = some o) (K : ∀ b o, h.get? b = some o → b ∉ [P] → b ∉ L :: ([] : List Env).filterMap (·.frame) → h'.get? b = some o) : News h₀ L h' news := fun p hp => by
  obtain ⟨g, n1, n2⟩ := N p hp
  refine ⟨?_, n1, n2⟩
  by_cases q : p.1 = P
  · have z := (N _ hT).1
    rw [← q, g] at z; cases z
    rw [q]; exact hP
  · exact K _ _ g (by simpa using q) (by simpa using n1)
end
section
variable {w : World} {A₀ : Around} {E : Value → Shared → Prop} {s : Shared} {h₀ : Heap} {L : Addr} {m : Str → Option Value} {news : List (Addr × Obj)}
  {p : Program} {loose : List Str} {mean : ExcName → Option Value} {mg mb : Str → Option Value} {dp un : Nat} {gd : Option (List Code)} {cn : Str} {cs : Scope} {a : Addr} {ccd : Value} {cl : List (Str × Addr)} {Q : Value → Shared → Prop}
  {tt dt plt : Tok} {t : Str} {pl : Int} {d : Addr} {dvs : List Value} {dks : List Str} {dc j0 : Nat} {c0 : Addr} {oc0 : Obj} {vs9 : Array Value} {qt9 : Tok}
theorem signs_hit (B : Below A₀ h₀ [] h₀) (F : Fr h₀ L s.heap m) (X : (hd.heap_1 w.params).In h₀) (N : News h₀ L s.heap news) (T : Top p loose mean mg mb h₀) (hk : cs.kind = .function) (hdp : dp + 40 < recursionLimit) (hun : un + 3000 < cLine)
  (hT : (334, tabObj #[rawInt 189, rawInt 26, .ref c0]) ∈ news) (hm : (c0, oc0) ∈ news) (hd0 : oc0.data = .fields vs9) (hq0 : (vs9[1]? : Option Value) = some (.str qualS qt9)) (hlt : t.length ≤ 900)
  (ret : ∀ h' tk', Fr h₀ L h' m → News h₀ L h' news → Q (.bool true) { s with heap := h', toks := tk' }) :
  wpAny (model PySem.Challenge.rw_xw0208_01.row.prog w) (ktrTop dp un gd cn cs L a ccd cl []) (call (.ref 339) [.str t tt]) Q E s := by
  have ne : @Ne Nat c0 334 := News.apart N hm hT (fun q => by rw [q] at hd0; cases hd0; cases hq0)
  have N₁ : News h₀ L s.heap [(334, tabObj #[rawInt 189, rawInt 26, .ref c0]), (c0, oc0)] := cb_drop N (List.forall_mem_cons.mpr ⟨hT, List.forall_mem_cons.mpr ⟨hm, List.forall_mem_nil _⟩⟩)
  exact signs_spec B F X N₁ T hk (by omega) (by omega) X T (UpdF.head (List.forall_mem_cons.mpr ⟨ne, List.forall_mem_nil _⟩)) (.inr ⟨c0, oc0, vs9, qt9, rfl, .tail _ (.head _), hd0, hq0⟩) hlt fun h' tk' h₁ c' oc vs0 qt TT F' _ _ _ N' hd hq K hs => by
    obtain rfl := same_code (ps := #[]) hs
    exact ret h' tk' (fr_unturn TT F') (news_hold N hT (N' (334, _) (.tail _ (.head _))).1 K)
theorem no_hit (B : Below A₀ h₀ [] h₀) (F : Fr h₀ L s.heap m) (X : (hd.heap_1 w.params).In h₀) (N : News h₀ L s.heap news) (T : Top p loose mean mg mb h₀) (hk : cs.kind = .function) (hdp : dp + 40 < recursionLimit) (hun : un + 3000 < cLine)
  (hT : (341, tabObj #[rawInt 200, rawInt 22, .ref c0]) ∈ news) (hm : (c0, oc0) ∈ news) (hd0 : oc0.data = .fields vs9) (hq0 : (vs9[1]? : Option Value) = some (.str qualM qt9)) (hlt : t.length ≤ 1000) (hA : ∀ z n : Nat, (sg t)[n]? = some z → z < 128) (hno : mixed (sg t) 0 = none)
  (ret : ∀ h' tk', Fr h₀ L h' m → News h₀ L h' news → Q (.bool true) { s with heap := h', toks := tk' }) :
  wpAny (model PySem.Challenge.rw_xw0208_01.row.prog w) (ktrTop dp un gd cn cs L a ccd cl []) (call (.ref 346) [.str t tt, .str (Str.ofString "refused") dt, .int pl plt]) Q E s := by
  have ne : @Ne Nat c0 341 := News.apart N hm hT (fun q => by rw [q] at hd0; cases hd0; cases hq0)
  have N₁ : News h₀ L s.heap [(341, tabObj #[rawInt 200, rawInt 22, .ref c0]), (c0, oc0)] := cb_drop N (List.forall_mem_cons.mpr ⟨hT, List.forall_mem_cons.mpr ⟨hm, List.forall_mem_nil _⟩⟩)
  exact mixed_no B F X N₁ T hk (by omega) (by omega) X T (UpdF.head (List.forall_mem_cons.mpr ⟨ne, List.forall_mem_nil _⟩)) (.inr ⟨c0, oc0, vs9, qt9, rfl, .tail _ (.head _), hd0, hq0⟩) hlt hA hno fun h' tk' h₁ c' oc vs0 qt TT F' _ _ _ N' hd hq K hs => by
    obtain rfl := same_code (ps := #[]) hs
    exact ret h' tk' (fr_unturn TT F') (news_hold N hT (N' (341, _) (.tail _ (.head _))).1 K)
theorem yes_hit (B : Below A₀ h₀ [] h₀) (F : Fr h₀ L s.heap m) (X : (hd.heap_1 w.params).In h₀) (N : News h₀ L s.heap news) (T : Top p loose mean mg mb h₀) (hk : cs.kind = .function) (hdp : dp + 40 < recursionLimit) (hun : un + 3000 < cLine)
  (hT : (341, tabObj #[rawInt 200, rawInt 22, .ref c0]) ∈ news) (hm : (c0, oc0) ∈ news) (hd0 : oc0.data = .fields vs9) (hq0 : (vs9[1]? : Option Value) = some (.str qualM qt9)) (hlt : t.length ≤ 1000) (hA : ∀ z n : Nat, (sg t)[n]? = some z → z < 128) (hdd : (d, listOf (List.toArray dvs) dc) ∈ news) (hds : StrsAre dvs dks) (hdl : dvs.length ≤ 1000) (hok : ∀ x ∈ dks, PyData.strOk x = true) (hyes : mixed (sg t) 0 = some (j0, dks.map sg)) (hpl : (j0 : Int) = pl)
  (ret : ∀ h' tk', Fr h₀ L h' m → News h₀ L h' news → Q (.bool true) { s with heap := h', toks := tk' }) :
  wpAny (model PySem.Challenge.rw_xw0208_01.row.prog w) (ktrTop dp un gd cn cs L a ccd cl []) (call (.ref 346) [.str t tt, .ref d, .int pl plt]) Q E s := by
  have ne : @Ne Nat c0 341 := News.apart N hm hT (fun q => by rw [q] at hd0; cases hd0; cases hq0)
  have ne2 : @Ne Nat d 341 := News.apart N hdd hT (fun q => by have z := congrArg (fun o : Obj => o.cls) q; cases z)
  have N₁ : News h₀ L s.heap [(341, tabObj #[rawInt 200, rawInt 22, .ref c0]), (c0, oc0), (d, listOf (List.toArray dvs) dc)] := cb_drop N (List.forall_mem_cons.mpr ⟨hT, List.forall_mem_cons.mpr ⟨hm, List.forall_mem_cons.mpr ⟨hdd, List.forall_mem_nil _⟩⟩⟩)
  exact hpl ▸ mixed_yes B F X N₁ T hk (by omega) (by omega) X T (UpdF.head (List.forall_mem_cons.mpr ⟨ne, List.forall_mem_cons.mpr ⟨ne2, List.forall_mem_nil _⟩⟩)) (.inr ⟨c0, oc0, vs9, qt9, rfl, .tail _ (.head _), hd0, hq0⟩) hlt hA (.tail _ (.tail _ (.head _))) hds hdl hok hyes fun h' tk' h₁ c' oc vs0 qt TT F' _ _ _ N' hd hq K hs => by
    obtain rfl := same_code (ps := #[]) hs
    exact ret h' tk' (fr_unturn TT F') (news_hold N hT (N' (341, _) (.tail _ (.head _))).1 K)
end
theorem okP (g n g' : List Nat) (h : (g.all isSp && g'.all isSp && n.all isPart && (match n with | c :: _ => isFirst c | [] => false)) = true) : Piece.Ok ⟨g, n, g'⟩ := by
  simp only [Bool.and_eq_true, List.all_eq_true] at h
  refine ⟨h.1.1.1, h.1.1.2, h.1.2, ?_⟩
  have h2 := h.2
  cases n with
  | nil => cases h2
  | cons c r => exact ⟨c, r, rfl, h2⟩
theorem low_of {t : Str} (h : (sg t).all (fun c => decide (c < 128)) = true) : ∀ z n : Nat, (sg t)[n]? = some z → z < 128 := fun z n hz => of_decide_eq_true (List.all_eq_true.mp h z (List.mem_of_getElem? hz))
theorem due_1 : mixed (sg (Str.ofString "|a | b)*")) 0 = some (8, [Str.ofString "a", Str.ofString "b"].map sg) := by
  have := mixed_drawn (g0 := []) (e := [41, 42]) (qs := [⟨[], [97], [32]⟩, ⟨[32], [98], []⟩]) (by simp) (by simp only [List.forall_mem_cons]; exact ⟨okP _ _ _ rfl, okP _ _ _ rfl, by simp⟩) (.inl ⟨_, rfl⟩)
  exact this
theorem due_2 : mixed (sg (Str.ofString ")")) 0 = some (1, ([] : List Str).map sg) := by
  have := mixed_drawn (g0 := []) (e := [41]) (qs := []) (by simp) (by simp) (.inl ⟨_, rfl⟩)
  exact this
theorem due_3 : mixed (sg (Str.ofString " )*x")) 0 = some (3, ([] : List Str).map sg) := by
  have := mixed_drawn (g0 := [32]) (e := [41, 42, 120]) (qs := []) (by simp [isSp]) (by simp) (.inl ⟨_, rfl⟩)
  exact this
theorem due_4 : mixed (sg (Str.ofString "|a)")) 0 = none := by
  have := mixed_drawn (g0 := []) (e := [41]) (qs := [⟨[], [97], []⟩]) (by simp) (by simp only [List.forall_mem_cons]; exact ⟨okP _ _ _ rfl, by simp⟩) (.inl ⟨_, rfl⟩)
  exact this
theorem due_5 : mixed (sg (Str.ofString "|a|a)*")) 0 = none := by
  have := mixed_drawn (g0 := []) (e := [41, 42]) (qs := [⟨[], [97], []⟩, ⟨[], [97], []⟩]) (by simp) (by simp only [List.forall_mem_cons]; exact ⟨okP _ _ _ rfl, okP _ _ _ rfl, by simp⟩) (.inl ⟨_, rfl⟩)
  exact this
theorem due_6 : mixed (sg (Str.ofString "|)*")) 0 = none := by
  have := mixed_drawn (g0 := []) (e := [124, 41, 42]) (qs := []) (by simp) (by simp) (.inr (.inl ⟨_, rfl⟩))
  exact this
theorem due_7 : mixed (sg (Str.ofString "a)*")) 0 = none := by
  have s0 : skip (sg (Str.ofString "a)*")) 0 = 0 := rfl
  unfold mixed
  rw [s0, mix_end (by decide)]
  rfl
theorem due_8 : mixed (sg (Str.ofString "|a")) 0 = none := none_41 (by decide) 0
theorem sub_rot {a b c x : Addr × Obj} {r : List (Addr × Obj)} : ∀ p ∈ a :: b :: c :: x :: r, p ∈ x :: a :: b :: c :: r := by
  intro p hp
  simp only [List.mem_cons] at hp ⊢
  rcases hp with h | h | h | h | h <;> simp [h]
section
variable {prog : Program} {w : World} {A : Around} {E : Value → Shared → Prop} {s : Shared} {h₀ : Heap} {L : Addr} {news : List (Addr × Obj)} {Q : Value → Shared → Prop} {m : Str → Option Value}
theorem ne_nil {a b : Addr} {c c2 : Nat} (N : News h₀ L s.heap news) (ha : (a, listOf (List.toArray []) c) ∈ news) (hb : (b, listOf (List.toArray []) c2) ∈ news) (hu : A.units < cLine) (h : Q (.bool false) s) : wpAny (model prog w) A (compareOp .NotEq (.ref a) (.ref b)) Q E s :=
  SeqAt.RcNeAt.lists (e := fun _ => true) (News.isList N ha) (News.isList N hb) rfl hu (fun j h1 => by simp at h1) prog w E Q h
theorem join_is (sep : Str) (ks : List Str) : Txt.join sep ks = Str.join sep ks := beq_iff_eq.mp (join_plain_closes sep ks)
theorem sum_len : ∀ (ks : List Str), (∀ x ∈ ks, x.length ≤ 4) → (ks.map (·.length)).sum ≤ 4 * ks.length
  | [], _ => by simp
  | x :: r, h => by
    have h1 := h x (.head _)
    have h2 := sum_len r fun z hz => h z (.tail _ hz)
    simp only [List.map_cons, List.sum_cons, List.length_cons]; omega
theorem join_strs {l : Addr} {vs : List Value} {ks : List Str} {c : Nat} {t : Tok} (N : News h₀ L s.heap news) (hl : (l, listOf vs.toArray c) ∈ news) (hi : StrsAre vs ks) (hk : ∀ x ∈ ks, x.length ≤ 4) (hn : ks.length ≤ 10)
    (h : ∀ x t' k, Str.length x ≤ 40 → Q (.str x t') { s with toks := k }) : wpAny (model prog w) A (call (.builtin "str.join") [.str (Str.ofString "") t, .ref l]) Q E s := by
  refine join_listW (News.isList N hl) (by simpa using hi) (by decide) (by have := sum_len ks hk; omega) fun t' k => h _ t' k ?_
  rw [join_is]
  have h1 := StrLaws.join_length_le (Str.ofString "") ks
  have h2 := sum_len ks hk
  have h3 : (Str.ofString "").length = 0 := rfl
  rw [h3] at h1
  omega
end
local macro_rules | `(tactic| walk_at "subscriptTail") => `(tactic| (k_here; k_dflt (refine' item_tupleT (by exact News.isTup (by k_asm) (by k_mem)) (by decide) (by decide) rfl rfl ?_; k_whole)))
local macro_rules | `(tactic| walk_at "ite") => `(tactic| first | rw [if_neg (by decide)] | rw [if_pos (by decide)])
local macro_rules | `(tactic| walk_at "CompSrcT") => `(tactic| (k_here; k_dflt (refine LCt.CompSrcT.ledger (by rfl) (by k_asm) (by k_asm) (by k_mem) (by first | size_fits | exact Nat.le_of_ble_eq_true rfl) ?_; intro g'; (try simp only [List.size_toArray, List.length_cons, List.length_nil, Nat.reduceAdd, Nat.zero_add]))))
local macro_rules | `(tactic| walk_at "compareOp NotEq ref ref") => `(tactic| (k_here; k_dflt (refine' ne_nil (by k_asm) (by k_mem) (by k_mem) (by ktr_units) ?_)))
theorem law_holds : PySem.Challenge.rw_xw0208_01.Holds := by
  refine holds_law head_ok fun said => ?_
  refine W.holds_open (q := V) (loose := [Str.ofString "DtdFault"]) (Xt := fun s => xlAt V [] s && recOk (RowW.records PySem.Challenge.rw_xw0208_01.row.toRowW) s) (XP := XL V []) (Yf := Hook.obs (kmHook hd.heap_1 tops tops_are [341, 334])) (Ya := Hook.val (kmHook hd.heap_1 tops tops_are [341, 334])) (YP := Hook.says (kmHook hd.heap_1 tops tops_are [341, 334])) (N := 4466) head_left (Hook.of (kmHook hd.heap_1 tops tops_are [341, 334])) (Hook.keeps (kmHook hd.heap_1 tops tops_are [341, 334])) (fun s e => xl_of s (Bool.and_eq_true_iff.mp e).1) XL.keeps (by rfl) (by rfl) (by rfl) (fun s e => recFacts_of (Bool.and_eq_true_iff.mp e).2) (by rfl) (by first | assumption | decide +kernel) (by decide +kernel) ⟨rfl, rfl, rfl, rfl, rfl, by decide +kernel⟩ ?hw ?hc
  case hw => w_witness2
  clear said
  k_go0
  (with_reducible rename Fr _ _ _ _ => FF)
  have FF1 : Fr _ _ _ (fun y => if y = Str.ofString "script" then some _ else none) := FF
  clear FF
  (with_reducible rename Dflts _ _ _ _ _ _ => z1); clear z1
  (with_reducible rename Heap.CodeRec _ _ _ => z3); clear z3
  (with_reducible rename CellsAre _ _ _ => z2); clear z2
  (with_reducible rename Obj.data _ = Data.cell _ => dcc)
  obtain ⟨vcc, dcc2⟩ : ∃ v, Obj.data _ = Data.cell v := ⟨_, dcc⟩
  clear dcc
  (try dsimp only)
  (with_reducible rename Top topProg _ _ _ _ _ => TT0)
  obtain ⟨lo, TT1⟩ : ∃ lo, Top topProg lo _ _ _ _ := ⟨_, TT0⟩
  clear TT0
  (with_reducible rename Top V _ _ _ _ _ => z4); clear z4
  (try ((with_reducible rename TopE _ _ _ _ => z5); clear z5))
  (try ((with_reducible rename TopW _ _ _ => z6); clear z6))
  (try ((with_reducible rename Tables _ _ _ _ => z7); clear z7))
  (try ((with_reducible rename Flt.MathXP _ _ _ => z8); clear z8))
  (try ((with_reducible rename Ground _ _ _ _ _ _ _ _ _ => z9); clear z9))
  (try ((with_reducible rename Hook.says _ _ _ => z10); clear z10))
  generalize ghostOf _ _ = GH at *
  rename Shared => s1
  repeat ((fail_if_success (with_reducible show wpAny _ _ (call (Value.ref 332) [Value.str _ _]) _ _ _)); (first | walk1 | (dsimp only; walk1)))
  k_dflt (refine' marks_spec (by k_asm) (by k_asm) (by k_asm) (by k_asm) (by k_asm) rfl (by decide) (by first | assumption | exact Nat.le_of_ble_eq_true rfl | omega) ?_; k_whole; intro h1 tk1 F1 N1 K1)
  repeat ((fail_if_success (with_reducible show wpAny _ _ (call (Value.ref 339) [Value.str _ _]) _ _ _)); (first | walk1 | (dsimp only; walk1)))
  k_dflt (refine' signs_miss (by k_asm) (by k_asm) (by k_asm) (by k_asm) (by k_asm) rfl (by decide) (by decide) (by k_updF) (by first | assumption | exact Nat.le_of_ble_eq_true rfl | omega) ?_; k_whole; (intro h1 tk1 c1 oc1 vs1 qt1 F1 N1 hd1 hq1 l1; (try dsimp only at N1); (try k_lt l1)))
  repeat ((fail_if_success (with_reducible show wpAny _ _ (call (Value.ref 339) [Value.str _ _]) _ _ _)); (first | walk1 | (dsimp only; walk1)))
  k_dflt (refine' signs_hit (by k_asm) (by k_asm) (by k_asm) (by k_asm) (by k_asm) rfl (by decide) (by decide) (by k_mem) (by k_mem) (by with_reducible assumption) (by with_reducible assumption) (by first | assumption | exact Nat.le_of_ble_eq_true rfl | omega) ?_; k_whole; (intro h1 tk1 F1 N1))
  repeat ((fail_if_success (with_reducible show wpAny _ _ (call (Value.ref 339) [Value.str _ _]) _ _ _)); (first | walk1 | (dsimp only; walk1)))
  k_dflt (refine' signs_hit (by k_asm) (by k_asm) (by k_asm) (by k_asm) (by k_asm) rfl (by decide) (by decide) (by k_mem) (by k_mem) (by with_reducible assumption) (by with_reducible assumption) (by first | assumption | exact Nat.le_of_ble_eq_true rfl | omega) ?_; k_whole; (intro h1 tk1 F1 N1))
  repeat ((fail_if_success (with_reducible show wpAny _ _ (call (Value.ref 339) [Value.str _ _]) _ _ _)); (first | walk1 | (dsimp only; walk1)))
  k_dflt (refine' signs_hit (by k_asm) (by k_asm) (by k_asm) (by k_asm) (by k_asm) rfl (by decide) (by decide) (by k_mem) (by k_mem) (by with_reducible assumption) (by with_reducible assumption) (by first | assumption | exact Nat.le_of_ble_eq_true rfl | omega) ?_; k_whole; (intro h1 tk1 F1 N1))
  repeat ((fail_if_success (with_reducible show wpAny _ _ (call (Value.ref 339) [Value.str _ _]) _ _ _)); (first | walk1 | (dsimp only; walk1)))
  k_dflt (refine' signs_hit (by k_asm) (by k_asm) (by k_asm) (by k_asm) (by k_asm) rfl (by decide) (by decide) (by k_mem) (by k_mem) (by with_reducible assumption) (by with_reducible assumption) (by first | assumption | exact Nat.le_of_ble_eq_true rfl | omega) ?_; k_whole; (intro h1 tk1 F1 N1))
  repeat ((fail_if_success (with_reducible show LCt.CompRestT ..)); (first | walk1 | (dsimp only; walk1)))
  refine LCt.CompRestT.succ ?_
  intro v' I' oI' C' oC' D' m' h' tk' E' hv' hC' hx' F' N' off' ne'
  lcg_open hv'
  have of3 : (@Ne Nat 341 I') ∧ (@Ne Nat 341 C') ∧ (@Ne Nat 341 D') := LCg.Off3.mem off' (341, _) (by k_mem)
  repeat ((fail_if_success (with_reducible show wpAny _ _ (call (Value.ref 346) [Value.str _ _, Value.ref _, Value.int _ _]) _ _ _)); (first | walk1 | (dsimp only; walk1)))
  k_dflt (refine' yes_miss (by k_asm) (by k_asm) (by k_asm) (by k_asm) (by k_asm) rfl (by decide) (by decide) (by k_updF) (by first | assumption | exact Nat.le_of_ble_eq_true rfl | omega) (by exact low_of (by rfl)) (by k_mem) (by repeat constructor) (by exact Nat.le_of_ble_eq_true rfl) (by first | exact List.forall_mem_nil _ | decide +kernel) (by first | exact due_1 | exact due_2 | exact due_3) rfl ?_; k_whole; (intro h1 tk1 c1 oc1 vs1 qt1 F1 N1 hd1 hq1 l1; (try dsimp only at N1); (try k_lt l1)))
  repeat ((fail_if_success (with_reducible show LCg.CompEnd ..)); (first | walk1 | (dsimp only; walk1)))
  refine' LCg.CompEnd.intro ?cF ?cN _ sub_rot ?coff ?cS ?_
  case cF => k_asm
  case cN => k_asm
  case coff => exact ⟨⟨by k_ne, by k_ne, by k_ne⟩, by assumption⟩
  case cS => exact Or.inr ⟨_, by k_mem, rfl, _, rfl⟩
  refine comp_none 1 8 _ (Or.inr ⟨_, by k_mem, rfl, _, rfl⟩) ?fin ?step 7 1 (Nat.le_refl _) rfl
  case step =>
    clear N' F' off' ne' hC' hx' hv'
    intro i hi1 hi2 v I oI C oC D m2 hh6 tk6 E6 Pq hP hC hx F6 N6 off6 ne6 retP
    have hrow : (∃ r t tt dt pl plt, v = .ref r ∧ News GH s1.heap.objs.size hh6 [(r, ({ cls := .type "tuple", data := .seq #[.str t tt, .str (Str.ofString "refused") dt, .int pl plt] } : Obj))] ∧ t.length ≤ 1000 ∧ (∀ z n : Nat, (sg t)[n]? = some z → z < 128) ∧ mixed (sg t) 0 = none) ∨
        (∃ r t tt d pl plt dvs dks dc j0, v = .ref r ∧ News GH s1.heap.objs.size hh6 [(r, ({ cls := .type "tuple", data := .seq #[.str t tt, .ref d, .int pl plt] } : Obj)), (d, listOf (List.toArray dvs) dc)] ∧ StrsAre dvs dks ∧ dvs.length ≤ 1000 ∧ (∀ x ∈ dks, PyData.strOk x = true) ∧ t.length ≤ 1000 ∧ (∀ z n : Nat, (sg t)[n]? = some z → z < 128) ∧ mixed (sg t) 0 = some (j0, dks.map sg) ∧ (j0 : Int) = pl) := by
      rcases (show i = 1 ∨ i = 2 ∨ i = 3 ∨ i = 4 ∨ i = 5 ∨ i = 6 ∨ i = 7 by omega) with rfl | rfl | rfl | rfl | rfl | rfl | rfl <;> lcg_open hP
      · exact .inr ⟨_, _, _, _, _, _, _, _, _, _, rfl, List.forall_mem_cons.mpr ⟨N6 _ (by k_mem), List.forall_mem_cons.mpr ⟨N6 _ (by k_mem), List.forall_mem_nil _⟩⟩, by repeat constructor, Nat.le_of_ble_eq_true rfl, (by first | exact List.forall_mem_nil _ | decide +kernel), Nat.le_of_ble_eq_true rfl, low_of (by rfl), due_2, rfl⟩
      · exact .inr ⟨_, _, _, _, _, _, _, _, _, _, rfl, List.forall_mem_cons.mpr ⟨N6 _ (by k_mem), List.forall_mem_cons.mpr ⟨N6 _ (by k_mem), List.forall_mem_nil _⟩⟩, by repeat constructor, Nat.le_of_ble_eq_true rfl, (by first | exact List.forall_mem_nil _ | decide +kernel), Nat.le_of_ble_eq_true rfl, low_of (by rfl), due_3, rfl⟩
      · exact .inl ⟨_, _, _, _, _, _, rfl, List.forall_mem_cons.mpr ⟨N6 _ (by k_mem), List.forall_mem_nil _⟩, Nat.le_of_ble_eq_true rfl, low_of (by rfl), due_4⟩
      · exact .inl ⟨_, _, _, _, _, _, rfl, List.forall_mem_cons.mpr ⟨N6 _ (by k_mem), List.forall_mem_nil _⟩, Nat.le_of_ble_eq_true rfl, low_of (by rfl), due_5⟩
      · exact .inl ⟨_, _, _, _, _, _, rfl, List.forall_mem_cons.mpr ⟨N6 _ (by k_mem), List.forall_mem_nil _⟩, Nat.le_of_ble_eq_true rfl, low_of (by rfl), due_6⟩
      · exact .inl ⟨_, _, _, _, _, _, rfl, List.forall_mem_cons.mpr ⟨N6 _ (by k_mem), List.forall_mem_nil _⟩, Nat.le_of_ble_eq_true rfl, low_of (by rfl), due_7⟩
      · exact .inl ⟨_, _, _, _, _, _, rfl, List.forall_mem_cons.mpr ⟨N6 _ (by k_mem), List.forall_mem_nil _⟩, Nat.le_of_ble_eq_true rfl, low_of (by rfl), due_8⟩
    rcases hrow with ⟨r, t, tt, dt, pl, plt, rfl, NR, hlt, hA, hno⟩ | ⟨r, t, tt, d, pl, plt, dvs, dks, dc, j0, rfl, NR, hds, hdl, hok, hlt, hA, hyes, hpl⟩
    · have N7 : News GH s1.heap.objs.size hh6 ((r, _) :: _) := List.forall_mem_cons.mpr ⟨NR _ (.head _), N6⟩
      clear NR N6
      repeat ((fail_if_success (with_reducible show wpAny _ _ (call (Value.ref 346) [Value.str _ _, Value.str _ _, Value.int _ _]) _ _ _)); (first | walk1 | (dsimp only; walk1)))
      k_dflt (refine' no_hit (by k_asm) (by k_asm) (by k_asm) (by k_asm) (by k_asm) rfl (by decide) (by decide) (by k_mem) (by k_mem) (by with_reducible assumption) (by with_reducible assumption) hlt hA hno ?_; k_whole; (intro h1 tk1 F1 N1))
      k_steps
      exact retP _ _ (by assumption) (fun p hp => N1 p (.tail _ hp))
    · have N7 : News GH s1.heap.objs.size hh6 ((r, _) :: (d, _) :: _) := List.forall_mem_cons.mpr ⟨NR _ (.head _), List.forall_mem_cons.mpr ⟨NR _ (.tail _ (.head _)), N6⟩⟩
      clear NR N6
      repeat ((fail_if_success (with_reducible show wpAny _ _ (call (Value.ref 346) [Value.str _ _, Value.ref _, Value.int _ _]) _ _ _)); (first | walk1 | (dsimp only; walk1)))
      k_dflt (refine' yes_hit (by k_asm) (by k_asm) (by k_asm) (by k_asm) (by k_asm) rfl (by decide) (by decide) (by k_mem) (by k_mem) (by with_reducible assumption) (by with_reducible assumption) hlt hA (by k_mem) hds hdl hok hyes hpl ?_; k_whole; (intro h1 tk1 F1 N1))
      k_steps
      exact retP _ _ (by assumption) (fun p hp => N1 p (.tail _ (.tail _ hp)))
  case fin =>
  clear N' F' off' ne' hC' hx' hv'
  repeat ((fail_if_success (with_reducible show wpAny _ _ (call (Value.ref 304) [Value.ref _]) _ _ _)); (first | walk1 | (dsimp only; walk1)))
  (with_reducible rename Fr _ _ _ _ => F8); (with_reducible rename News _ _ _ _ => N8); (with_reducible rename _ = some (Value.str qualS _) => hq3); (with_reducible rename _ = some (Value.str qualM _) => hq2); (with_reducible rename Obj.data _ = Data.cell _ => dc3)
  obtain ⟨oc, c3, oc3, vs3, qt3, c2, oc2, vs2, qt2, N7, hd3, hq4, hd2, hq5, ⟨vc, dc⟩, a1, a2, a3⟩ : ∃ oc c3 oc3 vs3 qt3 c2 oc2 vs2 qt2, News _ _ _ [(334, tabObj #[rawInt 189, rawInt 26, .ref c3]), (341, tabObj #[rawInt 200, rawInt 22, .ref c2]), (c2, oc2), (c3, oc3), (s1.heap.objs.size + 1, oc)] ∧ oc3.data = .fields vs3 ∧ (vs3[1]? : Option Value) = some (.str qualS qt3) ∧ oc2.data = .fields vs2 ∧ (vs2[1]? : Option Value) = some (.str qualM qt2) ∧ (∃ v, oc.data = .cell v) ∧ (@LT.lt Nat _ 341 (s1.heap.objs.size + 1)) ∧ (@LT.lt Nat _ (s1.heap.objs.size + 1) c3) ∧ (@LT.lt Nat _ c3 c2) :=
    ⟨_, _, _, _, _, _, _, _, _, cb_drop N8 (by tb_rel), by assumption, hq3, by assumption, hq2, ⟨_, dc3⟩, by omega, by omega, by omega⟩
  k_dflt (refine' pool_spec ?B ?F ?X N7 ?T ?hk ?hd ?hun ?hl ?hS ?hlen ?_; (case B => k_asm); (case F => k_asm); (case X => k_asm); (case T => k_asm); (case hk => exact rfl); (case hd => decide); (case hun => decide); (case hl => assumption); (case hS => assumption); (case hlen => omega); k_whole)
  intro hh5 tk5 l A5 ta5 C5 tc5 hA5 hC50 hC51 F5 N5 off5 K5
  have f1 : @Ne Addr (s1.heap.objs.size + 1) l := off5 (s1.heap.objs.size + 1, oc) (by k_mem)
  have f2 : @Ne Addr 341 l := off5 (341, _) (by k_mem)
  have f3 : @Ne Addr 334 l := off5 (334, _) (by k_mem)
  have f4 : @Ne Addr c2 l := off5 (c2, oc2) (by k_mem)
  have f5 : @Ne Addr c3 l := off5 (c3, oc3) (by k_mem)
  repeat ((fail_if_success (with_reducible show wpAny _ _ (call (Value.ref 311) [Value.ref _, Value.int _ _]) _ _ _)); (first | walk1 | (dsimp only; walk1)))
  (with_reducible rename News _ _ _ _ => N6); (with_reducible rename Obj.data _ = Data.cell (some _) => dc9)
  obtain ⟨o9, dc8, N66⟩ : ∃ o9, Obj.data o9 = Data.cell (some (Value.ref l)) ∧ News _ _ _ ([(l, listOf #[.int A5 ta5, .int C5 tc5] 0), (334, tabObj #[rawInt 189, rawInt 26, .ref c3]), (341, tabObj #[rawInt 200, rawInt 22, .ref c2]), (c2, oc2), (c3, oc3), (s1.heap.objs.size + 1, o9)]) := ⟨_, dc9, N6⟩
  clear N6
  repeat ((fail_if_success ((with_reducible show wpAny _ _ (call (Value.ref 311) [Value.ref _, Value.int _ _]) _ _ _))); (first | walk1 | (dsimp only; walk1)))
  k_dflt (refine' take_spec (by k_asm) (by k_asm) (by k_asm) (by k_asm) (by k_asm) rfl (by decide) (by decide) (by k_updF) (by assumption) (by assumption) (by assumption) (by omega) (by omega) ?_; k_whole; (intro h1 tk1 r1 rt1 A1 ta1 C1 tc1 hr0 hr1 hA1 hC10 hC11 F1 N1 K1; (try dsimp only at N1); (try dsimp only)))
  iterate 2 (first | walk1 | (dsimp only; walk1))
  (with_reducible rename IsRange _ _ _ _ _ _ _ _ => R9); (with_reducible rename Fr _ _ _ _ => F9); (with_reducible rename News _ _ _ _ => N9); (with_reducible rename _ < (7 : Int) => hr1)
  obtain ⟨rn, rfl⟩ := nat_of hr1 (by assumption)
  k_dflt (refine LCg.CompSrc.range (n := rn) rfl F9 N9 R9 (small_one (by omega) (by omega) (by omega) (by omega)) (by rw [rangeSize_nat]; omega) (by simp only [sizeLine_eq]; omega) fun g9 => ?_)
  refine comp_ind (fun i ys nw => ∃ (A : Int) (ta : Tok) (C : Int) (tc : Tok) (ks : List Str), 0 ≤ A ∧ 0 ≤ C ∧ C < 2147483647 ∧ StrsAre ys ks ∧ ks.length = i ∧ (∀ x ∈ ks, x.length ≤ 4) ∧ nw = [(l, listOf #[.int A ta, .int C tc] 0), (334, tabObj #[rawInt 189, rawInt 26, .ref c3]), (341, tabObj #[rawInt 200, rawInt 22, .ref c2]), (c2, oc2), (c3, oc3), (s1.heap.objs.size + 1, o9)]) rn ?fin7 ?step7 rn 0 [] _ (by omega) ⟨_, _, _, _, [], by assumption, by assumption, by assumption, .nil, rfl, (fun _ h => nomatch h), rfl⟩
  case step7 =>
    rintro i ys nw hi ⟨A2, ta2, C2, tc2, ks2, hA2, hC20, hC21, hs2, hl2, hm2, rfl⟩ v I oI C5 oC D5 m2 hh5 tk5 E' hP hC hx F5 N5 off5 ne5
    obtain ⟨g1, g2, g3⟩ : l ≠ I ∧ l ≠ C5 ∧ l ≠ D5 := LCg.Off3.mem off5 (l, _) (by k_mem)
    repeat ((fail_if_success ((try dsimp only [List.append_nil, List.cons_append, List.nil_append]); (with_reducible show wpAny _ _ (call (Value.ref 318) [Value.ref _, Value.ref _]) _ _ _))); (first | walk1 | (dsimp only; walk1)))
    (try dsimp only [List.append_nil, List.cons_append, List.nil_append])
    k_dflt (refine' one_spec (by k_asm) (by k_asm) (by k_asm) (by k_asm) (by k_asm) rfl (by decide) (by decide) (by k_updF) (by k_mem) (by k_ne) (by first | assumption | (repeat constructor)) (by exact Nat.le_of_ble_eq_true rfl) (by exact Nat.le_of_ble_eq_true rfl) (by assumption) (by assumption) (by assumption) ?_; k_whole; (intro x1 hx1 h1 tk1 xt1 A1 ta1 C1 tc1 hA1 hC10 hC11 F1 N1 K1; have hxl1 := menu_len hx1 (by decide +kernel); (try dsimp only at N1); (try dsimp only)))
    k_steps
    exact LCg.CompEnd.intro F1 N1 ([(l, listOf #[.int A1 ta1, .int C1 tc1] 0), (334, tabObj #[rawInt 189, rawInt 26, .ref c3]), (341, tabObj #[rawInt 200, rawInt 22, .ref c2]), (c2, oc2), (c3, oc3), (s1.heap.objs.size + 1, o9)]) (fun p hp => List.mem_cons_of_mem _ hp) off5 trivial ⟨A1, ta1, C1, tc1, ks2 ++ [x1], hA1, hC10, hC11, strs_snoc1 hs2, by simp [hl2], fun x hx => (List.mem_append.mp hx).elim (hm2 x) (fun z => by rw [List.mem_singleton.mp z]; exact hxl1), rfl⟩
  rintro ys nw ⟨A2, ta2, C2, tc2, ks2, hA2, hC20, hC21, hs2, hl2, hm2, rfl⟩
  unfold LCg.FinA
  intro D9 hh9 tk9 F9 N9 o9f
  have o8 : l ≠ D9 := o9f.1
  have o7 : 334 ≠ D9 := o9f.2.1
  have o6 : 341 ≠ D9 := o9f.2.2.1
  repeat ((fail_if_success ((with_reducible show wpAny _ _ (call (Value.builtin "str.join") _) _ _ _))); (first | walk1 | (dsimp only; walk1)))
  k_dflt (refine' join_strs (by k_asm) (by k_mem) (by assumption) (by assumption) (by omega) ?_; k_whole; intro x9 t9 k9 hx9)
  repeat ((fail_if_success (with_reducible show wpAny _ _ (call (Value.ref 332) [Value.str _ _]) _ _ _)); (first | walk1 | (dsimp only; walk1)))
  k_dflt (refine' marks_spec (by k_asm) (by k_asm) (by k_asm) (by k_asm) (by k_asm) rfl (by decide) (by first | assumption | exact Nat.le_of_ble_eq_true rfl | omega) ?_; k_whole; intro h1 tk1 F1 N1 K1)
  repeat ((fail_if_success (with_reducible show wpAny _ _ (pyIter _) _ _ _)); (first | walk1 | (dsimp only; walk1)))
  (with_reducible rename IsRange _ _ _ _ _ _ _ _ => R8); (with_reducible rename Fr _ _ _ _ => F8); (with_reducible rename News _ _ _ _ => N8)
  obtain ⟨M, hM, F7⟩ := fr_named F8
  have N7' : News _ _ _ ([(l, listOf #[.int A2 ta2, .int C2 tc2] 0), (334, tabObj #[rawInt 189, rawInt 26, .ref c3]), (341, tabObj #[rawInt 200, rawInt 22, .ref c2]), (c2, oc2), (c3, oc3), (s1.heap.objs.size + 1, o9)]) := cb_drop N8 (by tb_rel)
  refine iter_rangeG (n := 2) (fun i m nx => ∃ (A : Int) (ta : Tok) (C : Int) (tc : Tok), 0 ≤ A ∧ 0 ≤ C ∧ C < 2147483647 ∧ (∀ z, z ≠ Str.ofString "turn" → ([Str.ofString "signs"] : List Str).contains z = false → m z = M z) ∧ nx = [(l, listOf #[.int A ta, .int C tc] 0), (334, tabObj #[rawInt 189, rawInt 26, .ref c3]), (341, tabObj #[rawInt 200, rawInt 22, .ref c2]), (c2, oc2), (c3, oc3), (s1.heap.objs.size + 1, o9)]) rfl R8 ?hsm ?hrn F7 N7' ⟨A2, ta2, C2, tc2, hA2, hC20, hC21, fun _ _ _ => rfl, rfl⟩ ?turn ?done
  case hsm => first | exact small_one (by omega) (by omega) (by omega) (by omega) | decide | rfl
  case hrn => first | rfl | decide
  case done =>
    rintro m₁ nx hh tk ⟨A4, ta4, C4, tc4, hA4, hC40, hC41, hM1, rfl⟩ F1 N1
    k_steps
  case turn =>
    rintro i t1 m₁ nx hh tk own I hi hnI hoff hown ⟨oI, hoI⟩ ⟨A4, ta4, C4, tc4, hA4, hC40, hC41, hM1, rfl⟩ F1 N1
    replace F1 := kst_fr (ps := []) (stored := [Str.ofString "signs"]) (m₀ := M) (List.forall_mem_nil _) (fun z n1 _ n3 => hM1 z n1 n3) F1
    have od1 : ∀ p ∈ own, p.1 ≠ l := OwnOff.ne hoff (by simp)
    have od2 : ∀ p ∈ own, p.1 ≠ 341 := OwnOff.ne hoff (by simp)
    have od3 : ∀ p ∈ own, p.1 ≠ 334 := OwnOff.ne hoff (by simp)
    subst hM
    simp only [List.cons_append, List.nil_append] at N1
    repeat ((fail_if_success (with_reducible show wpAny _ _ (call (Value.ref 311) [Value.ref _, Value.int _ _]) _ _ _)); (first | walk1 | (dsimp only; walk1)))
    repeat ((fail_if_success ((with_reducible show wpAny _ _ (call (Value.ref 311) [Value.ref _, Value.int _ _]) _ _ _))); (first | walk1 | (dsimp only; walk1)))
    k_dflt (refine' take_spec (by k_asm) (by k_asm) (by k_asm) (by k_asm) (by k_asm) rfl (by decide) (by decide) (by k_updF) (by assumption) (by assumption) (by assumption) (by omega) (by omega) ?_; k_whole; (intro h1 tk1 r1 rt1 A1 ta1 C1 tc1 hr0 hr1 hA1 hC10 hC11 F1 N1 K1; (try dsimp only at N1); (try dsimp only)))
    iterate 2 (first | walk1 | (dsimp only; walk1))
    (with_reducible rename IsRange _ _ _ _ _ _ _ _ => R9); (with_reducible rename Fr _ _ _ _ => F9); (with_reducible rename News _ _ _ _ => N9); (with_reducible rename _ < (6 : Int) => hr1)
    obtain ⟨rn, rfl⟩ := nat_of hr1 (by assumption)
    k_dflt (refine LCg.CompSrc.range (n := rn) rfl F9 N9 R9 (small_one (by omega) (by omega) (by omega) (by omega)) (by rw [rangeSize_nat]; omega) (by simp only [sizeLine_eq]; omega) fun g9 => ?_)
    refine comp_ind (fun i ys nw => ∃ (A : Int) (ta : Tok) (C : Int) (tc : Tok) (ks : List Str), 0 ≤ A ∧ 0 ≤ C ∧ C < 2147483647 ∧ StrsAre ys ks ∧ ks.length = i ∧ (∀ x ∈ ks, x.length ≤ 4) ∧ nw = (l, listOf #[.int A ta, .int C tc] 0) :: (334, tabObj #[rawInt 189, rawInt 26, .ref c3]) :: (341, tabObj #[rawInt 200, rawInt 22, .ref c2]) :: (c2, oc2) :: (c3, oc3) :: (s1.heap.objs.size + 1, o9) :: own) rn ?fin6 ?step6 rn 0 [] _ (by omega) ⟨_, _, _, _, [], by assumption, by assumption, by assumption, .nil, rfl, (fun _ h => nomatch h), rfl⟩
    case step6 =>
      rintro i ys nw hi ⟨A2, ta2, C2, tc2, ks2, hA2, hC20, hC21, hs2, hl2, hm2, rfl⟩ v I oI C5 oC D5 m2 hh5 tk5 E' hP hC hx F5 N5 off5 ne5
      obtain ⟨g1, g2, g3⟩ : l ≠ I ∧ l ≠ C5 ∧ l ≠ D5 := LCg.Off3.mem off5 (l, _) (by k_mem)
      repeat ((fail_if_success ((try dsimp only [List.append_nil, List.cons_append, List.nil_append]); (with_reducible show wpAny _ _ (call (Value.ref 318) [Value.ref _, Value.ref _]) _ _ _))); (first | walk1 | (dsimp only; walk1)))
      (try dsimp only [List.append_nil, List.cons_append, List.nil_append])
      k_dflt (refine' one_spec (by k_asm) (by k_asm) (by k_asm) (by k_asm) (by k_asm) rfl (by decide) (by decide) (by k_updF) (by k_mem) (by k_ne) (by first | assumption | (repeat constructor)) (by exact Nat.le_of_ble_eq_true rfl) (by exact Nat.le_of_ble_eq_true rfl) (by assumption) (by assumption) (by assumption) ?_; k_whole; (intro x1 hx1 h1 tk1 xt1 A1 ta1 C1 tc1 hA1 hC10 hC11 F1 N1 K1; have hxl1 := menu_len hx1 (by decide +kernel); (try dsimp only at N1); (try dsimp only)))
      k_steps
      exact LCg.CompEnd.intro F1 N1 ((l, listOf #[.int A1 ta1, .int C1 tc1] 0) :: (334, tabObj #[rawInt 189, rawInt 26, .ref c3]) :: (341, tabObj #[rawInt 200, rawInt 22, .ref c2]) :: (c2, oc2) :: (c3, oc3) :: (s1.heap.objs.size + 1, o9) :: own) (fun p hp => List.mem_cons_of_mem _ hp) off5 trivial ⟨A1, ta1, C1, tc1, ks2 ++ [x1], hA1, hC10, hC11, strs_snoc1 hs2, by simp [hl2], fun x hx => (List.mem_append.mp hx).elim (hm2 x) (fun z => by rw [List.mem_singleton.mp z]; exact hxl1), rfl⟩
    rintro ys nw ⟨A2, ta2, C2, tc2, ks2, hA2, hC20, hC21, hs2, hl2, hm2, rfl⟩
    unfold LCg.FinA
    intro D9 hh9 tk9 F9 N9 o9f
    have o8 : l ≠ D9 := o9f.1
    have o7 : 334 ≠ D9 := o9f.2.1
    have o6 : 341 ≠ D9 := o9f.2.2.1
    repeat ((fail_if_success ((with_reducible show wpAny _ _ (call (Value.builtin "str.join") _) _ _ _))); (first | walk1 | (dsimp only; walk1)))
    k_dflt (refine' join_strs (by k_asm) (by k_mem) (by assumption) (by assumption) (by omega) ?_; k_whole; intro x9 t9 k9 hx9)
    repeat ((fail_if_success (with_reducible show wpAny _ _ (call (Value.ref 339) [Value.str _ _]) _ _ _)); (first | walk1 | (dsimp only; walk1)))
    k_dflt (refine' signs_hit (by k_asm) (by k_asm) (by k_asm) (by k_asm) (by k_asm) rfl (by decide) (by decide) (by k_mem) (by k_mem) (by with_reducible assumption) (by with_reducible assumption) (by first | assumption | exact Nat.le_of_ble_eq_true rfl | omega) ?_; k_whole; (intro h1 tk1 F1 N1))
    repeat ((fail_if_success (with_reducible show wpAny _ _ (call (Value.ref 351) [Value.ref _]) _ _ _)); (first | walk1 | (dsimp only; walk1)))
    k_dflt (refine' drawn_hit (by k_asm) (by k_asm) (by k_asm) (by k_asm) (by k_asm) rfl (by decide) (by decide) (by k_updF) (by k_mem) (by assumption) (by assumption) (by intro o9; (try dsimp only); k_updF) (by assumption) (by assumption) (by assumption) ?_; k_whole; (intro h1 tk1 A1 ta1 C1 tc1 hA1 hC10 hC11 F1 N1; (try dsimp only at N1); (try dsimp only)))
    repeat (first | walk1 | (dsimp only; walk1))
    (with_reducible rename Fr _ _ _ _ => FZ); (with_reducible rename News _ _ _ _ => NZ)
    obtain ⟨A9, ta9, C9, tc9, NW, hA9, hC90, hC91⟩ : ∃ A9 ta9 C9 tc9, News _ _ _ ([(l, listOf #[.int A9 ta9, .int C9 tc9] 0), (334, tabObj #[rawInt 189, rawInt 26, .ref c3]), (341, tabObj #[rawInt 200, rawInt 22, .ref c2]), (c2, oc2), (c3, oc3), (s1.heap.objs.size + 1, o9)]) ∧ 0 ≤ A9 ∧ 0 ≤ C9 ∧ C9 < 2147483647 := ⟨_, _, _, _, cb_drop NZ (by tb_rel), by assumption, by assumption, by assumption⟩
    refine ⟨_, _, _, [(l, listOf #[.int A9 ta9, .int C9 tc9] 0), (334, tabObj #[rawInt 189, rawInt 26, .ref c3]), (341, tabObj #[rawInt 200, rawInt 22, .ref c2]), (c2, oc2), (c3, oc3), (s1.heap.objs.size + 1, o9)], rfl, FZ, fun p hp => ?_, fun p hp => ?_, A9, ta9, C9, tc9, hA9, hC90, hC91, fun z n1 n2 => ?_, rfl⟩
    · exact (List.mem_append.mp hp).elim (NW p) (fun h => NZ p (by (repeat apply List.mem_cons_of_mem); exact h))
    · have hp1 : p.1 ∈ [l, 334, 341, c2, c3, s1.heap.objs.size + 1] := List.mem_map_of_mem (f := Prod.fst) hp
      obtain ⟨q, hq, hq1⟩ : ∃ q ∈ [(l, listOf #[.int A4 ta4, .int C4 tc4] 0), (334, tabObj #[rawInt 189, rawInt 26, .ref c3]), (341, tabObj #[rawInt 200, rawInt 22, .ref c2]), (c2, oc2), (c3, oc3), (s1.heap.objs.size + 1, o9)], q.1 = p.1 := List.mem_map.mp hp1
      rw [← hq1]; exact hnI q hq
    · have n5 : z ≠ Str.ofString "signs" := fun q => by subst q; exact Bool.noConfusion (n2.symm.trans (by rfl))
      simp only [n1, n5, if_false]
      (try dsimp only [kstB])
      (try rw [n2])
      (try rfl)
end Mine
theorem PySem.Challenge.cw_xw0208_01_holds : PySem.Challenge.rw_xw0208_01.Holds := by
  exact Mine.law_holds
