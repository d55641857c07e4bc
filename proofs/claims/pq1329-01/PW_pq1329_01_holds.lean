import PyProof.Rows.All
import Wide.All
import OpenK.AllK
import Wide.FinOn
import PySem.Challenge.RW_pq1329_01
open PySem PySem.W PyProof.Rows
set_option Elab.async false
set_option maxRecDepth 100000
set_option rowWalk.seconds 0
namespace Mine
section
/-- the written part of the state alone: what k_head would go on to do is left out -/
local macro_rules | `(tactic| o_head $H) => `(tactic| exact (‹∀ _ : Hook, PySem.Challenge.rw_pq1329_01.row.Holds›) $H)
theorem fr : (∀ _ : Hook, PySem.Challenge.rw_pq1329_01.row.Holds) → PySem.Challenge.rw_pq1329_01.row.Holds := by
  intro hyp
  w_on
  k_head
end
section
open PySem.Calls
abbrev TP : Program := PySem.Challenge.pw_pq1329_01
noncomputable def vw : Program := view TP [0, 2, 3, 4, 5, 6, 7, 8, 9, 10, 11, 12, 13, 14, 15, 17, 18, 20, 21, 22, 23, 24, 25, 26, 27, 28, 30, 31, 32, 33, 35, 36, 37, 38, 39, 40, 41, 42, 43, 44, 45, 46, 48, 49, 50, 51, 52, 53, 55, 56, 57, 58, 59, 60, 61, 62, 63, 64, 65, 66, 67, 68, 69, 70, 72, 73, 74, 75, 76, 77, 78, 79, 80, 82, 83, 84, 85, 86, 88, 89, 90, 91, 92, 93, 94, 95, 96]
noncomputable def asN : List Addr := [2, 3, 15, 17, 18, 20, 21, 22, 23, 24, 25, 27, 28, 30, 31, 32, 34, 35, 37, 38, 39, 41, 42, 44, 45, 46, 48, 49, 51, 52, 53, 55, 56, 58, 59, 60, 62, 63, 65, 66, 67, 69, 70, 72, 73, 74, 76, 77, 79, 80, 81, 83, 84, 86, 87, 88, 90, 91, 93, 94, 95, 97, 98, 100, 101, 102, 109, 110, 111, 112, 115, 122, 124, 125, 127, 128, 129, 130, 131, 141, 143, 144, 146, 147, 148, 149, 150, 151, 152, 162, 163, 165, 166, 168, 169, 170, 172, 173, 175, 176, 177, 178, 179, 180, 181, 184, 186, 187, 189, 190, 191, 193, 194, 196, 197, 198, 200, 201, 203, 204, 205, 207, 208, 210, 211, 212, 214, 215, 217, 218, 219, 221, 222, 224, 225, 226, 228, 229, 231, 232, 233, 236, 237, 238, 240, 241, 243, 244, 245, 248, 249, 250, 252, 253, 255, 256, 257, 259, 260, 262, 263, 264, 266, 267, 269, 270, 271, 273, 274, 276, 277, 278, 280, 281, 283, 284, 285, 287, 288, 290, 291, 292, 294, 295, 297, 298, 299, 301, 302, 304, 305, 306, 308, 309, 311, 312, 313, 315, 316, 318, 319, 320, 323, 324, 325, 326, 328, 329, 331, 332, 333, 335, 336, 338, 339, 340, 342, 343, 345, 346, 347, 349, 350, 352, 353, 354, 356, 357, 359, 360, 361, 363, 364, 366, 367, 368, 370, 371, 373, 374, 375, 377, 378, 380, 381, 382, 384, 385, 387, 388, 389, 391, 392, 394, 395, 396, 398, 399, 401, 402, 403, 405, 406, 408, 409, 410, 412, 413, 415, 416, 417, 419, 420, 422, 423, 424, 426, 427, 429, 430, 431, 433, 434, 436, 437, 438, 440, 441, 443, 444, 445, 447, 448, 450, 451, 452, 454, 455, 457, 458, 459, 462, 463, 464, 466, 467, 469, 470, 471, 474, 475, 476, 478, 479, 481, 482, 483, 485, 486, 488, 489, 490, 492, 493, 495, 496, 497, 499, 500, 502, 503, 504, 506, 507, 509, 510, 511, 514, 515, 516, 518, 519, 521, 522, 523, 525, 526, 528, 529, 530, 532, 533, 535, 536, 537, 538, 541, 542, 543, 545, 546, 548, 549, 550, 552, 553, 555, 556, 557, 560, 561, 562, 564, 565, 567, 568, 569, 571, 572, 574, 575, 576, 579, 580, 581, 584, 585, 586, 588, 589, 591, 592, 593, 595, 596, 598, 599, 600, 603, 604, 605, 607, 608, 610, 611, 612, 615, 616]
noncomputable def kh : Hook := kHook fr.heap_1 asN (fun _ => by kernel_rfl)
abbrev TL : List Str := [Str.ofString "number_text"]
noncomputable def Xw (s : Shared) : Bool := xlAt vw [] s && recOk (RowW.records (OpenRow.toRowW PySem.Challenge.rw_pq1329_01.row)) s

/-- the top's run over the tree of objects -/
noncomputable def runS (st : SharedT → Thread → Option (SharedT × Thread)) (ok : Thread → Bool) (n : Nat) : SharedT → Thread → Option SharedT :=
  @Nat.rec (fun _ => SharedT → Thread → Option SharedT) (fun _ _ => none)
    (fun _ ih s t => @Bool.rec (fun _ => Option SharedT)
      (@Bool.rec (fun _ => Option SharedT) none (@Option.rec (SharedT × Thread) (fun _ => Option SharedT) none (fun r => ih r.1 r.2) (st s t)) (ok t))
      (some s) (through t)) n
theorem runS_of {tb : String → Option Builtin} {p : Program} {w : World} {m : Nat} {ann : Option Value} : ∀ {n : Nat} {s s' : SharedT} {t : Thread},
    runS (stepT (denote tb) p w) (stepOk m ann) n s t = some s' → topRun tb p w m ann n s.abs t = some s'.abs
  | 0, _, _, _, h => by cases h
  | n + 1, s, s', t, h => by
    have h1 : @Bool.rec (fun _ => Option SharedT)
      (@Bool.rec (fun _ => Option SharedT) none (@Option.rec (SharedT × Thread) (fun _ => Option SharedT) none (fun r => runS (stepT (denote tb) p w) (stepOk m ann) n r.1 r.2) (stepT (denote tb) p w s t)) (stepOk m ann t))
      (some s) (through t) = some s' := h
    unfold topRun
    cases ht : through t with
    | true => rw [ht] at h1; cases h1; rfl
    | false =>
      rw [ht] at h1
      cases hk : stepOk m ann t with
      | false => rw [hk] at h1; cases h1
      | true =>
        rw [hk] at h1
        cases hs : stepT (denote tb) p w s t with
        | none => rw [hs] at h1; cases h1
        | some r =>
          rw [hs] at h1
          obtain ⟨s2, t2⟩ := r
          rw [stepT_spec hs]
          exact runS_of h1
noncomputable def treeOf (l : List Obj) : BT := (l.foldl (fun (x : BT × Nat) o => (x.1.ins x.2 o, x.2 + 1)) (BT.nil, 0)).1
noncomputable def bootT (P : Params) (os : OsState) : SharedT := ⟨treeOf (boot_heap P).objs.toList, (boot_heap P).objs.size, (boot_heap P).life, Array.mk [], boot_drawn, boot_toks, os⟩
theorem bootT_abs (P : Params) (os : OsState) : (bootT P os).abs = ⟨boot_heap P, Array.mk [], boot_drawn, boot_toks, os⟩ := by kernel_rfl
noncomputable def runE (w : World) (os : OsState) : Option SharedT :=
  runS (PySem.W.Fast.tw10156331382660048174 (PySem.W.Fast.tw11892475500146522536 PySem.W.Fast.tw14364793385576792824) TP w) (PySem.W.Fast.tw6613529449190102663 11 (some (.ref 6))) 6940 (bootT w.params os) (topStub TP)
theorem runE_top {w : World} {os : OsState} {s : SharedT} (h : runE w os = some s) :
    topRun treeTable TP w 11 (some (.ref 6)) 6940 ⟨boot_heap w.params, Array.mk [], boot_drawn, boot_toks, os⟩ (topStub TP) = some s.abs := by
  unfold runE at h
  rw [← PySem.W.Fast.te10156331382660048174, ← PySem.W.Fast.te11892475500146522536, ← PySem.W.Fast.te14364793385576792824, ← PySem.W.Fast.te6613529449190102663] at h
  rw [← bootT_abs]
  exact runS_of h
theorem boot_opens : ∀ w : World, (fencedOpening treeTable TP w 6940).map (fun s => (s.heap, s.gens, s.drawn, s.toks)) = some (boot_heap w.params, Array.mk [], boot_drawn, boot_toks) :=
  boot_open (by kernel_rfl) (by decide) (fun _ => by kernel_rfl)
theorem boot_size (w : World) : ((boot_heap w.params).isNs mainGlobals && (Array.mk [] : Array GenState).size == 0, (boot_heap w.params).objs.size, (boot_heap w.params).nsMap mainGlobals "__annotations__") = (true, 11, some (Value.ref 6)) := by kernel_rfl

/-- what the top's end must show, beside the looks -/
noncomputable def kept (w : World) (s : Shared) : Bool := staticsOk (importedModules TP.main.body) (boot_heap w.params) s.heap && namesBound TP s.heap && gensDone s && laidKept (boot_heap w.params) s.heap
theorem map_two {α β γ : Type} {f : α → β} {g : α → γ} {x : Option α} {a : β} {b : γ} (h : x.map f = some a) (k : x.map g = some b) : x.map (fun s => (f s, g s)) = some (a, b) := by
  cases x with
  | none => cases h
  | some s => cases h; cases k; rfl
theorem map_fst {α β γ : Type} {f : α → β} {g : α → γ} {x : Option α} {a : β} {b : γ} (h : x.map (fun s => (f s, g s)) = some (a, b)) : x.map f = some a := by
  cases x with
  | none => cases h
  | some s => exact congrArg some (Prod.mk.inj (Option.some.inj h)).1
theorem map_snd {α β γ : Type} {f : α → β} {g : α → γ} {x : Option α} {a : β} {b : γ} (h : x.map (fun s => (f s, g s)) = some (a, b)) : x.map g = some b := by
  cases x with
  | none => cases h
  | some s => exact congrArg some (Prod.mk.inj (Option.some.inj h)).2
theorem left_of {α : Type} {Yf : Shared → α} {Ya : World → α} {p q : Program} {loose : List Str} {Xt : Shared → Bool} {H : Params → Heap} {d : Drawn} {tk m N : Nat} {ann : Option Value}
    {R : World → OsState → Option SharedT} {kp : World → Shared → Bool}
    (hkp : ∀ w s, kp w s = (staticsOk (importedModules p.main.body) (H w.params) s.heap && namesBound p s.heap && gensDone s && laidKept (H w.params) s.heap))
    (opens : ∀ w : World, (fencedOpening treeTable p w N).map (fun s => (s.heap, s.gens, s.drawn, s.toks)) = some (H w.params, Array.mk [], d, tk))
    (size : ∀ w : World, ((H w.params).isNs mainGlobals && (Array.mk [] : Array GenState).size == 0, (H w.params).objs.size, (H w.params).nsMap mainGlobals "__annotations__") = (true, m, ann))
    (run : ∀ {w : World} {os : OsState} {s : SharedT}, R w os = some s → topRun treeTable p w m ann N ⟨H w.params, Array.mk [], d, tk, os⟩ (topStub p) = some s.abs)
    (k : ∀ w os, (R w os).map (fun s => kp w s.abs) = some true)
    (o : ∀ w os, (R w os).map (fun s => openSeen q loose (importedModules p.main.body) Xt true s.abs) = some (openGood q loose))
    (y : ∀ w os, (R w os).map (fun s => Yf s.abs) = some (Ya w)) : LeftO p q loose Xt Yf Ya N := fun w => by
  obtain ⟨⟨h, gs, d', tk', os⟩, e, e'⟩ := Option.map_eq_some_iff.mp (opens w)
  have e2 := Prod.mk.inj e'
  have e3 := Prod.mk.inj e2.2
  have e4 := Prod.mk.inj e3.2
  obtain ⟨rfl, rfl, rfl, rfl⟩ : h = H w.params ∧ gs = Array.mk [] ∧ d' = d ∧ tk' = tk := ⟨e2.1, e3.1, e4.1, e4.2⟩
  obtain ⟨s, es, k1⟩ := Option.map_eq_some_iff.mp (k w os)
  rw [hkp] at k1
  have o1 : openSeen q loose (importedModules p.main.body) Xt true s.abs = openGood q loose := by
    have := o w os; rw [es] at this; exact Option.some.inj this
  have y1 : Yf s.abs = Ya w := by
    have := y w os; rw [es] at this; exact Option.some.inj this
  have z := size w
  have z1 := (Prod.mk.inj z).1
  have z2 := (Prod.mk.inj (Prod.mk.inj z).2).1
  have z3 := (Prod.mk.inj (Prod.mk.inj z).2).2
  have f : topFrom treeTable p w N ⟨H w.params, Array.mk [], d', tk', os⟩ = some s.abs := by
    unfold topFrom
    dsimp only
    rw [z1, z2, z3]
    dsimp only
    rw [run es, Option.bind_some, k1]
  unfold openEnds
  rw [e, Option.bind_some, f, Option.map_some, o1, y1]

/-- an object of the state, read off the tree -/
noncomputable def gt (s : SharedT) (a : Addr) : Option Obj := @Bool.rec (fun _ => Option Obj) none (@Option.rec Obj (fun _ => Option Obj) none (fun o => alive o) (s.tree.get a)) (Nat.blt a s.n)
theorem gt_some {s : SharedT} {a : Addr} {o : Obj} (h : gt s a = some o) : s.abs.heap.get? a = some o := by
  unfold gt at h
  cases e : Nat.blt a s.n with
  | false => rw [e] at h; cases h
  | true =>
    rw [e] at h
    cases g : s.tree.get a with
    | none => rw [g] at h; cases h
    | some o' =>
      rw [g] at h
      exact (abs_get (Nat.le_of_ble_eq_true e) g).trans h
theorem gt_map {s : SharedT} : ∀ {as : List Addr} {K : Frag}, as.map (gt s) = K.map (fun p => some p.2) → as.map s.abs.heap.get? = K.map (fun p => some p.2)
  | [], [], _ => rfl
  | [], _ :: _, h => by cases h
  | _ :: _, [], h => by cases h
  | a :: as, p :: K, h => by
    have h1 := List.cons.inj h
    rw [List.map_cons, List.map_cons, gt_some h1.1, gt_map h1.2]
theorem gt_obs {w : World} {x : Option SharedT} (h : x.map (fun s => asN.map (gt s)) = some ((fr.heap_1 w.params).map fun p => some p.2)) : x.map (fun s => Hook.obs kh s.abs) = some (Hook.val kh w) := by
  cases x with
  | none => cases h
  | some s => exact congrArg some (gt_map (Option.some.inj h))

/-! the looks, each by the kernel alone -/
theorem map_and {α : Type} {f g : α → Bool} {x : Option α} (h : x.map f = some true) (k : x.map g = some true) : x.map (fun s => f s && g s) = some true := by
  cases x with
  | none => cases h
  | some s =>
    have h1 : f s = true := Option.some.inj h
    have k1 : g s = true := Option.some.inj k
    show some (f s && g s) = some true
    rw [h1, k1]; rfl
theorem look_a (w : World) (os : OsState) : (runE w os).map (fun s => (kept w s.abs, s.abs.heap.accountedOkI (importedModules TP.main.body), s.abs.heap.isNs mainGlobals, s.abs.heap.isNs builtinsNs, tablesOk vw s.abs.heap, Xw s.abs, s.abs.gens.size == 0, asN.map (gt s)))
    = some (true, true, true, true, true, true, true, (fr.heap_1 w.params).map fun p => some p.2) := by
  rw [PySem.W.Fast.te14722251495701143533, PySem.W.Fast.te10994771534591457954]
  kernel_rfl
theorem look_b (w : World) (os : OsState) : (runE w os).map (fun s => seen ((recsOf vw).map (·.name)) (ownsOf vw) [] { s.abs with gens := Array.mk [] }) = some (expectedOf vw) := by
  rw [PySem.W.Fast.te5160383126252970620, PySem.W.Fast.te3399658132070893891, PySem.W.Fast.te5991557255702980513]
  kernel_rfl
theorem look_c (w : World) (os : OsState) : (runE w os).map (fun s => s.abs.heap.keysOk (looseW vw TL) ((recsOf vw).map (·.name)) ((litsOf vw).map (·.1)) ((clssOf vw (looseW vw TL)).map (·.name))) = some true := by
  rw [PySem.W.Fast.te10880121769531294198, PySem.W.Fast.te821141287760084731, PySem.W.Fast.te3399658132070893891, PySem.W.Fast.te7409074990110511671, PySem.W.Fast.te13664370479719496447]
  kernel_rfl
theorem look_d (w : World) (os : OsState) : (runE w os).map (fun s => tabsOk vw s.abs) = some true := by
  rw [PySem.W.Fast.te479339242167458305]
  kernel_rfl
theorem look_e (w : World) (os : OsState) : (runE w os).map (fun s => wideSeen vw s.abs) = some (wideGood vw) := by
  rw [PySem.W.Fast.te7317090234206586261]
  kernel_rfl
theorem look_f (w : World) (os : OsState) : (runE w os).map (fun s => (s.abs.heap.bltView, pinSeenD vw (drecsOf vw) s.abs, plainSeenE vw (looseW vw TL) s.abs, plainSeenD vw TL s.abs, clsSeenW vw TL s.abs))
    = some (bltViewBooted, pinGoodD (drecsOf vw), plainGoodE vw (looseW vw TL), plainGoodD vw TL, clsGoodW vw TL) := by
  rw [PySem.W.Fast.te16090120013241838585, PySem.W.Fast.te3247288618530077131, PySem.W.Fast.te2386780881361962483, PySem.W.Fast.te821141287760084731, PySem.W.Fast.te11698064438423848299, PySem.W.Fast.te7369524293546568484]
  kernel_rfl
theorem look_o (w : World) (os : OsState) : (runE w os).map (fun s => openSeen vw TL (importedModules TP.main.body) Xw true s.abs) = some (openGood vw TL) := by
  have a1 := map_snd (look_a w os)
  have a2 := map_snd a1
  have a3 := map_snd a2
  have a4 := map_snd a3
  have a5 := map_snd a4
  have a6 := map_snd a5
  have f1 := map_snd (look_f w os)
  have f2 := map_snd f1
  have f3 := map_snd f2
  exact map_two (look_b w os) (map_two (map_fst (look_f w os)) (map_two (map_and (map_and (map_and (map_and (map_and (map_and (look_c w os) (map_fst a1)) (map_fst a2)) (map_fst a3)) (map_fst a4)) (map_fst a5)) (map_fst a6))
    (map_two (look_d w os) (map_two (map_fst f1) (map_two (map_fst f2) (map_two (map_fst f3) (map_two (look_e w os) (map_snd f3))))))))
theorem left : LeftO TP vw TL Xw (Hook.obs kh) (Hook.val kh) 6940 :=
  left_of (kp := kept) (fun _ _ => rfl) boot_opens boot_size runE_top (fun w os => map_fst (look_a w os)) look_o
    (fun w os => gt_obs (map_snd (map_snd (map_snd (map_snd (map_snd (map_snd (map_snd (look_a w os)))))))))
theorem said_row : PySem.Challenge.rw_pq1329_01.row.wellSaid = true := by
  rw [PySem.W.Fast.te17960256430627541270]
  kernel_rfl
theorem said : OpenLaw.wellSaid PySem.Challenge.rw_pq1329_01 = true := by
  unfold OpenLaw.wellSaid
  rw [said_row, PySem.W.Fast.sDec_eq, PySem.W.Fast.te8326940854005059898, PySem.W.Fast.te17119622794617984870, PySem.W.Fast.te8179353310426384613, PySem.W.Fast.te9558739934217749035, PySem.W.Fast.te16286561074155671207]
  kernel_rfl
theorem names_ok : namesOk vw (looseW vw TL) (namesW vw TL) = true := by
  rw [PySem.W.Fast.te17448422675489707002, PySem.W.Fast.te821141287760084731]
  kernel_rfl
theorem no_imports : importsNone vw = true := by
  rw [PySem.W.Fast.te2458874890965802552]
  kernel_rfl
theorem chains : chainsOk vw = true := by
  unfold chainsOk
  rw [PySem.W.Fast.te5991557255702980513, PySem.W.Fast.sDec_eq]
  kernel_rfl
theorem row_ok : (chainsOk vw && opensWell PySem.Challenge.rw_pq1329_01.row.prog && (frees PySem.Challenge.rw_pq1329_01.row.toRowW && PySem.Challenge.rw_pq1329_01.row.within.isEmpty)) = true := by
  rw [chains]
  kernel_rfl
end
end Mine
namespace Mine
example : (fun (_ : OpenLaw) (_ : Params → Frag) => True) PySem.Challenge.rw_pq1329_01 fr.heap_1 := by
  k_fill
  trivial
section
open PySem.Calls
abbrev LP : Program := PySem.Challenge.rw_pq1329_01.row.prog
abbrev LTop := Top vw (looseW vw [Str.ofString "number_text"])
abbrev Led := List (Addr × Obj)

/-- no entry of tl stands at the place of an entry of news -/
def Apart (tl news : Led) : Prop := ∀ p ∈ tl, ∀ q ∈ news, @Ne Nat q.1 p.1
theorem Apart.nil (news : Led) : Apart [] news := fun _ h => nomatch h
theorem allLt_mem {d : Addr} {l : Led} (h : AllLt d l) : ∀ q ∈ l, @LT.lt Nat _ q.1 d := by
  induction l with
  | nil => intro q hq; cases hq
  | cons p r ih =>
    intro q hq
    rcases List.mem_cons.mp hq with e | hq
    · rw [e]; exact h.1
    · exact ih h.2 q hq
theorem off1_mem {d : Addr} {l : Led} (h : LCg.Off1 d l) : ∀ q ∈ l, @Ne Nat q.1 d := by
  induction l with
  | nil => intro q hq; cases hq
  | cons p r ih =>
    intro q hq
    rcases List.mem_cons.mp hq with e | hq
    · rw [e]; exact h.1
    · exact ih h.2 q hq
theorem Apart.cons {p : Addr × Obj} {tl news : Led} (h : AllLt p.1 news) (t : Apart tl news) : Apart (p :: tl) news := fun x hx q hq => by
  rcases List.mem_cons.mp hx with rfl | hx
  · exact Nat.ne_of_lt (allLt_mem h q hq)
  · exact t x hx q hq
theorem Apart.cons1 {p : Addr × Obj} {tl news : Led} (h : LCg.Off1 p.1 news) (t : Apart tl news) : Apart (p :: tl) news := fun x hx q hq => by
  rcases List.mem_cons.mp hx with rfl | hx
  · exact off1_mem h q hq
  · exact t x hx q hq
theorem Apart.append {a b news : Led} (h : Apart a news) (t : Apart b news) : Apart (a ++ b) news := fun x hx q hq => by
  rcases List.mem_append.mp hx with hx | hx
  · exact h x hx q hq
  · exact t x hx q hq
theorem Apart.sub {a b news : Led} (h : Apart a news) (t : ∀ p ∈ b, p ∈ news) : Apart a b := fun x hx q hq => h x hx q (t q hq)
theorem Apart.ne {tl news : Led} (h : Apart tl news) {d : Addr} {o : Obj} (m : (d, o) ∈ news) : ∀ p ∈ tl, p.1 ≠ d := fun p hp e => h p hp _ m e.symm
theorem Apart.ne' {tl news : Led} (h : Apart tl news) {d : Addr} {o : Obj} (m : (d, o) ∈ tl) : ∀ p ∈ news, p.1 ≠ d := fun p hp e => h _ m p hp e
theorem allLt_ne {d : Addr} {l : Led} (h : AllLt d l) : ∀ p ∈ l, p.1 ≠ d := fun q hq e => Nat.lt_irrefl _ (e ▸ allLt_mem h q hq)
theorem off1_ne {d : Addr} {l : Led} (h : LCg.Off1 d l) : ∀ p ∈ l, p.1 ≠ d := fun q hq e => off1_mem h q hq e

theorem apart_two {L : Addr} {news : Led} {o o2 : Obj} (h : ∀ p ∈ news, @LT.lt Nat _ p.1 L) : Apart [(@HAdd.hAdd Nat Nat Nat _ (@HAdd.hAdd Nat Nat Nat _ L 1) 1, o), (@HAdd.hAdd Nat Nat Nat _ L 1, o2)] news := by
  intro x hx q hq
  have l := h q hq
  rcases List.mem_cons.mp hx with e | hx
  · subst e; exact Nat.ne_of_lt (Nat.lt_succ_of_lt (Nat.lt_succ_of_lt l))
  · rcases List.mem_cons.mp hx with e | hx
    · subst e; exact Nat.ne_of_lt (Nat.lt_succ_of_lt l)
    · cases hx
theorem apart_one {L : Addr} {news : Led} {o : Obj} (h : ∀ p ∈ news, @LT.lt Nat _ p.1 L) : Apart [(@HAdd.hAdd Nat Nat Nat _ L 1, o)] news := by
  intro x hx q hq
  have l := h q hq
  rcases List.mem_cons.mp hx with e | hx
  · subst e; exact Nat.ne_of_lt (Nat.lt_succ_of_lt l)
  · cases hx

def Tell (k : Nat) (w : World) (mean : ExcName → Option Value) (mg mb : Str → Option Value) (PB : Heap → Prop) (f : Addr) (args : List Value) (news : Led) (Out : Value → Led → Prop) : Prop :=
  ∀ (dp un : Nat) (gd : Option (List Code)) (cn : Str) (cs : Scope) (a : Addr) (ccd : Value) (cl : List (Str × Addr)) (outer : List Env) (A₀ : Around) (base h₀ : Heap) (L : Addr) (m : Str → Option Value) (s : Shared) (Q E : Value → Shared → Prop),
    PB base → Below A₀ base outer h₀ → Fr h₀ L s.heap m → (fr.heap_1 w.params).In h₀ → News h₀ L s.heap news → LTop mean mg mb h₀ → cs.kind = .function →
    dp + k < recursionLimit → un + 20 * k + 100 < cLine →
    (∀ r tl h' tk', Fr h₀ L h' m → News h₀ L h' (tl ++ news) → Apart tl news → Out r tl → Q r { s with heap := h', toks := tk' }) →
    wpAny (model LP w) (ktrTop dp un gd cn cs L a ccd cl outer) (call (.ref f) args) Q E s

theorem tell_end {h₀ h' : Heap} {L : Addr} {m : Str → Option Value} {news all : Led} {s : Shared} {Q : Value → Shared → Prop} {Out : Value → Led → Prop} {r : Value} {tk' : Nat}
    (hret : ∀ r tl h' tk', Fr h₀ L h' m → News h₀ L h' (tl ++ news) → Apart tl news → Out r tl → Q r { s with heap := h', toks := tk' }) (tl : Led)
    (F : Fr h₀ L h' m) (N : News h₀ L h' all) (hs : ∀ p ∈ tl ++ news, p ∈ all) (y : Apart tl news) (o : Out r tl) : Q r { s with heap := h', toks := tk' } :=
  hret r tl h' tk' F (fun p hp => N p (hs p hp)) y o

/-- the use of a contract, at a call -/
theorem tell_use {k : Nat} {w : World} {mean : ExcName → Option Value} {mg mb : Str → Option Value} {PB : Heap → Prop} {f : Addr} {args : List Value} {news : Led} {Out : Value → Led → Prop}
    {dp un : Nat} {gd : Option (List Code)} {cn : Str} {cs : Scope} {a : Addr} {ccd : Value} {cl : List (Str × Addr)} {outer : List Env} {A₀ : Around} {base h₀ : Heap} {L : Addr} {m : Str → Option Value} {s : Shared} {Q E : Value → Shared → Prop}
    (P : PB base) (B : Below A₀ base outer h₀) (F : Fr h₀ L s.heap m) (X : (fr.heap_1 w.params).In h₀) (N : News h₀ L s.heap news) (T : LTop mean mg mb h₀) (hk : cs.kind = .function)
    (C : Tell k w mean mg mb PB f args news Out) (hd : dp + k < recursionLimit) (hu : un + 20 * k + 100 < cLine)
    (ret : ∀ r tl h' tk', Fr h₀ L h' m → News h₀ L h' (tl ++ news) → Apart tl news → Out r tl → Q r { s with heap := h', toks := tk' }) :
    wpAny (model LP w) (ktrTop dp un gd cn cs L a ccd cl outer) (call (.ref f) args) Q E s := C _ _ _ _ _ _ _ _ _ _ _ _ _ _ _ _ _ P B F X N T hk hd hu ret

/-- the object that a tuple of two ints is -/
abbrev tup2 (q : Int × Int) (t1 t2 : Tok) (c : Nat) : Obj := { cls := .type "tuple", data := .seq #[.int q.1 t1, .int q.2 t2] c }
abbrev OutTup (q : Int × Int) : Value → Led → Prop := fun r tl => ∃ D u1 u2 c, r = .ref D ∧ tl = [(D, tup2 q u1 u2 c)]
theorem end_tup {h₀ h' : Heap} {L D : Addr} {m : Str → Option Value} {news rest : Led} {s : Shared} {Q : Value → Shared → Prop} {tk' c : Nat} {x y : Int} {t1 t2 : Tok} {q : Int × Int}
    (hret : ∀ r tl h' tk', Fr h₀ L h' m → News h₀ L h' (tl ++ news) → Apart tl news → OutTup q r tl → Q r { s with heap := h', toks := tk' })
    (F : Fr h₀ L h' m) (N : News h₀ L h' ((D, { cls := .type "tuple", data := .seq #[.int x t1, .int y t2] c }) :: rest)) (e : (x, y) = q) (hs : ∀ p ∈ news, p ∈ rest) (y : AllLt D news) :
    Q (.ref D) { s with heap := h', toks := tk' } := by
  subst e
  refine hret _ [(D, _)] _ _ F (fun p hp => ?_) (Apart.cons y (Apart.nil _)) ⟨D, t1, t2, c, rfl, rfl⟩
  rcases List.mem_cons.mp hp with rfl | hp
  · exact N _ (.head _)
  · exact N _ (.tail _ (hs p hp))
/-- a fraction as the kit's datum -/
abbrev frD (q : Int × Int) : Dat := .tuple [.int q.1, .int q.2]

theorem gcd_fmod {a b : Int} (ha : 0 ≤ a) (hb : 0 ≤ b) : Int.gcd b (a % b) = Int.gcd a b := by
  obtain ⟨x, rfl⟩ := Int.eq_ofNat_of_zero_le ha
  obtain ⟨y, rfl⟩ := Int.eq_ofNat_of_zero_le hb
  rw [← Int.natCast_emod, Int.gcd_natCast_natCast, Int.gcd_natCast_natCast, Nat.gcd_comm x y, Nat.gcd_rec y x, Nat.gcd_comm]
theorem gcd_start (n d : Int) (hd : 0 < d) (hn : n.natAbs < 1000000) (hdd : d < 1000000) : 0 ≤ (if n < 0 then -n else n) ∧ 0 ≤ d ∧ 0 < (if n < 0 then -n else n) + d ∧ (if n < 0 then -n else n) < 1000000 ∧ d < 1000000 ∧ Int.gcd (if n < 0 then -n else n) d = Int.gcd n d := by
  refine ⟨by split <;> omega, by omega, by split <;> omega, by split <;> omega, hdd, ?_⟩
  split
  · exact Int.neg_gcd
  · rfl
theorem gcd_step {n d : Int} {a b : Int} (h1 : 0 ≤ a) (h2 : 0 ≤ b) (h5 : b < 1000000) (h4 : Int.gcd a b = Int.gcd n d) (hb : b ≠ 0) :
    0 ≤ b ∧ 0 ≤ Int.fmod a b ∧ 0 < b + Int.fmod a b ∧ b < 1000000 ∧ Int.fmod a b < 1000000 ∧ Int.gcd b (Int.fmod a b) = Int.gcd n d := by
  have e : Int.fmod a b = a % b := Int.fmod_eq_emod_of_nonneg a h2
  have p : 0 ≤ a % b := Int.emod_nonneg a hb
  have q : a % b < b := Int.emod_lt_of_pos a (by omega)
  rw [e]
  refine ⟨h2, p, by omega, h5, by omega, ?_⟩
  rw [← h4, gcd_fmod h1 h2]
theorem gcd_less {a b : Int} (h2 : 0 ≤ b) (hb : b ≠ 0) : (Int.fmod a b).toNat < b.toNat := by
  have e : Int.fmod a b = a % b := Int.fmod_eq_emod_of_nonneg a h2
  have p : 0 ≤ a % b := Int.emod_nonneg a hb
  have q : a % b < b := Int.emod_lt_of_pos a (by omega)
  rw [e]; omega

/-- the fraction n / d in lowest terms, as Python's own // gives its two parts -/
def nrm (n d : Int) : Int × Int := (n.fdiv (Int.gcd n d), d.fdiv (Int.gcd n d))
theorem nrm_of {n d a b : Int} (h1 : 0 ≤ a) (hb : b = 0) (h : Int.gcd a b = Int.gcd n d) : (n.fdiv a, d.fdiv a) = nrm n d := by
  subst hb
  rw [Int.gcd_zero_right] at h
  unfold nrm
  rw [← h, Int.natAbs_of_nonneg h1]
theorem tup_nrm {n d a b : Int} {t1 t2 : Tok} {c : Nat} (h1 : 0 ≤ a) (hb : b = 0) (h : Int.gcd a b = Int.gcd n d) :
    ({ cls := .type "tuple", data := .seq #[.int (n.fdiv a) t1, .int (d.fdiv a) t2] c } : Obj) = tup2 (nrm n d) t1 t2 c := by
  rw [← nrm_of h1 hb h]
abbrev anyB : Heap → Prop := fun _ => True
abbrev OutInt (i : Int) : Value → Led → Prop := fun r tl => ∃ t, r = .int i t ∧ tl = []
theorem end_int {h₀ h' : Heap} {L : Addr} {m : Str → Option Value} {news rest : Led} {s : Shared} {Q : Value → Shared → Prop} {tk' : Nat} {x i : Int} {t : Tok}
    (hret : ∀ r tl h' tk', Fr h₀ L h' m → News h₀ L h' (tl ++ news) → Apart tl news → OutInt i r tl → Q r { s with heap := h', toks := tk' })
    (F : Fr h₀ L h' m) (N : News h₀ L h' rest) (e : x = i) (hs : ∀ p ∈ news, p ∈ rest) :
    Q (.int x t) { s with heap := h', toks := tk' } := by
  subst e
  exact hret _ [] _ _ F (fun p hp => N _ (hs p hp)) (Apart.nil _) ⟨t, rfl, rfl⟩
def cellV (ns : List Int) (i : Int) : Int := ((ns.getD i.toNat 0).natAbs : Int)
theorem cellV_nonneg (ns : List Int) (i : Int) : 0 ≤ cellV ns i := by unfold cellV; omega
theorem cellV_in {ns : List Int} {i : Int} : (if ns.getD i.toNat 0 < 0 then -(ns.getD i.toNat 0) else ns.getD i.toNat 0) = cellV ns i := by
  unfold cellV; split <;> omega
theorem cellV_out {ns : List Int} {i : Int} (h : ¬ i < (ns.length : Int)) : 0 = cellV ns i := by
  unfold cellV
  rw [List.getD_eq_getElem?_getD, List.getElem?_eq_none (by omega)]; rfl
section
variable {prog : Program} {w : World} {A : Around} {h₀ : Heap} {L : Addr} {m : Str → Option Value} {env : Env} {elt : Expr} {x : Str} {scope : Scope} {cl : List (Str × Addr)} {s : Shared} {S : Led → Prop} {P : Nat → Value → Prop} {Fin : List Value → Led → Prop} {news : Led}
/-- a comprehension's turns, the ledger growing: what holds between them -/
theorem comp_grow {n : Nat} (J : Nat → List Value → Led → Prop) (h0 : J 0 [] news)
    (turn : ∀ i v I oI C oC D m₂ ys nw h tk (E' : Value → Shared → Prop), i < n → P i v → J i ys nw → LCg.NsObj oC m₂ → m₂ x = some v → Fr h₀ L h m → News h₀ L h ((I, oI) :: (C, oC) :: (D, LCg.lst ys) :: nw) → LCg.Off3 I C D nw → ((@Ne Nat I C) ∧ (@Ne Nat I D) ∧ (@Ne Nat C D)) →
      wpAny (model prog w) A (eval elt (compEnvC scope cl C env)) (LCg.CompEnd h₀ L m { s with heap := h, toks := tk } I oI C oC D (LCg.lst ys) S (fun y nw' => J (i + 1) (ys ++ [y]) nw')) E' { s with heap := h, toks := tk })
    (fin : ∀ ys nw, J n ys nw → Fin ys nw) : LCg.CompRest prog w A h₀ L m env elt x scope cl s S P Fin n 0 [] news := by
  have key : ∀ (j i : Nat) (ys : List Value) (nw : Led), i + j = n → J i ys nw → LCg.CompRest prog w A h₀ L m env elt x scope cl s S P Fin j i ys nw := by
    intro j
    induction j with
    | zero =>
      intro i ys nw hi hy
      have e : i = n := by omega
      subst e
      exact LCg.CompRest.zero (fin ys nw hy)
    | succ j ih =>
      intro i ys nw hi hy
      refine LCg.CompRest.succ ?_
      intro v I oI C oC D m₂ h tk E' hv hC hx F N off ne
      refine wpAny_mono (turn i v I oI C oC D m₂ ys nw h tk E' (by omega) hv hy hC hx F N off ne) (fun y s₂ hq => ?_) fun _ _ e => e
      obtain ⟨h', tk', nw', e, F', N', off', hS, hJ⟩ := hq
      exact ⟨h', tk', nw', e, F', N', off', hS, ih (i + 1) _ _ (by omega) hJ⟩
  exact key n 0 [] news (by omega) h0

/-- what a turn of a comprehension hands on, when its items are data -/
def TurnEnd (tl K news : Led) (d : Dat) (y : Value) (nw : Led) : Prop := ∃ tl', nw = tl' ++ (tl ++ news) ∧ Apart tl' news ∧ DatIn (tl' ++ (tl ++ K)) y d
/-- a comprehension whose items are data, item i being ds i -/
theorem comp_dat {n : Nat} (K : Led) (ds : Nat → Dat)
    (turn : ∀ (i : Nat) v I oI C oC D m₂ ys tl h tk (E' : Value → Shared → Prop), i < n → P i v → DatAll (tl ++ K) ys ((List.range i).map ds) → Apart tl news → LCg.NsObj oC m₂ → m₂ x = some v → Fr h₀ L h m → News h₀ L h ((I, oI) :: (C, oC) :: (D, LCg.lst ys) :: (tl ++ news)) → LCg.Off3 I C D (tl ++ news) → ((@Ne Nat I C) ∧ (@Ne Nat I D) ∧ (@Ne Nat C D)) →
      wpAny (model prog w) A (eval elt (compEnvC scope cl C env)) (LCg.CompEnd h₀ L m { s with heap := h, toks := tk } I oI C oC D (LCg.lst ys) S (TurnEnd tl K news (ds i))) E' { s with heap := h, toks := tk })
    (fin : ∀ ys tl, Apart tl news → DatAll (tl ++ K) ys ((List.range n).map ds) → Fin ys (tl ++ news)) : LCg.CompRest prog w A h₀ L m env elt x scope cl s S P Fin n 0 [] news := by
  refine comp_grow (fun i ys nw => ∃ tl, nw = tl ++ news ∧ Apart tl news ∧ DatAll (tl ++ K) ys ((List.range i).map ds)) ⟨[], rfl, Apart.nil _, .nil⟩ ?_ ?_
  · rintro i v I oI C oC D m₂ ys nw h tk E' hi hP ⟨tl, rfl, hA, hD⟩ hC hx F N off ne
    refine wpAny_mono (turn i v I oI C oC D m₂ ys tl h tk E' hi hP hD hA hC hx F N off ne) (fun y s₂ hq => ?_) fun _ _ e => e
    obtain ⟨h', tk', nw', e, F', N', off', hS, tl', rfl, hA', hy⟩ := hq
    refine ⟨h', tk', _, e, F', N', off', hS, tl' ++ tl, by rw [List.append_assoc], hA'.append hA, ?_⟩
    rw [List.range_succ, List.map_append, List.append_assoc]
    exact (hD.mono fun p hp => List.mem_append.mpr (.inr hp)).append (DatAll.one hy)
  · rintro ys nw ⟨tl, rfl, hA, hD⟩
    exact fin ys tl hA hD
theorem comp_range_dat {n : Nat} {a : Int} (K : Led) (ds : Nat → Dat)
    (turn : ∀ (i : Nat) t I oI C oC D m₂ ys tl h tk (E' : Value → Shared → Prop), i < n → DatAll (tl ++ K) ys ((List.range i).map ds) → Apart tl news → LCg.NsObj oC m₂ → m₂ x = some (.int (a + (i : Int)) t) → Fr h₀ L h m → News h₀ L h ((I, oI) :: (C, oC) :: (D, LCg.lst ys) :: (tl ++ news)) → LCg.Off3 I C D (tl ++ news) → ((@Ne Nat I C) ∧ (@Ne Nat I D) ∧ (@Ne Nat C D)) →
      wpAny (model prog w) A (eval elt (compEnvC scope cl C env)) (LCg.CompEnd h₀ L m { s with heap := h, toks := tk } I oI C oC D (LCg.lst ys) S (TurnEnd tl K news (ds i))) E' { s with heap := h, toks := tk })
    (fin : ∀ ys tl, Apart tl news → DatAll (tl ++ K) ys ((List.range n).map ds) → Fin ys (tl ++ news)) : LCg.CompRest prog w A h₀ L m env elt x scope cl s S (fun i v => ∃ t, v = .int (a + (i : Int)) t) Fin n 0 [] news :=
  comp_dat K ds (fun i v I oI C oC D m₂ ys tl h tk E' hi hv => by obtain ⟨t, e⟩ := hv; subst e; exact turn i t I oI C oC D m₂ ys tl h tk E' hi) fin
/-- a turn's end whose item is a tuple just made -/
theorem turn_tup {s₁ : Shared} {I C D T : Addr} {oI oC : Obj} {ys : List Value} {tl K : Led} {q q' : Int × Int} {u1 u2 : Tok} {c : Nat} {h' : Heap} {tk : Nat}
    (F : Fr h₀ L h' m) (N : News h₀ L h' ((T, tup2 q u1 u2 c) :: (I, oI) :: (C, oC) :: (D, LCg.lst ys) :: (tl ++ news))) (off : LCg.Off3 I C D (tl ++ news))
    (ap : Apart [(T, tup2 q u1 u2 c)] ((I, oI) :: (C, oC) :: (D, LCg.lst ys) :: (tl ++ news))) (hS : S ((T, tup2 q u1 u2 c) :: (tl ++ news))) (eq : q = q') :
    LCg.CompEnd h₀ L m s₁ I oI C oC D (LCg.lst ys) S (TurnEnd tl K news (frD q')) (.ref T) { s₁ with heap := h', toks := tk } := by
  subst eq
  have a := ap (T, tup2 q u1 u2 c) (.head _)
  refine LCg.CompEnd.intro F N ((T, tup2 q u1 u2 c) :: (tl ++ news)) ?_ ⟨⟨(a _ (.head _)).symm, (a _ (.tail _ (.head _))).symm, (a _ (.tail _ (.tail _ (.head _)))).symm⟩, off⟩ hS
    ⟨[(T, tup2 q u1 u2 c)], rfl, ap.sub fun p hp => .tail _ (.tail _ (.tail _ (List.mem_append.mpr (.inr hp)))), DatIn.tuple (vs := [.int q.1 u1, .int q.2 u2]) (.head _) (.cons (.int _ _) (.cons (.int _ _) .nil))⟩
  intro p hp
  simp only [List.mem_cons] at hp ⊢
  rcases hp with h | h | h | h | h
  · exact .inr (.inl h)
  · exact .inr (.inr (.inl h))
  · exact .inr (.inr (.inr (.inl h)))
  · exact .inl h
  · exact .inr (.inr (.inr (.inr h)))
/-- a turn's end whose item is a datum of old -/
theorem turn_old {s₁ : Shared} {I C D : Addr} {oI oC : Obj} {ys : List Value} {tl K : Led} {d : Dat} {y : Value} {h' : Heap} {tk : Nat}
    (F : Fr h₀ L h' m) (N : News h₀ L h' ((I, oI) :: (C, oC) :: (D, LCg.lst ys) :: (tl ++ news))) (off : LCg.Off3 I C D (tl ++ news)) (hS : S (tl ++ news)) (hy : DatIn (tl ++ K) y d) :
    LCg.CompEnd h₀ L m s₁ I oI C oC D (LCg.lst ys) S (TurnEnd tl K news d) y { s₁ with heap := h', toks := tk } :=
  LCg.CompEnd.intro F N (tl ++ news) (fun _ h => h) off hS ⟨[], rfl, Apart.nil _, hy⟩
end
/-- a new list of data: nothing of it lies in the older ledger -/
abbrev OutList (ds : List Dat) : Value → Led → Prop := fun r tl => ∃ D vs c tl', r = .ref D ∧ tl = (D, listOf vs.toArray c) :: tl' ∧ DatAll tl' vs ds

theorem end_list {h₀ h' : Heap} {L D : Addr} {m : Str → Option Value} {news tl mid : Led} {s : Shared} {Q : Value → Shared → Prop} {tk' : Nat} {ys : List Value} {ds : List Dat}
    (hret : ∀ r tl h' tk', Fr h₀ L h' m → News h₀ L h' (tl ++ news) → Apart tl news → OutList ds r tl → Q r { s with heap := h', toks := tk' })
    (F : Fr h₀ L h' m) (N : News h₀ L h' ((D, LCg.lst ys) :: (tl ++ (mid ++ news)))) (Da : DatAll (tl ++ []) ys ds) (o : ∀ q ∈ news, q.1 ≠ D) (ap : Apart tl (mid ++ news)) :
    Q (.ref D) { s with heap := h', toks := tk' } := by
  refine hret _ ((D, LCg.lst ys) :: tl) _ _ F (fun p hp => N p ?_) ?_ ⟨D, ys, ys.length, tl, rfl, rfl, by simpa using Da⟩
  · simp only [List.cons_append, List.mem_cons, List.mem_append] at hp ⊢
    rcases hp with h | h | h
    · exact .inl h
    · exact .inr (.inl h)
    · exact .inr (.inr (.inr h))
  · intro x hx q hq
    rcases List.mem_cons.mp hx with rfl | hx
    · exact o q hq
    · exact ap x hx q (List.mem_append.mpr (.inr hq))
/-- the __dict__ of a Vector -/
abbrev vecDict (w : World) (k1 k2 k3 k4 k5 : Tok) (kind items attrs sh lo : Value) : Obj :=
  dictOf [⟨PyData.keyHash w.params (Str.ofString "kind"), .str (Str.ofString "kind") k1, kind⟩, ⟨PyData.keyHash w.params (Str.ofString "items"), .str (Str.ofString "items") k2, items⟩, ⟨PyData.keyHash w.params (Str.ofString "attrs"), .str (Str.ofString "attrs") k3, attrs⟩,
    ⟨PyData.keyHash w.params (Str.ofString "shared"), .str (Str.ofString "shared") k4, sh⟩, ⟨PyData.keyHash w.params (Str.ofString "loose"), .str (Str.ofString "loose") k5, lo⟩] 5
/-- at x stands a Vector of that kind, its items the list at D -/
structure VecAt (w : World) (news : Led) (x : Addr) (kind : Str) (D : Addr) (attrs : Value) : Prop where
  ex : ∃ dx k1 k2 k3 k4 k5 tk sh lo, (x, instObj 179 dx) ∈ news ∧ (dx, vecDict w k1 k2 k3 k4 k5 (.str kind tk) (.ref D) attrs sh lo) ∈ news
theorem VecAt.mono {w : World} {news news' : Led} {x D : Addr} {kind : Str} {attrs : Value} (h : VecAt w news x kind D attrs) (s : ∀ p ∈ news, p ∈ news') : VecAt w news' x kind D attrs := by
  obtain ⟨dx, k1, k2, k3, k4, k5, tk, sh, lo, h1, h2⟩ := h.ex
  exact ⟨dx, k1, k2, k3, k4, k5, tk, sh, lo, s _ h1, s _ h2⟩
section
variable {prog : Program} {w : World} {A : Around} {E : Value → Shared → Prop} {s : Shared} {h₀ : Heap} {L l : Addr} {news : Led} {vs : List Value} {c : Nat} {Q : Value → Shared → Prop}
theorem len_mem (N : News h₀ L s.heap news) (hm : (l, listOf vs.toArray c) ∈ news) (hz : vs.length < 2 ^ 60)
    (h : Q (.int (vs.length : Int) (s.toks + 1)) { s with toks := s.toks + 1 + 1 }) : wpAny (model prog w) A (call (.builtin "len") [.ref l]) Q E s :=
  len_list (News.isList N hm) (by simp only [List.size_toArray]; omega) (by simpa using h)
theorem item_mem {value slice : Expr} {k : Int} {u : Tok} {n₁ : Led} {ds : List Dat} (N : News h₀ L s.heap news) (hm : (l, listOf vs.toArray c) ∈ news) (D : DatAll n₁ vs ds) (h0 : 0 ≤ k) (hk : k < (ds.length : Int)) (hb : k < 2 ^ 60)
    (h : ∀ v d, vs[k.toNat]? = some v → ds[k.toNat]? = some d → DatIn n₁ v d → Q v s)
    (hs : subscripted slice false (.ref l) (.int k u) = operate [.ref l, .int k u] (getItem (.ref l) (.int k u)) := by with_unfolding_all rfl) (hg : ∀ r, letTemporaryGo value (.ref l) r = pure () := by intro _; with_unfolding_all rfl) :
    wpAny (model prog w) A (subscriptTail value slice (.ref l) (.int k u)) Q E s := by
  have hk' : k.toNat < ds.length := by omega
  obtain ⟨v, hv, hd⟩ := D.get hk'
  exact item_listL (News.isList N hm) h0 (by omega) hv (h v _ hv (List.getElem?_eq_getElem hk') hd) hs hg
end
/-- the names that a Vector's attrs tell: none, or the items of the Vector under 'names' -/
inductive NamesAt (w : World) (news : Led) : Value → Option (List Dat) → Prop
  | none : NamesAt w news .none none
  | some {ad nx nD : Addr} {o : Obj} {nvs : List Value} {nc : Nat} {ds : List Dat} : (ad, o) ∈ news → o.IsDictOf (PySem.strKind LP w) [(Str.ofString "names", .ref nx)] → (ad == sysModules) = false →
      VecAt w news nx (Str.ofString "character") nD .none → (nD, listOf nvs.toArray nc) ∈ news → DatAll [] nvs ds → NamesAt w news (.ref ad) (some ds)
theorem NamesAt.mono {w : World} {news news' : Led} {v : Value} {ds : Option (List Dat)} (h : NamesAt w news v ds) (s : ∀ p ∈ news, p ∈ news') : NamesAt w news' v ds := by
  cases h with
  | none => exact .none
  | some h1 h2 h3 h4 h5 h6 => exact .some (s _ h1) h2 h3 (h4.mono s) (s _ h5) h6
/-- a Vector of kind double just made: its items, its names -/
abbrev OutVec (w : World) (vs : List Value) (nms : Option (List Dat)) : Value → Led → Prop := fun r tl => ∃ x D c attrs, r = .ref x ∧ VecAt w tl x (Str.ofString "double") D attrs ∧ (D, listOf vs.toArray c) ∈ tl ∧ NamesAt w tl attrs nms
abbrev nmD (n : Nat) : List Dat := (List.range n).map fun (k : Nat) => Dat.str (Str.mk #[65 + k])
theorem datAll_strs {l l' : Led} {f : Nat → Str} : ∀ {n : List Nat} {ys : List Value}, DatAll l ys (n.map fun k => Dat.str (f k)) → DatAll l' ys (n.map fun k => Dat.str (f k))
  | [], _, h => by cases h; exact .nil
  | _ :: _, _, h => by
    cases h with
    | cons h r =>
      cases h with
      | str x t => exact .cons (.str _ _) (datAll_strs r)

theorem allLt_lt {d x : Addr} {l : Led} (h : AllLt d l) (k : @LT.lt Nat _ d x) : ∀ q ∈ l, @Ne Nat q.1 x := fun q hq => Nat.ne_of_lt (Nat.lt_trans (allLt_mem h q hq) k)
theorem allLt_ne' {d : Addr} {l : Led} (h : AllLt d l) : ∀ q ∈ l, @Ne Nat q.1 d := fun q hq => Nat.ne_of_lt (allLt_mem h q hq)
theorem Apart.c {p : Addr × Obj} {tl news : Led} (h : ∀ q ∈ news, @Ne Nat q.1 p.1) (t : Apart tl news) : Apart (p :: tl) news := fun x hx q hq => by
  rcases List.mem_cons.mp hx with rfl | hx
  · exact h q hq
  · exact t x hx q hq
theorem pick34 {h₀ h : Heap} {L : Addr} {e1 e2 e3 e4 e5 e6 e7 : Addr × Obj} {tl news : Led} (N : News h₀ L h (e1 :: e2 :: e3 :: (tl ++ e4 :: e5 :: e6 :: e7 :: news))) : News h₀ L h ([e1, e2, e3, e4, e5, e6, e7] ++ news) := fun p hp => N p (by
  simp only [List.cons_append, List.nil_append, List.mem_cons, List.mem_append] at hp ⊢
  rcases hp with h | h | h | h | h | h | h | h <;> simp [h])

/-- a copy of a list: what it holds is old -/
abbrev OutCopy (vs : List Value) : Value → Led → Prop := fun r tl => ∃ D c, r = .ref D ∧ tl = [(D, listOf vs.toArray c)]
theorem end_copy {h₀ h' : Heap} {L D : Addr} {m : Str → Option Value} {news all : Led} {s : Shared} {Q : Value → Shared → Prop} {tk' c : Nat} {vs : List Value}
    (hret : ∀ r tl h' tk', Fr h₀ L h' m → News h₀ L h' (tl ++ news) → Apart tl news → OutCopy vs r tl → Q r { s with heap := h', toks := tk' })
    (F : Fr h₀ L h' m) (N : News h₀ L h' all) (hm : (D, listOf vs.toArray c) ∈ all) (hs : ∀ p ∈ news, p ∈ all) (a : ∀ q ∈ news, @Ne Nat q.1 D) : Q (.ref D) { s with heap := h', toks := tk' } := by
  refine hret _ [(D, listOf vs.toArray c)] _ _ F (fun p hp => ?_) (Apart.c a (Apart.nil _)) ⟨D, c, rfl, rfl⟩
  rcases List.mem_cons.mp hp with rfl | hp
  · exact N _ hm
  · exact N _ (hs p hp)

abbrev OutGcd (a b : Int) : Value → Led → Prop := fun r tl => ∃ g t, r = .int g t ∧ tl = [] ∧ 0 < g ∧ g < 1000000 ∧ g = (Int.gcd a b : Int)
theorem end_gcd {h₀ h' : Heap} {L : Addr} {m : Str → Option Value} {news rest : Led} {s : Shared} {Q : Value → Shared → Prop} {tk' : Nat} {x y a b : Int} {t : Tok}
    (hret : ∀ r tl h' tk', Fr h₀ L h' m → News h₀ L h' (tl ++ news) → Apart tl news → OutGcd a b r tl → Q r { s with heap := h', toks := tk' })
    (F : Fr h₀ L h' m) (N : News h₀ L h' rest) (hs : ∀ p ∈ news, p ∈ rest) (hg : Int.gcd x y = Int.gcd a b) (h0 : 0 ≤ x) (hy : y = 0) (hp : 0 < x + y) (hl : x < 1000000) :
    Q (.int x t) { s with heap := h', toks := tk' } := by
  refine hret _ [] _ _ F (fun p hp => N _ (hs p hp)) (Apart.nil _) ⟨x, t, rfl, rfl, by omega, hl, ?_⟩
  rw [← hg, hy, Int.gcd_zero_right, Int.natAbs_of_nonneg h0]
abbrev OutBool (b : Bool) : Value → Led → Prop := fun r tl => r = .bool b ∧ tl = []
theorem end_bool {h₀ h' : Heap} {L : Addr} {m : Str → Option Value} {news rest : Led} {s : Shared} {Q : Value → Shared → Prop} {tk' : Nat} {b b' : Bool}
    (hret : ∀ r tl h' tk', Fr h₀ L h' m → News h₀ L h' (tl ++ news) → Apart tl news → OutBool b r tl → Q r { s with heap := h', toks := tk' })
    (F : Fr h₀ L h' m) (N : News h₀ L h' rest) (hs : ∀ p ∈ news, p ∈ rest) (e : b' = b) : Q (.bool b') { s with heap := h', toks := tk' } :=
  hret _ [] _ _ F (fun p hp => N _ (hs p hp)) (Apart.nil _) ⟨by rw [e], rfl⟩
theorem nrm_abs {n d g : Int} (h : g = (Int.gcd (if n < 0 then -n else n) d : Int)) : (n.fdiv g, d.fdiv g) = nrm n d := by
  unfold nrm
  rw [h]
  split
  · rw [Int.neg_gcd]
  · rfl
theorem mul_small {a b : Int} (ha : a.natAbs < 1000) (hb : b.natAbs < 1000) : (a * b).natAbs < 1000000 := by
  rw [Int.natAbs_mul]
  have := Nat.mul_le_mul (Nat.le_of_lt_succ (show a.natAbs < 999 + 1 from ha)) (Nat.le_of_lt_succ (show b.natAbs < 999 + 1 from hb))
  omega

/-- small enough for one product or sum more -/
def Sm (q : Int × Int) : Prop := q.1.natAbs < 700 ∧ 0 < q.2 ∧ q.2 < 700
theorem Sm.mul {q p : Int × Int} (h : Sm q) (k : Sm p) : (q.1 * p.1).natAbs < 1000000 ∧ 0 < q.2 * p.2 ∧ q.2 * p.2 < 1000000 := by
  obtain ⟨h1, h2, h3⟩ := h
  obtain ⟨k1, k2, k3⟩ := k
  refine ⟨mul_small (by omega) (by omega), Int.mul_pos h2 k2, ?_⟩
  have := mul_small (a := q.2) (b := p.2) (by omega) (by omega)
  omega
theorem mul_690 {a b : Int} (ha : a.natAbs < 700) (hb : b.natAbs < 700) : (a * b).natAbs ≤ 488601 := by
  rw [Int.natAbs_mul]
  exact Nat.mul_le_mul (Nat.le_of_lt_succ (show a.natAbs < 699 + 1 from ha)) (Nat.le_of_lt_succ (show b.natAbs < 699 + 1 from hb))
theorem Sm.plus {q p : Int × Int} (h : Sm q) (k : Sm p) : (q.1 * p.2 + p.1 * q.2).natAbs < 1000000 := by
  obtain ⟨h1, h2, h3⟩ := h
  obtain ⟨k1, k2, k3⟩ := k
  have a := mul_690 (a := q.1) (b := p.2) h1 (by omega)
  have b := mul_690 (a := p.1) (b := q.2) k1 (by omega)
  omega

theorem upd_app {d : Addr} {o o' : Obj} {l l' : Led} : ∀ {tl : Led}, (∀ p ∈ tl, p.1 ≠ d) → Upd d o o' l l' → Upd d o o' (tl ++ l) (tl ++ l')
  | [], _, u => u
  | _ :: _, h, u => .tail (h _ (.head _)) (upd_app (fun q hq => h q (.tail _ hq)) u)
theorem updF_app {d : Addr} {o : Obj} {l : Led} {g : Obj → Led} : ∀ {tl : Led}, (∀ p ∈ tl, p.1 ≠ d) → UpdF d o l g → UpdF d o (tl ++ l) (fun o' => tl ++ g o')
  | [], _, u => u
  | _ :: _, h, u => .tail (h _ (.head _)) (updF_app (fun q hq => h q (.tail _ hq)) u)
theorem allLt_app {d : Addr} {a b : Led} : AllLt d (a ++ b) = (AllLt d a ∧ AllLt d b) := by
  induction a with
  | nil => simp [AllLt]
  | cons p r ih => simp only [List.cons_append, AllLt, ih, and_assoc]
theorem off1_app {d : Addr} {a b : Led} : LCg.Off1 d (a ++ b) = (LCg.Off1 d a ∧ LCg.Off1 d b) := by
  induction a with
  | nil => simp [LCg.Off1]
  | cons p r ih => simp only [List.cons_append, LCg.Off1, ih, and_assoc]
end
section
open PySem.Calls
def LpEnd (h₀ : Heap) (L : Addr) (I : Addr) (oI : Obj) (J : (Str → Option Value) → Led → Prop) (s₁ s₂ : Shared) : Prop :=
  ∃ h' tk m' news', s₂ = { s₁ with heap := h', toks := tk } ∧ Fr h₀ L h' m' ∧ News h₀ L h' ((I, oI) :: news') ∧ (∀ p ∈ news', p.1 ≠ I) ∧ J m' news'
def LpPost (h₀ : Heap) (L : Addr) (I : Addr) (oI : Obj) (J : (Str → Option Value) → Led → Prop) (s₁ : Shared) (Q : Flow → Shared → Prop) (f : Flow) (s₂ : Shared) : Prop :=
  match f with
  | .ret v => Q (.ret v) s₂
  | .brk => Q .next s₂
  | _ => LpEnd h₀ L I oI J s₁ s₂
section
variable {prog : Program} {w : World} {A : Around} {E : Value → Shared → Prop} {s : Shared} {env : Env} {h₀ : Heap} {x : Str} {body : List Stmt} {Q : Flow → Shared → Prop}
theorem loop_list {l : Addr} {vs : List Value} {c : Nat} {m₀ : Str → Option Value} {news : Led} (J : Nat → (Str → Option Value) → Led → Prop) (hh : A.handled = none) (hJl : ∀ i m nw, J i m nw → (l, listOf vs.toArray c) ∈ nw)
    (F : Fr h₀ env.locals s.heap m₀) (N : News h₀ env.locals s.heap news) (hj : J 0 m₀ news)
    (turn : ∀ i v m₁ nw I oI h tk, vs[i]? = some v → J i m₁ nw → Fr h₀ env.locals h (fun y => if y = x then some v else m₁ y) → News h₀ env.locals h ((I, oI) :: nw) → (∀ p ∈ nw, p.1 ≠ I) →
      wpAny (model prog w) A (execs body env) (LpPost h₀ env.locals I oI (J (i + 1)) { s with heap := h, toks := tk } Q) E { s with heap := h, toks := tk })
    (done : ∀ m₁ nw h tk, J vs.length m₁ nw → Fr h₀ env.locals h m₁ → News h₀ env.locals h nw → Q .next { s with heap := h, toks := tk }) :
    wpAny (model prog w) A (pyIter (.ref l)) (fun it s₂ => LoopAtV prog w A h₀ env x body Q E it s₂) E s := by
  have hm := hJl 0 m₀ news hj
  have hls : s.heap.IsList l vs.toArray := News.isList N hm
  have hlt : l < s.heap.objs.size := Heap.lt_size (N _ hm).1
  have hne : l ≠ s.heap.objs.size := Nat.ne_of_lt hlt
  have hl0 : h₀.get? l = none := (N _ hm).2.2
  refine wpAny_pyIter_list hls ?_
  have W := Walks.list (prog := prog) (w := w) hh s.heap.objs.size l hne vs.toArray
  have hlen : vs.toArray.size = vs.length := by simp
  rw [hlen] at W
  refine ⟨_, _, _, vs.length, _, _, m₀, news, J, rfl, W, ?_, ?_, ?_, ⟨⟨_, Heap.get?_push_size _ rfl, rfl, rfl⟩, hls.at fun o e => Heap.get?_push_of_some _ e⟩, F.push _, (fun p hp => ⟨Heap.get?_push_of_some _ (N p hp).1, (N p hp).2⟩), hj, ?_, ?_⟩
  · intro hm'
    rcases List.mem_cons.mp hm' with e | hm'
    · exact absurd F.ns.lt (e ▸ Nat.lt_irrefl _)
    · exact (N _ hm).2.1 (List.mem_singleton.mp hm').symm
  · intro b hb
    rw [List.mem_singleton.mp hb]
    exact next_is_new F
  · intro p hp hI
    exact absurd (Heap.lt_size (N p hp).1) ((List.mem_singleton.mp hI) ▸ Nat.lt_irrefl _)
  · rintro i v m₁ nw s₁ own ⟨hh', tk', rfl⟩ hin hP hJ hoff hown hget hall hSt F₁ N₁
    obtain ⟨⟨oI, hI, _⟩, _⟩ := id hSt
    have hmI : (s.heap.objs.size, oI) ∈ own := hall _ (List.mem_cons_self ..) (next_is_new F) _ hI
    have hml := hJl i m₁ nw hJ
    have N₂ : News h₀ env.locals hh' ((s.heap.objs.size, oI) :: nw) := fun p hp => by
      rcases List.mem_cons.mp hp with rfl | hp
      · exact N₁ _ (List.mem_append_left _ hmI)
      · exact N₁ p (List.mem_append_right _ hp)
    have hoff' : ∀ p ∈ nw, p.1 ≠ s.heap.objs.size := fun p hp e => hoff p hp (by rw [e]; exact List.mem_singleton.mpr rfl)
    refine wpAny_mono (turn i v m₁ nw s.heap.objs.size oI hh' tk' (by simpa using hP) hJ F₁ N₂ hoff') (fun f s₂ p => ?_) fun _ _ e => e
    have fin : LpEnd h₀ env.locals s.heap.objs.size oI (J (i + 1)) { s with heap := hh', toks := tk' } s₂ → LoopStepU h₀ env.locals [s.heap.objs.size] own (J (i + 1)) { s with heap := hh', toks := tk' } .next s₂ := by
      rintro ⟨h', tk, m', news', e, F', N', ho, hm'⟩
      refine ⟨rfl, h', tk, m', news', e, F', fun p hp => ?_, fun p hp hI => ho p hp (List.mem_singleton.mp hI), hm'⟩
      rcases List.mem_append.mp hp with hp | hp
      · have g1 := hget p hp
        rcases List.mem_cons.mp (hown p hp) with e1 | e1
        · have g2 : p.2 = oI := by rw [e1] at g1; rw [hI] at g1; exact (Option.some.inj g1).symm
          rw [show p = (s.heap.objs.size, oI) from by rw [← e1, ← g2]]
          exact N' _ (.head _)
        · have e1 := List.mem_singleton.mp e1
          have g3 := (N₁ _ (List.mem_append_right own hml)).1
          have g2 : p.2 = listOf vs.toArray c := by rw [e1] at g1; rw [g3] at g1; exact (Option.some.inj g1).symm
          rw [show p = (l, listOf vs.toArray c) from by rw [← e1, ← g2]]
          exact N' _ (.tail _ (hJl _ _ _ hm'))
      · exact N' p (.tail _ hp)
    cases f with
    | ret v => exact .ret p
    | brk => exact .brk p
    | next => exact .next (fin p)
    | cont => exact .cont (fin p)
  · rintro h' tk m' news' F' N' _ hJ
    exact done m' news' h' tk hJ F' N'

theorem loop_range {r : Addr} {a b : Int} {t u v : Tok} {n : Nat} {m₀ : Str → Option Value} {news : Led} (J : Nat → (Str → Option Value) → Led → Prop) (hh : A.handled = none)
    (hr : IsRange s.heap r a b 1 t u v) (hsm : Builtin.Range.small a b 1 = true) (hn : Builtin.Range.rangeSize a b 1 = ((n : Nat) : Int))
    (F : Fr h₀ env.locals s.heap m₀) (N : News h₀ env.locals s.heap news) (hj : J 0 m₀ news)
    (turn : ∀ i t m₁ nw I oI h tk, i < n → J i m₁ nw → Fr h₀ env.locals h (fun y => if y = x then some (.int (a + ((i : Nat) : Int)) t) else m₁ y) → News h₀ env.locals h ((I, oI) :: nw) → (∀ p ∈ nw, p.1 ≠ I) →
      wpAny (model prog w) A (execs body env) (LpPost h₀ env.locals I oI (J (i + 1)) { s with heap := h, toks := tk } Q) E { s with heap := h, toks := tk })
    (done : ∀ m₁ nw h tk, J n m₁ nw → Fr h₀ env.locals h m₁ → News h₀ env.locals h nw → Q .next { s with heap := h, toks := tk }) :
    wpAny (model prog w) A (pyIter (.ref r)) (fun it s₂ => LoopAtV prog w A h₀ env x body Q E it s₂) E s := by
  refine wpAny_pyIter_range hr hsm ?_
  rw [hn]
  have W := LCg.range_walks (prog := prog) (w := w) (I := s.heap.objs.size) hh a n
  refine ⟨_, _, _, n, _, _, m₀, news, J, rfl, W, ?_, ?_, ?_, ?_, F.push _, (fun p hp => ⟨Heap.get?_push_of_some _ (N p hp).1, (N p hp).2⟩), hj, ?_, ?_⟩
  · intro hm'
    exact absurd F.ns.lt ((List.mem_singleton.mp hm') ▸ Nat.lt_irrefl _)
  · intro b hb
    rw [List.mem_singleton.mp hb]
    exact next_is_new F
  · intro p hp hI
    exact absurd (Heap.lt_size (N p hp).1) ((List.mem_singleton.mp hI) ▸ Nat.lt_irrefl _)
  · show Heap.get? _ _ = _
    rw [Heap.get?_push_size _ rfl]
    simp
  · rintro i v m₁ nw s₁ own ⟨hh', tk', rfl⟩ hin ⟨t, rfl⟩ hJ hoff hown hget hall hSt F₁ N₁
    obtain ⟨oI, hI⟩ : ∃ oI, hh'.get? s.heap.objs.size = some oI := ⟨_, hSt⟩
    have hmI := hall _ (List.mem_singleton.mpr rfl) (next_is_new F) _ hI
    have N₂ : News h₀ env.locals hh' ((s.heap.objs.size, oI) :: nw) := fun p hp => by
      rcases List.mem_cons.mp hp with rfl | hp
      · exact N₁ _ (List.mem_append_left _ hmI)
      · exact N₁ p (List.mem_append_right _ hp)
    have hoff' : ∀ p ∈ nw, p.1 ≠ s.heap.objs.size := fun p hp e => hoff p hp (by rw [e]; exact List.mem_singleton.mpr rfl)
    refine wpAny_mono (turn i t m₁ nw s.heap.objs.size oI hh' tk' hin hJ F₁ N₂ hoff') (fun f s₂ p => ?_) fun _ _ e => e
    have fin : LpEnd h₀ env.locals s.heap.objs.size oI (J (i + 1)) { s with heap := hh', toks := tk' } s₂ → LoopStepU h₀ env.locals [s.heap.objs.size] own (J (i + 1)) { s with heap := hh', toks := tk' } .next s₂ := by
      rintro ⟨h', tk, m', news', e, F', N', ho, hm'⟩
      refine ⟨rfl, h', tk, m', news', e, F', fun p hp => ?_, fun p hp hI => ho p hp (List.mem_singleton.mp hI), hm'⟩
      rcases List.mem_append.mp hp with hp | hp
      · have g1 := hget p hp
        have e1 := List.mem_singleton.mp (hown p hp)
        have g2 : p.2 = oI := by rw [e1] at g1; rw [hI] at g1; exact (Option.some.inj g1).symm
        rw [show p = (s.heap.objs.size, oI) from by rw [← e1, ← g2]]
        exact N' _ (.head _)
      · exact N' p (.tail _ hp)
    cases f with
    | ret v => exact .ret p
    | brk => exact .brk p
    | next => exact .next (fin p)
    | cont => exact .cont (fin p)
  · rintro h' tk m' news' F' N' _ hJ
    exact done m' news' h' tk hJ F' N'

/-- what a turn hands on: the frame as ahead of the loop but for the names told, and G of the ledger -/
def LJ (x : Str) (stored : List Str) (m₀ : Str → Option Value) (G : Nat → Led → Prop) (i : Nat) (m : Str → Option Value) (nw : Led) : Prop := (∀ z, z ≠ x → stored.contains z = false → m z = m₀ z) ∧ G i nw
theorem lj_fr {stored : List Str} {m₀ m₁ : Str → Option Value} (h : ∀ z, z ≠ x → stored.contains z = false → m₁ z = m₀ z) : (fun z => if z = x then m₁ z else if stored.contains z then m₁ z else m₀ z) = m₁ := by
  funext z
  by_cases h1 : z = x
  · simp [h1]
  · simp only [if_neg h1]
    cases h2 : stored.contains z with
    | true => simp
    | false => simp only [Bool.false_eq_true, if_false]; exact (h z h1 h2).symm
theorem lj_fr' {stored : List Str} {m₀ m₁ : Str → Option Value} {v : Option Value} (h : ∀ z, z ≠ x → stored.contains z = false → m₁ z = m₀ z) : (fun z => if z = x then v else if stored.contains z then m₁ z else m₀ z) = fun z => if z = x then v else m₁ z := by
  funext z
  by_cases h1 : z = x
  · simp [h1]
  · simp only [if_neg h1]
    cases h2 : stored.contains z with
    | true => simp
    | false => simp only [Bool.false_eq_true, if_false]; exact (h z h1 h2).symm
theorem loop_listF {l : Addr} {vs : List Value} {c : Nat} {m₀ : Str → Option Value} {news : Led} (stored : List Str) (G : Nat → Led → Prop) (hh : A.handled = none) (hGl : ∀ i nw, G i nw → (l, listOf vs.toArray c) ∈ nw)
    (F : Fr h₀ env.locals s.heap m₀) (N : News h₀ env.locals s.heap news) (hg : G 0 news)
    (turn : ∀ i v (u : Str → Option Value) nw I oI h tk, vs[i]? = some v → G i nw → Fr h₀ env.locals h (fun z => if z = x then some v else if stored.contains z then u z else m₀ z) → News h₀ env.locals h ((I, oI) :: nw) → (∀ p ∈ nw, p.1 ≠ I) →
      wpAny (model prog w) A (execs body env) (LpPost h₀ env.locals I oI (LJ x stored m₀ G (i + 1)) { s with heap := h, toks := tk } Q) E { s with heap := h, toks := tk })
    (done : ∀ (u : Str → Option Value) nw h tk, G vs.length nw → Fr h₀ env.locals h (fun z => if z = x then u z else if stored.contains z then u z else m₀ z) → News h₀ env.locals h nw → Q .next { s with heap := h, toks := tk }) :
    wpAny (model prog w) A (pyIter (.ref l)) (fun it s₂ => LoopAtV prog w A h₀ env x body Q E it s₂) E s := by
  refine loop_list (LJ x stored m₀ G) hh (fun i m nw h => hGl i nw h.2) F N ⟨fun _ _ _ => rfl, hg⟩ ?_ ?_
  · rintro i v m₁ nw I oI h tk hv ⟨hm, hG⟩ F₁ N₁ off
    refine turn i v m₁ nw I oI h tk hv hG ?_ N₁ off
    rw [lj_fr' hm]; exact F₁
  · rintro m₁ nw h tk ⟨hm, hG⟩ F₁ N₁
    refine done m₁ nw h tk hG ?_ N₁
    rw [lj_fr hm]; exact F₁
theorem loop_rangeF {r : Addr} {a b : Int} {t u v : Tok} {n : Nat} {m₀ : Str → Option Value} {news : Led} (stored : List Str) (G : Nat → Led → Prop) (hh : A.handled = none)
    (hr : IsRange s.heap r a b 1 t u v) (hsm : Builtin.Range.small a b 1 = true) (hn : Builtin.Range.rangeSize a b 1 = ((n : Nat) : Int))
    (F : Fr h₀ env.locals s.heap m₀) (N : News h₀ env.locals s.heap news) (hg : G 0 news)
    (turn : ∀ i t (u : Str → Option Value) nw I oI h tk, i < n → G i nw → Fr h₀ env.locals h (fun z => if z = x then some (.int (a + ((i : Nat) : Int)) t) else if stored.contains z then u z else m₀ z) → News h₀ env.locals h ((I, oI) :: nw) → (∀ p ∈ nw, p.1 ≠ I) →
      wpAny (model prog w) A (execs body env) (LpPost h₀ env.locals I oI (LJ x stored m₀ G (i + 1)) { s with heap := h, toks := tk } Q) E { s with heap := h, toks := tk })
    (done : ∀ (u : Str → Option Value) nw h tk, G n nw → Fr h₀ env.locals h (fun z => if z = x then u z else if stored.contains z then u z else m₀ z) → News h₀ env.locals h nw → Q .next { s with heap := h, toks := tk }) :
    wpAny (model prog w) A (pyIter (.ref r)) (fun it s₂ => LoopAtV prog w A h₀ env x body Q E it s₂) E s := by
  refine loop_range (LJ x stored m₀ G) hh hr hsm hn F N ⟨fun _ _ _ => rfl, hg⟩ ?_ ?_
  · rintro i t m₁ nw I oI h tk hv ⟨hm, hG⟩ F₁ N₁ off
    refine turn i t m₁ nw I oI h tk hv hG ?_ N₁ off
    rw [lj_fr' hm]; exact F₁
  · rintro m₁ nw h tk ⟨hm, hG⟩ F₁ N₁
    refine done m₁ nw h tk hG ?_ N₁
    rw [lj_fr hm]; exact F₁
end
end
section
open PySem.Calls
/-- a list at IT that a loop fills: what it held ahead (its0), what came (its), the objects made on the way (tl) -/
def BG (IT : Addr) (its0 : List Value) (rest : Led) (R : Nat → Led → List Value → Prop) (i : Nat) (nw : Led) : Prop :=
  ∃ tl its ci, nw = (IT, listOf (its0 ++ its).toArray ci) :: (tl ++ rest) ∧ R i tl its ∧ (∀ p ∈ tl, p.1 ≠ IT) ∧ Apart tl rest
section
variable {prog : Program} {w : World} {A : Around} {E : Value → Shared → Prop} {s : Shared} {env : Env} {h₀ : Heap} {x : Str} {body : List Stmt} {Q : Flow → Shared → Prop}
theorem build_list {l IT : Addr} {vs its0 : List Value} {c c0 : Nat} {m₀ : Str → Option Value} {rest : Led} (stored : List Str) (R : Nat → Led → List Value → Prop) (hh : A.handled = none) (hl : (l, listOf vs.toArray c) ∈ rest)
    (F : Fr h₀ env.locals s.heap m₀) (N : News h₀ env.locals s.heap ((IT, listOf its0.toArray c0) :: rest)) (h0 : R 0 [] [])
    (turn : ∀ i v (u : Str → Option Value) tl its ci I oI h tk, vs[i]? = some v → R i tl its → (∀ p ∈ tl, p.1 ≠ IT) → Apart tl rest → Fr h₀ env.locals h (fun z => if z = x then some v else if stored.contains z then u z else m₀ z) →
      News h₀ env.locals h ((I, oI) :: (IT, listOf (its0 ++ its).toArray ci) :: (tl ++ rest)) → (∀ p ∈ tl, p.1 ≠ I) → (∀ p ∈ rest, p.1 ≠ I) → @Ne Nat IT I →
      wpAny (model prog w) A (execs body env) (LpPost h₀ env.locals I oI (LJ x stored m₀ (BG IT its0 rest R) (i + 1)) { s with heap := h, toks := tk } Q) E { s with heap := h, toks := tk })
    (done : ∀ (u : Str → Option Value) tl its ci h tk, R vs.length tl its → (∀ p ∈ tl, p.1 ≠ IT) → Apart tl rest → Fr h₀ env.locals h (fun z => if z = x then u z else if stored.contains z then u z else m₀ z) → News h₀ env.locals h ((IT, listOf (its0 ++ its).toArray ci) :: (tl ++ rest)) → Q .next { s with heap := h, toks := tk }) :
    wpAny (model prog w) A (pyIter (.ref l)) (fun it s₂ => LoopAtV prog w A h₀ env x body Q E it s₂) E s := by
  refine loop_listF (vs := vs) (c := c) stored (BG IT its0 rest R) hh ?_ F N ⟨[], [], c0, by simp, h0, List.forall_mem_nil _, Apart.nil _⟩ ?_ ?_
  · rintro i nw ⟨tl, its, ci, rfl, -, -, -⟩
    exact .tail _ (List.mem_append.mpr (.inr hl))
  · rintro i v u nw I oI h tk hv ⟨tl, its, ci, rfl, hR, h1, h2⟩ F₁ N₁ off
    exact turn i v u tl its ci I oI h tk hv hR h1 h2 F₁ N₁ (fun p hp => off p (.tail _ (List.mem_append.mpr (.inl hp)))) (fun p hp => off p (.tail _ (List.mem_append.mpr (.inr hp)))) (off _ (.head _))
  · rintro u nw h tk ⟨tl, its, ci, rfl, hR, h1, h2⟩ F₁ N₁
    exact done u tl its ci h tk hR h1 h2 F₁ N₁
theorem build_range {r IT : Addr} {a b : Int} {t u v : Tok} {n : Nat} {its0 : List Value} {c0 : Nat} {m₀ : Str → Option Value} {rest : Led} (stored : List Str) (R : Nat → Led → List Value → Prop) (hh : A.handled = none)
    (hr : IsRange s.heap r a b 1 t u v) (hsm : Builtin.Range.small a b 1 = true) (hn : Builtin.Range.rangeSize a b 1 = ((n : Nat) : Int))
    (F : Fr h₀ env.locals s.heap m₀) (N : News h₀ env.locals s.heap ((IT, listOf its0.toArray c0) :: rest)) (h0 : R 0 [] [])
    (turn : ∀ i t (u : Str → Option Value) tl its ci I oI h tk, i < n → R i tl its → (∀ p ∈ tl, p.1 ≠ IT) → Apart tl rest → Fr h₀ env.locals h (fun z => if z = x then some (.int (a + ((i : Nat) : Int)) t) else if stored.contains z then u z else m₀ z) →
      News h₀ env.locals h ((I, oI) :: (IT, listOf (its0 ++ its).toArray ci) :: (tl ++ rest)) → (∀ p ∈ tl, p.1 ≠ I) → (∀ p ∈ rest, p.1 ≠ I) → @Ne Nat IT I →
      wpAny (model prog w) A (execs body env) (LpPost h₀ env.locals I oI (LJ x stored m₀ (BG IT its0 rest R) (i + 1)) { s with heap := h, toks := tk } Q) E { s with heap := h, toks := tk })
    (done : ∀ (u : Str → Option Value) tl its ci h tk, R n tl its → (∀ p ∈ tl, p.1 ≠ IT) → Apart tl rest → Fr h₀ env.locals h (fun z => if z = x then u z else if stored.contains z then u z else m₀ z) → News h₀ env.locals h ((IT, listOf (its0 ++ its).toArray ci) :: (tl ++ rest)) → Q .next { s with heap := h, toks := tk }) :
    wpAny (model prog w) A (pyIter (.ref r)) (fun it s₂ => LoopAtV prog w A h₀ env x body Q E it s₂) E s := by
  refine loop_rangeF stored (BG IT its0 rest R) hh hr hsm hn F N ⟨[], [], c0, by simp, h0, List.forall_mem_nil _, Apart.nil _⟩ ?_ ?_
  · rintro i t u nw I oI h tk hv ⟨tl, its, ci, rfl, hR, h1, h2⟩ F₁ N₁ off
    exact turn i t u tl its ci I oI h tk hv hR h1 h2 F₁ N₁ (fun p hp => off p (.tail _ (List.mem_append.mpr (.inl hp)))) (fun p hp => off p (.tail _ (List.mem_append.mpr (.inr hp)))) (off _ (.head _))
  · rintro u nw h tk ⟨tl, its, ci, rfl, hR, h1, h2⟩ F₁ N₁
    exact done u tl its ci h tk hR h1 h2 F₁ N₁
/-- the end of a filling turn: tl1 and its1 came in the turn -/
theorem build_end {IT I : Addr} {oI : Obj} {its0 its its1 arr : List Value} {ci : Nat} {m₀ m' : Str → Option Value} {rest tl tl1 all : Led} {stored : List Str} {R : Nat → Led → List Value → Prop} {i : Nat} {s₁ : Shared} {h' : Heap} {tk : Nat} {L : Addr}
    (F : Fr h₀ L h' m') (N : News h₀ L h' all) (hs : ∀ p ∈ (I, oI) :: (IT, listOf arr.toArray ci) :: (tl1 ++ (tl ++ rest)), p ∈ all) (harr : arr = (its0 ++ its) ++ its1)
    (hI : ∀ p ∈ tl1, p.1 ≠ I) (hI2 : ∀ p ∈ tl, p.1 ≠ I) (hI3 : ∀ p ∈ rest, p.1 ≠ I) (hI4 : @Ne Nat IT I) (hT1 : ∀ p ∈ tl1, p.1 ≠ IT) (hT : ∀ p ∈ tl, p.1 ≠ IT) (ha1 : Apart tl1 rest) (ha : Apart tl rest)
    (hm : ∀ z, z ≠ x → stored.contains z = false → m' z = m₀ z) (hR : R (i + 1) (tl1 ++ tl) (its ++ its1)) :
    LpEnd h₀ L I oI (LJ x stored m₀ (BG IT its0 rest R) (i + 1)) s₁ { s₁ with heap := h', toks := tk } := by
  subst harr
  refine ⟨h', tk, m', (IT, listOf ((its0 ++ its) ++ its1).toArray ci) :: (tl1 ++ (tl ++ rest)), rfl, F, fun p hp => N p (hs p hp), ?_, hm, tl1 ++ tl, its ++ its1, ci, by simp only [List.append_assoc], hR, ?_, ha1.append ha⟩
  · intro p hp
    rcases List.mem_cons.mp hp with rfl | hp
    · exact hI4
    · rcases List.mem_append.mp hp with hp | hp
      · exact hI p hp
      · rcases List.mem_append.mp hp with hp | hp
        · exact hI2 p hp
        · exact hI3 p hp
  · intro p hp
    rcases List.mem_append.mp hp with hp | hp
    · exact hT1 p hp
    · exact hT p hp
end
theorem datIn_frD {n : Led} {v : Value} {q : Int × Int} (h : DatIn n v (frD q)) : ∃ a t1 t2 c, v = .ref a ∧ (a, tup2 q t1 t2 c) ∈ n := by
  cases h with
  | tuple hm r =>
    cases r with
    | cons h1 r =>
      cases h1
      cases r with
      | cons h2 r =>
        cases h2
        cases r
        exact ⟨_, _, _, _, rfl, hm⟩
/-- the products, the first one's place running fastest -/
def PR (as bs : List (Int × Int)) : List (Int × Int) := bs.flatMap fun p => as.map fun q => nrm (q.1 * p.1) (q.2 * p.2)

theorem elem_of {n news : Led} {vs : List Value} {qs : List (Int × Int)} {i : Nat} {v : Value} (h : DatAll n vs (qs.map frD)) (hs : ∀ p ∈ n, p ∈ news) (hS : ∀ q ∈ qs, Sm q) (hv : vs[i]? = some v) :
    ∃ a t1 t2 c q, v = .ref a ∧ (a, tup2 q t1 t2 c) ∈ news ∧ qs[i]? = some q ∧ Sm q := by
  have hl := h.length
  have hi : i < vs.length := (List.getElem?_eq_some_iff.mp hv).1
  have hi2 : i < (qs.map frD).length := by omega
  obtain ⟨v', hv', hd⟩ := h.get hi2
  rw [hv] at hv'
  cases hv'
  rw [List.getElem_map] at hd
  obtain ⟨a, t1, t2, c, e, hm⟩ := datIn_frD hd
  have hi3 : i < qs.length := by simpa using hi2
  exact ⟨a, t1, t2, c, _, e, hs _ hm, List.getElem?_eq_getElem hi3, hS _ (List.getElem_mem hi3)⟩
theorem news_swap {h₀ h : Heap} {L : Addr} {a b : Addr × Obj} {l : Led} (N : News h₀ L h (a :: b :: l)) : News h₀ L h (b :: a :: l) := fun p hp => by
  rcases List.mem_cons.mp hp with rfl | hp
  · exact N _ (.tail _ (.head _))
  · rcases List.mem_cons.mp hp with rfl | hp
    · exact N _ (.head _)
    · exact N _ (.tail _ (.tail _ hp))
theorem Apart.hd {D d : Addr} {o o' : Obj} {tl news : Led} (h : Apart ((D, o) :: tl) news) (m : (d, o') ∈ news) : @Ne Nat D d := (h _ (.head _) _ m).symm
theorem Apart.hd' {D d : Addr} {o o' : Obj} {tl news : Led} (h : Apart ((D, o) :: tl) news) (m : (d, o') ∈ news) : @Ne Nat d D := h _ (.head _) _ m
section
variable {h₀ : Heap} {x : Str}
/-- the end of a turn that appended one object just made -/
theorem build_app {IT I D L : Addr} {oI o oo : Obj} {its0 its : List Value} {arr : Array Value} {v : Value} {ci : Nat} {m₀ m' : Str → Option Value} {rest tl : Led} {stored : List Str} {R : Nat → Led → List Value → Prop} {i : Nat} {s₁ : Shared} {h' : Heap} {tk : Nat}
    (F : Fr h₀ L h' m') (N : News h₀ L h' ((D, o) :: (I, oI) :: (IT, listOf (arr.push v) ci) :: (tl ++ rest))) (harr : arr = (its0 ++ its).toArray)
    (y : Apart [(D, o)] ((I, oI) :: (IT, oo) :: (tl ++ rest))) (hI2 : ∀ p ∈ tl, p.1 ≠ I) (hI3 : ∀ p ∈ rest, p.1 ≠ I) (hI4 : @Ne Nat IT I) (hT : ∀ p ∈ tl, p.1 ≠ IT) (ha : Apart tl rest)
    (hm : ∀ z, z ≠ x → stored.contains z = false → m' z = m₀ z) (hR : R (i + 1) ((D, o) :: tl) (its ++ [v])) :
    LpEnd h₀ L I oI (LJ x stored m₀ (BG IT its0 rest R) (i + 1)) s₁ { s₁ with heap := h', toks := tk } := by
  subst harr
  have e : ((its0 ++ its).toArray.push v) = ((its0 ++ its) ++ [v]).toArray := by simp
  rw [e] at N
  have y' := y (D, o) (.head _)
  refine build_end (ci := ci) (tl1 := [(D, o)]) (its1 := [v]) F N (fun p hp => ?_) rfl ?_ hI2 hI3 hI4 ?_ hT (y.sub fun p hp => .tail _ (.tail _ (List.mem_append.mpr (.inr hp)))) ha hm hR
  · simp only [List.cons_append, List.nil_append, List.mem_cons] at hp ⊢
    rcases hp with h | h | h | h
    · exact .inr (.inl h)
    · exact .inr (.inr (.inl h))
    · exact .inl h
    · exact .inr (.inr (.inr h))
  · intro p hp
    rw [List.mem_singleton.mp hp]
    exact (y' _ (.head _)).symm
  · intro p hp
    rw [List.mem_singleton.mp hp]
    exact (y' _ (.tail _ (.head _))).symm
/-- the end of a turn that appended a value of old -/
theorem build_old {IT I L : Addr} {oI : Obj} {its0 its : List Value} {arr : Array Value} {v : Value} {ci : Nat} {m₀ m' : Str → Option Value} {rest tl : Led} {stored : List Str} {R : Nat → Led → List Value → Prop} {i : Nat} {s₁ : Shared} {h' : Heap} {tk : Nat}
    (F : Fr h₀ L h' m') (N : News h₀ L h' ((I, oI) :: (IT, listOf (arr.push v) ci) :: (tl ++ rest))) (harr : arr = (its0 ++ its).toArray)
    (hI2 : ∀ p ∈ tl, p.1 ≠ I) (hI3 : ∀ p ∈ rest, p.1 ≠ I) (hI4 : @Ne Nat IT I) (hT : ∀ p ∈ tl, p.1 ≠ IT) (ha : Apart tl rest)
    (hm : ∀ z, z ≠ x → stored.contains z = false → m' z = m₀ z) (hR : R (i + 1) tl (its ++ [v])) :
    LpEnd h₀ L I oI (LJ x stored m₀ (BG IT its0 rest R) (i + 1)) s₁ { s₁ with heap := h', toks := tk } := by
  subst harr
  have e : ((its0 ++ its).toArray.push v) = ((its0 ++ its) ++ [v]).toArray := by simp
  rw [e] at N
  exact build_end (ci := ci) (tl1 := []) (its1 := [v]) F N (fun p hp => hp) rfl (List.forall_mem_nil _) hI2 hI3 hI4 (List.forall_mem_nil _) hT (Apart.nil _) ha hm hR
/-- the end of a turn that was a filling loop itself -/
theorem build_nest {IT I L : Addr} {oI : Obj} {its0 its its1 arr : List Value} {ci : Nat} {m₀ m' : Str → Option Value} {rest tl tl1 : Led} {stored : List Str} {R : Nat → Led → List Value → Prop} {i : Nat} {s₁ : Shared} {h' : Heap} {tk : Nat}
    (F : Fr h₀ L h' m') (N : News h₀ L h' ((IT, listOf arr.toArray ci) :: (tl1 ++ ((I, oI) :: (tl ++ rest))))) (harr : arr = (its0 ++ its) ++ its1)
    (y : Apart tl1 ((I, oI) :: (tl ++ rest))) (hT1 : ∀ p ∈ tl1, p.1 ≠ IT) (hI2 : ∀ p ∈ tl, p.1 ≠ I) (hI3 : ∀ p ∈ rest, p.1 ≠ I) (hI4 : @Ne Nat IT I) (hT : ∀ p ∈ tl, p.1 ≠ IT) (ha : Apart tl rest)
    (hm : ∀ z, z ≠ x → stored.contains z = false → m' z = m₀ z) (hR : R (i + 1) (tl1 ++ tl) (its ++ its1)) :
    LpEnd h₀ L I oI (LJ x stored m₀ (BG IT its0 rest R) (i + 1)) s₁ { s₁ with heap := h', toks := tk } := by
  refine build_end (ci := ci) (tl1 := tl1) (its1 := its1) F N (fun p hp => ?_) harr (fun p hp => (y p hp _ (.head _)).symm) hI2 hI3 hI4 hT1 hT (y.sub fun p hp => .tail _ (List.mem_append.mpr (.inr hp))) ha hm hR
  simp only [List.mem_cons, List.mem_append] at hp ⊢
  rcases hp with h | h | h | h
  · exact .inr (.inr (.inl h))
  · exact .inl h
  · exact .inr (.inl h)
  · exact .inr (.inr (.inr h))
theorem lj_same {stored : List Str} {v : Option Value} {u m₀ : Str → Option Value} : ∀ z, z ≠ x → stored.contains z = false → (fun z => if z = x then v else if stored.contains z then u z else m₀ z) z = m₀ z := by
  intro z h1 h2
  simp only [if_neg h1, h2, Bool.false_eq_true, if_false]
theorem lj_nest {y : Str} {v : Option Value} {u u' m₀ : Str → Option Value} : ∀ z, z ≠ y → ([x] : List Str).contains z = false → (fun z => if z = x then u z else if ([] : List Str).contains z then u z else (if z = y then v else if ([x] : List Str).contains z then u' z else m₀ z)) z = m₀ z := by
  intro z h1 h2
  have h3 : z ≠ x := by intro e; subst e; simp at h2
  simp only [if_neg h1, if_neg h3, h2, Bool.false_eq_true, if_false, List.contains_nil]
end
theorem dat_turn {α : Type} {f : α → Dat} {as : List α} {j : Nat} {q : α} {tm : Led} {e : Addr × Obj} {ys : List Value} {v : Value} (h : DatAll tm ys ((as.take j).map f)) (hq : as[j]? = some q) (hv : DatIn (e :: tm) v (f q)) : DatAll (e :: tm) (ys ++ [v]) ((as.take (j + 1)).map f) := by
  rw [List.take_add_one, hq, List.map_append]
  exact (h.mono fun p hp => .tail _ hp).append (.cons hv .nil)
theorem datIn_tup {q : Int × Int} {a : Addr} {u1 u2 : Tok} {c : Nat} {n : Led} (h : (a, tup2 q u1 u2 c) ∈ n) : DatIn n (.ref a) (frD q) := DatIn.tuple (vs := [.int q.1 u1, .int q.2 u2]) h (.cons (.int _ _) (.cons (.int _ _) .nil))
theorem dat_nest {tl tm : Led} {its itt : List Value} {as bs : List (Int × Int)} {i n : Nat} {p : Int × Int} (h1 : DatAll tl its ((PR as (bs.take i)).map frD)) (h2 : DatAll tm itt ((as.take n).map fun q => frD (nrm (q.1 * p.1) (q.2 * p.2)))) (hn : as.length = n) (hp : bs[i]? = some p) :
    DatAll (tm ++ tl) (its ++ itt) ((PR as (bs.take (i + 1))).map frD) := by
  have e : PR as (bs.take (i + 1)) = PR as (bs.take i) ++ as.map fun q => nrm (q.1 * p.1) (q.2 * p.2) := by
    unfold PR
    rw [List.take_add_one, hp, List.flatMap_append]
    simp
  rw [e, List.map_append, List.map_map]
  rw [List.take_of_length_le (by omega)] at h2
  exact (h1.mono fun p hp => List.mem_append.mpr (.inr hp)).append (h2.mono fun p hp => List.mem_append.mpr (.inl hp))
/-- the end of a turn that appended one value, objects made on the way -/
theorem build_apps {h₀ : Heap} {x : Str} {IT I L : Addr} {oI oo : Obj} {its0 its : List Value} {arr : Array Value} {v : Value} {ci : Nat} {m₀ m' : Str → Option Value} {rest tl : Led} {stored : List Str} {R : Nat → Led → List Value → Prop} {i : Nat} {s₁ : Shared} {h' : Heap} {tk : Nat} (tl1 : Led)
    (F : Fr h₀ L h' m') (N : News h₀ L h' (tl1 ++ ((I, oI) :: (IT, listOf (arr.push v) ci) :: (tl ++ rest)))) (harr : arr = (its0 ++ its).toArray)
    (y : Apart tl1 ((I, oI) :: (IT, oo) :: (tl ++ rest))) (hI2 : ∀ p ∈ tl, p.1 ≠ I) (hI3 : ∀ p ∈ rest, p.1 ≠ I) (hI4 : @Ne Nat IT I) (hT : ∀ p ∈ tl, p.1 ≠ IT) (ha : Apart tl rest)
    (hm : ∀ z, z ≠ x → stored.contains z = false → m' z = m₀ z) (hR : R (i + 1) (tl1 ++ tl) (its ++ [v])) :
    LpEnd h₀ L I oI (LJ x stored m₀ (BG IT its0 rest R) (i + 1)) s₁ { s₁ with heap := h', toks := tk } := by
  subst harr
  have e : ((its0 ++ its).toArray.push v) = ((its0 ++ its) ++ [v]).toArray := by simp
  rw [e] at N
  refine build_end (ci := ci) (tl1 := tl1) (its1 := [v]) F N (fun p hp => ?_) rfl (fun p hp => (y p hp _ (.head _)).symm) hI2 hI3 hI4 (fun p hp => (y p hp _ (.tail _ (.head _))).symm) hT (y.sub fun p hp => .tail _ (.tail _ (List.mem_append.mpr (.inr hp)))) ha hm hR
  simp only [List.mem_cons, List.mem_append] at hp ⊢
  rcases hp with h | h | h | h | h
  · exact .inr (.inl h)
  · exact .inr (.inr (.inl h))
  · exact .inl h
  · exact .inr (.inr (.inr (.inl h)))
  · exact .inr (.inr (.inr (.inr h)))
theorem drop_mid {pre tl mid news : Led} : ∀ p ∈ (pre ++ tl) ++ news, p ∈ pre ++ (tl ++ (mid ++ news)) := by
  intro p hp
  simp only [List.mem_append] at hp ⊢
  rcases hp with (h | h) | h
  · exact .inl h
  · exact .inr (.inl h)
  · exact .inr (.inr (.inr h))
theorem allLt_lt2 {d x : Addr} {l : Led} (k : @LT.lt Nat _ d x) (h : AllLt d l) : ∀ q ∈ l, @Ne Nat q.1 x := allLt_lt h k
theorem cell_ne {L x : Addr} {l : Led} (h : ∀ p ∈ l, @LT.lt Nat _ p.1 L) (k : @LE.le Nat _ L x) : ∀ p ∈ l, @Ne Nat p.1 x := fun p hp => Nat.ne_of_lt (Nat.lt_of_lt_of_le (h p hp) k)
end
section
open PySem.Calls PySem.Spec
open PyProof.Rows.LCg
section
variable {prog : Program} {w : World} {A : Around} {R : Result → Shared → Prop} {s : Shared} {elt iter iter₂ : Expr} {x x₂ : Str} {px px₂ : Pos} {scope : Scope} {pos : Pos} {it acc : Value} {env : Env}
abbrev two (elt iter iter₂ : Expr) (x x₂ : Str) (px px₂ : Pos) (scope : Scope) (pos : Pos) : Expr := .ListComp elt [⟨.Name x px, iter, [], 0⟩, ⟨.Name x₂ px₂, iter₂, [], 0⟩] scope pos
theorem turn0 : compTurn (two elt iter iter₂ x x₂ px px₂ scope pos) 0 it acc env = (standAt iter.pos >>= fun _ => pyNext it >>= fun r => match r with
      | none => pure (.done .next)
      | some v => letOwnedTupleGo (.Name x px) it v >>= fun _ => assign (.Name x px) env v >>= fun _ =>
        (eval iter₂ env >>= fun y => standAt iter₂.pos >>= fun _ => foldedSetIterable iter₂ env y >>= fun y => holding [y] (pyIter y) >>= fun i2 => runOwn (.compStart (two elt iter iter₂ x x₂ px px₂ scope pos) 1 i2 acc env) env >>= fun _ =>
          again (.compLoop (two elt iter iter₂ x x₂ px px₂ scope pos) 0 it acc env))) := by rfl
theorem turn1 : compTurn (two elt iter iter₂ x x₂ px px₂ scope pos) 1 it acc env = (standAt iter₂.pos >>= fun _ => pyNext it >>= fun r => match r with
      | none => pure (.done .next)
      | some v => letOwnedTupleGo (.Name x₂ px₂) it v >>= fun _ => assign (.Name x₂ px₂) env v >>= fun _ =>
        (eval elt env >>= fun y => call (.builtin "list.append") [acc, y] >>= fun _ => pure ()) >>= fun _ =>
          again (.compLoop (two elt iter iter₂ x x₂ px px₂ scope pos) 1 it acc env)) := by rfl
theorem loop1 (I : Nat → Shared → Prop)
    (turn : ∀ n s, I n s → wpAny (model prog w) A (pyNext it) (fun r s₁ => match r with
      | none => R (.ok .next) s₁
      | some v => wpAny (model prog w) A (assign (.Name x₂ px₂) env v) (fun _ s₂ => wpAny (model prog w) A (eval elt env) (fun y s₃ =>
          wpAny (model prog w) A (call (.builtin "list.append") [acc, y]) (fun _ s₄ => ∃ m, m < n ∧ I m s₄) (notedBy (model prog w) A env fun e s' => R (.error e) s') s₃)
          (notedBy (model prog w) A env fun e s' => R (.error e) s') s₂) (notedBy (model prog w) A env fun e s' => R (.error e) s') s₁) (notedBy (model prog w) A env fun e s' => R (.error e) s') s)
    (n : Nat) (h : I n s) : codeAny (model prog w) A (.compLoop (two elt iter iter₂ x x₂ px px₂ scope pos) 1 it acc env) R s := by
  refine codeAny_loop rfl I (fun n s hI => ?_) n h
  show wpAny _ A ((compTurn (two elt iter iter₂ x x₂ px px₂ scope pos) 1 it acc env).onRaise (fun x => do noteFrame x env; theTreesLotGoes x)) _ _ s
  refine wpAny_noted ?_
  rw [turn1]
  refine wpAny_bind (wpAny_standAt (wpAny_bind (wpAny_mono (turn n s hI) (fun r s₁ h₁ => ?_) fun _ _ h' => h')))
  cases r with
  | none => exact wpAny_pure h₁
  | some v =>
    refine wpAny_bind (wpAny_of_eq (show letOwnedTupleGo (.Name x₂ px₂) it v = pure () from rfl) ?_)
    exact wpAny_bind (wpAny_mono h₁ (fun _ s₂ h₂ => wpAny_bind (wpAny_bind (wpAny_mono h₂ (fun x s₃ h₃ => wpAny_bind (wpAny_mono h₃
      (fun _ s₄ h₄ => wpAny_pure (wpAny_pure ⟨rfl, h₄⟩)) fun _ _ h' => h')) fun _ _ h' => h'))) fun _ _ h' => h')
theorem start1 (h0 : codeAny (model prog w) A (.compLoop (two elt iter iter₂ x x₂ px px₂ scope pos) 1 it acc env) R s)
    (h : wpAny (model prog w) A (pyIter it) (fun it' s' => codeAny (model prog w) A (.compLoop (two elt iter iter₂ x x₂ px px₂ scope pos) 1 it' acc env) R s') (notedBy (model prog w) A env fun x s' => R (.error x) s') s) :
    codeAny (model prog w) A (.compStart (two elt iter iter₂ x x₂ px px₂ scope pos) 1 it acc env) R s := by
  refine codeAny_of_tree ?_
  show wpAny _ _ ((compStart (two elt iter iter₂ x x₂ px px₂ scope pos) 1 it acc env).onRaise (fun x => do noteFrame x env; standAt theWindowsPlace)) _ _ s
  refine wpAny_notedAt ?_
  unfold compStart
  show wpAny _ _ (ask >>= _) _ _ s
  refine wpAny_bind (wpAny_askSetting (wpAny_ite ?_))
  split
  · first
      | exact wpAny_bind (wpAny_pure (wpAny_pure (And.intro rfl h0)))
      | exact wpAny_pure (And.intro rfl h0)
  · refine wpAny_bind (wpAny_rule ?_)
    show wpAny _ _ (standAt iter₂.pos >>= _) _ _ s
    exact wpAny_bind (wpAny_standAt (wpAny_bind (wpAny_mono h (fun it' s' h' => wpAny_pure (And.intro rfl h')) fun _ _ x => x)))
theorem loop0 (I : Nat → Shared → Prop) (hs2 : ∀ y, foldedSetIterable iter₂ env y = pure y)
    (turn : ∀ n s, I n s → wpAny (model prog w) A (pyNext it) (fun r s₁ => match r with
      | none => R (.ok .next) s₁
      | some v => wpAny (model prog w) A (assign (.Name x px) env v) (fun _ s₂ => wpAny (model prog w) A (eval iter₂ env) (fun y s₃ =>
          wpAny (model prog w) A (pyIter y) (fun i2 s₄ => codeAny (model prog w) A (.compStart (two elt iter iter₂ x x₂ px px₂ scope pos) 1 i2 acc env)
            (fun r s' => match r with | .ok _ => ∃ m, m < n ∧ I m s' | .error e => cameBackBy (model prog w) A env (notedBy (model prog w) A env fun e s' => R (.error e) s') e s') s₄)
            (notedBy (model prog w) A env fun e s' => R (.error e) s') s₃)
          (notedBy (model prog w) A env fun e s' => R (.error e) s') s₂) (notedBy (model prog w) A env fun e s' => R (.error e) s') s₁) (notedBy (model prog w) A env fun e s' => R (.error e) s') s)
    (n : Nat) (h : I n s) : codeAny (model prog w) A (.compLoop (two elt iter iter₂ x x₂ px px₂ scope pos) 0 it acc env) R s := by
  refine codeAny_loop rfl I (fun n s hI => ?_) n h
  show wpAny _ A ((compTurn (two elt iter iter₂ x x₂ px px₂ scope pos) 0 it acc env).onRaise (fun x => do noteFrame x env; theTreesLotGoes x)) _ _ s
  refine wpAny_noted ?_
  rw [turn0]
  refine wpAny_bind (wpAny_standAt (wpAny_bind (wpAny_mono (turn n s hI) (fun r s₁ h₁ => ?_) fun _ _ h' => h')))
  cases r with
  | none => exact wpAny_pure h₁
  | some v =>
    refine wpAny_bind (wpAny_of_eq (show letOwnedTupleGo (.Name x px) it v = pure () from rfl) ?_)
    refine wpAny_bind (wpAny_mono h₁ (fun _ s₂ h₂ => wpAny_bind (wpAny_mono h₂ (fun y s₃ h₃ => wpAny_bind (wpAny_standAt ?_)) fun _ _ h' => h')) fun _ _ h' => h')
    refine wpAny_bind (wpAny_of_eq (hs2 y) (wpAny_bind (wpAny_holding (wpAny_mono h₃ (fun i2 s₄ h₄ => ?_) fun _ _ h' => h'))))
    refine wpAny_bind (wpAny_runOwn (codeAny_mono h₄ (fun r s' hr => ?_)))
    cases r with
    | ok f => exact wpAny_pure ⟨rfl, hr⟩
    | error e => exact hr
end
section
variable {prog : Program} {w : World} {A : Around} {h₀ : Heap} {L : Addr} {m : Str → Option Value} {env : Env} {elt iter iter₂ : Expr} {x x₂ : Str} {px px₂ : Pos} {scope : Scope} {cl : List (Str × Addr)} {pos : Pos} {s₂ : Shared} {news : Led}
/-- the element's value, at the turn (i, j): nothing new is left behind -/
def EltAt (prog : Program) (w : World) (A : Around) (h₀ : Heap) (L : Addr) (m : Str → Option Value) (env : Env) (elt : Expr) (x x₂ : Str) (scope : Scope) (cl : List (Str × Addr)) (s₂ : Shared) (news : Led) (a a₂ : Int) (i j : Nat) (y : Value) : Prop :=
  ∀ I2 oI2 I oI C oC D ys m₂ h tk t t₂ (E' : Value → Shared → Prop), NsObj oC m₂ → m₂ x = some (.int (a + (i : Int)) t) → m₂ x₂ = some (.int (a₂ + (j : Int)) t₂) → Fr h₀ L h m → News h₀ L h ((I2, oI2) :: (I, oI) :: (C, oC) :: (D, lst ys) :: news) →
    wpAny (model prog w) A (eval elt (compEnvC scope cl C env)) (fun v s' => ∃ h' tk', s' = { s₂ with heap := h', toks := tk' } ∧ v = y ∧ Fr h₀ L h' m ∧ News h₀ L h' ((I2, oI2) :: (I, oI) :: (C, oC) :: (D, lst ys) :: news)) E' { s₂ with heap := h, toks := tk }
theorem inner2 {a a₂ : Int} {n₂ i : Nat} {f : Nat → Value} {I2 I C D : Addr} {oI : Obj} {ys0 : List Value} {t : Tok} {R : Result → Shared → Prop} (hh : A.handled = none)
    (hkind : scope.kind = .function) (hx₂ : scope.names.lookup x₂ = some .local) (hxx : x ≠ x₂) (hsz : ys0.length + n₂ ≤ sizeLine)
    (n1 : I2 ≠ C) (n2 : I2 ≠ D) (n3 : I2 ≠ L) (n4 : I2 ≠ I) (n5 : ∀ p ∈ news, p.1 ≠ I2) (n6 : C ≠ D) (n7 : C ≠ L) (n8 : I ≠ C) (n9 : D ≠ L) (n10 : I ≠ D) (n11 : ∀ p ∈ news, p.1 ≠ C) (n12 : ∀ p ∈ news, p.1 ≠ D) (z1 : h₀.get? C = none) (z2 : h₀.get? D = none) (z3 : h₀.get? I2 = none)
    (elts : ∀ j, j < n₂ → EltAt prog w A h₀ L m env elt x x₂ scope cl s₂ news a a₂ i j (f j))
    (post : ∀ h' tk' m', Fr h₀ L h' m → h'.Ns C m' → News h₀ L h' ((I, oI) :: (D, lst (ys0 ++ (List.range n₂).map f)) :: news) → R (.ok .next) { s₂ with heap := h', toks := tk' })
    {h : Heap} {tk : Nat} {m₁ : Str → Option Value} (st : IsRangeIter h I2 (a₂ + ((0 : Nat) : Nat) * 1) ((n₂ : Int) - ((0 : Nat) : Nat)) 1) (F : Fr h₀ L h m) (hn : h.Ns C m₁) (hm : m₁ x = some (.int (a + (i : Int)) t)) (N : News h₀ L h ((I, oI) :: (D, lst ys0) :: news)) :
    codeAny (model prog w) A (.compStart (two elt iter iter₂ x x₂ px px₂ scope pos) 1 (.ref I2) (.ref D) (compEnvC scope cl C env)) R { s₂ with heap := h, toks := tk } := by
  have W := range_walks (prog := prog) (w := w) (I := I2) hh a₂ n₂
  have loop : ∀ h tk m₁, IsRangeIter h I2 (a₂ + ((0 : Nat) : Nat) * 1) ((n₂ : Int) - ((0 : Nat) : Nat)) 1 → Fr h₀ L h m → h.Ns C m₁ → m₁ x = some (.int (a + (i : Int)) t) → News h₀ L h ((I, oI) :: (D, lst ys0) :: news) →
      codeAny (model prog w) A (.compLoop (two elt iter iter₂ x x₂ px px₂ scope pos) 1 (.ref I2) (.ref D) (compEnvC scope cl C env)) R { s₂ with heap := h, toks := tk } := by
    intro h tk m₁ st F hn hm N
    refine loop1 (fun k s' => ∃ h' tk' j m', s' = { s₂ with heap := h', toks := tk' } ∧ j ≤ n₂ ∧ k = n₂ + 1 - j ∧ IsRangeIter h' I2 (a₂ + (j : Nat) * 1) ((n₂ : Int) - (j : Nat)) 1 ∧ Fr h₀ L h' m ∧ h'.Ns C m' ∧ m' x = some (.int (a + (i : Int)) t) ∧
      News h₀ L h' ((I, oI) :: (D, lst (ys0 ++ (List.range j).map f)) :: news)) ?_ (n₂ + 1) ⟨h, tk, 0, m₁, rfl, Nat.zero_le _, rfl, st, F, hn, hm, by simpa using N⟩
    rintro k s' ⟨h', tk', j, m', rfl, hj, rfl, st', F', hn', hm', N'⟩
    have nI2 : ∀ p ∈ (I, oI) :: (D, lst (ys0 ++ (List.range j).map f)) :: news, p.1 ≠ I2 := by
      intro p hp
      rcases List.mem_cons.mp hp with rfl | hp
      · exact Ne.symm n4
      · rcases List.mem_cons.mp hp with rfl | hp
        · exact Ne.symm n2
        · exact n5 p hp
    have nC : ∀ p ∈ (I, oI) :: (D, lst (ys0 ++ (List.range j).map f)) :: news, p.1 ≠ C := by
      intro p hp
      rcases List.mem_cons.mp hp with rfl | hp
      · exact n8
      · rcases List.mem_cons.mp hp with rfl | hp
        · exact Ne.symm n6
        · exact n11 p hp
    by_cases hlt : j < n₂
    · refine W.item j _ _ _ hlt st' fun v h₂ tk₂ hPv st₂ hk₂ => ?_
      obtain ⟨t₂, rfl⟩ := hPv
      refine wpAny_assign_Name (wpAny_storeName_local (lookup_relabel_local hx₂) (hn'.at' fun o e => hk₂ _ o (by simpa using Ne.symm n1) e) (fun h₃ hn₃ hs₃ => ?_) (by simp [compEnvC, relabel, hkind]))
      have st₃ := W.frame _ _ _ st₂ fun b hb o e => hs₃.extBut b o (fun q => n1 (by have q' : b = C := q; rw [← q']; exact (List.mem_singleton.mp hb).symm)) e
      obtain ⟨oC, heC, hoC⟩ := ns_obj hn₃
      have F₃ : Fr h₀ L h₃ m := (fr_but F' hk₂ (Ne.symm n3) z3).change hs₃ n7 z1
      have N₃ : News h₀ L h₃ ((I2, _) :: (I, oI) :: (C, oC) :: (D, lst (ys0 ++ (List.range j).map f)) :: news) := fun p hp => by
        have old : ∀ p ∈ (I, oI) :: (D, lst (ys0 ++ (List.range j).map f)) :: news, h₃.get? p.1 = some p.2 ∧ p.1 ≠ L ∧ h₀.get? p.1 = none := fun p hp =>
          ⟨hs₃.extBut _ _ (nC p hp) (hk₂ _ _ (by simpa using nI2 p hp) (N' p hp).1), (N' p hp).2⟩
        rcases List.mem_cons.mp hp with rfl | hp
        · exact ⟨st₃, n3, z3⟩
        · rcases List.mem_cons.mp hp with rfl | hp
          · exact old _ (.head _)
          · rcases List.mem_cons.mp hp with rfl | hp
            · exact ⟨heC, n7, z1⟩
            · exact old _ (.tail _ hp)
      refine wpAny_mono (elts j hlt I2 _ I oI C oC D _ _ h₃ _ t t₂ _ hoC (by simp only [if_neg hxx]; exact hm') (by simp) F₃ N₃) (fun y s₄ h₄ => ?_) fun _ _ e => e
      obtain ⟨h₄, tk₄, rfl, rfl, F₄, N₄⟩ := h₄
      have zI := (N₄ _ (.head _)).1
      have zC := (N₄ _ (.tail _ (.tail _ (.head _)))).1
      have zD := (N₄ _ (.tail _ (.tail _ (.tail _ (.head _))))).1
      refine append_at (hsz := by simp only [List.size_toArray, List.length_append, List.length_map, List.length_range]; omega) zD fun h₅ hs₅ hD₅ => ?_
      refine ⟨n₂ + 1 - (j + 1), by omega, h₅, tk₄, j + 1, _, rfl, hlt, rfl, ?_, F₄.change hs₅ n9 z2, (hoC.ns zC).sameBut hs₅ n6, by simp only [if_neg hxx]; exact hm', fun p hp => ?_⟩
      · show h₅.get? I2 = some _
        exact hs₅.extBut _ _ n2 zI
      · rcases List.mem_cons.mp hp with rfl | hp
        · exact ⟨hs₅.extBut _ _ n10 (N₄ _ (.tail _ (.head _))).1, (N₄ _ (.tail _ (.head _))).2⟩
        · rcases List.mem_cons.mp hp with rfl | hp
          · refine ⟨hD₅.trans (congrArg some ?_), n9, z2⟩
            rw [List.range_succ, List.map_append, ← List.append_assoc]
            exact lst_snoc _ _
          · exact ⟨hs₅.extBut _ _ (n12 p hp) (N₄ _ (.tail _ (.tail _ (.tail _ (.tail _ hp))))).1, (N₄ _ (.tail _ (.tail _ (.tail _ (.tail _ hp))))).2⟩
    · obtain rfl : j = n₂ := Nat.le_antisymm hj (Nat.not_lt.mp hlt)
      refine W.done _ _ _ st' fun h₂ tk₂ hk₂ => ?_
      exact post h₂ tk₂ m' (fr_but F' hk₂ (Ne.symm n3) z3) (hn'.at' fun o e => hk₂ _ o (by simpa using Ne.symm n1) e) (fun p hp => ⟨hk₂ _ _ (by simpa using nI2 p hp) (N' p hp).1, (N' p hp).2⟩)
  exact start1 (loop h tk m₁ st F hn hm N) (W.self 0 _ _ _ st (loop h tk m₁ st F hn hm N))
/-- the second clause's range, at the turn i -/
def SrcI (prog : Program) (w : World) (A : Around) (h₀ : Heap) (L : Addr) (m : Str → Option Value) (env : Env) (iter₂ : Expr) (x : Str) (scope : Scope) (cl : List (Str × Addr)) (s₂ : Shared) (news : Led) (a a₂ : Int) (n₂ i : Nat) : Prop :=
  ∀ I oI C oC D ys m₂ h tk t (E' : Value → Shared → Prop), NsObj oC m₂ → m₂ x = some (.int (a + (i : Int)) t) → Fr h₀ L h m → News h₀ L h ((I, oI) :: (C, oC) :: (D, lst ys) :: news) →
    wpAny (model prog w) A (eval iter₂ (compEnvC scope cl C env)) (fun xv s' => ∃ h' tk' r b₂ t₂ u₂ v₂, s' = { s₂ with heap := h', toks := tk' } ∧ xv = .ref r ∧ IsRange h' r a₂ b₂ 1 t₂ u₂ v₂ ∧ Builtin.Range.small a₂ b₂ 1 = true ∧ Builtin.Range.rangeSize a₂ b₂ 1 = ((n₂ : Nat) : Int) ∧
      Fr h₀ L h' m ∧ News h₀ L h' ((I, oI) :: (C, oC) :: (D, lst ys) :: news)) E' { s₂ with heap := h, toks := tk }
def all2 (n₂ : Nat) (f : Nat → Nat → Value) (i : Nat) : List Value := (List.range i).flatMap fun c => (List.range n₂).map (f c)
theorem all2_len {n₂ : Nat} {f : Nat → Nat → Value} {i : Nat} : (all2 n₂ f i).length = i * n₂ := by
  unfold all2
  induction i with
  | zero => simp
  | succ k ih => rw [List.range_succ, List.flatMap_append, List.length_append, ih]; simp [Nat.succ_mul]
theorem all2_snoc {n₂ : Nat} {f : Nat → Nat → Value} {i : Nat} : all2 n₂ f i ++ (List.range n₂).map (f i) = all2 n₂ f (i + 1) := by
  unfold all2
  rw [List.range_succ, List.flatMap_append]; simp
theorem block2 {E : Value → Shared → Prop} {a a₂ : Int} {n n₂ : Nat} {f : Nat → Nat → Value} {I : Addr} {RR : Value → Addr → Result → Shared → Prop} (hh : A.handled = none) (hsz : n * n₂ ≤ sizeLine)
    (hcell : ∀ y ∈ scope.names, y.2 ≠ .cell) (hkind : scope.kind = .function) (hx : scope.names.lookup x = some .local) (hx₂ : scope.names.lookup x₂ = some .local) (hxx : x ≠ x₂) (hs2 : ∀ e y, foldedSetIterable iter₂ e y = pure y)
    (st : IsRangeIter s₂.heap I (a + ((0 : Nat) : Nat) * 1) ((n : Int) - ((0 : Nat) : Nat)) 1) (hIlt : I < s₂.heap.objs.size) (F : Fr h₀ L s₂.heap m) (N : News h₀ L s₂.heap news) (hIL : L ≠ I) (hI₀ : h₀.get? I = none) (off : ∀ p ∈ news, p.1 ≠ I)
    (src : ∀ i, i < n → SrcI prog w A h₀ L m env iter₂ x scope cl s₂ news a a₂ n₂ i)
    (elts : ∀ i, i < n → ∀ j, j < n₂ → EltAt prog w A h₀ L m env elt x x₂ scope cl s₂ news a a₂ i j (f i j))
    (hRR : ∀ D C h tk m', Fr h₀ L h m → News h₀ L h ((D, lst (all2 n₂ f n)) :: news) → Off1 D news → h.Ns C m' → h₀.get? C = none → h₀.get? D = none → C ≠ L → D ≠ L → C ≠ D → (∀ p ∈ news, p.1 ≠ C) → RR (.ref D) C (.ok .next) { s₂ with heap := h, toks := tk }) :
    wpAny (model prog w) A (newList []) (fun acc s₃ => wpAny (model prog w) A (newFunctionEnv scope env.globals cl [] env.qual none .none (some env)) (fun cenv s₄ =>
      codeAny (model prog w) A (.compStart (two elt iter iter₂ x x₂ px px₂ scope pos) 0 (.ref I) acc { cenv with scope := relabel scope env }) (RR acc cenv.locals) s₄) E s₃) E s₂ := by
  have W := range_walks (prog := prog) (w := w) (I := I) hh a n
  refine wpAny_newObj_type (wpAny_newFunctionEnv hcell (by intro y hy; simp at hy) (fun h₁ hns₁ hsb₁ => ?_) hkind)
  dsimp only at hns₁ hsb₁ ⊢
  generalize hH2 : s₂.heap.push { cls := .type "list", dict := none, data := .seq ([] : List Value).toArray } = H2 at hns₁ hsb₁ ⊢
  have hC : H2.objs.size = s₂.heap.objs.size + 1 := by rw [← hH2, Heap.size_push]
  have hDC : s₂.heap.objs.size ≠ H2.objs.size := by rw [hC]; exact Nat.ne_of_lt (Nat.lt_succ_self _)
  have below : ∀ b, b < s₂.heap.objs.size → b ≠ H2.objs.size ∧ b ≠ s₂.heap.objs.size := fun b hb => ⟨by rw [hC]; exact Nat.ne_of_lt (Nat.lt_succ_of_lt hb), Nat.ne_of_lt hb⟩
  have old : ∀ b o, s₂.heap.get? b = some o → h₁.get? b = some o := fun b o e => hsb₁.extBut b o (below b (Heap.lt_size e)).1 (Heap.get?_push_of_some _ (hH2 ▸ Heap.get?_push_of_some _ e))
  have hacc : h₁.get? s₂.heap.objs.size = some (lst []) := hsb₁.extBut _ _ hDC (Heap.get?_push_of_some _ (hH2 ▸ Heap.get?_push_size _ rfl))
  have st₁ := W.frame _ _ _ st fun b _ o e => old b o e
  have fresh₀ : ∀ b, s₂.heap.objs.size ≤ b → h₀.get? b = none := fun b hb => by
    cases e : h₀.get? b with
    | none => rfl
    | some o' => exact absurd (Heap.lt_size (F.keep b o' e)) (Nat.not_lt.mpr hb)
  have hD₀ : h₀.get? s₂.heap.objs.size = none := fresh₀ _ (Nat.le_refl _)
  have hC₀ : h₀.get? H2.objs.size = none := fresh₀ _ (by rw [hC]; exact Nat.le_succ _)
  have hDL : s₂.heap.objs.size ≠ L := Ne.symm (below L F.ns.lt).2
  have hCL : H2.objs.size ≠ L := Ne.symm (below L F.ns.lt).1
  have hIC : I ≠ H2.objs.size := (below I hIlt).1
  have hID : I ≠ s₂.heap.objs.size := (below I hIlt).2
  have nC : ∀ p ∈ news, p.1 ≠ H2.objs.size := fun p hp => (below _ (Heap.lt_size (N p hp).1)).1
  have nD : ∀ p ∈ news, p.1 ≠ s₂.heap.objs.size := fun p hp => (below _ (Heap.lt_size (N p hp).1)).2
  have off1 : Off1 s₂.heap.objs.size news := by
    have : ∀ l : Led, (∀ p ∈ l, p.1 ≠ s₂.heap.objs.size) → Off1 s₂.heap.objs.size l := by
      intro l
      induction l with
      | nil => intro _; trivial
      | cons p r ih => intro h; exact ⟨h p (.head _), ih fun q hq => h q (.tail _ hq)⟩
    exact this news nD
  have loop : ∀ s₃ : Shared, s₃ = { s₂ with heap := h₁, toks := s₂.toks + ([] : List (Str × Value)).length } →
      codeAny (model prog w) A (.compLoop (two elt iter iter₂ x x₂ px px₂ scope pos) 0 (.ref I) (.ref s₂.heap.objs.size) (compEnvC scope cl H2.objs.size env)) (RR (.ref s₂.heap.objs.size) H2.objs.size) s₃ := by
    rintro s₃ rfl
    refine loop0 (fun k s' => ∃ h' tk i m', s' = { s₂ with heap := h', toks := tk } ∧ i ≤ n ∧ k = n + 1 - i ∧ IsRangeIter h' I (a + (i : Nat) * 1) ((n : Int) - (i : Nat)) 1 ∧ Fr h₀ L h' m ∧ h'.Ns H2.objs.size m' ∧ News h₀ L h' ((s₂.heap.objs.size, lst (all2 n₂ f i)) :: news))
      (hs2 _) ?_ (n + 1) ⟨h₁, _, 0, _, rfl, Nat.zero_le _, rfl, st₁, F.keeps old, hns₁, fun p hp => ?_⟩
    · rintro k s' ⟨h', tk, i, m', rfl, hi, rfl, st', F', hn', N'⟩
      have nI : ∀ p ∈ (s₂.heap.objs.size, lst (all2 n₂ f i)) :: news, p.1 ≠ I := by
        intro p hp
        rcases List.mem_cons.mp hp with rfl | hp
        · exact Ne.symm hID
        · exact off p hp
      have nC' : ∀ p ∈ (s₂.heap.objs.size, lst (all2 n₂ f i)) :: news, p.1 ≠ H2.objs.size := by
        intro p hp
        rcases List.mem_cons.mp hp with rfl | hp
        · exact hDC
        · exact nC p hp
      by_cases hlt : i < n
      · refine W.item i _ _ _ hlt st' fun v h₂ tk₂ hPv st₂ hk₂ => ?_
        obtain ⟨t, rfl⟩ := hPv
        refine wpAny_assign_Name (wpAny_storeName_local (lookup_relabel_local hx) (hn'.at' fun o e => hk₂ _ o (by simpa using Ne.symm hIC) e) (fun h₃ hn₃ hs₃ => ?_) (by simp [compEnvC, relabel, hkind]))
        have st₃ := W.frame _ _ _ st₂ fun b hb o e => hs₃.extBut b o (fun q => hIC (by have q' : b = H2.objs.size := q; rw [← q']; exact (List.mem_singleton.mp hb).symm)) e
        obtain ⟨oI, hoI⟩ : ∃ o, h₃.get? I = some o := ⟨_, st₃⟩
        obtain ⟨oC, heC, hoC⟩ := ns_obj hn₃
        have F₃ : Fr h₀ L h₃ m := (fr_but F' hk₂ hIL hI₀).change hs₃ hCL hC₀
        have N₃ : News h₀ L h₃ ((I, oI) :: (H2.objs.size, oC) :: (s₂.heap.objs.size, lst (all2 n₂ f i)) :: news) := fun p hp => by
          rcases List.mem_cons.mp hp with rfl | hp
          · exact ⟨hoI, Ne.symm hIL, hI₀⟩
          · rcases List.mem_cons.mp hp with rfl | hp
            · exact ⟨heC, hCL, hC₀⟩
            · exact ⟨hs₃.extBut _ _ (nC' p hp) (hk₂ _ _ (by simpa using nI p hp) (N' p hp).1), (N' p hp).2⟩
        refine wpAny_mono (src i hlt I oI H2.objs.size oC _ _ _ h₃ _ t _ hoC (by simp) F₃ N₃) (fun xv s₄ h₄ => ?_) fun _ _ e => e
        obtain ⟨h₄, tk₄, r, b₂, t₂, u₂, v₂, rfl, rfl, hr, hsm, hn₂, F₄, N₄⟩ := h₄
        refine wpAny_pyIter_range hr hsm ?_
        dsimp only
        have lt4 : ∀ p ∈ (I, oI) :: (H2.objs.size, oC) :: (s₂.heap.objs.size, lst (all2 n₂ f i)) :: news, p.1 ≠ h₄.objs.size := fun p hp => Nat.ne_of_lt (Heap.lt_size (N₄ p hp).1)
        have up : ∀ (o : Obj) b o', h₄.get? b = some o' → (h₄.push o).get? b = some o' := fun o b o' e => Heap.get?_push_of_some _ e
        refine inner2 (a := a) (a₂ := a₂) (i := i) (t := t) (ys0 := all2 n₂ f i) (f := f i) hh hkind hx₂ hxx ?_ (Ne.symm (lt4 _ (.tail _ (.head _)))) (Ne.symm (lt4 _ (.tail _ (.tail _ (.head _))))) (Ne.symm (Nat.ne_of_lt F₄.ns.lt)) (Ne.symm (lt4 _ (.head _))) (fun p hp => lt4 p (.tail _ (.tail _ (.tail _ hp)))) (Ne.symm hDC) hCL hIC hDL hID nC nD hC₀ hD₀ (next_is_new F₄)
          (fun j hj => elts i hlt j hj) ?_ (oI := oI) ?_ (F₄.keeps (up _)) ((hoC.ns (N₄ _ (.tail _ (.head _))).1).at' fun o e => up _ _ _ e) (by simp) (fun p hp => ?_)
        · rw [all2_len]
          exact Nat.le_trans (by rw [← Nat.succ_mul]; exact Nat.mul_le_mul_right _ hlt) hsz
        · intro h' tk' m'' F5 n5 N5
          rw [all2_snoc] at N5
          refine ⟨n + 1 - (i + 1), by omega, h', tk', i + 1, m'', rfl, hlt, rfl, ?_, F5, n5, fun p hp => N5 p (.tail _ hp)⟩
          show h'.get? I = some _
          rw [(N5 _ (.head _)).1, ← hoI]
          exact st₃
        · show IsRangeIter _ _ _ _ _
          rw [hn₂]
          simpa using Heap.get?_push_size _ rfl
        · rcases List.mem_cons.mp hp with rfl | hp
          · exact ⟨up _ _ _ (N₄ _ (.head _)).1, (N₄ _ (.head _)).2⟩
          · exact ⟨up _ _ _ (N₄ p (.tail _ (.tail _ hp))).1, (N₄ p (.tail _ (.tail _ hp))).2⟩
      · obtain rfl : i = n := Nat.le_antisymm hi (Nat.not_lt.mp hlt)
        refine W.done _ _ _ st' fun h₂ tk₂ hk₂ => ?_
        exact hRR _ _ h₂ tk₂ _ (fr_but F' hk₂ hIL hI₀) (fun p hp => ⟨hk₂ _ _ (by simpa using nI p hp) (N' p hp).1, (N' p hp).2⟩) off1 (hn'.at' fun o e => hk₂ _ o (by simpa using Ne.symm hIC) e) hC₀ hD₀ hCL hDL (Ne.symm hDC) nC
    · rcases List.mem_cons.mp hp with rfl | hp
      · exact ⟨hacc, hDL, hD₀⟩
      · exact ⟨old _ _ (N p hp).1, (N p hp).2⟩
  exact codeAny_compStart_list (loop _ rfl) (W.self 0 _ _ _ st₁ (loop _ rfl))
def Src2 (prog : Program) (w : World) (A : Around) (h₀ : Heap) (L : Addr) (m : Str → Option Value) (env : Env) (elt iter₂ : Expr) (x x₂ : Str) (scope : Scope) (cl : List (Str × Addr)) (y : Str) (Q : Flow → Shared → Prop) (xv : Value) (s₁ : Shared) : Prop :=
  ∃ r a b t u v n a₂ n₂ news f, xv = .ref r ∧ A.handled = none ∧ Fr h₀ L s₁.heap m ∧ News h₀ L s₁.heap news ∧ IsRange s₁.heap r a b 1 t u v ∧ Builtin.Range.small a b 1 = true ∧ Builtin.Range.rangeSize a b 1 = ((n : Nat) : Int) ∧ n * n₂ ≤ sizeLine ∧
    ∀ s₂ : Shared, (∃ h, s₂ = { s₁ with heap := h }) → (∀ i, i < n → SrcI prog w A h₀ L m env iter₂ x scope cl s₂ news a a₂ n₂ i) ∧ (∀ i, i < n → ∀ j, j < n₂ → EltAt prog w A h₀ L m env elt x x₂ scope cl s₂ news a a₂ i j (f i j)) ∧ FinA h₀ L m s₂ y Q (all2 n₂ f n) news
theorem Assign_two {E : Value → Shared → Prop} {s : Shared} {y : Str} {py spos : Pos} {Q : Flow → Shared → Prop} (F₀ : Fr h₀ L s.heap m) (hLe : env.locals = L)
    (hsw : swapsWith (two elt iter iter₂ x x₂ px px₂ scope pos) (some (.Name y py)) spos.line env = pure true)
    (hclos : closureFor scope env = pure cl) (hcell : ∀ z ∈ scope.names, z.2 ≠ .cell) (hkind : scope.kind = .function)
    (hnames : ∀ z ∈ scope.names, z.2 = .local → scope.names.lookup z.1 = some .local) (hx : scope.names.lookup x = some .local) (hx₂ : scope.names.lookup x₂ = some .local) (hxx : x ≠ x₂)
    (hy : env.kindOf y = some .local) (hp : (env.scope.kind == .class || (env.scope.kind == .module && env.locals != env.globals)) = false)
    (h : wpAny (model prog w) A (eval iter env) (Src2 prog w A h₀ L m env elt iter₂ x x₂ scope cl y Q) E s)
    (hs : ∀ z, foldedSetIterable iter env z = pure z := by intro _; rfl) (hs2 : ∀ e z, foldedSetIterable iter₂ e z = pure z := by intro _ _; rfl) :
    wpAny (model prog w) A (exec (.Assign [.Name y py] (two elt iter iter₂ x x₂ px px₂ scope pos) spos) env) Q E s := by
  subst hLe
  rw [exec_Assign_Name_used _ _ _ _ hsw]
  refine wpAny_bind (wpAny_standAt (wpAny_bind ?_))
  show wpAny _ A (do let _ ← comprehension (two elt iter iter₂ x x₂ px px₂ scope pos) scope env _ (newList []) false (eval iter env) (some (assign (.Name y py) env))) _ _ s
  refine wpAny_bind (wpAny_mono (wpAny_comprehension_free (use := some (assign (.Name y py) env)) (Q := fun _ s' => Q .next s') rfl hs hclos hkind hnames
    (wpAny_mono h (fun xv s₁ h₁ => ?_) fun _ _ e => e)) (fun _ s' hq => wpAny_pure (wpAny_pure hq)) fun _ _ e => e)
  obtain ⟨r, a, b, t, u, v, n, a₂, n₂, news, f, rfl, hh, F, N, hr, hsm, hn, hsz, R⟩ := h₁
  refine wpAny_pyIter_range hr hsm ?_
  obtain ⟨src, elts, fin⟩ := R { s₁ with heap := s₁.heap.push _ } ⟨_, rfl⟩
  refine block2 (f := f) hh hsz hcell hkind hx hx₂ hxx hs2 (by show IsRangeIter _ _ _ _ _; rw [hn]; simpa using Heap.get?_push_size _ rfl) ?_
    (F.keeps fun _ _ e => Heap.get?_push_of_some _ e) (N.grown fun _ _ e => Heap.get?_push_of_some _ e) (Nat.ne_of_lt F.ns.lt) (next_is_new F) (fun p hp => Nat.ne_of_lt (Heap.lt_size (N p hp).1)) src elts ?_
  · show s₁.heap.objs.size < (s₁.heap.push _).objs.size
    rw [Heap.size_push]; exact Nat.lt_succ_self _
  · intro D C h' tk m' F' N' o1 hn' hC₀ hD₀ hCL hDL hCD offC
    show wpAny _ A (assign (.Name y py) env (.ref D)) _ _ _
    refine wpAny_assign_Name (wpAny_storeName_local hy F'.ns (fun h₂ hn₂ hs₂ => ?_) hp)
    have hL₀ : h₀.get? env.locals = none := Heap.get?_none_of_le F'.above
    have F₂ : Fr h₀ env.locals h₂ (fun z => if z = y then some (.ref D) else m z) := ⟨hn₂, fun b o e => hs₂.extBut b o (fun q => by rw [q, hL₀] at e; cases e) (F'.keep b o e), F'.above⟩
    refine ⟨m', hn'.sameBut hs₂ hCL, fun h'' hs'' => fin D h'' _ (F₂.change hs'' hCL hC₀) (fun p hp => ?_) o1⟩
    have z : h₂.get? p.1 = some p.2 := hs₂.extBut _ _ (N' p hp).2.1 (N' p hp).1
    refine ⟨hs''.extBut _ _ ?_ z, (N' p hp).2⟩
    rcases List.mem_cons.mp hp with rfl | hp
    · exact Ne.symm hCD
    · exact offC p hp
theorem Src2.range {y : Str} {Q : Flow → Shared → Prop} {r : Addr} {a b : Int} {t u v : Tok} {n : Nat} {s₁ : Shared} (a₂ : Int) (n₂ : Nat) (f : Nat → Nat → Value) (hh : A.handled = none) (F : Fr h₀ L s₁.heap m) (N : News h₀ L s₁.heap news) (hr : IsRange s₁.heap r a b 1 t u v) (hsm : Builtin.Range.small a b 1 = true)
    (hn : Builtin.Range.rangeSize a b 1 = ((n : Nat) : Int)) (hsz : n * n₂ ≤ sizeLine)
    (src : ∀ g i, i < n → SrcI prog w A h₀ L m env iter₂ x scope cl { s₁ with heap := g } news a a₂ n₂ i) (elts : ∀ g i, i < n → ∀ j, j < n₂ → EltAt prog w A h₀ L m env elt x x₂ scope cl { s₁ with heap := g } news a a₂ i j (f i j))
    (fin : ∀ g, FinA h₀ L m { s₁ with heap := g } y Q (all2 n₂ f n) news) : Src2 prog w A h₀ L m env elt iter₂ x x₂ scope cl y Q (.ref r) s₁ :=
  ⟨r, a, b, t, u, v, n, a₂, n₂, news, f, rfl, hh, F, N, hr, hsm, hn, hsz, fun _ ⟨g, e⟩ => e ▸ ⟨src g, elts g, fin g⟩⟩
end
end
section
open PySem.Calls
theorem rowN_lt (c : Int) : (c.fmod 23 - 9).natAbs < 1000000 := by
  have h1 : Int.fmod c 23 = c % 23 := Int.fmod_eq_emod_of_nonneg c (by decide)
  omega
theorem rowD_pos (c : Int) : 0 < 1 + (c.fdiv 23).fmod 4 := by
  have h1 : Int.fmod (c.fdiv 23) 4 = (c.fdiv 23) % 4 := Int.fmod_eq_emod_of_nonneg _ (by decide)
  omega
theorem rowD_lt (c : Int) : 1 + (c.fdiv 23).fmod 4 < 1000000 := by
  have h1 : Int.fmod (c.fdiv 23) 4 = (c.fdiv 23) % 4 := Int.fmod_eq_emod_of_nonneg _ (by decide)
  omega
/-- the fraction that the law draws from a cell of the script -/
def rowF (ns : List Int) (j : Int) : Int × Int := nrm ((cellV ns j).fmod 23 - 9) (1 + ((cellV ns j).fdiv 23).fmod 4)
/-- one part of the names of a matrix that is to be: none, or a list -/
inductive NmV (news : Led) : Value → Option (List Value) → Prop
  | none : NmV news .none none
  | some {nD : Addr} {nvs : List Value} {nc : Nat} : (nD, listOf nvs.toArray nc) ∈ news → nvs.length < 100 → NmV news (.ref nD) (some nvs)
abbrev nullDict (w : World) (k1 k2 tk : Tok) : Obj := dictOf [⟨PyData.keyHash w.params (Str.ofString "kind"), .str (Str.ofString "kind") k1, .str (Str.ofString "NULL") tk⟩, ⟨PyData.keyHash w.params (Str.ofString "attrs"), .str (Str.ofString "attrs") k2, .none⟩] 2
inductive AxV (w : World) (news : Led) : Value → Option (List Value) → Prop
  | null {a da : Addr} {k1 k2 tk : Tok} : (a, instObj 150 da) ∈ news → (da, nullDict w k1 k2 tk) ∈ news → AxV w news (.ref a) none
  | names {a nD : Addr} {nvs : List Value} {nc : Nat} : VecAt w news a (Str.ofString "character") nD .none → (nD, listOf nvs.toArray nc) ∈ news → AxV w news (.ref a) (some nvs)
abbrev OutDimn (w : World) (n1 n2 : Option (List Value)) : Value → Led → Prop := fun r tl => ∃ x D c v1 v2, r = .ref x ∧ VecAt w tl x (Str.ofString "list") D .none ∧ (D, listOf [v1, v2].toArray c) ∈ tl ∧ AxV w tl v1 n1 ∧ AxV w tl v2 n2
theorem AxV.mono {w : World} {n n' : Led} {v : Value} {o : Option (List Value)} (h : AxV w n v o) (s : ∀ p ∈ n, p ∈ n') : AxV w n' v o := by
  cases h with
  | null a b => exact .null (s _ a) (s _ b)
  | names a b => exact .names (a.mono s) (s _ b)
inductive AxL (w : World) (news : Led) : List Value → List (Option (List Value)) → Prop
  | nil : AxL w news [] []
  | cons {v : Value} {o : Option (List Value)} {vs : List Value} {os : List (Option (List Value))} : AxV w news v o → AxL w news vs os → AxL w news (v :: vs) (o :: os)
theorem AxL.mono {w : World} {n n' : Led} (s : ∀ p ∈ n, p ∈ n') : ∀ {vs : List Value} {os : List (Option (List Value))}, AxL w n vs os → AxL w n' vs os
  | _, _, .nil => .nil
  | _, _, .cons a b => .cons (a.mono s) (b.mono s)
theorem AxL.snoc {w : World} {n : Led} {v : Value} {o : Option (List Value)} (a : AxV w n v o) : ∀ {vs : List Value} {os : List (Option (List Value))}, AxL w n vs os → AxL w n (vs ++ [v]) (os ++ [o])
  | _, _, .nil => .cons a .nil
  | _, _, .cons x b => .cons x (b.snoc a)
theorem AxL.turn {w : World} {n tl : Led} {v : Value} {o : Option (List Value)} {vs : List Value} {os : List (Option (List Value))} {i : Nat} (h : AxL w n vs (os.take i)) (ho : os[i]? = some o) (a : AxV w (tl ++ n) v o) : AxL w (tl ++ n) (vs ++ [v]) (os.take (i + 1)) := by
  rw [List.take_add_one, ho]
  exact AxL.snoc a (h.mono fun p hp => List.mem_append.mpr (.inr hp))
theorem AxL.two {w : World} {n : Led} {vs : List Value} {a b : Option (List Value)} (h : AxL w n vs [a, b]) : ∃ x y, vs = [x, y] ∧ AxV w n x a ∧ AxV w n y b := by
  cases h with
  | cons h1 r => cases r with
    | cons h2 r => cases r with
      | nil => exact ⟨_, _, rfl, h1, h2⟩
theorem nm_of {news : Led} {v1 v2 v : Value} {n1 n2 : Option (List Value)} {i : Nat} (h1 : NmV news v1 n1) (h2 : NmV news v2 n2) (hv : [v1, v2][i]? = some v) : ∃ n, NmV news v n ∧ [n1, n2][i]? = some n := by
  match i, hv with
  | 0, hv => cases hv; exact ⟨_, h1, rfl⟩
  | 1, hv => cases hv; exact ⟨_, h2, rfl⟩
abbrev OutNone : Value → Led → Prop := fun r tl => r = .none ∧ tl = []
/-- the attrs of a matrix: its two extents, its names (none at all, or for each side none or a list) -/
inductive MatA (w : World) (news : Led) : Addr → Int → Int → Option (Option (List Value) × Option (List Value)) → Prop
  | plain {ad xd Dd : Addr} {o : Obj} {n m : Int} {t1 t2 : Tok} {c : Nat} : (ad, o) ∈ news → o.IsDictOf (PySem.strKind LP w) [(Str.ofString "dim", .ref xd)] → (ad == sysModules) = false →
      VecAt w news xd (Str.ofString "integer") Dd .none → (Dd, listOf [.int n t1, .int m t2].toArray c) ∈ news → MatA w news ad n m none
  | named {ad xd Dd xn Dn : Addr} {o : Obj} {n m : Int} {t1 t2 : Tok} {c cn : Nat} {v1 v2 : Value} {n1 n2 : Option (List Value)} : (ad, o) ∈ news → o.IsDictOf (PySem.strKind LP w) [(Str.ofString "dim", .ref xd), (Str.ofString "dimnames", .ref xn)] → (ad == sysModules) = false →
      VecAt w news xd (Str.ofString "integer") Dd .none → (Dd, listOf [.int n t1, .int m t2].toArray c) ∈ news →
      VecAt w news xn (Str.ofString "list") Dn .none → (Dn, listOf [v1, v2].toArray cn) ∈ news → AxV w news v1 n1 → AxV w news v2 n2 → MatA w news ad n m (some (n1, n2))
theorem MatA.mono {w : World} {l l' : Led} {ad : Addr} {n m : Int} {nms : Option (Option (List Value) × Option (List Value))} (h : MatA w l ad n m nms) (s : ∀ p ∈ l, p ∈ l') : MatA w l' ad n m nms := by
  cases h with
  | plain h1 h2 h3 h4 h5 => exact .plain (s _ h1) h2 h3 (h4.mono s) (s _ h5)
  | named h1 h2 h3 h4 h5 h6 h7 h8 h9 => exact .named (s _ h1) h2 h3 (h4.mono s) (s _ h5) (h6.mono s) (s _ h7) (h8.mono s) (h9.mono s)
abbrev OutMat (w : World) (D : Addr) (n m : Int) (nms : Option (Option (List Value) × Option (List Value))) : Value → Led → Prop := fun r tl => ∃ x ad, r = .ref x ∧ VecAt w tl x (Str.ofString "double") D (.ref ad) ∧ MatA w tl ad n m nms
theorem NmV.mono {n n' : Led} {v : Value} {o : Option (List Value)} (h : NmV n v o) (s : ∀ p ∈ n, p ∈ n') : NmV n' v o := by
  cases h with
  | none => exact .none
  | some a b => exact .some (s _ a) b
section
end
section
end

/-- names as values and as data -/
def NmR : Option (List Value) → Option (List Dat) → Prop
  | none, none => True
  | some vs, some ds => DatAll [] vs ds
  | _, _ => False
def NmsR : Option (Option (List Value) × Option (List Value)) → Option (List Dat) → Option (List Dat) → Prop
  | none, a, b => a = none ∧ b = none
  | some (p, q), a, b => NmR p a ∧ NmR q b ∧ (a ≠ none ∨ b ≠ none)
abbrev OutOuter (w : World) (ds : List Dat) (n m : Int) (a b : Option (List Dat)) : Value → Led → Prop := fun r tl => ∃ x D c ad vs nms, r = .ref x ∧ VecAt w tl x (Str.ofString "double") D (.ref ad) ∧ (D, listOf vs.toArray c) ∈ tl ∧ DatAll tl vs ds ∧ MatA w tl ad n m nms ∧ NmsR nms a b
theorem end_outer {w : World} {h₀ h' : Heap} {L l x ad : Addr} {mm : Str → Option Value} {news all tlM tl' : Led} {s : Shared} {Q : Value → Shared → Prop} {tk' ci : Nat} {ds : List Dat} {its : List Value} {n m : Int} {a b : Option (List Dat)} {nms : Option (Option (List Value) × Option (List Value))}
    (hret : ∀ r tl h' tk', Fr h₀ L h' mm → News h₀ L h' (tl ++ news) → Apart tl news → OutOuter w ds n m a b r tl → Q r { s with heap := h', toks := tk' })
    (F : Fr h₀ L h' mm) (N : News h₀ L h' all) (s1 : ∀ p ∈ tlM, p ∈ all) (hl : (l, listOf its.toArray ci) ∈ all) (s2 : ∀ p ∈ tl', p ∈ all) (s3 : ∀ p ∈ news, p ∈ all)
    (a1 : Apart tlM news) (a2 : ∀ q ∈ news, @Ne Nat q.1 l) (a3 : Apart tl' news) (V : VecAt w tlM x (Str.ofString "double") l (.ref ad)) (M : MatA w tlM ad n m nms) (D : DatAll tl' its ds) (R : NmsR nms a b) : Q (.ref x) { s with heap := h', toks := tk' } := by
  refine hret _ (tlM ++ ((l, listOf its.toArray ci) :: tl')) _ _ F (fun p hp => N p ?_) (a1.append (Apart.c a2 a3)) ⟨x, l, ci, ad, its, nms, rfl, V.mono fun p hp => List.mem_append.mpr (.inl hp), List.mem_append.mpr (.inr (.head _)), D.mono fun p hp => List.mem_append.mpr (.inr (.tail _ hp)), M.mono fun p hp => List.mem_append.mpr (.inl hp), R⟩
  rcases List.mem_append.mp hp with hp | hp
  · rcases List.mem_append.mp hp with hp | hp
    · exact s1 p hp
    · rcases List.mem_cons.mp hp with rfl | hp
      · exact hl
      · exact s2 p hp
  · exact s3 p hp
/-- a new Vector without names: its items told as they stand -/
abbrev OutDiag (w : World) (ws : List Value) : Value → Led → Prop := fun r tl => ∃ x D c, r = .ref x ∧ VecAt w tl x (Str.ofString "double") D .none ∧ (D, listOf ws.toArray c) ∈ tl
theorem item_raw {prog : Program} {w : World} {A : Around} {E : Value → Shared → Prop} {s : Shared} {h₀ : Heap} {L l : Addr} {news : Led} {vs : List Value} {c : Nat} {Q : Value → Shared → Prop} {value slice : Expr} {k : Int} {u : Tok}
    (N : News h₀ L s.heap news) (hm : (l, listOf vs.toArray c) ∈ news) (h0 : 0 ≤ k) (hk : k < (vs.length : Int)) (hb : k < 2 ^ 60) (h : Q (vs.getD k.toNat .none) s)
    (hs : subscripted slice false (.ref l) (.int k u) = operate [.ref l, .int k u] (getItem (.ref l) (.int k u)) := by with_unfolding_all rfl) (hg : ∀ r, letTemporaryGo value (.ref l) r = pure () := by intro _; with_unfolding_all rfl) :
    wpAny (model prog w) A (subscriptTail value slice (.ref l) (.int k u)) Q E s := by
  have hk' : k.toNat < vs.length := by omega
  refine item_listL (News.isList N hm) h0 (by omega) ?_ h hs hg
  rw [List.getD_eq_getElem?_getD, List.getElem?_eq_getElem hk']; rfl
theorem comp_range_raw {prog : Program} {w : World} {A : Around} {h₀ : Heap} {L : Addr} {m : Str → Option Value} {env : Env} {elt : Expr} {x : Str} {scope : Scope} {cl : List (Str × Addr)} {s : Shared} {S : Led → Prop} {Fin : List Value → Led → Prop} {news : Led} {n : Nat} {a : Int} (f : Nat → Value)
    (turn : ∀ (i : Nat) t I oI C oC D m₂ h tk (E' : Value → Shared → Prop), i < n → LCg.NsObj oC m₂ → m₂ x = some (.int (a + (i : Int)) t) → Fr h₀ L h m → News h₀ L h ((I, oI) :: (C, oC) :: (D, LCg.lst ((List.range i).map f)) :: news) → LCg.Off3 I C D news → ((@Ne Nat I C) ∧ (@Ne Nat I D) ∧ (@Ne Nat C D)) →
      wpAny (model prog w) A (eval elt (compEnvC scope cl C env)) (LCg.CompEnd h₀ L m { s with heap := h, toks := tk } I oI C oC D (LCg.lst ((List.range i).map f)) S (fun y nw => nw = news ∧ y = f i)) E' { s with heap := h, toks := tk })
    (fin : Fin ((List.range n).map f) news) : LCg.CompRest prog w A h₀ L m env elt x scope cl s S (fun i v => ∃ t, v = .int (a + (i : Int)) t) Fin n 0 [] news := by
  refine comp_grow (fun i ys nw => nw = news ∧ ys = (List.range i).map f) ⟨rfl, rfl⟩ ?_ ?_
  · rintro i v I oI C oC D m₂ ys nw h tk E' hi ⟨t, rfl⟩ ⟨rfl, rfl⟩ hC hx F N off ne
    refine wpAny_mono (turn i t I oI C oC D m₂ h tk E' hi hC hx F N off ne) (fun y s₂ hq => ?_) fun _ _ e => e
    obtain ⟨h', tk', nw', e, F', N', off', hS, rfl, rfl⟩ := hq
    refine ⟨h', tk', _, e, F', N', off', hS, rfl, ?_⟩
    rw [List.range_succ, List.map_append]; rfl
  · rintro ys nw ⟨rfl, rfl⟩
    exact fin
theorem datAll_map {α : Type} {K : Led} {f : α → Value} {g : α → Dat} : ∀ {l : List α}, (∀ i ∈ l, DatIn K (f i) (g i)) → DatAll K (l.map f) (l.map g)
  | [], _ => .nil
  | _ :: _, h => .cons (h _ (.head _)) (datAll_map fun i hi => h i (.tail _ hi))
theorem dat_getD {K : Led} {vs : List Value} {ds : List Dat} {i : Nat} (h : DatAll K vs ds) (hi : i < vs.length) : DatIn K (vs.getD i .none) (ds.getD i Dat.none) := by
  have hl := h.length
  have hi2 : i < ds.length := by omega
  obtain ⟨v, hv, hd⟩ := h.get hi2
  rw [List.getD_eq_getElem?_getD, hv, List.getD_eq_getElem?_getD, List.getElem?_eq_getElem hi2]
  exact hd
theorem diag_lt {p n m : Nat} (h1 : p < n) (h2 : p < m) : p * n + p < n * m := by
  have := Nat.mul_le_mul_right n (show p + 1 ≤ m from h2)
  rw [Nat.add_mul, Nat.one_mul, Nat.mul_comm m n] at this
  omega
/-- the items of a diagonal matrix -/
def dgCell (vs : List Value) (i j : Nat) : Value := if j = i then vs.getD (j % vs.length) .none else .ref 537
def DG (vs : List Value) (nr mm : Nat) : List Value := (List.range mm).flatMap fun i => (List.range nr).map fun j => dgCell vs i j
abbrev OutDM (w : World) (vs : List Value) (nr mm : Nat) : Value → Led → Prop := fun r tl => ∃ x D c ad, r = .ref x ∧ VecAt w tl x (Str.ofString "double") D (.ref ad) ∧ (D, listOf (DG vs nr mm).toArray c) ∈ tl ∧ MatA w tl ad nr mm none
theorem DG_len {vs : List Value} {nr mm : Nat} : (DG vs nr mm).length = nr * mm := by
  unfold DG
  induction mm with
  | zero => simp
  | succ k ih => rw [List.range_succ, List.flatMap_append, List.length_append, ih]; simp [Nat.mul_succ]
theorem DG_snoc {vs : List Value} {nr i : Nat} : DG vs nr i ++ (List.range nr).map (fun j => dgCell vs i j) = DG vs nr (i + 1) := by
  unfold DG
  rw [List.range_succ, List.flatMap_append]; simp
theorem dg_turn {vs itt : List Value} {i j : Nat} {v : Value} (h : itt = (List.range j).map fun j => dgCell vs i j) (e : v = dgCell vs i j) : itt ++ [v] = (List.range (j + 1)).map fun j => dgCell vs i j := by
  rw [List.range_succ, List.map_append, h, e]; rfl
theorem drop_two {tl news : Led} {a b c : Addr × Obj} : ∀ p ∈ (tl ++ [c]) ++ news, p ∈ tl ++ (a :: b :: c :: news) := by
  intro p hp
  simp only [List.mem_append, List.mem_cons, List.not_mem_nil, or_false] at hp ⊢
  rcases hp with (h | h) | h
  · exact .inl h
  · exact .inr (.inr (.inr (.inl h)))
  · exact .inr (.inr (.inr (.inr h)))
theorem mod_facts {j n : Nat} (h : 0 < n) : Int.fmod (0 + (j : Int)) (n : Int) = ((j % n : Nat) : Int) ∧ j % n < n := by
  refine ⟨?_, Nat.mod_lt _ h⟩
  rw [Int.zero_add, Int.fmod_eq_emod_of_nonneg _ (by omega)]
  rfl
theorem small_nat {n : Nat} (h : n < 100) : Builtin.Range.small 0 (n : Int) 1 = true := small_one (by decide) (by decide) (by omega) (by omega)
theorem size_nat (n : Nat) : Builtin.Range.rangeSize 0 (n : Int) 1 = ((n : Nat) : Int) := by
  have h := rangeSize_nat 0 (n : Int)
  rw [h]
  omega
def hD : Option (List Dat) → Dat
  | none => .none
  | some ds => .list ds
abbrev OutHead (news : Led) (d : Dat) : Value → Led → Prop := fun r tl => tl = [] ∧ DatIn news r d
abbrev OutAxes (news : Led) (a b : Option (List Dat)) : Value → Led → Prop := fun r tl => ∃ D c vs, r = .ref D ∧ (D, listOf vs.toArray c) ∈ tl ∧ DatAll (tl ++ news) vs [hD a, hD b]
theorem NmR.none_eq {c : Option (List Dat)} (h : NmR none c) : c = none := by
  cases c with
  | none => rfl
  | some _ => exact absurd h id
theorem NmR.some_eq {vs : List Value} {c : Option (List Dat)} (h : NmR (some vs) c) : ∃ ds, c = some ds ∧ DatAll [] vs ds := by
  cases c with
  | none => exact absurd h id
  | some ds => exact ⟨ds, rfl, h⟩
theorem ax_of {w : World} {n : Led} {v1 v2 v : Value} {p q : Option (List Value)} {a b : Option (List Dat)} {i : Nat} (A1 : AxV w n v1 p) (A2 : AxV w n v2 q) (R1 : NmR p a) (R2 : NmR q b) (hv : ([v1, v2].toArray)[i]? = some v) :
    ∃ o c, AxV w n v o ∧ NmR o c ∧ [hD a, hD b].getD i Dat.none = hD c := by
  match i, hv with
  | 0, hv => cases hv; exact ⟨_, _, A1, R1, rfl⟩
  | 1, hv => cases hv; exact ⟨_, _, A2, R2, rfl⟩
end
section
open PySem.Calls PyProof.V PySem.Spec
theorem rm0 {d n r k : Nat} (h : d + n < r) (e : Nat.ble k n = true) : d + k < r := Nat.lt_of_le_of_lt (Nat.add_le_add_left (Nat.le_of_ble_eq_true e) d) h
theorem rm1 {d n r k : Nat} (h : d + n < r) (e : Nat.ble (1 + k) n = true) : d + 1 + k < r := by
  rw [Nat.add_assoc]
  exact rm0 h e
theorem un0 {u n c k : Nat} (h : u + 20 * n + 100 < c) (e : Nat.ble k n = true) : u + 20 * k + 100 < c := by
  have := Nat.le_of_ble_eq_true e
  omega
theorem un1 {u n c k : Nat} (h : u + 20 * n + 100 < c) (e : Nat.ble (1 + k) n = true) : u + 3 + 20 * k + 100 < c := by
  have := Nat.le_of_ble_eq_true e
  omega
theorem unF {u n c j : Nat} (h : u + 20 * n + 100 < c) (e : Nat.ble (1 + j) n = true) : u + 3 + 20 * j + 100 < c := un1 h e
theorem unV {u c : Nat} (h : u + 20 * 20 + 100 < c) : u + 3 + 64 < c := by omega
theorem rmz {d n r : Nat} (h : d + n < r) : d < r := Nat.lt_of_le_of_lt (Nat.le_add_right d n) h
theorem rm2 {d n r k : Nat} (h : d + n < r) (e : Nat.ble (2 + k) n = true) : d + 1 + 1 + k < r := by
  rw [Nat.add_assoc, Nat.add_assoc]
  exact rm0 h (by rw [← Nat.add_assoc]; exact e)
theorem tell_mk {k : Nat} {w : World} {mean : ExcName → Option Value} {mg mb : Str → Option Value} {PB : Heap → Prop} {f : Addr} {args : List Value} {news : Led} {Out : Value → Led → Prop}
    (H : ∀ (dp un : Nat) (gd : Option (List Code)) (cn : Str) (cs : Scope) (a : Addr) (ccd : Value) (cl : List (Str × Addr)) (outer : List Env) (A₀ : Around) (base h₀ : Heap) (L : Addr) (m : Str → Option Value) (s : Shared) (Q E : Value → Shared → Prop),
      PB base → Below A₀ base outer h₀ → Fr h₀ L s.heap m → (fr.heap_1 w.params).In h₀ → News h₀ L s.heap news → LTop mean mg mb h₀ → cs.kind = .function →
      dp + k < recursionLimit → un + 20 * k + 100 < cLine → (∀ j, Nat.ble (1 + j) k = true → un + 3 + 20 * j + 100 < cLine) →
      (∀ r tl h' tk', Fr h₀ L h' m → News h₀ L h' (tl ++ news) → Apart tl news → Out r tl → Q r { s with heap := h', toks := tk' }) →
      wpAny (model LP w) (ktrTop dp un gd cn cs L a ccd cl outer) (call (.ref f) args) Q E s) : Tell k w mean mg mb PB f args news Out :=
  fun dp un gd cn cs a ccd cl outer A₀ base h₀ L m s Q E PB B F X N T hk hdp hun hret => H dp un gd cn cs a ccd cl outer A₀ base h₀ L m s Q E PB B F X N T hk hdp hun (fun _ e => unF hun e) hret
theorem up0 {a : Nat} : a < a + 1 := Nat.lt_succ_self a
theorem up1 {a b : Nat} (h : a < b) : a < b + 1 := Nat.lt_succ_of_lt h
theorem sz_lt {a n k : Nat} (h : a < n) (e : Nat.ble n k = true) : a ≤ k := Nat.le_trans (Nat.le_of_lt h) (Nat.le_of_ble_eq_true e)
theorem sz_le {a n k : Nat} (h : a ≤ n) (e : Nat.ble n k = true) : a ≤ k := Nat.le_trans h (Nat.le_of_ble_eq_true e)
theorem sz_eq {a b n k : Nat} (q : a = b) (h : b ≤ n) (e : Nat.ble n k = true) : a ≤ k := q ▸ sz_le h e
theorem sz_el {a b n k : Nat} (q : a = b) (h : b < n) (e : Nat.ble n k = true) : a ≤ k := q ▸ sz_lt h e
theorem sz_ll {a b n k : Nat} (q : a ≤ b) (h : b < n) (e : Nat.ble n k = true) : a ≤ k := Nat.le_trans q (sz_lt h e)
theorem lt_eq {a b n k : Nat} (q : a = b) (h : b ≤ n) (e : Nat.ble (n + 1) k = true) : a < k := q ▸ Nat.lt_of_lt_of_le (Nat.lt_succ_of_le h) (Nat.le_of_ble_eq_true e)
theorem lt_lt {a n k : Nat} (h : a < n) (e : Nat.ble n k = true) : a < k := Nat.lt_of_lt_of_le h (Nat.le_of_ble_eq_true e)
theorem lt_el {a b n k : Nat} (q : a = b) (h : b < n) (e : Nat.ble n k = true) : a < k := q ▸ lt_lt h e
theorem lt_le {a n k : Nat} (h : a ≤ n) (e : Nat.ble (n + 1) k = true) : a < k := Nat.lt_of_le_of_lt h (Nat.le_of_ble_eq_true e)
theorem Apart.r2 {x d : Addr} {o o2 : Obj} {l nw : Led} (y : Apart [(x, o), (d, o2)] nw) (s : ∀ p ∈ l, p ∈ nw) : ∀ p ∈ l, p.1 ≠ d := fun p hp => y _ (.tail _ (.head _)) p (s p hp)
theorem Apart.r1 {x d : Addr} {o o2 : Obj} {l nw : Led} (y : Apart [(x, o), (d, o2)] nw) (s : ∀ p ∈ l, p ∈ nw) : ∀ p ∈ l, p.1 ≠ x := fun p hp => y _ (.head _) p (s p hp)
theorem Apart.sd {e : Addr × Obj} {D d : Addr} {o o' : Obj} {tl news : Led} (h : Apart (e :: (D, o) :: tl) news) (m : (d, o') ∈ news) : @Ne Nat D d := (h _ (.tail _ (.head _)) _ m).symm
theorem Apart.sd' {e : Addr × Obj} {D d : Addr} {o o' : Obj} {tl news : Led} (h : Apart (e :: (D, o) :: tl) news) (m : (d, o') ∈ news) : @Ne Nat d D := h _ (.tail _ (.head _)) _ m
theorem apart_xd {x d : Addr} {o o2 : Obj} {news : Led} (h : ∀ p ∈ news, @LT.lt Nat _ p.1 d) (k : @LT.lt Nat _ d x) : Apart [(x, o), (d, o2)] news := by
  intro y hy q hq
  have l := h q hq
  rcases List.mem_cons.mp hy with e | hy
  · subst e; exact Nat.ne_of_lt (Nat.lt_trans l k)
  · rcases List.mem_cons.mp hy with e | hy
    · subst e; exact Nat.ne_of_lt l
    · cases hy
theorem via0 {α : Type} {m : α} {l L : List α} (h : m ∈ l) (k : m ∈ l → m ∈ L) : m ∈ L := k h
theorem Apart.ne3 {e : Addr × Obj} {tl news : Led} {d : Addr} {o : Obj} (h : Apart (e :: tl) news) (m : (d, o) ∈ news) : ∀ p ∈ tl, p.1 ≠ d := fun p hp e => h p (.tail _ hp) _ m e.symm
end
local macro_rules | `(tactic| walk_at $s:str) => `(tactic| k_extra $s)
local macro_rules | `(tactic| k_mem) => `(tactic| first
  | ((repeat (first | (with_reducible exact List.mem_cons_self) | (with_reducible refine List.mem_cons_of_mem _ ?_) | (with_reducible refine List.mem_append.mpr (Or.inr ?_)))); done)
  | (refine' via0 ?hm9 ?hp9; (case hm9 => with_reducible assumption); (case hp9 => (intro h9; (repeat (first | (with_reducible exact h9) | (with_reducible refine List.mem_cons_of_mem _ ?_) | ((with_reducible refine List.mem_append.mpr (Or.inl ?_)); with_reducible exact h9) | (with_reducible refine List.mem_append.mpr (Or.inr ?_)))); done))))
local macro_rules | `(tactic| k_lt $h:ident) => `(tactic| (replace $h := allLt_of $h; simp only [allLt_app, AllLt, and_true, and_assoc] at $h:ident; (repeat (have hLt9 := And.left $h; replace $h := And.right $h))))
local macro_rules | `(tactic| k_all) => `(tactic| first
  | exact List.forall_mem_nil _
  | (with_reducible refine List.forall_mem_cons.mpr ⟨?ka, ?kb⟩; (case ka => k_ne); (case kb => k_all))
  | (with_reducible refine List.forall_mem_append.mpr ⟨?ka, ?kb⟩; (case ka => k_all); (case kb => k_all))
  | exact allLt_ne (by with_reducible assumption)
  | exact off1_ne (by with_reducible assumption)
  | exact Apart.ne (by with_reducible assumption) (by k_mem))
local macro_rules | `(tactic| k_upd) => `(tactic| (refine' upd_app ?ka ?kb; (case ka => k_all); (case kb => k_upd)))
local macro_rules | `(tactic| k_updF) => `(tactic| (refine' updF_app ?ka ?kb; (case ka => k_all); (case kb => k_updF)))
local macro_rules | `(tactic| k_room) => `(tactic| ktr_room)
local macro_rules | `(tactic| k_in) => `(tactic| (refine' Frag.In.keeps ?ki (Fr.keep ?kf); (case kf => with_reducible assumption); (case ki => with_reducible assumption)))
local macro_rules | `(tactic| k_enter) => `(tactic| (refine' code_def ?k1 ?k2 ?k3 ?k4 ?k5 ?kA ?kF ?kK ?k6 ?k7 ?k8 ?k9 ?kB ?_ ?c2 ?c3 ?c4 ?c5; (case kA => exact rfl); (case kF => exact rfl); (case kK => exact rfl); (case k1 => k_asm); (case k2 => k_asm); (case k3 => k_asm); (case k4 => k_asm); (case k5 => k_asm); (case k6 => k_is); (case k7 => k_is); (case k8 => k_room); (case k9 => first | exact BindsTo.of_eq rfl | exact binds_K (by k_in) rfl (by k_is) rfl rfl rfl | fail "k_enter: no rule for these arguments"); (case c5 => decide); (case kB => exact locs rfl); (case c2 => exact rfl); (case c3 => exact rfl); (case c4 => exact rfl); k_whole; intro g' L' h' FG' F' N' B' X' T'; (try dsimp only); (try k_lift B'); (try k_fold)))
local macro_rules | `(tactic| k_all) => `(tactic| first | with_reducible assumption | exact allLt_lt2 (by with_reducible assumption) (by with_reducible assumption) | exact allLt_lt2 (by with_reducible assumption) (allLt_of (by with_reducible assumption)) | exact allLt_ne (allLt_of (by with_reducible assumption)) | exact cell_ne (by with_reducible assumption) (Nat.le_succ_of_le (Nat.le_succ _)) | exact cell_ne (by with_reducible assumption) (Nat.le_succ _) | fail "k_all")
local macro_rules | `(tactic| k_ne) => `(tactic| first | exact Apart.hd (by with_reducible assumption) (by k_mem) | exact Apart.hd' (by with_reducible assumption) (by k_mem) | exact Apart.sd (by with_reducible assumption) (by k_mem) | exact Apart.sd' (by with_reducible assumption) (by k_mem))
local macro_rules | `(tactic| k_all) => `(tactic| first | exact Apart.ne (by with_reducible assumption) (by k_mem) | exact Apart.ne3 (by with_reducible assumption) (by k_mem) | fail "k_all")
local macro_rules | `(tactic| k_ne) => `(tactic| first | exact Nat.ne_of_lt (by with_reducible assumption) | exact Nat.ne_of_gt (by with_reducible assumption) | exact Nat.ne_of_lt (by first | with_reducible exact up0 | with_reducible exact up1 up0 | with_reducible exact up1 (up1 up0) | with_reducible exact up1 (up1 (up1 up0)) | with_reducible exact up1 (up1 (up1 (up1 up0))) | with_reducible exact up1 (up1 (up1 (up1 (up1 up0))))) | exact Nat.ne_of_gt (by first | with_reducible exact up0 | with_reducible exact up1 up0 | with_reducible exact up1 (up1 up0) | with_reducible exact up1 (up1 (up1 up0)) | with_reducible exact up1 (up1 (up1 (up1 up0))) | with_reducible exact up1 (up1 (up1 (up1 (up1 up0))))) | exact Nat.ne_of_lt (Nat.lt_trans (by with_reducible assumption) (by with_reducible assumption)) | exact Nat.ne_of_gt (Nat.lt_trans (by with_reducible assumption) (by with_reducible assumption)) | with_reducible assumption | exact Ne.symm (by with_reducible assumption) | (refine neN ?_; (try dsimp only); omega) | exact Apart.hd (by with_reducible assumption) (by k_mem) | exact Apart.hd' (by with_reducible assumption) (by k_mem) | exact Apart.sd (by with_reducible assumption) (by k_mem) | exact Apart.sd' (by with_reducible assumption) (by k_mem))
local macro_rules | `(tactic| k_all) => `(tactic| first | (refine' Apart.r2 ?y9 ?s9; (case y9 => with_reducible assumption); (case s9 => (intro p hp; k_mem))) | (refine' Apart.r1 ?y9 ?s9; (case y9 => with_reducible assumption); (case s9 => (intro p hp; k_mem))) | fail "k_all")
local macro_rules | `(tactic| ktr_room) => `(tactic| first | exact rm1 (by with_reducible assumption) rfl | exact rm0 (by with_reducible assumption) rfl | exact rm0 (by assumption) rfl | exact rm2 (by with_reducible assumption) rfl | exact rmz (by with_reducible assumption) | fail "room")
local macro_rules | `(tactic| ktr_units) => `(tactic| first | exact un1 (by with_reducible assumption) rfl | exact un0 (by with_reducible assumption) rfl | fail "units")
section
open PySem.Calls PyProof.V PySem.Spec
theorem use_int0 {k : Nat} {w : World} {mean : ExcName → Option Value} {mg mb : Str → Option Value} {PB : Heap → Prop} {f : Addr} {args : List Value} {news : Led} {dp un : Nat} {gd : Option (List Code)} {cn : Str} {cs : Scope} {a : Addr} {ccd : Value} {cl : List (Str × Addr)} {outer : List Env} {A₀ : Around} {base h₀ : Heap} {L : Addr} {m : Str → Option Value} {s : Shared} {Q E : Value → Shared → Prop} {i : Int}
    (P : PB base) (B : Below A₀ base outer h₀) (F : Fr h₀ L s.heap m) (X : (fr.heap_1 w.params).In h₀) (N : News h₀ L s.heap news) (T : LTop mean mg mb h₀) (hk : cs.kind = .function) (C : Tell k w mean mg mb PB f args news (OutInt i)) (hd : dp + k < recursionLimit) (hu : un + 20 * k + 100 < cLine)
    (ret : ∀ (t : Tok) (h' : Heap) (tk' : Nat), Fr h₀ L h' m → News h₀ L h' (([] : Led) ++ news) → Q (.int i t) { s with heap := h', toks := tk' }) : wpAny (model LP w) (ktrTop dp un gd cn cs L a ccd cl outer) (call (.ref f) args) Q E s := by
  refine tell_use P B F X N T hk C hd hu ?_
  rintro r tl h' tk' F' N' y' ⟨t, rfl, rfl⟩
  exact ret t h' tk' F' N'
theorem use_tup0 {k : Nat} {w : World} {mean : ExcName → Option Value} {mg mb : Str → Option Value} {PB : Heap → Prop} {f : Addr} {args : List Value} {news : Led} {dp un : Nat} {gd : Option (List Code)} {cn : Str} {cs : Scope} {a : Addr} {ccd : Value} {cl : List (Str × Addr)} {outer : List Env} {A₀ : Around} {base h₀ : Heap} {L : Addr} {m : Str → Option Value} {s : Shared} {Q E : Value → Shared → Prop} {q : Int × Int}
    (P : PB base) (B : Below A₀ base outer h₀) (F : Fr h₀ L s.heap m) (X : (fr.heap_1 w.params).In h₀) (N : News h₀ L s.heap news) (T : LTop mean mg mb h₀) (hk : cs.kind = .function) (C : Tell k w mean mg mb PB f args news (OutTup q)) (hd : dp + k < recursionLimit) (hu : un + 20 * k + 100 < cLine)
    (ret : ∀ (D : Addr) (u1 u2 : Tok) (c : Nat) (h' : Heap) (tk' : Nat), Fr h₀ L h' m → News h₀ L h' ([(D, tup2 q u1 u2 c)] ++ news) → Apart ([(D, tup2 q u1 u2 c)]) news → Q (.ref D) { s with heap := h', toks := tk' }) : wpAny (model LP w) (ktrTop dp un gd cn cs L a ccd cl outer) (call (.ref f) args) Q E s := by
  refine tell_use P B F X N T hk C hd hu ?_
  rintro r tl h' tk' F' N' y' ⟨D, u1, u2, c, rfl, rfl⟩
  exact ret D u1 u2 c h' tk' F' N' y'
theorem use_copy {k : Nat} {w : World} {mean : ExcName → Option Value} {mg mb : Str → Option Value} {PB : Heap → Prop} {f : Addr} {args : List Value} {news : Led} {dp un : Nat} {gd : Option (List Code)} {cn : Str} {cs : Scope} {a : Addr} {ccd : Value} {cl : List (Str × Addr)} {outer : List Env} {A₀ : Around} {base h₀ : Heap} {L : Addr} {m : Str → Option Value} {s : Shared} {Q E : Value → Shared → Prop} {vs : List Value}
    (P : PB base) (B : Below A₀ base outer h₀) (F : Fr h₀ L s.heap m) (X : (fr.heap_1 w.params).In h₀) (N : News h₀ L s.heap news) (T : LTop mean mg mb h₀) (hk : cs.kind = .function) (C : Tell k w mean mg mb PB f args news (OutCopy vs)) (hd : dp + k < recursionLimit) (hu : un + 20 * k + 100 < cLine)
    (ret : ∀ (D : Addr) (c : Nat) (h' : Heap) (tk' : Nat), Fr h₀ L h' m → News h₀ L h' ([(D, listOf vs.toArray c)] ++ news) → Apart ([(D, listOf vs.toArray c)]) news → Q (.ref D) { s with heap := h', toks := tk' }) : wpAny (model LP w) (ktrTop dp un gd cn cs L a ccd cl outer) (call (.ref f) args) Q E s := by
  refine tell_use P B F X N T hk C hd hu ?_
  rintro r tl h' tk' F' N' y' ⟨D, c, rfl, rfl⟩
  exact ret D c h' tk' F' N' y'
/-- a Vector just made over a list that stands already -/
abbrev OutNew (w : World) (kd : Str) (D : Addr) (news : Led) : Value → Led → Prop := fun r tl => ∃ x d k1 k2 k3 k4 k5 tk, r = .ref x ∧ @LT.lt Nat _ d x ∧ (∀ p ∈ news, @LT.lt Nat _ p.1 d) ∧ tl = [(x, instObj 179 d), (d, dictOf [⟨PyData.keyHash w.params (Str.ofString "kind"), .str (Str.ofString "kind") k1, .str kd tk⟩, ⟨PyData.keyHash w.params (Str.ofString "items"), .str (Str.ofString "items") k2, .ref D⟩, ⟨PyData.keyHash w.params (Str.ofString "attrs"), .str (Str.ofString "attrs") k3, .none⟩, ⟨PyData.keyHash w.params (Str.ofString "shared"), .str (Str.ofString "shared") k4, .bool false⟩, ⟨PyData.keyHash w.params (Str.ofString "loose"), .str (Str.ofString "loose") k5, .bool false⟩] 5)]
theorem use_new {k : Nat} {w : World} {mean : ExcName → Option Value} {mg mb : Str → Option Value} {PB : Heap → Prop} {f : Addr} {args : List Value} {news : Led} {dp un : Nat} {gd : Option (List Code)} {cn : Str} {cs : Scope} {a : Addr} {ccd : Value} {cl : List (Str × Addr)} {outer : List Env} {A₀ : Around} {base h₀ : Heap} {L : Addr} {m : Str → Option Value} {s : Shared} {Q E : Value → Shared → Prop} {kd : Str} {D : Addr}
    (P : PB base) (B : Below A₀ base outer h₀) (F : Fr h₀ L s.heap m) (X : (fr.heap_1 w.params).In h₀) (N : News h₀ L s.heap news) (T : LTop mean mg mb h₀) (hk : cs.kind = .function) (C : Tell k w mean mg mb PB f args news (OutNew w kd D news)) (hd : dp + k < recursionLimit) (hu : un + 20 * k + 100 < cLine)
    (ret : ∀ (x : Addr) (tl : Led) (h' : Heap) (tk' : Nat), Fr h₀ L h' m → News h₀ L h' (tl ++ news) → Apart (tl) news → VecAt w tl x kd D .none → Q (.ref x) { s with heap := h', toks := tk' }) : wpAny (model LP w) (ktrTop dp un gd cn cs L a ccd cl outer) (call (.ref f) args) Q E s := by
  refine tell_use P B F X N T hk C hd hu ?_
  rintro r tl h' tk' F' N' y' ⟨x, d, k1, k2, k3, k4, k5, tk, rfl, lx, ll, rfl⟩
  exact ret x _ h' tk' F' N' y' ⟨d, k1, k2, k3, k4, k5, tk, _, _, .head _, .tail _ (.head _)⟩
theorem use_newx {k : Nat} {w : World} {mean : ExcName → Option Value} {mg mb : Str → Option Value} {PB : Heap → Prop} {f : Addr} {args : List Value} {news : Led} {dp un : Nat} {gd : Option (List Code)} {cn : Str} {cs : Scope} {a : Addr} {ccd : Value} {cl : List (Str × Addr)} {outer : List Env} {A₀ : Around} {base h₀ : Heap} {L : Addr} {m : Str → Option Value} {s : Shared} {Q E : Value → Shared → Prop} {kd : Str} {D : Addr}
    (P : PB base) (B : Below A₀ base outer h₀) (F : Fr h₀ L s.heap m) (X : (fr.heap_1 w.params).In h₀) (N : News h₀ L s.heap news) (T : LTop mean mg mb h₀) (hk : cs.kind = .function) (C : Tell k w mean mg mb PB f args news (OutNew w kd D news)) (hd : dp + k < recursionLimit) (hu : un + 20 * k + 100 < cLine)
    (ret : ∀ (x d : Addr) (k1 k2 k3 k4 k5 tk : Tok) (h' : Heap) (tk' : Nat), Fr h₀ L h' m → News h₀ L h' ([(x, instObj 179 d), (d, dictOf [⟨PyData.keyHash w.params (Str.ofString "kind"), .str (Str.ofString "kind") k1, .str kd tk⟩, ⟨PyData.keyHash w.params (Str.ofString "items"), .str (Str.ofString "items") k2, .ref D⟩, ⟨PyData.keyHash w.params (Str.ofString "attrs"), .str (Str.ofString "attrs") k3, .none⟩, ⟨PyData.keyHash w.params (Str.ofString "shared"), .str (Str.ofString "shared") k4, .bool false⟩, ⟨PyData.keyHash w.params (Str.ofString "loose"), .str (Str.ofString "loose") k5, .bool false⟩] 5)] ++ news) → Apart ([(x, instObj 179 d), (d, dictOf [⟨PyData.keyHash w.params (Str.ofString "kind"), .str (Str.ofString "kind") k1, .str kd tk⟩, ⟨PyData.keyHash w.params (Str.ofString "items"), .str (Str.ofString "items") k2, .ref D⟩, ⟨PyData.keyHash w.params (Str.ofString "attrs"), .str (Str.ofString "attrs") k3, .none⟩, ⟨PyData.keyHash w.params (Str.ofString "shared"), .str (Str.ofString "shared") k4, .bool false⟩, ⟨PyData.keyHash w.params (Str.ofString "loose"), .str (Str.ofString "loose") k5, .bool false⟩] 5)]) news → @LT.lt Nat _ d x → (∀ p ∈ news, @LT.lt Nat _ p.1 d) → Q (.ref x) { s with heap := h', toks := tk' }) : wpAny (model LP w) (ktrTop dp un gd cn cs L a ccd cl outer) (call (.ref f) args) Q E s := by
  refine tell_use P B F X N T hk C hd hu ?_
  rintro r tl h' tk' F' N' y' ⟨x, d, k1, k2, k3, k4, k5, tk, rfl, lx, ll, rfl⟩
  exact ret x d k1 k2 k3 k4 k5 tk h' tk' F' N' y' lx ll
theorem get_kind {prog : Program} {w : World} {A : Around} {E : Value → Shared → Prop} {s : Shared} {h₀ : Heap} {L : Addr} {m : Str → Option Value} {news led : Led} {Q : Value → Shared → Prop} {expr : Bool} {x D : Addr} {kind : Str} {attrs : Value} (V : VecAt w led x kind D attrs) (sub : ∀ p ∈ led, p ∈ news) (F : Fr h₀ L s.heap m) (X : (fr.heap_1 w.params).In h₀) (N : News h₀ L s.heap news) (h : ∀ t, Q (.str kind t) { s with toks := s.toks + 1 }) :
    wpAny (model prog w) A (getAttr (.ref x) (Str.ofString "kind") expr) Q E s := by
  obtain ⟨dx, k1, k2, k3, k4, k5, tk, sh, lo, h1, h2⟩ := V.ex
  exact get_own F X (InstAt.of_news N (sub _ h1) (sub _ h2)) (by k_is) (by k_is) (by k_is) (by k_is) (by k_get) (by k_handed) (h _)
theorem get_items {prog : Program} {w : World} {A : Around} {E : Value → Shared → Prop} {s : Shared} {h₀ : Heap} {L : Addr} {m : Str → Option Value} {news led : Led} {Q : Value → Shared → Prop} {expr : Bool} {x D : Addr} {kind : Str} {attrs : Value} (V : VecAt w led x kind D attrs) (sub : ∀ p ∈ led, p ∈ news) (F : Fr h₀ L s.heap m) (X : (fr.heap_1 w.params).In h₀) (N : News h₀ L s.heap news) (h : Q (Value.ref D) { s with toks := s.toks + 1 }) :
    wpAny (model prog w) A (getAttr (.ref x) (Str.ofString "items") expr) Q E s := by
  obtain ⟨dx, k1, k2, k3, k4, k5, tk, sh, lo, h1, h2⟩ := V.ex
  exact get_own F X (InstAt.of_news N (sub _ h1) (sub _ h2)) (by k_is) (by k_is) (by k_is) (by k_is) (by k_get) (by k_handed) (h)
theorem get_attrs {prog : Program} {w : World} {A : Around} {E : Value → Shared → Prop} {s : Shared} {h₀ : Heap} {L : Addr} {m : Str → Option Value} {news led : Led} {Q : Value → Shared → Prop} {expr : Bool} {x D : Addr} {kind : Str} {attrs : Value} (V : VecAt w led x kind D attrs) (sub : ∀ p ∈ led, p ∈ news) (F : Fr h₀ L s.heap m) (X : (fr.heap_1 w.params).In h₀) (N : News h₀ L s.heap news) (hh : handedIn attrs = true) (h : Q (attrs) { s with toks := s.toks + 1 }) :
    wpAny (model prog w) A (getAttr (.ref x) (Str.ofString "attrs") expr) Q E s := by
  obtain ⟨dx, k1, k2, k3, k4, k5, tk, sh, lo, h1, h2⟩ := V.ex
  exact get_own F X (InstAt.of_news N (sub _ h1) (sub _ h2)) (by k_is) (by k_is) (by k_is) (by k_is) (by k_get) hh (h)
set_option maxHeartbeats 600000 in
theorem vnew_tell (w mean mg mb news) (kd : Str) (tk : Tok) (D : Addr) : Tell 3 w mean mg mb anyB 179 [.str kd tk, .ref D] news (OutNew w kd D news) := by
  refine tell_mk ?_
  intro dp un gd cn cs a ccd cl outer A₀ base h₀ L m s Q E PB B F X N T hk hdp hun hU hret
  k_with_none
  k_with "FinE" => (((unfold LCg.FinE); intro D' h' tk' F' N' o1'; (try simp only [off1_app, LCg.Off1, and_true, and_assoc] at o1'); (repeat (have hOf9 := And.left o1'; replace o1' := And.right o1')); (try simp only [List.nil_append, List.cons_append] at N'); (try dsimp only)))
  k_with "FinA" => (((unfold LCg.FinA); intro D' h' tk' F' N' o1'; (try simp only [off1_app, LCg.Off1, and_true, and_assoc] at o1'); (repeat (have hOf9 := And.left o1'; replace o1' := And.right o1')); (try simp only [List.nil_append, List.cons_append] at N'); (try dsimp only)))
  k_with "call type:list" => ((k_here; (with_reducible show wpAny _ _ (call (Value.type _) [Value.ref _]) _ _ _); k_dflt (refine' list_copyK ?FZ7 ?NZ7 (News.isList ?N2Z7 ?bZ7) ?_ ?zZ7; (case FZ7 => k_asm); (case NZ7 => k_asm); (case N2Z7 => k_asm); (case bZ7 => k_mem); (case zZ7 => rw [PySem.sizeLine_eq]; simp only [List.size_toArray, List.length_cons, List.length_nil]; first | exact sz_el (by with_reducible assumption) (by with_reducible assumption) rfl | exact sz_ll (by with_reducible assumption) (by with_reducible assumption) rfl | exact sz_lt (by with_reducible assumption) rfl | exact sz_le (by with_reducible assumption) rfl | exact sz_eq (by with_reducible assumption) (by with_reducible assumption) rfl | exact Nat.le_of_ble_eq_true rfl | omega)); intro D' c' h' F' N' l1; (try k_lt l1); (try k_sweep)))
  k_with "call builtin:isinstance" => ((k_here; k_dflt (refine' isi_call ?k1Z7 ?k2Z7 ?k3Z7 ?k4Z7 ?_; (case k1Z7 => k_in); (case k2Z7 => (intro M; exact InstAt.type (by k_inst))); (case k3Z7 => k_is); (case k4Z7 => intro e; cases e); k_whole)))
  k_with "getMethod ref" => ((k_here; (with_reducible show wpAny _ _ (getMethod (Value.ref _) (Str.ofString "get") _) _ _ _); k_dflt (refine kdg_method (knd := PySem.strKind _ _) (by k_asm) (by k_mem) (by k_asm) ?_)))
  k_with "call builtin:dict.get" => ((k_here; k_dflt (first
    | refine kdg_get1 (knd := PySem.strKind _ _) (by k_asm) (by k_mem) (by k_asm) (by k_asm) (strKind_is _ _ _ _) (some _) (by rfl) ?_
    | refine kdg_get1 (knd := PySem.strKind _ _) (by k_asm) (by k_mem) (by k_asm) (by k_asm) (strKind_is _ _ _ _) none (by rfl) ?_); (try dsimp only [Option.getD])))
  k_with "compareOp In str ref" => ((k_here; k_dflt (first
    | refine kda_in (knd := PySem.strKind _ _) (by k_asm) (by k_mem) (by k_asm) (by k_asm) (strKind_is _ _ _ _) true (by rfl) ?_
    | refine kda_in (knd := PySem.strKind _ _) (by k_asm) (by k_mem) (by k_asm) (by k_asm) (strKind_is _ _ _ _) false (by rfl) ?_)))
  k_with "compareOp NotIn str ref" => ((k_here; k_dflt (first
    | refine kdg_notin (knd := PySem.strKind _ _) (by k_asm) (by k_mem) (by k_asm) (by k_asm) (strKind_is _ _ _ _) true (by rfl) ?_
    | refine kdg_notin (knd := PySem.strKind _ _) (by k_asm) (by k_mem) (by k_asm) (by k_asm) (strKind_is _ _ _ _) false (by rfl) ?_); (try dsimp only [Bool.not_true, Bool.not_false])))
  k_with "subscriptTail" => ((k_here; (with_reducible show wpAny _ _ (subscriptTail _ _ (Value.ref _) (Value.str _ _)) _ _ _); k_dflt (first
    | refine kda_item (knd := PySem.strKind _ _) (by k_asm) (by k_mem) (by k_asm) (strKind_is _ _ _ _) (by rfl) ?_
    | refine kdt_tail (knd := PySem.strKind _ _) (by k_asm) (by k_mem) (by k_asm) ?_)))
  k_with "getItem ref str" => ((k_here; k_dflt (refine kdt_getItem (knd := PySem.strKind _ _) (by k_asm) (by k_mem) (by k_asm) (strKind_is _ _ _ _) (by rfl) ?_)))
  k_with "setItem ref str" => ((k_here; k_dflt (refine' kda_set (knd := PySem.strKind _ _) ?FZ7 ?NZ7 ?UZ7 ?dZ7 (strKind_is _ _ _ _) ?zZ7 ?_; (case FZ7 => k_asm); (case NZ7 => k_asm); (case UZ7 => k_updF); (case dZ7 => k_asm); (case zZ7 => rw [sizeLine_eq]; exact Nat.le_of_ble_eq_true (by with_unfolding_all rfl))); intro h' o' F' N' hd'; (try dsimp only at N')))
  k_with "call builtin:len" => ((k_here; (with_reducible show wpAny _ _ (call (Value.builtin "len") [Value.ref _]) _ _ _); k_dflt (refine' len_mem ?NZ7 ?bZ7 ?zZ7 ?_; (case NZ7 => k_asm); (case bZ7 => k_mem); (case zZ7 => omega))))
  k_with "eval ListComp" => ((k_here; k_dflt (refine LCg.ListComp_U (F₀ := by k_asm) (by with_unfolding_all rfl) (by decide) (by rfl) (by decide) (by rfl) ?_)))
  k_with "exec Assign cons ListComp" => ((k_here; k_dflt (refine LCg.Assign_ListComp_U (F₀ := by k_asm) (by rfl) (by with_unfolding_all rfl) (by with_unfolding_all rfl) (by decide) (by rfl) (by decide) (by rfl) (by rfl) (by rfl) ?_)))
  k_with "CompSrc" => ((k_here; (try k_fmods); k_dflt (refine LCg.CompSrc.range (by rfl) (by k_asm) (by k_asm) (by assumption) (by first | (with_reducible refine small_nat ?sm9; (case sm9 => first | exact lt_eq (by with_reducible assumption) (by with_reducible assumption) rfl | exact lt_lt (by with_reducible assumption) rfl | exact lt_el (by with_reducible assumption) (by with_reducible assumption) rfl | exact lt_le (by with_reducible assumption) rfl | omega)) | exact small_one (by kcf_bnd) (by kcf_bnd) (by kcf_bnd) (by kcf_bnd) | decide) (by first | exact rangeSize_nat _ _ | rfl) (by rw [PySem.sizeLine_eq]; first | exact sz_lt (by with_reducible assumption) rfl | exact sz_le (by with_reducible assumption) rfl | omega | (simp only [List.size_toArray]; omega)) ?_; intro g'; k_extra "my comp")))
  obtain ⟨ckind, cnames, cgen, cco, cmore⟩ := cs
  dsimp only at hk
  subst hk
  k_steps
  rename Fr _ _ _ _ => kF9
  rename News _ _ _ _ => kN9
  exact hret _ [(_, _), (_, _)] _ _ kF9 kN9 (apart_xd (by assumption) (by assumption)) ⟨_, _, _, _, _, _, _, _, rfl, (by assumption), (by assumption), rfl⟩
end
section
open PySem.Calls
theorem lt_ne' {D : Addr} {news : Led} (h : ∀ q ∈ news, @LT.lt Nat _ q.1 D) : ∀ q ∈ news, @Ne Nat q.1 D := fun q hq => Nat.ne_of_lt (h q hq)
set_option maxHeartbeats 600000 in
theorem vec0_tell (w mean mg mb news) (l : Addr) (vs : List Value) (c : Nat) (hl : (l, listOf vs.toArray c) ∈ news) (hv : vs.length < 26) :
    Tell 4 w mean mg mb anyB 585 [.ref l, .bool false] news (OutVec w vs none) := by
  refine tell_mk ?_
  intro dp un gd cn cs a ccd cl outer A₀ base h₀ L m s Q E PB B F X N T hk hdp hun hU hret
  k_with_none
  k_with "FinE" => (((unfold LCg.FinE); intro D' h' tk' F' N' o1'; (try simp only [off1_app, LCg.Off1, and_true, and_assoc] at o1'); (repeat (have hOf9 := And.left o1'; replace o1' := And.right o1')); (try simp only [List.nil_append, List.cons_append] at N'); (try dsimp only)))
  k_with "FinA" => (((unfold LCg.FinA); intro D' h' tk' F' N' o1'; (try simp only [off1_app, LCg.Off1, and_true, and_assoc] at o1'); (repeat (have hOf9 := And.left o1'; replace o1' := And.right o1')); (try simp only [List.nil_append, List.cons_append] at N'); (try dsimp only)))
  k_with "call type:list" => ((k_here; (with_reducible show wpAny _ _ (call (Value.type _) [Value.ref _]) _ _ _); k_dflt (refine' list_copyK ?FZ7 ?NZ7 (News.isList ?N2Z7 ?bZ7) ?_ ?zZ7; (case FZ7 => k_asm); (case NZ7 => k_asm); (case N2Z7 => k_asm); (case bZ7 => k_mem); (case zZ7 => rw [PySem.sizeLine_eq]; simp only [List.size_toArray, List.length_cons, List.length_nil]; first | exact sz_el (by with_reducible assumption) (by with_reducible assumption) rfl | exact sz_ll (by with_reducible assumption) (by with_reducible assumption) rfl | exact sz_lt (by with_reducible assumption) rfl | exact sz_le (by with_reducible assumption) rfl | exact sz_eq (by with_reducible assumption) (by with_reducible assumption) rfl | exact Nat.le_of_ble_eq_true rfl | omega)); intro D' c' h' F' N' l1; (try k_lt l1); (try k_sweep)))
  k_with "call builtin:isinstance" => ((k_here; k_dflt (refine' isi_call ?k1Z7 ?k2Z7 ?k3Z7 ?k4Z7 ?_; (case k1Z7 => k_in); (case k2Z7 => (intro M; exact InstAt.type (by k_inst))); (case k3Z7 => k_is); (case k4Z7 => intro e; cases e); k_whole)))
  k_with "getMethod ref" => ((k_here; (with_reducible show wpAny _ _ (getMethod (Value.ref _) (Str.ofString "get") _) _ _ _); k_dflt (refine kdg_method (knd := PySem.strKind _ _) (by k_asm) (by k_mem) (by k_asm) ?_)))
  k_with "call builtin:dict.get" => ((k_here; k_dflt (first
    | refine kdg_get1 (knd := PySem.strKind _ _) (by k_asm) (by k_mem) (by k_asm) (by k_asm) (strKind_is _ _ _ _) (some _) (by rfl) ?_
    | refine kdg_get1 (knd := PySem.strKind _ _) (by k_asm) (by k_mem) (by k_asm) (by k_asm) (strKind_is _ _ _ _) none (by rfl) ?_); (try dsimp only [Option.getD])))
  k_with "compareOp In str ref" => ((k_here; k_dflt (first
    | refine kda_in (knd := PySem.strKind _ _) (by k_asm) (by k_mem) (by k_asm) (by k_asm) (strKind_is _ _ _ _) true (by rfl) ?_
    | refine kda_in (knd := PySem.strKind _ _) (by k_asm) (by k_mem) (by k_asm) (by k_asm) (strKind_is _ _ _ _) false (by rfl) ?_)))
  k_with "compareOp NotIn str ref" => ((k_here; k_dflt (first
    | refine kdg_notin (knd := PySem.strKind _ _) (by k_asm) (by k_mem) (by k_asm) (by k_asm) (strKind_is _ _ _ _) true (by rfl) ?_
    | refine kdg_notin (knd := PySem.strKind _ _) (by k_asm) (by k_mem) (by k_asm) (by k_asm) (strKind_is _ _ _ _) false (by rfl) ?_); (try dsimp only [Bool.not_true, Bool.not_false])))
  k_with "subscriptTail" => ((k_here; (with_reducible show wpAny _ _ (subscriptTail _ _ (Value.ref _) (Value.str _ _)) _ _ _); k_dflt (first
    | refine kda_item (knd := PySem.strKind _ _) (by k_asm) (by k_mem) (by k_asm) (strKind_is _ _ _ _) (by rfl) ?_
    | refine kdt_tail (knd := PySem.strKind _ _) (by k_asm) (by k_mem) (by k_asm) ?_)))
  k_with "getItem ref str" => ((k_here; k_dflt (refine kdt_getItem (knd := PySem.strKind _ _) (by k_asm) (by k_mem) (by k_asm) (strKind_is _ _ _ _) (by rfl) ?_)))
  k_with "setItem ref str" => ((k_here; k_dflt (refine' kda_set (knd := PySem.strKind _ _) ?FZ7 ?NZ7 ?UZ7 ?dZ7 (strKind_is _ _ _ _) ?zZ7 ?_; (case FZ7 => k_asm); (case NZ7 => k_asm); (case UZ7 => k_updF); (case dZ7 => k_asm); (case zZ7 => rw [sizeLine_eq]; exact Nat.le_of_ble_eq_true (by with_unfolding_all rfl))); intro h' o' F' N' hd'; (try dsimp only at N')))
  k_with "call builtin:len" => ((k_here; (with_reducible show wpAny _ _ (call (Value.builtin "len") [Value.ref _]) _ _ _); k_dflt (refine' len_mem ?NZ7 ?bZ7 ?zZ7 ?_; (case NZ7 => k_asm); (case bZ7 => k_mem); (case zZ7 => omega))))
  k_with "eval ListComp" => ((k_here; k_dflt (refine LCg.ListComp_U (F₀ := by k_asm) (by with_unfolding_all rfl) (by decide) (by rfl) (by decide) (by rfl) ?_)))
  k_with "exec Assign cons ListComp" => ((k_here; k_dflt (refine LCg.Assign_ListComp_U (F₀ := by k_asm) (by rfl) (by with_unfolding_all rfl) (by with_unfolding_all rfl) (by decide) (by rfl) (by decide) (by rfl) (by rfl) (by rfl) ?_)))
  k_with "CompSrc" => ((k_here; (try k_fmods); k_dflt (refine LCg.CompSrc.range (by rfl) (by k_asm) (by k_asm) (by assumption) (by first | (with_reducible refine small_nat ?sm9; (case sm9 => first | exact lt_eq (by with_reducible assumption) (by with_reducible assumption) rfl | exact lt_lt (by with_reducible assumption) rfl | exact lt_el (by with_reducible assumption) (by with_reducible assumption) rfl | exact lt_le (by with_reducible assumption) rfl | omega)) | exact small_one (by kcf_bnd) (by kcf_bnd) (by kcf_bnd) (by kcf_bnd) | decide) (by first | exact rangeSize_nat _ _ | rfl) (by rw [PySem.sizeLine_eq]; first | exact sz_lt (by with_reducible assumption) rfl | exact sz_le (by with_reducible assumption) rfl | omega | (simp only [List.size_toArray]; omega)) ?_; intro g'; k_extra "my comp")))
  k_with "exec For Name" => ((k_here; (rename Fr _ _ _ _ => lF'); (with_unfolding_all refine' For_invVF lF' ?k1Z7 ?k2Z7 ?_; (case k1Z7 => exact rfl); (case k2Z7 => exact rfl); k_whole)))
  k_with "exec For Name Call cons nil" => ((k_here; (rename Fr _ _ _ _ => lF'); (with_unfolding_all refine' For_invVF lF' ?k1Z7 ?k2Z7 ?_; (case k1Z7 => exact rfl); (case k2Z7 => exact rfl); k_whole)))
  k_with "exec For Name Name cons nil" => ((k_here; (rename Fr _ _ _ _ => lF'); (with_unfolding_all refine' For_invVF lF' ?k1Z7 ?k2Z7 ?_; (case k1Z7 => exact rfl); (case k2Z7 => exact rfl); k_whole)))
  k_with "pyIter ref" => ((k_here; k_dflt k_extra "my loop"))
  k_with "LpPost" => ((dsimp only [LpPost]))
  k_with "call builtin:list.append" => ((k_here; k_dflt (refine' append_K ?k1Z7 ?k2Z7 ?k3Z7 ?_ ?zZ7; (case k1Z7 => k_asm); (case k2Z7 => k_asm); (case k3Z7 => k_upd); (case zZ7 => rw [PySem.sizeLine_eq]; simp only [List.size_toArray, List.length_append, List.length_cons, List.length_nil]; first | exact sz_el (by with_reducible assumption) (by with_reducible assumption) rfl | exact sz_ll (by with_reducible assumption) (by with_reducible assumption) rfl | exact sz_lt (by with_reducible assumption) rfl | exact sz_le (by with_reducible assumption) rfl | exact sz_eq (by with_reducible assumption) (by with_reducible assumption) rfl | exact Nat.le_of_ble_eq_true rfl | omega); k_whole); intro h' F' N'; (try k_sweep)))
  k_with "call type:range" => (((rename Fr _ _ _ _ => F'); (rename News _ _ _ _ => N'); first
    | (with_unfolding_all refine range1_rows F' N' ?_; intro _ _ _ _ _ _ _ _ _)
    | (with_unfolding_all refine range2_rows F' N' ?_; intro _ _ _ _ _ _ _ _ _)))
  k_with "call ref" => (k_here; (with_reducible show wpAny _ _ (call (Value.ref 179) _) _ _ _); k_dflt (refine' use_new ?kPZ7 ?k1Z7 ?k2Z7 ?k3Z7 ?k4Z7 ?k5Z7 ?kKZ7 (vnew_tell _ _ _ _ _ _ _ _) ?kdZ7 ?kuZ7 ?_; (case k1Z7 => k_asm); (case k2Z7 => k_asm); (case k3Z7 => k_asm); (case k4Z7 => k_asm); (case k5Z7 => k_asm); (case kKZ7 => first | exact rfl | assumption); (case kPZ7 => exact True.intro); (case kdZ7 => ktr_room); (case kuZ7 => first | exact hU 3 rfl | ktr_units); intro x' tl' h' tk' F' N' y' v'); (try simp only [List.cons_append, List.nil_append] at N'); (try dsimp only); (try k_fold))
  k_with "getAttr ref" => (k_here; (with_reducible show wpAny _ _ (getAttr (Value.ref _) (Str.ofString "kind") _) _ _ _); k_dflt (refine' get_kind ?g1Z7 ?g2Z7 ?g3Z7 ?g4Z7 ?g5Z7 ?_; (case g1Z7 => with_reducible assumption); (case g5Z7 => k_asm); (case g2Z7 => (intro p hp; k_mem)); (case g3Z7 => k_asm); (case g4Z7 => k_asm)); intro tg')
  k_with "getAttr ref" => (k_here; (with_reducible show wpAny _ _ (getAttr (Value.ref _) (Str.ofString "attrs") _) _ _ _); k_dflt (refine' get_attrs ?g1Z7 ?g2Z7 ?g3Z7 ?g4Z7 ?g5Z7 ?g6Z7 ?_; (case g1Z7 => with_reducible assumption); (case g5Z7 => k_asm); (case g2Z7 => (intro p hp; k_mem)); (case g3Z7 => k_asm); (case g4Z7 => k_asm); (case g6Z7 => k_handed)))
  k_with "getAttr ref" => (k_here; (with_reducible show wpAny _ _ (getAttr (Value.ref _) (Str.ofString "items") _) _ _ _); k_dflt (refine' get_items ?g1Z7 ?g2Z7 ?g3Z7 ?g4Z7 ?g5Z7 ?_; (case g1Z7 => with_reducible assumption); (case g5Z7 => k_asm); (case g2Z7 => (intro p hp; k_mem)); (case g3Z7 => k_asm); (case g4Z7 => k_asm)))
  obtain ⟨ckind, cnames, cgen, cco, cmore⟩ := cs
  dsimp only at hk
  subst hk
  refine wpAny_call ?_
  k_dflt k_enter
  k_steps
  rename Fr _ _ _ _ => kF9
  rename News _ _ _ _ => kN9
  rename ∀ q ∈ news, _ => l9
  exact tell_end hret (tl' ++ [(_, _)]) kF9 kN9 (fun p hp => by rw [List.append_assoc] at hp; exact hp) (Apart.append (y'.sub fun p hp => .tail _ hp) (Apart.c (lt_ne' l9) (Apart.nil _))) ⟨_, _, _, _, rfl, v'.mono fun p hp => List.mem_append.mpr (.inl hp), List.mem_append.mpr (.inr (.head _)), .none⟩
set_option maxHeartbeats 1000000 in
theorem vec1_tell (w mean mg mb news) (l : Addr) (vs : List Value) (c : Nat) (hl : (l, listOf vs.toArray c) ∈ news) (hv : vs.length < 26) :
    Tell 4 w mean mg mb anyB 585 [.ref l, .bool true] news (OutVec w vs (some (nmD vs.length))) := by
  refine tell_mk ?_
  intro dp un gd cn cs a ccd cl outer A₀ base h₀ L m s Q E PB B F X N T hk hdp hun hU hret
  k_with_none
  k_with "FinE" => (((unfold LCg.FinE); intro D' h' tk' F' N' o1'; (try simp only [off1_app, LCg.Off1, and_true, and_assoc] at o1'); (repeat (have hOf9 := And.left o1'; replace o1' := And.right o1')); (try simp only [List.nil_append, List.cons_append] at N'); (try dsimp only)))
  k_with "FinA" => (((unfold LCg.FinA); intro D' h' tk' F' N' o1'; (try simp only [off1_app, LCg.Off1, and_true, and_assoc] at o1'); (repeat (have hOf9 := And.left o1'; replace o1' := And.right o1')); (try simp only [List.nil_append, List.cons_append] at N'); (try dsimp only)))
  k_with "call type:list" => ((k_here; (with_reducible show wpAny _ _ (call (Value.type _) [Value.ref _]) _ _ _); k_dflt (refine' list_copyK ?FZ7 ?NZ7 (News.isList ?N2Z7 ?bZ7) ?_ ?zZ7; (case FZ7 => k_asm); (case NZ7 => k_asm); (case N2Z7 => k_asm); (case bZ7 => k_mem); (case zZ7 => rw [PySem.sizeLine_eq]; simp only [List.size_toArray, List.length_cons, List.length_nil]; first | exact sz_el (by with_reducible assumption) (by with_reducible assumption) rfl | exact sz_ll (by with_reducible assumption) (by with_reducible assumption) rfl | exact sz_lt (by with_reducible assumption) rfl | exact sz_le (by with_reducible assumption) rfl | exact sz_eq (by with_reducible assumption) (by with_reducible assumption) rfl | exact Nat.le_of_ble_eq_true rfl | omega)); intro D' c' h' F' N' l1; (try k_lt l1); (try k_sweep)))
  k_with "call builtin:isinstance" => ((k_here; k_dflt (refine' isi_call ?k1Z7 ?k2Z7 ?k3Z7 ?k4Z7 ?_; (case k1Z7 => k_in); (case k2Z7 => (intro M; exact InstAt.type (by k_inst))); (case k3Z7 => k_is); (case k4Z7 => intro e; cases e); k_whole)))
  k_with "getMethod ref" => ((k_here; (with_reducible show wpAny _ _ (getMethod (Value.ref _) (Str.ofString "get") _) _ _ _); k_dflt (refine kdg_method (knd := PySem.strKind _ _) (by k_asm) (by k_mem) (by k_asm) ?_)))
  k_with "call builtin:dict.get" => ((k_here; k_dflt (first
    | refine kdg_get1 (knd := PySem.strKind _ _) (by k_asm) (by k_mem) (by k_asm) (by k_asm) (strKind_is _ _ _ _) (some _) (by rfl) ?_
    | refine kdg_get1 (knd := PySem.strKind _ _) (by k_asm) (by k_mem) (by k_asm) (by k_asm) (strKind_is _ _ _ _) none (by rfl) ?_); (try dsimp only [Option.getD])))
  k_with "compareOp In str ref" => ((k_here; k_dflt (first
    | refine kda_in (knd := PySem.strKind _ _) (by k_asm) (by k_mem) (by k_asm) (by k_asm) (strKind_is _ _ _ _) true (by rfl) ?_
    | refine kda_in (knd := PySem.strKind _ _) (by k_asm) (by k_mem) (by k_asm) (by k_asm) (strKind_is _ _ _ _) false (by rfl) ?_)))
  k_with "compareOp NotIn str ref" => ((k_here; k_dflt (first
    | refine kdg_notin (knd := PySem.strKind _ _) (by k_asm) (by k_mem) (by k_asm) (by k_asm) (strKind_is _ _ _ _) true (by rfl) ?_
    | refine kdg_notin (knd := PySem.strKind _ _) (by k_asm) (by k_mem) (by k_asm) (by k_asm) (strKind_is _ _ _ _) false (by rfl) ?_); (try dsimp only [Bool.not_true, Bool.not_false])))
  k_with "subscriptTail" => ((k_here; (with_reducible show wpAny _ _ (subscriptTail _ _ (Value.ref _) (Value.str _ _)) _ _ _); k_dflt (first
    | refine kda_item (knd := PySem.strKind _ _) (by k_asm) (by k_mem) (by k_asm) (strKind_is _ _ _ _) (by rfl) ?_
    | refine kdt_tail (knd := PySem.strKind _ _) (by k_asm) (by k_mem) (by k_asm) ?_)))
  k_with "getItem ref str" => ((k_here; k_dflt (refine kdt_getItem (knd := PySem.strKind _ _) (by k_asm) (by k_mem) (by k_asm) (strKind_is _ _ _ _) (by rfl) ?_)))
  k_with "setItem ref str" => ((k_here; k_dflt (refine' kda_set (knd := PySem.strKind _ _) ?FZ7 ?NZ7 ?UZ7 ?dZ7 (strKind_is _ _ _ _) ?zZ7 ?_; (case FZ7 => k_asm); (case NZ7 => k_asm); (case UZ7 => k_updF); (case dZ7 => k_asm); (case zZ7 => rw [sizeLine_eq]; exact Nat.le_of_ble_eq_true (by with_unfolding_all rfl))); intro h' o' F' N' hd'; (try dsimp only at N')))
  k_with "call builtin:len" => ((k_here; (with_reducible show wpAny _ _ (call (Value.builtin "len") [Value.ref _]) _ _ _); k_dflt (refine' len_mem ?NZ7 ?bZ7 ?zZ7 ?_; (case NZ7 => k_asm); (case bZ7 => k_mem); (case zZ7 => omega))))
  k_with "eval ListComp" => ((k_here; k_dflt (refine LCg.ListComp_U (F₀ := by k_asm) (by with_unfolding_all rfl) (by decide) (by rfl) (by decide) (by rfl) ?_)))
  k_with "exec Assign cons ListComp" => ((k_here; k_dflt (refine LCg.Assign_ListComp_U (F₀ := by k_asm) (by rfl) (by with_unfolding_all rfl) (by with_unfolding_all rfl) (by decide) (by rfl) (by decide) (by rfl) (by rfl) (by rfl) ?_)))
  k_with "CompSrc" => ((k_here; (try k_fmods); k_dflt (refine LCg.CompSrc.range (by rfl) (by k_asm) (by k_asm) (by assumption) (by first | (with_reducible refine small_nat ?sm9; (case sm9 => first | exact lt_eq (by with_reducible assumption) (by with_reducible assumption) rfl | exact lt_lt (by with_reducible assumption) rfl | exact lt_el (by with_reducible assumption) (by with_reducible assumption) rfl | exact lt_le (by with_reducible assumption) rfl | omega)) | exact small_one (by kcf_bnd) (by kcf_bnd) (by kcf_bnd) (by kcf_bnd) | decide) (by first | exact rangeSize_nat _ _ | rfl) (by rw [PySem.sizeLine_eq]; first | exact sz_lt (by with_reducible assumption) rfl | exact sz_le (by with_reducible assumption) rfl | omega | (simp only [List.size_toArray]; omega)) ?_; intro g'; k_extra "my comp")))
  k_with "exec For Name" => ((k_here; (rename Fr _ _ _ _ => lF'); (with_unfolding_all refine' For_invVF lF' ?k1Z7 ?k2Z7 ?_; (case k1Z7 => exact rfl); (case k2Z7 => exact rfl); k_whole)))
  k_with "exec For Name Call cons nil" => ((k_here; (rename Fr _ _ _ _ => lF'); (with_unfolding_all refine' For_invVF lF' ?k1Z7 ?k2Z7 ?_; (case k1Z7 => exact rfl); (case k2Z7 => exact rfl); k_whole)))
  k_with "exec For Name Name cons nil" => ((k_here; (rename Fr _ _ _ _ => lF'); (with_unfolding_all refine' For_invVF lF' ?k1Z7 ?k2Z7 ?_; (case k1Z7 => exact rfl); (case k2Z7 => exact rfl); k_whole)))
  k_with "pyIter ref" => ((k_here; k_dflt k_extra "my loop"))
  k_with "LpPost" => ((dsimp only [LpPost]))
  k_with "call builtin:list.append" => ((k_here; k_dflt (refine' append_K ?k1Z7 ?k2Z7 ?k3Z7 ?_ ?zZ7; (case k1Z7 => k_asm); (case k2Z7 => k_asm); (case k3Z7 => k_upd); (case zZ7 => rw [PySem.sizeLine_eq]; simp only [List.size_toArray, List.length_append, List.length_cons, List.length_nil]; first | exact sz_el (by with_reducible assumption) (by with_reducible assumption) rfl | exact sz_ll (by with_reducible assumption) (by with_reducible assumption) rfl | exact sz_lt (by with_reducible assumption) rfl | exact sz_le (by with_reducible assumption) rfl | exact sz_eq (by with_reducible assumption) (by with_reducible assumption) rfl | exact Nat.le_of_ble_eq_true rfl | omega); k_whole); intro h' F' N'; (try k_sweep)))
  k_with "call type:range" => (((rename Fr _ _ _ _ => F'); (rename News _ _ _ _ => N'); first
    | (with_unfolding_all refine range1_rows F' N' ?_; intro _ _ _ _ _ _ _ _ _)
    | (with_unfolding_all refine range2_rows F' N' ?_; intro _ _ _ _ _ _ _ _ _)))
  k_with "call ref" => (k_here; (with_reducible show wpAny _ _ (call (Value.ref 179) _) _ _ _); k_dflt (refine' use_newx ?kPZ7 ?k1Z7 ?k2Z7 ?k3Z7 ?k4Z7 ?k5Z7 ?kKZ7 (vnew_tell _ _ _ _ _ _ _ _) ?kdZ7 ?kuZ7 ?_; (case k1Z7 => k_asm); (case k2Z7 => k_asm); (case k3Z7 => k_asm); (case k4Z7 => k_asm); (case k5Z7 => k_asm); (case kKZ7 => first | exact rfl | assumption); (case kPZ7 => exact True.intro); (case kdZ7 => ktr_room); (case kuZ7 => first | exact hU 3 rfl | ktr_units); intro x' d' k1' k2' k3' k4' k5' tk1' h' tk' F' N' y' lx' ll'); (try k_lt ll'); (try simp only [List.cons_append, List.nil_append] at N'); (try dsimp only); (try k_fold))
  k_with "getAttr ref" => (k_here; (with_reducible show wpAny _ _ (getAttr (Value.ref _) (Str.ofString "kind") _) _ _ _); k_dflt (refine' get_kind ?g1Z7 ?g2Z7 ?g3Z7 ?g4Z7 ?g5Z7 ?_; (case g1Z7 => with_reducible assumption); (case g5Z7 => k_asm); (case g2Z7 => (intro p hp; k_mem)); (case g3Z7 => k_asm); (case g4Z7 => k_asm)); intro tg')
  k_with "getAttr ref" => (k_here; (with_reducible show wpAny _ _ (getAttr (Value.ref _) (Str.ofString "attrs") _) _ _ _); k_dflt (refine' get_attrs ?g1Z7 ?g2Z7 ?g3Z7 ?g4Z7 ?g5Z7 ?g6Z7 ?_; (case g1Z7 => with_reducible assumption); (case g5Z7 => k_asm); (case g2Z7 => (intro p hp; k_mem)); (case g3Z7 => k_asm); (case g4Z7 => k_asm); (case g6Z7 => k_handed)))
  k_with "getAttr ref" => (k_here; (with_reducible show wpAny _ _ (getAttr (Value.ref _) (Str.ofString "items") _) _ _ _); k_dflt (refine' get_items ?g1Z7 ?g2Z7 ?g3Z7 ?g4Z7 ?g5Z7 ?_; (case g1Z7 => with_reducible assumption); (case g5Z7 => k_asm); (case g2Z7 => (intro p hp; k_mem)); (case g3Z7 => k_asm); (case g4Z7 => k_asm)))
  k_with "my comp" => (refine' comp_range_dat [] (fun (k : Nat) => Dat.str (Str.mk #[65 + k])) (fun i' t' I' oI' C' oC' D' m2' ys' tl' h' tk' E' hi' hD' hA' hC' hx' F' N' off' ne' => ?_) (fun ys' tl' hA' hD' => ?_); (all_goals (try k_fold)))
  obtain ⟨ckind, cnames, cgen, cco, cmore⟩ := cs
  dsimp only at hk
  subst hk
  refine wpAny_call ?_
  k_dflt k_enter
  k_steps
  · rw [show (65 + (0 + (i' : Int))).toNat = 65 + i' by omega]
    exact turn_old (by assumption) (by assumption) (by assumption) True.intro (.str _ _)
  · rw [show ((vs.length : Int) - 0).toNat = vs.length by omega] at hD'
    rename News h₀ L _ _ => kN9
    have N9 := pick34 kN9
    refine hret _ _ _ _ (by assumption) N9 ?_ ?_
    · repeat' (first | exact Apart.nil _ | refine Apart.c (by k_all) ?_)
    · exact ⟨_, _, _, _, rfl, ⟨_, _, _, _, _, _, _, _, _, by k_mem, by k_mem⟩, by k_mem, .some (by k_mem) (by assumption) (by assumption) ⟨_, _, _, _, _, _, _, _, _, by k_mem, by k_mem⟩ (by k_mem) (datAll_strs hD')⟩

theorem vec_tell (w mean mg mb news) (l : Addr) (vs : List Value) (c : Nat) (b : Bool) (hl : (l, listOf vs.toArray c) ∈ news) (hv : vs.length < 26) :
    Tell 4 w mean mg mb anyB 585 [.ref l, .bool b] news (OutVec w vs (if b then some (nmD vs.length) else none)) := by
  cases b with
  | true => exact vec1_tell w mean mg mb news l vs c hl hv
  | false => exact vec0_tell w mean mg mb news l vs c hl hv
end
section
open PySem.Calls
/-- a Vector just made over a copy of a list -/
abbrev OutCV (w : World) (kd : Str) (vs : List Value) : Value → Led → Prop := fun r tl => ∃ x D c, r = .ref x ∧ VecAt w tl x kd D .none ∧ (D, listOf vs.toArray c) ∈ tl
theorem use_cv {k : Nat} {w : World} {mean : ExcName → Option Value} {mg mb : Str → Option Value} {PB : Heap → Prop} {f : Addr} {args : List Value} {news : Led} {dp un : Nat} {gd : Option (List Code)} {cn : Str} {cs : Scope} {a : Addr} {ccd : Value} {cl : List (Str × Addr)} {outer : List Env} {A₀ : Around} {base h₀ : Heap} {L : Addr} {m : Str → Option Value} {s : Shared} {Q E : Value → Shared → Prop} {kd : Str} {vs : List Value}
    (P : PB base) (B : Below A₀ base outer h₀) (F : Fr h₀ L s.heap m) (X : (fr.heap_1 w.params).In h₀) (N : News h₀ L s.heap news) (T : LTop mean mg mb h₀) (hk : cs.kind = .function) (C : Tell k w mean mg mb PB f args news (OutCV w kd vs)) (hd : dp + k < recursionLimit) (hu : un + 20 * k + 100 < cLine)
    (ret : ∀ (x D : Addr) (c : Nat) (tl : Led) (h' : Heap) (tk' : Nat), Fr h₀ L h' m → News h₀ L h' (tl ++ news) → Apart (tl) news → VecAt w tl x kd D .none → (D, listOf vs.toArray c) ∈ tl → Q (.ref x) { s with heap := h', toks := tk' }) : wpAny (model LP w) (ktrTop dp un gd cn cs L a ccd cl outer) (call (.ref f) args) Q E s := by
  refine tell_use P B F X N T hk C hd hu ?_
  rintro r tl h' tk' F' N' y' ⟨x, D, c, rfl, v', m'⟩
  exact ret x D c tl h' tk' F' N' y' v' m'
theorem use_none {k : Nat} {w : World} {mean : ExcName → Option Value} {mg mb : Str → Option Value} {PB : Heap → Prop} {f : Addr} {args : List Value} {news : Led} {dp un : Nat} {gd : Option (List Code)} {cn : Str} {cs : Scope} {a : Addr} {ccd : Value} {cl : List (Str × Addr)} {outer : List Env} {A₀ : Around} {base h₀ : Heap} {L : Addr} {m : Str → Option Value} {s : Shared} {Q E : Value → Shared → Prop} 
    (P : PB base) (B : Below A₀ base outer h₀) (F : Fr h₀ L s.heap m) (X : (fr.heap_1 w.params).In h₀) (N : News h₀ L s.heap news) (T : LTop mean mg mb h₀) (hk : cs.kind = .function) (C : Tell k w mean mg mb PB f args news (fun r tl => r = .none ∧ tl = [])) (hd : dp + k < recursionLimit) (hu : un + 20 * k + 100 < cLine)
    (ret : ∀ (h' : Heap) (tk' : Nat), Fr h₀ L h' m → News h₀ L h' (([] : Led) ++ news) → Q (.none) { s with heap := h', toks := tk' }) : wpAny (model LP w) (ktrTop dp un gd cn cs L a ccd cl outer) (call (.ref f) args) Q E s := by
  refine tell_use P B F X N T hk C hd hu ?_
  rintro r tl h' tk' F' N' y' ⟨rfl, rfl⟩
  exact ret h' tk' F' N'
set_option maxHeartbeats 600000 in
theorem char_tell (w mean mg mb news) (l : Addr) (vs : List Value) (c : Nat) (hl : (l, listOf vs.toArray c) ∈ news) (hv : vs.length < 1000) :
    Tell 5 w mean mg mb anyB 204 [.ref l] news (OutCV w (Str.ofString "character") vs) := by
  refine tell_mk ?_
  intro dp un gd cn cs a ccd cl outer A₀ base h₀ L m s Q E PB B F X N T hk hdp hun hU hret
  k_with_none
  k_with "FinE" => (((unfold LCg.FinE); intro D' h' tk' F' N' o1'; (try simp only [off1_app, LCg.Off1, and_true, and_assoc] at o1'); (repeat (have hOf9 := And.left o1'; replace o1' := And.right o1')); (try simp only [List.nil_append, List.cons_append] at N'); (try dsimp only)))
  k_with "FinA" => (((unfold LCg.FinA); intro D' h' tk' F' N' o1'; (try simp only [off1_app, LCg.Off1, and_true, and_assoc] at o1'); (repeat (have hOf9 := And.left o1'; replace o1' := And.right o1')); (try simp only [List.nil_append, List.cons_append] at N'); (try dsimp only)))
  k_with "call type:list" => ((k_here; (with_reducible show wpAny _ _ (call (Value.type _) [Value.ref _]) _ _ _); k_dflt (refine' list_copyK ?FZ7 ?NZ7 (News.isList ?N2Z7 ?bZ7) ?_ ?zZ7; (case FZ7 => k_asm); (case NZ7 => k_asm); (case N2Z7 => k_asm); (case bZ7 => k_mem); (case zZ7 => rw [PySem.sizeLine_eq]; simp only [List.size_toArray, List.length_cons, List.length_nil]; first | exact sz_el (by with_reducible assumption) (by with_reducible assumption) rfl | exact sz_ll (by with_reducible assumption) (by with_reducible assumption) rfl | exact sz_lt (by with_reducible assumption) rfl | exact sz_le (by with_reducible assumption) rfl | exact sz_eq (by with_reducible assumption) (by with_reducible assumption) rfl | exact Nat.le_of_ble_eq_true rfl | omega)); intro D' c' h' F' N' l1; (try k_lt l1); (try k_sweep)))
  k_with "call builtin:isinstance" => ((k_here; k_dflt (refine' isi_call ?k1Z7 ?k2Z7 ?k3Z7 ?k4Z7 ?_; (case k1Z7 => k_in); (case k2Z7 => (intro M; exact InstAt.type (by k_inst))); (case k3Z7 => k_is); (case k4Z7 => intro e; cases e); k_whole)))
  k_with "getMethod ref" => ((k_here; (with_reducible show wpAny _ _ (getMethod (Value.ref _) (Str.ofString "get") _) _ _ _); k_dflt (refine kdg_method (knd := PySem.strKind _ _) (by k_asm) (by k_mem) (by k_asm) ?_)))
  k_with "call builtin:dict.get" => ((k_here; k_dflt (first
    | refine kdg_get1 (knd := PySem.strKind _ _) (by k_asm) (by k_mem) (by k_asm) (by k_asm) (strKind_is _ _ _ _) (some _) (by rfl) ?_
    | refine kdg_get1 (knd := PySem.strKind _ _) (by k_asm) (by k_mem) (by k_asm) (by k_asm) (strKind_is _ _ _ _) none (by rfl) ?_); (try dsimp only [Option.getD])))
  k_with "compareOp In str ref" => ((k_here; k_dflt (first
    | refine kda_in (knd := PySem.strKind _ _) (by k_asm) (by k_mem) (by k_asm) (by k_asm) (strKind_is _ _ _ _) true (by rfl) ?_
    | refine kda_in (knd := PySem.strKind _ _) (by k_asm) (by k_mem) (by k_asm) (by k_asm) (strKind_is _ _ _ _) false (by rfl) ?_)))
  k_with "compareOp NotIn str ref" => ((k_here; k_dflt (first
    | refine kdg_notin (knd := PySem.strKind _ _) (by k_asm) (by k_mem) (by k_asm) (by k_asm) (strKind_is _ _ _ _) true (by rfl) ?_
    | refine kdg_notin (knd := PySem.strKind _ _) (by k_asm) (by k_mem) (by k_asm) (by k_asm) (strKind_is _ _ _ _) false (by rfl) ?_); (try dsimp only [Bool.not_true, Bool.not_false])))
  k_with "subscriptTail" => ((k_here; (with_reducible show wpAny _ _ (subscriptTail _ _ (Value.ref _) (Value.str _ _)) _ _ _); k_dflt (first
    | refine kda_item (knd := PySem.strKind _ _) (by k_asm) (by k_mem) (by k_asm) (strKind_is _ _ _ _) (by rfl) ?_
    | refine kdt_tail (knd := PySem.strKind _ _) (by k_asm) (by k_mem) (by k_asm) ?_)))
  k_with "getItem ref str" => ((k_here; k_dflt (refine kdt_getItem (knd := PySem.strKind _ _) (by k_asm) (by k_mem) (by k_asm) (strKind_is _ _ _ _) (by rfl) ?_)))
  k_with "setItem ref str" => ((k_here; k_dflt (refine' kda_set (knd := PySem.strKind _ _) ?FZ7 ?NZ7 ?UZ7 ?dZ7 (strKind_is _ _ _ _) ?zZ7 ?_; (case FZ7 => k_asm); (case NZ7 => k_asm); (case UZ7 => k_updF); (case dZ7 => k_asm); (case zZ7 => rw [sizeLine_eq]; exact Nat.le_of_ble_eq_true (by with_unfolding_all rfl))); intro h' o' F' N' hd'; (try dsimp only at N')))
  k_with "call builtin:len" => ((k_here; (with_reducible show wpAny _ _ (call (Value.builtin "len") [Value.ref _]) _ _ _); k_dflt (refine' len_mem ?NZ7 ?bZ7 ?zZ7 ?_; (case NZ7 => k_asm); (case bZ7 => k_mem); (case zZ7 => omega))))
  k_with "eval ListComp" => ((k_here; k_dflt (refine LCg.ListComp_U (F₀ := by k_asm) (by with_unfolding_all rfl) (by decide) (by rfl) (by decide) (by rfl) ?_)))
  k_with "exec Assign cons ListComp" => ((k_here; k_dflt (refine LCg.Assign_ListComp_U (F₀ := by k_asm) (by rfl) (by with_unfolding_all rfl) (by with_unfolding_all rfl) (by decide) (by rfl) (by decide) (by rfl) (by rfl) (by rfl) ?_)))
  k_with "CompSrc" => ((k_here; (try k_fmods); k_dflt (refine LCg.CompSrc.range (by rfl) (by k_asm) (by k_asm) (by assumption) (by first | (with_reducible refine small_nat ?sm9; (case sm9 => first | exact lt_eq (by with_reducible assumption) (by with_reducible assumption) rfl | exact lt_lt (by with_reducible assumption) rfl | exact lt_el (by with_reducible assumption) (by with_reducible assumption) rfl | exact lt_le (by with_reducible assumption) rfl | omega)) | exact small_one (by kcf_bnd) (by kcf_bnd) (by kcf_bnd) (by kcf_bnd) | decide) (by first | exact rangeSize_nat _ _ | rfl) (by rw [PySem.sizeLine_eq]; first | exact sz_lt (by with_reducible assumption) rfl | exact sz_le (by with_reducible assumption) rfl | omega | (simp only [List.size_toArray]; omega)) ?_; intro g'; k_extra "my comp")))
  k_with "exec For Name" => ((k_here; (rename Fr _ _ _ _ => lF'); (with_unfolding_all refine' For_invVF lF' ?k1Z7 ?k2Z7 ?_; (case k1Z7 => exact rfl); (case k2Z7 => exact rfl); k_whole)))
  k_with "exec For Name Call cons nil" => ((k_here; (rename Fr _ _ _ _ => lF'); (with_unfolding_all refine' For_invVF lF' ?k1Z7 ?k2Z7 ?_; (case k1Z7 => exact rfl); (case k2Z7 => exact rfl); k_whole)))
  k_with "exec For Name Name cons nil" => ((k_here; (rename Fr _ _ _ _ => lF'); (with_unfolding_all refine' For_invVF lF' ?k1Z7 ?k2Z7 ?_; (case k1Z7 => exact rfl); (case k2Z7 => exact rfl); k_whole)))
  k_with "pyIter ref" => ((k_here; k_dflt k_extra "my loop"))
  k_with "LpPost" => ((dsimp only [LpPost]))
  k_with "call builtin:list.append" => ((k_here; k_dflt (refine' append_K ?k1Z7 ?k2Z7 ?k3Z7 ?_ ?zZ7; (case k1Z7 => k_asm); (case k2Z7 => k_asm); (case k3Z7 => k_upd); (case zZ7 => rw [PySem.sizeLine_eq]; simp only [List.size_toArray, List.length_append, List.length_cons, List.length_nil]; first | exact sz_el (by with_reducible assumption) (by with_reducible assumption) rfl | exact sz_ll (by with_reducible assumption) (by with_reducible assumption) rfl | exact sz_lt (by with_reducible assumption) rfl | exact sz_le (by with_reducible assumption) rfl | exact sz_eq (by with_reducible assumption) (by with_reducible assumption) rfl | exact Nat.le_of_ble_eq_true rfl | omega); k_whole); intro h' F' N'; (try k_sweep)))
  k_with "call type:range" => (((rename Fr _ _ _ _ => F'); (rename News _ _ _ _ => N'); first
    | (with_unfolding_all refine range1_rows F' N' ?_; intro _ _ _ _ _ _ _ _ _)
    | (with_unfolding_all refine range2_rows F' N' ?_; intro _ _ _ _ _ _ _ _ _)))
  k_with "call ref" => (k_here; (with_reducible show wpAny _ _ (call (Value.ref 179) _) _ _ _); k_dflt (refine' use_new ?kPZ7 ?k1Z7 ?k2Z7 ?k3Z7 ?k4Z7 ?k5Z7 ?kKZ7 (vnew_tell _ _ _ _ _ _ _ _) ?kdZ7 ?kuZ7 ?_; (case k1Z7 => k_asm); (case k2Z7 => k_asm); (case k3Z7 => k_asm); (case k4Z7 => k_asm); (case k5Z7 => k_asm); (case kKZ7 => first | exact rfl | assumption); (case kPZ7 => exact True.intro); (case kdZ7 => ktr_room); (case kuZ7 => first | exact hU 3 rfl | ktr_units); intro x' tl' h' tk' F' N' y' v'); (try simp only [List.cons_append, List.nil_append] at N'); (try dsimp only); (try k_fold))
  k_with "getAttr ref" => (k_here; (with_reducible show wpAny _ _ (getAttr (Value.ref _) (Str.ofString "kind") _) _ _ _); k_dflt (refine' get_kind ?g1Z7 ?g2Z7 ?g3Z7 ?g4Z7 ?g5Z7 ?_; (case g1Z7 => with_reducible assumption); (case g5Z7 => k_asm); (case g2Z7 => (intro p hp; k_mem)); (case g3Z7 => k_asm); (case g4Z7 => k_asm)); intro tg')
  k_with "getAttr ref" => (k_here; (with_reducible show wpAny _ _ (getAttr (Value.ref _) (Str.ofString "attrs") _) _ _ _); k_dflt (refine' get_attrs ?g1Z7 ?g2Z7 ?g3Z7 ?g4Z7 ?g5Z7 ?g6Z7 ?_; (case g1Z7 => with_reducible assumption); (case g5Z7 => k_asm); (case g2Z7 => (intro p hp; k_mem)); (case g3Z7 => k_asm); (case g4Z7 => k_asm); (case g6Z7 => k_handed)))
  k_with "getAttr ref" => (k_here; (with_reducible show wpAny _ _ (getAttr (Value.ref _) (Str.ofString "items") _) _ _ _); k_dflt (refine' get_items ?g1Z7 ?g2Z7 ?g3Z7 ?g4Z7 ?g5Z7 ?_; (case g1Z7 => with_reducible assumption); (case g5Z7 => k_asm); (case g2Z7 => (intro p hp; k_mem)); (case g3Z7 => k_asm); (case g4Z7 => k_asm)))
  obtain ⟨ckind, cnames, cgen, cco, cmore⟩ := cs
  dsimp only at hk
  subst hk
  refine wpAny_call ?_
  k_dflt k_enter
  k_steps
  rename Fr _ _ _ _ => kF9
  rename News _ _ _ _ => kN9
  rename ∀ q ∈ news, _ => l9
  exact tell_end hret (tl' ++ [(_, _)]) kF9 kN9 (fun p hp => by rw [List.append_assoc] at hp; exact hp) (Apart.append (y'.sub fun p hp => .tail _ hp) (Apart.c (lt_ne' l9) (Apart.nil _))) ⟨_, _, _, rfl, v'.mono fun p hp => List.mem_append.mpr (.inl hp), List.mem_append.mpr (.inr (.head _))⟩
set_option maxHeartbeats 600000 in
theorem int_tell (w mean mg mb news) (l : Addr) (vs : List Value) (c : Nat) (hl : (l, listOf vs.toArray c) ∈ news) (hv : vs.length < 1000) :
    Tell 5 w mean mg mb anyB 197 [.ref l] news (OutCV w (Str.ofString "integer") vs) := by
  refine tell_mk ?_
  intro dp un gd cn cs a ccd cl outer A₀ base h₀ L m s Q E PB B F X N T hk hdp hun hU hret
  k_with_none
  k_with "FinE" => (((unfold LCg.FinE); intro D' h' tk' F' N' o1'; (try simp only [off1_app, LCg.Off1, and_true, and_assoc] at o1'); (repeat (have hOf9 := And.left o1'; replace o1' := And.right o1')); (try simp only [List.nil_append, List.cons_append] at N'); (try dsimp only)))
  k_with "FinA" => (((unfold LCg.FinA); intro D' h' tk' F' N' o1'; (try simp only [off1_app, LCg.Off1, and_true, and_assoc] at o1'); (repeat (have hOf9 := And.left o1'; replace o1' := And.right o1')); (try simp only [List.nil_append, List.cons_append] at N'); (try dsimp only)))
  k_with "call type:list" => ((k_here; (with_reducible show wpAny _ _ (call (Value.type _) [Value.ref _]) _ _ _); k_dflt (refine' list_copyK ?FZ7 ?NZ7 (News.isList ?N2Z7 ?bZ7) ?_ ?zZ7; (case FZ7 => k_asm); (case NZ7 => k_asm); (case N2Z7 => k_asm); (case bZ7 => k_mem); (case zZ7 => rw [PySem.sizeLine_eq]; simp only [List.size_toArray, List.length_cons, List.length_nil]; first | exact sz_el (by with_reducible assumption) (by with_reducible assumption) rfl | exact sz_ll (by with_reducible assumption) (by with_reducible assumption) rfl | exact sz_lt (by with_reducible assumption) rfl | exact sz_le (by with_reducible assumption) rfl | exact sz_eq (by with_reducible assumption) (by with_reducible assumption) rfl | exact Nat.le_of_ble_eq_true rfl | omega)); intro D' c' h' F' N' l1; (try k_lt l1); (try k_sweep)))
  k_with "call builtin:isinstance" => ((k_here; k_dflt (refine' isi_call ?k1Z7 ?k2Z7 ?k3Z7 ?k4Z7 ?_; (case k1Z7 => k_in); (case k2Z7 => (intro M; exact InstAt.type (by k_inst))); (case k3Z7 => k_is); (case k4Z7 => intro e; cases e); k_whole)))
  k_with "getMethod ref" => ((k_here; (with_reducible show wpAny _ _ (getMethod (Value.ref _) (Str.ofString "get") _) _ _ _); k_dflt (refine kdg_method (knd := PySem.strKind _ _) (by k_asm) (by k_mem) (by k_asm) ?_)))
  k_with "call builtin:dict.get" => ((k_here; k_dflt (first
    | refine kdg_get1 (knd := PySem.strKind _ _) (by k_asm) (by k_mem) (by k_asm) (by k_asm) (strKind_is _ _ _ _) (some _) (by rfl) ?_
    | refine kdg_get1 (knd := PySem.strKind _ _) (by k_asm) (by k_mem) (by k_asm) (by k_asm) (strKind_is _ _ _ _) none (by rfl) ?_); (try dsimp only [Option.getD])))
  k_with "compareOp In str ref" => ((k_here; k_dflt (first
    | refine kda_in (knd := PySem.strKind _ _) (by k_asm) (by k_mem) (by k_asm) (by k_asm) (strKind_is _ _ _ _) true (by rfl) ?_
    | refine kda_in (knd := PySem.strKind _ _) (by k_asm) (by k_mem) (by k_asm) (by k_asm) (strKind_is _ _ _ _) false (by rfl) ?_)))
  k_with "compareOp NotIn str ref" => ((k_here; k_dflt (first
    | refine kdg_notin (knd := PySem.strKind _ _) (by k_asm) (by k_mem) (by k_asm) (by k_asm) (strKind_is _ _ _ _) true (by rfl) ?_
    | refine kdg_notin (knd := PySem.strKind _ _) (by k_asm) (by k_mem) (by k_asm) (by k_asm) (strKind_is _ _ _ _) false (by rfl) ?_); (try dsimp only [Bool.not_true, Bool.not_false])))
  k_with "subscriptTail" => ((k_here; (with_reducible show wpAny _ _ (subscriptTail _ _ (Value.ref _) (Value.str _ _)) _ _ _); k_dflt (first
    | refine kda_item (knd := PySem.strKind _ _) (by k_asm) (by k_mem) (by k_asm) (strKind_is _ _ _ _) (by rfl) ?_
    | refine kdt_tail (knd := PySem.strKind _ _) (by k_asm) (by k_mem) (by k_asm) ?_)))
  k_with "getItem ref str" => ((k_here; k_dflt (refine kdt_getItem (knd := PySem.strKind _ _) (by k_asm) (by k_mem) (by k_asm) (strKind_is _ _ _ _) (by rfl) ?_)))
  k_with "setItem ref str" => ((k_here; k_dflt (refine' kda_set (knd := PySem.strKind _ _) ?FZ7 ?NZ7 ?UZ7 ?dZ7 (strKind_is _ _ _ _) ?zZ7 ?_; (case FZ7 => k_asm); (case NZ7 => k_asm); (case UZ7 => k_updF); (case dZ7 => k_asm); (case zZ7 => rw [sizeLine_eq]; exact Nat.le_of_ble_eq_true (by with_unfolding_all rfl))); intro h' o' F' N' hd'; (try dsimp only at N')))
  k_with "call builtin:len" => ((k_here; (with_reducible show wpAny _ _ (call (Value.builtin "len") [Value.ref _]) _ _ _); k_dflt (refine' len_mem ?NZ7 ?bZ7 ?zZ7 ?_; (case NZ7 => k_asm); (case bZ7 => k_mem); (case zZ7 => omega))))
  k_with "eval ListComp" => ((k_here; k_dflt (refine LCg.ListComp_U (F₀ := by k_asm) (by with_unfolding_all rfl) (by decide) (by rfl) (by decide) (by rfl) ?_)))
  k_with "exec Assign cons ListComp" => ((k_here; k_dflt (refine LCg.Assign_ListComp_U (F₀ := by k_asm) (by rfl) (by with_unfolding_all rfl) (by with_unfolding_all rfl) (by decide) (by rfl) (by decide) (by rfl) (by rfl) (by rfl) ?_)))
  k_with "CompSrc" => ((k_here; (try k_fmods); k_dflt (refine LCg.CompSrc.range (by rfl) (by k_asm) (by k_asm) (by assumption) (by first | (with_reducible refine small_nat ?sm9; (case sm9 => first | exact lt_eq (by with_reducible assumption) (by with_reducible assumption) rfl | exact lt_lt (by with_reducible assumption) rfl | exact lt_el (by with_reducible assumption) (by with_reducible assumption) rfl | exact lt_le (by with_reducible assumption) rfl | omega)) | exact small_one (by kcf_bnd) (by kcf_bnd) (by kcf_bnd) (by kcf_bnd) | decide) (by first | exact rangeSize_nat _ _ | rfl) (by rw [PySem.sizeLine_eq]; first | exact sz_lt (by with_reducible assumption) rfl | exact sz_le (by with_reducible assumption) rfl | omega | (simp only [List.size_toArray]; omega)) ?_; intro g'; k_extra "my comp")))
  k_with "exec For Name" => ((k_here; (rename Fr _ _ _ _ => lF'); (with_unfolding_all refine' For_invVF lF' ?k1Z7 ?k2Z7 ?_; (case k1Z7 => exact rfl); (case k2Z7 => exact rfl); k_whole)))
  k_with "exec For Name Call cons nil" => ((k_here; (rename Fr _ _ _ _ => lF'); (with_unfolding_all refine' For_invVF lF' ?k1Z7 ?k2Z7 ?_; (case k1Z7 => exact rfl); (case k2Z7 => exact rfl); k_whole)))
  k_with "exec For Name Name cons nil" => ((k_here; (rename Fr _ _ _ _ => lF'); (with_unfolding_all refine' For_invVF lF' ?k1Z7 ?k2Z7 ?_; (case k1Z7 => exact rfl); (case k2Z7 => exact rfl); k_whole)))
  k_with "pyIter ref" => ((k_here; k_dflt k_extra "my loop"))
  k_with "LpPost" => ((dsimp only [LpPost]))
  k_with "call builtin:list.append" => ((k_here; k_dflt (refine' append_K ?k1Z7 ?k2Z7 ?k3Z7 ?_ ?zZ7; (case k1Z7 => k_asm); (case k2Z7 => k_asm); (case k3Z7 => k_upd); (case zZ7 => rw [PySem.sizeLine_eq]; simp only [List.size_toArray, List.length_append, List.length_cons, List.length_nil]; first | exact sz_el (by with_reducible assumption) (by with_reducible assumption) rfl | exact sz_ll (by with_reducible assumption) (by with_reducible assumption) rfl | exact sz_lt (by with_reducible assumption) rfl | exact sz_le (by with_reducible assumption) rfl | exact sz_eq (by with_reducible assumption) (by with_reducible assumption) rfl | exact Nat.le_of_ble_eq_true rfl | omega); k_whole); intro h' F' N'; (try k_sweep)))
  k_with "call type:range" => (((rename Fr _ _ _ _ => F'); (rename News _ _ _ _ => N'); first
    | (with_unfolding_all refine range1_rows F' N' ?_; intro _ _ _ _ _ _ _ _ _)
    | (with_unfolding_all refine range2_rows F' N' ?_; intro _ _ _ _ _ _ _ _ _)))
  k_with "call ref" => (k_here; (with_reducible show wpAny _ _ (call (Value.ref 179) _) _ _ _); k_dflt (refine' use_new ?kPZ7 ?k1Z7 ?k2Z7 ?k3Z7 ?k4Z7 ?k5Z7 ?kKZ7 (vnew_tell _ _ _ _ _ _ _ _) ?kdZ7 ?kuZ7 ?_; (case k1Z7 => k_asm); (case k2Z7 => k_asm); (case k3Z7 => k_asm); (case k4Z7 => k_asm); (case k5Z7 => k_asm); (case kKZ7 => first | exact rfl | assumption); (case kPZ7 => exact True.intro); (case kdZ7 => ktr_room); (case kuZ7 => first | exact hU 3 rfl | ktr_units); intro x' tl' h' tk' F' N' y' v'); (try simp only [List.cons_append, List.nil_append] at N'); (try dsimp only); (try k_fold))
  k_with "getAttr ref" => (k_here; (with_reducible show wpAny _ _ (getAttr (Value.ref _) (Str.ofString "kind") _) _ _ _); k_dflt (refine' get_kind ?g1Z7 ?g2Z7 ?g3Z7 ?g4Z7 ?g5Z7 ?_; (case g1Z7 => with_reducible assumption); (case g5Z7 => k_asm); (case g2Z7 => (intro p hp; k_mem)); (case g3Z7 => k_asm); (case g4Z7 => k_asm)); intro tg')
  k_with "getAttr ref" => (k_here; (with_reducible show wpAny _ _ (getAttr (Value.ref _) (Str.ofString "attrs") _) _ _ _); k_dflt (refine' get_attrs ?g1Z7 ?g2Z7 ?g3Z7 ?g4Z7 ?g5Z7 ?g6Z7 ?_; (case g1Z7 => with_reducible assumption); (case g5Z7 => k_asm); (case g2Z7 => (intro p hp; k_mem)); (case g3Z7 => k_asm); (case g4Z7 => k_asm); (case g6Z7 => k_handed)))
  k_with "getAttr ref" => (k_here; (with_reducible show wpAny _ _ (getAttr (Value.ref _) (Str.ofString "items") _) _ _ _); k_dflt (refine' get_items ?g1Z7 ?g2Z7 ?g3Z7 ?g4Z7 ?g5Z7 ?_; (case g1Z7 => with_reducible assumption); (case g5Z7 => k_asm); (case g2Z7 => (intro p hp; k_mem)); (case g3Z7 => k_asm); (case g4Z7 => k_asm)))
  obtain ⟨ckind, cnames, cgen, cco, cmore⟩ := cs
  dsimp only at hk
  subst hk
  refine wpAny_call ?_
  k_dflt k_enter
  k_steps
  rename Fr _ _ _ _ => kF9
  rename News _ _ _ _ => kN9
  rename ∀ q ∈ news, _ => l9
  exact tell_end hret (tl' ++ [(_, _)]) kF9 kN9 (fun p hp => by rw [List.append_assoc] at hp; exact hp) (Apart.append (y'.sub fun p hp => .tail _ hp) (Apart.c (lt_ne' l9) (Apart.nil _))) ⟨_, _, _, rfl, v'.mono fun p hp => List.mem_append.mpr (.inl hp), List.mem_append.mpr (.inr (.head _))⟩
set_option maxHeartbeats 600000 in
theorem names_k0 (w mean mg mb news) (x D : Addr) (hv : VecAt w news x (Str.ofString "double") D .none) :
    Tell 5 w mean mg mb anyB 237 [.ref x] news (fun r tl => r = .none ∧ tl = []) := by
  refine tell_mk ?_
  intro dp un gd cn cs a ccd cl outer A₀ base h₀ L m s Q E PB B F X N T hk hdp hun hU hret
  k_with_none
  k_with "FinE" => (((unfold LCg.FinE); intro D' h' tk' F' N' o1'; (try simp only [off1_app, LCg.Off1, and_true, and_assoc] at o1'); (repeat (have hOf9 := And.left o1'; replace o1' := And.right o1')); (try simp only [List.nil_append, List.cons_append] at N'); (try dsimp only)))
  k_with "FinA" => (((unfold LCg.FinA); intro D' h' tk' F' N' o1'; (try simp only [off1_app, LCg.Off1, and_true, and_assoc] at o1'); (repeat (have hOf9 := And.left o1'; replace o1' := And.right o1')); (try simp only [List.nil_append, List.cons_append] at N'); (try dsimp only)))
  k_with "call type:list" => ((k_here; (with_reducible show wpAny _ _ (call (Value.type _) [Value.ref _]) _ _ _); k_dflt (refine' list_copyK ?FZ7 ?NZ7 (News.isList ?N2Z7 ?bZ7) ?_ ?zZ7; (case FZ7 => k_asm); (case NZ7 => k_asm); (case N2Z7 => k_asm); (case bZ7 => k_mem); (case zZ7 => rw [PySem.sizeLine_eq]; simp only [List.size_toArray, List.length_cons, List.length_nil]; first | exact sz_el (by with_reducible assumption) (by with_reducible assumption) rfl | exact sz_ll (by with_reducible assumption) (by with_reducible assumption) rfl | exact sz_lt (by with_reducible assumption) rfl | exact sz_le (by with_reducible assumption) rfl | exact sz_eq (by with_reducible assumption) (by with_reducible assumption) rfl | exact Nat.le_of_ble_eq_true rfl | omega)); intro D' c' h' F' N' l1; (try k_lt l1); (try k_sweep)))
  k_with "call builtin:isinstance" => ((k_here; k_dflt (refine' isi_call ?k1Z7 ?k2Z7 ?k3Z7 ?k4Z7 ?_; (case k1Z7 => k_in); (case k2Z7 => (intro M; exact InstAt.type (by k_inst))); (case k3Z7 => k_is); (case k4Z7 => intro e; cases e); k_whole)))
  k_with "getMethod ref" => ((k_here; (with_reducible show wpAny _ _ (getMethod (Value.ref _) (Str.ofString "get") _) _ _ _); k_dflt (refine kdg_method (knd := PySem.strKind _ _) (by k_asm) (by k_mem) (by k_asm) ?_)))
  k_with "call builtin:dict.get" => ((k_here; k_dflt (first
    | refine kdg_get1 (knd := PySem.strKind _ _) (by k_asm) (by k_mem) (by k_asm) (by k_asm) (strKind_is _ _ _ _) (some _) (by rfl) ?_
    | refine kdg_get1 (knd := PySem.strKind _ _) (by k_asm) (by k_mem) (by k_asm) (by k_asm) (strKind_is _ _ _ _) none (by rfl) ?_); (try dsimp only [Option.getD])))
  k_with "compareOp In str ref" => ((k_here; k_dflt (first
    | refine kda_in (knd := PySem.strKind _ _) (by k_asm) (by k_mem) (by k_asm) (by k_asm) (strKind_is _ _ _ _) true (by rfl) ?_
    | refine kda_in (knd := PySem.strKind _ _) (by k_asm) (by k_mem) (by k_asm) (by k_asm) (strKind_is _ _ _ _) false (by rfl) ?_)))
  k_with "compareOp NotIn str ref" => ((k_here; k_dflt (first
    | refine kdg_notin (knd := PySem.strKind _ _) (by k_asm) (by k_mem) (by k_asm) (by k_asm) (strKind_is _ _ _ _) true (by rfl) ?_
    | refine kdg_notin (knd := PySem.strKind _ _) (by k_asm) (by k_mem) (by k_asm) (by k_asm) (strKind_is _ _ _ _) false (by rfl) ?_); (try dsimp only [Bool.not_true, Bool.not_false])))
  k_with "subscriptTail" => ((k_here; (with_reducible show wpAny _ _ (subscriptTail _ _ (Value.ref _) (Value.str _ _)) _ _ _); k_dflt (first
    | refine kda_item (knd := PySem.strKind _ _) (by k_asm) (by k_mem) (by k_asm) (strKind_is _ _ _ _) (by rfl) ?_
    | refine kdt_tail (knd := PySem.strKind _ _) (by k_asm) (by k_mem) (by k_asm) ?_)))
  k_with "getItem ref str" => ((k_here; k_dflt (refine kdt_getItem (knd := PySem.strKind _ _) (by k_asm) (by k_mem) (by k_asm) (strKind_is _ _ _ _) (by rfl) ?_)))
  k_with "setItem ref str" => ((k_here; k_dflt (refine' kda_set (knd := PySem.strKind _ _) ?FZ7 ?NZ7 ?UZ7 ?dZ7 (strKind_is _ _ _ _) ?zZ7 ?_; (case FZ7 => k_asm); (case NZ7 => k_asm); (case UZ7 => k_updF); (case dZ7 => k_asm); (case zZ7 => rw [sizeLine_eq]; exact Nat.le_of_ble_eq_true (by with_unfolding_all rfl))); intro h' o' F' N' hd'; (try dsimp only at N')))
  k_with "call builtin:len" => ((k_here; (with_reducible show wpAny _ _ (call (Value.builtin "len") [Value.ref _]) _ _ _); k_dflt (refine' len_mem ?NZ7 ?bZ7 ?zZ7 ?_; (case NZ7 => k_asm); (case bZ7 => k_mem); (case zZ7 => omega))))
  k_with "eval ListComp" => ((k_here; k_dflt (refine LCg.ListComp_U (F₀ := by k_asm) (by with_unfolding_all rfl) (by decide) (by rfl) (by decide) (by rfl) ?_)))
  k_with "exec Assign cons ListComp" => ((k_here; k_dflt (refine LCg.Assign_ListComp_U (F₀ := by k_asm) (by rfl) (by with_unfolding_all rfl) (by with_unfolding_all rfl) (by decide) (by rfl) (by decide) (by rfl) (by rfl) (by rfl) ?_)))
  k_with "CompSrc" => ((k_here; (try k_fmods); k_dflt (refine LCg.CompSrc.range (by rfl) (by k_asm) (by k_asm) (by assumption) (by first | (with_reducible refine small_nat ?sm9; (case sm9 => first | exact lt_eq (by with_reducible assumption) (by with_reducible assumption) rfl | exact lt_lt (by with_reducible assumption) rfl | exact lt_el (by with_reducible assumption) (by with_reducible assumption) rfl | exact lt_le (by with_reducible assumption) rfl | omega)) | exact small_one (by kcf_bnd) (by kcf_bnd) (by kcf_bnd) (by kcf_bnd) | decide) (by first | exact rangeSize_nat _ _ | rfl) (by rw [PySem.sizeLine_eq]; first | exact sz_lt (by with_reducible assumption) rfl | exact sz_le (by with_reducible assumption) rfl | omega | (simp only [List.size_toArray]; omega)) ?_; intro g'; k_extra "my comp")))
  k_with "exec For Name" => ((k_here; (rename Fr _ _ _ _ => lF'); (with_unfolding_all refine' For_invVF lF' ?k1Z7 ?k2Z7 ?_; (case k1Z7 => exact rfl); (case k2Z7 => exact rfl); k_whole)))
  k_with "exec For Name Call cons nil" => ((k_here; (rename Fr _ _ _ _ => lF'); (with_unfolding_all refine' For_invVF lF' ?k1Z7 ?k2Z7 ?_; (case k1Z7 => exact rfl); (case k2Z7 => exact rfl); k_whole)))
  k_with "exec For Name Name cons nil" => ((k_here; (rename Fr _ _ _ _ => lF'); (with_unfolding_all refine' For_invVF lF' ?k1Z7 ?k2Z7 ?_; (case k1Z7 => exact rfl); (case k2Z7 => exact rfl); k_whole)))
  k_with "pyIter ref" => ((k_here; k_dflt k_extra "my loop"))
  k_with "LpPost" => ((dsimp only [LpPost]))
  k_with "call builtin:list.append" => ((k_here; k_dflt (refine' append_K ?k1Z7 ?k2Z7 ?k3Z7 ?_ ?zZ7; (case k1Z7 => k_asm); (case k2Z7 => k_asm); (case k3Z7 => k_upd); (case zZ7 => rw [PySem.sizeLine_eq]; simp only [List.size_toArray, List.length_append, List.length_cons, List.length_nil]; first | exact sz_el (by with_reducible assumption) (by with_reducible assumption) rfl | exact sz_ll (by with_reducible assumption) (by with_reducible assumption) rfl | exact sz_lt (by with_reducible assumption) rfl | exact sz_le (by with_reducible assumption) rfl | exact sz_eq (by with_reducible assumption) (by with_reducible assumption) rfl | exact Nat.le_of_ble_eq_true rfl | omega); k_whole); intro h' F' N'; (try k_sweep)))
  k_with "call type:range" => (((rename Fr _ _ _ _ => F'); (rename News _ _ _ _ => N'); first
    | (with_unfolding_all refine range1_rows F' N' ?_; intro _ _ _ _ _ _ _ _ _)
    | (with_unfolding_all refine range2_rows F' N' ?_; intro _ _ _ _ _ _ _ _ _)))
  k_with "getAttr ref" => (k_here; (with_reducible show wpAny _ _ (getAttr (Value.ref _) (Str.ofString "kind") _) _ _ _); k_dflt (refine' get_kind ?g1Z7 ?g2Z7 ?g3Z7 ?g4Z7 ?g5Z7 ?_; (case g1Z7 => with_reducible assumption); (case g5Z7 => k_asm); (case g2Z7 => (intro p hp; k_mem)); (case g3Z7 => k_asm); (case g4Z7 => k_asm)); intro tg')
  k_with "getAttr ref" => (k_here; (with_reducible show wpAny _ _ (getAttr (Value.ref _) (Str.ofString "attrs") _) _ _ _); k_dflt (refine' get_attrs ?g1Z7 ?g2Z7 ?g3Z7 ?g4Z7 ?g5Z7 ?g6Z7 ?_; (case g1Z7 => with_reducible assumption); (case g5Z7 => k_asm); (case g2Z7 => (intro p hp; k_mem)); (case g3Z7 => k_asm); (case g4Z7 => k_asm); (case g6Z7 => k_handed)))
  k_with "getAttr ref" => (k_here; (with_reducible show wpAny _ _ (getAttr (Value.ref _) (Str.ofString "items") _) _ _ _); k_dflt (refine' get_items ?g1Z7 ?g2Z7 ?g3Z7 ?g4Z7 ?g5Z7 ?_; (case g1Z7 => with_reducible assumption); (case g5Z7 => k_asm); (case g2Z7 => (intro p hp; k_mem)); (case g3Z7 => k_asm); (case g4Z7 => k_asm)))
  obtain ⟨ckind, cnames, cgen, cco, cmore⟩ := cs
  dsimp only at hk
  subst hk
  refine wpAny_call ?_
  k_dflt k_enter
  k_steps
  rename Fr _ _ _ _ => kF9
  rename News _ _ _ _ => kN9
  exact tell_end hret [] kF9 kN9 (fun p hp => hp) (Apart.nil _) ⟨rfl, rfl⟩
set_option maxHeartbeats 1000000 in
theorem names_k1 (w mean mg mb news) (x D ad nx nD : Addr) (o : Obj) (nvs : List Value) (nc : Nat) (hv : VecAt w news x (Str.ofString "double") D (.ref ad)) (h1 : (ad, o) ∈ news) (h2 : o.IsDictOf (PySem.strKind LP w) [(Str.ofString "names", .ref nx)]) (h3 : (ad == sysModules) = false)
    (h4 : VecAt w news nx (Str.ofString "character") nD .none) (h5 : (nD, listOf nvs.toArray nc) ∈ news) (hl : nvs.length < 1000) :
    Tell 5 w mean mg mb anyB 237 [.ref x] news (OutCopy nvs) := by
  refine tell_mk ?_
  intro dp un gd cn cs a ccd cl outer A₀ base h₀ L m s Q E PB B F X N T hk hdp hun hU hret
  k_with_none
  k_with "FinE" => (((unfold LCg.FinE); intro D' h' tk' F' N' o1'; (try simp only [off1_app, LCg.Off1, and_true, and_assoc] at o1'); (repeat (have hOf9 := And.left o1'; replace o1' := And.right o1')); (try simp only [List.nil_append, List.cons_append] at N'); (try dsimp only)))
  k_with "FinA" => (((unfold LCg.FinA); intro D' h' tk' F' N' o1'; (try simp only [off1_app, LCg.Off1, and_true, and_assoc] at o1'); (repeat (have hOf9 := And.left o1'; replace o1' := And.right o1')); (try simp only [List.nil_append, List.cons_append] at N'); (try dsimp only)))
  k_with "call type:list" => ((k_here; (with_reducible show wpAny _ _ (call (Value.type _) [Value.ref _]) _ _ _); k_dflt (refine' list_copyK ?FZ7 ?NZ7 (News.isList ?N2Z7 ?bZ7) ?_ ?zZ7; (case FZ7 => k_asm); (case NZ7 => k_asm); (case N2Z7 => k_asm); (case bZ7 => k_mem); (case zZ7 => rw [PySem.sizeLine_eq]; simp only [List.size_toArray, List.length_cons, List.length_nil]; first | exact sz_el (by with_reducible assumption) (by with_reducible assumption) rfl | exact sz_ll (by with_reducible assumption) (by with_reducible assumption) rfl | exact sz_lt (by with_reducible assumption) rfl | exact sz_le (by with_reducible assumption) rfl | exact sz_eq (by with_reducible assumption) (by with_reducible assumption) rfl | exact Nat.le_of_ble_eq_true rfl | omega)); intro D' c' h' F' N' l1; (try k_lt l1); (try k_sweep)))
  k_with "call builtin:isinstance" => ((k_here; k_dflt (refine' isi_call ?k1Z7 ?k2Z7 ?k3Z7 ?k4Z7 ?_; (case k1Z7 => k_in); (case k2Z7 => (intro M; exact InstAt.type (by k_inst))); (case k3Z7 => k_is); (case k4Z7 => intro e; cases e); k_whole)))
  k_with "getMethod ref" => ((k_here; (with_reducible show wpAny _ _ (getMethod (Value.ref _) (Str.ofString "get") _) _ _ _); k_dflt (refine kdg_method (knd := PySem.strKind _ _) (by k_asm) (by k_mem) (by k_asm) ?_)))
  k_with "call builtin:dict.get" => ((k_here; k_dflt (first
    | refine kdg_get1 (knd := PySem.strKind _ _) (by k_asm) (by k_mem) (by k_asm) (by k_asm) (strKind_is _ _ _ _) (some _) (by rfl) ?_
    | refine kdg_get1 (knd := PySem.strKind _ _) (by k_asm) (by k_mem) (by k_asm) (by k_asm) (strKind_is _ _ _ _) none (by rfl) ?_); (try dsimp only [Option.getD])))
  k_with "compareOp In str ref" => ((k_here; k_dflt (first
    | refine kda_in (knd := PySem.strKind _ _) (by k_asm) (by k_mem) (by k_asm) (by k_asm) (strKind_is _ _ _ _) true (by rfl) ?_
    | refine kda_in (knd := PySem.strKind _ _) (by k_asm) (by k_mem) (by k_asm) (by k_asm) (strKind_is _ _ _ _) false (by rfl) ?_)))
  k_with "compareOp NotIn str ref" => ((k_here; k_dflt (first
    | refine kdg_notin (knd := PySem.strKind _ _) (by k_asm) (by k_mem) (by k_asm) (by k_asm) (strKind_is _ _ _ _) true (by rfl) ?_
    | refine kdg_notin (knd := PySem.strKind _ _) (by k_asm) (by k_mem) (by k_asm) (by k_asm) (strKind_is _ _ _ _) false (by rfl) ?_); (try dsimp only [Bool.not_true, Bool.not_false])))
  k_with "subscriptTail" => ((k_here; (with_reducible show wpAny _ _ (subscriptTail _ _ (Value.ref _) (Value.str _ _)) _ _ _); k_dflt (first
    | refine kda_item (knd := PySem.strKind _ _) (by k_asm) (by k_mem) (by k_asm) (strKind_is _ _ _ _) (by rfl) ?_
    | refine kdt_tail (knd := PySem.strKind _ _) (by k_asm) (by k_mem) (by k_asm) ?_)))
  k_with "getItem ref str" => ((k_here; k_dflt (refine kdt_getItem (knd := PySem.strKind _ _) (by k_asm) (by k_mem) (by k_asm) (strKind_is _ _ _ _) (by rfl) ?_)))
  k_with "setItem ref str" => ((k_here; k_dflt (refine' kda_set (knd := PySem.strKind _ _) ?FZ7 ?NZ7 ?UZ7 ?dZ7 (strKind_is _ _ _ _) ?zZ7 ?_; (case FZ7 => k_asm); (case NZ7 => k_asm); (case UZ7 => k_updF); (case dZ7 => k_asm); (case zZ7 => rw [sizeLine_eq]; exact Nat.le_of_ble_eq_true (by with_unfolding_all rfl))); intro h' o' F' N' hd'; (try dsimp only at N')))
  k_with "call builtin:len" => ((k_here; (with_reducible show wpAny _ _ (call (Value.builtin "len") [Value.ref _]) _ _ _); k_dflt (refine' len_mem ?NZ7 ?bZ7 ?zZ7 ?_; (case NZ7 => k_asm); (case bZ7 => k_mem); (case zZ7 => omega))))
  k_with "eval ListComp" => ((k_here; k_dflt (refine LCg.ListComp_U (F₀ := by k_asm) (by with_unfolding_all rfl) (by decide) (by rfl) (by decide) (by rfl) ?_)))
  k_with "exec Assign cons ListComp" => ((k_here; k_dflt (refine LCg.Assign_ListComp_U (F₀ := by k_asm) (by rfl) (by with_unfolding_all rfl) (by with_unfolding_all rfl) (by decide) (by rfl) (by decide) (by rfl) (by rfl) (by rfl) ?_)))
  k_with "CompSrc" => ((k_here; (try k_fmods); k_dflt (refine LCg.CompSrc.range (by rfl) (by k_asm) (by k_asm) (by assumption) (by first | (with_reducible refine small_nat ?sm9; (case sm9 => first | exact lt_eq (by with_reducible assumption) (by with_reducible assumption) rfl | exact lt_lt (by with_reducible assumption) rfl | exact lt_el (by with_reducible assumption) (by with_reducible assumption) rfl | exact lt_le (by with_reducible assumption) rfl | omega)) | exact small_one (by kcf_bnd) (by kcf_bnd) (by kcf_bnd) (by kcf_bnd) | decide) (by first | exact rangeSize_nat _ _ | rfl) (by rw [PySem.sizeLine_eq]; first | exact sz_lt (by with_reducible assumption) rfl | exact sz_le (by with_reducible assumption) rfl | omega | (simp only [List.size_toArray]; omega)) ?_; intro g'; k_extra "my comp")))
  k_with "exec For Name" => ((k_here; (rename Fr _ _ _ _ => lF'); (with_unfolding_all refine' For_invVF lF' ?k1Z7 ?k2Z7 ?_; (case k1Z7 => exact rfl); (case k2Z7 => exact rfl); k_whole)))
  k_with "exec For Name Call cons nil" => ((k_here; (rename Fr _ _ _ _ => lF'); (with_unfolding_all refine' For_invVF lF' ?k1Z7 ?k2Z7 ?_; (case k1Z7 => exact rfl); (case k2Z7 => exact rfl); k_whole)))
  k_with "exec For Name Name cons nil" => ((k_here; (rename Fr _ _ _ _ => lF'); (with_unfolding_all refine' For_invVF lF' ?k1Z7 ?k2Z7 ?_; (case k1Z7 => exact rfl); (case k2Z7 => exact rfl); k_whole)))
  k_with "pyIter ref" => ((k_here; k_dflt k_extra "my loop"))
  k_with "LpPost" => ((dsimp only [LpPost]))
  k_with "call builtin:list.append" => ((k_here; k_dflt (refine' append_K ?k1Z7 ?k2Z7 ?k3Z7 ?_ ?zZ7; (case k1Z7 => k_asm); (case k2Z7 => k_asm); (case k3Z7 => k_upd); (case zZ7 => rw [PySem.sizeLine_eq]; simp only [List.size_toArray, List.length_append, List.length_cons, List.length_nil]; first | exact sz_el (by with_reducible assumption) (by with_reducible assumption) rfl | exact sz_ll (by with_reducible assumption) (by with_reducible assumption) rfl | exact sz_lt (by with_reducible assumption) rfl | exact sz_le (by with_reducible assumption) rfl | exact sz_eq (by with_reducible assumption) (by with_reducible assumption) rfl | exact Nat.le_of_ble_eq_true rfl | omega); k_whole); intro h' F' N'; (try k_sweep)))
  k_with "call type:range" => (((rename Fr _ _ _ _ => F'); (rename News _ _ _ _ => N'); first
    | (with_unfolding_all refine range1_rows F' N' ?_; intro _ _ _ _ _ _ _ _ _)
    | (with_unfolding_all refine range2_rows F' N' ?_; intro _ _ _ _ _ _ _ _ _)))
  k_with "getAttr ref" => (k_here; (with_reducible show wpAny _ _ (getAttr (Value.ref _) (Str.ofString "kind") _) _ _ _); k_dflt (refine' get_kind ?g1Z7 ?g2Z7 ?g3Z7 ?g4Z7 ?g5Z7 ?_; (case g1Z7 => with_reducible assumption); (case g5Z7 => k_asm); (case g2Z7 => (intro p hp; k_mem)); (case g3Z7 => k_asm); (case g4Z7 => k_asm)); intro tg')
  k_with "getAttr ref" => (k_here; (with_reducible show wpAny _ _ (getAttr (Value.ref _) (Str.ofString "attrs") _) _ _ _); k_dflt (refine' get_attrs ?g1Z7 ?g2Z7 ?g3Z7 ?g4Z7 ?g5Z7 ?g6Z7 ?_; (case g1Z7 => with_reducible assumption); (case g5Z7 => k_asm); (case g2Z7 => (intro p hp; k_mem)); (case g3Z7 => k_asm); (case g4Z7 => k_asm); (case g6Z7 => k_handed)))
  k_with "getAttr ref" => (k_here; (with_reducible show wpAny _ _ (getAttr (Value.ref _) (Str.ofString "items") _) _ _ _); k_dflt (refine' get_items ?g1Z7 ?g2Z7 ?g3Z7 ?g4Z7 ?g5Z7 ?_; (case g1Z7 => with_reducible assumption); (case g5Z7 => k_asm); (case g2Z7 => (intro p hp; k_mem)); (case g3Z7 => k_asm); (case g4Z7 => k_asm)))
  obtain ⟨ckind, cnames, cgen, cco, cmore⟩ := cs
  dsimp only at hk
  subst hk
  refine wpAny_call ?_
  k_dflt k_enter
  k_steps
  rename Fr _ _ _ _ => kF9
  rename News _ _ _ _ => kN9
  rename ∀ q ∈ news, _ => l9
  exact tell_end hret [(_, _)] kF9 kN9 (by intro p hp; exact hp) (Apart.c (lt_ne' l9) (Apart.nil _)) ⟨_, _, rfl, rfl⟩
end
section
open PySem.Calls
set_option maxHeartbeats 1000000 in
theorem numbers_tell (w mean mg mb news) (x D : Addr) (vs : List Value) (c : Nat) (attrs : Value) (nms : Option (List Dat)) (hv : VecAt w news x (Str.ofString "double") D attrs) (hD : (D, listOf vs.toArray c) ∈ news) (hn : NamesAt w news attrs nms) (hl : vs.length < 100) (hl2 : ∀ ds, nms = some ds → ds.length < 100) :
    Tell 10 w mean mg mb anyB 536 [.ref x] news (OutCopy vs) := by
  obtain ⟨dx, k1, k2, k3, k4, k5, tk0, sh0, lo0, hx1, hx2⟩ := hv.ex
  cases hn with
  | none =>
    refine tell_mk ?_
    intro dp un gd cn cs a ccd cl outer A₀ base h₀ L m s Q E PB B F X N T hk hdp hun hU hret
    k_with_none
    k_with "FinE" => (((unfold LCg.FinE); intro D' h' tk' F' N' o1'; (try simp only [off1_app, LCg.Off1, and_true, and_assoc] at o1'); (repeat (have hOf9 := And.left o1'; replace o1' := And.right o1')); (try simp only [List.nil_append, List.cons_append] at N'); (try dsimp only)))
    k_with "FinA" => (((unfold LCg.FinA); intro D' h' tk' F' N' o1'; (try simp only [off1_app, LCg.Off1, and_true, and_assoc] at o1'); (repeat (have hOf9 := And.left o1'; replace o1' := And.right o1')); (try simp only [List.nil_append, List.cons_append] at N'); (try dsimp only)))
    k_with "call type:list" => ((k_here; (with_reducible show wpAny _ _ (call (Value.type _) [Value.ref _]) _ _ _); k_dflt (refine' list_copyK ?FZ7 ?NZ7 (News.isList ?N2Z7 ?bZ7) ?_ ?zZ7; (case FZ7 => k_asm); (case NZ7 => k_asm); (case N2Z7 => k_asm); (case bZ7 => k_mem); (case zZ7 => rw [PySem.sizeLine_eq]; simp only [List.size_toArray, List.length_cons, List.length_nil]; first | exact sz_el (by with_reducible assumption) (by with_reducible assumption) rfl | exact sz_ll (by with_reducible assumption) (by with_reducible assumption) rfl | exact sz_lt (by with_reducible assumption) rfl | exact sz_le (by with_reducible assumption) rfl | exact sz_eq (by with_reducible assumption) (by with_reducible assumption) rfl | exact Nat.le_of_ble_eq_true rfl | omega)); intro D' c' h' F' N' l1; (try k_lt l1); (try k_sweep)))
    k_with "call builtin:isinstance" => ((k_here; k_dflt (refine' isi_call ?k1Z7 ?k2Z7 ?k3Z7 ?k4Z7 ?_; (case k1Z7 => k_in); (case k2Z7 => (intro M; exact InstAt.type (by k_inst))); (case k3Z7 => k_is); (case k4Z7 => intro e; cases e); k_whole)))
    k_with "getMethod ref" => ((k_here; (with_reducible show wpAny _ _ (getMethod (Value.ref _) (Str.ofString "get") _) _ _ _); k_dflt (refine kdg_method (knd := PySem.strKind _ _) (by k_asm) (by k_mem) (by k_asm) ?_)))
    k_with "call builtin:dict.get" => ((k_here; k_dflt (first
      | refine kdg_get1 (knd := PySem.strKind _ _) (by k_asm) (by k_mem) (by k_asm) (by k_asm) (strKind_is _ _ _ _) (some _) (by rfl) ?_
      | refine kdg_get1 (knd := PySem.strKind _ _) (by k_asm) (by k_mem) (by k_asm) (by k_asm) (strKind_is _ _ _ _) none (by rfl) ?_); (try dsimp only [Option.getD])))
    k_with "compareOp In str ref" => ((k_here; k_dflt (first
      | refine kda_in (knd := PySem.strKind _ _) (by k_asm) (by k_mem) (by k_asm) (by k_asm) (strKind_is _ _ _ _) true (by rfl) ?_
      | refine kda_in (knd := PySem.strKind _ _) (by k_asm) (by k_mem) (by k_asm) (by k_asm) (strKind_is _ _ _ _) false (by rfl) ?_)))
    k_with "compareOp NotIn str ref" => ((k_here; k_dflt (first
      | refine kdg_notin (knd := PySem.strKind _ _) (by k_asm) (by k_mem) (by k_asm) (by k_asm) (strKind_is _ _ _ _) true (by rfl) ?_
      | refine kdg_notin (knd := PySem.strKind _ _) (by k_asm) (by k_mem) (by k_asm) (by k_asm) (strKind_is _ _ _ _) false (by rfl) ?_); (try dsimp only [Bool.not_true, Bool.not_false])))
    k_with "subscriptTail" => ((k_here; (with_reducible show wpAny _ _ (subscriptTail _ _ (Value.ref _) (Value.str _ _)) _ _ _); k_dflt (first
      | refine kda_item (knd := PySem.strKind _ _) (by k_asm) (by k_mem) (by k_asm) (strKind_is _ _ _ _) (by rfl) ?_
      | refine kdt_tail (knd := PySem.strKind _ _) (by k_asm) (by k_mem) (by k_asm) ?_)))
    k_with "getItem ref str" => ((k_here; k_dflt (refine kdt_getItem (knd := PySem.strKind _ _) (by k_asm) (by k_mem) (by k_asm) (strKind_is _ _ _ _) (by rfl) ?_)))
    k_with "setItem ref str" => ((k_here; k_dflt (refine' kda_set (knd := PySem.strKind _ _) ?FZ7 ?NZ7 ?UZ7 ?dZ7 (strKind_is _ _ _ _) ?zZ7 ?_; (case FZ7 => k_asm); (case NZ7 => k_asm); (case UZ7 => k_updF); (case dZ7 => k_asm); (case zZ7 => rw [sizeLine_eq]; exact Nat.le_of_ble_eq_true (by with_unfolding_all rfl))); intro h' o' F' N' hd'; (try dsimp only at N')))
    k_with "call builtin:len" => ((k_here; (with_reducible show wpAny _ _ (call (Value.builtin "len") [Value.ref _]) _ _ _); k_dflt (refine' len_mem ?NZ7 ?bZ7 ?zZ7 ?_; (case NZ7 => k_asm); (case bZ7 => k_mem); (case zZ7 => omega))))
    k_with "eval ListComp" => ((k_here; k_dflt (refine LCg.ListComp_U (F₀ := by k_asm) (by with_unfolding_all rfl) (by decide) (by rfl) (by decide) (by rfl) ?_)))
    k_with "exec Assign cons ListComp" => ((k_here; k_dflt (refine LCg.Assign_ListComp_U (F₀ := by k_asm) (by rfl) (by with_unfolding_all rfl) (by with_unfolding_all rfl) (by decide) (by rfl) (by decide) (by rfl) (by rfl) (by rfl) ?_)))
    k_with "CompSrc" => ((k_here; (try k_fmods); k_dflt (refine LCg.CompSrc.range (by rfl) (by k_asm) (by k_asm) (by assumption) (by first | (with_reducible refine small_nat ?sm9; (case sm9 => first | exact lt_eq (by with_reducible assumption) (by with_reducible assumption) rfl | exact lt_lt (by with_reducible assumption) rfl | exact lt_el (by with_reducible assumption) (by with_reducible assumption) rfl | exact lt_le (by with_reducible assumption) rfl | omega)) | exact small_one (by kcf_bnd) (by kcf_bnd) (by kcf_bnd) (by kcf_bnd) | decide) (by first | exact rangeSize_nat _ _ | rfl) (by rw [PySem.sizeLine_eq]; first | exact sz_lt (by with_reducible assumption) rfl | exact sz_le (by with_reducible assumption) rfl | omega | (simp only [List.size_toArray]; omega)) ?_; intro g'; k_extra "my comp")))
    k_with "exec For Name" => ((k_here; (rename Fr _ _ _ _ => lF'); (with_unfolding_all refine' For_invVF lF' ?k1Z7 ?k2Z7 ?_; (case k1Z7 => exact rfl); (case k2Z7 => exact rfl); k_whole)))
    k_with "exec For Name Call cons nil" => ((k_here; (rename Fr _ _ _ _ => lF'); (with_unfolding_all refine' For_invVF lF' ?k1Z7 ?k2Z7 ?_; (case k1Z7 => exact rfl); (case k2Z7 => exact rfl); k_whole)))
    k_with "exec For Name Name cons nil" => ((k_here; (rename Fr _ _ _ _ => lF'); (with_unfolding_all refine' For_invVF lF' ?k1Z7 ?k2Z7 ?_; (case k1Z7 => exact rfl); (case k2Z7 => exact rfl); k_whole)))
    k_with "pyIter ref" => ((k_here; k_dflt k_extra "my loop"))
    k_with "LpPost" => ((dsimp only [LpPost]))
    k_with "call builtin:list.append" => ((k_here; k_dflt (refine' append_K ?k1Z7 ?k2Z7 ?k3Z7 ?_ ?zZ7; (case k1Z7 => k_asm); (case k2Z7 => k_asm); (case k3Z7 => k_upd); (case zZ7 => rw [PySem.sizeLine_eq]; simp only [List.size_toArray, List.length_append, List.length_cons, List.length_nil]; first | exact sz_el (by with_reducible assumption) (by with_reducible assumption) rfl | exact sz_ll (by with_reducible assumption) (by with_reducible assumption) rfl | exact sz_lt (by with_reducible assumption) rfl | exact sz_le (by with_reducible assumption) rfl | exact sz_eq (by with_reducible assumption) (by with_reducible assumption) rfl | exact Nat.le_of_ble_eq_true rfl | omega); k_whole); intro h' F' N'; (try k_sweep)))
    k_with "call type:range" => (((rename Fr _ _ _ _ => F'); (rename News _ _ _ _ => N'); first
      | (with_unfolding_all refine range1_rows F' N' ?_; intro _ _ _ _ _ _ _ _ _)
      | (with_unfolding_all refine range2_rows F' N' ?_; intro _ _ _ _ _ _ _ _ _)))
    k_with "call ref" => (k_here; (with_reducible show wpAny _ _ (call (Value.ref 179) _) _ _ _); k_dflt (refine' use_newx ?kPZ7 ?k1Z7 ?k2Z7 ?k3Z7 ?k4Z7 ?k5Z7 ?kKZ7 (vnew_tell _ _ _ _ _ _ _ _) ?kdZ7 ?kuZ7 ?_; (case k1Z7 => k_asm); (case k2Z7 => k_asm); (case k3Z7 => k_asm); (case k4Z7 => k_asm); (case k5Z7 => k_asm); (case kKZ7 => first | exact rfl | assumption); (case kPZ7 => exact True.intro); (case kdZ7 => ktr_room); (case kuZ7 => first | exact hU 3 rfl | ktr_units); intro x' d' k1' k2' k3' k4' k5' tk1' h' tk' F' N' y' lx' ll'); (try k_lt ll'); (try simp only [List.cons_append, List.nil_append] at N'); (try dsimp only); (try k_fold))
    k_with "call ref" => (k_here; (with_reducible show wpAny _ _ (call (Value.ref 237) _) _ _ _); k_dflt (refine' use_none ?kPZ7 ?k1Z7 ?k2Z7 ?k3Z7 ?k4Z7 ?k5Z7 ?kKZ7 (names_k0 _ _ _ _ _ _ _ ?hvZ7) ?kdZ7 ?kuZ7 ?_; (case k1Z7 => k_asm); (case k2Z7 => k_asm); (case k3Z7 => k_asm); (case k4Z7 => k_asm); (case k5Z7 => k_asm); (case kKZ7 => first | exact rfl | assumption); (case kPZ7 => exact True.intro); (case hvZ7 => exact VecAt.mono (by with_reducible assumption) (by intro p hp; k_mem)); (case kdZ7 => ktr_room); (case kuZ7 => first | exact hU 5 rfl | ktr_units); intro h' tk' F' N'); (try simp only [List.cons_append, List.nil_append] at N'); (try dsimp only); (try k_fold))
    k_with "getAttr ref" => (k_here; (with_reducible show wpAny _ _ (getAttr (Value.ref _) (Str.ofString "kind") _) _ _ _); k_dflt (refine' get_kind ?g1Z7 ?g2Z7 ?g3Z7 ?g4Z7 ?g5Z7 ?_; (case g1Z7 => with_reducible assumption); (case g5Z7 => k_asm); (case g2Z7 => (intro p hp; k_mem)); (case g3Z7 => k_asm); (case g4Z7 => k_asm)); intro tg')
    k_with "getAttr ref" => (k_here; (with_reducible show wpAny _ _ (getAttr (Value.ref _) (Str.ofString "attrs") _) _ _ _); k_dflt (refine' get_attrs ?g1Z7 ?g2Z7 ?g3Z7 ?g4Z7 ?g5Z7 ?g6Z7 ?_; (case g1Z7 => with_reducible assumption); (case g5Z7 => k_asm); (case g2Z7 => (intro p hp; k_mem)); (case g3Z7 => k_asm); (case g4Z7 => k_asm); (case g6Z7 => k_handed)))
    k_with "getAttr ref" => (k_here; (with_reducible show wpAny _ _ (getAttr (Value.ref _) (Str.ofString "items") _) _ _ _); k_dflt (refine' get_items ?g1Z7 ?g2Z7 ?g3Z7 ?g4Z7 ?g5Z7 ?_; (case g1Z7 => with_reducible assumption); (case g5Z7 => k_asm); (case g2Z7 => (intro p hp; k_mem)); (case g3Z7 => k_asm); (case g4Z7 => k_asm)))
    obtain ⟨ckind, cnames, cgen, cco, cmore⟩ := cs
    dsimp only at hk
    subst hk
    refine wpAny_call ?_
    k_dflt k_enter
    k_steps
    rename Fr _ _ _ _ => kF9
    rename News h₀ L _ _ => kN9
    exact end_copy hret (by assumption) kN9 (by k_mem) (by intro p hp; k_mem) (by first | exact allLt_ne' (by assumption) | exact allLt_ne' (allLt_of (by assumption)) | exact off1_mem (by assumption))
  | @some ad nx nD o nvs nc ds h1 h2 h3 h4 h5 h6 =>
    have hnl := h6.length
    have hnl2 := hl2 _ rfl
    refine tell_mk ?_
    intro dp un gd cn cs a ccd cl outer A₀ base h₀ L m s Q E PB B F X N T hk hdp hun hU hret
    k_with_none
    k_with "FinE" => (((unfold LCg.FinE); intro D' h' tk' F' N' o1'; (try simp only [off1_app, LCg.Off1, and_true, and_assoc] at o1'); (repeat (have hOf9 := And.left o1'; replace o1' := And.right o1')); (try simp only [List.nil_append, List.cons_append] at N'); (try dsimp only)))
    k_with "FinA" => (((unfold LCg.FinA); intro D' h' tk' F' N' o1'; (try simp only [off1_app, LCg.Off1, and_true, and_assoc] at o1'); (repeat (have hOf9 := And.left o1'; replace o1' := And.right o1')); (try simp only [List.nil_append, List.cons_append] at N'); (try dsimp only)))
    k_with "call type:list" => ((k_here; (with_reducible show wpAny _ _ (call (Value.type _) [Value.ref _]) _ _ _); k_dflt (refine' list_copyK ?FZ7 ?NZ7 (News.isList ?N2Z7 ?bZ7) ?_ ?zZ7; (case FZ7 => k_asm); (case NZ7 => k_asm); (case N2Z7 => k_asm); (case bZ7 => k_mem); (case zZ7 => rw [PySem.sizeLine_eq]; simp only [List.size_toArray, List.length_cons, List.length_nil]; first | exact sz_el (by with_reducible assumption) (by with_reducible assumption) rfl | exact sz_ll (by with_reducible assumption) (by with_reducible assumption) rfl | exact sz_lt (by with_reducible assumption) rfl | exact sz_le (by with_reducible assumption) rfl | exact sz_eq (by with_reducible assumption) (by with_reducible assumption) rfl | exact Nat.le_of_ble_eq_true rfl | omega)); intro D' c' h' F' N' l1; (try k_lt l1); (try k_sweep)))
    k_with "call builtin:isinstance" => ((k_here; k_dflt (refine' isi_call ?k1Z7 ?k2Z7 ?k3Z7 ?k4Z7 ?_; (case k1Z7 => k_in); (case k2Z7 => (intro M; exact InstAt.type (by k_inst))); (case k3Z7 => k_is); (case k4Z7 => intro e; cases e); k_whole)))
    k_with "getMethod ref" => ((k_here; (with_reducible show wpAny _ _ (getMethod (Value.ref _) (Str.ofString "get") _) _ _ _); k_dflt (refine kdg_method (knd := PySem.strKind _ _) (by k_asm) (by k_mem) (by k_asm) ?_)))
    k_with "call builtin:dict.get" => ((k_here; k_dflt (first
      | refine kdg_get1 (knd := PySem.strKind _ _) (by k_asm) (by k_mem) (by k_asm) (by k_asm) (strKind_is _ _ _ _) (some _) (by rfl) ?_
      | refine kdg_get1 (knd := PySem.strKind _ _) (by k_asm) (by k_mem) (by k_asm) (by k_asm) (strKind_is _ _ _ _) none (by rfl) ?_); (try dsimp only [Option.getD])))
    k_with "compareOp In str ref" => ((k_here; k_dflt (first
      | refine kda_in (knd := PySem.strKind _ _) (by k_asm) (by k_mem) (by k_asm) (by k_asm) (strKind_is _ _ _ _) true (by rfl) ?_
      | refine kda_in (knd := PySem.strKind _ _) (by k_asm) (by k_mem) (by k_asm) (by k_asm) (strKind_is _ _ _ _) false (by rfl) ?_)))
    k_with "compareOp NotIn str ref" => ((k_here; k_dflt (first
      | refine kdg_notin (knd := PySem.strKind _ _) (by k_asm) (by k_mem) (by k_asm) (by k_asm) (strKind_is _ _ _ _) true (by rfl) ?_
      | refine kdg_notin (knd := PySem.strKind _ _) (by k_asm) (by k_mem) (by k_asm) (by k_asm) (strKind_is _ _ _ _) false (by rfl) ?_); (try dsimp only [Bool.not_true, Bool.not_false])))
    k_with "subscriptTail" => ((k_here; (with_reducible show wpAny _ _ (subscriptTail _ _ (Value.ref _) (Value.str _ _)) _ _ _); k_dflt (first
      | refine kda_item (knd := PySem.strKind _ _) (by k_asm) (by k_mem) (by k_asm) (strKind_is _ _ _ _) (by rfl) ?_
      | refine kdt_tail (knd := PySem.strKind _ _) (by k_asm) (by k_mem) (by k_asm) ?_)))
    k_with "getItem ref str" => ((k_here; k_dflt (refine kdt_getItem (knd := PySem.strKind _ _) (by k_asm) (by k_mem) (by k_asm) (strKind_is _ _ _ _) (by rfl) ?_)))
    k_with "setItem ref str" => ((k_here; k_dflt (refine' kda_set (knd := PySem.strKind _ _) ?FZ7 ?NZ7 ?UZ7 ?dZ7 (strKind_is _ _ _ _) ?zZ7 ?_; (case FZ7 => k_asm); (case NZ7 => k_asm); (case UZ7 => k_updF); (case dZ7 => k_asm); (case zZ7 => rw [sizeLine_eq]; exact Nat.le_of_ble_eq_true (by with_unfolding_all rfl))); intro h' o' F' N' hd'; (try dsimp only at N')))
    k_with "call builtin:len" => ((k_here; (with_reducible show wpAny _ _ (call (Value.builtin "len") [Value.ref _]) _ _ _); k_dflt (refine' len_mem ?NZ7 ?bZ7 ?zZ7 ?_; (case NZ7 => k_asm); (case bZ7 => k_mem); (case zZ7 => omega))))
    k_with "eval ListComp" => ((k_here; k_dflt (refine LCg.ListComp_U (F₀ := by k_asm) (by with_unfolding_all rfl) (by decide) (by rfl) (by decide) (by rfl) ?_)))
    k_with "exec Assign cons ListComp" => ((k_here; k_dflt (refine LCg.Assign_ListComp_U (F₀ := by k_asm) (by rfl) (by with_unfolding_all rfl) (by with_unfolding_all rfl) (by decide) (by rfl) (by decide) (by rfl) (by rfl) (by rfl) ?_)))
    k_with "CompSrc" => ((k_here; (try k_fmods); k_dflt (refine LCg.CompSrc.range (by rfl) (by k_asm) (by k_asm) (by assumption) (by first | (with_reducible refine small_nat ?sm9; (case sm9 => first | exact lt_eq (by with_reducible assumption) (by with_reducible assumption) rfl | exact lt_lt (by with_reducible assumption) rfl | exact lt_el (by with_reducible assumption) (by with_reducible assumption) rfl | exact lt_le (by with_reducible assumption) rfl | omega)) | exact small_one (by kcf_bnd) (by kcf_bnd) (by kcf_bnd) (by kcf_bnd) | decide) (by first | exact rangeSize_nat _ _ | rfl) (by rw [PySem.sizeLine_eq]; first | exact sz_lt (by with_reducible assumption) rfl | exact sz_le (by with_reducible assumption) rfl | omega | (simp only [List.size_toArray]; omega)) ?_; intro g'; k_extra "my comp")))
    k_with "exec For Name" => ((k_here; (rename Fr _ _ _ _ => lF'); (with_unfolding_all refine' For_invVF lF' ?k1Z7 ?k2Z7 ?_; (case k1Z7 => exact rfl); (case k2Z7 => exact rfl); k_whole)))
    k_with "exec For Name Call cons nil" => ((k_here; (rename Fr _ _ _ _ => lF'); (with_unfolding_all refine' For_invVF lF' ?k1Z7 ?k2Z7 ?_; (case k1Z7 => exact rfl); (case k2Z7 => exact rfl); k_whole)))
    k_with "exec For Name Name cons nil" => ((k_here; (rename Fr _ _ _ _ => lF'); (with_unfolding_all refine' For_invVF lF' ?k1Z7 ?k2Z7 ?_; (case k1Z7 => exact rfl); (case k2Z7 => exact rfl); k_whole)))
    k_with "pyIter ref" => ((k_here; k_dflt k_extra "my loop"))
    k_with "LpPost" => ((dsimp only [LpPost]))
    k_with "call builtin:list.append" => ((k_here; k_dflt (refine' append_K ?k1Z7 ?k2Z7 ?k3Z7 ?_ ?zZ7; (case k1Z7 => k_asm); (case k2Z7 => k_asm); (case k3Z7 => k_upd); (case zZ7 => rw [PySem.sizeLine_eq]; simp only [List.size_toArray, List.length_append, List.length_cons, List.length_nil]; first | exact sz_el (by with_reducible assumption) (by with_reducible assumption) rfl | exact sz_ll (by with_reducible assumption) (by with_reducible assumption) rfl | exact sz_lt (by with_reducible assumption) rfl | exact sz_le (by with_reducible assumption) rfl | exact sz_eq (by with_reducible assumption) (by with_reducible assumption) rfl | exact Nat.le_of_ble_eq_true rfl | omega); k_whole); intro h' F' N'; (try k_sweep)))
    k_with "call type:range" => (((rename Fr _ _ _ _ => F'); (rename News _ _ _ _ => N'); first
      | (with_unfolding_all refine range1_rows F' N' ?_; intro _ _ _ _ _ _ _ _ _)
      | (with_unfolding_all refine range2_rows F' N' ?_; intro _ _ _ _ _ _ _ _ _)))
    k_with "call ref" => (k_here; (with_reducible show wpAny _ _ (call (Value.ref 179) _) _ _ _); k_dflt (refine' use_newx ?kPZ7 ?k1Z7 ?k2Z7 ?k3Z7 ?k4Z7 ?k5Z7 ?kKZ7 (vnew_tell _ _ _ _ _ _ _ _) ?kdZ7 ?kuZ7 ?_; (case k1Z7 => k_asm); (case k2Z7 => k_asm); (case k3Z7 => k_asm); (case k4Z7 => k_asm); (case k5Z7 => k_asm); (case kKZ7 => first | exact rfl | assumption); (case kPZ7 => exact True.intro); (case kdZ7 => ktr_room); (case kuZ7 => first | exact hU 3 rfl | ktr_units); intro x' d' k1' k2' k3' k4' k5' tk1' h' tk' F' N' y' lx' ll'); (try k_lt ll'); (try simp only [List.cons_append, List.nil_append] at N'); (try dsimp only); (try k_fold))
    k_with "call ref" => (k_here; (with_reducible show wpAny _ _ (call (Value.ref 237) _) _ _ _); k_dflt (refine' use_copy ?kPZ7 ?k1Z7 ?k2Z7 ?k3Z7 ?k4Z7 ?k5Z7 ?kKZ7 (names_k1 _ _ _ _ _ _ _ _ _ _ _ _ _ ?hvZ7 ?h1Z7 ?h2Z7 ?h3Z7 ?h4Z7 ?h5Z7 ?hlZ7) ?kdZ7 ?kuZ7 ?_; (case k1Z7 => k_asm); (case k2Z7 => k_asm); (case k3Z7 => k_asm); (case k4Z7 => k_asm); (case k5Z7 => k_asm); (case kKZ7 => first | exact rfl | assumption); (case kPZ7 => exact True.intro); (case hvZ7 => exact VecAt.mono (by with_reducible assumption) (by intro p hp; k_mem)); (case h1Z7 => k_mem); (case h2Z7 => with_reducible assumption); (case h3Z7 => with_reducible assumption); (case h4Z7 => exact VecAt.mono (by with_reducible assumption) (by intro p hp; k_mem)); (case h5Z7 => k_mem); (case hlZ7 => first | exact lt_eq (by with_reducible assumption) (by with_reducible assumption) rfl | exact lt_lt (by with_reducible assumption) rfl | exact lt_el (by with_reducible assumption) (by with_reducible assumption) rfl | exact lt_le (by with_reducible assumption) rfl | omega); (case kdZ7 => ktr_room); (case kuZ7 => first | exact hU 5 rfl | ktr_units); intro D' c' h' tk' F' N' y'); (try simp only [List.cons_append, List.nil_append] at N'); (try dsimp only); (try k_fold))
    k_with "getAttr ref" => (k_here; (with_reducible show wpAny _ _ (getAttr (Value.ref _) (Str.ofString "kind") _) _ _ _); k_dflt (refine' get_kind ?g1Z7 ?g2Z7 ?g3Z7 ?g4Z7 ?g5Z7 ?_; (case g1Z7 => with_reducible assumption); (case g5Z7 => k_asm); (case g2Z7 => (intro p hp; k_mem)); (case g3Z7 => k_asm); (case g4Z7 => k_asm)); intro tg')
    k_with "getAttr ref" => (k_here; (with_reducible show wpAny _ _ (getAttr (Value.ref _) (Str.ofString "attrs") _) _ _ _); k_dflt (refine' get_attrs ?g1Z7 ?g2Z7 ?g3Z7 ?g4Z7 ?g5Z7 ?g6Z7 ?_; (case g1Z7 => with_reducible assumption); (case g5Z7 => k_asm); (case g2Z7 => (intro p hp; k_mem)); (case g3Z7 => k_asm); (case g4Z7 => k_asm); (case g6Z7 => k_handed)))
    k_with "getAttr ref" => (k_here; (with_reducible show wpAny _ _ (getAttr (Value.ref _) (Str.ofString "items") _) _ _ _); k_dflt (refine' get_items ?g1Z7 ?g2Z7 ?g3Z7 ?g4Z7 ?g5Z7 ?_; (case g1Z7 => with_reducible assumption); (case g5Z7 => k_asm); (case g2Z7 => (intro p hp; k_mem)); (case g3Z7 => k_asm); (case g4Z7 => k_asm)))
    obtain ⟨ckind, cnames, cgen, cco, cmore⟩ := cs
    dsimp only at hk
    subst hk
    refine wpAny_call ?_
    k_dflt k_enter
    k_steps
    rename Fr _ _ _ _ => kF9
    rename News h₀ L _ _ => kN9
    exact end_copy hret (by assumption) kN9 (by k_mem) (by intro p hp; k_mem) (by first | exact allLt_ne' (by assumption) | exact allLt_ne' (allLt_of (by assumption)) | exact off1_mem (by assumption))
end
section
open PySem.Calls
set_option maxHeartbeats 600000 in
theorem dims_k (w mean mg mb news) (x D : Addr) (attrs : Value) (nm : Option (List Dat)) (hv : VecAt w news x (Str.ofString "double") D attrs) (hn : NamesAt w news attrs nm) :
    Tell 3 w mean mg mb anyB 482 [.ref x] news (fun r tl => r = .none ∧ tl = []) := by
  cases hn with
  | none =>
    refine tell_mk ?_
    intro dp un gd cn cs a ccd cl outer A₀ base h₀ L m s Q E PB B F X N T hk hdp hun hU hret
    k_with_none
    k_with "FinE" => (((unfold LCg.FinE); intro D' h' tk' F' N' o1'; (try simp only [off1_app, LCg.Off1, and_true, and_assoc] at o1'); (repeat (have hOf9 := And.left o1'; replace o1' := And.right o1')); (try simp only [List.nil_append, List.cons_append] at N'); (try dsimp only)))
    k_with "FinA" => (((unfold LCg.FinA); intro D' h' tk' F' N' o1'; (try simp only [off1_app, LCg.Off1, and_true, and_assoc] at o1'); (repeat (have hOf9 := And.left o1'; replace o1' := And.right o1')); (try simp only [List.nil_append, List.cons_append] at N'); (try dsimp only)))
    k_with "call type:list" => ((k_here; (with_reducible show wpAny _ _ (call (Value.type _) [Value.ref _]) _ _ _); k_dflt (refine' list_copyK ?FZ7 ?NZ7 (News.isList ?N2Z7 ?bZ7) ?_ ?zZ7; (case FZ7 => k_asm); (case NZ7 => k_asm); (case N2Z7 => k_asm); (case bZ7 => k_mem); (case zZ7 => rw [PySem.sizeLine_eq]; simp only [List.size_toArray, List.length_cons, List.length_nil]; first | exact sz_el (by with_reducible assumption) (by with_reducible assumption) rfl | exact sz_ll (by with_reducible assumption) (by with_reducible assumption) rfl | exact sz_lt (by with_reducible assumption) rfl | exact sz_le (by with_reducible assumption) rfl | exact sz_eq (by with_reducible assumption) (by with_reducible assumption) rfl | exact Nat.le_of_ble_eq_true rfl | omega)); intro D' c' h' F' N' l1; (try k_lt l1); (try k_sweep)))
    k_with "call builtin:isinstance" => ((k_here; k_dflt (refine' isi_call ?k1Z7 ?k2Z7 ?k3Z7 ?k4Z7 ?_; (case k1Z7 => k_in); (case k2Z7 => (intro M; exact InstAt.type (by k_inst))); (case k3Z7 => k_is); (case k4Z7 => intro e; cases e); k_whole)))
    k_with "getMethod ref" => ((k_here; (with_reducible show wpAny _ _ (getMethod (Value.ref _) (Str.ofString "get") _) _ _ _); k_dflt (refine kdg_method (knd := PySem.strKind _ _) (by k_asm) (by k_mem) (by k_asm) ?_)))
    k_with "call builtin:dict.get" => ((k_here; k_dflt (first
      | refine kdg_get1 (knd := PySem.strKind _ _) (by k_asm) (by k_mem) (by k_asm) (by k_asm) (strKind_is _ _ _ _) (some _) (by rfl) ?_
      | refine kdg_get1 (knd := PySem.strKind _ _) (by k_asm) (by k_mem) (by k_asm) (by k_asm) (strKind_is _ _ _ _) none (by rfl) ?_); (try dsimp only [Option.getD])))
    k_with "compareOp In str ref" => ((k_here; k_dflt (first
      | refine kda_in (knd := PySem.strKind _ _) (by k_asm) (by k_mem) (by k_asm) (by k_asm) (strKind_is _ _ _ _) true (by rfl) ?_
      | refine kda_in (knd := PySem.strKind _ _) (by k_asm) (by k_mem) (by k_asm) (by k_asm) (strKind_is _ _ _ _) false (by rfl) ?_)))
    k_with "compareOp NotIn str ref" => ((k_here; k_dflt (first
      | refine kdg_notin (knd := PySem.strKind _ _) (by k_asm) (by k_mem) (by k_asm) (by k_asm) (strKind_is _ _ _ _) true (by rfl) ?_
      | refine kdg_notin (knd := PySem.strKind _ _) (by k_asm) (by k_mem) (by k_asm) (by k_asm) (strKind_is _ _ _ _) false (by rfl) ?_); (try dsimp only [Bool.not_true, Bool.not_false])))
    k_with "subscriptTail" => ((k_here; (with_reducible show wpAny _ _ (subscriptTail _ _ (Value.ref _) (Value.str _ _)) _ _ _); k_dflt (first
      | refine kda_item (knd := PySem.strKind _ _) (by k_asm) (by k_mem) (by k_asm) (strKind_is _ _ _ _) (by rfl) ?_
      | refine kdt_tail (knd := PySem.strKind _ _) (by k_asm) (by k_mem) (by k_asm) ?_)))
    k_with "getItem ref str" => ((k_here; k_dflt (refine kdt_getItem (knd := PySem.strKind _ _) (by k_asm) (by k_mem) (by k_asm) (strKind_is _ _ _ _) (by rfl) ?_)))
    k_with "setItem ref str" => ((k_here; k_dflt (refine' kda_set (knd := PySem.strKind _ _) ?FZ7 ?NZ7 ?UZ7 ?dZ7 (strKind_is _ _ _ _) ?zZ7 ?_; (case FZ7 => k_asm); (case NZ7 => k_asm); (case UZ7 => k_updF); (case dZ7 => k_asm); (case zZ7 => rw [sizeLine_eq]; exact Nat.le_of_ble_eq_true (by with_unfolding_all rfl))); intro h' o' F' N' hd'; (try dsimp only at N')))
    k_with "call builtin:len" => ((k_here; (with_reducible show wpAny _ _ (call (Value.builtin "len") [Value.ref _]) _ _ _); k_dflt (refine' len_mem ?NZ7 ?bZ7 ?zZ7 ?_; (case NZ7 => k_asm); (case bZ7 => k_mem); (case zZ7 => omega))))
    k_with "eval ListComp" => ((k_here; k_dflt (refine LCg.ListComp_U (F₀ := by k_asm) (by with_unfolding_all rfl) (by decide) (by rfl) (by decide) (by rfl) ?_)))
    k_with "exec Assign cons ListComp" => ((k_here; k_dflt (refine LCg.Assign_ListComp_U (F₀ := by k_asm) (by rfl) (by with_unfolding_all rfl) (by with_unfolding_all rfl) (by decide) (by rfl) (by decide) (by rfl) (by rfl) (by rfl) ?_)))
    k_with "CompSrc" => ((k_here; (try k_fmods); k_dflt (refine LCg.CompSrc.range (by rfl) (by k_asm) (by k_asm) (by assumption) (by first | (with_reducible refine small_nat ?sm9; (case sm9 => first | exact lt_eq (by with_reducible assumption) (by with_reducible assumption) rfl | exact lt_lt (by with_reducible assumption) rfl | exact lt_el (by with_reducible assumption) (by with_reducible assumption) rfl | exact lt_le (by with_reducible assumption) rfl | omega)) | exact small_one (by kcf_bnd) (by kcf_bnd) (by kcf_bnd) (by kcf_bnd) | decide) (by first | exact rangeSize_nat _ _ | rfl) (by rw [PySem.sizeLine_eq]; first | exact sz_lt (by with_reducible assumption) rfl | exact sz_le (by with_reducible assumption) rfl | omega | (simp only [List.size_toArray]; omega)) ?_; intro g'; k_extra "my comp")))
    k_with "exec For Name" => ((k_here; (rename Fr _ _ _ _ => lF'); (with_unfolding_all refine' For_invVF lF' ?k1Z7 ?k2Z7 ?_; (case k1Z7 => exact rfl); (case k2Z7 => exact rfl); k_whole)))
    k_with "exec For Name Call cons nil" => ((k_here; (rename Fr _ _ _ _ => lF'); (with_unfolding_all refine' For_invVF lF' ?k1Z7 ?k2Z7 ?_; (case k1Z7 => exact rfl); (case k2Z7 => exact rfl); k_whole)))
    k_with "exec For Name Name cons nil" => ((k_here; (rename Fr _ _ _ _ => lF'); (with_unfolding_all refine' For_invVF lF' ?k1Z7 ?k2Z7 ?_; (case k1Z7 => exact rfl); (case k2Z7 => exact rfl); k_whole)))
    k_with "pyIter ref" => ((k_here; k_dflt k_extra "my loop"))
    k_with "LpPost" => ((dsimp only [LpPost]))
    k_with "call builtin:list.append" => ((k_here; k_dflt (refine' append_K ?k1Z7 ?k2Z7 ?k3Z7 ?_ ?zZ7; (case k1Z7 => k_asm); (case k2Z7 => k_asm); (case k3Z7 => k_upd); (case zZ7 => rw [PySem.sizeLine_eq]; simp only [List.size_toArray, List.length_append, List.length_cons, List.length_nil]; first | exact sz_el (by with_reducible assumption) (by with_reducible assumption) rfl | exact sz_ll (by with_reducible assumption) (by with_reducible assumption) rfl | exact sz_lt (by with_reducible assumption) rfl | exact sz_le (by with_reducible assumption) rfl | exact sz_eq (by with_reducible assumption) (by with_reducible assumption) rfl | exact Nat.le_of_ble_eq_true rfl | omega); k_whole); intro h' F' N'; (try k_sweep)))
    k_with "call type:range" => (((rename Fr _ _ _ _ => F'); (rename News _ _ _ _ => N'); first
      | (with_unfolding_all refine range1_rows F' N' ?_; intro _ _ _ _ _ _ _ _ _)
      | (with_unfolding_all refine range2_rows F' N' ?_; intro _ _ _ _ _ _ _ _ _)))
    k_with "getAttr ref" => (k_here; (with_reducible show wpAny _ _ (getAttr (Value.ref _) (Str.ofString "kind") _) _ _ _); k_dflt (refine' get_kind ?g1Z7 ?g2Z7 ?g3Z7 ?g4Z7 ?g5Z7 ?_; (case g1Z7 => with_reducible assumption); (case g5Z7 => k_asm); (case g2Z7 => (intro p hp; k_mem)); (case g3Z7 => k_asm); (case g4Z7 => k_asm)); intro tg')
    k_with "getAttr ref" => (k_here; (with_reducible show wpAny _ _ (getAttr (Value.ref _) (Str.ofString "attrs") _) _ _ _); k_dflt (refine' get_attrs ?g1Z7 ?g2Z7 ?g3Z7 ?g4Z7 ?g5Z7 ?g6Z7 ?_; (case g1Z7 => with_reducible assumption); (case g5Z7 => k_asm); (case g2Z7 => (intro p hp; k_mem)); (case g3Z7 => k_asm); (case g4Z7 => k_asm); (case g6Z7 => k_handed)))
    k_with "getAttr ref" => (k_here; (with_reducible show wpAny _ _ (getAttr (Value.ref _) (Str.ofString "items") _) _ _ _); k_dflt (refine' get_items ?g1Z7 ?g2Z7 ?g3Z7 ?g4Z7 ?g5Z7 ?_; (case g1Z7 => with_reducible assumption); (case g5Z7 => k_asm); (case g2Z7 => (intro p hp; k_mem)); (case g3Z7 => k_asm); (case g4Z7 => k_asm)))
    obtain ⟨ckind, cnames, cgen, cco, cmore⟩ := cs
    dsimp only at hk
    subst hk
    refine wpAny_call ?_
    k_dflt k_enter
    k_steps
    rename Fr _ _ _ _ => kF9
    rename News h₀ L _ _ => kN9
    exact tell_end hret [] kF9 kN9 (fun p hp => hp) (Apart.nil _) ⟨rfl, rfl⟩
  | @some ad nx nD o nvs nc ds h1 h2 h3 h4 h5 h6 =>
    refine tell_mk ?_
    intro dp un gd cn cs a ccd cl outer A₀ base h₀ L m s Q E PB B F X N T hk hdp hun hU hret
    k_with_none
    k_with "FinE" => (((unfold LCg.FinE); intro D' h' tk' F' N' o1'; (try simp only [off1_app, LCg.Off1, and_true, and_assoc] at o1'); (repeat (have hOf9 := And.left o1'; replace o1' := And.right o1')); (try simp only [List.nil_append, List.cons_append] at N'); (try dsimp only)))
    k_with "FinA" => (((unfold LCg.FinA); intro D' h' tk' F' N' o1'; (try simp only [off1_app, LCg.Off1, and_true, and_assoc] at o1'); (repeat (have hOf9 := And.left o1'; replace o1' := And.right o1')); (try simp only [List.nil_append, List.cons_append] at N'); (try dsimp only)))
    k_with "call type:list" => ((k_here; (with_reducible show wpAny _ _ (call (Value.type _) [Value.ref _]) _ _ _); k_dflt (refine' list_copyK ?FZ7 ?NZ7 (News.isList ?N2Z7 ?bZ7) ?_ ?zZ7; (case FZ7 => k_asm); (case NZ7 => k_asm); (case N2Z7 => k_asm); (case bZ7 => k_mem); (case zZ7 => rw [PySem.sizeLine_eq]; simp only [List.size_toArray, List.length_cons, List.length_nil]; first | exact sz_el (by with_reducible assumption) (by with_reducible assumption) rfl | exact sz_ll (by with_reducible assumption) (by with_reducible assumption) rfl | exact sz_lt (by with_reducible assumption) rfl | exact sz_le (by with_reducible assumption) rfl | exact sz_eq (by with_reducible assumption) (by with_reducible assumption) rfl | exact Nat.le_of_ble_eq_true rfl | omega)); intro D' c' h' F' N' l1; (try k_lt l1); (try k_sweep)))
    k_with "call builtin:isinstance" => ((k_here; k_dflt (refine' isi_call ?k1Z7 ?k2Z7 ?k3Z7 ?k4Z7 ?_; (case k1Z7 => k_in); (case k2Z7 => (intro M; exact InstAt.type (by k_inst))); (case k3Z7 => k_is); (case k4Z7 => intro e; cases e); k_whole)))
    k_with "getMethod ref" => ((k_here; (with_reducible show wpAny _ _ (getMethod (Value.ref _) (Str.ofString "get") _) _ _ _); k_dflt (refine kdg_method (knd := PySem.strKind _ _) (by k_asm) (by k_mem) (by k_asm) ?_)))
    k_with "call builtin:dict.get" => ((k_here; k_dflt (first
      | refine kdg_get1 (knd := PySem.strKind _ _) (by k_asm) (by k_mem) (by k_asm) (by k_asm) (strKind_is _ _ _ _) (some _) (by rfl) ?_
      | refine kdg_get1 (knd := PySem.strKind _ _) (by k_asm) (by k_mem) (by k_asm) (by k_asm) (strKind_is _ _ _ _) none (by rfl) ?_); (try dsimp only [Option.getD])))
    k_with "compareOp In str ref" => ((k_here; k_dflt (first
      | refine kda_in (knd := PySem.strKind _ _) (by k_asm) (by k_mem) (by k_asm) (by k_asm) (strKind_is _ _ _ _) true (by rfl) ?_
      | refine kda_in (knd := PySem.strKind _ _) (by k_asm) (by k_mem) (by k_asm) (by k_asm) (strKind_is _ _ _ _) false (by rfl) ?_)))
    k_with "compareOp NotIn str ref" => ((k_here; k_dflt (first
      | refine kdg_notin (knd := PySem.strKind _ _) (by k_asm) (by k_mem) (by k_asm) (by k_asm) (strKind_is _ _ _ _) true (by rfl) ?_
      | refine kdg_notin (knd := PySem.strKind _ _) (by k_asm) (by k_mem) (by k_asm) (by k_asm) (strKind_is _ _ _ _) false (by rfl) ?_); (try dsimp only [Bool.not_true, Bool.not_false])))
    k_with "subscriptTail" => ((k_here; (with_reducible show wpAny _ _ (subscriptTail _ _ (Value.ref _) (Value.str _ _)) _ _ _); k_dflt (first
      | refine kda_item (knd := PySem.strKind _ _) (by k_asm) (by k_mem) (by k_asm) (strKind_is _ _ _ _) (by rfl) ?_
      | refine kdt_tail (knd := PySem.strKind _ _) (by k_asm) (by k_mem) (by k_asm) ?_)))
    k_with "getItem ref str" => ((k_here; k_dflt (refine kdt_getItem (knd := PySem.strKind _ _) (by k_asm) (by k_mem) (by k_asm) (strKind_is _ _ _ _) (by rfl) ?_)))
    k_with "setItem ref str" => ((k_here; k_dflt (refine' kda_set (knd := PySem.strKind _ _) ?FZ7 ?NZ7 ?UZ7 ?dZ7 (strKind_is _ _ _ _) ?zZ7 ?_; (case FZ7 => k_asm); (case NZ7 => k_asm); (case UZ7 => k_updF); (case dZ7 => k_asm); (case zZ7 => rw [sizeLine_eq]; exact Nat.le_of_ble_eq_true (by with_unfolding_all rfl))); intro h' o' F' N' hd'; (try dsimp only at N')))
    k_with "call builtin:len" => ((k_here; (with_reducible show wpAny _ _ (call (Value.builtin "len") [Value.ref _]) _ _ _); k_dflt (refine' len_mem ?NZ7 ?bZ7 ?zZ7 ?_; (case NZ7 => k_asm); (case bZ7 => k_mem); (case zZ7 => omega))))
    k_with "eval ListComp" => ((k_here; k_dflt (refine LCg.ListComp_U (F₀ := by k_asm) (by with_unfolding_all rfl) (by decide) (by rfl) (by decide) (by rfl) ?_)))
    k_with "exec Assign cons ListComp" => ((k_here; k_dflt (refine LCg.Assign_ListComp_U (F₀ := by k_asm) (by rfl) (by with_unfolding_all rfl) (by with_unfolding_all rfl) (by decide) (by rfl) (by decide) (by rfl) (by rfl) (by rfl) ?_)))
    k_with "CompSrc" => ((k_here; (try k_fmods); k_dflt (refine LCg.CompSrc.range (by rfl) (by k_asm) (by k_asm) (by assumption) (by first | (with_reducible refine small_nat ?sm9; (case sm9 => first | exact lt_eq (by with_reducible assumption) (by with_reducible assumption) rfl | exact lt_lt (by with_reducible assumption) rfl | exact lt_el (by with_reducible assumption) (by with_reducible assumption) rfl | exact lt_le (by with_reducible assumption) rfl | omega)) | exact small_one (by kcf_bnd) (by kcf_bnd) (by kcf_bnd) (by kcf_bnd) | decide) (by first | exact rangeSize_nat _ _ | rfl) (by rw [PySem.sizeLine_eq]; first | exact sz_lt (by with_reducible assumption) rfl | exact sz_le (by with_reducible assumption) rfl | omega | (simp only [List.size_toArray]; omega)) ?_; intro g'; k_extra "my comp")))
    k_with "exec For Name" => ((k_here; (rename Fr _ _ _ _ => lF'); (with_unfolding_all refine' For_invVF lF' ?k1Z7 ?k2Z7 ?_; (case k1Z7 => exact rfl); (case k2Z7 => exact rfl); k_whole)))
    k_with "exec For Name Call cons nil" => ((k_here; (rename Fr _ _ _ _ => lF'); (with_unfolding_all refine' For_invVF lF' ?k1Z7 ?k2Z7 ?_; (case k1Z7 => exact rfl); (case k2Z7 => exact rfl); k_whole)))
    k_with "exec For Name Name cons nil" => ((k_here; (rename Fr _ _ _ _ => lF'); (with_unfolding_all refine' For_invVF lF' ?k1Z7 ?k2Z7 ?_; (case k1Z7 => exact rfl); (case k2Z7 => exact rfl); k_whole)))
    k_with "pyIter ref" => ((k_here; k_dflt k_extra "my loop"))
    k_with "LpPost" => ((dsimp only [LpPost]))
    k_with "call builtin:list.append" => ((k_here; k_dflt (refine' append_K ?k1Z7 ?k2Z7 ?k3Z7 ?_ ?zZ7; (case k1Z7 => k_asm); (case k2Z7 => k_asm); (case k3Z7 => k_upd); (case zZ7 => rw [PySem.sizeLine_eq]; simp only [List.size_toArray, List.length_append, List.length_cons, List.length_nil]; first | exact sz_el (by with_reducible assumption) (by with_reducible assumption) rfl | exact sz_ll (by with_reducible assumption) (by with_reducible assumption) rfl | exact sz_lt (by with_reducible assumption) rfl | exact sz_le (by with_reducible assumption) rfl | exact sz_eq (by with_reducible assumption) (by with_reducible assumption) rfl | exact Nat.le_of_ble_eq_true rfl | omega); k_whole); intro h' F' N'; (try k_sweep)))
    k_with "call type:range" => (((rename Fr _ _ _ _ => F'); (rename News _ _ _ _ => N'); first
      | (with_unfolding_all refine range1_rows F' N' ?_; intro _ _ _ _ _ _ _ _ _)
      | (with_unfolding_all refine range2_rows F' N' ?_; intro _ _ _ _ _ _ _ _ _)))
    k_with "getAttr ref" => (k_here; (with_reducible show wpAny _ _ (getAttr (Value.ref _) (Str.ofString "kind") _) _ _ _); k_dflt (refine' get_kind ?g1Z7 ?g2Z7 ?g3Z7 ?g4Z7 ?g5Z7 ?_; (case g1Z7 => with_reducible assumption); (case g5Z7 => k_asm); (case g2Z7 => (intro p hp; k_mem)); (case g3Z7 => k_asm); (case g4Z7 => k_asm)); intro tg')
    k_with "getAttr ref" => (k_here; (with_reducible show wpAny _ _ (getAttr (Value.ref _) (Str.ofString "attrs") _) _ _ _); k_dflt (refine' get_attrs ?g1Z7 ?g2Z7 ?g3Z7 ?g4Z7 ?g5Z7 ?g6Z7 ?_; (case g1Z7 => with_reducible assumption); (case g5Z7 => k_asm); (case g2Z7 => (intro p hp; k_mem)); (case g3Z7 => k_asm); (case g4Z7 => k_asm); (case g6Z7 => k_handed)))
    k_with "getAttr ref" => (k_here; (with_reducible show wpAny _ _ (getAttr (Value.ref _) (Str.ofString "items") _) _ _ _); k_dflt (refine' get_items ?g1Z7 ?g2Z7 ?g3Z7 ?g4Z7 ?g5Z7 ?_; (case g1Z7 => with_reducible assumption); (case g5Z7 => k_asm); (case g2Z7 => (intro p hp; k_mem)); (case g3Z7 => k_asm); (case g4Z7 => k_asm)))
    obtain ⟨ckind, cnames, cgen, cco, cmore⟩ := cs
    dsimp only at hk
    subst hk
    refine wpAny_call ?_
    k_dflt k_enter
    k_steps
    rename Fr _ _ _ _ => kF9
    rename News h₀ L _ _ => kN9
    exact tell_end hret [] kF9 kN9 (fun p hp => hp) (Apart.nil _) ⟨rfl, rfl⟩
theorem drop_one {e c : Addr × Obj} {news : Led} : ∀ p ∈ [e] ++ news, p ∈ e :: c :: news := fun p hp => by
  rcases List.mem_append.mp hp with hp | hp
  · rw [List.mem_singleton.mp hp]; exact .head _
  · exact .tail _ (.tail _ hp)
/-- the names of a vector, as the list of one entry that outer_names gives -/
abbrev OutON (news : Led) (nm : Option (List Dat)) : Value → Led → Prop := fun r tl => ∃ D v c n, r = .ref D ∧ tl = [(D, listOf [v].toArray c)] ∧ NmV news v n ∧ NmR n nm
theorem use_on {k : Nat} {w : World} {mean : ExcName → Option Value} {mg mb : Str → Option Value} {PB : Heap → Prop} {f : Addr} {args : List Value} {news : Led} {dp un : Nat} {gd : Option (List Code)} {cn : Str} {cs : Scope} {a : Addr} {ccd : Value} {cl : List (Str × Addr)} {outer : List Env} {A₀ : Around} {base h₀ : Heap} {L : Addr} {m : Str → Option Value} {s : Shared} {Q E : Value → Shared → Prop} {nm : Option (List Dat)}
    (P : PB base) (B : Below A₀ base outer h₀) (F : Fr h₀ L s.heap m) (X : (fr.heap_1 w.params).In h₀) (N : News h₀ L s.heap news) (T : LTop mean mg mb h₀) (hk : cs.kind = .function) (C : Tell k w mean mg mb PB f args news (OutON news nm)) (hd : dp + k < recursionLimit) (hu : un + 20 * k + 100 < cLine)
    (ret : ∀ (D : Addr) (v : Value) (c : Nat) (n : Option (List Value)) (h' : Heap) (tk' : Nat), Fr h₀ L h' m → News h₀ L h' ([(D, listOf [v].toArray c)] ++ news) → Apart ([(D, listOf [v].toArray c)]) news → NmV news v n → NmR n nm → Q (.ref D) { s with heap := h', toks := tk' }) : wpAny (model LP w) (ktrTop dp un gd cn cs L a ccd cl outer) (call (.ref f) args) Q E s := by
  refine tell_use P B F X N T hk C hd hu ?_
  rintro r tl h' tk' F' N' y' ⟨D, v, c, n, rfl, rfl, q1, q2⟩
  exact ret D v c n h' tk' F' N' y' q1 q2
set_option maxHeartbeats 600000 in
theorem onames_k (w mean mg mb news) (x D : Addr) (attrs : Value) (nm : Option (List Dat)) (hv : VecAt w news x (Str.ofString "double") D attrs) (hn : NamesAt w news attrs nm) (hl2 : ∀ ds, nm = some ds → ds.length < 100) :
    Tell 5 w mean mg mb anyB 561 [.ref x] news (OutON news nm) := by
  have hn0 := hn
  cases hn with
  | none =>
    refine tell_mk ?_
    intro dp un gd cn cs a ccd cl outer A₀ base h₀ L m s Q E PB B F X N T hk hdp hun hU hret
    k_with_none
    k_with "FinE" => (((unfold LCg.FinE); intro D' h' tk' F' N' o1'; (try simp only [off1_app, LCg.Off1, and_true, and_assoc] at o1'); (repeat (have hOf9 := And.left o1'; replace o1' := And.right o1')); (try simp only [List.nil_append, List.cons_append] at N'); (try dsimp only)))
    k_with "FinA" => (((unfold LCg.FinA); intro D' h' tk' F' N' o1'; (try simp only [off1_app, LCg.Off1, and_true, and_assoc] at o1'); (repeat (have hOf9 := And.left o1'; replace o1' := And.right o1')); (try simp only [List.nil_append, List.cons_append] at N'); (try dsimp only)))
    k_with "call type:list" => ((k_here; (with_reducible show wpAny _ _ (call (Value.type _) [Value.ref _]) _ _ _); k_dflt (refine' list_copyK ?FZ7 ?NZ7 (News.isList ?N2Z7 ?bZ7) ?_ ?zZ7; (case FZ7 => k_asm); (case NZ7 => k_asm); (case N2Z7 => k_asm); (case bZ7 => k_mem); (case zZ7 => rw [PySem.sizeLine_eq]; simp only [List.size_toArray, List.length_cons, List.length_nil]; first | exact sz_el (by with_reducible assumption) (by with_reducible assumption) rfl | exact sz_ll (by with_reducible assumption) (by with_reducible assumption) rfl | exact sz_lt (by with_reducible assumption) rfl | exact sz_le (by with_reducible assumption) rfl | exact sz_eq (by with_reducible assumption) (by with_reducible assumption) rfl | exact Nat.le_of_ble_eq_true rfl | omega)); intro D' c' h' F' N' l1; (try k_lt l1); (try k_sweep)))
    k_with "call builtin:isinstance" => ((k_here; k_dflt (refine' isi_call ?k1Z7 ?k2Z7 ?k3Z7 ?k4Z7 ?_; (case k1Z7 => k_in); (case k2Z7 => (intro M; exact InstAt.type (by k_inst))); (case k3Z7 => k_is); (case k4Z7 => intro e; cases e); k_whole)))
    k_with "getMethod ref" => ((k_here; (with_reducible show wpAny _ _ (getMethod (Value.ref _) (Str.ofString "get") _) _ _ _); k_dflt (refine kdg_method (knd := PySem.strKind _ _) (by k_asm) (by k_mem) (by k_asm) ?_)))
    k_with "call builtin:dict.get" => ((k_here; k_dflt (first
      | refine kdg_get1 (knd := PySem.strKind _ _) (by k_asm) (by k_mem) (by k_asm) (by k_asm) (strKind_is _ _ _ _) (some _) (by rfl) ?_
      | refine kdg_get1 (knd := PySem.strKind _ _) (by k_asm) (by k_mem) (by k_asm) (by k_asm) (strKind_is _ _ _ _) none (by rfl) ?_); (try dsimp only [Option.getD])))
    k_with "compareOp In str ref" => ((k_here; k_dflt (first
      | refine kda_in (knd := PySem.strKind _ _) (by k_asm) (by k_mem) (by k_asm) (by k_asm) (strKind_is _ _ _ _) true (by rfl) ?_
      | refine kda_in (knd := PySem.strKind _ _) (by k_asm) (by k_mem) (by k_asm) (by k_asm) (strKind_is _ _ _ _) false (by rfl) ?_)))
    k_with "compareOp NotIn str ref" => ((k_here; k_dflt (first
      | refine kdg_notin (knd := PySem.strKind _ _) (by k_asm) (by k_mem) (by k_asm) (by k_asm) (strKind_is _ _ _ _) true (by rfl) ?_
      | refine kdg_notin (knd := PySem.strKind _ _) (by k_asm) (by k_mem) (by k_asm) (by k_asm) (strKind_is _ _ _ _) false (by rfl) ?_); (try dsimp only [Bool.not_true, Bool.not_false])))
    k_with "subscriptTail" => ((k_here; (with_reducible show wpAny _ _ (subscriptTail _ _ (Value.ref _) (Value.str _ _)) _ _ _); k_dflt (first
      | refine kda_item (knd := PySem.strKind _ _) (by k_asm) (by k_mem) (by k_asm) (strKind_is _ _ _ _) (by rfl) ?_
      | refine kdt_tail (knd := PySem.strKind _ _) (by k_asm) (by k_mem) (by k_asm) ?_)))
    k_with "getItem ref str" => ((k_here; k_dflt (refine kdt_getItem (knd := PySem.strKind _ _) (by k_asm) (by k_mem) (by k_asm) (strKind_is _ _ _ _) (by rfl) ?_)))
    k_with "setItem ref str" => ((k_here; k_dflt (refine' kda_set (knd := PySem.strKind _ _) ?FZ7 ?NZ7 ?UZ7 ?dZ7 (strKind_is _ _ _ _) ?zZ7 ?_; (case FZ7 => k_asm); (case NZ7 => k_asm); (case UZ7 => k_updF); (case dZ7 => k_asm); (case zZ7 => rw [sizeLine_eq]; exact Nat.le_of_ble_eq_true (by with_unfolding_all rfl))); intro h' o' F' N' hd'; (try dsimp only at N')))
    k_with "call builtin:len" => ((k_here; (with_reducible show wpAny _ _ (call (Value.builtin "len") [Value.ref _]) _ _ _); k_dflt (refine' len_mem ?NZ7 ?bZ7 ?zZ7 ?_; (case NZ7 => k_asm); (case bZ7 => k_mem); (case zZ7 => omega))))
    k_with "eval ListComp" => ((k_here; k_dflt (refine LCg.ListComp_U (F₀ := by k_asm) (by with_unfolding_all rfl) (by decide) (by rfl) (by decide) (by rfl) ?_)))
    k_with "exec Assign cons ListComp" => ((k_here; k_dflt (refine LCg.Assign_ListComp_U (F₀ := by k_asm) (by rfl) (by with_unfolding_all rfl) (by with_unfolding_all rfl) (by decide) (by rfl) (by decide) (by rfl) (by rfl) (by rfl) ?_)))
    k_with "CompSrc" => ((k_here; (try k_fmods); k_dflt (refine LCg.CompSrc.range (by rfl) (by k_asm) (by k_asm) (by assumption) (by first | (with_reducible refine small_nat ?sm9; (case sm9 => first | exact lt_eq (by with_reducible assumption) (by with_reducible assumption) rfl | exact lt_lt (by with_reducible assumption) rfl | exact lt_el (by with_reducible assumption) (by with_reducible assumption) rfl | exact lt_le (by with_reducible assumption) rfl | omega)) | exact small_one (by kcf_bnd) (by kcf_bnd) (by kcf_bnd) (by kcf_bnd) | decide) (by first | exact rangeSize_nat _ _ | rfl) (by rw [PySem.sizeLine_eq]; first | exact sz_lt (by with_reducible assumption) rfl | exact sz_le (by with_reducible assumption) rfl | omega | (simp only [List.size_toArray]; omega)) ?_; intro g'; k_extra "my comp")))
    k_with "exec For Name" => ((k_here; (rename Fr _ _ _ _ => lF'); (with_unfolding_all refine' For_invVF lF' ?k1Z7 ?k2Z7 ?_; (case k1Z7 => exact rfl); (case k2Z7 => exact rfl); k_whole)))
    k_with "exec For Name Call cons nil" => ((k_here; (rename Fr _ _ _ _ => lF'); (with_unfolding_all refine' For_invVF lF' ?k1Z7 ?k2Z7 ?_; (case k1Z7 => exact rfl); (case k2Z7 => exact rfl); k_whole)))
    k_with "exec For Name Name cons nil" => ((k_here; (rename Fr _ _ _ _ => lF'); (with_unfolding_all refine' For_invVF lF' ?k1Z7 ?k2Z7 ?_; (case k1Z7 => exact rfl); (case k2Z7 => exact rfl); k_whole)))
    k_with "pyIter ref" => ((k_here; k_dflt k_extra "my loop"))
    k_with "LpPost" => ((dsimp only [LpPost]))
    k_with "call builtin:list.append" => ((k_here; k_dflt (refine' append_K ?k1Z7 ?k2Z7 ?k3Z7 ?_ ?zZ7; (case k1Z7 => k_asm); (case k2Z7 => k_asm); (case k3Z7 => k_upd); (case zZ7 => rw [PySem.sizeLine_eq]; simp only [List.size_toArray, List.length_append, List.length_cons, List.length_nil]; first | exact sz_el (by with_reducible assumption) (by with_reducible assumption) rfl | exact sz_ll (by with_reducible assumption) (by with_reducible assumption) rfl | exact sz_lt (by with_reducible assumption) rfl | exact sz_le (by with_reducible assumption) rfl | exact sz_eq (by with_reducible assumption) (by with_reducible assumption) rfl | exact Nat.le_of_ble_eq_true rfl | omega); k_whole); intro h' F' N'; (try k_sweep)))
    k_with "call type:range" => (((rename Fr _ _ _ _ => F'); (rename News _ _ _ _ => N'); first
      | (with_unfolding_all refine range1_rows F' N' ?_; intro _ _ _ _ _ _ _ _ _)
      | (with_unfolding_all refine range2_rows F' N' ?_; intro _ _ _ _ _ _ _ _ _)))
    k_with "call ref" => (k_here; (with_reducible show wpAny _ _ (call (Value.ref 482) _) _ _ _); k_dflt (refine' use_none ?kPZ7 ?k1Z7 ?k2Z7 ?k3Z7 ?k4Z7 ?k5Z7 ?kKZ7 (dims_k _ _ _ _ _ _ _ _ _ ?hvZ7 ?hnZ7) ?kdZ7 ?kuZ7 ?_; (case k1Z7 => k_asm); (case k2Z7 => k_asm); (case k3Z7 => k_asm); (case k4Z7 => k_asm); (case k5Z7 => k_asm); (case kKZ7 => first | exact rfl | assumption); (case kPZ7 => exact True.intro); (case hvZ7 => exact VecAt.mono (by with_reducible assumption) (by intro p hp; k_mem)); (case hnZ7 => exact NamesAt.mono (by with_reducible assumption) (by intro p hp; k_mem)); (case kdZ7 => ktr_room); (case kuZ7 => first | exact hU 3 rfl | ktr_units); intro h' tk' F' N'); (try simp only [List.cons_append, List.nil_append] at N'); (try dsimp only); (try k_fold))
    k_with "getAttr ref" => (k_here; (with_reducible show wpAny _ _ (getAttr (Value.ref _) (Str.ofString "kind") _) _ _ _); k_dflt (refine' get_kind ?g1Z7 ?g2Z7 ?g3Z7 ?g4Z7 ?g5Z7 ?_; (case g1Z7 => with_reducible assumption); (case g5Z7 => k_asm); (case g2Z7 => (intro p hp; k_mem)); (case g3Z7 => k_asm); (case g4Z7 => k_asm)); intro tg')
    k_with "getAttr ref" => (k_here; (with_reducible show wpAny _ _ (getAttr (Value.ref _) (Str.ofString "attrs") _) _ _ _); k_dflt (refine' get_attrs ?g1Z7 ?g2Z7 ?g3Z7 ?g4Z7 ?g5Z7 ?g6Z7 ?_; (case g1Z7 => with_reducible assumption); (case g5Z7 => k_asm); (case g2Z7 => (intro p hp; k_mem)); (case g3Z7 => k_asm); (case g4Z7 => k_asm); (case g6Z7 => k_handed)))
    k_with "getAttr ref" => (k_here; (with_reducible show wpAny _ _ (getAttr (Value.ref _) (Str.ofString "items") _) _ _ _); k_dflt (refine' get_items ?g1Z7 ?g2Z7 ?g3Z7 ?g4Z7 ?g5Z7 ?_; (case g1Z7 => with_reducible assumption); (case g5Z7 => k_asm); (case g2Z7 => (intro p hp; k_mem)); (case g3Z7 => k_asm); (case g4Z7 => k_asm)))
    obtain ⟨ckind, cnames, cgen, cco, cmore⟩ := cs
    dsimp only at hk
    subst hk
    refine wpAny_call ?_
    first | (k_dflt k_enter) | fail "no entry"
    k_steps
    rename Fr _ _ _ _ => kF9
    rename News h₀ L _ _ => kN9
    refine' tell_end hret [(_, _)] kF9 kN9 ?s9 (Apart.c ?y9 (Apart.nil _)) ⟨_, _, 0, none, rfl, rfl, .none, True.intro⟩
    case s9 => exact drop_one
    case y9 => k_all
  | @some ad nx nD o nvs nc ds h1 h2 h3 h4 h5 h6 =>
    have hnl := h6.length
    have hnl2 := hl2 _ rfl
    refine tell_mk ?_
    intro dp un gd cn cs a ccd cl outer A₀ base h₀ L m s Q E PB B F X N T hk hdp hun hU hret
    k_with_none
    k_with "FinE" => (((unfold LCg.FinE); intro D' h' tk' F' N' o1'; (try simp only [off1_app, LCg.Off1, and_true, and_assoc] at o1'); (repeat (have hOf9 := And.left o1'; replace o1' := And.right o1')); (try simp only [List.nil_append, List.cons_append] at N'); (try dsimp only)))
    k_with "FinA" => (((unfold LCg.FinA); intro D' h' tk' F' N' o1'; (try simp only [off1_app, LCg.Off1, and_true, and_assoc] at o1'); (repeat (have hOf9 := And.left o1'; replace o1' := And.right o1')); (try simp only [List.nil_append, List.cons_append] at N'); (try dsimp only)))
    k_with "call type:list" => ((k_here; (with_reducible show wpAny _ _ (call (Value.type _) [Value.ref _]) _ _ _); k_dflt (refine' list_copyK ?FZ7 ?NZ7 (News.isList ?N2Z7 ?bZ7) ?_ ?zZ7; (case FZ7 => k_asm); (case NZ7 => k_asm); (case N2Z7 => k_asm); (case bZ7 => k_mem); (case zZ7 => rw [PySem.sizeLine_eq]; simp only [List.size_toArray, List.length_cons, List.length_nil]; first | exact sz_el (by with_reducible assumption) (by with_reducible assumption) rfl | exact sz_ll (by with_reducible assumption) (by with_reducible assumption) rfl | exact sz_lt (by with_reducible assumption) rfl | exact sz_le (by with_reducible assumption) rfl | exact sz_eq (by with_reducible assumption) (by with_reducible assumption) rfl | exact Nat.le_of_ble_eq_true rfl | omega)); intro D' c' h' F' N' l1; (try k_lt l1); (try k_sweep)))
    k_with "call builtin:isinstance" => ((k_here; k_dflt (refine' isi_call ?k1Z7 ?k2Z7 ?k3Z7 ?k4Z7 ?_; (case k1Z7 => k_in); (case k2Z7 => (intro M; exact InstAt.type (by k_inst))); (case k3Z7 => k_is); (case k4Z7 => intro e; cases e); k_whole)))
    k_with "getMethod ref" => ((k_here; (with_reducible show wpAny _ _ (getMethod (Value.ref _) (Str.ofString "get") _) _ _ _); k_dflt (refine kdg_method (knd := PySem.strKind _ _) (by k_asm) (by k_mem) (by k_asm) ?_)))
    k_with "call builtin:dict.get" => ((k_here; k_dflt (first
      | refine kdg_get1 (knd := PySem.strKind _ _) (by k_asm) (by k_mem) (by k_asm) (by k_asm) (strKind_is _ _ _ _) (some _) (by rfl) ?_
      | refine kdg_get1 (knd := PySem.strKind _ _) (by k_asm) (by k_mem) (by k_asm) (by k_asm) (strKind_is _ _ _ _) none (by rfl) ?_); (try dsimp only [Option.getD])))
    k_with "compareOp In str ref" => ((k_here; k_dflt (first
      | refine kda_in (knd := PySem.strKind _ _) (by k_asm) (by k_mem) (by k_asm) (by k_asm) (strKind_is _ _ _ _) true (by rfl) ?_
      | refine kda_in (knd := PySem.strKind _ _) (by k_asm) (by k_mem) (by k_asm) (by k_asm) (strKind_is _ _ _ _) false (by rfl) ?_)))
    k_with "compareOp NotIn str ref" => ((k_here; k_dflt (first
      | refine kdg_notin (knd := PySem.strKind _ _) (by k_asm) (by k_mem) (by k_asm) (by k_asm) (strKind_is _ _ _ _) true (by rfl) ?_
      | refine kdg_notin (knd := PySem.strKind _ _) (by k_asm) (by k_mem) (by k_asm) (by k_asm) (strKind_is _ _ _ _) false (by rfl) ?_); (try dsimp only [Bool.not_true, Bool.not_false])))
    k_with "subscriptTail" => ((k_here; (with_reducible show wpAny _ _ (subscriptTail _ _ (Value.ref _) (Value.str _ _)) _ _ _); k_dflt (first
      | refine kda_item (knd := PySem.strKind _ _) (by k_asm) (by k_mem) (by k_asm) (strKind_is _ _ _ _) (by rfl) ?_
      | refine kdt_tail (knd := PySem.strKind _ _) (by k_asm) (by k_mem) (by k_asm) ?_)))
    k_with "getItem ref str" => ((k_here; k_dflt (refine kdt_getItem (knd := PySem.strKind _ _) (by k_asm) (by k_mem) (by k_asm) (strKind_is _ _ _ _) (by rfl) ?_)))
    k_with "setItem ref str" => ((k_here; k_dflt (refine' kda_set (knd := PySem.strKind _ _) ?FZ7 ?NZ7 ?UZ7 ?dZ7 (strKind_is _ _ _ _) ?zZ7 ?_; (case FZ7 => k_asm); (case NZ7 => k_asm); (case UZ7 => k_updF); (case dZ7 => k_asm); (case zZ7 => rw [sizeLine_eq]; exact Nat.le_of_ble_eq_true (by with_unfolding_all rfl))); intro h' o' F' N' hd'; (try dsimp only at N')))
    k_with "call builtin:len" => ((k_here; (with_reducible show wpAny _ _ (call (Value.builtin "len") [Value.ref _]) _ _ _); k_dflt (refine' len_mem ?NZ7 ?bZ7 ?zZ7 ?_; (case NZ7 => k_asm); (case bZ7 => k_mem); (case zZ7 => omega))))
    k_with "eval ListComp" => ((k_here; k_dflt (refine LCg.ListComp_U (F₀ := by k_asm) (by with_unfolding_all rfl) (by decide) (by rfl) (by decide) (by rfl) ?_)))
    k_with "exec Assign cons ListComp" => ((k_here; k_dflt (refine LCg.Assign_ListComp_U (F₀ := by k_asm) (by rfl) (by with_unfolding_all rfl) (by with_unfolding_all rfl) (by decide) (by rfl) (by decide) (by rfl) (by rfl) (by rfl) ?_)))
    k_with "CompSrc" => ((k_here; (try k_fmods); k_dflt (refine LCg.CompSrc.range (by rfl) (by k_asm) (by k_asm) (by assumption) (by first | (with_reducible refine small_nat ?sm9; (case sm9 => first | exact lt_eq (by with_reducible assumption) (by with_reducible assumption) rfl | exact lt_lt (by with_reducible assumption) rfl | exact lt_el (by with_reducible assumption) (by with_reducible assumption) rfl | exact lt_le (by with_reducible assumption) rfl | omega)) | exact small_one (by kcf_bnd) (by kcf_bnd) (by kcf_bnd) (by kcf_bnd) | decide) (by first | exact rangeSize_nat _ _ | rfl) (by rw [PySem.sizeLine_eq]; first | exact sz_lt (by with_reducible assumption) rfl | exact sz_le (by with_reducible assumption) rfl | omega | (simp only [List.size_toArray]; omega)) ?_; intro g'; k_extra "my comp")))
    k_with "exec For Name" => ((k_here; (rename Fr _ _ _ _ => lF'); (with_unfolding_all refine' For_invVF lF' ?k1Z7 ?k2Z7 ?_; (case k1Z7 => exact rfl); (case k2Z7 => exact rfl); k_whole)))
    k_with "exec For Name Call cons nil" => ((k_here; (rename Fr _ _ _ _ => lF'); (with_unfolding_all refine' For_invVF lF' ?k1Z7 ?k2Z7 ?_; (case k1Z7 => exact rfl); (case k2Z7 => exact rfl); k_whole)))
    k_with "exec For Name Name cons nil" => ((k_here; (rename Fr _ _ _ _ => lF'); (with_unfolding_all refine' For_invVF lF' ?k1Z7 ?k2Z7 ?_; (case k1Z7 => exact rfl); (case k2Z7 => exact rfl); k_whole)))
    k_with "pyIter ref" => ((k_here; k_dflt k_extra "my loop"))
    k_with "LpPost" => ((dsimp only [LpPost]))
    k_with "call builtin:list.append" => ((k_here; k_dflt (refine' append_K ?k1Z7 ?k2Z7 ?k3Z7 ?_ ?zZ7; (case k1Z7 => k_asm); (case k2Z7 => k_asm); (case k3Z7 => k_upd); (case zZ7 => rw [PySem.sizeLine_eq]; simp only [List.size_toArray, List.length_append, List.length_cons, List.length_nil]; first | exact sz_el (by with_reducible assumption) (by with_reducible assumption) rfl | exact sz_ll (by with_reducible assumption) (by with_reducible assumption) rfl | exact sz_lt (by with_reducible assumption) rfl | exact sz_le (by with_reducible assumption) rfl | exact sz_eq (by with_reducible assumption) (by with_reducible assumption) rfl | exact Nat.le_of_ble_eq_true rfl | omega); k_whole); intro h' F' N'; (try k_sweep)))
    k_with "call type:range" => (((rename Fr _ _ _ _ => F'); (rename News _ _ _ _ => N'); first
      | (with_unfolding_all refine range1_rows F' N' ?_; intro _ _ _ _ _ _ _ _ _)
      | (with_unfolding_all refine range2_rows F' N' ?_; intro _ _ _ _ _ _ _ _ _)))
    k_with "call ref" => (k_here; (with_reducible show wpAny _ _ (call (Value.ref 482) _) _ _ _); k_dflt (refine' use_none ?kPZ7 ?k1Z7 ?k2Z7 ?k3Z7 ?k4Z7 ?k5Z7 ?kKZ7 (dims_k _ _ _ _ _ _ _ _ _ ?hvZ7 ?hnZ7) ?kdZ7 ?kuZ7 ?_; (case k1Z7 => k_asm); (case k2Z7 => k_asm); (case k3Z7 => k_asm); (case k4Z7 => k_asm); (case k5Z7 => k_asm); (case kKZ7 => first | exact rfl | assumption); (case kPZ7 => exact True.intro); (case hvZ7 => exact VecAt.mono (by with_reducible assumption) (by intro p hp; k_mem)); (case hnZ7 => exact NamesAt.mono (by with_reducible assumption) (by intro p hp; k_mem)); (case kdZ7 => ktr_room); (case kuZ7 => first | exact hU 3 rfl | ktr_units); intro h' tk' F' N'); (try simp only [List.cons_append, List.nil_append] at N'); (try dsimp only); (try k_fold))
    k_with "getAttr ref" => (k_here; (with_reducible show wpAny _ _ (getAttr (Value.ref _) (Str.ofString "kind") _) _ _ _); k_dflt (refine' get_kind ?g1Z7 ?g2Z7 ?g3Z7 ?g4Z7 ?g5Z7 ?_; (case g1Z7 => with_reducible assumption); (case g5Z7 => k_asm); (case g2Z7 => (intro p hp; k_mem)); (case g3Z7 => k_asm); (case g4Z7 => k_asm)); intro tg')
    k_with "getAttr ref" => (k_here; (with_reducible show wpAny _ _ (getAttr (Value.ref _) (Str.ofString "attrs") _) _ _ _); k_dflt (refine' get_attrs ?g1Z7 ?g2Z7 ?g3Z7 ?g4Z7 ?g5Z7 ?g6Z7 ?_; (case g1Z7 => with_reducible assumption); (case g5Z7 => k_asm); (case g2Z7 => (intro p hp; k_mem)); (case g3Z7 => k_asm); (case g4Z7 => k_asm); (case g6Z7 => k_handed)))
    k_with "getAttr ref" => (k_here; (with_reducible show wpAny _ _ (getAttr (Value.ref _) (Str.ofString "items") _) _ _ _); k_dflt (refine' get_items ?g1Z7 ?g2Z7 ?g3Z7 ?g4Z7 ?g5Z7 ?_; (case g1Z7 => with_reducible assumption); (case g5Z7 => k_asm); (case g2Z7 => (intro p hp; k_mem)); (case g3Z7 => k_asm); (case g4Z7 => k_asm)))
    obtain ⟨ckind, cnames, cgen, cco, cmore⟩ := cs
    dsimp only at hk
    subst hk
    refine wpAny_call ?_
    first | (k_dflt k_enter) | fail "no entry"
    k_steps
    rename Fr _ _ _ _ => kF9
    rename News h₀ L _ _ => kN9
    refine' tell_end hret [(_, _)] kF9 kN9 ?s9 (Apart.c ?y9 (Apart.nil _)) ⟨_, _, 0, some nvs, rfl, rfl, .some h5 (by omega), h6⟩
    case s9 => exact drop_one
    case y9 => k_all
end
section
open PySem.Calls
theorem use_gcd {k : Nat} {w : World} {mean : ExcName → Option Value} {mg mb : Str → Option Value} {PB : Heap → Prop} {f : Addr} {args : List Value} {news : Led} {dp un : Nat} {gd : Option (List Code)} {cn : Str} {cs : Scope} {a : Addr} {ccd : Value} {cl : List (Str × Addr)} {outer : List Env} {A₀ : Around} {base h₀ : Heap} {L : Addr} {m : Str → Option Value} {s : Shared} {Q E : Value → Shared → Prop} {a0 b0 : Int}
    (P : PB base) (B : Below A₀ base outer h₀) (F : Fr h₀ L s.heap m) (X : (fr.heap_1 w.params).In h₀) (N : News h₀ L s.heap news) (T : LTop mean mg mb h₀) (hk : cs.kind = .function) (C : Tell k w mean mg mb PB f args news (OutGcd a0 b0)) (hd : dp + k < recursionLimit) (hu : un + 20 * k + 100 < cLine)
    (ret : ∀ (g : Int) (t : Tok) (h' : Heap) (tk' : Nat), Fr h₀ L h' m → News h₀ L h' (([] : Led) ++ news) → 0 < g → g < 1000000 → g = (Int.gcd a0 b0 : Int) → Q (.int g t) { s with heap := h', toks := tk' }) : wpAny (model LP w) (ktrTop dp un gd cn cs L a ccd cl outer) (call (.ref f) args) Q E s := by
  refine tell_use P B F X N T hk C hd hu ?_
  rintro r tl h' tk' F' N' y' ⟨g, t, rfl, rfl, q1, q2, q3⟩
  exact ret g t h' tk' F' N' q1 q2 q3
theorem use_bool {k : Nat} {w : World} {mean : ExcName → Option Value} {mg mb : Str → Option Value} {PB : Heap → Prop} {f : Addr} {args : List Value} {news : Led} {dp un : Nat} {gd : Option (List Code)} {cn : Str} {cs : Scope} {a : Addr} {ccd : Value} {cl : List (Str × Addr)} {outer : List Env} {A₀ : Around} {base h₀ : Heap} {L : Addr} {m : Str → Option Value} {s : Shared} {Q E : Value → Shared → Prop} {b : Bool}
    (P : PB base) (B : Below A₀ base outer h₀) (F : Fr h₀ L s.heap m) (X : (fr.heap_1 w.params).In h₀) (N : News h₀ L s.heap news) (T : LTop mean mg mb h₀) (hk : cs.kind = .function) (C : Tell k w mean mg mb PB f args news (OutBool b)) (hd : dp + k < recursionLimit) (hu : un + 20 * k + 100 < cLine)
    (ret : ∀ (h' : Heap) (tk' : Nat), Fr h₀ L h' m → News h₀ L h' (([] : Led) ++ news) → Q (.bool b) { s with heap := h', toks := tk' }) : wpAny (model LP w) (ktrTop dp un gd cn cs L a ccd cl outer) (call (.ref f) args) Q E s := by
  refine tell_use P B F X N T hk C hd hu ?_
  rintro r tl h' tk' F' N' y' ⟨rfl, rfl⟩
  exact ret h' tk' F' N'
set_option maxHeartbeats 600000 in
theorem gcd_tell (w mean mg mb news) (a0 b0 : Int) (t1 t2 : Tok) (h0 : 0 ≤ a0) (h1 : 0 < b0) (h2 : a0 < 1000000) (h3 : b0 < 1000000) :
    Tell 2 w mean mg mb anyB 31 [.int a0 t1, .int b0 t2] news (OutGcd a0 b0) := by
  refine tell_mk ?_
  intro dp un gd cn cs a ccd cl outer A₀ base h₀ L m s Q E PB B F X N T hk hdp hun hU hret
  k_with_none
  k_with "FinE" => (((unfold LCg.FinE); intro D' h' tk' F' N' o1'; (try simp only [off1_app, LCg.Off1, and_true, and_assoc] at o1'); (repeat (have hOf9 := And.left o1'; replace o1' := And.right o1')); (try simp only [List.nil_append, List.cons_append] at N'); (try dsimp only)))
  k_with "FinA" => (((unfold LCg.FinA); intro D' h' tk' F' N' o1'; (try simp only [off1_app, LCg.Off1, and_true, and_assoc] at o1'); (repeat (have hOf9 := And.left o1'; replace o1' := And.right o1')); (try simp only [List.nil_append, List.cons_append] at N'); (try dsimp only)))
  k_with "call type:list" => ((k_here; (with_reducible show wpAny _ _ (call (Value.type _) [Value.ref _]) _ _ _); k_dflt (refine' list_copyK ?FZ7 ?NZ7 (News.isList ?N2Z7 ?bZ7) ?_ ?zZ7; (case FZ7 => k_asm); (case NZ7 => k_asm); (case N2Z7 => k_asm); (case bZ7 => k_mem); (case zZ7 => rw [PySem.sizeLine_eq]; simp only [List.size_toArray, List.length_cons, List.length_nil]; first | exact sz_el (by with_reducible assumption) (by with_reducible assumption) rfl | exact sz_ll (by with_reducible assumption) (by with_reducible assumption) rfl | exact sz_lt (by with_reducible assumption) rfl | exact sz_le (by with_reducible assumption) rfl | exact sz_eq (by with_reducible assumption) (by with_reducible assumption) rfl | exact Nat.le_of_ble_eq_true rfl | omega)); intro D' c' h' F' N' l1; (try k_lt l1); (try k_sweep)))
  k_with "call builtin:isinstance" => ((k_here; k_dflt (refine' isi_call ?k1Z7 ?k2Z7 ?k3Z7 ?k4Z7 ?_; (case k1Z7 => k_in); (case k2Z7 => (intro M; exact InstAt.type (by k_inst))); (case k3Z7 => k_is); (case k4Z7 => intro e; cases e); k_whole)))
  k_with "getMethod ref" => ((k_here; (with_reducible show wpAny _ _ (getMethod (Value.ref _) (Str.ofString "get") _) _ _ _); k_dflt (refine kdg_method (knd := PySem.strKind _ _) (by k_asm) (by k_mem) (by k_asm) ?_)))
  k_with "call builtin:dict.get" => ((k_here; k_dflt (first
    | refine kdg_get1 (knd := PySem.strKind _ _) (by k_asm) (by k_mem) (by k_asm) (by k_asm) (strKind_is _ _ _ _) (some _) (by rfl) ?_
    | refine kdg_get1 (knd := PySem.strKind _ _) (by k_asm) (by k_mem) (by k_asm) (by k_asm) (strKind_is _ _ _ _) none (by rfl) ?_); (try dsimp only [Option.getD])))
  k_with "compareOp In str ref" => ((k_here; k_dflt (first
    | refine kda_in (knd := PySem.strKind _ _) (by k_asm) (by k_mem) (by k_asm) (by k_asm) (strKind_is _ _ _ _) true (by rfl) ?_
    | refine kda_in (knd := PySem.strKind _ _) (by k_asm) (by k_mem) (by k_asm) (by k_asm) (strKind_is _ _ _ _) false (by rfl) ?_)))
  k_with "compareOp NotIn str ref" => ((k_here; k_dflt (first
    | refine kdg_notin (knd := PySem.strKind _ _) (by k_asm) (by k_mem) (by k_asm) (by k_asm) (strKind_is _ _ _ _) true (by rfl) ?_
    | refine kdg_notin (knd := PySem.strKind _ _) (by k_asm) (by k_mem) (by k_asm) (by k_asm) (strKind_is _ _ _ _) false (by rfl) ?_); (try dsimp only [Bool.not_true, Bool.not_false])))
  k_with "subscriptTail" => ((k_here; (with_reducible show wpAny _ _ (subscriptTail _ _ (Value.ref _) (Value.str _ _)) _ _ _); k_dflt (first
    | refine kda_item (knd := PySem.strKind _ _) (by k_asm) (by k_mem) (by k_asm) (strKind_is _ _ _ _) (by rfl) ?_
    | refine kdt_tail (knd := PySem.strKind _ _) (by k_asm) (by k_mem) (by k_asm) ?_)))
  k_with "getItem ref str" => ((k_here; k_dflt (refine kdt_getItem (knd := PySem.strKind _ _) (by k_asm) (by k_mem) (by k_asm) (strKind_is _ _ _ _) (by rfl) ?_)))
  k_with "setItem ref str" => ((k_here; k_dflt (refine' kda_set (knd := PySem.strKind _ _) ?FZ7 ?NZ7 ?UZ7 ?dZ7 (strKind_is _ _ _ _) ?zZ7 ?_; (case FZ7 => k_asm); (case NZ7 => k_asm); (case UZ7 => k_updF); (case dZ7 => k_asm); (case zZ7 => rw [sizeLine_eq]; exact Nat.le_of_ble_eq_true (by with_unfolding_all rfl))); intro h' o' F' N' hd'; (try dsimp only at N')))
  k_with "call builtin:len" => ((k_here; (with_reducible show wpAny _ _ (call (Value.builtin "len") [Value.ref _]) _ _ _); k_dflt (refine' len_mem ?NZ7 ?bZ7 ?zZ7 ?_; (case NZ7 => k_asm); (case bZ7 => k_mem); (case zZ7 => omega))))
  k_with "eval ListComp" => ((k_here; k_dflt (refine LCg.ListComp_U (F₀ := by k_asm) (by with_unfolding_all rfl) (by decide) (by rfl) (by decide) (by rfl) ?_)))
  k_with "exec Assign cons ListComp" => ((k_here; k_dflt (refine LCg.Assign_ListComp_U (F₀ := by k_asm) (by rfl) (by with_unfolding_all rfl) (by with_unfolding_all rfl) (by decide) (by rfl) (by decide) (by rfl) (by rfl) (by rfl) ?_)))
  k_with "CompSrc" => ((k_here; (try k_fmods); k_dflt (refine LCg.CompSrc.range (by rfl) (by k_asm) (by k_asm) (by assumption) (by first | (with_reducible refine small_nat ?sm9; (case sm9 => first | exact lt_eq (by with_reducible assumption) (by with_reducible assumption) rfl | exact lt_lt (by with_reducible assumption) rfl | exact lt_el (by with_reducible assumption) (by with_reducible assumption) rfl | exact lt_le (by with_reducible assumption) rfl | omega)) | exact small_one (by kcf_bnd) (by kcf_bnd) (by kcf_bnd) (by kcf_bnd) | decide) (by first | exact rangeSize_nat _ _ | rfl) (by rw [PySem.sizeLine_eq]; first | exact sz_lt (by with_reducible assumption) rfl | exact sz_le (by with_reducible assumption) rfl | omega | (simp only [List.size_toArray]; omega)) ?_; intro g'; k_extra "my comp")))
  k_with "binaryOp Mult int int" => ((k_here; (with_reducible refine mul_int ?kmmZ7 (IntMulOk.of_left (intBits_le_64 ?kmaZ7 ?kmbZ7))); (case kmaZ7 => omega); (case kmbZ7 => omega)))
  k_with "binaryOp FloorDiv int int" => ((k_here; (with_reducible refine floordiv_int ?kbeZ7 ?_ (Or.inl (PyProof.noPylong_small ?kbpZ7))); (case kbeZ7 => omega); (case kbpZ7 => omega)))
  k_with "exec While Compare cons nil" => k_while (fun _ a b => 0 ≤ a ∧ 0 ≤ b ∧ 0 < a + b ∧ a < 1000000 ∧ b < 1000000 ∧ Int.gcd a b = Int.gcd a0 b0) (fun _ a b => b.toNat) "a" "b"
  k_with "state" => exact gcd_step (by assumption) (by assumption) (by assumption) (by assumption) (by omega)
  k_with "state" => exact ⟨h0, by omega, by omega, h2, h3, rfl⟩
  k_with "measure" => exact gcd_less (by assumption) (by omega)
  obtain ⟨ckind, cnames, cgen, cco, cmore⟩ := cs
  dsimp only at hk
  subst hk
  refine wpAny_call ?_
  first | (k_dflt k_enter) | fail "no entry"
  k_steps
  exact end_gcd hret (by assumption) (by assumption) (by intro p hp; k_mem) (by assumption) (by assumption) (by omega) (by assumption) (by assumption)
set_option maxHeartbeats 600000 in
theorem isna_tell (w mean mg mb news) (a1 : Addr) (q : Int × Int) (t1 t2 : Tok) (c : Nat) (hm : (a1, tup2 q t1 t2 c) ∈ news) (h0 : 0 < q.2) :
    Tell 2 w mean mg mb anyB 52 [.ref a1] news (OutBool false) := by
  refine tell_mk ?_
  intro dp un gd cn cs a ccd cl outer A₀ base h₀ L m s Q E PB B F X N T hk hdp hun hU hret
  k_with_none
  k_with "FinE" => (((unfold LCg.FinE); intro D' h' tk' F' N' o1'; (try simp only [off1_app, LCg.Off1, and_true, and_assoc] at o1'); (repeat (have hOf9 := And.left o1'; replace o1' := And.right o1')); (try simp only [List.nil_append, List.cons_append] at N'); (try dsimp only)))
  k_with "FinA" => (((unfold LCg.FinA); intro D' h' tk' F' N' o1'; (try simp only [off1_app, LCg.Off1, and_true, and_assoc] at o1'); (repeat (have hOf9 := And.left o1'; replace o1' := And.right o1')); (try simp only [List.nil_append, List.cons_append] at N'); (try dsimp only)))
  k_with "call type:list" => ((k_here; (with_reducible show wpAny _ _ (call (Value.type _) [Value.ref _]) _ _ _); k_dflt (refine' list_copyK ?FZ7 ?NZ7 (News.isList ?N2Z7 ?bZ7) ?_ ?zZ7; (case FZ7 => k_asm); (case NZ7 => k_asm); (case N2Z7 => k_asm); (case bZ7 => k_mem); (case zZ7 => rw [PySem.sizeLine_eq]; simp only [List.size_toArray, List.length_cons, List.length_nil]; first | exact sz_el (by with_reducible assumption) (by with_reducible assumption) rfl | exact sz_ll (by with_reducible assumption) (by with_reducible assumption) rfl | exact sz_lt (by with_reducible assumption) rfl | exact sz_le (by with_reducible assumption) rfl | exact sz_eq (by with_reducible assumption) (by with_reducible assumption) rfl | exact Nat.le_of_ble_eq_true rfl | omega)); intro D' c' h' F' N' l1; (try k_lt l1); (try k_sweep)))
  k_with "call builtin:isinstance" => ((k_here; k_dflt (refine' isi_call ?k1Z7 ?k2Z7 ?k3Z7 ?k4Z7 ?_; (case k1Z7 => k_in); (case k2Z7 => (intro M; exact InstAt.type (by k_inst))); (case k3Z7 => k_is); (case k4Z7 => intro e; cases e); k_whole)))
  k_with "getMethod ref" => ((k_here; (with_reducible show wpAny _ _ (getMethod (Value.ref _) (Str.ofString "get") _) _ _ _); k_dflt (refine kdg_method (knd := PySem.strKind _ _) (by k_asm) (by k_mem) (by k_asm) ?_)))
  k_with "call builtin:dict.get" => ((k_here; k_dflt (first
    | refine kdg_get1 (knd := PySem.strKind _ _) (by k_asm) (by k_mem) (by k_asm) (by k_asm) (strKind_is _ _ _ _) (some _) (by rfl) ?_
    | refine kdg_get1 (knd := PySem.strKind _ _) (by k_asm) (by k_mem) (by k_asm) (by k_asm) (strKind_is _ _ _ _) none (by rfl) ?_); (try dsimp only [Option.getD])))
  k_with "compareOp In str ref" => ((k_here; k_dflt (first
    | refine kda_in (knd := PySem.strKind _ _) (by k_asm) (by k_mem) (by k_asm) (by k_asm) (strKind_is _ _ _ _) true (by rfl) ?_
    | refine kda_in (knd := PySem.strKind _ _) (by k_asm) (by k_mem) (by k_asm) (by k_asm) (strKind_is _ _ _ _) false (by rfl) ?_)))
  k_with "compareOp NotIn str ref" => ((k_here; k_dflt (first
    | refine kdg_notin (knd := PySem.strKind _ _) (by k_asm) (by k_mem) (by k_asm) (by k_asm) (strKind_is _ _ _ _) true (by rfl) ?_
    | refine kdg_notin (knd := PySem.strKind _ _) (by k_asm) (by k_mem) (by k_asm) (by k_asm) (strKind_is _ _ _ _) false (by rfl) ?_); (try dsimp only [Bool.not_true, Bool.not_false])))
  k_with "subscriptTail" => ((k_here; (with_reducible show wpAny _ _ (subscriptTail _ _ (Value.ref _) (Value.str _ _)) _ _ _); k_dflt (first
    | refine kda_item (knd := PySem.strKind _ _) (by k_asm) (by k_mem) (by k_asm) (strKind_is _ _ _ _) (by rfl) ?_
    | refine kdt_tail (knd := PySem.strKind _ _) (by k_asm) (by k_mem) (by k_asm) ?_)))
  k_with "getItem ref str" => ((k_here; k_dflt (refine kdt_getItem (knd := PySem.strKind _ _) (by k_asm) (by k_mem) (by k_asm) (strKind_is _ _ _ _) (by rfl) ?_)))
  k_with "setItem ref str" => ((k_here; k_dflt (refine' kda_set (knd := PySem.strKind _ _) ?FZ7 ?NZ7 ?UZ7 ?dZ7 (strKind_is _ _ _ _) ?zZ7 ?_; (case FZ7 => k_asm); (case NZ7 => k_asm); (case UZ7 => k_updF); (case dZ7 => k_asm); (case zZ7 => rw [sizeLine_eq]; exact Nat.le_of_ble_eq_true (by with_unfolding_all rfl))); intro h' o' F' N' hd'; (try dsimp only at N')))
  k_with "call builtin:len" => ((k_here; (with_reducible show wpAny _ _ (call (Value.builtin "len") [Value.ref _]) _ _ _); k_dflt (refine' len_mem ?NZ7 ?bZ7 ?zZ7 ?_; (case NZ7 => k_asm); (case bZ7 => k_mem); (case zZ7 => omega))))
  k_with "eval ListComp" => ((k_here; k_dflt (refine LCg.ListComp_U (F₀ := by k_asm) (by with_unfolding_all rfl) (by decide) (by rfl) (by decide) (by rfl) ?_)))
  k_with "exec Assign cons ListComp" => ((k_here; k_dflt (refine LCg.Assign_ListComp_U (F₀ := by k_asm) (by rfl) (by with_unfolding_all rfl) (by with_unfolding_all rfl) (by decide) (by rfl) (by decide) (by rfl) (by rfl) (by rfl) ?_)))
  k_with "CompSrc" => ((k_here; (try k_fmods); k_dflt (refine LCg.CompSrc.range (by rfl) (by k_asm) (by k_asm) (by assumption) (by first | (with_reducible refine small_nat ?sm9; (case sm9 => first | exact lt_eq (by with_reducible assumption) (by with_reducible assumption) rfl | exact lt_lt (by with_reducible assumption) rfl | exact lt_el (by with_reducible assumption) (by with_reducible assumption) rfl | exact lt_le (by with_reducible assumption) rfl | omega)) | exact small_one (by kcf_bnd) (by kcf_bnd) (by kcf_bnd) (by kcf_bnd) | decide) (by first | exact rangeSize_nat _ _ | rfl) (by rw [PySem.sizeLine_eq]; first | exact sz_lt (by with_reducible assumption) rfl | exact sz_le (by with_reducible assumption) rfl | omega | (simp only [List.size_toArray]; omega)) ?_; intro g'; k_extra "my comp")))
  k_with "binaryOp Mult int int" => ((k_here; (with_reducible refine mul_int ?kmmZ7 (IntMulOk.of_left (intBits_le_64 ?kmaZ7 ?kmbZ7))); (case kmaZ7 => omega); (case kmbZ7 => omega)))
  k_with "binaryOp FloorDiv int int" => ((k_here; (with_reducible refine floordiv_int ?kbeZ7 ?_ (Or.inl (PyProof.noPylong_small ?kbpZ7))); (case kbeZ7 => omega); (case kbpZ7 => omega)))
  obtain ⟨ckind, cnames, cgen, cco, cmore⟩ := cs
  dsimp only at hk
  subst hk
  refine wpAny_call ?_
  first | (k_dflt k_enter) | fail "no entry"
  k_steps
  all_goals exact end_bool hret (by assumption) (by assumption) (by intro p hp; k_mem) (by simp only [beq_eq_false_iff_ne]; omega)
set_option maxHeartbeats 600000 in
theorem make_tell (w mean mg mb news) (n d : Int) (t1 t2 : Tok) (hd0 : 0 < d) (hn : n.natAbs < 1000000) (hdd : d < 1000000) :
    Tell 4 w mean mg mb anyB 38 [.int n t1, .int d t2] news (OutTup (nrm n d)) := by
  refine tell_mk ?_
  intro dp un gd cn cs a ccd cl outer A₀ base h₀ L m s Q E PB B F X N T hk hdp hun hU hret
  k_with_none
  k_with "FinE" => (((unfold LCg.FinE); intro D' h' tk' F' N' o1'; (try simp only [off1_app, LCg.Off1, and_true, and_assoc] at o1'); (repeat (have hOf9 := And.left o1'; replace o1' := And.right o1')); (try simp only [List.nil_append, List.cons_append] at N'); (try dsimp only)))
  k_with "FinA" => (((unfold LCg.FinA); intro D' h' tk' F' N' o1'; (try simp only [off1_app, LCg.Off1, and_true, and_assoc] at o1'); (repeat (have hOf9 := And.left o1'; replace o1' := And.right o1')); (try simp only [List.nil_append, List.cons_append] at N'); (try dsimp only)))
  k_with "call type:list" => ((k_here; (with_reducible show wpAny _ _ (call (Value.type _) [Value.ref _]) _ _ _); k_dflt (refine' list_copyK ?FZ7 ?NZ7 (News.isList ?N2Z7 ?bZ7) ?_ ?zZ7; (case FZ7 => k_asm); (case NZ7 => k_asm); (case N2Z7 => k_asm); (case bZ7 => k_mem); (case zZ7 => rw [PySem.sizeLine_eq]; simp only [List.size_toArray, List.length_cons, List.length_nil]; first | exact sz_el (by with_reducible assumption) (by with_reducible assumption) rfl | exact sz_ll (by with_reducible assumption) (by with_reducible assumption) rfl | exact sz_lt (by with_reducible assumption) rfl | exact sz_le (by with_reducible assumption) rfl | exact sz_eq (by with_reducible assumption) (by with_reducible assumption) rfl | exact Nat.le_of_ble_eq_true rfl | omega)); intro D' c' h' F' N' l1; (try k_lt l1); (try k_sweep)))
  k_with "call builtin:isinstance" => ((k_here; k_dflt (refine' isi_call ?k1Z7 ?k2Z7 ?k3Z7 ?k4Z7 ?_; (case k1Z7 => k_in); (case k2Z7 => (intro M; exact InstAt.type (by k_inst))); (case k3Z7 => k_is); (case k4Z7 => intro e; cases e); k_whole)))
  k_with "getMethod ref" => ((k_here; (with_reducible show wpAny _ _ (getMethod (Value.ref _) (Str.ofString "get") _) _ _ _); k_dflt (refine kdg_method (knd := PySem.strKind _ _) (by k_asm) (by k_mem) (by k_asm) ?_)))
  k_with "call builtin:dict.get" => ((k_here; k_dflt (first
    | refine kdg_get1 (knd := PySem.strKind _ _) (by k_asm) (by k_mem) (by k_asm) (by k_asm) (strKind_is _ _ _ _) (some _) (by rfl) ?_
    | refine kdg_get1 (knd := PySem.strKind _ _) (by k_asm) (by k_mem) (by k_asm) (by k_asm) (strKind_is _ _ _ _) none (by rfl) ?_); (try dsimp only [Option.getD])))
  k_with "compareOp In str ref" => ((k_here; k_dflt (first
    | refine kda_in (knd := PySem.strKind _ _) (by k_asm) (by k_mem) (by k_asm) (by k_asm) (strKind_is _ _ _ _) true (by rfl) ?_
    | refine kda_in (knd := PySem.strKind _ _) (by k_asm) (by k_mem) (by k_asm) (by k_asm) (strKind_is _ _ _ _) false (by rfl) ?_)))
  k_with "compareOp NotIn str ref" => ((k_here; k_dflt (first
    | refine kdg_notin (knd := PySem.strKind _ _) (by k_asm) (by k_mem) (by k_asm) (by k_asm) (strKind_is _ _ _ _) true (by rfl) ?_
    | refine kdg_notin (knd := PySem.strKind _ _) (by k_asm) (by k_mem) (by k_asm) (by k_asm) (strKind_is _ _ _ _) false (by rfl) ?_); (try dsimp only [Bool.not_true, Bool.not_false])))
  k_with "subscriptTail" => ((k_here; (with_reducible show wpAny _ _ (subscriptTail _ _ (Value.ref _) (Value.str _ _)) _ _ _); k_dflt (first
    | refine kda_item (knd := PySem.strKind _ _) (by k_asm) (by k_mem) (by k_asm) (strKind_is _ _ _ _) (by rfl) ?_
    | refine kdt_tail (knd := PySem.strKind _ _) (by k_asm) (by k_mem) (by k_asm) ?_)))
  k_with "getItem ref str" => ((k_here; k_dflt (refine kdt_getItem (knd := PySem.strKind _ _) (by k_asm) (by k_mem) (by k_asm) (strKind_is _ _ _ _) (by rfl) ?_)))
  k_with "setItem ref str" => ((k_here; k_dflt (refine' kda_set (knd := PySem.strKind _ _) ?FZ7 ?NZ7 ?UZ7 ?dZ7 (strKind_is _ _ _ _) ?zZ7 ?_; (case FZ7 => k_asm); (case NZ7 => k_asm); (case UZ7 => k_updF); (case dZ7 => k_asm); (case zZ7 => rw [sizeLine_eq]; exact Nat.le_of_ble_eq_true (by with_unfolding_all rfl))); intro h' o' F' N' hd'; (try dsimp only at N')))
  k_with "call builtin:len" => ((k_here; (with_reducible show wpAny _ _ (call (Value.builtin "len") [Value.ref _]) _ _ _); k_dflt (refine' len_mem ?NZ7 ?bZ7 ?zZ7 ?_; (case NZ7 => k_asm); (case bZ7 => k_mem); (case zZ7 => omega))))
  k_with "eval ListComp" => ((k_here; k_dflt (refine LCg.ListComp_U (F₀ := by k_asm) (by with_unfolding_all rfl) (by decide) (by rfl) (by decide) (by rfl) ?_)))
  k_with "exec Assign cons ListComp" => ((k_here; k_dflt (refine LCg.Assign_ListComp_U (F₀ := by k_asm) (by rfl) (by with_unfolding_all rfl) (by with_unfolding_all rfl) (by decide) (by rfl) (by decide) (by rfl) (by rfl) (by rfl) ?_)))
  k_with "CompSrc" => ((k_here; (try k_fmods); k_dflt (refine LCg.CompSrc.range (by rfl) (by k_asm) (by k_asm) (by assumption) (by first | (with_reducible refine small_nat ?sm9; (case sm9 => first | exact lt_eq (by with_reducible assumption) (by with_reducible assumption) rfl | exact lt_lt (by with_reducible assumption) rfl | exact lt_el (by with_reducible assumption) (by with_reducible assumption) rfl | exact lt_le (by with_reducible assumption) rfl | omega)) | exact small_one (by kcf_bnd) (by kcf_bnd) (by kcf_bnd) (by kcf_bnd) | decide) (by first | exact rangeSize_nat _ _ | rfl) (by rw [PySem.sizeLine_eq]; first | exact sz_lt (by with_reducible assumption) rfl | exact sz_le (by with_reducible assumption) rfl | omega | (simp only [List.size_toArray]; omega)) ?_; intro g'; k_extra "my comp")))
  k_with "binaryOp Mult int int" => ((k_here; (with_reducible refine mul_int ?kmmZ7 (IntMulOk.of_left (intBits_le_64 ?kmaZ7 ?kmbZ7))); (case kmaZ7 => omega); (case kmbZ7 => omega)))
  k_with "binaryOp FloorDiv int int" => ((k_here; (with_reducible refine floordiv_int ?kbeZ7 ?_ (Or.inl (PyProof.noPylong_small ?kbpZ7))); (case kbeZ7 => omega); (case kbpZ7 => omega)))
  k_with "call ref" => (k_here; (with_reducible show wpAny _ _ (call (Value.ref 31) _) _ _ _); k_dflt (refine' use_gcd ?kPZ7 ?k1Z7 ?k2Z7 ?k3Z7 ?k4Z7 ?k5Z7 ?kKZ7 (gcd_tell _ _ _ _ _ _ _ _ _ ?h0Z7 ?h1Z7 ?h2Z7 ?h3Z7) ?kdZ7 ?kuZ7 ?_; (case k1Z7 => k_asm); (case k2Z7 => k_asm); (case k3Z7 => k_asm); (case k4Z7 => k_asm); (case k5Z7 => k_asm); (case kKZ7 => first | exact rfl | assumption); (case kPZ7 => exact True.intro); (case h0Z7 => first | omega | (split <;> omega)); (case h1Z7 => omega); (case h2Z7 => first | omega | (split <;> omega)); (case h3Z7 => omega); (case kdZ7 => ktr_room); (case kuZ7 => first | exact hU 2 rfl | ktr_units); intro g' t' h' tk' F' N' hg1' hg2' hg3'); (try simp only [List.cons_append, List.nil_append] at N'); (try dsimp only); (try k_fold))
  obtain ⟨ckind, cnames, cgen, cco, cmore⟩ := cs
  dsimp only at hk
  subst hk
  refine wpAny_call ?_
  first | (k_dflt k_enter) | fail "no entry"
  k_steps
  all_goals first | (exfalso; omega) | exact end_tup hret (by assumption) (by assumption) (nrm_abs (by assumption)) (by intro p hp; k_mem) (by first | assumption | exact allLt_of (by assumption))
set_option maxHeartbeats 600000 in
theorem mul_tell (w mean mg mb news) (a1 : Addr) (q : Int × Int) (t1 t2 : Tok) (c : Nat) (hm : (a1, tup2 q t1 t2 c) ∈ news) (hq : Sm q) (a2 : Addr) (p : Int × Int) (t3 t4 : Tok) (c2 : Nat) (hm2 : (a2, tup2 p t3 t4 c2) ∈ news) (hp : Sm p) :
    Tell 6 w mean mg mb anyB 80 [.ref a1, .ref a2] news (OutTup (nrm (q.1 * p.1) (q.2 * p.2))) := by
  obtain ⟨hn0, hd0, hdd0⟩ := hq.mul hp
  have hpl := hq.plus hp
  obtain ⟨hq1, hq2, hq3⟩ := hq
  obtain ⟨hp1, hp2, hp3⟩ := hp
  refine tell_mk ?_
  intro dp un gd cn cs a ccd cl outer A₀ base h₀ L m s Q E PB B F X N T hk hdp hun hU hret
  k_with_none
  k_with "FinE" => (((unfold LCg.FinE); intro D' h' tk' F' N' o1'; (try simp only [off1_app, LCg.Off1, and_true, and_assoc] at o1'); (repeat (have hOf9 := And.left o1'; replace o1' := And.right o1')); (try simp only [List.nil_append, List.cons_append] at N'); (try dsimp only)))
  k_with "FinA" => (((unfold LCg.FinA); intro D' h' tk' F' N' o1'; (try simp only [off1_app, LCg.Off1, and_true, and_assoc] at o1'); (repeat (have hOf9 := And.left o1'; replace o1' := And.right o1')); (try simp only [List.nil_append, List.cons_append] at N'); (try dsimp only)))
  k_with "call type:list" => ((k_here; (with_reducible show wpAny _ _ (call (Value.type _) [Value.ref _]) _ _ _); k_dflt (refine' list_copyK ?FZ7 ?NZ7 (News.isList ?N2Z7 ?bZ7) ?_ ?zZ7; (case FZ7 => k_asm); (case NZ7 => k_asm); (case N2Z7 => k_asm); (case bZ7 => k_mem); (case zZ7 => rw [PySem.sizeLine_eq]; simp only [List.size_toArray, List.length_cons, List.length_nil]; first | exact sz_el (by with_reducible assumption) (by with_reducible assumption) rfl | exact sz_ll (by with_reducible assumption) (by with_reducible assumption) rfl | exact sz_lt (by with_reducible assumption) rfl | exact sz_le (by with_reducible assumption) rfl | exact sz_eq (by with_reducible assumption) (by with_reducible assumption) rfl | exact Nat.le_of_ble_eq_true rfl | omega)); intro D' c' h' F' N' l1; (try k_lt l1); (try k_sweep)))
  k_with "call builtin:isinstance" => ((k_here; k_dflt (refine' isi_call ?k1Z7 ?k2Z7 ?k3Z7 ?k4Z7 ?_; (case k1Z7 => k_in); (case k2Z7 => (intro M; exact InstAt.type (by k_inst))); (case k3Z7 => k_is); (case k4Z7 => intro e; cases e); k_whole)))
  k_with "getMethod ref" => ((k_here; (with_reducible show wpAny _ _ (getMethod (Value.ref _) (Str.ofString "get") _) _ _ _); k_dflt (refine kdg_method (knd := PySem.strKind _ _) (by k_asm) (by k_mem) (by k_asm) ?_)))
  k_with "call builtin:dict.get" => ((k_here; k_dflt (first
    | refine kdg_get1 (knd := PySem.strKind _ _) (by k_asm) (by k_mem) (by k_asm) (by k_asm) (strKind_is _ _ _ _) (some _) (by rfl) ?_
    | refine kdg_get1 (knd := PySem.strKind _ _) (by k_asm) (by k_mem) (by k_asm) (by k_asm) (strKind_is _ _ _ _) none (by rfl) ?_); (try dsimp only [Option.getD])))
  k_with "compareOp In str ref" => ((k_here; k_dflt (first
    | refine kda_in (knd := PySem.strKind _ _) (by k_asm) (by k_mem) (by k_asm) (by k_asm) (strKind_is _ _ _ _) true (by rfl) ?_
    | refine kda_in (knd := PySem.strKind _ _) (by k_asm) (by k_mem) (by k_asm) (by k_asm) (strKind_is _ _ _ _) false (by rfl) ?_)))
  k_with "compareOp NotIn str ref" => ((k_here; k_dflt (first
    | refine kdg_notin (knd := PySem.strKind _ _) (by k_asm) (by k_mem) (by k_asm) (by k_asm) (strKind_is _ _ _ _) true (by rfl) ?_
    | refine kdg_notin (knd := PySem.strKind _ _) (by k_asm) (by k_mem) (by k_asm) (by k_asm) (strKind_is _ _ _ _) false (by rfl) ?_); (try dsimp only [Bool.not_true, Bool.not_false])))
  k_with "subscriptTail" => ((k_here; (with_reducible show wpAny _ _ (subscriptTail _ _ (Value.ref _) (Value.str _ _)) _ _ _); k_dflt (first
    | refine kda_item (knd := PySem.strKind _ _) (by k_asm) (by k_mem) (by k_asm) (strKind_is _ _ _ _) (by rfl) ?_
    | refine kdt_tail (knd := PySem.strKind _ _) (by k_asm) (by k_mem) (by k_asm) ?_)))
  k_with "getItem ref str" => ((k_here; k_dflt (refine kdt_getItem (knd := PySem.strKind _ _) (by k_asm) (by k_mem) (by k_asm) (strKind_is _ _ _ _) (by rfl) ?_)))
  k_with "setItem ref str" => ((k_here; k_dflt (refine' kda_set (knd := PySem.strKind _ _) ?FZ7 ?NZ7 ?UZ7 ?dZ7 (strKind_is _ _ _ _) ?zZ7 ?_; (case FZ7 => k_asm); (case NZ7 => k_asm); (case UZ7 => k_updF); (case dZ7 => k_asm); (case zZ7 => rw [sizeLine_eq]; exact Nat.le_of_ble_eq_true (by with_unfolding_all rfl))); intro h' o' F' N' hd'; (try dsimp only at N')))
  k_with "call builtin:len" => ((k_here; (with_reducible show wpAny _ _ (call (Value.builtin "len") [Value.ref _]) _ _ _); k_dflt (refine' len_mem ?NZ7 ?bZ7 ?zZ7 ?_; (case NZ7 => k_asm); (case bZ7 => k_mem); (case zZ7 => omega))))
  k_with "eval ListComp" => ((k_here; k_dflt (refine LCg.ListComp_U (F₀ := by k_asm) (by with_unfolding_all rfl) (by decide) (by rfl) (by decide) (by rfl) ?_)))
  k_with "exec Assign cons ListComp" => ((k_here; k_dflt (refine LCg.Assign_ListComp_U (F₀ := by k_asm) (by rfl) (by with_unfolding_all rfl) (by with_unfolding_all rfl) (by decide) (by rfl) (by decide) (by rfl) (by rfl) (by rfl) ?_)))
  k_with "CompSrc" => ((k_here; (try k_fmods); k_dflt (refine LCg.CompSrc.range (by rfl) (by k_asm) (by k_asm) (by assumption) (by first | (with_reducible refine small_nat ?sm9; (case sm9 => first | exact lt_eq (by with_reducible assumption) (by with_reducible assumption) rfl | exact lt_lt (by with_reducible assumption) rfl | exact lt_el (by with_reducible assumption) (by with_reducible assumption) rfl | exact lt_le (by with_reducible assumption) rfl | omega)) | exact small_one (by kcf_bnd) (by kcf_bnd) (by kcf_bnd) (by kcf_bnd) | decide) (by first | exact rangeSize_nat _ _ | rfl) (by rw [PySem.sizeLine_eq]; first | exact sz_lt (by with_reducible assumption) rfl | exact sz_le (by with_reducible assumption) rfl | omega | (simp only [List.size_toArray]; omega)) ?_; intro g'; k_extra "my comp")))
  k_with "binaryOp Mult int int" => ((k_here; (with_reducible refine mul_int ?kmmZ7 (IntMulOk.of_left (intBits_le_64 ?kmaZ7 ?kmbZ7))); (case kmaZ7 => omega); (case kmbZ7 => omega)))
  k_with "binaryOp FloorDiv int int" => ((k_here; (with_reducible refine floordiv_int ?kbeZ7 ?_ (Or.inl (PyProof.noPylong_small ?kbpZ7))); (case kbeZ7 => omega); (case kbpZ7 => omega)))
  k_with "call ref" => (k_here; (with_reducible show wpAny _ _ (call (Value.ref 52) _) _ _ _); k_dflt (refine' use_bool ?kPZ7 ?k1Z7 ?k2Z7 ?k3Z7 ?k4Z7 ?k5Z7 ?kKZ7 (isna_tell _ _ _ _ _ _ _ _ _ _ ?hmZ7 ?h0Z7) ?kdZ7 ?kuZ7 ?_; (case k1Z7 => k_asm); (case k2Z7 => k_asm); (case k3Z7 => k_asm); (case k4Z7 => k_asm); (case k5Z7 => k_asm); (case kKZ7 => first | exact rfl | assumption); (case kPZ7 => exact True.intro); (case hmZ7 => k_mem); (case h0Z7 => omega); (case kdZ7 => ktr_room); (case kuZ7 => first | exact hU 2 rfl | ktr_units); intro h' tk' F' N'); (try simp only [List.cons_append, List.nil_append] at N'); (try dsimp only); (try k_fold))
  k_with "call ref" => (k_here; (with_reducible show wpAny _ _ (call (Value.ref 38) _) _ _ _); k_dflt (refine' use_tup0 ?kPZ7 ?k1Z7 ?k2Z7 ?k3Z7 ?k4Z7 ?k5Z7 ?kKZ7 (make_tell _ _ _ _ _ _ _ _ _ ?h0Z7 ?h1Z7 ?h2Z7) ?kdZ7 ?kuZ7 ?_; (case k1Z7 => k_asm); (case k2Z7 => k_asm); (case k3Z7 => k_asm); (case k4Z7 => k_asm); (case k5Z7 => k_asm); (case kKZ7 => first | exact rfl | assumption); (case kPZ7 => exact True.intro); (case h0Z7 => first | assumption | omega); (case h1Z7 => first | assumption | omega); (case h2Z7 => first | assumption | omega); (case kdZ7 => ktr_room); (case kuZ7 => first | exact hU 4 rfl | ktr_units); intro D' u1' u2' c' h' tk' F' N' y'); (try simp only [List.cons_append, List.nil_append] at N'); (try dsimp only); (try k_fold))
  obtain ⟨ckind, cnames, cgen, cco, cmore⟩ := cs
  dsimp only at hk
  subst hk
  refine wpAny_call ?_
  first | (k_dflt k_enter) | fail "no entry"
  k_steps
  all_goals exact hret _ [(_, _)] _ _ (by assumption) (by assumption) (by assumption) ⟨_, _, _, _, rfl, rfl⟩
set_option maxHeartbeats 600000 in
theorem ratio_tell (w mean mg mb news) (n d : Int) (t1 t2 : Tok) (hd0 : 0 < d) (hn : n.natAbs < 1000000) (hdd : d < 1000000) :
    Tell 2 w mean mg mb anyB 575 [.int n t1, .int d t2] news (OutTup (nrm n d)) := by
  refine tell_mk ?_
  intro dp un gd cn cs a ccd cl outer A₀ base h₀ L m s Q E PB B F X N T hk hdp hun hU hret
  k_with_none
  k_with "FinE" => (((unfold LCg.FinE); intro D' h' tk' F' N' o1'; (try simp only [off1_app, LCg.Off1, and_true, and_assoc] at o1'); (repeat (have hOf9 := And.left o1'; replace o1' := And.right o1')); (try simp only [List.nil_append, List.cons_append] at N'); (try dsimp only)))
  k_with "FinA" => (((unfold LCg.FinA); intro D' h' tk' F' N' o1'; (try simp only [off1_app, LCg.Off1, and_true, and_assoc] at o1'); (repeat (have hOf9 := And.left o1'; replace o1' := And.right o1')); (try simp only [List.nil_append, List.cons_append] at N'); (try dsimp only)))
  k_with "call type:list" => ((k_here; (with_reducible show wpAny _ _ (call (Value.type _) [Value.ref _]) _ _ _); k_dflt (refine' list_copyK ?FZ7 ?NZ7 (News.isList ?N2Z7 ?bZ7) ?_ ?zZ7; (case FZ7 => k_asm); (case NZ7 => k_asm); (case N2Z7 => k_asm); (case bZ7 => k_mem); (case zZ7 => rw [PySem.sizeLine_eq]; simp only [List.size_toArray, List.length_cons, List.length_nil]; first | exact sz_el (by with_reducible assumption) (by with_reducible assumption) rfl | exact sz_ll (by with_reducible assumption) (by with_reducible assumption) rfl | exact sz_lt (by with_reducible assumption) rfl | exact sz_le (by with_reducible assumption) rfl | exact sz_eq (by with_reducible assumption) (by with_reducible assumption) rfl | exact Nat.le_of_ble_eq_true rfl | omega)); intro D' c' h' F' N' l1; (try k_lt l1); (try k_sweep)))
  k_with "call builtin:isinstance" => ((k_here; k_dflt (refine' isi_call ?k1Z7 ?k2Z7 ?k3Z7 ?k4Z7 ?_; (case k1Z7 => k_in); (case k2Z7 => (intro M; exact InstAt.type (by k_inst))); (case k3Z7 => k_is); (case k4Z7 => intro e; cases e); k_whole)))
  k_with "getMethod ref" => ((k_here; (with_reducible show wpAny _ _ (getMethod (Value.ref _) (Str.ofString "get") _) _ _ _); k_dflt (refine kdg_method (knd := PySem.strKind _ _) (by k_asm) (by k_mem) (by k_asm) ?_)))
  k_with "call builtin:dict.get" => ((k_here; k_dflt (first
    | refine kdg_get1 (knd := PySem.strKind _ _) (by k_asm) (by k_mem) (by k_asm) (by k_asm) (strKind_is _ _ _ _) (some _) (by rfl) ?_
    | refine kdg_get1 (knd := PySem.strKind _ _) (by k_asm) (by k_mem) (by k_asm) (by k_asm) (strKind_is _ _ _ _) none (by rfl) ?_); (try dsimp only [Option.getD])))
  k_with "compareOp In str ref" => ((k_here; k_dflt (first
    | refine kda_in (knd := PySem.strKind _ _) (by k_asm) (by k_mem) (by k_asm) (by k_asm) (strKind_is _ _ _ _) true (by rfl) ?_
    | refine kda_in (knd := PySem.strKind _ _) (by k_asm) (by k_mem) (by k_asm) (by k_asm) (strKind_is _ _ _ _) false (by rfl) ?_)))
  k_with "compareOp NotIn str ref" => ((k_here; k_dflt (first
    | refine kdg_notin (knd := PySem.strKind _ _) (by k_asm) (by k_mem) (by k_asm) (by k_asm) (strKind_is _ _ _ _) true (by rfl) ?_
    | refine kdg_notin (knd := PySem.strKind _ _) (by k_asm) (by k_mem) (by k_asm) (by k_asm) (strKind_is _ _ _ _) false (by rfl) ?_); (try dsimp only [Bool.not_true, Bool.not_false])))
  k_with "subscriptTail" => ((k_here; (with_reducible show wpAny _ _ (subscriptTail _ _ (Value.ref _) (Value.str _ _)) _ _ _); k_dflt (first
    | refine kda_item (knd := PySem.strKind _ _) (by k_asm) (by k_mem) (by k_asm) (strKind_is _ _ _ _) (by rfl) ?_
    | refine kdt_tail (knd := PySem.strKind _ _) (by k_asm) (by k_mem) (by k_asm) ?_)))
  k_with "getItem ref str" => ((k_here; k_dflt (refine kdt_getItem (knd := PySem.strKind _ _) (by k_asm) (by k_mem) (by k_asm) (strKind_is _ _ _ _) (by rfl) ?_)))
  k_with "setItem ref str" => ((k_here; k_dflt (refine' kda_set (knd := PySem.strKind _ _) ?FZ7 ?NZ7 ?UZ7 ?dZ7 (strKind_is _ _ _ _) ?zZ7 ?_; (case FZ7 => k_asm); (case NZ7 => k_asm); (case UZ7 => k_updF); (case dZ7 => k_asm); (case zZ7 => rw [sizeLine_eq]; exact Nat.le_of_ble_eq_true (by with_unfolding_all rfl))); intro h' o' F' N' hd'; (try dsimp only at N')))
  k_with "call builtin:len" => ((k_here; (with_reducible show wpAny _ _ (call (Value.builtin "len") [Value.ref _]) _ _ _); k_dflt (refine' len_mem ?NZ7 ?bZ7 ?zZ7 ?_; (case NZ7 => k_asm); (case bZ7 => k_mem); (case zZ7 => omega))))
  k_with "eval ListComp" => ((k_here; k_dflt (refine LCg.ListComp_U (F₀ := by k_asm) (by with_unfolding_all rfl) (by decide) (by rfl) (by decide) (by rfl) ?_)))
  k_with "exec Assign cons ListComp" => ((k_here; k_dflt (refine LCg.Assign_ListComp_U (F₀ := by k_asm) (by rfl) (by with_unfolding_all rfl) (by with_unfolding_all rfl) (by decide) (by rfl) (by decide) (by rfl) (by rfl) (by rfl) ?_)))
  k_with "CompSrc" => ((k_here; (try k_fmods); k_dflt (refine LCg.CompSrc.range (by rfl) (by k_asm) (by k_asm) (by assumption) (by first | (with_reducible refine small_nat ?sm9; (case sm9 => first | exact lt_eq (by with_reducible assumption) (by with_reducible assumption) rfl | exact lt_lt (by with_reducible assumption) rfl | exact lt_el (by with_reducible assumption) (by with_reducible assumption) rfl | exact lt_le (by with_reducible assumption) rfl | omega)) | exact small_one (by kcf_bnd) (by kcf_bnd) (by kcf_bnd) (by kcf_bnd) | decide) (by first | exact rangeSize_nat _ _ | rfl) (by rw [PySem.sizeLine_eq]; first | exact sz_lt (by with_reducible assumption) rfl | exact sz_le (by with_reducible assumption) rfl | omega | (simp only [List.size_toArray]; omega)) ?_; intro g'; k_extra "my comp")))
  k_with "binaryOp Mult int int" => ((k_here; (with_reducible refine mul_int ?kmmZ7 (IntMulOk.of_left (intBits_le_64 ?kmaZ7 ?kmbZ7))); (case kmaZ7 => omega); (case kmbZ7 => omega)))
  k_with "binaryOp FloorDiv int int" => ((k_here; (with_reducible refine floordiv_int ?kbeZ7 ?_ (Or.inl (PyProof.noPylong_small ?kbpZ7))); (case kbeZ7 => omega); (case kbpZ7 => omega)))
  k_with "exec While Compare cons nil" => k_while (fun _ a b => 0 ≤ a ∧ 0 ≤ b ∧ 0 < a + b ∧ a < 1000000 ∧ b < 1000000 ∧ Int.gcd a b = Int.gcd n d) (fun _ a b => b.toNat) "a" "b"
  k_with "state" => exact gcd_step (by assumption) (by assumption) (by assumption) (by assumption) (by assumption)
  k_with "state" => exact gcd_start _ _ (by assumption) (by assumption) (by assumption)
  k_with "measure" => exact gcd_less (by assumption) (by assumption)
  obtain ⟨ckind, cnames, cgen, cco, cmore⟩ := cs
  dsimp only at hk
  subst hk
  refine wpAny_call ?_
  first | (k_dflt k_enter) | fail "no entry"
  k_steps
  exact end_tup hret (by assumption) (by assumption) (nrm_of (by assumption) (by assumption) (by assumption)) (by intro p hp; k_mem) (by first | assumption | exact allLt_of (by assumption))
set_option maxHeartbeats 600000 in
theorem cell_tell (w mean mg mb news) (l : Addr) (vs : List Value) (ns : List Int) (hi : IntsAre vs ns) (hl : ns.length < 2 ^ 62) (i : Int) (t : Tok) (h0 : 0 ≤ i) :
    Tell 2 w mean mg mb (fun base => base.IsList l vs.toArray) 568 [.ref l, .int i t] news (OutInt (cellV ns i)) := by
  refine tell_mk ?_
  intro dp un gd cn cs a ccd cl outer A₀ base h₀ L m s Q E PB B F X N T hk hdp hun hU hret
  k_with_none
  refine wpAny_call ?_
  k_dflt cell_enter
  k_steps
  · exact end_int hret (by assumption) (by assumption) cellV_in (fun _ h => h)
  · exact end_int hret (by assumption) (by assumption) (cellV_out (by omega)) (fun _ h => h)
set_option maxHeartbeats 600000 in
theorem row_tell (w mean mg mb news) (l : Addr) (vs : List Value) (ns : List Int) (hi : IntsAre vs ns) (hl : ns.length < 2 ^ 62) (f : Int) (t : Tok) (h0 : 0 ≤ f) (hf : f < 100) (n : Nat) (t' : Tok) (hn : n < 100) :
    Tell 4 w mean mg mb (fun base => base.IsList l vs.toArray) 580 [.ref l, .int f t, .int (n : Int) t'] news (OutList ((List.range n).map fun (k : Nat) => frD (rowF ns (f + (k : Int))))) := by
  refine tell_mk ?_
  intro dp un gd cn cs a ccd cl outer A₀ base h₀ L m s Q E PB B F X N T hk hdp hun hU hret
  k_with_none
  k_with "FinE" => (((unfold LCg.FinE); intro D' h' tk' F' N' o1'; (try simp only [off1_app, LCg.Off1, and_true, and_assoc] at o1'); (repeat (have hOf9 := And.left o1'; replace o1' := And.right o1')); (try simp only [List.nil_append, List.cons_append] at N'); (try dsimp only)))
  k_with "FinA" => (((unfold LCg.FinA); intro D' h' tk' F' N' o1'; (try simp only [off1_app, LCg.Off1, and_true, and_assoc] at o1'); (repeat (have hOf9 := And.left o1'; replace o1' := And.right o1')); (try simp only [List.nil_append, List.cons_append] at N'); (try dsimp only)))
  k_with "call type:list" => ((k_here; (with_reducible show wpAny _ _ (call (Value.type _) [Value.ref _]) _ _ _); k_dflt (refine' list_copyK ?FZ7 ?NZ7 (News.isList ?N2Z7 ?bZ7) ?_ ?zZ7; (case FZ7 => k_asm); (case NZ7 => k_asm); (case N2Z7 => k_asm); (case bZ7 => k_mem); (case zZ7 => rw [PySem.sizeLine_eq]; simp only [List.size_toArray, List.length_cons, List.length_nil]; first | exact sz_el (by with_reducible assumption) (by with_reducible assumption) rfl | exact sz_ll (by with_reducible assumption) (by with_reducible assumption) rfl | exact sz_lt (by with_reducible assumption) rfl | exact sz_le (by with_reducible assumption) rfl | exact sz_eq (by with_reducible assumption) (by with_reducible assumption) rfl | exact Nat.le_of_ble_eq_true rfl | omega)); intro D' c' h' F' N' l1; (try k_lt l1); (try k_sweep)))
  k_with "call builtin:isinstance" => ((k_here; k_dflt (refine' isi_call ?k1Z7 ?k2Z7 ?k3Z7 ?k4Z7 ?_; (case k1Z7 => k_in); (case k2Z7 => (intro M; exact InstAt.type (by k_inst))); (case k3Z7 => k_is); (case k4Z7 => intro e; cases e); k_whole)))
  k_with "getMethod ref" => ((k_here; (with_reducible show wpAny _ _ (getMethod (Value.ref _) (Str.ofString "get") _) _ _ _); k_dflt (refine kdg_method (knd := PySem.strKind _ _) (by k_asm) (by k_mem) (by k_asm) ?_)))
  k_with "call builtin:dict.get" => ((k_here; k_dflt (first
    | refine kdg_get1 (knd := PySem.strKind _ _) (by k_asm) (by k_mem) (by k_asm) (by k_asm) (strKind_is _ _ _ _) (some _) (by rfl) ?_
    | refine kdg_get1 (knd := PySem.strKind _ _) (by k_asm) (by k_mem) (by k_asm) (by k_asm) (strKind_is _ _ _ _) none (by rfl) ?_); (try dsimp only [Option.getD])))
  k_with "compareOp In str ref" => ((k_here; k_dflt (first
    | refine kda_in (knd := PySem.strKind _ _) (by k_asm) (by k_mem) (by k_asm) (by k_asm) (strKind_is _ _ _ _) true (by rfl) ?_
    | refine kda_in (knd := PySem.strKind _ _) (by k_asm) (by k_mem) (by k_asm) (by k_asm) (strKind_is _ _ _ _) false (by rfl) ?_)))
  k_with "compareOp NotIn str ref" => ((k_here; k_dflt (first
    | refine kdg_notin (knd := PySem.strKind _ _) (by k_asm) (by k_mem) (by k_asm) (by k_asm) (strKind_is _ _ _ _) true (by rfl) ?_
    | refine kdg_notin (knd := PySem.strKind _ _) (by k_asm) (by k_mem) (by k_asm) (by k_asm) (strKind_is _ _ _ _) false (by rfl) ?_); (try dsimp only [Bool.not_true, Bool.not_false])))
  k_with "subscriptTail" => ((k_here; (with_reducible show wpAny _ _ (subscriptTail _ _ (Value.ref _) (Value.str _ _)) _ _ _); k_dflt (first
    | refine kda_item (knd := PySem.strKind _ _) (by k_asm) (by k_mem) (by k_asm) (strKind_is _ _ _ _) (by rfl) ?_
    | refine kdt_tail (knd := PySem.strKind _ _) (by k_asm) (by k_mem) (by k_asm) ?_)))
  k_with "getItem ref str" => ((k_here; k_dflt (refine kdt_getItem (knd := PySem.strKind _ _) (by k_asm) (by k_mem) (by k_asm) (strKind_is _ _ _ _) (by rfl) ?_)))
  k_with "setItem ref str" => ((k_here; k_dflt (refine' kda_set (knd := PySem.strKind _ _) ?FZ7 ?NZ7 ?UZ7 ?dZ7 (strKind_is _ _ _ _) ?zZ7 ?_; (case FZ7 => k_asm); (case NZ7 => k_asm); (case UZ7 => k_updF); (case dZ7 => k_asm); (case zZ7 => rw [sizeLine_eq]; exact Nat.le_of_ble_eq_true (by with_unfolding_all rfl))); intro h' o' F' N' hd'; (try dsimp only at N')))
  k_with "call builtin:len" => ((k_here; (with_reducible show wpAny _ _ (call (Value.builtin "len") [Value.ref _]) _ _ _); k_dflt (refine' len_mem ?NZ7 ?bZ7 ?zZ7 ?_; (case NZ7 => k_asm); (case bZ7 => k_mem); (case zZ7 => omega))))
  k_with "eval ListComp" => ((k_here; k_dflt (refine LCg.ListComp_U (F₀ := by k_asm) (by with_unfolding_all rfl) (by decide) (by rfl) (by decide) (by rfl) ?_)))
  k_with "exec Assign cons ListComp" => ((k_here; k_dflt (refine LCg.Assign_ListComp_U (F₀ := by k_asm) (by rfl) (by with_unfolding_all rfl) (by with_unfolding_all rfl) (by decide) (by rfl) (by decide) (by rfl) (by rfl) (by rfl) ?_)))
  k_with "CompSrc" => ((k_here; (try k_fmods); k_dflt (refine LCg.CompSrc.range (by rfl) (by k_asm) (by k_asm) (by assumption) (by first | (with_reducible refine small_nat ?sm9; (case sm9 => first | exact lt_eq (by with_reducible assumption) (by with_reducible assumption) rfl | exact lt_lt (by with_reducible assumption) rfl | exact lt_el (by with_reducible assumption) (by with_reducible assumption) rfl | exact lt_le (by with_reducible assumption) rfl | omega)) | exact small_one (by kcf_bnd) (by kcf_bnd) (by kcf_bnd) (by kcf_bnd) | decide) (by first | exact rangeSize_nat _ _ | rfl) (by rw [PySem.sizeLine_eq]; first | exact sz_lt (by with_reducible assumption) rfl | exact sz_le (by with_reducible assumption) rfl | omega | (simp only [List.size_toArray]; omega)) ?_; intro g'; k_extra "my comp")))
  k_with "binaryOp Mult int int" => ((k_here; (with_reducible refine mul_int ?kmmZ7 (IntMulOk.of_left (intBits_le_64 ?kmaZ7 ?kmbZ7))); (case kmaZ7 => omega); (case kmbZ7 => omega)))
  k_with "binaryOp FloorDiv int int" => ((k_here; (with_reducible refine floordiv_int ?kbeZ7 ?_ (Or.inl (PyProof.noPylong_small ?kbpZ7))); (case kbeZ7 => omega); (case kbpZ7 => omega)))
  k_with "call ref" => (k_here; (with_reducible show wpAny _ _ (call (Value.ref 568) _) _ _ _); k_dflt (refine' use_int0 ?kPZ7 ?k1Z7 ?k2Z7 ?k3Z7 ?k4Z7 ?k5Z7 ?kKZ7 (cell_tell _ _ _ _ _ _ _ _ ?hiZ7 ?hlZ7 _ _ ?h0Z7) ?kdZ7 ?kuZ7 ?_; (case k1Z7 => k_asm); (case k2Z7 => k_asm); (case k3Z7 => k_asm); (case k4Z7 => k_asm); (case k5Z7 => k_asm); (case kKZ7 => first | exact rfl | assumption); (case kPZ7 => assumption); (case hiZ7 => assumption); (case hlZ7 => first | assumption | omega); (case h0Z7 => omega); (case kdZ7 => ktr_room); (case kuZ7 => first | exact hU 2 rfl | ktr_units); intro t' h' tk' F' N'); (try simp only [List.cons_append, List.nil_append] at N'); (try dsimp only); (try k_fold))
  k_with "call ref" => (k_here; (with_reducible show wpAny _ _ (call (Value.ref 575) _) _ _ _); k_dflt (refine' use_tup0 ?kPZ7 ?k1Z7 ?k2Z7 ?k3Z7 ?k4Z7 ?k5Z7 ?kKZ7 (ratio_tell _ _ _ _ _ _ _ _ _ ?h0Z7 ?h1Z7 ?h2Z7) ?kdZ7 ?kuZ7 ?_; (case k1Z7 => k_asm); (case k2Z7 => k_asm); (case k3Z7 => k_asm); (case k4Z7 => k_asm); (case k5Z7 => k_asm); (case kKZ7 => first | exact rfl | assumption); (case kPZ7 => exact True.intro); (case h0Z7 => first | assumption | exact rowD_pos _ | omega); (case h1Z7 => first | assumption | exact rowN_lt _ | omega); (case h2Z7 => first | assumption | exact rowD_lt _ | omega); (case kdZ7 => ktr_room); (case kuZ7 => first | exact hU 2 rfl | ktr_units); intro D' u1' u2' c' h' tk' F' N' y'); (try simp only [List.cons_append, List.nil_append] at N'); (try dsimp only); (try k_fold))
  k_with "my comp" => (refine' comp_range_dat [] (fun (k : Nat) => frD (rowF ns (f + (k : Int)))) (fun i' t' I' oI' C' oC' D' m2' ys' tl' h' tk' E' hi' hD' hA' hC' hx' F' N' off' ne' => ?_) (fun ys' tl' hA' hD' => ?_); (all_goals (try k_fold)))
  obtain ⟨ckind, cnames, cgen, cco, cmore⟩ := cs
  dsimp only at hk
  subst hk
  refine wpAny_call ?_
  first | (k_dflt k_enter) | fail "no entry"
  k_steps
  · exact turn_tup (by assumption) (by assumption) (by assumption) (by assumption) True.intro (by rw [Int.zero_add]; rfl)
  · rw [show ((n : Int) - 0).toNat = n by omega] at hD'
    exact end_list (tl := tl') (mid := [_, _]) hret (by assumption) (by assumption) hD' (off1_ne (by assumption)) hA'
set_option maxHeartbeats 600000 in
theorem times_tell (w mean mg mb news) (a1 : Addr) (q : Int × Int) (t1 t2 : Tok) (c : Nat) (hm : (a1, tup2 q t1 t2 c) ∈ news) (hq : Sm q) (a2 : Addr) (p : Int × Int) (t3 t4 : Tok) (c2 : Nat) (hm2 : (a2, tup2 p t3 t4 c2) ∈ news) (hp : Sm p) :
    Tell 6 w mean mg mb anyB 592 [.ref a1, .ref a2] news (OutTup (nrm (q.1 * p.1) (q.2 * p.2))) := by
  obtain ⟨hn0, hd0, hdd0⟩ := hq.mul hp
  have hpl := hq.plus hp
  obtain ⟨hq1, hq2, hq3⟩ := hq
  obtain ⟨hp1, hp2, hp3⟩ := hp
  refine tell_mk ?_
  intro dp un gd cn cs a ccd cl outer A₀ base h₀ L m s Q E PB B F X N T hk hdp hun hU hret
  k_with_none
  k_with "FinE" => (((unfold LCg.FinE); intro D' h' tk' F' N' o1'; (try simp only [off1_app, LCg.Off1, and_true, and_assoc] at o1'); (repeat (have hOf9 := And.left o1'; replace o1' := And.right o1')); (try simp only [List.nil_append, List.cons_append] at N'); (try dsimp only)))
  k_with "FinA" => (((unfold LCg.FinA); intro D' h' tk' F' N' o1'; (try simp only [off1_app, LCg.Off1, and_true, and_assoc] at o1'); (repeat (have hOf9 := And.left o1'; replace o1' := And.right o1')); (try simp only [List.nil_append, List.cons_append] at N'); (try dsimp only)))
  k_with "call type:list" => ((k_here; (with_reducible show wpAny _ _ (call (Value.type _) [Value.ref _]) _ _ _); k_dflt (refine' list_copyK ?FZ7 ?NZ7 (News.isList ?N2Z7 ?bZ7) ?_ ?zZ7; (case FZ7 => k_asm); (case NZ7 => k_asm); (case N2Z7 => k_asm); (case bZ7 => k_mem); (case zZ7 => rw [PySem.sizeLine_eq]; simp only [List.size_toArray, List.length_cons, List.length_nil]; first | exact sz_el (by with_reducible assumption) (by with_reducible assumption) rfl | exact sz_ll (by with_reducible assumption) (by with_reducible assumption) rfl | exact sz_lt (by with_reducible assumption) rfl | exact sz_le (by with_reducible assumption) rfl | exact sz_eq (by with_reducible assumption) (by with_reducible assumption) rfl | exact Nat.le_of_ble_eq_true rfl | omega)); intro D' c' h' F' N' l1; (try k_lt l1); (try k_sweep)))
  k_with "call builtin:isinstance" => ((k_here; k_dflt (refine' isi_call ?k1Z7 ?k2Z7 ?k3Z7 ?k4Z7 ?_; (case k1Z7 => k_in); (case k2Z7 => (intro M; exact InstAt.type (by k_inst))); (case k3Z7 => k_is); (case k4Z7 => intro e; cases e); k_whole)))
  k_with "getMethod ref" => ((k_here; (with_reducible show wpAny _ _ (getMethod (Value.ref _) (Str.ofString "get") _) _ _ _); k_dflt (refine kdg_method (knd := PySem.strKind _ _) (by k_asm) (by k_mem) (by k_asm) ?_)))
  k_with "call builtin:dict.get" => ((k_here; k_dflt (first
    | refine kdg_get1 (knd := PySem.strKind _ _) (by k_asm) (by k_mem) (by k_asm) (by k_asm) (strKind_is _ _ _ _) (some _) (by rfl) ?_
    | refine kdg_get1 (knd := PySem.strKind _ _) (by k_asm) (by k_mem) (by k_asm) (by k_asm) (strKind_is _ _ _ _) none (by rfl) ?_); (try dsimp only [Option.getD])))
  k_with "compareOp In str ref" => ((k_here; k_dflt (first
    | refine kda_in (knd := PySem.strKind _ _) (by k_asm) (by k_mem) (by k_asm) (by k_asm) (strKind_is _ _ _ _) true (by rfl) ?_
    | refine kda_in (knd := PySem.strKind _ _) (by k_asm) (by k_mem) (by k_asm) (by k_asm) (strKind_is _ _ _ _) false (by rfl) ?_)))
  k_with "compareOp NotIn str ref" => ((k_here; k_dflt (first
    | refine kdg_notin (knd := PySem.strKind _ _) (by k_asm) (by k_mem) (by k_asm) (by k_asm) (strKind_is _ _ _ _) true (by rfl) ?_
    | refine kdg_notin (knd := PySem.strKind _ _) (by k_asm) (by k_mem) (by k_asm) (by k_asm) (strKind_is _ _ _ _) false (by rfl) ?_); (try dsimp only [Bool.not_true, Bool.not_false])))
  k_with "subscriptTail" => ((k_here; (with_reducible show wpAny _ _ (subscriptTail _ _ (Value.ref _) (Value.str _ _)) _ _ _); k_dflt (first
    | refine kda_item (knd := PySem.strKind _ _) (by k_asm) (by k_mem) (by k_asm) (strKind_is _ _ _ _) (by rfl) ?_
    | refine kdt_tail (knd := PySem.strKind _ _) (by k_asm) (by k_mem) (by k_asm) ?_)))
  k_with "getItem ref str" => ((k_here; k_dflt (refine kdt_getItem (knd := PySem.strKind _ _) (by k_asm) (by k_mem) (by k_asm) (strKind_is _ _ _ _) (by rfl) ?_)))
  k_with "setItem ref str" => ((k_here; k_dflt (refine' kda_set (knd := PySem.strKind _ _) ?FZ7 ?NZ7 ?UZ7 ?dZ7 (strKind_is _ _ _ _) ?zZ7 ?_; (case FZ7 => k_asm); (case NZ7 => k_asm); (case UZ7 => k_updF); (case dZ7 => k_asm); (case zZ7 => rw [sizeLine_eq]; exact Nat.le_of_ble_eq_true (by with_unfolding_all rfl))); intro h' o' F' N' hd'; (try dsimp only at N')))
  k_with "call builtin:len" => ((k_here; (with_reducible show wpAny _ _ (call (Value.builtin "len") [Value.ref _]) _ _ _); k_dflt (refine' len_mem ?NZ7 ?bZ7 ?zZ7 ?_; (case NZ7 => k_asm); (case bZ7 => k_mem); (case zZ7 => omega))))
  k_with "eval ListComp" => ((k_here; k_dflt (refine LCg.ListComp_U (F₀ := by k_asm) (by with_unfolding_all rfl) (by decide) (by rfl) (by decide) (by rfl) ?_)))
  k_with "exec Assign cons ListComp" => ((k_here; k_dflt (refine LCg.Assign_ListComp_U (F₀ := by k_asm) (by rfl) (by with_unfolding_all rfl) (by with_unfolding_all rfl) (by decide) (by rfl) (by decide) (by rfl) (by rfl) (by rfl) ?_)))
  k_with "CompSrc" => ((k_here; (try k_fmods); k_dflt (refine LCg.CompSrc.range (by rfl) (by k_asm) (by k_asm) (by assumption) (by first | (with_reducible refine small_nat ?sm9; (case sm9 => first | exact lt_eq (by with_reducible assumption) (by with_reducible assumption) rfl | exact lt_lt (by with_reducible assumption) rfl | exact lt_el (by with_reducible assumption) (by with_reducible assumption) rfl | exact lt_le (by with_reducible assumption) rfl | omega)) | exact small_one (by kcf_bnd) (by kcf_bnd) (by kcf_bnd) (by kcf_bnd) | decide) (by first | exact rangeSize_nat _ _ | rfl) (by rw [PySem.sizeLine_eq]; first | exact sz_lt (by with_reducible assumption) rfl | exact sz_le (by with_reducible assumption) rfl | omega | (simp only [List.size_toArray]; omega)) ?_; intro g'; k_extra "my comp")))
  k_with "binaryOp Mult int int" => ((k_here; (with_reducible refine mul_int ?kmmZ7 (IntMulOk.of_left (intBits_le_64 ?kmaZ7 ?kmbZ7))); (case kmaZ7 => omega); (case kmbZ7 => omega)))
  k_with "binaryOp FloorDiv int int" => ((k_here; (with_reducible refine floordiv_int ?kbeZ7 ?_ (Or.inl (PyProof.noPylong_small ?kbpZ7))); (case kbeZ7 => omega); (case kbpZ7 => omega)))
  k_with "call ref" => (k_here; (with_reducible show wpAny _ _ (call (Value.ref 575) _) _ _ _); k_dflt (refine' use_tup0 ?kPZ7 ?k1Z7 ?k2Z7 ?k3Z7 ?k4Z7 ?k5Z7 ?kKZ7 (ratio_tell _ _ _ _ _ _ _ _ _ ?h0Z7 ?h1Z7 ?h2Z7) ?kdZ7 ?kuZ7 ?_; (case k1Z7 => k_asm); (case k2Z7 => k_asm); (case k3Z7 => k_asm); (case k4Z7 => k_asm); (case k5Z7 => k_asm); (case kKZ7 => first | exact rfl | assumption); (case kPZ7 => exact True.intro); (case h0Z7 => first | assumption | exact rowD_pos _ | omega); (case h1Z7 => first | assumption | exact rowN_lt _ | omega); (case h2Z7 => first | assumption | exact rowD_lt _ | omega); (case kdZ7 => ktr_room); (case kuZ7 => first | exact hU 2 rfl | ktr_units); intro D' u1' u2' c' h' tk' F' N' y'); (try simp only [List.cons_append, List.nil_append] at N'); (try dsimp only); (try k_fold))
  obtain ⟨ckind, cnames, cgen, cco, cmore⟩ := cs
  dsimp only at hk
  subst hk
  refine wpAny_call ?_
  first | (k_dflt k_enter) | fail "no entry"
  k_steps
  all_goals exact hret _ [(_, _)] _ _ (by assumption) (by assumption) (by assumption) ⟨_, _, _, _, rfl, rfl⟩
set_option maxHeartbeats 600000 in
theorem plus_tell (w mean mg mb news) (a1 : Addr) (q : Int × Int) (t1 t2 : Tok) (c : Nat) (hm : (a1, tup2 q t1 t2 c) ∈ news) (hq : Sm q) (a2 : Addr) (p : Int × Int) (t3 t4 : Tok) (c2 : Nat) (hm2 : (a2, tup2 p t3 t4 c2) ∈ news) (hp : Sm p) :
    Tell 6 w mean mg mb anyB 599 [.ref a1, .ref a2] news (OutTup (nrm (q.1 * p.2 + p.1 * q.2) (q.2 * p.2))) := by
  obtain ⟨hn0, hd0, hdd0⟩ := hq.mul hp
  have hpl := hq.plus hp
  obtain ⟨hq1, hq2, hq3⟩ := hq
  obtain ⟨hp1, hp2, hp3⟩ := hp
  refine tell_mk ?_
  intro dp un gd cn cs a ccd cl outer A₀ base h₀ L m s Q E PB B F X N T hk hdp hun hU hret
  k_with_none
  k_with "FinE" => (((unfold LCg.FinE); intro D' h' tk' F' N' o1'; (try simp only [off1_app, LCg.Off1, and_true, and_assoc] at o1'); (repeat (have hOf9 := And.left o1'; replace o1' := And.right o1')); (try simp only [List.nil_append, List.cons_append] at N'); (try dsimp only)))
  k_with "FinA" => (((unfold LCg.FinA); intro D' h' tk' F' N' o1'; (try simp only [off1_app, LCg.Off1, and_true, and_assoc] at o1'); (repeat (have hOf9 := And.left o1'; replace o1' := And.right o1')); (try simp only [List.nil_append, List.cons_append] at N'); (try dsimp only)))
  k_with "call type:list" => ((k_here; (with_reducible show wpAny _ _ (call (Value.type _) [Value.ref _]) _ _ _); k_dflt (refine' list_copyK ?FZ7 ?NZ7 (News.isList ?N2Z7 ?bZ7) ?_ ?zZ7; (case FZ7 => k_asm); (case NZ7 => k_asm); (case N2Z7 => k_asm); (case bZ7 => k_mem); (case zZ7 => rw [PySem.sizeLine_eq]; simp only [List.size_toArray, List.length_cons, List.length_nil]; first | exact sz_el (by with_reducible assumption) (by with_reducible assumption) rfl | exact sz_ll (by with_reducible assumption) (by with_reducible assumption) rfl | exact sz_lt (by with_reducible assumption) rfl | exact sz_le (by with_reducible assumption) rfl | exact sz_eq (by with_reducible assumption) (by with_reducible assumption) rfl | exact Nat.le_of_ble_eq_true rfl | omega)); intro D' c' h' F' N' l1; (try k_lt l1); (try k_sweep)))
  k_with "call builtin:isinstance" => ((k_here; k_dflt (refine' isi_call ?k1Z7 ?k2Z7 ?k3Z7 ?k4Z7 ?_; (case k1Z7 => k_in); (case k2Z7 => (intro M; exact InstAt.type (by k_inst))); (case k3Z7 => k_is); (case k4Z7 => intro e; cases e); k_whole)))
  k_with "getMethod ref" => ((k_here; (with_reducible show wpAny _ _ (getMethod (Value.ref _) (Str.ofString "get") _) _ _ _); k_dflt (refine kdg_method (knd := PySem.strKind _ _) (by k_asm) (by k_mem) (by k_asm) ?_)))
  k_with "call builtin:dict.get" => ((k_here; k_dflt (first
    | refine kdg_get1 (knd := PySem.strKind _ _) (by k_asm) (by k_mem) (by k_asm) (by k_asm) (strKind_is _ _ _ _) (some _) (by rfl) ?_
    | refine kdg_get1 (knd := PySem.strKind _ _) (by k_asm) (by k_mem) (by k_asm) (by k_asm) (strKind_is _ _ _ _) none (by rfl) ?_); (try dsimp only [Option.getD])))
  k_with "compareOp In str ref" => ((k_here; k_dflt (first
    | refine kda_in (knd := PySem.strKind _ _) (by k_asm) (by k_mem) (by k_asm) (by k_asm) (strKind_is _ _ _ _) true (by rfl) ?_
    | refine kda_in (knd := PySem.strKind _ _) (by k_asm) (by k_mem) (by k_asm) (by k_asm) (strKind_is _ _ _ _) false (by rfl) ?_)))
  k_with "compareOp NotIn str ref" => ((k_here; k_dflt (first
    | refine kdg_notin (knd := PySem.strKind _ _) (by k_asm) (by k_mem) (by k_asm) (by k_asm) (strKind_is _ _ _ _) true (by rfl) ?_
    | refine kdg_notin (knd := PySem.strKind _ _) (by k_asm) (by k_mem) (by k_asm) (by k_asm) (strKind_is _ _ _ _) false (by rfl) ?_); (try dsimp only [Bool.not_true, Bool.not_false])))
  k_with "subscriptTail" => ((k_here; (with_reducible show wpAny _ _ (subscriptTail _ _ (Value.ref _) (Value.str _ _)) _ _ _); k_dflt (first
    | refine kda_item (knd := PySem.strKind _ _) (by k_asm) (by k_mem) (by k_asm) (strKind_is _ _ _ _) (by rfl) ?_
    | refine kdt_tail (knd := PySem.strKind _ _) (by k_asm) (by k_mem) (by k_asm) ?_)))
  k_with "getItem ref str" => ((k_here; k_dflt (refine kdt_getItem (knd := PySem.strKind _ _) (by k_asm) (by k_mem) (by k_asm) (strKind_is _ _ _ _) (by rfl) ?_)))
  k_with "setItem ref str" => ((k_here; k_dflt (refine' kda_set (knd := PySem.strKind _ _) ?FZ7 ?NZ7 ?UZ7 ?dZ7 (strKind_is _ _ _ _) ?zZ7 ?_; (case FZ7 => k_asm); (case NZ7 => k_asm); (case UZ7 => k_updF); (case dZ7 => k_asm); (case zZ7 => rw [sizeLine_eq]; exact Nat.le_of_ble_eq_true (by with_unfolding_all rfl))); intro h' o' F' N' hd'; (try dsimp only at N')))
  k_with "call builtin:len" => ((k_here; (with_reducible show wpAny _ _ (call (Value.builtin "len") [Value.ref _]) _ _ _); k_dflt (refine' len_mem ?NZ7 ?bZ7 ?zZ7 ?_; (case NZ7 => k_asm); (case bZ7 => k_mem); (case zZ7 => omega))))
  k_with "eval ListComp" => ((k_here; k_dflt (refine LCg.ListComp_U (F₀ := by k_asm) (by with_unfolding_all rfl) (by decide) (by rfl) (by decide) (by rfl) ?_)))
  k_with "exec Assign cons ListComp" => ((k_here; k_dflt (refine LCg.Assign_ListComp_U (F₀ := by k_asm) (by rfl) (by with_unfolding_all rfl) (by with_unfolding_all rfl) (by decide) (by rfl) (by decide) (by rfl) (by rfl) (by rfl) ?_)))
  k_with "CompSrc" => ((k_here; (try k_fmods); k_dflt (refine LCg.CompSrc.range (by rfl) (by k_asm) (by k_asm) (by assumption) (by first | (with_reducible refine small_nat ?sm9; (case sm9 => first | exact lt_eq (by with_reducible assumption) (by with_reducible assumption) rfl | exact lt_lt (by with_reducible assumption) rfl | exact lt_el (by with_reducible assumption) (by with_reducible assumption) rfl | exact lt_le (by with_reducible assumption) rfl | omega)) | exact small_one (by kcf_bnd) (by kcf_bnd) (by kcf_bnd) (by kcf_bnd) | decide) (by first | exact rangeSize_nat _ _ | rfl) (by rw [PySem.sizeLine_eq]; first | exact sz_lt (by with_reducible assumption) rfl | exact sz_le (by with_reducible assumption) rfl | omega | (simp only [List.size_toArray]; omega)) ?_; intro g'; k_extra "my comp")))
  k_with "binaryOp Mult int int" => ((k_here; (with_reducible refine mul_int ?kmmZ7 (IntMulOk.of_left (intBits_le_64 ?kmaZ7 ?kmbZ7))); (case kmaZ7 => omega); (case kmbZ7 => omega)))
  k_with "binaryOp FloorDiv int int" => ((k_here; (with_reducible refine floordiv_int ?kbeZ7 ?_ (Or.inl (PyProof.noPylong_small ?kbpZ7))); (case kbeZ7 => omega); (case kbpZ7 => omega)))
  k_with "call ref" => (k_here; (with_reducible show wpAny _ _ (call (Value.ref 575) _) _ _ _); k_dflt (refine' use_tup0 ?kPZ7 ?k1Z7 ?k2Z7 ?k3Z7 ?k4Z7 ?k5Z7 ?kKZ7 (ratio_tell _ _ _ _ _ _ _ _ _ ?h0Z7 ?h1Z7 ?h2Z7) ?kdZ7 ?kuZ7 ?_; (case k1Z7 => k_asm); (case k2Z7 => k_asm); (case k3Z7 => k_asm); (case k4Z7 => k_asm); (case k5Z7 => k_asm); (case kKZ7 => first | exact rfl | assumption); (case kPZ7 => exact True.intro); (case h0Z7 => first | assumption | exact rowD_pos _ | omega); (case h1Z7 => first | assumption | exact rowN_lt _ | omega); (case h2Z7 => first | assumption | exact rowD_lt _ | omega); (case kdZ7 => ktr_room); (case kuZ7 => first | exact hU 2 rfl | ktr_units); intro D' u1' u2' c' h' tk' F' N' y'); (try simp only [List.cons_append, List.nil_append] at N'); (try dsimp only); (try k_fold))
  obtain ⟨ckind, cnames, cgen, cco, cmore⟩ := cs
  dsimp only at hk
  subst hk
  refine wpAny_call ?_
  first | (k_dflt k_enter) | fail "no entry"
  k_steps
  all_goals exact hret _ [(_, _)] _ _ (by assumption) (by assumption) (by assumption) ⟨_, _, _, _, rfl, rfl⟩
end
section
open PySem.Calls
/-- a Null just made -/
abbrev OutNull (w : World) (news : Led) : Value → Led → Prop := fun r tl => ∃ x d k1 k2 tk, r = .ref x ∧ @LT.lt Nat _ d x ∧ (∀ p ∈ news, @LT.lt Nat _ p.1 d) ∧ tl = [(x, instObj 150 d), (d, nullDict w k1 k2 tk)]
theorem use_null {k : Nat} {w : World} {mean : ExcName → Option Value} {mg mb : Str → Option Value} {PB : Heap → Prop} {f : Addr} {args : List Value} {news : Led} {dp un : Nat} {gd : Option (List Code)} {cn : Str} {cs : Scope} {a : Addr} {ccd : Value} {cl : List (Str × Addr)} {outer : List Env} {A₀ : Around} {base h₀ : Heap} {L : Addr} {m : Str → Option Value} {s : Shared} {Q E : Value → Shared → Prop} 
    (P : PB base) (B : Below A₀ base outer h₀) (F : Fr h₀ L s.heap m) (X : (fr.heap_1 w.params).In h₀) (N : News h₀ L s.heap news) (T : LTop mean mg mb h₀) (hk : cs.kind = .function) (C : Tell k w mean mg mb PB f args news (OutNull w news)) (hd : dp + k < recursionLimit) (hu : un + 20 * k + 100 < cLine)
    (ret : ∀ (x d : Addr) (k1 k2 tk : Tok) (h' : Heap) (tk' : Nat), Fr h₀ L h' m → News h₀ L h' ([(x, instObj 150 d), (d, nullDict w k1 k2 tk)] ++ news) → Apart ([(x, instObj 150 d), (d, nullDict w k1 k2 tk)]) news → Q (.ref x) { s with heap := h', toks := tk' }) : wpAny (model LP w) (ktrTop dp un gd cn cs L a ccd cl outer) (call (.ref f) args) Q E s := by
  refine tell_use P B F X N T hk C hd hu ?_
  rintro r tl h' tk' F' N' y' ⟨x, d, k1, k2, tk, rfl, lx, ll, rfl⟩
  exact ret x d k1 k2 tk h' tk' F' N' y'
set_option maxHeartbeats 600000 in
theorem vnull_tell (w mean mg mb news) : Tell 3 w mean mg mb anyB 150 [] news (OutNull w news) := by
  refine tell_mk ?_
  intro dp un gd cn cs a ccd cl outer A₀ base h₀ L m s Q E PB B F X N T hk hdp hun hU hret
  k_with_none
  k_with "FinE" => (((unfold LCg.FinE); intro D' h' tk' F' N' o1'; (try simp only [off1_app, LCg.Off1, and_true, and_assoc] at o1'); (repeat (have hOf9 := And.left o1'; replace o1' := And.right o1')); (try simp only [List.nil_append, List.cons_append] at N'); (try dsimp only)))
  k_with "FinA" => (((unfold LCg.FinA); intro D' h' tk' F' N' o1'; (try simp only [off1_app, LCg.Off1, and_true, and_assoc] at o1'); (repeat (have hOf9 := And.left o1'; replace o1' := And.right o1')); (try simp only [List.nil_append, List.cons_append] at N'); (try dsimp only)))
  k_with "call type:list" => ((k_here; (with_reducible show wpAny _ _ (call (Value.type _) [Value.ref _]) _ _ _); k_dflt (refine' list_copyK ?FZ7 ?NZ7 (News.isList ?N2Z7 ?bZ7) ?_ ?zZ7; (case FZ7 => k_asm); (case NZ7 => k_asm); (case N2Z7 => k_asm); (case bZ7 => k_mem); (case zZ7 => rw [PySem.sizeLine_eq]; simp only [List.size_toArray, List.length_cons, List.length_nil]; first | exact sz_el (by with_reducible assumption) (by with_reducible assumption) rfl | exact sz_ll (by with_reducible assumption) (by with_reducible assumption) rfl | exact sz_lt (by with_reducible assumption) rfl | exact sz_le (by with_reducible assumption) rfl | exact sz_eq (by with_reducible assumption) (by with_reducible assumption) rfl | exact Nat.le_of_ble_eq_true rfl | omega)); intro D' c' h' F' N' l1; (try k_lt l1); (try k_sweep)))
  k_with "call builtin:isinstance" => ((k_here; k_dflt (refine' isi_call ?k1Z7 ?k2Z7 ?k3Z7 ?k4Z7 ?_; (case k1Z7 => k_in); (case k2Z7 => (intro M; exact InstAt.type (by k_inst))); (case k3Z7 => k_is); (case k4Z7 => intro e; cases e); k_whole)))
  k_with "getMethod ref" => ((k_here; (with_reducible show wpAny _ _ (getMethod (Value.ref _) (Str.ofString "get") _) _ _ _); k_dflt (refine kdg_method (knd := PySem.strKind _ _) (by k_asm) (by k_mem) (by k_asm) ?_)))
  k_with "call builtin:dict.get" => ((k_here; k_dflt (first
    | refine kdg_get1 (knd := PySem.strKind _ _) (by k_asm) (by k_mem) (by k_asm) (by k_asm) (strKind_is _ _ _ _) (some _) (by rfl) ?_
    | refine kdg_get1 (knd := PySem.strKind _ _) (by k_asm) (by k_mem) (by k_asm) (by k_asm) (strKind_is _ _ _ _) none (by rfl) ?_); (try dsimp only [Option.getD])))
  k_with "compareOp In str ref" => ((k_here; k_dflt (first
    | refine kda_in (knd := PySem.strKind _ _) (by k_asm) (by k_mem) (by k_asm) (by k_asm) (strKind_is _ _ _ _) true (by rfl) ?_
    | refine kda_in (knd := PySem.strKind _ _) (by k_asm) (by k_mem) (by k_asm) (by k_asm) (strKind_is _ _ _ _) false (by rfl) ?_)))
  k_with "compareOp NotIn str ref" => ((k_here; k_dflt (first
    | refine kdg_notin (knd := PySem.strKind _ _) (by k_asm) (by k_mem) (by k_asm) (by k_asm) (strKind_is _ _ _ _) true (by rfl) ?_
    | refine kdg_notin (knd := PySem.strKind _ _) (by k_asm) (by k_mem) (by k_asm) (by k_asm) (strKind_is _ _ _ _) false (by rfl) ?_); (try dsimp only [Bool.not_true, Bool.not_false])))
  k_with "subscriptTail" => ((k_here; (with_reducible show wpAny _ _ (subscriptTail _ _ (Value.ref _) (Value.str _ _)) _ _ _); k_dflt (first
    | refine kda_item (knd := PySem.strKind _ _) (by k_asm) (by k_mem) (by k_asm) (strKind_is _ _ _ _) (by rfl) ?_
    | refine kdt_tail (knd := PySem.strKind _ _) (by k_asm) (by k_mem) (by k_asm) ?_)))
  k_with "getItem ref str" => ((k_here; k_dflt (refine kdt_getItem (knd := PySem.strKind _ _) (by k_asm) (by k_mem) (by k_asm) (strKind_is _ _ _ _) (by rfl) ?_)))
  k_with "setItem ref str" => ((k_here; k_dflt (refine' kda_set (knd := PySem.strKind _ _) ?FZ7 ?NZ7 ?UZ7 ?dZ7 (strKind_is _ _ _ _) ?zZ7 ?_; (case FZ7 => k_asm); (case NZ7 => k_asm); (case UZ7 => k_updF); (case dZ7 => k_asm); (case zZ7 => rw [sizeLine_eq]; exact Nat.le_of_ble_eq_true (by with_unfolding_all rfl))); intro h' o' F' N' hd'; (try dsimp only at N')))
  k_with "call builtin:len" => ((k_here; (with_reducible show wpAny _ _ (call (Value.builtin "len") [Value.ref _]) _ _ _); k_dflt (refine' len_mem ?NZ7 ?bZ7 ?zZ7 ?_; (case NZ7 => k_asm); (case bZ7 => k_mem); (case zZ7 => omega))))
  k_with "eval ListComp" => ((k_here; k_dflt (refine LCg.ListComp_U (F₀ := by k_asm) (by with_unfolding_all rfl) (by decide) (by rfl) (by decide) (by rfl) ?_)))
  k_with "exec Assign cons ListComp" => ((k_here; k_dflt (refine LCg.Assign_ListComp_U (F₀ := by k_asm) (by rfl) (by with_unfolding_all rfl) (by with_unfolding_all rfl) (by decide) (by rfl) (by decide) (by rfl) (by rfl) (by rfl) ?_)))
  k_with "CompSrc" => ((k_here; (try k_fmods); k_dflt (refine LCg.CompSrc.range (by rfl) (by k_asm) (by k_asm) (by assumption) (by first | (with_reducible refine small_nat ?sm9; (case sm9 => first | exact lt_eq (by with_reducible assumption) (by with_reducible assumption) rfl | exact lt_lt (by with_reducible assumption) rfl | exact lt_el (by with_reducible assumption) (by with_reducible assumption) rfl | exact lt_le (by with_reducible assumption) rfl | omega)) | exact small_one (by kcf_bnd) (by kcf_bnd) (by kcf_bnd) (by kcf_bnd) | decide) (by first | exact rangeSize_nat _ _ | rfl) (by rw [PySem.sizeLine_eq]; first | exact sz_lt (by with_reducible assumption) rfl | exact sz_le (by with_reducible assumption) rfl | omega | (simp only [List.size_toArray]; omega)) ?_; intro g'; k_extra "my comp")))
  obtain ⟨ckind, cnames, cgen, cco, cmore⟩ := cs
  dsimp only at hk
  subst hk
  k_steps
  rename Fr _ _ _ _ => kF9
  rename News _ _ _ _ => kN9
  exact hret _ [(_, _), (_, _)] _ _ kF9 kN9 (apart_xd (by assumption) (by assumption)) ⟨_, _, _, _, _, rfl, (by assumption), (by assumption), rfl⟩
theorem end_dimn {w : World} {h₀ h' : Heap} {L : Addr} {m : Str → Option Value} {news rest tlD tl : Led} {s : Shared} {Q : Value → Shared → Prop} {tk' : Nat} {xD D : Addr} {y1 y2 : Value} {c : Nat} {n1 n2 : Option (List Value)}
    (hret : ∀ r tl h' tk', Fr h₀ L h' m → News h₀ L h' (tl ++ news) → Apart tl news → OutDimn w n1 n2 r tl → Q r { s with heap := h', toks := tk' })
    (F : Fr h₀ L h' m) (N : News h₀ L h' (tlD ++ (D, listOf [y1, y2].toArray c) :: (tl ++ rest))) (y : Apart tlD ((D, listOf [y1, y2].toArray c) :: (tl ++ rest))) (hT : ∀ p ∈ news, p.1 ≠ D) (ha : Apart tl rest) (hs : ∀ p ∈ news, p ∈ rest)
    (v : VecAt w tlD xD (Str.ofString "list") D .none) (a : AxV w tl y1 n1) (b : AxV w tl y2 n2) : Q (.ref xD) { s with heap := h', toks := tk' } := by
  refine tell_end hret (tlD ++ ((D, listOf [y1, y2].toArray c) :: tl)) F N (fun p hp => ?_) ((y.sub fun p hp => .tail _ (List.mem_append.mpr (.inr (hs p hp)))).append (Apart.c hT (ha.sub hs))) ⟨_, _, _, _, _, rfl, v.mono fun p hp => List.mem_append.mpr (.inl hp), List.mem_append.mpr (.inr (.head _)), a.mono fun p hp => List.mem_append.mpr (.inr (.tail _ hp)), b.mono fun p hp => List.mem_append.mpr (.inr (.tail _ hp))⟩
  rcases List.mem_append.mp hp with hp | hp
  · rcases List.mem_append.mp hp with hp | hp
    · exact List.mem_append.mpr (.inl hp)
    · refine List.mem_append.mpr (.inr ?_)
      rcases List.mem_cons.mp hp with rfl | hp
      · exact .head _
      · exact .tail _ (List.mem_append.mpr (.inl hp))
  · exact List.mem_append.mpr (.inr (.tail _ (List.mem_append.mpr (.inr (hs p hp)))))
set_option maxHeartbeats 600000 in
theorem dimn0_tell (w mean mg mb news) (R : Addr) (c : Nat) (hR : (R, listOf [Value.none, Value.none].toArray c) ∈ news) :
    Tell 6 w mean mg mb anyB 515 [.ref R] news OutNone := by
  refine tell_mk ?_
  intro dp un gd cn cs a ccd cl outer A₀ base h₀ L m s Q E PB B F X N T hk hdp hun hU hret
  k_with_none
  k_with "FinE" => (((unfold LCg.FinE); intro D' h' tk' F' N' o1'; (try simp only [off1_app, LCg.Off1, and_true, and_assoc] at o1'); (repeat (have hOf9 := And.left o1'; replace o1' := And.right o1')); (try simp only [List.nil_append, List.cons_append] at N'); (try dsimp only)))
  k_with "FinA" => (((unfold LCg.FinA); intro D' h' tk' F' N' o1'; (try simp only [off1_app, LCg.Off1, and_true, and_assoc] at o1'); (repeat (have hOf9 := And.left o1'; replace o1' := And.right o1')); (try simp only [List.nil_append, List.cons_append] at N'); (try dsimp only)))
  k_with "call type:list" => ((k_here; (with_reducible show wpAny _ _ (call (Value.type _) [Value.ref _]) _ _ _); k_dflt (refine' list_copyK ?FZ7 ?NZ7 (News.isList ?N2Z7 ?bZ7) ?_ ?zZ7; (case FZ7 => k_asm); (case NZ7 => k_asm); (case N2Z7 => k_asm); (case bZ7 => k_mem); (case zZ7 => rw [PySem.sizeLine_eq]; simp only [List.size_toArray, List.length_cons, List.length_nil]; first | exact sz_el (by with_reducible assumption) (by with_reducible assumption) rfl | exact sz_ll (by with_reducible assumption) (by with_reducible assumption) rfl | exact sz_lt (by with_reducible assumption) rfl | exact sz_le (by with_reducible assumption) rfl | exact sz_eq (by with_reducible assumption) (by with_reducible assumption) rfl | exact Nat.le_of_ble_eq_true rfl | omega)); intro D' c' h' F' N' l1; (try k_lt l1); (try k_sweep)))
  k_with "call builtin:isinstance" => ((k_here; k_dflt (refine' isi_call ?k1Z7 ?k2Z7 ?k3Z7 ?k4Z7 ?_; (case k1Z7 => k_in); (case k2Z7 => (intro M; exact InstAt.type (by k_inst))); (case k3Z7 => k_is); (case k4Z7 => intro e; cases e); k_whole)))
  k_with "getMethod ref" => ((k_here; (with_reducible show wpAny _ _ (getMethod (Value.ref _) (Str.ofString "get") _) _ _ _); k_dflt (refine kdg_method (knd := PySem.strKind _ _) (by k_asm) (by k_mem) (by k_asm) ?_)))
  k_with "call builtin:dict.get" => ((k_here; k_dflt (first
    | refine kdg_get1 (knd := PySem.strKind _ _) (by k_asm) (by k_mem) (by k_asm) (by k_asm) (strKind_is _ _ _ _) (some _) (by rfl) ?_
    | refine kdg_get1 (knd := PySem.strKind _ _) (by k_asm) (by k_mem) (by k_asm) (by k_asm) (strKind_is _ _ _ _) none (by rfl) ?_); (try dsimp only [Option.getD])))
  k_with "compareOp In str ref" => ((k_here; k_dflt (first
    | refine kda_in (knd := PySem.strKind _ _) (by k_asm) (by k_mem) (by k_asm) (by k_asm) (strKind_is _ _ _ _) true (by rfl) ?_
    | refine kda_in (knd := PySem.strKind _ _) (by k_asm) (by k_mem) (by k_asm) (by k_asm) (strKind_is _ _ _ _) false (by rfl) ?_)))
  k_with "compareOp NotIn str ref" => ((k_here; k_dflt (first
    | refine kdg_notin (knd := PySem.strKind _ _) (by k_asm) (by k_mem) (by k_asm) (by k_asm) (strKind_is _ _ _ _) true (by rfl) ?_
    | refine kdg_notin (knd := PySem.strKind _ _) (by k_asm) (by k_mem) (by k_asm) (by k_asm) (strKind_is _ _ _ _) false (by rfl) ?_); (try dsimp only [Bool.not_true, Bool.not_false])))
  k_with "subscriptTail" => ((k_here; (with_reducible show wpAny _ _ (subscriptTail _ _ (Value.ref _) (Value.str _ _)) _ _ _); k_dflt (first
    | refine kda_item (knd := PySem.strKind _ _) (by k_asm) (by k_mem) (by k_asm) (strKind_is _ _ _ _) (by rfl) ?_
    | refine kdt_tail (knd := PySem.strKind _ _) (by k_asm) (by k_mem) (by k_asm) ?_)))
  k_with "getItem ref str" => ((k_here; k_dflt (refine kdt_getItem (knd := PySem.strKind _ _) (by k_asm) (by k_mem) (by k_asm) (strKind_is _ _ _ _) (by rfl) ?_)))
  k_with "setItem ref str" => ((k_here; k_dflt (refine' kda_set (knd := PySem.strKind _ _) ?FZ7 ?NZ7 ?UZ7 ?dZ7 (strKind_is _ _ _ _) ?zZ7 ?_; (case FZ7 => k_asm); (case NZ7 => k_asm); (case UZ7 => k_updF); (case dZ7 => k_asm); (case zZ7 => rw [sizeLine_eq]; exact Nat.le_of_ble_eq_true (by with_unfolding_all rfl))); intro h' o' F' N' hd'; (try dsimp only at N')))
  k_with "call builtin:len" => ((k_here; (with_reducible show wpAny _ _ (call (Value.builtin "len") [Value.ref _]) _ _ _); k_dflt (refine' len_mem ?NZ7 ?bZ7 ?zZ7 ?_; (case NZ7 => k_asm); (case bZ7 => k_mem); (case zZ7 => omega))))
  k_with "exec For Name" => ((k_here; (rename Fr _ _ _ _ => lF'); (with_unfolding_all refine' For_invVF lF' ?k1Z7 ?k2Z7 ?_; (case k1Z7 => exact rfl); (case k2Z7 => exact rfl); k_whole)))
  k_with "exec For Name Call cons nil" => ((k_here; (rename Fr _ _ _ _ => lF'); (with_unfolding_all refine' For_invVF lF' ?k1Z7 ?k2Z7 ?_; (case k1Z7 => exact rfl); (case k2Z7 => exact rfl); k_whole)))
  k_with "exec For Name Name cons nil" => ((k_here; (rename Fr _ _ _ _ => lF'); (with_unfolding_all refine' For_invVF lF' ?k1Z7 ?k2Z7 ?_; (case k1Z7 => exact rfl); (case k2Z7 => exact rfl); k_whole)))
  k_with "pyIter ref" => ((k_here; k_dflt k_extra "my loop"))
  k_with "LpPost" => ((dsimp only [LpPost]))
  k_with "call builtin:list.append" => ((k_here; (with_reducible show wpAny _ _ (call (Value.builtin _) _) _ _ _); k_dflt (refine' append_K ?k1Z7 ?k2Z7 ?k3Z7 ?_ ?zZ7; (case k1Z7 => k_asm); (case k2Z7 => k_asm); (case k3Z7 => k_upd); (case zZ7 => rw [PySem.sizeLine_eq]; simp only [List.size_toArray, List.length_append, List.length_cons, List.length_nil]; first | exact sz_el (by with_reducible assumption) (by with_reducible assumption) rfl | exact sz_ll (by with_reducible assumption) (by with_reducible assumption) rfl | exact sz_lt (by with_reducible assumption) rfl | exact sz_le (by with_reducible assumption) rfl | exact sz_eq (by with_reducible assumption) (by with_reducible assumption) rfl | exact Nat.le_of_ble_eq_true rfl | omega); k_whole); intro h' F' N'; (try k_sweep)))
  k_with "call type:range" => (((rename Fr _ _ _ _ => F'); (rename News _ _ _ _ => N'); first
    | (with_unfolding_all refine range1_rows F' N' ?_; intro _ _ _ _ _ _ _ _ _)
    | (with_unfolding_all refine range2_rows F' N' ?_; intro _ _ _ _ _ _ _ _ _)))
  k_with "CompEnd" => (((rename News _ _ _ _ => nE'); (rename LCg.Off3 _ _ _ _ => oE'); (rename Fr _ _ _ _ => fE'); (refine LCg.CompEnd.intro fE' nE' _ (fun _ h => h) oE' (by lcg_src) ?_)))
  obtain ⟨ckind, cnames, cgen, cco, cmore⟩ := cs
  dsimp only at hk
  subst hk
  refine wpAny_call ?_
  first | (k_dflt k_enter) | fail "no entry"
  k_steps
  rename Fr _ _ _ _ => F9
  rename News _ _ _ _ => N9
  exact tell_end hret [] F9 N9 (by intro p hp; rw [List.nil_append] at hp; k_mem) (Apart.nil _) ⟨rfl, rfl⟩
set_option maxHeartbeats 1000000 in
theorem dimn1_tell (w mean mg mb news) (R : Addr) (c : Nat) (v1 v2 : Value) (n1 n2 : Option (List Value)) (hR : (R, listOf [v1, v2].toArray c) ∈ news) (h1 : NmV news v1 n1) (h2 : NmV news v2 n2) (hne : n1 ≠ none ∨ n2 ≠ none) :
    Tell 6 w mean mg mb anyB 515 [.ref R] news (OutDimn w n1 n2) := by
  obtain ⟨ns, hns⟩ : ∃ ns, ns = [n1, n2] := ⟨_, rfl⟩
  have q : ∀ i v, [v1, v2][i]? = some v → ∃ n, NmV news v n ∧ ns[i]? = some n := fun i v e => hns ▸ nm_of h1 h2 e
  cases h1 with
  | none => cases h2 with
    | none => simp at hne
    | some m1 l1 =>
      refine tell_mk ?_
      intro dp un gd cn cs a ccd cl outer A₀ base h₀ L m s Q E PB B F X N T hk hdp hun hU hret
      k_with_none
      k_with "FinE" => (((unfold LCg.FinE); intro D' h' tk' F' N' o1'; (try simp only [off1_app, LCg.Off1, and_true, and_assoc] at o1'); (repeat (have hOf9 := And.left o1'; replace o1' := And.right o1')); (try simp only [List.nil_append, List.cons_append] at N'); (try dsimp only)))
      k_with "FinA" => (((unfold LCg.FinA); intro D' h' tk' F' N' o1'; (try simp only [off1_app, LCg.Off1, and_true, and_assoc] at o1'); (repeat (have hOf9 := And.left o1'; replace o1' := And.right o1')); (try simp only [List.nil_append, List.cons_append] at N'); (try dsimp only)))
      k_with "call type:list" => ((k_here; (with_reducible show wpAny _ _ (call (Value.type _) [Value.ref _]) _ _ _); k_dflt (refine' list_copyK ?FZ7 ?NZ7 (News.isList ?N2Z7 ?bZ7) ?_ ?zZ7; (case FZ7 => k_asm); (case NZ7 => k_asm); (case N2Z7 => k_asm); (case bZ7 => k_mem); (case zZ7 => rw [PySem.sizeLine_eq]; simp only [List.size_toArray, List.length_cons, List.length_nil]; first | exact sz_el (by with_reducible assumption) (by with_reducible assumption) rfl | exact sz_ll (by with_reducible assumption) (by with_reducible assumption) rfl | exact sz_lt (by with_reducible assumption) rfl | exact sz_le (by with_reducible assumption) rfl | exact sz_eq (by with_reducible assumption) (by with_reducible assumption) rfl | exact Nat.le_of_ble_eq_true rfl | omega)); intro D' c' h' F' N' l1; (try k_lt l1); (try k_sweep)))
      k_with "call builtin:isinstance" => ((k_here; k_dflt (refine' isi_call ?k1Z7 ?k2Z7 ?k3Z7 ?k4Z7 ?_; (case k1Z7 => k_in); (case k2Z7 => (intro M; exact InstAt.type (by k_inst))); (case k3Z7 => k_is); (case k4Z7 => intro e; cases e); k_whole)))
      k_with "getMethod ref" => ((k_here; (with_reducible show wpAny _ _ (getMethod (Value.ref _) (Str.ofString "get") _) _ _ _); k_dflt (refine kdg_method (knd := PySem.strKind _ _) (by k_asm) (by k_mem) (by k_asm) ?_)))
      k_with "call builtin:dict.get" => ((k_here; k_dflt (first
        | refine kdg_get1 (knd := PySem.strKind _ _) (by k_asm) (by k_mem) (by k_asm) (by k_asm) (strKind_is _ _ _ _) (some _) (by rfl) ?_
        | refine kdg_get1 (knd := PySem.strKind _ _) (by k_asm) (by k_mem) (by k_asm) (by k_asm) (strKind_is _ _ _ _) none (by rfl) ?_); (try dsimp only [Option.getD])))
      k_with "compareOp In str ref" => ((k_here; k_dflt (first
        | refine kda_in (knd := PySem.strKind _ _) (by k_asm) (by k_mem) (by k_asm) (by k_asm) (strKind_is _ _ _ _) true (by rfl) ?_
        | refine kda_in (knd := PySem.strKind _ _) (by k_asm) (by k_mem) (by k_asm) (by k_asm) (strKind_is _ _ _ _) false (by rfl) ?_)))
      k_with "compareOp NotIn str ref" => ((k_here; k_dflt (first
        | refine kdg_notin (knd := PySem.strKind _ _) (by k_asm) (by k_mem) (by k_asm) (by k_asm) (strKind_is _ _ _ _) true (by rfl) ?_
        | refine kdg_notin (knd := PySem.strKind _ _) (by k_asm) (by k_mem) (by k_asm) (by k_asm) (strKind_is _ _ _ _) false (by rfl) ?_); (try dsimp only [Bool.not_true, Bool.not_false])))
      k_with "subscriptTail" => ((k_here; (with_reducible show wpAny _ _ (subscriptTail _ _ (Value.ref _) (Value.str _ _)) _ _ _); k_dflt (first
        | refine kda_item (knd := PySem.strKind _ _) (by k_asm) (by k_mem) (by k_asm) (strKind_is _ _ _ _) (by rfl) ?_
        | refine kdt_tail (knd := PySem.strKind _ _) (by k_asm) (by k_mem) (by k_asm) ?_)))
      k_with "getItem ref str" => ((k_here; k_dflt (refine kdt_getItem (knd := PySem.strKind _ _) (by k_asm) (by k_mem) (by k_asm) (strKind_is _ _ _ _) (by rfl) ?_)))
      k_with "setItem ref str" => ((k_here; k_dflt (refine' kda_set (knd := PySem.strKind _ _) ?FZ7 ?NZ7 ?UZ7 ?dZ7 (strKind_is _ _ _ _) ?zZ7 ?_; (case FZ7 => k_asm); (case NZ7 => k_asm); (case UZ7 => k_updF); (case dZ7 => k_asm); (case zZ7 => rw [sizeLine_eq]; exact Nat.le_of_ble_eq_true (by with_unfolding_all rfl))); intro h' o' F' N' hd'; (try dsimp only at N')))
      k_with "call builtin:len" => ((k_here; (with_reducible show wpAny _ _ (call (Value.builtin "len") [Value.ref _]) _ _ _); k_dflt (refine' len_mem ?NZ7 ?bZ7 ?zZ7 ?_; (case NZ7 => k_asm); (case bZ7 => k_mem); (case zZ7 => omega))))
      k_with "exec For Name" => ((k_here; (rename Fr _ _ _ _ => lF'); (with_unfolding_all refine' For_invVF lF' ?k1Z7 ?k2Z7 ?_; (case k1Z7 => exact rfl); (case k2Z7 => exact rfl); k_whole)))
      k_with "exec For Name Call cons nil" => ((k_here; (rename Fr _ _ _ _ => lF'); (with_unfolding_all refine' For_invVF lF' ?k1Z7 ?k2Z7 ?_; (case k1Z7 => exact rfl); (case k2Z7 => exact rfl); k_whole)))
      k_with "exec For Name Name cons nil" => ((k_here; (rename Fr _ _ _ _ => lF'); (with_unfolding_all refine' For_invVF lF' ?k1Z7 ?k2Z7 ?_; (case k1Z7 => exact rfl); (case k2Z7 => exact rfl); k_whole)))
      k_with "pyIter ref" => ((k_here; k_dflt k_extra "my loop"))
      k_with "LpPost" => ((dsimp only [LpPost]))
      k_with "call builtin:list.append" => ((k_here; (with_reducible show wpAny _ _ (call (Value.builtin _) _) _ _ _); k_dflt (refine' append_K ?k1Z7 ?k2Z7 ?k3Z7 ?_ ?zZ7; (case k1Z7 => k_asm); (case k2Z7 => k_asm); (case k3Z7 => k_upd); (case zZ7 => rw [PySem.sizeLine_eq]; simp only [List.size_toArray, List.length_append, List.length_cons, List.length_nil]; first | exact sz_el (by with_reducible assumption) (by with_reducible assumption) rfl | exact sz_ll (by with_reducible assumption) (by with_reducible assumption) rfl | exact sz_lt (by with_reducible assumption) rfl | exact sz_le (by with_reducible assumption) rfl | exact sz_eq (by with_reducible assumption) (by with_reducible assumption) rfl | exact Nat.le_of_ble_eq_true rfl | omega); k_whole); intro h' F' N'; (try k_sweep)))
      k_with "call type:range" => (((rename Fr _ _ _ _ => F'); (rename News _ _ _ _ => N'); first
        | (with_unfolding_all refine range1_rows F' N' ?_; intro _ _ _ _ _ _ _ _ _)
        | (with_unfolding_all refine range2_rows F' N' ?_; intro _ _ _ _ _ _ _ _ _)))
      k_with "CompEnd" => (((rename News _ _ _ _ => nE'); (rename LCg.Off3 _ _ _ _ => oE'); (rename Fr _ _ _ _ => fE'); (refine LCg.CompEnd.intro fE' nE' _ (fun _ h => h) oE' (by lcg_src) ?_)))
      k_with "call ref" => (k_here; (with_reducible show wpAny _ _ (call (Value.ref 179) _) _ _ _); k_dflt (refine' use_new ?kPZ7 ?k1Z7 ?k2Z7 ?k3Z7 ?k4Z7 ?k5Z7 ?kKZ7 (vnew_tell _ _ _ _ _ _ _ _) ?kdZ7 ?kuZ7 ?_; (case k1Z7 => k_asm); (case k2Z7 => k_asm); (case k3Z7 => k_asm); (case k4Z7 => k_asm); (case k5Z7 => k_asm); (case kKZ7 => first | exact rfl | assumption); (case kPZ7 => exact True.intro); (case kdZ7 => ktr_room); (case kuZ7 => first | exact hU 3 rfl | ktr_units); intro xD' tlD' h' tk' F' N' yD' vD'); (try simp only [List.cons_append, List.nil_append] at N'); (try dsimp only); (try k_fold))
      k_with "call ref" => (k_here; (with_reducible show wpAny _ _ (call (Value.ref 150) _) _ _ _); k_dflt (refine' use_null ?kPZ7 ?k1Z7 ?k2Z7 ?k3Z7 ?k4Z7 ?k5Z7 ?kKZ7 (vnull_tell _ _ _ _ _) ?kdZ7 ?kuZ7 ?_; (case k1Z7 => k_asm); (case k2Z7 => k_asm); (case k3Z7 => k_asm); (case k4Z7 => k_asm); (case k5Z7 => k_asm); (case kKZ7 => first | exact rfl | assumption); (case kPZ7 => exact True.intro); (case kdZ7 => ktr_room); (case kuZ7 => first | exact hU 3 rfl | ktr_units); intro xN' dN' k1N' k2N' tkN' h' tk' F' N' yN'); (try simp only [List.cons_append, List.nil_append] at N'); (try dsimp only); (try k_fold))
      k_with "call ref" => (k_here; (with_reducible show wpAny _ _ (call (Value.ref 204) _) _ _ _); k_dflt (refine' use_cv ?kPZ7 ?k1Z7 ?k2Z7 ?k3Z7 ?k4Z7 ?k5Z7 ?kKZ7 (char_tell _ _ _ _ _ _ _ _ ?hmZ7 ?hlZ7) ?kdZ7 ?kuZ7 ?_; (case k1Z7 => k_asm); (case k2Z7 => k_asm); (case k3Z7 => k_asm); (case k4Z7 => k_asm); (case k5Z7 => k_asm); (case kKZ7 => first | exact rfl | assumption); (case kPZ7 => exact True.intro); (case hmZ7 => k_mem); (case hlZ7 => first | exact lt_eq (by with_reducible assumption) (by with_reducible assumption) rfl | exact lt_lt (by with_reducible assumption) rfl | exact lt_el (by with_reducible assumption) (by with_reducible assumption) rfl | exact lt_le (by with_reducible assumption) rfl | omega | (simp only [List.length_cons, List.length_nil]; first | exact sz_el (by with_reducible assumption) (by with_reducible assumption) rfl | exact sz_ll (by with_reducible assumption) (by with_reducible assumption) rfl | exact sz_lt (by with_reducible assumption) rfl | exact sz_le (by with_reducible assumption) rfl | exact sz_eq (by with_reducible assumption) (by with_reducible assumption) rfl | exact Nat.le_of_ble_eq_true rfl | omega)); (case kdZ7 => ktr_room); (case kuZ7 => first | exact hU 5 rfl | ktr_units); intro xC' DC' cC' tlC' h' tk' F' N' yC' vC' mC'); (try simp only [List.cons_append, List.nil_append] at N'); (try dsimp only); (try k_fold))
      k_with "getAttr ref" => (k_here; (with_reducible show wpAny _ _ (getAttr (Value.ref _) (Str.ofString "kind") _) _ _ _); k_dflt (refine' get_kind ?g1Z7 ?g2Z7 ?g3Z7 ?g4Z7 ?g5Z7 ?_; (case g1Z7 => with_reducible assumption); (case g5Z7 => k_asm); (case g2Z7 => (intro p hp; k_mem)); (case g3Z7 => k_asm); (case g4Z7 => k_asm)); intro tg')
      k_with "getAttr ref" => (k_here; (with_reducible show wpAny _ _ (getAttr (Value.ref _) (Str.ofString "attrs") _) _ _ _); k_dflt (refine' get_attrs ?g1Z7 ?g2Z7 ?g3Z7 ?g4Z7 ?g5Z7 ?g6Z7 ?_; (case g1Z7 => with_reducible assumption); (case g5Z7 => k_asm); (case g2Z7 => (intro p hp; k_mem)); (case g3Z7 => k_asm); (case g4Z7 => k_asm); (case g6Z7 => k_handed)))
      k_with "getAttr ref" => (k_here; (with_reducible show wpAny _ _ (getAttr (Value.ref _) (Str.ofString "items") _) _ _ _); k_dflt (refine' get_items ?g1Z7 ?g2Z7 ?g3Z7 ?g4Z7 ?g5Z7 ?_; (case g1Z7 => with_reducible assumption); (case g5Z7 => k_asm); (case g2Z7 => (intro p hp; k_mem)); (case g3Z7 => k_asm); (case g4Z7 => k_asm)))
      k_with "my loop" => ((rename Fr _ _ _ _ => lF'); (rename News _ _ _ _ => lN'); (refine' build_list (x := Str.ofString "names") [] (fun i tl its => AxL w tl its (ns.take i) ∧ its.length ≤ i) rfl (by k_mem) lF' lN' ⟨.nil, Nat.le_refl _⟩ (fun i' v' u' tl' its' ci' I' oI' h' tk' hv' hR' hT' ha' F' N' o1' o2' o3' => ?_) (fun u' tl' its' ci' h' tk' hR' hT' ha' F' N' => ?_)); (all_goals (try (obtain ⟨nn', hn1', hn2'⟩ := q _ _ hv'; have hi2' := (List.getElem?_eq_some_iff.mp hv').1; simp only [List.length_cons, List.length_nil] at hi2'; cases hn1'))); (all_goals (obtain ⟨hR', hRl'⟩ := hR'; (try k_fold))))
      obtain ⟨ckind, cnames, cgen, cco, cmore⟩ := cs
      dsimp only at hk
      subst hk
      refine wpAny_call ?_
      first | (k_dflt k_enter) | fail "no entry"
      k_steps
      · rename Fr _ _ _ _ => F9
        rename News _ _ _ _ => N9
        exact build_apps [(_, _), (_, _)] F9 N9 rfl yN' o1' o2' o3' hT' ha' lj_same ⟨hR'.turn hn2' (.null (.head _) (.tail _ (.head _))), by rw [List.length_append, List.length_singleton]; omega⟩
      · rename Fr _ _ _ _ => F9
        rename News _ _ _ _ => N9
        exact build_apps _ F9 N9 rfl yC' o1' o2' o3' hT' ha' lj_same ⟨hR'.turn hn2' (.names (vC'.mono fun p hp => List.mem_append.mpr (.inl hp)) (List.mem_append.mpr (.inl mC'))), by rw [List.length_append, List.length_singleton]; omega⟩
      · rename Fr _ _ _ _ => F9
        rename News _ _ _ _ => N9
        rw [hns] at hR'
        obtain ⟨y1, y2, ye, ya, yb⟩ := AxL.two hR'
        subst ye
        exact end_dimn hret F9 N9 yD' (by k_all) ha' (fun p hp => by k_mem) vD' ya yb
  | some m1 l1 => cases h2 with
    | none =>
      refine tell_mk ?_
      intro dp un gd cn cs a ccd cl outer A₀ base h₀ L m s Q E PB B F X N T hk hdp hun hU hret
      k_with_none
      k_with "FinE" => (((unfold LCg.FinE); intro D' h' tk' F' N' o1'; (try simp only [off1_app, LCg.Off1, and_true, and_assoc] at o1'); (repeat (have hOf9 := And.left o1'; replace o1' := And.right o1')); (try simp only [List.nil_append, List.cons_append] at N'); (try dsimp only)))
      k_with "FinA" => (((unfold LCg.FinA); intro D' h' tk' F' N' o1'; (try simp only [off1_app, LCg.Off1, and_true, and_assoc] at o1'); (repeat (have hOf9 := And.left o1'; replace o1' := And.right o1')); (try simp only [List.nil_append, List.cons_append] at N'); (try dsimp only)))
      k_with "call type:list" => ((k_here; (with_reducible show wpAny _ _ (call (Value.type _) [Value.ref _]) _ _ _); k_dflt (refine' list_copyK ?FZ7 ?NZ7 (News.isList ?N2Z7 ?bZ7) ?_ ?zZ7; (case FZ7 => k_asm); (case NZ7 => k_asm); (case N2Z7 => k_asm); (case bZ7 => k_mem); (case zZ7 => rw [PySem.sizeLine_eq]; simp only [List.size_toArray, List.length_cons, List.length_nil]; first | exact sz_el (by with_reducible assumption) (by with_reducible assumption) rfl | exact sz_ll (by with_reducible assumption) (by with_reducible assumption) rfl | exact sz_lt (by with_reducible assumption) rfl | exact sz_le (by with_reducible assumption) rfl | exact sz_eq (by with_reducible assumption) (by with_reducible assumption) rfl | exact Nat.le_of_ble_eq_true rfl | omega)); intro D' c' h' F' N' l1; (try k_lt l1); (try k_sweep)))
      k_with "call builtin:isinstance" => ((k_here; k_dflt (refine' isi_call ?k1Z7 ?k2Z7 ?k3Z7 ?k4Z7 ?_; (case k1Z7 => k_in); (case k2Z7 => (intro M; exact InstAt.type (by k_inst))); (case k3Z7 => k_is); (case k4Z7 => intro e; cases e); k_whole)))
      k_with "getMethod ref" => ((k_here; (with_reducible show wpAny _ _ (getMethod (Value.ref _) (Str.ofString "get") _) _ _ _); k_dflt (refine kdg_method (knd := PySem.strKind _ _) (by k_asm) (by k_mem) (by k_asm) ?_)))
      k_with "call builtin:dict.get" => ((k_here; k_dflt (first
        | refine kdg_get1 (knd := PySem.strKind _ _) (by k_asm) (by k_mem) (by k_asm) (by k_asm) (strKind_is _ _ _ _) (some _) (by rfl) ?_
        | refine kdg_get1 (knd := PySem.strKind _ _) (by k_asm) (by k_mem) (by k_asm) (by k_asm) (strKind_is _ _ _ _) none (by rfl) ?_); (try dsimp only [Option.getD])))
      k_with "compareOp In str ref" => ((k_here; k_dflt (first
        | refine kda_in (knd := PySem.strKind _ _) (by k_asm) (by k_mem) (by k_asm) (by k_asm) (strKind_is _ _ _ _) true (by rfl) ?_
        | refine kda_in (knd := PySem.strKind _ _) (by k_asm) (by k_mem) (by k_asm) (by k_asm) (strKind_is _ _ _ _) false (by rfl) ?_)))
      k_with "compareOp NotIn str ref" => ((k_here; k_dflt (first
        | refine kdg_notin (knd := PySem.strKind _ _) (by k_asm) (by k_mem) (by k_asm) (by k_asm) (strKind_is _ _ _ _) true (by rfl) ?_
        | refine kdg_notin (knd := PySem.strKind _ _) (by k_asm) (by k_mem) (by k_asm) (by k_asm) (strKind_is _ _ _ _) false (by rfl) ?_); (try dsimp only [Bool.not_true, Bool.not_false])))
      k_with "subscriptTail" => ((k_here; (with_reducible show wpAny _ _ (subscriptTail _ _ (Value.ref _) (Value.str _ _)) _ _ _); k_dflt (first
        | refine kda_item (knd := PySem.strKind _ _) (by k_asm) (by k_mem) (by k_asm) (strKind_is _ _ _ _) (by rfl) ?_
        | refine kdt_tail (knd := PySem.strKind _ _) (by k_asm) (by k_mem) (by k_asm) ?_)))
      k_with "getItem ref str" => ((k_here; k_dflt (refine kdt_getItem (knd := PySem.strKind _ _) (by k_asm) (by k_mem) (by k_asm) (strKind_is _ _ _ _) (by rfl) ?_)))
      k_with "setItem ref str" => ((k_here; k_dflt (refine' kda_set (knd := PySem.strKind _ _) ?FZ7 ?NZ7 ?UZ7 ?dZ7 (strKind_is _ _ _ _) ?zZ7 ?_; (case FZ7 => k_asm); (case NZ7 => k_asm); (case UZ7 => k_updF); (case dZ7 => k_asm); (case zZ7 => rw [sizeLine_eq]; exact Nat.le_of_ble_eq_true (by with_unfolding_all rfl))); intro h' o' F' N' hd'; (try dsimp only at N')))
      k_with "call builtin:len" => ((k_here; (with_reducible show wpAny _ _ (call (Value.builtin "len") [Value.ref _]) _ _ _); k_dflt (refine' len_mem ?NZ7 ?bZ7 ?zZ7 ?_; (case NZ7 => k_asm); (case bZ7 => k_mem); (case zZ7 => omega))))
      k_with "exec For Name" => ((k_here; (rename Fr _ _ _ _ => lF'); (with_unfolding_all refine' For_invVF lF' ?k1Z7 ?k2Z7 ?_; (case k1Z7 => exact rfl); (case k2Z7 => exact rfl); k_whole)))
      k_with "exec For Name Call cons nil" => ((k_here; (rename Fr _ _ _ _ => lF'); (with_unfolding_all refine' For_invVF lF' ?k1Z7 ?k2Z7 ?_; (case k1Z7 => exact rfl); (case k2Z7 => exact rfl); k_whole)))
      k_with "exec For Name Name cons nil" => ((k_here; (rename Fr _ _ _ _ => lF'); (with_unfolding_all refine' For_invVF lF' ?k1Z7 ?k2Z7 ?_; (case k1Z7 => exact rfl); (case k2Z7 => exact rfl); k_whole)))
      k_with "pyIter ref" => ((k_here; k_dflt k_extra "my loop"))
      k_with "LpPost" => ((dsimp only [LpPost]))
      k_with "call builtin:list.append" => ((k_here; (with_reducible show wpAny _ _ (call (Value.builtin _) _) _ _ _); k_dflt (refine' append_K ?k1Z7 ?k2Z7 ?k3Z7 ?_ ?zZ7; (case k1Z7 => k_asm); (case k2Z7 => k_asm); (case k3Z7 => k_upd); (case zZ7 => rw [PySem.sizeLine_eq]; simp only [List.size_toArray, List.length_append, List.length_cons, List.length_nil]; first | exact sz_el (by with_reducible assumption) (by with_reducible assumption) rfl | exact sz_ll (by with_reducible assumption) (by with_reducible assumption) rfl | exact sz_lt (by with_reducible assumption) rfl | exact sz_le (by with_reducible assumption) rfl | exact sz_eq (by with_reducible assumption) (by with_reducible assumption) rfl | exact Nat.le_of_ble_eq_true rfl | omega); k_whole); intro h' F' N'; (try k_sweep)))
      k_with "call type:range" => (((rename Fr _ _ _ _ => F'); (rename News _ _ _ _ => N'); first
        | (with_unfolding_all refine range1_rows F' N' ?_; intro _ _ _ _ _ _ _ _ _)
        | (with_unfolding_all refine range2_rows F' N' ?_; intro _ _ _ _ _ _ _ _ _)))
      k_with "CompEnd" => (((rename News _ _ _ _ => nE'); (rename LCg.Off3 _ _ _ _ => oE'); (rename Fr _ _ _ _ => fE'); (refine LCg.CompEnd.intro fE' nE' _ (fun _ h => h) oE' (by lcg_src) ?_)))
      k_with "call ref" => (k_here; (with_reducible show wpAny _ _ (call (Value.ref 179) _) _ _ _); k_dflt (refine' use_new ?kPZ7 ?k1Z7 ?k2Z7 ?k3Z7 ?k4Z7 ?k5Z7 ?kKZ7 (vnew_tell _ _ _ _ _ _ _ _) ?kdZ7 ?kuZ7 ?_; (case k1Z7 => k_asm); (case k2Z7 => k_asm); (case k3Z7 => k_asm); (case k4Z7 => k_asm); (case k5Z7 => k_asm); (case kKZ7 => first | exact rfl | assumption); (case kPZ7 => exact True.intro); (case kdZ7 => ktr_room); (case kuZ7 => first | exact hU 3 rfl | ktr_units); intro xD' tlD' h' tk' F' N' yD' vD'); (try simp only [List.cons_append, List.nil_append] at N'); (try dsimp only); (try k_fold))
      k_with "call ref" => (k_here; (with_reducible show wpAny _ _ (call (Value.ref 150) _) _ _ _); k_dflt (refine' use_null ?kPZ7 ?k1Z7 ?k2Z7 ?k3Z7 ?k4Z7 ?k5Z7 ?kKZ7 (vnull_tell _ _ _ _ _) ?kdZ7 ?kuZ7 ?_; (case k1Z7 => k_asm); (case k2Z7 => k_asm); (case k3Z7 => k_asm); (case k4Z7 => k_asm); (case k5Z7 => k_asm); (case kKZ7 => first | exact rfl | assumption); (case kPZ7 => exact True.intro); (case kdZ7 => ktr_room); (case kuZ7 => first | exact hU 3 rfl | ktr_units); intro xN' dN' k1N' k2N' tkN' h' tk' F' N' yN'); (try simp only [List.cons_append, List.nil_append] at N'); (try dsimp only); (try k_fold))
      k_with "call ref" => (k_here; (with_reducible show wpAny _ _ (call (Value.ref 204) _) _ _ _); k_dflt (refine' use_cv ?kPZ7 ?k1Z7 ?k2Z7 ?k3Z7 ?k4Z7 ?k5Z7 ?kKZ7 (char_tell _ _ _ _ _ _ _ _ ?hmZ7 ?hlZ7) ?kdZ7 ?kuZ7 ?_; (case k1Z7 => k_asm); (case k2Z7 => k_asm); (case k3Z7 => k_asm); (case k4Z7 => k_asm); (case k5Z7 => k_asm); (case kKZ7 => first | exact rfl | assumption); (case kPZ7 => exact True.intro); (case hmZ7 => k_mem); (case hlZ7 => first | exact lt_eq (by with_reducible assumption) (by with_reducible assumption) rfl | exact lt_lt (by with_reducible assumption) rfl | exact lt_el (by with_reducible assumption) (by with_reducible assumption) rfl | exact lt_le (by with_reducible assumption) rfl | omega | (simp only [List.length_cons, List.length_nil]; first | exact sz_el (by with_reducible assumption) (by with_reducible assumption) rfl | exact sz_ll (by with_reducible assumption) (by with_reducible assumption) rfl | exact sz_lt (by with_reducible assumption) rfl | exact sz_le (by with_reducible assumption) rfl | exact sz_eq (by with_reducible assumption) (by with_reducible assumption) rfl | exact Nat.le_of_ble_eq_true rfl | omega)); (case kdZ7 => ktr_room); (case kuZ7 => first | exact hU 5 rfl | ktr_units); intro xC' DC' cC' tlC' h' tk' F' N' yC' vC' mC'); (try simp only [List.cons_append, List.nil_append] at N'); (try dsimp only); (try k_fold))
      k_with "getAttr ref" => (k_here; (with_reducible show wpAny _ _ (getAttr (Value.ref _) (Str.ofString "kind") _) _ _ _); k_dflt (refine' get_kind ?g1Z7 ?g2Z7 ?g3Z7 ?g4Z7 ?g5Z7 ?_; (case g1Z7 => with_reducible assumption); (case g5Z7 => k_asm); (case g2Z7 => (intro p hp; k_mem)); (case g3Z7 => k_asm); (case g4Z7 => k_asm)); intro tg')
      k_with "getAttr ref" => (k_here; (with_reducible show wpAny _ _ (getAttr (Value.ref _) (Str.ofString "attrs") _) _ _ _); k_dflt (refine' get_attrs ?g1Z7 ?g2Z7 ?g3Z7 ?g4Z7 ?g5Z7 ?g6Z7 ?_; (case g1Z7 => with_reducible assumption); (case g5Z7 => k_asm); (case g2Z7 => (intro p hp; k_mem)); (case g3Z7 => k_asm); (case g4Z7 => k_asm); (case g6Z7 => k_handed)))
      k_with "getAttr ref" => (k_here; (with_reducible show wpAny _ _ (getAttr (Value.ref _) (Str.ofString "items") _) _ _ _); k_dflt (refine' get_items ?g1Z7 ?g2Z7 ?g3Z7 ?g4Z7 ?g5Z7 ?_; (case g1Z7 => with_reducible assumption); (case g5Z7 => k_asm); (case g2Z7 => (intro p hp; k_mem)); (case g3Z7 => k_asm); (case g4Z7 => k_asm)))
      k_with "my loop" => ((rename Fr _ _ _ _ => lF'); (rename News _ _ _ _ => lN'); (refine' build_list (x := Str.ofString "names") [] (fun i tl its => AxL w tl its (ns.take i) ∧ its.length ≤ i) rfl (by k_mem) lF' lN' ⟨.nil, Nat.le_refl _⟩ (fun i' v' u' tl' its' ci' I' oI' h' tk' hv' hR' hT' ha' F' N' o1' o2' o3' => ?_) (fun u' tl' its' ci' h' tk' hR' hT' ha' F' N' => ?_)); (all_goals (try (obtain ⟨nn', hn1', hn2'⟩ := q _ _ hv'; have hi2' := (List.getElem?_eq_some_iff.mp hv').1; simp only [List.length_cons, List.length_nil] at hi2'; cases hn1'))); (all_goals (obtain ⟨hR', hRl'⟩ := hR'; (try k_fold))))
      obtain ⟨ckind, cnames, cgen, cco, cmore⟩ := cs
      dsimp only at hk
      subst hk
      refine wpAny_call ?_
      first | (k_dflt k_enter) | fail "no entry"
      k_steps
      · rename Fr _ _ _ _ => F9
        rename News _ _ _ _ => N9
        exact build_apps [(_, _), (_, _)] F9 N9 rfl yN' o1' o2' o3' hT' ha' lj_same ⟨hR'.turn hn2' (.null (.head _) (.tail _ (.head _))), by rw [List.length_append, List.length_singleton]; omega⟩
      · rename Fr _ _ _ _ => F9
        rename News _ _ _ _ => N9
        exact build_apps _ F9 N9 rfl yC' o1' o2' o3' hT' ha' lj_same ⟨hR'.turn hn2' (.names (vC'.mono fun p hp => List.mem_append.mpr (.inl hp)) (List.mem_append.mpr (.inl mC'))), by rw [List.length_append, List.length_singleton]; omega⟩
      · rename Fr _ _ _ _ => F9
        rename News _ _ _ _ => N9
        rw [hns] at hR'
        obtain ⟨y1, y2, ye, ya, yb⟩ := AxL.two hR'
        subst ye
        exact end_dimn hret F9 N9 yD' (by k_all) ha' (fun p hp => by k_mem) vD' ya yb
    | some m2 l2 =>
      refine tell_mk ?_
      intro dp un gd cn cs a ccd cl outer A₀ base h₀ L m s Q E PB B F X N T hk hdp hun hU hret
      k_with_none
      k_with "FinE" => (((unfold LCg.FinE); intro D' h' tk' F' N' o1'; (try simp only [off1_app, LCg.Off1, and_true, and_assoc] at o1'); (repeat (have hOf9 := And.left o1'; replace o1' := And.right o1')); (try simp only [List.nil_append, List.cons_append] at N'); (try dsimp only)))
      k_with "FinA" => (((unfold LCg.FinA); intro D' h' tk' F' N' o1'; (try simp only [off1_app, LCg.Off1, and_true, and_assoc] at o1'); (repeat (have hOf9 := And.left o1'; replace o1' := And.right o1')); (try simp only [List.nil_append, List.cons_append] at N'); (try dsimp only)))
      k_with "call type:list" => ((k_here; (with_reducible show wpAny _ _ (call (Value.type _) [Value.ref _]) _ _ _); k_dflt (refine' list_copyK ?FZ7 ?NZ7 (News.isList ?N2Z7 ?bZ7) ?_ ?zZ7; (case FZ7 => k_asm); (case NZ7 => k_asm); (case N2Z7 => k_asm); (case bZ7 => k_mem); (case zZ7 => rw [PySem.sizeLine_eq]; simp only [List.size_toArray, List.length_cons, List.length_nil]; first | exact sz_el (by with_reducible assumption) (by with_reducible assumption) rfl | exact sz_ll (by with_reducible assumption) (by with_reducible assumption) rfl | exact sz_lt (by with_reducible assumption) rfl | exact sz_le (by with_reducible assumption) rfl | exact sz_eq (by with_reducible assumption) (by with_reducible assumption) rfl | exact Nat.le_of_ble_eq_true rfl | omega)); intro D' c' h' F' N' l1; (try k_lt l1); (try k_sweep)))
      k_with "call builtin:isinstance" => ((k_here; k_dflt (refine' isi_call ?k1Z7 ?k2Z7 ?k3Z7 ?k4Z7 ?_; (case k1Z7 => k_in); (case k2Z7 => (intro M; exact InstAt.type (by k_inst))); (case k3Z7 => k_is); (case k4Z7 => intro e; cases e); k_whole)))
      k_with "getMethod ref" => ((k_here; (with_reducible show wpAny _ _ (getMethod (Value.ref _) (Str.ofString "get") _) _ _ _); k_dflt (refine kdg_method (knd := PySem.strKind _ _) (by k_asm) (by k_mem) (by k_asm) ?_)))
      k_with "call builtin:dict.get" => ((k_here; k_dflt (first
        | refine kdg_get1 (knd := PySem.strKind _ _) (by k_asm) (by k_mem) (by k_asm) (by k_asm) (strKind_is _ _ _ _) (some _) (by rfl) ?_
        | refine kdg_get1 (knd := PySem.strKind _ _) (by k_asm) (by k_mem) (by k_asm) (by k_asm) (strKind_is _ _ _ _) none (by rfl) ?_); (try dsimp only [Option.getD])))
      k_with "compareOp In str ref" => ((k_here; k_dflt (first
        | refine kda_in (knd := PySem.strKind _ _) (by k_asm) (by k_mem) (by k_asm) (by k_asm) (strKind_is _ _ _ _) true (by rfl) ?_
        | refine kda_in (knd := PySem.strKind _ _) (by k_asm) (by k_mem) (by k_asm) (by k_asm) (strKind_is _ _ _ _) false (by rfl) ?_)))
      k_with "compareOp NotIn str ref" => ((k_here; k_dflt (first
        | refine kdg_notin (knd := PySem.strKind _ _) (by k_asm) (by k_mem) (by k_asm) (by k_asm) (strKind_is _ _ _ _) true (by rfl) ?_
        | refine kdg_notin (knd := PySem.strKind _ _) (by k_asm) (by k_mem) (by k_asm) (by k_asm) (strKind_is _ _ _ _) false (by rfl) ?_); (try dsimp only [Bool.not_true, Bool.not_false])))
      k_with "subscriptTail" => ((k_here; (with_reducible show wpAny _ _ (subscriptTail _ _ (Value.ref _) (Value.str _ _)) _ _ _); k_dflt (first
        | refine kda_item (knd := PySem.strKind _ _) (by k_asm) (by k_mem) (by k_asm) (strKind_is _ _ _ _) (by rfl) ?_
        | refine kdt_tail (knd := PySem.strKind _ _) (by k_asm) (by k_mem) (by k_asm) ?_)))
      k_with "getItem ref str" => ((k_here; k_dflt (refine kdt_getItem (knd := PySem.strKind _ _) (by k_asm) (by k_mem) (by k_asm) (strKind_is _ _ _ _) (by rfl) ?_)))
      k_with "setItem ref str" => ((k_here; k_dflt (refine' kda_set (knd := PySem.strKind _ _) ?FZ7 ?NZ7 ?UZ7 ?dZ7 (strKind_is _ _ _ _) ?zZ7 ?_; (case FZ7 => k_asm); (case NZ7 => k_asm); (case UZ7 => k_updF); (case dZ7 => k_asm); (case zZ7 => rw [sizeLine_eq]; exact Nat.le_of_ble_eq_true (by with_unfolding_all rfl))); intro h' o' F' N' hd'; (try dsimp only at N')))
      k_with "call builtin:len" => ((k_here; (with_reducible show wpAny _ _ (call (Value.builtin "len") [Value.ref _]) _ _ _); k_dflt (refine' len_mem ?NZ7 ?bZ7 ?zZ7 ?_; (case NZ7 => k_asm); (case bZ7 => k_mem); (case zZ7 => omega))))
      k_with "exec For Name" => ((k_here; (rename Fr _ _ _ _ => lF'); (with_unfolding_all refine' For_invVF lF' ?k1Z7 ?k2Z7 ?_; (case k1Z7 => exact rfl); (case k2Z7 => exact rfl); k_whole)))
      k_with "exec For Name Call cons nil" => ((k_here; (rename Fr _ _ _ _ => lF'); (with_unfolding_all refine' For_invVF lF' ?k1Z7 ?k2Z7 ?_; (case k1Z7 => exact rfl); (case k2Z7 => exact rfl); k_whole)))
      k_with "exec For Name Name cons nil" => ((k_here; (rename Fr _ _ _ _ => lF'); (with_unfolding_all refine' For_invVF lF' ?k1Z7 ?k2Z7 ?_; (case k1Z7 => exact rfl); (case k2Z7 => exact rfl); k_whole)))
      k_with "pyIter ref" => ((k_here; k_dflt k_extra "my loop"))
      k_with "LpPost" => ((dsimp only [LpPost]))
      k_with "call builtin:list.append" => ((k_here; (with_reducible show wpAny _ _ (call (Value.builtin _) _) _ _ _); k_dflt (refine' append_K ?k1Z7 ?k2Z7 ?k3Z7 ?_ ?zZ7; (case k1Z7 => k_asm); (case k2Z7 => k_asm); (case k3Z7 => k_upd); (case zZ7 => rw [PySem.sizeLine_eq]; simp only [List.size_toArray, List.length_append, List.length_cons, List.length_nil]; first | exact sz_el (by with_reducible assumption) (by with_reducible assumption) rfl | exact sz_ll (by with_reducible assumption) (by with_reducible assumption) rfl | exact sz_lt (by with_reducible assumption) rfl | exact sz_le (by with_reducible assumption) rfl | exact sz_eq (by with_reducible assumption) (by with_reducible assumption) rfl | exact Nat.le_of_ble_eq_true rfl | omega); k_whole); intro h' F' N'; (try k_sweep)))
      k_with "call type:range" => (((rename Fr _ _ _ _ => F'); (rename News _ _ _ _ => N'); first
        | (with_unfolding_all refine range1_rows F' N' ?_; intro _ _ _ _ _ _ _ _ _)
        | (with_unfolding_all refine range2_rows F' N' ?_; intro _ _ _ _ _ _ _ _ _)))
      k_with "CompEnd" => (((rename News _ _ _ _ => nE'); (rename LCg.Off3 _ _ _ _ => oE'); (rename Fr _ _ _ _ => fE'); (refine LCg.CompEnd.intro fE' nE' _ (fun _ h => h) oE' (by lcg_src) ?_)))
      k_with "call ref" => (k_here; (with_reducible show wpAny _ _ (call (Value.ref 179) _) _ _ _); k_dflt (refine' use_new ?kPZ7 ?k1Z7 ?k2Z7 ?k3Z7 ?k4Z7 ?k5Z7 ?kKZ7 (vnew_tell _ _ _ _ _ _ _ _) ?kdZ7 ?kuZ7 ?_; (case k1Z7 => k_asm); (case k2Z7 => k_asm); (case k3Z7 => k_asm); (case k4Z7 => k_asm); (case k5Z7 => k_asm); (case kKZ7 => first | exact rfl | assumption); (case kPZ7 => exact True.intro); (case kdZ7 => ktr_room); (case kuZ7 => first | exact hU 3 rfl | ktr_units); intro xD' tlD' h' tk' F' N' yD' vD'); (try simp only [List.cons_append, List.nil_append] at N'); (try dsimp only); (try k_fold))
      k_with "call ref" => (k_here; (with_reducible show wpAny _ _ (call (Value.ref 150) _) _ _ _); k_dflt (refine' use_null ?kPZ7 ?k1Z7 ?k2Z7 ?k3Z7 ?k4Z7 ?k5Z7 ?kKZ7 (vnull_tell _ _ _ _ _) ?kdZ7 ?kuZ7 ?_; (case k1Z7 => k_asm); (case k2Z7 => k_asm); (case k3Z7 => k_asm); (case k4Z7 => k_asm); (case k5Z7 => k_asm); (case kKZ7 => first | exact rfl | assumption); (case kPZ7 => exact True.intro); (case kdZ7 => ktr_room); (case kuZ7 => first | exact hU 3 rfl | ktr_units); intro xN' dN' k1N' k2N' tkN' h' tk' F' N' yN'); (try simp only [List.cons_append, List.nil_append] at N'); (try dsimp only); (try k_fold))
      k_with "call ref" => (k_here; (with_reducible show wpAny _ _ (call (Value.ref 204) _) _ _ _); k_dflt (refine' use_cv ?kPZ7 ?k1Z7 ?k2Z7 ?k3Z7 ?k4Z7 ?k5Z7 ?kKZ7 (char_tell _ _ _ _ _ _ _ _ ?hmZ7 ?hlZ7) ?kdZ7 ?kuZ7 ?_; (case k1Z7 => k_asm); (case k2Z7 => k_asm); (case k3Z7 => k_asm); (case k4Z7 => k_asm); (case k5Z7 => k_asm); (case kKZ7 => first | exact rfl | assumption); (case kPZ7 => exact True.intro); (case hmZ7 => k_mem); (case hlZ7 => first | exact lt_eq (by with_reducible assumption) (by with_reducible assumption) rfl | exact lt_lt (by with_reducible assumption) rfl | exact lt_el (by with_reducible assumption) (by with_reducible assumption) rfl | exact lt_le (by with_reducible assumption) rfl | omega | (simp only [List.length_cons, List.length_nil]; first | exact sz_el (by with_reducible assumption) (by with_reducible assumption) rfl | exact sz_ll (by with_reducible assumption) (by with_reducible assumption) rfl | exact sz_lt (by with_reducible assumption) rfl | exact sz_le (by with_reducible assumption) rfl | exact sz_eq (by with_reducible assumption) (by with_reducible assumption) rfl | exact Nat.le_of_ble_eq_true rfl | omega)); (case kdZ7 => ktr_room); (case kuZ7 => first | exact hU 5 rfl | ktr_units); intro xC' DC' cC' tlC' h' tk' F' N' yC' vC' mC'); (try simp only [List.cons_append, List.nil_append] at N'); (try dsimp only); (try k_fold))
      k_with "getAttr ref" => (k_here; (with_reducible show wpAny _ _ (getAttr (Value.ref _) (Str.ofString "kind") _) _ _ _); k_dflt (refine' get_kind ?g1Z7 ?g2Z7 ?g3Z7 ?g4Z7 ?g5Z7 ?_; (case g1Z7 => with_reducible assumption); (case g5Z7 => k_asm); (case g2Z7 => (intro p hp; k_mem)); (case g3Z7 => k_asm); (case g4Z7 => k_asm)); intro tg')
      k_with "getAttr ref" => (k_here; (with_reducible show wpAny _ _ (getAttr (Value.ref _) (Str.ofString "attrs") _) _ _ _); k_dflt (refine' get_attrs ?g1Z7 ?g2Z7 ?g3Z7 ?g4Z7 ?g5Z7 ?g6Z7 ?_; (case g1Z7 => with_reducible assumption); (case g5Z7 => k_asm); (case g2Z7 => (intro p hp; k_mem)); (case g3Z7 => k_asm); (case g4Z7 => k_asm); (case g6Z7 => k_handed)))
      k_with "getAttr ref" => (k_here; (with_reducible show wpAny _ _ (getAttr (Value.ref _) (Str.ofString "items") _) _ _ _); k_dflt (refine' get_items ?g1Z7 ?g2Z7 ?g3Z7 ?g4Z7 ?g5Z7 ?_; (case g1Z7 => with_reducible assumption); (case g5Z7 => k_asm); (case g2Z7 => (intro p hp; k_mem)); (case g3Z7 => k_asm); (case g4Z7 => k_asm)))
      k_with "my loop" => ((rename Fr _ _ _ _ => lF'); (rename News _ _ _ _ => lN'); (refine' build_list (x := Str.ofString "names") [] (fun i tl its => AxL w tl its (ns.take i) ∧ its.length ≤ i) rfl (by k_mem) lF' lN' ⟨.nil, Nat.le_refl _⟩ (fun i' v' u' tl' its' ci' I' oI' h' tk' hv' hR' hT' ha' F' N' o1' o2' o3' => ?_) (fun u' tl' its' ci' h' tk' hR' hT' ha' F' N' => ?_)); (all_goals (try (obtain ⟨nn', hn1', hn2'⟩ := q _ _ hv'; have hi2' := (List.getElem?_eq_some_iff.mp hv').1; simp only [List.length_cons, List.length_nil] at hi2'; cases hn1'))); (all_goals (obtain ⟨hR', hRl'⟩ := hR'; (try k_fold))))
      obtain ⟨ckind, cnames, cgen, cco, cmore⟩ := cs
      dsimp only at hk
      subst hk
      refine wpAny_call ?_
      first | (k_dflt k_enter) | fail "no entry"
      k_steps
      · rename Fr _ _ _ _ => F9
        rename News _ _ _ _ => N9
        exact build_apps [(_, _), (_, _)] F9 N9 rfl yN' o1' o2' o3' hT' ha' lj_same ⟨hR'.turn hn2' (.null (.head _) (.tail _ (.head _))), by rw [List.length_append, List.length_singleton]; omega⟩
      · rename Fr _ _ _ _ => F9
        rename News _ _ _ _ => N9
        exact build_apps _ F9 N9 rfl yC' o1' o2' o3' hT' ha' lj_same ⟨hR'.turn hn2' (.names (vC'.mono fun p hp => List.mem_append.mpr (.inl hp)) (List.mem_append.mpr (.inl mC'))), by rw [List.length_append, List.length_singleton]; omega⟩
      · rename Fr _ _ _ _ => F9
        rename News _ _ _ _ => N9
        rw [hns] at hR'
        obtain ⟨y1, y2, ye, ya, yb⟩ := AxL.two hR'
        subst ye
        exact end_dimn hret F9 N9 yD' (by k_all) ha' (fun p hp => by k_mem) vD' ya yb
end
section
open PySem.Calls
theorem use_dimn {k : Nat} {w : World} {mean : ExcName → Option Value} {mg mb : Str → Option Value} {PB : Heap → Prop} {f : Addr} {args : List Value} {news : Led} {dp un : Nat} {gd : Option (List Code)} {cn : Str} {cs : Scope} {a : Addr} {ccd : Value} {cl : List (Str × Addr)} {outer : List Env} {A₀ : Around} {base h₀ : Heap} {L : Addr} {m : Str → Option Value} {s : Shared} {Q E : Value → Shared → Prop} {n1 n2 : Option (List Value)}
    (P : PB base) (B : Below A₀ base outer h₀) (F : Fr h₀ L s.heap m) (X : (fr.heap_1 w.params).In h₀) (N : News h₀ L s.heap news) (T : LTop mean mg mb h₀) (hk : cs.kind = .function) (C : Tell k w mean mg mb PB f args news (OutDimn w n1 n2)) (hd : dp + k < recursionLimit) (hu : un + 20 * k + 100 < cLine)
    (ret : ∀ (x D : Addr) (c : Nat) (v1 v2 : Value) (tl : Led) (h' : Heap) (tk' : Nat), Fr h₀ L h' m → News h₀ L h' (tl ++ news) → Apart (tl) news → VecAt w tl x (Str.ofString "list") D .none → (D, listOf [v1, v2].toArray c) ∈ tl → AxV w tl v1 n1 → AxV w tl v2 n2 → Q (.ref x) { s with heap := h', toks := tk' }) : wpAny (model LP w) (ktrTop dp un gd cn cs L a ccd cl outer) (call (.ref f) args) Q E s := by
  refine tell_use P B F X N T hk C hd hu ?_
  rintro r tl h' tk' F' N' y' ⟨x, D, c, v1, v2, rfl, q1, q2, q3, q4⟩
  exact ret x D c v1 v2 tl h' tk' F' N' y' q1 q2 q3 q4
theorem drop_arr {e a b : Addr × Obj} {t news : Led} : ∀ p ∈ (e :: (t ++ [a, b])) ++ news, p ∈ e :: (t ++ a :: b :: news) := fun p hp => by
  rw [List.cons_append, List.append_assoc] at hp
  exact hp
theorem drop_arr3 {e a b : Addr × Obj} {t news : Led} : ∀ p ∈ (t ++ [e, a, b]) ++ news, p ∈ t ++ e :: a :: b :: news := fun p hp => by
  rw [List.append_assoc] at hp
  exact hp
theorem drop_arr4 {e a b : Addr × Obj} {t u news : Led} : ∀ p ∈ (t ++ (u ++ [e, a, b])) ++ news, p ∈ t ++ (u ++ e :: a :: b :: news) := fun p hp => by
  rw [List.append_assoc, List.append_assoc] at hp
  exact hp
set_option maxHeartbeats 600000 in
theorem arr0_tell (w mean mg mb news) (tk : Tok) (D X R : Addr) (n m : Int) (t1 t2 : Tok) (c cr : Nat) (hX : (X, listOf [.int n t1, .int m t2].toArray c) ∈ news) (hR : (R, listOf [Value.none, Value.none].toArray cr) ∈ news) :
    Tell 9 w mean mg mb anyB 522 [.str (Str.ofString "double") tk, .ref D, .ref X, .ref R] news (OutMat w D n m none) := by
  refine tell_mk ?_
  intro dp un gd cn cs a ccd cl outer A₀ base h₀ L m s Q E PB B F X N T hk hdp hun hU hret
  k_with_none
  k_with "FinE" => (((unfold LCg.FinE); intro D' h' tk' F' N' o1'; (try simp only [off1_app, LCg.Off1, and_true, and_assoc] at o1'); (repeat (have hOf9 := And.left o1'; replace o1' := And.right o1')); (try simp only [List.nil_append, List.cons_append] at N'); (try dsimp only)))
  k_with "FinA" => (((unfold LCg.FinA); intro D' h' tk' F' N' o1'; (try simp only [off1_app, LCg.Off1, and_true, and_assoc] at o1'); (repeat (have hOf9 := And.left o1'; replace o1' := And.right o1')); (try simp only [List.nil_append, List.cons_append] at N'); (try dsimp only)))
  k_with "call type:list" => ((k_here; (with_reducible show wpAny _ _ (call (Value.type _) [Value.ref _]) _ _ _); k_dflt (refine' list_copyK ?FZ7 ?NZ7 (News.isList ?N2Z7 ?bZ7) ?_ ?zZ7; (case FZ7 => k_asm); (case NZ7 => k_asm); (case N2Z7 => k_asm); (case bZ7 => k_mem); (case zZ7 => rw [PySem.sizeLine_eq]; simp only [List.size_toArray, List.length_cons, List.length_nil]; first | exact sz_el (by with_reducible assumption) (by with_reducible assumption) rfl | exact sz_ll (by with_reducible assumption) (by with_reducible assumption) rfl | exact sz_lt (by with_reducible assumption) rfl | exact sz_le (by with_reducible assumption) rfl | exact sz_eq (by with_reducible assumption) (by with_reducible assumption) rfl | exact Nat.le_of_ble_eq_true rfl | omega)); intro D' c' h' F' N' l1; (try k_lt l1); (try k_sweep)))
  k_with "call builtin:isinstance" => ((k_here; k_dflt (refine' isi_call ?k1Z7 ?k2Z7 ?k3Z7 ?k4Z7 ?_; (case k1Z7 => k_in); (case k2Z7 => (intro M; exact InstAt.type (by k_inst))); (case k3Z7 => k_is); (case k4Z7 => intro e; cases e); k_whole)))
  k_with "getMethod ref" => ((k_here; (with_reducible show wpAny _ _ (getMethod (Value.ref _) (Str.ofString "get") _) _ _ _); k_dflt (refine kdg_method (knd := PySem.strKind _ _) (by k_asm) (by k_mem) (by k_asm) ?_)))
  k_with "call builtin:dict.get" => ((k_here; k_dflt (first
    | refine kdg_get1 (knd := PySem.strKind _ _) (by k_asm) (by k_mem) (by k_asm) (by k_asm) (strKind_is _ _ _ _) (some _) (by rfl) ?_
    | refine kdg_get1 (knd := PySem.strKind _ _) (by k_asm) (by k_mem) (by k_asm) (by k_asm) (strKind_is _ _ _ _) none (by rfl) ?_); (try dsimp only [Option.getD])))
  k_with "compareOp In str ref" => ((k_here; k_dflt (first
    | refine kda_in (knd := PySem.strKind _ _) (by k_asm) (by k_mem) (by k_asm) (by k_asm) (strKind_is _ _ _ _) true (by rfl) ?_
    | refine kda_in (knd := PySem.strKind _ _) (by k_asm) (by k_mem) (by k_asm) (by k_asm) (strKind_is _ _ _ _) false (by rfl) ?_)))
  k_with "compareOp NotIn str ref" => ((k_here; k_dflt (first
    | refine kdg_notin (knd := PySem.strKind _ _) (by k_asm) (by k_mem) (by k_asm) (by k_asm) (strKind_is _ _ _ _) true (by rfl) ?_
    | refine kdg_notin (knd := PySem.strKind _ _) (by k_asm) (by k_mem) (by k_asm) (by k_asm) (strKind_is _ _ _ _) false (by rfl) ?_); (try dsimp only [Bool.not_true, Bool.not_false])))
  k_with "subscriptTail" => ((k_here; (with_reducible show wpAny _ _ (subscriptTail _ _ (Value.ref _) (Value.str _ _)) _ _ _); k_dflt (first
    | refine kda_item (knd := PySem.strKind _ _) (by k_asm) (by k_mem) (by k_asm) (strKind_is _ _ _ _) (by rfl) ?_
    | refine kdt_tail (knd := PySem.strKind _ _) (by k_asm) (by k_mem) (by k_asm) ?_)))
  k_with "getItem ref str" => ((k_here; k_dflt (refine kdt_getItem (knd := PySem.strKind _ _) (by k_asm) (by k_mem) (by k_asm) (strKind_is _ _ _ _) (by rfl) ?_)))
  k_with "setItem ref str" => ((k_here; k_dflt (refine' kda_set (knd := PySem.strKind _ _) ?FZ7 ?NZ7 ?UZ7 ?dZ7 (strKind_is _ _ _ _) ?zZ7 ?_; (case FZ7 => k_asm); (case NZ7 => k_asm); (case UZ7 => k_updF); (case dZ7 => k_asm); (case zZ7 => rw [sizeLine_eq]; exact Nat.le_of_ble_eq_true (by with_unfolding_all rfl))); intro h' o' F' N' hd'; (try dsimp only at N')))
  k_with "call builtin:len" => ((k_here; (with_reducible show wpAny _ _ (call (Value.builtin "len") [Value.ref _]) _ _ _); k_dflt (refine' len_mem ?NZ7 ?bZ7 ?zZ7 ?_; (case NZ7 => k_asm); (case bZ7 => k_mem); (case zZ7 => omega))))
  k_with "eval ListComp" => ((k_here; k_dflt (refine LCg.ListComp_U (F₀ := by k_asm) (by with_unfolding_all rfl) (by decide) (by rfl) (by decide) (by rfl) ?_)))
  k_with "exec Assign cons ListComp" => ((k_here; k_dflt (refine LCg.Assign_ListComp_U (F₀ := by k_asm) (by rfl) (by with_unfolding_all rfl) (by with_unfolding_all rfl) (by decide) (by rfl) (by decide) (by rfl) (by rfl) (by rfl) ?_)))
  k_with "CompSrc" => ((k_here; (try k_fmods); k_dflt (refine LCg.CompSrc.range (by rfl) (by k_asm) (by k_asm) (by assumption) (by first | (with_reducible refine small_nat ?sm9; (case sm9 => first | exact lt_eq (by with_reducible assumption) (by with_reducible assumption) rfl | exact lt_lt (by with_reducible assumption) rfl | exact lt_el (by with_reducible assumption) (by with_reducible assumption) rfl | exact lt_le (by with_reducible assumption) rfl | omega)) | exact small_one (by kcf_bnd) (by kcf_bnd) (by kcf_bnd) (by kcf_bnd) | decide) (by first | exact rangeSize_nat _ _ | rfl) (by rw [PySem.sizeLine_eq]; first | exact sz_lt (by with_reducible assumption) rfl | exact sz_le (by with_reducible assumption) rfl | omega | (simp only [List.size_toArray]; omega)) ?_; intro g'; k_extra "my comp")))
  k_with "exec For Name" => ((k_here; (rename Fr _ _ _ _ => lF'); (with_unfolding_all refine' For_invVF lF' ?k1Z7 ?k2Z7 ?_; (case k1Z7 => exact rfl); (case k2Z7 => exact rfl); k_whole)))
  k_with "exec For Name Call cons nil" => ((k_here; (rename Fr _ _ _ _ => lF'); (with_unfolding_all refine' For_invVF lF' ?k1Z7 ?k2Z7 ?_; (case k1Z7 => exact rfl); (case k2Z7 => exact rfl); k_whole)))
  k_with "exec For Name Name cons nil" => ((k_here; (rename Fr _ _ _ _ => lF'); (with_unfolding_all refine' For_invVF lF' ?k1Z7 ?k2Z7 ?_; (case k1Z7 => exact rfl); (case k2Z7 => exact rfl); k_whole)))
  k_with "pyIter ref" => ((k_here; k_dflt k_extra "my loop"))
  k_with "LpPost" => ((dsimp only [LpPost]))
  k_with "call builtin:list.append" => ((k_here; k_dflt (refine' append_K ?k1Z7 ?k2Z7 ?k3Z7 ?_ ?zZ7; (case k1Z7 => k_asm); (case k2Z7 => k_asm); (case k3Z7 => k_upd); (case zZ7 => rw [PySem.sizeLine_eq]; simp only [List.size_toArray, List.length_append, List.length_cons, List.length_nil]; first | exact sz_el (by with_reducible assumption) (by with_reducible assumption) rfl | exact sz_ll (by with_reducible assumption) (by with_reducible assumption) rfl | exact sz_lt (by with_reducible assumption) rfl | exact sz_le (by with_reducible assumption) rfl | exact sz_eq (by with_reducible assumption) (by with_reducible assumption) rfl | exact Nat.le_of_ble_eq_true rfl | omega); k_whole); intro h' F' N'; (try k_sweep)))
  k_with "call type:range" => (((rename Fr _ _ _ _ => F'); (rename News _ _ _ _ => N'); first
    | (with_unfolding_all refine range1_rows F' N' ?_; intro _ _ _ _ _ _ _ _ _)
    | (with_unfolding_all refine range2_rows F' N' ?_; intro _ _ _ _ _ _ _ _ _)))
  k_with "call ref" => (k_here; (with_reducible show wpAny _ _ (call (Value.ref 179) _) _ _ _); k_dflt (refine' use_newx ?kPZ7 ?k1Z7 ?k2Z7 ?k3Z7 ?k4Z7 ?k5Z7 ?kKZ7 (vnew_tell _ _ _ _ _ _ _ _) ?kdZ7 ?kuZ7 ?_; (case k1Z7 => k_asm); (case k2Z7 => k_asm); (case k3Z7 => k_asm); (case k4Z7 => k_asm); (case k5Z7 => k_asm); (case kKZ7 => first | exact rfl | assumption); (case kPZ7 => exact True.intro); (case kdZ7 => ktr_room); (case kuZ7 => first | exact hU 3 rfl | ktr_units); intro x' d' k1' k2' k3' k4' k5' tk1' h' tk' F' N' y' lx' ll'); (try k_lt ll'); (try simp only [List.cons_append, List.nil_append] at N'); (try dsimp only); (try k_fold))
  k_with "call ref" => (k_here; (with_reducible show wpAny _ _ (call (Value.ref 197) _) _ _ _); k_dflt (refine' use_cv ?kPZ7 ?k1Z7 ?k2Z7 ?k3Z7 ?k4Z7 ?k5Z7 ?kKZ7 (int_tell _ _ _ _ _ _ _ _ ?hmZ7 ?hlZ7) ?kdZ7 ?kuZ7 ?_; (case k1Z7 => k_asm); (case k2Z7 => k_asm); (case k3Z7 => k_asm); (case k4Z7 => k_asm); (case k5Z7 => k_asm); (case kKZ7 => first | exact rfl | assumption); (case kPZ7 => exact True.intro); (case hmZ7 => k_mem); (case hlZ7 => first | exact lt_eq (by with_reducible assumption) (by with_reducible assumption) rfl | exact lt_lt (by with_reducible assumption) rfl | exact lt_el (by with_reducible assumption) (by with_reducible assumption) rfl | exact lt_le (by with_reducible assumption) rfl | omega | (simp only [List.length_cons, List.length_nil]; first | exact sz_el (by with_reducible assumption) (by with_reducible assumption) rfl | exact sz_ll (by with_reducible assumption) (by with_reducible assumption) rfl | exact sz_lt (by with_reducible assumption) rfl | exact sz_le (by with_reducible assumption) rfl | exact sz_eq (by with_reducible assumption) (by with_reducible assumption) rfl | exact Nat.le_of_ble_eq_true rfl | omega)); (case kdZ7 => ktr_room); (case kuZ7 => first | exact hU 5 rfl | ktr_units); intro x' D' c' tl' h' tk' F' N' y' v' m'); (try simp only [List.cons_append, List.nil_append] at N'); (try dsimp only); (try k_fold))
  k_with "call ref" => (k_here; (with_reducible show wpAny _ _ (call (Value.ref 515) _) _ _ _); k_dflt (refine' use_none ?kPZ7 ?k1Z7 ?k2Z7 ?k3Z7 ?k4Z7 ?k5Z7 ?kKZ7 (dimn0_tell _ _ _ _ _ _ _ ?hRZ7) ?kdZ7 ?kuZ7 ?_; (case k1Z7 => k_asm); (case k2Z7 => k_asm); (case k3Z7 => k_asm); (case k4Z7 => k_asm); (case k5Z7 => k_asm); (case kKZ7 => first | exact rfl | assumption); (case kPZ7 => exact True.intro); (case hRZ7 => k_mem); (case kdZ7 => ktr_room); (case kuZ7 => first | exact hU 6 rfl | ktr_units); intro h' tk' F' N'); (try simp only [List.cons_append, List.nil_append] at N'); (try dsimp only); (try k_fold))
  k_with "getAttr ref" => (k_here; (with_reducible show wpAny _ _ (getAttr (Value.ref _) (Str.ofString "kind") _) _ _ _); k_dflt (refine' get_kind ?g1Z7 ?g2Z7 ?g3Z7 ?g4Z7 ?g5Z7 ?_; (case g1Z7 => with_reducible assumption); (case g5Z7 => k_asm); (case g2Z7 => (intro p hp; k_mem)); (case g3Z7 => k_asm); (case g4Z7 => k_asm)); intro tg')
  k_with "getAttr ref" => (k_here; (with_reducible show wpAny _ _ (getAttr (Value.ref _) (Str.ofString "attrs") _) _ _ _); k_dflt (refine' get_attrs ?g1Z7 ?g2Z7 ?g3Z7 ?g4Z7 ?g5Z7 ?g6Z7 ?_; (case g1Z7 => with_reducible assumption); (case g5Z7 => k_asm); (case g2Z7 => (intro p hp; k_mem)); (case g3Z7 => k_asm); (case g4Z7 => k_asm); (case g6Z7 => k_handed)))
  k_with "getAttr ref" => (k_here; (with_reducible show wpAny _ _ (getAttr (Value.ref _) (Str.ofString "items") _) _ _ _); k_dflt (refine' get_items ?g1Z7 ?g2Z7 ?g3Z7 ?g4Z7 ?g5Z7 ?_; (case g1Z7 => with_reducible assumption); (case g5Z7 => k_asm); (case g2Z7 => (intro p hp; k_mem)); (case g3Z7 => k_asm); (case g4Z7 => k_asm)))
  obtain ⟨ckind, cnames, cgen, cco, cmore⟩ := cs
  dsimp only at hk
  subst hk
  refine wpAny_call ?_
  first | (k_dflt k_enter) | fail "no entry"
  k_steps
  rename Fr _ _ _ _ => F9
  rename News _ _ _ _ => N9
  refine' tell_end hret (_ ++ [(_, _), (_, _), (_, _)]) F9 N9 drop_arr3 ((y'.sub ?p2).append (Apart.c ?p1 (Apart.c ?p3 (Apart.c ?p4 (Apart.nil _))))) ⟨_, _, rfl, ⟨_, _, _, _, _, _, _, _, _, List.mem_append.mpr (.inr (.tail _ (.head _))), List.mem_append.mpr (.inr (.tail _ (.tail _ (.head _))))⟩, .plain (List.mem_append.mpr (.inr (.head _))) ?p5 ?p6 (v'.mono fun p hp => List.mem_append.mpr (.inl hp)) (List.mem_append.mpr (.inl m'))⟩
  case p1 => k_all
  case p2 => (intro p hp; k_mem)
  case p3 => k_all
  case p4 => k_all
  case p5 => assumption
  case p6 => assumption
set_option maxHeartbeats 600000 in
theorem arr1_tell (w mean mg mb news) (tk : Tok) (D X R : Addr) (n m : Int) (t1 t2 : Tok) (c cr : Nat) (v1 v2 : Value) (n1 n2 : Option (List Value)) (hX : (X, listOf [.int n t1, .int m t2].toArray c) ∈ news) (hR : (R, listOf [v1, v2].toArray cr) ∈ news) (h1 : NmV news v1 n1) (h2 : NmV news v2 n2) (hne : n1 ≠ none ∨ n2 ≠ none) :
    Tell 9 w mean mg mb anyB 522 [.str (Str.ofString "double") tk, .ref D, .ref X, .ref R] news (OutMat w D n m (some (n1, n2))) := by
  refine tell_mk ?_
  intro dp un gd cn cs a ccd cl outer A₀ base h₀ L m s Q E PB B F X N T hk hdp hun hU hret
  k_with_none
  k_with "FinE" => (((unfold LCg.FinE); intro D' h' tk' F' N' o1'; (try simp only [off1_app, LCg.Off1, and_true, and_assoc] at o1'); (repeat (have hOf9 := And.left o1'; replace o1' := And.right o1')); (try simp only [List.nil_append, List.cons_append] at N'); (try dsimp only)))
  k_with "FinA" => (((unfold LCg.FinA); intro D' h' tk' F' N' o1'; (try simp only [off1_app, LCg.Off1, and_true, and_assoc] at o1'); (repeat (have hOf9 := And.left o1'; replace o1' := And.right o1')); (try simp only [List.nil_append, List.cons_append] at N'); (try dsimp only)))
  k_with "call type:list" => ((k_here; (with_reducible show wpAny _ _ (call (Value.type _) [Value.ref _]) _ _ _); k_dflt (refine' list_copyK ?FZ7 ?NZ7 (News.isList ?N2Z7 ?bZ7) ?_ ?zZ7; (case FZ7 => k_asm); (case NZ7 => k_asm); (case N2Z7 => k_asm); (case bZ7 => k_mem); (case zZ7 => rw [PySem.sizeLine_eq]; simp only [List.size_toArray, List.length_cons, List.length_nil]; first | exact sz_el (by with_reducible assumption) (by with_reducible assumption) rfl | exact sz_ll (by with_reducible assumption) (by with_reducible assumption) rfl | exact sz_lt (by with_reducible assumption) rfl | exact sz_le (by with_reducible assumption) rfl | exact sz_eq (by with_reducible assumption) (by with_reducible assumption) rfl | exact Nat.le_of_ble_eq_true rfl | omega)); intro D' c' h' F' N' l1; (try k_lt l1); (try k_sweep)))
  k_with "call builtin:isinstance" => ((k_here; k_dflt (refine' isi_call ?k1Z7 ?k2Z7 ?k3Z7 ?k4Z7 ?_; (case k1Z7 => k_in); (case k2Z7 => (intro M; exact InstAt.type (by k_inst))); (case k3Z7 => k_is); (case k4Z7 => intro e; cases e); k_whole)))
  k_with "getMethod ref" => ((k_here; (with_reducible show wpAny _ _ (getMethod (Value.ref _) (Str.ofString "get") _) _ _ _); k_dflt (refine kdg_method (knd := PySem.strKind _ _) (by k_asm) (by k_mem) (by k_asm) ?_)))
  k_with "call builtin:dict.get" => ((k_here; k_dflt (first
    | refine kdg_get1 (knd := PySem.strKind _ _) (by k_asm) (by k_mem) (by k_asm) (by k_asm) (strKind_is _ _ _ _) (some _) (by rfl) ?_
    | refine kdg_get1 (knd := PySem.strKind _ _) (by k_asm) (by k_mem) (by k_asm) (by k_asm) (strKind_is _ _ _ _) none (by rfl) ?_); (try dsimp only [Option.getD])))
  k_with "compareOp In str ref" => ((k_here; k_dflt (first
    | refine kda_in (knd := PySem.strKind _ _) (by k_asm) (by k_mem) (by k_asm) (by k_asm) (strKind_is _ _ _ _) true (by rfl) ?_
    | refine kda_in (knd := PySem.strKind _ _) (by k_asm) (by k_mem) (by k_asm) (by k_asm) (strKind_is _ _ _ _) false (by rfl) ?_)))
  k_with "compareOp NotIn str ref" => ((k_here; k_dflt (first
    | refine kdg_notin (knd := PySem.strKind _ _) (by k_asm) (by k_mem) (by k_asm) (by k_asm) (strKind_is _ _ _ _) true (by rfl) ?_
    | refine kdg_notin (knd := PySem.strKind _ _) (by k_asm) (by k_mem) (by k_asm) (by k_asm) (strKind_is _ _ _ _) false (by rfl) ?_); (try dsimp only [Bool.not_true, Bool.not_false])))
  k_with "subscriptTail" => ((k_here; (with_reducible show wpAny _ _ (subscriptTail _ _ (Value.ref _) (Value.str _ _)) _ _ _); k_dflt (first
    | refine kda_item (knd := PySem.strKind _ _) (by k_asm) (by k_mem) (by k_asm) (strKind_is _ _ _ _) (by rfl) ?_
    | refine kdt_tail (knd := PySem.strKind _ _) (by k_asm) (by k_mem) (by k_asm) ?_)))
  k_with "getItem ref str" => ((k_here; k_dflt (refine kdt_getItem (knd := PySem.strKind _ _) (by k_asm) (by k_mem) (by k_asm) (strKind_is _ _ _ _) (by rfl) ?_)))
  k_with "setItem ref str" => ((k_here; k_dflt (refine' kda_set (knd := PySem.strKind _ _) ?FZ7 ?NZ7 ?UZ7 ?dZ7 (strKind_is _ _ _ _) ?zZ7 ?_; (case FZ7 => k_asm); (case NZ7 => k_asm); (case UZ7 => k_updF); (case dZ7 => k_asm); (case zZ7 => rw [sizeLine_eq]; exact Nat.le_of_ble_eq_true (by with_unfolding_all rfl))); intro h' o' F' N' hd'; (try dsimp only at N')))
  k_with "call builtin:len" => ((k_here; (with_reducible show wpAny _ _ (call (Value.builtin "len") [Value.ref _]) _ _ _); k_dflt (refine' len_mem ?NZ7 ?bZ7 ?zZ7 ?_; (case NZ7 => k_asm); (case bZ7 => k_mem); (case zZ7 => omega))))
  k_with "eval ListComp" => ((k_here; k_dflt (refine LCg.ListComp_U (F₀ := by k_asm) (by with_unfolding_all rfl) (by decide) (by rfl) (by decide) (by rfl) ?_)))
  k_with "exec Assign cons ListComp" => ((k_here; k_dflt (refine LCg.Assign_ListComp_U (F₀ := by k_asm) (by rfl) (by with_unfolding_all rfl) (by with_unfolding_all rfl) (by decide) (by rfl) (by decide) (by rfl) (by rfl) (by rfl) ?_)))
  k_with "CompSrc" => ((k_here; (try k_fmods); k_dflt (refine LCg.CompSrc.range (by rfl) (by k_asm) (by k_asm) (by assumption) (by first | (with_reducible refine small_nat ?sm9; (case sm9 => first | exact lt_eq (by with_reducible assumption) (by with_reducible assumption) rfl | exact lt_lt (by with_reducible assumption) rfl | exact lt_el (by with_reducible assumption) (by with_reducible assumption) rfl | exact lt_le (by with_reducible assumption) rfl | omega)) | exact small_one (by kcf_bnd) (by kcf_bnd) (by kcf_bnd) (by kcf_bnd) | decide) (by first | exact rangeSize_nat _ _ | rfl) (by rw [PySem.sizeLine_eq]; first | exact sz_lt (by with_reducible assumption) rfl | exact sz_le (by with_reducible assumption) rfl | omega | (simp only [List.size_toArray]; omega)) ?_; intro g'; k_extra "my comp")))
  k_with "exec For Name" => ((k_here; (rename Fr _ _ _ _ => lF'); (with_unfolding_all refine' For_invVF lF' ?k1Z7 ?k2Z7 ?_; (case k1Z7 => exact rfl); (case k2Z7 => exact rfl); k_whole)))
  k_with "exec For Name Call cons nil" => ((k_here; (rename Fr _ _ _ _ => lF'); (with_unfolding_all refine' For_invVF lF' ?k1Z7 ?k2Z7 ?_; (case k1Z7 => exact rfl); (case k2Z7 => exact rfl); k_whole)))
  k_with "exec For Name Name cons nil" => ((k_here; (rename Fr _ _ _ _ => lF'); (with_unfolding_all refine' For_invVF lF' ?k1Z7 ?k2Z7 ?_; (case k1Z7 => exact rfl); (case k2Z7 => exact rfl); k_whole)))
  k_with "pyIter ref" => ((k_here; k_dflt k_extra "my loop"))
  k_with "LpPost" => ((dsimp only [LpPost]))
  k_with "call builtin:list.append" => ((k_here; k_dflt (refine' append_K ?k1Z7 ?k2Z7 ?k3Z7 ?_ ?zZ7; (case k1Z7 => k_asm); (case k2Z7 => k_asm); (case k3Z7 => k_upd); (case zZ7 => rw [PySem.sizeLine_eq]; simp only [List.size_toArray, List.length_append, List.length_cons, List.length_nil]; first | exact sz_el (by with_reducible assumption) (by with_reducible assumption) rfl | exact sz_ll (by with_reducible assumption) (by with_reducible assumption) rfl | exact sz_lt (by with_reducible assumption) rfl | exact sz_le (by with_reducible assumption) rfl | exact sz_eq (by with_reducible assumption) (by with_reducible assumption) rfl | exact Nat.le_of_ble_eq_true rfl | omega); k_whole); intro h' F' N'; (try k_sweep)))
  k_with "call type:range" => (((rename Fr _ _ _ _ => F'); (rename News _ _ _ _ => N'); first
    | (with_unfolding_all refine range1_rows F' N' ?_; intro _ _ _ _ _ _ _ _ _)
    | (with_unfolding_all refine range2_rows F' N' ?_; intro _ _ _ _ _ _ _ _ _)))
  k_with "call ref" => (k_here; (with_reducible show wpAny _ _ (call (Value.ref 179) _) _ _ _); k_dflt (refine' use_newx ?kPZ7 ?k1Z7 ?k2Z7 ?k3Z7 ?k4Z7 ?k5Z7 ?kKZ7 (vnew_tell _ _ _ _ _ _ _ _) ?kdZ7 ?kuZ7 ?_; (case k1Z7 => k_asm); (case k2Z7 => k_asm); (case k3Z7 => k_asm); (case k4Z7 => k_asm); (case k5Z7 => k_asm); (case kKZ7 => first | exact rfl | assumption); (case kPZ7 => exact True.intro); (case kdZ7 => ktr_room); (case kuZ7 => first | exact hU 3 rfl | ktr_units); intro x' d' k1' k2' k3' k4' k5' tk1' h' tk' F' N' y' lx' ll'); (try k_lt ll'); (try simp only [List.cons_append, List.nil_append] at N'); (try dsimp only); (try k_fold))
  k_with "call ref" => (k_here; (with_reducible show wpAny _ _ (call (Value.ref 197) _) _ _ _); k_dflt (refine' use_cv ?kPZ7 ?k1Z7 ?k2Z7 ?k3Z7 ?k4Z7 ?k5Z7 ?kKZ7 (int_tell _ _ _ _ _ _ _ _ ?hmZ7 ?hlZ7) ?kdZ7 ?kuZ7 ?_; (case k1Z7 => k_asm); (case k2Z7 => k_asm); (case k3Z7 => k_asm); (case k4Z7 => k_asm); (case k5Z7 => k_asm); (case kKZ7 => first | exact rfl | assumption); (case kPZ7 => exact True.intro); (case hmZ7 => k_mem); (case hlZ7 => first | exact lt_eq (by with_reducible assumption) (by with_reducible assumption) rfl | exact lt_lt (by with_reducible assumption) rfl | exact lt_el (by with_reducible assumption) (by with_reducible assumption) rfl | exact lt_le (by with_reducible assumption) rfl | omega | (simp only [List.length_cons, List.length_nil]; first | exact sz_el (by with_reducible assumption) (by with_reducible assumption) rfl | exact sz_ll (by with_reducible assumption) (by with_reducible assumption) rfl | exact sz_lt (by with_reducible assumption) rfl | exact sz_le (by with_reducible assumption) rfl | exact sz_eq (by with_reducible assumption) (by with_reducible assumption) rfl | exact Nat.le_of_ble_eq_true rfl | omega)); (case kdZ7 => ktr_room); (case kuZ7 => first | exact hU 5 rfl | ktr_units); intro xI DI cI tlI h' tk' F' N' yI vI mI); (try simp only [List.cons_append, List.nil_append] at N'); (try dsimp only); (try k_fold))
  k_with "call ref" => (k_here; (with_reducible show wpAny _ _ (call (Value.ref 515) _) _ _ _); k_dflt (refine' use_dimn ?kPZ7 ?k1Z7 ?k2Z7 ?k3Z7 ?k4Z7 ?k5Z7 ?kKZ7 (dimn1_tell _ _ _ _ _ _ _ _ _ _ _ ?hRZ7 ?h1Z7 ?h2Z7 ?hneZ7) ?kdZ7 ?kuZ7 ?_; (case k1Z7 => k_asm); (case k2Z7 => k_asm); (case k3Z7 => k_asm); (case k4Z7 => k_asm); (case k5Z7 => k_asm); (case kKZ7 => first | exact rfl | assumption); (case kPZ7 => exact True.intro); (case hRZ7 => k_mem); (case h1Z7 => exact NmV.mono (by with_reducible assumption) (by intro p hp; k_mem)); (case h2Z7 => exact NmV.mono (by with_reducible assumption) (by intro p hp; k_mem)); (case hneZ7 => with_reducible assumption); (case kdZ7 => ktr_room); (case kuZ7 => first | exact hU 6 rfl | ktr_units); intro xn' Dn' cn' w1' w2' tl' h' tk' F' N' y' o1' o2' o3' o4'); (try simp only [List.cons_append, List.nil_append] at N'); (try dsimp only); (try k_fold))
  k_with "getAttr ref" => (k_here; (with_reducible show wpAny _ _ (getAttr (Value.ref _) (Str.ofString "kind") _) _ _ _); k_dflt (refine' get_kind ?g1Z7 ?g2Z7 ?g3Z7 ?g4Z7 ?g5Z7 ?_; (case g1Z7 => with_reducible assumption); (case g5Z7 => k_asm); (case g2Z7 => (intro p hp; k_mem)); (case g3Z7 => k_asm); (case g4Z7 => k_asm)); intro tg')
  k_with "getAttr ref" => (k_here; (with_reducible show wpAny _ _ (getAttr (Value.ref _) (Str.ofString "attrs") _) _ _ _); k_dflt (refine' get_attrs ?g1Z7 ?g2Z7 ?g3Z7 ?g4Z7 ?g5Z7 ?g6Z7 ?_; (case g1Z7 => with_reducible assumption); (case g5Z7 => k_asm); (case g2Z7 => (intro p hp; k_mem)); (case g3Z7 => k_asm); (case g4Z7 => k_asm); (case g6Z7 => k_handed)))
  k_with "getAttr ref" => (k_here; (with_reducible show wpAny _ _ (getAttr (Value.ref _) (Str.ofString "items") _) _ _ _); k_dflt (refine' get_items ?g1Z7 ?g2Z7 ?g3Z7 ?g4Z7 ?g5Z7 ?_; (case g1Z7 => with_reducible assumption); (case g5Z7 => k_asm); (case g2Z7 => (intro p hp; k_mem)); (case g3Z7 => k_asm); (case g4Z7 => k_asm)))
  obtain ⟨ckind, cnames, cgen, cco, cmore⟩ := cs
  dsimp only at hk
  subst hk
  refine wpAny_call ?_
  first | (k_dflt k_enter) | fail "no entry"
  k_steps
  rename Fr _ _ _ _ => F9
  rename News _ _ _ _ => N9
  refine' tell_end hret (_ ++ (_ ++ [(_, _), (_, _), (_, _)])) F9 N9 drop_arr4 ((y'.sub ?p2).append ((yI.sub ?p7).append (Apart.c ?p1 (Apart.c ?p3 (Apart.c ?p4 (Apart.nil _)))))) ⟨_, _, rfl, ⟨_, _, _, _, _, _, _, _, _, List.mem_append.mpr (.inr (List.mem_append.mpr (.inr (.tail _ (.head _))))), List.mem_append.mpr (.inr (List.mem_append.mpr (.inr (.tail _ (.tail _ (.head _))))))⟩, .named (List.mem_append.mpr (.inr (List.mem_append.mpr (.inr (.head _))))) ?p5 ?p6 (vI.mono fun p hp => List.mem_append.mpr (.inr (List.mem_append.mpr (.inl hp)))) (List.mem_append.mpr (.inr (List.mem_append.mpr (.inl mI)))) (o1'.mono fun p hp => List.mem_append.mpr (.inl hp)) (List.mem_append.mpr (.inl o2')) (o3'.mono fun p hp => List.mem_append.mpr (.inl hp)) (o4'.mono fun p hp => List.mem_append.mpr (.inl hp))⟩
  case p1 => k_all
  case p2 => (intro p hp; k_mem)
  case p7 => (intro p hp; k_mem)
  case p3 => k_all
  case p4 => k_all
  case p5 => assumption
  case p6 => assumption
end
section
open PySem.Calls
theorem NmR.none_eq' {c : Option (List Dat)} (h : NmR none c) : c = none := by
  cases c with
  | none => rfl
  | some x => exact h.elim
def nmsOf (a b : Option (List Value)) : Option (Option (List Value) × Option (List Value)) := if a = none ∧ b = none then none else some (a, b)
theorem nmsOf_R {p q : Option (List Value)} {a b : Option (List Dat)} (h : NmR p a) (k : NmR q b) : NmsR (nmsOf p q) a b := by
  unfold nmsOf
  split
  · rename_i e
    obtain ⟨e1, e2⟩ := e
    subst e1; subst e2
    exact ⟨NmR.none_eq' h, NmR.none_eq' k⟩
  · rename_i e
    refine ⟨h, k, ?_⟩
    cases p with
    | none =>
      cases q with
      | none => exact absurd ⟨rfl, rfl⟩ e
      | some y =>
        refine Or.inr fun e2 => ?_
        subst e2
        exact k
    | some x =>
      refine Or.inl fun e2 => ?_
      subst e2
      exact h
theorem arr_k (w mean mg mb news) (tk : Tok) (D X R : Addr) (n m : Int) (t1 t2 : Tok) (c cr : Nat) (v1 v2 : Value) (n1 n2 : Option (List Value)) (hX : (X, listOf [.int n t1, .int m t2].toArray c) ∈ news) (hR : (R, listOf [v1, v2].toArray cr) ∈ news) (h1 : NmV news v1 n1) (h2 : NmV news v2 n2) :
    Tell 9 w mean mg mb anyB 522 [.str (Str.ofString "double") tk, .ref D, .ref X, .ref R] news (OutMat w D n m (nmsOf n1 n2)) := by
  unfold nmsOf
  by_cases e : n1 = none ∧ n2 = none
  · rw [if_pos e]
    obtain ⟨e1, e2⟩ := e
    subst e1; subst e2
    cases h1; cases h2
    exact arr0_tell w mean mg mb news tk D X R n m t1 t2 c cr hX hR
  · rw [if_neg e]
    refine arr1_tell w mean mg mb news tk D X R n m t1 t2 c cr v1 v2 n1 n2 hX hR h1 h2 ?_
    cases n1 with
    | none =>
      cases n2 with
      | none => exact absurd ⟨rfl, rfl⟩ e
      | some y => exact Or.inr fun h => nomatch h
    | some x => exact Or.inl fun h => nomatch h
theorem use_mat {k : Nat} {w : World} {mean : ExcName → Option Value} {mg mb : Str → Option Value} {PB : Heap → Prop} {f : Addr} {args : List Value} {news : Led} {dp un : Nat} {gd : Option (List Code)} {cn : Str} {cs : Scope} {a : Addr} {ccd : Value} {cl : List (Str × Addr)} {outer : List Env} {A₀ : Around} {base h₀ : Heap} {L : Addr} {m : Str → Option Value} {s : Shared} {Q E : Value → Shared → Prop} {D : Addr} {n1 m1 : Int} {nms : Option (Option (List Value) × Option (List Value))}
    (P : PB base) (B : Below A₀ base outer h₀) (F : Fr h₀ L s.heap m) (X : (fr.heap_1 w.params).In h₀) (N : News h₀ L s.heap news) (T : LTop mean mg mb h₀) (hk : cs.kind = .function) (C : Tell k w mean mg mb PB f args news (OutMat w D n1 m1 nms)) (hd : dp + k < recursionLimit) (hu : un + 20 * k + 100 < cLine)
    (ret : ∀ (x ad : Addr) (tl : Led) (h' : Heap) (tk' : Nat), Fr h₀ L h' m → News h₀ L h' (tl ++ news) → Apart (tl) news → VecAt w tl x (Str.ofString "double") D (.ref ad) → MatA w tl ad n1 m1 nms → Q (.ref x) { s with heap := h', toks := tk' }) : wpAny (model LP w) (ktrTop dp un gd cn cs L a ccd cl outer) (call (.ref f) args) Q E s := by
  refine tell_use P B F X N T hk C hd hu ?_
  rintro r tl h' tk' F' N' y' ⟨x, ad, rfl, v', m'⟩
  exact ret x ad tl h' tk' F' N' y' v' m'
set_option maxHeartbeats 2000000 in
theorem outer_tell (w mean mg mb news) (xu Du : Addr) (vsu : List Value) (cu : Nat) (attu : Value) (nmu : Option (List Dat)) (hu : VecAt w news xu (Str.ofString "double") Du attu) (hDu : (Du, listOf vsu.toArray cu) ∈ news) (hnu : NamesAt w news attu nmu)
    (nau : Led) (as : List (Int × Int)) (hsu : ∀ p ∈ nau, p ∈ news) (hau : DatAll nau vsu (as.map frD)) (hSu : ∀ q ∈ as, Sm q) (hlu : vsu.length ≤ 4) (hnlu : ∀ ds, nmu = some ds → ds.length < 100)
    (xv Dv : Addr) (vsv : List Value) (cv : Nat) (attv : Value) (nmv : Option (List Dat)) (hv : VecAt w news xv (Str.ofString "double") Dv attv) (hDv : (Dv, listOf vsv.toArray cv) ∈ news) (hnv : NamesAt w news attv nmv)
    (nav : Led) (bs : List (Int × Int)) (hsv : ∀ p ∈ nav, p ∈ news) (hav : DatAll nav vsv (bs.map frD)) (hSv : ∀ q ∈ bs, Sm q) (hlv : vsv.length ≤ 4) (hnlv : ∀ ds, nmv = some ds → ds.length < 100) :
    Tell 14 w mean mg mb anyB 556 [.ref xu, .ref xv] news (OutOuter w ((PR as bs).map frD) vsu.length vsv.length nmu nmv) := by
  have hprod : (vsu.length : Int) * (vsv.length : Int) ≤ 16 := by
    have := Nat.mul_le_mul hlu hlv
    omega
  refine tell_mk ?_
  intro dp un gd cn cs a ccd cl outer A₀ base h₀ L m s Q E PB B F X N T hk hdp hun hU hret
  k_with_none
  k_with "FinE" => (((unfold LCg.FinE); intro D' h' tk' F' N' o1'; (try simp only [off1_app, LCg.Off1, and_true, and_assoc] at o1'); (repeat (have hOf9 := And.left o1'; replace o1' := And.right o1')); (try simp only [List.nil_append, List.cons_append] at N'); (try dsimp only)))
  k_with "FinA" => (((unfold LCg.FinA); intro D' h' tk' F' N' o1'; (try simp only [off1_app, LCg.Off1, and_true, and_assoc] at o1'); (repeat (have hOf9 := And.left o1'; replace o1' := And.right o1')); (try simp only [List.nil_append, List.cons_append] at N'); (try dsimp only)))
  k_with "call type:list" => ((k_here; (with_reducible show wpAny _ _ (call (Value.type _) [Value.ref _]) _ _ _); k_dflt (refine' list_copyK ?FZ7 ?NZ7 (News.isList ?N2Z7 ?bZ7) ?_ ?zZ7; (case FZ7 => k_asm); (case NZ7 => k_asm); (case N2Z7 => k_asm); (case bZ7 => k_mem); (case zZ7 => rw [PySem.sizeLine_eq]; simp only [List.size_toArray, List.length_cons, List.length_nil]; first | exact sz_el (by with_reducible assumption) (by with_reducible assumption) rfl | exact sz_ll (by with_reducible assumption) (by with_reducible assumption) rfl | exact sz_lt (by with_reducible assumption) rfl | exact sz_le (by with_reducible assumption) rfl | exact sz_eq (by with_reducible assumption) (by with_reducible assumption) rfl | exact Nat.le_of_ble_eq_true rfl | omega)); intro D' c' h' F' N' l1; (try k_lt l1); (try k_sweep)))
  k_with "call builtin:isinstance" => ((k_here; k_dflt (refine' isi_call ?k1Z7 ?k2Z7 ?k3Z7 ?k4Z7 ?_; (case k1Z7 => k_in); (case k2Z7 => (intro M; exact InstAt.type (by k_inst))); (case k3Z7 => k_is); (case k4Z7 => intro e; cases e); k_whole)))
  k_with "getMethod ref" => ((k_here; (with_reducible show wpAny _ _ (getMethod (Value.ref _) (Str.ofString "get") _) _ _ _); k_dflt (refine kdg_method (knd := PySem.strKind _ _) (by k_asm) (by k_mem) (by k_asm) ?_)))
  k_with "call builtin:dict.get" => ((k_here; k_dflt (first
    | refine kdg_get1 (knd := PySem.strKind _ _) (by k_asm) (by k_mem) (by k_asm) (by k_asm) (strKind_is _ _ _ _) (some _) (by rfl) ?_
    | refine kdg_get1 (knd := PySem.strKind _ _) (by k_asm) (by k_mem) (by k_asm) (by k_asm) (strKind_is _ _ _ _) none (by rfl) ?_); (try dsimp only [Option.getD])))
  k_with "compareOp In str ref" => ((k_here; k_dflt (first
    | refine kda_in (knd := PySem.strKind _ _) (by k_asm) (by k_mem) (by k_asm) (by k_asm) (strKind_is _ _ _ _) true (by rfl) ?_
    | refine kda_in (knd := PySem.strKind _ _) (by k_asm) (by k_mem) (by k_asm) (by k_asm) (strKind_is _ _ _ _) false (by rfl) ?_)))
  k_with "compareOp NotIn str ref" => ((k_here; k_dflt (first
    | refine kdg_notin (knd := PySem.strKind _ _) (by k_asm) (by k_mem) (by k_asm) (by k_asm) (strKind_is _ _ _ _) true (by rfl) ?_
    | refine kdg_notin (knd := PySem.strKind _ _) (by k_asm) (by k_mem) (by k_asm) (by k_asm) (strKind_is _ _ _ _) false (by rfl) ?_); (try dsimp only [Bool.not_true, Bool.not_false])))
  k_with "subscriptTail" => ((k_here; (with_reducible show wpAny _ _ (subscriptTail _ _ (Value.ref _) (Value.str _ _)) _ _ _); k_dflt (first
    | refine kda_item (knd := PySem.strKind _ _) (by k_asm) (by k_mem) (by k_asm) (strKind_is _ _ _ _) (by rfl) ?_
    | refine kdt_tail (knd := PySem.strKind _ _) (by k_asm) (by k_mem) (by k_asm) ?_)))
  k_with "getItem ref str" => ((k_here; k_dflt (refine kdt_getItem (knd := PySem.strKind _ _) (by k_asm) (by k_mem) (by k_asm) (strKind_is _ _ _ _) (by rfl) ?_)))
  k_with "setItem ref str" => ((k_here; k_dflt (refine' kda_set (knd := PySem.strKind _ _) ?FZ7 ?NZ7 ?UZ7 ?dZ7 (strKind_is _ _ _ _) ?zZ7 ?_; (case FZ7 => k_asm); (case NZ7 => k_asm); (case UZ7 => k_updF); (case dZ7 => k_asm); (case zZ7 => rw [sizeLine_eq]; exact Nat.le_of_ble_eq_true (by with_unfolding_all rfl))); intro h' o' F' N' hd'; (try dsimp only at N')))
  k_with "call builtin:len" => ((k_here; (with_reducible show wpAny _ _ (call (Value.builtin "len") [Value.ref _]) _ _ _); k_dflt (refine' len_mem ?NZ7 ?bZ7 ?zZ7 ?_; (case NZ7 => k_asm); (case bZ7 => k_mem); (case zZ7 => omega))))
  k_with "eval ListComp" => ((k_here; k_dflt (refine LCg.ListComp_U (F₀ := by k_asm) (by with_unfolding_all rfl) (by decide) (by rfl) (by decide) (by rfl) ?_)))
  k_with "exec Assign cons ListComp" => ((k_here; k_dflt (refine LCg.Assign_ListComp_U (F₀ := by k_asm) (by rfl) (by with_unfolding_all rfl) (by with_unfolding_all rfl) (by decide) (by rfl) (by decide) (by rfl) (by rfl) (by rfl) ?_)))
  k_with "CompSrc" => ((k_here; (try k_fmods); k_dflt (refine LCg.CompSrc.range (by rfl) (by k_asm) (by k_asm) (by assumption) (by first | (with_reducible refine small_nat ?sm9; (case sm9 => first | exact lt_eq (by with_reducible assumption) (by with_reducible assumption) rfl | exact lt_lt (by with_reducible assumption) rfl | exact lt_el (by with_reducible assumption) (by with_reducible assumption) rfl | exact lt_le (by with_reducible assumption) rfl | omega)) | exact small_one (by kcf_bnd) (by kcf_bnd) (by kcf_bnd) (by kcf_bnd) | decide) (by first | exact rangeSize_nat _ _ | rfl) (by rw [PySem.sizeLine_eq]; first | exact sz_lt (by with_reducible assumption) rfl | exact sz_le (by with_reducible assumption) rfl | omega | (simp only [List.size_toArray]; omega)) ?_; intro g'; k_extra "my comp")))
  k_with "exec For Name" => ((k_here; (rename Fr _ _ _ _ => lF'); (with_unfolding_all refine' For_invVF lF' ?k1Z7 ?k2Z7 ?_; (case k1Z7 => exact rfl); (case k2Z7 => exact rfl); k_whole)))
  k_with "exec For Name Call cons nil" => ((k_here; (rename Fr _ _ _ _ => lF'); (with_unfolding_all refine' For_invVF lF' ?k1Z7 ?k2Z7 ?_; (case k1Z7 => exact rfl); (case k2Z7 => exact rfl); k_whole)))
  k_with "exec For Name Name cons nil" => ((k_here; (rename Fr _ _ _ _ => lF'); (with_unfolding_all refine' For_invVF lF' ?k1Z7 ?k2Z7 ?_; (case k1Z7 => exact rfl); (case k2Z7 => exact rfl); k_whole)))
  k_with "pyIter ref" => ((k_here; k_dflt k_extra "my loop"))
  k_with "LpPost" => ((dsimp only [LpPost]))
  k_with "call builtin:list.append" => ((k_here; k_dflt (refine' append_K ?k1Z7 ?k2Z7 ?k3Z7 ?_ ?zZ7; (case k1Z7 => k_asm); (case k2Z7 => k_asm); (case k3Z7 => k_upd); (case zZ7 => rw [PySem.sizeLine_eq]; simp only [List.size_toArray, List.length_append, List.length_cons, List.length_nil]; first | exact sz_el (by with_reducible assumption) (by with_reducible assumption) rfl | exact sz_ll (by with_reducible assumption) (by with_reducible assumption) rfl | exact sz_lt (by with_reducible assumption) rfl | exact sz_le (by with_reducible assumption) rfl | exact sz_eq (by with_reducible assumption) (by with_reducible assumption) rfl | exact Nat.le_of_ble_eq_true rfl | omega); k_whole); intro h' F' N'; (try k_sweep)))
  k_with "call type:range" => (((rename Fr _ _ _ _ => F'); (rename News _ _ _ _ => N'); first
    | (with_unfolding_all refine range1_rows F' N' ?_; intro _ _ _ _ _ _ _ _ _)
    | (with_unfolding_all refine range2_rows F' N' ?_; intro _ _ _ _ _ _ _ _ _)))
  k_with "call ref" => (k_here; (with_reducible show wpAny _ _ (call (Value.ref 536) _) _ _ _); k_dflt (refine' use_copy ?kPZ7 ?k1Z7 ?k2Z7 ?k3Z7 ?k4Z7 ?k5Z7 ?kKZ7 (numbers_tell _ _ _ _ _ _ _ _ _ _ _ ?hvZ7 ?hDZ7 ?hnZ7 ?hlZ7 ?hl2Z7) ?kdZ7 ?kuZ7 ?_; (case k1Z7 => k_asm); (case k2Z7 => k_asm); (case k3Z7 => k_asm); (case k4Z7 => k_asm); (case k5Z7 => k_asm); (case kKZ7 => first | exact rfl | assumption); (case kPZ7 => exact True.intro); (case hvZ7 => exact VecAt.mono (by with_reducible assumption) (by intro p hp; k_mem)); (case hDZ7 => k_mem); (case hnZ7 => exact NamesAt.mono (by with_reducible assumption) (by intro p hp; k_mem)); (case hlZ7 => first | exact lt_eq (by with_reducible assumption) (by with_reducible assumption) rfl | exact lt_lt (by with_reducible assumption) rfl | exact lt_el (by with_reducible assumption) (by with_reducible assumption) rfl | exact lt_le (by with_reducible assumption) rfl | omega); (case hl2Z7 => assumption); (case kdZ7 => ktr_room); (case kuZ7 => first | exact hU 10 rfl | ktr_units); intro D' c' h' tk' F' N' y'); (try simp only [List.cons_append, List.nil_append] at N'); (try dsimp only); (try k_fold))
  k_with "call ref" => (k_here; (with_reducible show wpAny _ _ (call (Value.ref 80) _) _ _ _); k_dflt (refine' use_tup0 ?kPZ7 ?k1Z7 ?k2Z7 ?k3Z7 ?k4Z7 ?k5Z7 ?kKZ7 (mul_tell _ _ _ _ _ _ _ _ _ _ ?hmZ7 ?hqZ7 _ _ _ _ _ ?hm2Z7 ?hpZ7) ?kdZ7 ?kuZ7 ?_; (case k1Z7 => k_asm); (case k2Z7 => k_asm); (case k3Z7 => k_asm); (case k4Z7 => k_asm); (case k5Z7 => k_asm); (case kKZ7 => first | exact rfl | assumption); (case kPZ7 => exact True.intro); (case hmZ7 => k_mem); (case hqZ7 => with_reducible assumption); (case hm2Z7 => k_mem); (case hpZ7 => with_reducible assumption); (case kdZ7 => ktr_room); (case kuZ7 => first | exact hU 6 rfl | ktr_units); intro D' u1' u2' c' h' tk' F' N' y'); (try simp only [List.cons_append, List.nil_append] at N'); (try dsimp only); (try k_fold))
  k_with "call ref" => (k_here; (with_reducible show wpAny _ _ (call (Value.ref 482) _) _ _ _); k_dflt (refine' use_none ?kPZ7 ?k1Z7 ?k2Z7 ?k3Z7 ?k4Z7 ?k5Z7 ?kKZ7 (dims_k _ _ _ _ _ _ _ _ _ ?hvZ7 ?hnZ7) ?kdZ7 ?kuZ7 ?_; (case k1Z7 => k_asm); (case k2Z7 => k_asm); (case k3Z7 => k_asm); (case k4Z7 => k_asm); (case k5Z7 => k_asm); (case kKZ7 => first | exact rfl | assumption); (case kPZ7 => exact True.intro); (case hvZ7 => exact VecAt.mono (by with_reducible assumption) (by intro p hp; k_mem)); (case hnZ7 => exact NamesAt.mono (by with_reducible assumption) (by intro p hp; k_mem)); (case kdZ7 => ktr_room); (case kuZ7 => first | exact hU 3 rfl | ktr_units); intro h' tk' F' N'); (try simp only [List.cons_append, List.nil_append] at N'); (try dsimp only); (try k_fold))
  k_with "call ref" => (k_here; (with_reducible show wpAny _ _ (call (Value.ref 561) _) _ _ _); k_dflt (refine' use_on ?kPZ7 ?k1Z7 ?k2Z7 ?k3Z7 ?k4Z7 ?k5Z7 ?kKZ7 (onames_k _ _ _ _ _ _ _ _ _ ?hvZ7 ?hnZ7 ?hlZ7) ?kdZ7 ?kuZ7 ?_; (case k1Z7 => k_asm); (case k2Z7 => k_asm); (case k3Z7 => k_asm); (case k4Z7 => k_asm); (case k5Z7 => k_asm); (case kKZ7 => first | exact rfl | assumption); (case kPZ7 => exact True.intro); (case hvZ7 => exact VecAt.mono (by with_reducible assumption) (by intro p hp; k_mem)); (case hnZ7 => exact NamesAt.mono (by with_reducible assumption) (by intro p hp; k_mem)); (case hlZ7 => assumption); (case kdZ7 => ktr_room); (case kuZ7 => first | exact hU 5 rfl | ktr_units); intro D' v' c' n' h' tk' F' N' y' q1' q2'); (try simp only [List.cons_append, List.nil_append] at N'); (try dsimp only); (try k_fold))
  k_with "call ref" => (k_here; (with_reducible show wpAny _ _ (call (Value.ref 522) _) _ _ _); k_dflt (refine' use_mat ?kPZ7 ?k1Z7 ?k2Z7 ?k3Z7 ?k4Z7 ?k5Z7 ?kKZ7 (arr_k _ _ _ _ _ _ _ _ _ _ _ _ _ _ _ _ _ _ _ ?hXZ7 ?hRZ7 ?h1Z7 ?h2Z7) ?kdZ7 ?kuZ7 ?_; (case k1Z7 => k_asm); (case k2Z7 => k_asm); (case k3Z7 => k_asm); (case k4Z7 => k_asm); (case k5Z7 => k_asm); (case kKZ7 => first | exact rfl | assumption); (case kPZ7 => exact True.intro); (case hXZ7 => k_mem); (case hRZ7 => k_mem); (case h1Z7 => exact NmV.mono (by with_reducible assumption) (by intro p hp; k_mem)); (case h2Z7 => exact NmV.mono (by with_reducible assumption) (by intro p hp; k_mem)); (case kdZ7 => ktr_room); (case kuZ7 => first | exact hU 9 rfl | ktr_units); intro xM' adM' tl' h' tk' F' N' y' oM1' oM2'); (try simp only [List.cons_append, List.nil_append] at N'); (try dsimp only); (try k_fold))
  k_with "getAttr ref" => (k_here; (with_reducible show wpAny _ _ (getAttr (Value.ref _) (Str.ofString "kind") _) _ _ _); k_dflt (refine' get_kind ?g1Z7 ?g2Z7 ?g3Z7 ?g4Z7 ?g5Z7 ?_; (case g1Z7 => with_reducible assumption); (case g5Z7 => k_asm); (case g2Z7 => (intro p hp; k_mem)); (case g3Z7 => k_asm); (case g4Z7 => k_asm)); intro tg')
  k_with "getAttr ref" => (k_here; (with_reducible show wpAny _ _ (getAttr (Value.ref _) (Str.ofString "attrs") _) _ _ _); k_dflt (refine' get_attrs ?g1Z7 ?g2Z7 ?g3Z7 ?g4Z7 ?g5Z7 ?g6Z7 ?_; (case g1Z7 => with_reducible assumption); (case g5Z7 => k_asm); (case g2Z7 => (intro p hp; k_mem)); (case g3Z7 => k_asm); (case g4Z7 => k_asm); (case g6Z7 => k_handed)))
  k_with "getAttr ref" => (k_here; (with_reducible show wpAny _ _ (getAttr (Value.ref _) (Str.ofString "items") _) _ _ _); k_dflt (refine' get_items ?g1Z7 ?g2Z7 ?g3Z7 ?g4Z7 ?g5Z7 ?_; (case g1Z7 => with_reducible assumption); (case g5Z7 => k_asm); (case g2Z7 => (intro p hp; k_mem)); (case g3Z7 => k_asm); (case g4Z7 => k_asm)))
  k_with "my loop" => ((rename Fr _ _ _ _ => lF'); (rename News _ _ _ _ => lN'); (refine' build_list (x := Str.ofString "y") [Str.ofString "x"] (fun i tl its => DatAll tl its ((PR as (bs.take i)).map frD) ∧ its.length ≤ 4 * i) rfl (by k_mem) lF' lN' ⟨.nil, Nat.le_refl _⟩ (fun i' v' u' tl' its' ci' I' oI' h' tk' hv' hR' hT' ha' F' N' o1' o2' o3' => ?_) (fun u' tl' its' ci' h' tk' hR' hT' ha' F' N' => ?_)); (all_goals (try (obtain ⟨pa', pt1', pt2', pc', pq', pe', pm', pg', pS'⟩ := elem_of hav hsv hSv hv'; subst pe'; have hiy' := (List.getElem?_eq_some_iff.mp hv').1))); (all_goals (obtain ⟨hR', hRl'⟩ := hR'; (try k_fold))))
  k_with "my loop" => ((rename Fr _ _ _ _ => lF'); (rename News _ _ _ _ => lN'); (refine' build_list (x := Str.ofString "x") [] (fun i tl its => DatAll tl its ((as.take i).map fun q => frD (nrm (q.1 * pq'.1) (q.2 * pq'.2))) ∧ its.length ≤ i) rfl (by k_mem) lF' (news_swap lN') ⟨.nil, Nat.le_refl _⟩ (fun j' w' u2' tm' itt' cj' J' oJ' h2' tk2' hw' hR2' hT2' ha2' F2' N2' p1' p2' p3' => ?_) (fun u2' tm' itt' cj' h2' tk2' hR2' hT2' ha2' F2' N2' => ?_)); (all_goals (try (obtain ⟨qa', qt1', qt2', qc', qq', qe', qm', qg', qS'⟩ := elem_of hau hsu hSu hw'; subst qe'; have hix' := (List.getElem?_eq_some_iff.mp hw').1))); (all_goals (obtain ⟨hR2', hRl2'⟩ := hR2'; (try k_fold))))
  obtain ⟨ckind, cnames, cgen, cco, cmore⟩ := cs
  dsimp only at hk
  subst hk
  refine wpAny_call ?_
  first | (k_dflt k_enter) | fail "no entry"
  k_steps
  · rename Fr _ _ _ _ => F9
    rename News _ _ _ _ => N9
    rename Apart [_] _ => y9
    exact build_app F9 N9 rfl y9 p1' p2' p3' hT2' ha2' lj_same ⟨dat_turn (f := fun q => frD (nrm (q.1 * pq'.1) (q.2 * pq'.2))) hR2' qg' (datIn_tup (.head _)), by rw [List.length_append, List.length_singleton]; omega⟩
  · have hlu2 := hau.length
    rw [List.length_map] at hlu2
    exact build_nest F2' N2' rfl ha2' hT2' o1' o2' o3' hT' ha' lj_nest ⟨dat_nest hR' hR2' hlu2.symm pg', by rw [List.length_append]; omega⟩
  · have hlv2 := hav.length
    rw [List.length_map] at hlv2
    rw [List.take_of_length_le (Nat.le_of_eq hlv2.symm)] at hR'
    rename Fr _ _ _ _ => F9
    rename News _ _ _ _ => N9
    (refine' end_outer hret F9 N9 (fun p hp => List.mem_append.mpr (.inl hp)) ?l9 ?s9 ?t9 (y'.sub ?y9) ?a9 (ha'.sub ?b9) oM1' oM2' hR' (nmsOf_R ?r1 ?r2))
    case l9 => k_mem
    case s9 => (intro p hp; k_mem)
    case t9 => (intro p hp; k_mem)
    case y9 => (intro p hp; k_mem)
    case a9 => k_all
    case b9 => (intro p hp; k_mem)
    case r1 => with_reducible assumption
    case r2 => with_reducible assumption
end
section
open PySem.Calls
theorem drop_new {pre mid news : Led} {e : Addr × Obj} : ∀ p ∈ (pre ++ [e]) ++ news, p ∈ pre ++ e :: (mid ++ news) := by
  intro p hp
  simp only [List.mem_append, List.mem_cons, List.not_mem_nil, or_false] at hp ⊢
  rcases hp with (h | h) | h
  · exact .inl h
  · exact .inr (.inl h)
  · exact .inr (.inr (.inr h))
/-- the extents of a matrix, as its list of two -/
abbrev OutDimM (news : Led) (n m : Int) : Value → Led → Prop := fun r tl => ∃ D t1 t2 c, r = .ref D ∧ tl = [] ∧ (D, listOf [.int n t1, .int m t2].toArray c) ∈ news
theorem use_dimM {k : Nat} {w : World} {mean : ExcName → Option Value} {mg mb : Str → Option Value} {PB : Heap → Prop} {f : Addr} {args : List Value} {news : Led} {dp un : Nat} {gd : Option (List Code)} {cn : Str} {cs : Scope} {a : Addr} {ccd : Value} {cl : List (Str × Addr)} {outer : List Env} {A₀ : Around} {base h₀ : Heap} {L : Addr} {m : Str → Option Value} {s : Shared} {Q E : Value → Shared → Prop} {n1 m1 : Int}
    (P : PB base) (B : Below A₀ base outer h₀) (F : Fr h₀ L s.heap m) (X : (fr.heap_1 w.params).In h₀) (N : News h₀ L s.heap news) (T : LTop mean mg mb h₀) (hk : cs.kind = .function) (C : Tell k w mean mg mb PB f args news (OutDimM news n1 m1)) (hd : dp + k < recursionLimit) (hu : un + 20 * k + 100 < cLine)
    (ret : ∀ (D : Addr) (t1 t2 : Tok) (c : Nat) (h' : Heap) (tk' : Nat), Fr h₀ L h' m → News h₀ L h' (([] : Led) ++ news) → (D, listOf [.int n1 t1, .int m1 t2].toArray c) ∈ news → Q (.ref D) { s with heap := h', toks := tk' }) : wpAny (model LP w) (ktrTop dp un gd cn cs L a ccd cl outer) (call (.ref f) args) Q E s := by
  refine tell_use P B F X N T hk C hd hu ?_
  rintro r tl h' tk' F' N' y' ⟨D, t1, t2, c, rfl, rfl, q1⟩
  exact ret D t1 t2 c h' tk' F' N' q1
set_option maxHeartbeats 600000 in
theorem dimsM_k (w mean mg mb news) (x D ad : Addr) (n m : Int) (hv : VecAt w news x (Str.ofString "double") D (.ref ad)) (hM : MatA w news ad n m none) :
    Tell 3 w mean mg mb anyB 482 [.ref x] news (OutDimM news n m) := by
  cases hM with
  | plain h1 h2 h3 h4 h5 =>
    refine tell_mk ?_
    intro dp un gd cn cs a ccd cl outer A₀ base h₀ L m s Q E PB B F X N T hk hdp hun hU hret
    k_with_none
    k_with "FinE" => (((unfold LCg.FinE); intro D' h' tk' F' N' o1'; (try simp only [off1_app, LCg.Off1, and_true, and_assoc] at o1'); (repeat (have hOf9 := And.left o1'; replace o1' := And.right o1')); (try simp only [List.nil_append, List.cons_append] at N'); (try dsimp only)))
    k_with "FinA" => (((unfold LCg.FinA); intro D' h' tk' F' N' o1'; (try simp only [off1_app, LCg.Off1, and_true, and_assoc] at o1'); (repeat (have hOf9 := And.left o1'; replace o1' := And.right o1')); (try simp only [List.nil_append, List.cons_append] at N'); (try dsimp only)))
    k_with "call type:list" => ((k_here; (with_reducible show wpAny _ _ (call (Value.type _) [Value.ref _]) _ _ _); k_dflt (refine' list_copyK ?FZ7 ?NZ7 (News.isList ?N2Z7 ?bZ7) ?_ ?zZ7; (case FZ7 => k_asm); (case NZ7 => k_asm); (case N2Z7 => k_asm); (case bZ7 => k_mem); (case zZ7 => rw [PySem.sizeLine_eq]; simp only [List.size_toArray, List.length_cons, List.length_nil]; first | exact sz_el (by with_reducible assumption) (by with_reducible assumption) rfl | exact sz_ll (by with_reducible assumption) (by with_reducible assumption) rfl | exact sz_lt (by with_reducible assumption) rfl | exact sz_le (by with_reducible assumption) rfl | exact sz_eq (by with_reducible assumption) (by with_reducible assumption) rfl | exact Nat.le_of_ble_eq_true rfl | omega)); intro D' c' h' F' N' l1; (try k_lt l1); (try k_sweep)))
    k_with "call builtin:isinstance" => ((k_here; k_dflt (refine' isi_call ?k1Z7 ?k2Z7 ?k3Z7 ?k4Z7 ?_; (case k1Z7 => k_in); (case k2Z7 => (intro M; exact InstAt.type (by k_inst))); (case k3Z7 => k_is); (case k4Z7 => intro e; cases e); k_whole)))
    k_with "getMethod ref" => ((k_here; (with_reducible show wpAny _ _ (getMethod (Value.ref _) (Str.ofString "get") _) _ _ _); k_dflt (refine kdg_method (knd := PySem.strKind _ _) (by k_asm) (by k_mem) (by k_asm) ?_)))
    k_with "call builtin:dict.get" => ((k_here; k_dflt (first
      | refine kdg_get1 (knd := PySem.strKind _ _) (by k_asm) (by k_mem) (by k_asm) (by k_asm) (strKind_is _ _ _ _) (some _) (by rfl) ?_
      | refine kdg_get1 (knd := PySem.strKind _ _) (by k_asm) (by k_mem) (by k_asm) (by k_asm) (strKind_is _ _ _ _) none (by rfl) ?_); (try dsimp only [Option.getD])))
    k_with "compareOp In str ref" => ((k_here; k_dflt (first
      | refine kda_in (knd := PySem.strKind _ _) (by k_asm) (by k_mem) (by k_asm) (by k_asm) (strKind_is _ _ _ _) true (by rfl) ?_
      | refine kda_in (knd := PySem.strKind _ _) (by k_asm) (by k_mem) (by k_asm) (by k_asm) (strKind_is _ _ _ _) false (by rfl) ?_)))
    k_with "compareOp NotIn str ref" => ((k_here; k_dflt (first
      | refine kdg_notin (knd := PySem.strKind _ _) (by k_asm) (by k_mem) (by k_asm) (by k_asm) (strKind_is _ _ _ _) true (by rfl) ?_
      | refine kdg_notin (knd := PySem.strKind _ _) (by k_asm) (by k_mem) (by k_asm) (by k_asm) (strKind_is _ _ _ _) false (by rfl) ?_); (try dsimp only [Bool.not_true, Bool.not_false])))
    k_with "subscriptTail" => ((k_here; (with_reducible show wpAny _ _ (subscriptTail _ _ (Value.ref _) (Value.str _ _)) _ _ _); k_dflt (first
      | refine kda_item (knd := PySem.strKind _ _) (by k_asm) (by k_mem) (by k_asm) (strKind_is _ _ _ _) (by rfl) ?_
      | refine kdt_tail (knd := PySem.strKind _ _) (by k_asm) (by k_mem) (by k_asm) ?_)))
    k_with "getItem ref str" => ((k_here; k_dflt (refine kdt_getItem (knd := PySem.strKind _ _) (by k_asm) (by k_mem) (by k_asm) (strKind_is _ _ _ _) (by rfl) ?_)))
    k_with "setItem ref str" => ((k_here; k_dflt (refine' kda_set (knd := PySem.strKind _ _) ?FZ7 ?NZ7 ?UZ7 ?dZ7 (strKind_is _ _ _ _) ?zZ7 ?_; (case FZ7 => k_asm); (case NZ7 => k_asm); (case UZ7 => k_updF); (case dZ7 => k_asm); (case zZ7 => rw [sizeLine_eq]; exact Nat.le_of_ble_eq_true (by with_unfolding_all rfl))); intro h' o' F' N' hd'; (try dsimp only at N')))
    k_with "call builtin:len" => ((k_here; (with_reducible show wpAny _ _ (call (Value.builtin "len") [Value.ref _]) _ _ _); k_dflt (refine' len_mem ?NZ7 ?bZ7 ?zZ7 ?_; (case NZ7 => k_asm); (case bZ7 => k_mem); (case zZ7 => omega))))
    k_with "eval ListComp" => ((k_here; k_dflt (refine LCg.ListComp_U (F₀ := by k_asm) (by with_unfolding_all rfl) (by decide) (by rfl) (by decide) (by rfl) ?_)))
    k_with "exec Assign cons ListComp" => ((k_here; k_dflt (refine LCg.Assign_ListComp_U (F₀ := by k_asm) (by rfl) (by with_unfolding_all rfl) (by with_unfolding_all rfl) (by decide) (by rfl) (by decide) (by rfl) (by rfl) (by rfl) ?_)))
    k_with "CompSrc" => ((k_here; (try k_fmods); k_dflt (refine LCg.CompSrc.range (by rfl) (by k_asm) (by k_asm) (by assumption) (by first | (with_reducible refine small_nat ?sm9; (case sm9 => first | exact lt_eq (by with_reducible assumption) (by with_reducible assumption) rfl | exact lt_lt (by with_reducible assumption) rfl | exact lt_el (by with_reducible assumption) (by with_reducible assumption) rfl | exact lt_le (by with_reducible assumption) rfl | omega)) | exact small_one (by kcf_bnd) (by kcf_bnd) (by kcf_bnd) (by kcf_bnd) | decide) (by first | exact rangeSize_nat _ _ | rfl) (by rw [PySem.sizeLine_eq]; first | exact sz_lt (by with_reducible assumption) rfl | exact sz_le (by with_reducible assumption) rfl | omega | (simp only [List.size_toArray]; omega)) ?_; intro g'; k_extra "my comp")))
    k_with "exec For Name" => ((k_here; (rename Fr _ _ _ _ => lF'); (with_unfolding_all refine' For_invVF lF' ?k1Z7 ?k2Z7 ?_; (case k1Z7 => exact rfl); (case k2Z7 => exact rfl); k_whole)))
    k_with "exec For Name Call cons nil" => ((k_here; (rename Fr _ _ _ _ => lF'); (with_unfolding_all refine' For_invVF lF' ?k1Z7 ?k2Z7 ?_; (case k1Z7 => exact rfl); (case k2Z7 => exact rfl); k_whole)))
    k_with "exec For Name Name cons nil" => ((k_here; (rename Fr _ _ _ _ => lF'); (with_unfolding_all refine' For_invVF lF' ?k1Z7 ?k2Z7 ?_; (case k1Z7 => exact rfl); (case k2Z7 => exact rfl); k_whole)))
    k_with "pyIter ref" => ((k_here; k_dflt k_extra "my loop"))
    k_with "LpPost" => ((dsimp only [LpPost]))
    k_with "call builtin:list.append" => ((k_here; k_dflt (refine' append_K ?k1Z7 ?k2Z7 ?k3Z7 ?_ ?zZ7; (case k1Z7 => k_asm); (case k2Z7 => k_asm); (case k3Z7 => k_upd); (case zZ7 => rw [PySem.sizeLine_eq]; simp only [List.size_toArray, List.length_append, List.length_cons, List.length_nil]; first | exact sz_el (by with_reducible assumption) (by with_reducible assumption) rfl | exact sz_ll (by with_reducible assumption) (by with_reducible assumption) rfl | exact sz_lt (by with_reducible assumption) rfl | exact sz_le (by with_reducible assumption) rfl | exact sz_eq (by with_reducible assumption) (by with_reducible assumption) rfl | exact Nat.le_of_ble_eq_true rfl | omega); k_whole); intro h' F' N'; (try k_sweep)))
    k_with "call type:range" => (((rename Fr _ _ _ _ => F'); (rename News _ _ _ _ => N'); first
      | (with_unfolding_all refine range1_rows F' N' ?_; intro _ _ _ _ _ _ _ _ _)
      | (with_unfolding_all refine range2_rows F' N' ?_; intro _ _ _ _ _ _ _ _ _)))
    k_with "getAttr ref" => (k_here; (with_reducible show wpAny _ _ (getAttr (Value.ref _) (Str.ofString "kind") _) _ _ _); k_dflt (refine' get_kind ?g1Z7 ?g2Z7 ?g3Z7 ?g4Z7 ?g5Z7 ?_; (case g1Z7 => with_reducible assumption); (case g5Z7 => k_asm); (case g2Z7 => (intro p hp; k_mem)); (case g3Z7 => k_asm); (case g4Z7 => k_asm)); intro tg')
    k_with "getAttr ref" => (k_here; (with_reducible show wpAny _ _ (getAttr (Value.ref _) (Str.ofString "attrs") _) _ _ _); k_dflt (refine' get_attrs ?g1Z7 ?g2Z7 ?g3Z7 ?g4Z7 ?g5Z7 ?g6Z7 ?_; (case g1Z7 => with_reducible assumption); (case g5Z7 => k_asm); (case g2Z7 => (intro p hp; k_mem)); (case g3Z7 => k_asm); (case g4Z7 => k_asm); (case g6Z7 => k_handed)))
    k_with "getAttr ref" => (k_here; (with_reducible show wpAny _ _ (getAttr (Value.ref _) (Str.ofString "items") _) _ _ _); k_dflt (refine' get_items ?g1Z7 ?g2Z7 ?g3Z7 ?g4Z7 ?g5Z7 ?_; (case g1Z7 => with_reducible assumption); (case g5Z7 => k_asm); (case g2Z7 => (intro p hp; k_mem)); (case g3Z7 => k_asm); (case g4Z7 => k_asm)))
    obtain ⟨ckind, cnames, cgen, cco, cmore⟩ := cs
    dsimp only at hk
    subst hk
    refine wpAny_call ?_
    first | (k_dflt k_enter) | fail "no entry"
    k_steps
    rename Fr _ _ _ _ => F9
    rename News _ _ _ _ => N9
    exact tell_end hret [] F9 N9 (fun p hp => hp) (Apart.nil _) ⟨_, _, _, _, rfl, rfl, h5⟩
set_option maxHeartbeats 600000 in
theorem axis_k (w mean mg mb news) (i : Int) (t : Tok) (x D ad : Addr) (n m : Int) (hv : VecAt w news x (Str.ofString "double") D (.ref ad)) (hM : MatA w news ad n m none) :
    Tell 3 w mean mg mb anyB 503 [.ref x, .int i t] news (fun r tl => r = .none ∧ tl = []) := by
  cases hM with
  | plain h1 h2 h3 h4 h5 =>
    refine tell_mk ?_
    intro dp un gd cn cs a ccd cl outer A₀ base h₀ L m s Q E PB B F X N T hk hdp hun hU hret
    k_with_none
    k_with "FinE" => (((unfold LCg.FinE); intro D' h' tk' F' N' o1'; (try simp only [off1_app, LCg.Off1, and_true, and_assoc] at o1'); (repeat (have hOf9 := And.left o1'; replace o1' := And.right o1')); (try simp only [List.nil_append, List.cons_append] at N'); (try dsimp only)))
    k_with "FinA" => (((unfold LCg.FinA); intro D' h' tk' F' N' o1'; (try simp only [off1_app, LCg.Off1, and_true, and_assoc] at o1'); (repeat (have hOf9 := And.left o1'; replace o1' := And.right o1')); (try simp only [List.nil_append, List.cons_append] at N'); (try dsimp only)))
    k_with "call type:list" => ((k_here; (with_reducible show wpAny _ _ (call (Value.type _) [Value.ref _]) _ _ _); k_dflt (refine' list_copyK ?FZ7 ?NZ7 (News.isList ?N2Z7 ?bZ7) ?_ ?zZ7; (case FZ7 => k_asm); (case NZ7 => k_asm); (case N2Z7 => k_asm); (case bZ7 => k_mem); (case zZ7 => rw [PySem.sizeLine_eq]; simp only [List.size_toArray, List.length_cons, List.length_nil]; first | exact sz_el (by with_reducible assumption) (by with_reducible assumption) rfl | exact sz_ll (by with_reducible assumption) (by with_reducible assumption) rfl | exact sz_lt (by with_reducible assumption) rfl | exact sz_le (by with_reducible assumption) rfl | exact sz_eq (by with_reducible assumption) (by with_reducible assumption) rfl | exact Nat.le_of_ble_eq_true rfl | omega)); intro D' c' h' F' N' l1; (try k_lt l1); (try k_sweep)))
    k_with "call builtin:isinstance" => ((k_here; k_dflt (refine' isi_call ?k1Z7 ?k2Z7 ?k3Z7 ?k4Z7 ?_; (case k1Z7 => k_in); (case k2Z7 => (intro M; exact InstAt.type (by k_inst))); (case k3Z7 => k_is); (case k4Z7 => intro e; cases e); k_whole)))
    k_with "getMethod ref" => ((k_here; (with_reducible show wpAny _ _ (getMethod (Value.ref _) (Str.ofString "get") _) _ _ _); k_dflt (refine kdg_method (knd := PySem.strKind _ _) (by k_asm) (by k_mem) (by k_asm) ?_)))
    k_with "call builtin:dict.get" => ((k_here; k_dflt (first
      | refine kdg_get1 (knd := PySem.strKind _ _) (by k_asm) (by k_mem) (by k_asm) (by k_asm) (strKind_is _ _ _ _) (some _) (by rfl) ?_
      | refine kdg_get1 (knd := PySem.strKind _ _) (by k_asm) (by k_mem) (by k_asm) (by k_asm) (strKind_is _ _ _ _) none (by rfl) ?_); (try dsimp only [Option.getD])))
    k_with "compareOp In str ref" => ((k_here; k_dflt (first
      | refine kda_in (knd := PySem.strKind _ _) (by k_asm) (by k_mem) (by k_asm) (by k_asm) (strKind_is _ _ _ _) true (by rfl) ?_
      | refine kda_in (knd := PySem.strKind _ _) (by k_asm) (by k_mem) (by k_asm) (by k_asm) (strKind_is _ _ _ _) false (by rfl) ?_)))
    k_with "compareOp NotIn str ref" => ((k_here; k_dflt (first
      | refine kdg_notin (knd := PySem.strKind _ _) (by k_asm) (by k_mem) (by k_asm) (by k_asm) (strKind_is _ _ _ _) true (by rfl) ?_
      | refine kdg_notin (knd := PySem.strKind _ _) (by k_asm) (by k_mem) (by k_asm) (by k_asm) (strKind_is _ _ _ _) false (by rfl) ?_); (try dsimp only [Bool.not_true, Bool.not_false])))
    k_with "subscriptTail" => ((k_here; (with_reducible show wpAny _ _ (subscriptTail _ _ (Value.ref _) (Value.str _ _)) _ _ _); k_dflt (first
      | refine kda_item (knd := PySem.strKind _ _) (by k_asm) (by k_mem) (by k_asm) (strKind_is _ _ _ _) (by rfl) ?_
      | refine kdt_tail (knd := PySem.strKind _ _) (by k_asm) (by k_mem) (by k_asm) ?_)))
    k_with "getItem ref str" => ((k_here; k_dflt (refine kdt_getItem (knd := PySem.strKind _ _) (by k_asm) (by k_mem) (by k_asm) (strKind_is _ _ _ _) (by rfl) ?_)))
    k_with "setItem ref str" => ((k_here; k_dflt (refine' kda_set (knd := PySem.strKind _ _) ?FZ7 ?NZ7 ?UZ7 ?dZ7 (strKind_is _ _ _ _) ?zZ7 ?_; (case FZ7 => k_asm); (case NZ7 => k_asm); (case UZ7 => k_updF); (case dZ7 => k_asm); (case zZ7 => rw [sizeLine_eq]; exact Nat.le_of_ble_eq_true (by with_unfolding_all rfl))); intro h' o' F' N' hd'; (try dsimp only at N')))
    k_with "call builtin:len" => ((k_here; (with_reducible show wpAny _ _ (call (Value.builtin "len") [Value.ref _]) _ _ _); k_dflt (refine' len_mem ?NZ7 ?bZ7 ?zZ7 ?_; (case NZ7 => k_asm); (case bZ7 => k_mem); (case zZ7 => omega))))
    k_with "eval ListComp" => ((k_here; k_dflt (refine LCg.ListComp_U (F₀ := by k_asm) (by with_unfolding_all rfl) (by decide) (by rfl) (by decide) (by rfl) ?_)))
    k_with "exec Assign cons ListComp" => ((k_here; k_dflt (refine LCg.Assign_ListComp_U (F₀ := by k_asm) (by rfl) (by with_unfolding_all rfl) (by with_unfolding_all rfl) (by decide) (by rfl) (by decide) (by rfl) (by rfl) (by rfl) ?_)))
    k_with "CompSrc" => ((k_here; (try k_fmods); k_dflt (refine LCg.CompSrc.range (by rfl) (by k_asm) (by k_asm) (by assumption) (by first | (with_reducible refine small_nat ?sm9; (case sm9 => first | exact lt_eq (by with_reducible assumption) (by with_reducible assumption) rfl | exact lt_lt (by with_reducible assumption) rfl | exact lt_el (by with_reducible assumption) (by with_reducible assumption) rfl | exact lt_le (by with_reducible assumption) rfl | omega)) | exact small_one (by kcf_bnd) (by kcf_bnd) (by kcf_bnd) (by kcf_bnd) | decide) (by first | exact rangeSize_nat _ _ | rfl) (by rw [PySem.sizeLine_eq]; first | exact sz_lt (by with_reducible assumption) rfl | exact sz_le (by with_reducible assumption) rfl | omega | (simp only [List.size_toArray]; omega)) ?_; intro g'; k_extra "my comp")))
    k_with "exec For Name" => ((k_here; (rename Fr _ _ _ _ => lF'); (with_unfolding_all refine' For_invVF lF' ?k1Z7 ?k2Z7 ?_; (case k1Z7 => exact rfl); (case k2Z7 => exact rfl); k_whole)))
    k_with "exec For Name Call cons nil" => ((k_here; (rename Fr _ _ _ _ => lF'); (with_unfolding_all refine' For_invVF lF' ?k1Z7 ?k2Z7 ?_; (case k1Z7 => exact rfl); (case k2Z7 => exact rfl); k_whole)))
    k_with "exec For Name Name cons nil" => ((k_here; (rename Fr _ _ _ _ => lF'); (with_unfolding_all refine' For_invVF lF' ?k1Z7 ?k2Z7 ?_; (case k1Z7 => exact rfl); (case k2Z7 => exact rfl); k_whole)))
    k_with "pyIter ref" => ((k_here; k_dflt k_extra "my loop"))
    k_with "LpPost" => ((dsimp only [LpPost]))
    k_with "call builtin:list.append" => ((k_here; k_dflt (refine' append_K ?k1Z7 ?k2Z7 ?k3Z7 ?_ ?zZ7; (case k1Z7 => k_asm); (case k2Z7 => k_asm); (case k3Z7 => k_upd); (case zZ7 => rw [PySem.sizeLine_eq]; simp only [List.size_toArray, List.length_append, List.length_cons, List.length_nil]; first | exact sz_el (by with_reducible assumption) (by with_reducible assumption) rfl | exact sz_ll (by with_reducible assumption) (by with_reducible assumption) rfl | exact sz_lt (by with_reducible assumption) rfl | exact sz_le (by with_reducible assumption) rfl | exact sz_eq (by with_reducible assumption) (by with_reducible assumption) rfl | exact Nat.le_of_ble_eq_true rfl | omega); k_whole); intro h' F' N'; (try k_sweep)))
    k_with "call type:range" => (((rename Fr _ _ _ _ => F'); (rename News _ _ _ _ => N'); first
      | (with_unfolding_all refine range1_rows F' N' ?_; intro _ _ _ _ _ _ _ _ _)
      | (with_unfolding_all refine range2_rows F' N' ?_; intro _ _ _ _ _ _ _ _ _)))
    k_with "getAttr ref" => (k_here; (with_reducible show wpAny _ _ (getAttr (Value.ref _) (Str.ofString "kind") _) _ _ _); k_dflt (refine' get_kind ?g1Z7 ?g2Z7 ?g3Z7 ?g4Z7 ?g5Z7 ?_; (case g1Z7 => with_reducible assumption); (case g5Z7 => k_asm); (case g2Z7 => (intro p hp; k_mem)); (case g3Z7 => k_asm); (case g4Z7 => k_asm)); intro tg')
    k_with "getAttr ref" => (k_here; (with_reducible show wpAny _ _ (getAttr (Value.ref _) (Str.ofString "attrs") _) _ _ _); k_dflt (refine' get_attrs ?g1Z7 ?g2Z7 ?g3Z7 ?g4Z7 ?g5Z7 ?g6Z7 ?_; (case g1Z7 => with_reducible assumption); (case g5Z7 => k_asm); (case g2Z7 => (intro p hp; k_mem)); (case g3Z7 => k_asm); (case g4Z7 => k_asm); (case g6Z7 => k_handed)))
    k_with "getAttr ref" => (k_here; (with_reducible show wpAny _ _ (getAttr (Value.ref _) (Str.ofString "items") _) _ _ _); k_dflt (refine' get_items ?g1Z7 ?g2Z7 ?g3Z7 ?g4Z7 ?g5Z7 ?_; (case g1Z7 => with_reducible assumption); (case g5Z7 => k_asm); (case g2Z7 => (intro p hp; k_mem)); (case g3Z7 => k_asm); (case g4Z7 => k_asm)))
    obtain ⟨ckind, cnames, cgen, cco, cmore⟩ := cs
    dsimp only at hk
    subst hk
    refine wpAny_call ?_
    first | (k_dflt k_enter) | fail "no entry"
    k_steps
    rename Fr _ _ _ _ => F9
    rename News _ _ _ _ => N9
    exact tell_end hret [] F9 N9 (fun p hp => hp) (Apart.nil _) ⟨rfl, rfl⟩
set_option maxHeartbeats 600000 in
theorem shape_k (w mean mg mb news) (x D ad : Addr) (n m : Int) (hv : VecAt w news x (Str.ofString "double") D (.ref ad)) (hM : MatA w news ad n m none) :
    Tell 5 w mean mg mb anyB 496 [.ref x] news (OutTup (n, m)) := by
  refine tell_mk ?_
  intro dp un gd cn cs a ccd cl outer A₀ base h₀ L m s Q E PB B F X N T hk hdp hun hU hret
  k_with_none
  k_with "FinE" => (((unfold LCg.FinE); intro D' h' tk' F' N' o1'; (try simp only [off1_app, LCg.Off1, and_true, and_assoc] at o1'); (repeat (have hOf9 := And.left o1'; replace o1' := And.right o1')); (try simp only [List.nil_append, List.cons_append] at N'); (try dsimp only)))
  k_with "FinA" => (((unfold LCg.FinA); intro D' h' tk' F' N' o1'; (try simp only [off1_app, LCg.Off1, and_true, and_assoc] at o1'); (repeat (have hOf9 := And.left o1'; replace o1' := And.right o1')); (try simp only [List.nil_append, List.cons_append] at N'); (try dsimp only)))
  k_with "call type:list" => ((k_here; (with_reducible show wpAny _ _ (call (Value.type _) [Value.ref _]) _ _ _); k_dflt (refine' list_copyK ?FZ7 ?NZ7 (News.isList ?N2Z7 ?bZ7) ?_ ?zZ7; (case FZ7 => k_asm); (case NZ7 => k_asm); (case N2Z7 => k_asm); (case bZ7 => k_mem); (case zZ7 => rw [PySem.sizeLine_eq]; simp only [List.size_toArray, List.length_cons, List.length_nil]; first | exact sz_el (by with_reducible assumption) (by with_reducible assumption) rfl | exact sz_ll (by with_reducible assumption) (by with_reducible assumption) rfl | exact sz_lt (by with_reducible assumption) rfl | exact sz_le (by with_reducible assumption) rfl | exact sz_eq (by with_reducible assumption) (by with_reducible assumption) rfl | exact Nat.le_of_ble_eq_true rfl | omega)); intro D' c' h' F' N' l1; (try k_lt l1); (try k_sweep)))
  k_with "call builtin:isinstance" => ((k_here; k_dflt (refine' isi_call ?k1Z7 ?k2Z7 ?k3Z7 ?k4Z7 ?_; (case k1Z7 => k_in); (case k2Z7 => (intro M; exact InstAt.type (by k_inst))); (case k3Z7 => k_is); (case k4Z7 => intro e; cases e); k_whole)))
  k_with "getMethod ref" => ((k_here; (with_reducible show wpAny _ _ (getMethod (Value.ref _) (Str.ofString "get") _) _ _ _); k_dflt (refine kdg_method (knd := PySem.strKind _ _) (by k_asm) (by k_mem) (by k_asm) ?_)))
  k_with "call builtin:dict.get" => ((k_here; k_dflt (first
    | refine kdg_get1 (knd := PySem.strKind _ _) (by k_asm) (by k_mem) (by k_asm) (by k_asm) (strKind_is _ _ _ _) (some _) (by rfl) ?_
    | refine kdg_get1 (knd := PySem.strKind _ _) (by k_asm) (by k_mem) (by k_asm) (by k_asm) (strKind_is _ _ _ _) none (by rfl) ?_); (try dsimp only [Option.getD])))
  k_with "compareOp In str ref" => ((k_here; k_dflt (first
    | refine kda_in (knd := PySem.strKind _ _) (by k_asm) (by k_mem) (by k_asm) (by k_asm) (strKind_is _ _ _ _) true (by rfl) ?_
    | refine kda_in (knd := PySem.strKind _ _) (by k_asm) (by k_mem) (by k_asm) (by k_asm) (strKind_is _ _ _ _) false (by rfl) ?_)))
  k_with "compareOp NotIn str ref" => ((k_here; k_dflt (first
    | refine kdg_notin (knd := PySem.strKind _ _) (by k_asm) (by k_mem) (by k_asm) (by k_asm) (strKind_is _ _ _ _) true (by rfl) ?_
    | refine kdg_notin (knd := PySem.strKind _ _) (by k_asm) (by k_mem) (by k_asm) (by k_asm) (strKind_is _ _ _ _) false (by rfl) ?_); (try dsimp only [Bool.not_true, Bool.not_false])))
  k_with "subscriptTail" => ((k_here; (with_reducible show wpAny _ _ (subscriptTail _ _ (Value.ref _) (Value.str _ _)) _ _ _); k_dflt (first
    | refine kda_item (knd := PySem.strKind _ _) (by k_asm) (by k_mem) (by k_asm) (strKind_is _ _ _ _) (by rfl) ?_
    | refine kdt_tail (knd := PySem.strKind _ _) (by k_asm) (by k_mem) (by k_asm) ?_)))
  k_with "getItem ref str" => ((k_here; k_dflt (refine kdt_getItem (knd := PySem.strKind _ _) (by k_asm) (by k_mem) (by k_asm) (strKind_is _ _ _ _) (by rfl) ?_)))
  k_with "setItem ref str" => ((k_here; k_dflt (refine' kda_set (knd := PySem.strKind _ _) ?FZ7 ?NZ7 ?UZ7 ?dZ7 (strKind_is _ _ _ _) ?zZ7 ?_; (case FZ7 => k_asm); (case NZ7 => k_asm); (case UZ7 => k_updF); (case dZ7 => k_asm); (case zZ7 => rw [sizeLine_eq]; exact Nat.le_of_ble_eq_true (by with_unfolding_all rfl))); intro h' o' F' N' hd'; (try dsimp only at N')))
  k_with "call builtin:len" => ((k_here; (with_reducible show wpAny _ _ (call (Value.builtin "len") [Value.ref _]) _ _ _); k_dflt (refine' len_mem ?NZ7 ?bZ7 ?zZ7 ?_; (case NZ7 => k_asm); (case bZ7 => k_mem); (case zZ7 => omega))))
  k_with "eval ListComp" => ((k_here; k_dflt (refine LCg.ListComp_U (F₀ := by k_asm) (by with_unfolding_all rfl) (by decide) (by rfl) (by decide) (by rfl) ?_)))
  k_with "exec Assign cons ListComp" => ((k_here; k_dflt (refine LCg.Assign_ListComp_U (F₀ := by k_asm) (by rfl) (by with_unfolding_all rfl) (by with_unfolding_all rfl) (by decide) (by rfl) (by decide) (by rfl) (by rfl) (by rfl) ?_)))
  k_with "CompSrc" => ((k_here; (try k_fmods); k_dflt (refine LCg.CompSrc.range (by rfl) (by k_asm) (by k_asm) (by assumption) (by first | (with_reducible refine small_nat ?sm9; (case sm9 => first | exact lt_eq (by with_reducible assumption) (by with_reducible assumption) rfl | exact lt_lt (by with_reducible assumption) rfl | exact lt_el (by with_reducible assumption) (by with_reducible assumption) rfl | exact lt_le (by with_reducible assumption) rfl | omega)) | exact small_one (by kcf_bnd) (by kcf_bnd) (by kcf_bnd) (by kcf_bnd) | decide) (by first | exact rangeSize_nat _ _ | rfl) (by rw [PySem.sizeLine_eq]; first | exact sz_lt (by with_reducible assumption) rfl | exact sz_le (by with_reducible assumption) rfl | omega | (simp only [List.size_toArray]; omega)) ?_; intro g'; k_extra "my comp")))
  k_with "exec For Name" => ((k_here; (rename Fr _ _ _ _ => lF'); (with_unfolding_all refine' For_invVF lF' ?k1Z7 ?k2Z7 ?_; (case k1Z7 => exact rfl); (case k2Z7 => exact rfl); k_whole)))
  k_with "exec For Name Call cons nil" => ((k_here; (rename Fr _ _ _ _ => lF'); (with_unfolding_all refine' For_invVF lF' ?k1Z7 ?k2Z7 ?_; (case k1Z7 => exact rfl); (case k2Z7 => exact rfl); k_whole)))
  k_with "exec For Name Name cons nil" => ((k_here; (rename Fr _ _ _ _ => lF'); (with_unfolding_all refine' For_invVF lF' ?k1Z7 ?k2Z7 ?_; (case k1Z7 => exact rfl); (case k2Z7 => exact rfl); k_whole)))
  k_with "pyIter ref" => ((k_here; k_dflt k_extra "my loop"))
  k_with "LpPost" => ((dsimp only [LpPost]))
  k_with "call builtin:list.append" => ((k_here; k_dflt (refine' append_K ?k1Z7 ?k2Z7 ?k3Z7 ?_ ?zZ7; (case k1Z7 => k_asm); (case k2Z7 => k_asm); (case k3Z7 => k_upd); (case zZ7 => rw [PySem.sizeLine_eq]; simp only [List.size_toArray, List.length_append, List.length_cons, List.length_nil]; first | exact sz_el (by with_reducible assumption) (by with_reducible assumption) rfl | exact sz_ll (by with_reducible assumption) (by with_reducible assumption) rfl | exact sz_lt (by with_reducible assumption) rfl | exact sz_le (by with_reducible assumption) rfl | exact sz_eq (by with_reducible assumption) (by with_reducible assumption) rfl | exact Nat.le_of_ble_eq_true rfl | omega); k_whole); intro h' F' N'; (try k_sweep)))
  k_with "call type:range" => (((rename Fr _ _ _ _ => F'); (rename News _ _ _ _ => N'); first
    | (with_unfolding_all refine range1_rows F' N' ?_; intro _ _ _ _ _ _ _ _ _)
    | (with_unfolding_all refine range2_rows F' N' ?_; intro _ _ _ _ _ _ _ _ _)))
  k_with "subscriptTail" => ((k_here; (with_reducible show wpAny _ _ (subscriptTail _ _ (Value.ref _) (Value.int _ _)) _ _ _); k_dflt (refine' item_raw ?NZ7 ?bZ7 ?h0Z7 ?hkZ7 ?hbZ7 ?_; (case NZ7 => k_asm); (case bZ7 => k_mem); (case h0Z7 => omega); (case hkZ7 => omega); (case hbZ7 => omega))))
  k_with "subscriptTail" => ((k_here; (with_reducible show wpAny _ _ (subscriptTail _ _ (Value.ref _) (Value.int _ _)) _ _ _); k_dflt (refine' item_listL (l := [_, _]) (News.isList ?NZ7 ?bZ7) ?h0Z7 ?hfZ7 ?hxZ7 ?_; (case NZ7 => k_asm); (case bZ7 => k_mem); (case h0Z7 => decide); (case hfZ7 => decide); (case hxZ7 => exact rfl))))
  k_with "subscriptTail Name BinOp ref int" => ((k_here; (with_reducible show wpAny _ _ (subscriptTail _ _ (Value.ref _) (Value.int _ _)) _ _ _); k_dflt (refine' item_raw ?NZ7 ?bZ7 ?h0Z7 ?hkZ7 ?hbZ7 ?_; (case NZ7 => k_asm); (case bZ7 => k_mem); (case h0Z7 => omega); (case hkZ7 => omega); (case hbZ7 => omega))))
  k_with "subscriptTail Name Name ref int" => ((k_here; (with_reducible show wpAny _ _ (subscriptTail _ _ (Value.ref _) (Value.int _ _)) _ _ _); k_dflt (refine' item_raw ?NZ7 ?bZ7 ?h0Z7 ?hkZ7 ?hbZ7 ?_; (case NZ7 => k_asm); (case bZ7 => k_mem); (case h0Z7 => omega); (case hkZ7 => omega); (case hbZ7 => omega))))
  k_with "getAttr ref" => (k_here; (with_reducible show wpAny _ _ (getAttr (Value.ref _) (Str.ofString "kind") _) _ _ _); k_dflt (refine' get_kind ?g1Z7 ?g2Z7 ?g3Z7 ?g4Z7 ?g5Z7 ?_; (case g1Z7 => with_reducible assumption); (case g5Z7 => k_asm); (case g2Z7 => (intro p hp; k_mem)); (case g3Z7 => k_asm); (case g4Z7 => k_asm)); intro tg')
  k_with "getAttr ref" => (k_here; (with_reducible show wpAny _ _ (getAttr (Value.ref _) (Str.ofString "attrs") _) _ _ _); k_dflt (refine' get_attrs ?g1Z7 ?g2Z7 ?g3Z7 ?g4Z7 ?g5Z7 ?g6Z7 ?_; (case g1Z7 => with_reducible assumption); (case g5Z7 => k_asm); (case g2Z7 => (intro p hp; k_mem)); (case g3Z7 => k_asm); (case g4Z7 => k_asm); (case g6Z7 => k_handed)))
  k_with "getAttr ref" => (k_here; (with_reducible show wpAny _ _ (getAttr (Value.ref _) (Str.ofString "items") _) _ _ _); k_dflt (refine' get_items ?g1Z7 ?g2Z7 ?g3Z7 ?g4Z7 ?g5Z7 ?_; (case g1Z7 => with_reducible assumption); (case g5Z7 => k_asm); (case g2Z7 => (intro p hp; k_mem)); (case g3Z7 => k_asm); (case g4Z7 => k_asm)))
  k_with "call ref" => (k_here; (with_reducible show wpAny _ _ (call (Value.ref 482) _) _ _ _); k_dflt (refine' use_dimM ?kPZ7 ?k1Z7 ?k2Z7 ?k3Z7 ?k4Z7 ?k5Z7 ?kKZ7 (dimsM_k _ _ _ _ _ _ _ _ _ _ ?hvZ7 ?hMZ7) ?kdZ7 ?kuZ7 ?_; (case k1Z7 => k_asm); (case k2Z7 => k_asm); (case k3Z7 => k_asm); (case k4Z7 => k_asm); (case k5Z7 => k_asm); (case kKZ7 => first | exact rfl | assumption); (case kPZ7 => exact True.intro); (case hvZ7 => exact VecAt.mono (by with_reducible assumption) (by intro p hp; k_mem)); (case hMZ7 => exact MatA.mono (by with_reducible assumption) (by intro p hp; k_mem)); (case kdZ7 => ktr_room); (case kuZ7 => first | exact hU 3 rfl | ktr_units); intro Dm' tm1' tm2' cm' h' tk' F' N' mm1'); (try simp only [List.cons_append, List.nil_append] at N'); (try dsimp only); (try k_fold))
  obtain ⟨ckind, cnames, cgen, cco, cmore⟩ := cs
  dsimp only at hk
  subst hk
  refine wpAny_call ?_
  first | (k_dflt k_enter) | fail "no entry"
  k_steps
  rename Fr _ _ _ _ => F9
  rename News _ _ _ _ => N9
  exact tell_end hret [(_, _)] F9 N9 (fun p hp => hp) (Apart.c (by k_all) (Apart.nil _)) ⟨_, _, _, _, rfl, rfl⟩
set_option maxHeartbeats 600000 in
theorem diag_tell (w mean mg mb news) (x D ad : Addr) (nr mm : Nat) (vs : List Value) (c : Nat) (hv : VecAt w news x (Str.ofString "double") D (.ref ad)) (hD : (D, listOf vs.toArray c) ∈ news) (hM : MatA w news ad (nr : Int) (mm : Int) none)
    (hl : vs.length = nr * mm) (hn : nr ≤ 4) (hm : mm ≤ 4) :
    Tell 9 w mean mg mb anyB 542 [.ref x] news (OutDiag w ((List.range (min nr mm)).map fun p => vs.getD (p * nr + p) .none)) := by
  have hprod : nr * mm ≤ 16 := Nat.mul_le_mul hn hm
  have hcnt : ((if (mm : Int) < (nr : Int) then (mm : Int) else (nr : Int)) - 0).toNat = min nr mm := by split <;> omega
  refine tell_mk ?_
  intro dp un gd cn cs a ccd cl outer A₀ base h₀ L m s Q E PB B F X N T hk hdp hun hU hret
  k_with_none
  k_with "FinE" => (((unfold LCg.FinE); intro D' h' tk' F' N' o1'; (try simp only [off1_app, LCg.Off1, and_true, and_assoc] at o1'); (repeat (have hOf9 := And.left o1'; replace o1' := And.right o1')); (try simp only [List.nil_append, List.cons_append] at N'); (try dsimp only)))
  k_with "FinA" => (((unfold LCg.FinA); intro D' h' tk' F' N' o1'; (try simp only [off1_app, LCg.Off1, and_true, and_assoc] at o1'); (repeat (have hOf9 := And.left o1'; replace o1' := And.right o1')); (try simp only [List.nil_append, List.cons_append] at N'); (try dsimp only)))
  k_with "call type:list" => ((k_here; (with_reducible show wpAny _ _ (call (Value.type _) [Value.ref _]) _ _ _); k_dflt (refine' list_copyK ?FZ7 ?NZ7 (News.isList ?N2Z7 ?bZ7) ?_ ?zZ7; (case FZ7 => k_asm); (case NZ7 => k_asm); (case N2Z7 => k_asm); (case bZ7 => k_mem); (case zZ7 => rw [PySem.sizeLine_eq]; simp only [List.size_toArray, List.length_cons, List.length_nil]; first | exact sz_el (by with_reducible assumption) (by with_reducible assumption) rfl | exact sz_ll (by with_reducible assumption) (by with_reducible assumption) rfl | exact sz_lt (by with_reducible assumption) rfl | exact sz_le (by with_reducible assumption) rfl | exact sz_eq (by with_reducible assumption) (by with_reducible assumption) rfl | exact Nat.le_of_ble_eq_true rfl | omega)); intro D' c' h' F' N' l1; (try k_lt l1); (try k_sweep)))
  k_with "call builtin:isinstance" => ((k_here; k_dflt (refine' isi_call ?k1Z7 ?k2Z7 ?k3Z7 ?k4Z7 ?_; (case k1Z7 => k_in); (case k2Z7 => (intro M; exact InstAt.type (by k_inst))); (case k3Z7 => k_is); (case k4Z7 => intro e; cases e); k_whole)))
  k_with "getMethod ref" => ((k_here; (with_reducible show wpAny _ _ (getMethod (Value.ref _) (Str.ofString "get") _) _ _ _); k_dflt (refine kdg_method (knd := PySem.strKind _ _) (by k_asm) (by k_mem) (by k_asm) ?_)))
  k_with "call builtin:dict.get" => ((k_here; k_dflt (first
    | refine kdg_get1 (knd := PySem.strKind _ _) (by k_asm) (by k_mem) (by k_asm) (by k_asm) (strKind_is _ _ _ _) (some _) (by rfl) ?_
    | refine kdg_get1 (knd := PySem.strKind _ _) (by k_asm) (by k_mem) (by k_asm) (by k_asm) (strKind_is _ _ _ _) none (by rfl) ?_); (try dsimp only [Option.getD])))
  k_with "compareOp In str ref" => ((k_here; k_dflt (first
    | refine kda_in (knd := PySem.strKind _ _) (by k_asm) (by k_mem) (by k_asm) (by k_asm) (strKind_is _ _ _ _) true (by rfl) ?_
    | refine kda_in (knd := PySem.strKind _ _) (by k_asm) (by k_mem) (by k_asm) (by k_asm) (strKind_is _ _ _ _) false (by rfl) ?_)))
  k_with "compareOp NotIn str ref" => ((k_here; k_dflt (first
    | refine kdg_notin (knd := PySem.strKind _ _) (by k_asm) (by k_mem) (by k_asm) (by k_asm) (strKind_is _ _ _ _) true (by rfl) ?_
    | refine kdg_notin (knd := PySem.strKind _ _) (by k_asm) (by k_mem) (by k_asm) (by k_asm) (strKind_is _ _ _ _) false (by rfl) ?_); (try dsimp only [Bool.not_true, Bool.not_false])))
  k_with "subscriptTail" => ((k_here; (with_reducible show wpAny _ _ (subscriptTail _ _ (Value.ref _) (Value.str _ _)) _ _ _); k_dflt (first
    | refine kda_item (knd := PySem.strKind _ _) (by k_asm) (by k_mem) (by k_asm) (strKind_is _ _ _ _) (by rfl) ?_
    | refine kdt_tail (knd := PySem.strKind _ _) (by k_asm) (by k_mem) (by k_asm) ?_)))
  k_with "getItem ref str" => ((k_here; k_dflt (refine kdt_getItem (knd := PySem.strKind _ _) (by k_asm) (by k_mem) (by k_asm) (strKind_is _ _ _ _) (by rfl) ?_)))
  k_with "setItem ref str" => ((k_here; k_dflt (refine' kda_set (knd := PySem.strKind _ _) ?FZ7 ?NZ7 ?UZ7 ?dZ7 (strKind_is _ _ _ _) ?zZ7 ?_; (case FZ7 => k_asm); (case NZ7 => k_asm); (case UZ7 => k_updF); (case dZ7 => k_asm); (case zZ7 => rw [sizeLine_eq]; exact Nat.le_of_ble_eq_true (by with_unfolding_all rfl))); intro h' o' F' N' hd'; (try dsimp only at N')))
  k_with "call builtin:len" => ((k_here; (with_reducible show wpAny _ _ (call (Value.builtin "len") [Value.ref _]) _ _ _); k_dflt (refine' len_mem ?NZ7 ?bZ7 ?zZ7 ?_; (case NZ7 => k_asm); (case bZ7 => k_mem); (case zZ7 => omega))))
  k_with "eval ListComp" => ((k_here; k_dflt (refine LCg.ListComp_U (F₀ := by k_asm) (by with_unfolding_all rfl) (by decide) (by rfl) (by decide) (by rfl) ?_)))
  k_with "exec Assign cons ListComp" => ((k_here; k_dflt (refine LCg.Assign_ListComp_U (F₀ := by k_asm) (by rfl) (by with_unfolding_all rfl) (by with_unfolding_all rfl) (by decide) (by rfl) (by decide) (by rfl) (by rfl) (by rfl) ?_)))
  k_with "CompSrc" => ((k_here; (try k_fmods); k_dflt (refine LCg.CompSrc.range (by rfl) (by k_asm) (by k_asm) (by assumption) (by first | (with_reducible refine small_nat ?sm9; (case sm9 => first | exact lt_eq (by with_reducible assumption) (by with_reducible assumption) rfl | exact lt_lt (by with_reducible assumption) rfl | exact lt_el (by with_reducible assumption) (by with_reducible assumption) rfl | exact lt_le (by with_reducible assumption) rfl | omega)) | exact small_one (by kcf_bnd) (by kcf_bnd) (by kcf_bnd) (by kcf_bnd) | decide) (by first | exact rangeSize_nat _ _ | rfl) (by rw [PySem.sizeLine_eq]; first | exact sz_lt (by with_reducible assumption) rfl | exact sz_le (by with_reducible assumption) rfl | omega | (simp only [List.size_toArray]; omega)) ?_; intro g'; k_extra "my comp")))
  k_with "exec For Name" => ((k_here; (rename Fr _ _ _ _ => lF'); (with_unfolding_all refine' For_invVF lF' ?k1Z7 ?k2Z7 ?_; (case k1Z7 => exact rfl); (case k2Z7 => exact rfl); k_whole)))
  k_with "exec For Name Call cons nil" => ((k_here; (rename Fr _ _ _ _ => lF'); (with_unfolding_all refine' For_invVF lF' ?k1Z7 ?k2Z7 ?_; (case k1Z7 => exact rfl); (case k2Z7 => exact rfl); k_whole)))
  k_with "exec For Name Name cons nil" => ((k_here; (rename Fr _ _ _ _ => lF'); (with_unfolding_all refine' For_invVF lF' ?k1Z7 ?k2Z7 ?_; (case k1Z7 => exact rfl); (case k2Z7 => exact rfl); k_whole)))
  k_with "pyIter ref" => ((k_here; k_dflt k_extra "my loop"))
  k_with "LpPost" => ((dsimp only [LpPost]))
  k_with "call builtin:list.append" => ((k_here; k_dflt (refine' append_K ?k1Z7 ?k2Z7 ?k3Z7 ?_ ?zZ7; (case k1Z7 => k_asm); (case k2Z7 => k_asm); (case k3Z7 => k_upd); (case zZ7 => rw [PySem.sizeLine_eq]; simp only [List.size_toArray, List.length_append, List.length_cons, List.length_nil]; first | exact sz_el (by with_reducible assumption) (by with_reducible assumption) rfl | exact sz_ll (by with_reducible assumption) (by with_reducible assumption) rfl | exact sz_lt (by with_reducible assumption) rfl | exact sz_le (by with_reducible assumption) rfl | exact sz_eq (by with_reducible assumption) (by with_reducible assumption) rfl | exact Nat.le_of_ble_eq_true rfl | omega); k_whole); intro h' F' N'; (try k_sweep)))
  k_with "call type:range" => (((rename Fr _ _ _ _ => F'); (rename News _ _ _ _ => N'); first
    | (with_unfolding_all refine range1_rows F' N' ?_; intro _ _ _ _ _ _ _ _ _)
    | (with_unfolding_all refine range2_rows F' N' ?_; intro _ _ _ _ _ _ _ _ _)))
  k_with "binaryOp Mult int int" => ((k_here; (with_reducible refine mul_int ?kmmZ7 (IntMulOk.of_left (intBits_le_64 ?kmaZ7 ?kmbZ7))); (case kmaZ7 => omega); (case kmbZ7 => omega)))
  k_with "subscriptTail" => ((k_here; (with_reducible show wpAny _ _ (subscriptTail _ _ (Value.ref _) (Value.int _ _)) _ _ _); k_dflt (refine' item_raw ?NZ7 ?bZ7 ?h0Z7 ?hkZ7 ?hbZ7 ?_; (case NZ7 => k_asm); (case bZ7 => k_mem); (case h0Z7 => omega); (case hkZ7 => omega); (case hbZ7 => omega))))
  k_with "subscriptTail" => ((k_here; (with_reducible show wpAny _ _ (subscriptTail _ _ (Value.ref _) (Value.int _ _)) _ _ _); k_dflt (refine' item_listL (l := [_, _]) (News.isList ?NZ7 ?bZ7) ?h0Z7 ?hfZ7 ?hxZ7 ?_; (case NZ7 => k_asm); (case bZ7 => k_mem); (case h0Z7 => decide); (case hfZ7 => decide); (case hxZ7 => exact rfl))))
  k_with "subscriptTail Name BinOp ref int" => ((k_here; (with_reducible show wpAny _ _ (subscriptTail _ _ (Value.ref _) (Value.int _ _)) _ _ _); k_dflt (refine' item_raw ?NZ7 ?bZ7 ?h0Z7 ?hkZ7 ?hbZ7 ?_; (case NZ7 => k_asm); (case bZ7 => k_mem); (case h0Z7 => omega); (case hkZ7 => omega); (case hbZ7 => omega))))
  k_with "subscriptTail Name Name ref int" => ((k_here; (with_reducible show wpAny _ _ (subscriptTail _ _ (Value.ref _) (Value.int _ _)) _ _ _); k_dflt (refine' item_raw ?NZ7 ?bZ7 ?h0Z7 ?hkZ7 ?hbZ7 ?_; (case NZ7 => k_asm); (case bZ7 => k_mem); (case h0Z7 => omega); (case hkZ7 => omega); (case hbZ7 => omega))))
  k_with "getAttr ref" => (k_here; (with_reducible show wpAny _ _ (getAttr (Value.ref _) (Str.ofString "kind") _) _ _ _); k_dflt (refine' get_kind ?g1Z7 ?g2Z7 ?g3Z7 ?g4Z7 ?g5Z7 ?_; (case g1Z7 => with_reducible assumption); (case g5Z7 => k_asm); (case g2Z7 => (intro p hp; k_mem)); (case g3Z7 => k_asm); (case g4Z7 => k_asm)); intro tg')
  k_with "getAttr ref" => (k_here; (with_reducible show wpAny _ _ (getAttr (Value.ref _) (Str.ofString "attrs") _) _ _ _); k_dflt (refine' get_attrs ?g1Z7 ?g2Z7 ?g3Z7 ?g4Z7 ?g5Z7 ?g6Z7 ?_; (case g1Z7 => with_reducible assumption); (case g5Z7 => k_asm); (case g2Z7 => (intro p hp; k_mem)); (case g3Z7 => k_asm); (case g4Z7 => k_asm); (case g6Z7 => k_handed)))
  k_with "getAttr ref" => (k_here; (with_reducible show wpAny _ _ (getAttr (Value.ref _) (Str.ofString "items") _) _ _ _); k_dflt (refine' get_items ?g1Z7 ?g2Z7 ?g3Z7 ?g4Z7 ?g5Z7 ?_; (case g1Z7 => with_reducible assumption); (case g5Z7 => k_asm); (case g2Z7 => (intro p hp; k_mem)); (case g3Z7 => k_asm); (case g4Z7 => k_asm)))
  k_with "call ref" => (k_here; (with_reducible show wpAny _ _ (call (Value.ref 179) _) _ _ _); k_dflt (refine' use_new ?kPZ7 ?k1Z7 ?k2Z7 ?k3Z7 ?k4Z7 ?k5Z7 ?kKZ7 (vnew_tell _ _ _ _ _ _ _ _) ?kdZ7 ?kuZ7 ?_; (case k1Z7 => k_asm); (case k2Z7 => k_asm); (case k3Z7 => k_asm); (case k4Z7 => k_asm); (case k5Z7 => k_asm); (case kKZ7 => first | exact rfl | assumption); (case kPZ7 => exact True.intro); (case kdZ7 => ktr_room); (case kuZ7 => first | exact hU 3 rfl | ktr_units); intro x' tl' h' tk' F' N' y' v'); (try simp only [List.cons_append, List.nil_append] at N'); (try dsimp only); (try k_fold))
  k_with "call ref" => (k_here; (with_reducible show wpAny _ _ (call (Value.ref 496) _) _ _ _); k_dflt (refine' use_tup0 ?kPZ7 ?k1Z7 ?k2Z7 ?k3Z7 ?k4Z7 ?k5Z7 ?kKZ7 (shape_k _ _ _ _ _ _ _ _ _ _ ?hvZ7 ?hMZ7) ?kdZ7 ?kuZ7 ?_; (case k1Z7 => k_asm); (case k2Z7 => k_asm); (case k3Z7 => k_asm); (case k4Z7 => k_asm); (case k5Z7 => k_asm); (case kKZ7 => first | exact rfl | assumption); (case kPZ7 => exact True.intro); (case hvZ7 => exact VecAt.mono (by with_reducible assumption) (by intro p hp; k_mem)); (case hMZ7 => exact MatA.mono (by with_reducible assumption) (by intro p hp; k_mem)); (case kdZ7 => ktr_room); (case kuZ7 => first | exact hU 5 rfl | ktr_units); intro D0' u1' u2' c0' h' tk' F' N' y0'); dsimp only [tup2] at N'; (try simp only [List.cons_append, List.nil_append] at N'); (try dsimp only); (try k_fold))
  k_with "call ref" => (k_here; (with_reducible show wpAny _ _ (call (Value.ref 503) _) _ _ _); k_dflt (refine' use_none ?kPZ7 ?k1Z7 ?k2Z7 ?k3Z7 ?k4Z7 ?k5Z7 ?kKZ7 (axis_k _ _ _ _ _ _ _ _ _ _ _ _ ?hvZ7 ?hMZ7) ?kdZ7 ?kuZ7 ?_; (case k1Z7 => k_asm); (case k2Z7 => k_asm); (case k3Z7 => k_asm); (case k4Z7 => k_asm); (case k5Z7 => k_asm); (case kKZ7 => first | exact rfl | assumption); (case kPZ7 => exact True.intro); (case hvZ7 => exact VecAt.mono (by with_reducible assumption) (by intro p hp; k_mem)); (case hMZ7 => exact MatA.mono (by with_reducible assumption) (by intro p hp; k_mem)); (case kdZ7 => ktr_room); (case kuZ7 => first | exact hU 3 rfl | ktr_units); intro h' tk' F' N'); (try simp only [List.cons_append, List.nil_append] at N'); (try dsimp only); (try k_fold))
  k_with "my comp" => (refine' comp_range_raw (fun (p : Nat) => vs.getD (p * nr + p) .none) (fun i' t' I' oI' C' oC' D' m2' h' tk' E' hi' hC' hx' F' N' off' ne' => ?_) ?_; (all_goals (try k_fold)); (all_goals (try (rw [hcnt] at hi'; have hy1 : i' < nr := (by omega); have hy2 : i' < mm := (by omega); have hy3 := diag_lt hy1 hy2; have hy4 : ((0 + (i' : Int)) * (nr : Int) + (0 + (i' : Int))) = ((i' * nr + i' : Nat) : Int) := by simp only [Int.zero_add, Int.natCast_add, Int.natCast_mul]))))
  obtain ⟨ckind, cnames, cgen, cco, cmore⟩ := cs
  dsimp only at hk
  subst hk
  refine wpAny_call ?_
  first | (k_dflt k_enter) | fail "no entry"
  k_steps
  · rename Fr _ _ _ _ => F9
    rename News _ _ _ _ => N9
    rename LCg.Off3 _ _ _ _ => off9
    refine LCg.CompEnd.intro F9 N9 _ (fun _ h => h) off9 True.intro ⟨rfl, ?_⟩
    rw [hy4, Int.toNat_natCast]
  · rename Fr _ _ _ _ => F9
    rename News _ _ _ _ => N9
    rw [hcnt] at N9
    exact tell_end hret (tl' ++ [(_, _)]) F9 N9 (drop_new (mid := [_, _, _])) (Apart.append (y'.sub fun p hp => by k_mem) (Apart.c (by k_all) (Apart.nil _))) ⟨_, _, _, rfl, v'.mono fun p hp => List.mem_append.mpr (.inl hp), List.mem_append.mpr (.inr (.head _))⟩
set_option maxHeartbeats 600000 in
theorem dmat_tell (w mean mg mb news) (x D : Addr) (t1 t2 : Tok) (nr mm : Nat) (vs : List Value) (c : Nat) (attrs : Value) (hv : VecAt w news x (Str.ofString "double") D attrs) (hD : (D, listOf vs.toArray c) ∈ news)
    (hl : 0 < vs.length) (hl2 : vs.length ≤ 4) (hn : nr ≤ 4) (hm : mm ≤ 4) :
    Tell 14 w mean mg mb anyB 549 [.ref x, .int nr t1, .int mm t2] news (OutDM w vs nr mm) := by
  have hprod : nr * mm ≤ 16 := Nat.mul_le_mul hn hm
  have hprod2 : (nr : Int) * (mm : Int) ≤ 16 := by rw [← Int.natCast_mul]; omega
  have hprod3 : 0 ≤ (nr : Int) * (mm : Int) := by rw [← Int.natCast_mul]; omega
  refine tell_mk ?_
  intro dp un gd cn cs a ccd cl outer A₀ base h₀ L m s Q E PB B F X N T hk hdp hun hU hret
  k_with_none
  k_with "FinE" => (((unfold LCg.FinE); intro D' h' tk' F' N' o1'; (try simp only [off1_app, LCg.Off1, and_true, and_assoc] at o1'); (repeat (have hOf9 := And.left o1'; replace o1' := And.right o1')); (try simp only [List.nil_append, List.cons_append] at N'); (try dsimp only)))
  k_with "FinA" => (((unfold LCg.FinA); intro D' h' tk' F' N' o1'; (try simp only [off1_app, LCg.Off1, and_true, and_assoc] at o1'); (repeat (have hOf9 := And.left o1'; replace o1' := And.right o1')); (try simp only [List.nil_append, List.cons_append] at N'); (try dsimp only)))
  k_with "call type:list" => ((k_here; (with_reducible show wpAny _ _ (call (Value.type _) [Value.ref _]) _ _ _); k_dflt (refine' list_copyK ?FZ7 ?NZ7 (News.isList ?N2Z7 ?bZ7) ?_ ?zZ7; (case FZ7 => k_asm); (case NZ7 => k_asm); (case N2Z7 => k_asm); (case bZ7 => k_mem); (case zZ7 => rw [PySem.sizeLine_eq]; simp only [List.size_toArray, List.length_cons, List.length_nil]; first | exact sz_el (by with_reducible assumption) (by with_reducible assumption) rfl | exact sz_ll (by with_reducible assumption) (by with_reducible assumption) rfl | exact sz_lt (by with_reducible assumption) rfl | exact sz_le (by with_reducible assumption) rfl | exact sz_eq (by with_reducible assumption) (by with_reducible assumption) rfl | exact Nat.le_of_ble_eq_true rfl | omega)); intro D' c' h' F' N' l1; (try k_lt l1); (try k_sweep)))
  k_with "call builtin:isinstance" => ((k_here; k_dflt (refine' isi_call ?k1Z7 ?k2Z7 ?k3Z7 ?k4Z7 ?_; (case k1Z7 => k_in); (case k2Z7 => (intro M; exact InstAt.type (by k_inst))); (case k3Z7 => k_is); (case k4Z7 => intro e; cases e); k_whole)))
  k_with "getMethod ref" => ((k_here; (with_reducible show wpAny _ _ (getMethod (Value.ref _) (Str.ofString "get") _) _ _ _); k_dflt (refine kdg_method (knd := PySem.strKind _ _) (by k_asm) (by k_mem) (by k_asm) ?_)))
  k_with "call builtin:dict.get" => ((k_here; k_dflt (first
    | refine kdg_get1 (knd := PySem.strKind _ _) (by k_asm) (by k_mem) (by k_asm) (by k_asm) (strKind_is _ _ _ _) (some _) (by rfl) ?_
    | refine kdg_get1 (knd := PySem.strKind _ _) (by k_asm) (by k_mem) (by k_asm) (by k_asm) (strKind_is _ _ _ _) none (by rfl) ?_); (try dsimp only [Option.getD])))
  k_with "compareOp In str ref" => ((k_here; k_dflt (first
    | refine kda_in (knd := PySem.strKind _ _) (by k_asm) (by k_mem) (by k_asm) (by k_asm) (strKind_is _ _ _ _) true (by rfl) ?_
    | refine kda_in (knd := PySem.strKind _ _) (by k_asm) (by k_mem) (by k_asm) (by k_asm) (strKind_is _ _ _ _) false (by rfl) ?_)))
  k_with "compareOp NotIn str ref" => ((k_here; k_dflt (first
    | refine kdg_notin (knd := PySem.strKind _ _) (by k_asm) (by k_mem) (by k_asm) (by k_asm) (strKind_is _ _ _ _) true (by rfl) ?_
    | refine kdg_notin (knd := PySem.strKind _ _) (by k_asm) (by k_mem) (by k_asm) (by k_asm) (strKind_is _ _ _ _) false (by rfl) ?_); (try dsimp only [Bool.not_true, Bool.not_false])))
  k_with "subscriptTail" => ((k_here; (with_reducible show wpAny _ _ (subscriptTail _ _ (Value.ref _) (Value.str _ _)) _ _ _); k_dflt (first
    | refine kda_item (knd := PySem.strKind _ _) (by k_asm) (by k_mem) (by k_asm) (strKind_is _ _ _ _) (by rfl) ?_
    | refine kdt_tail (knd := PySem.strKind _ _) (by k_asm) (by k_mem) (by k_asm) ?_)))
  k_with "getItem ref str" => ((k_here; k_dflt (refine kdt_getItem (knd := PySem.strKind _ _) (by k_asm) (by k_mem) (by k_asm) (strKind_is _ _ _ _) (by rfl) ?_)))
  k_with "setItem ref str" => ((k_here; k_dflt (refine' kda_set (knd := PySem.strKind _ _) ?FZ7 ?NZ7 ?UZ7 ?dZ7 (strKind_is _ _ _ _) ?zZ7 ?_; (case FZ7 => k_asm); (case NZ7 => k_asm); (case UZ7 => k_updF); (case dZ7 => k_asm); (case zZ7 => rw [sizeLine_eq]; exact Nat.le_of_ble_eq_true (by with_unfolding_all rfl))); intro h' o' F' N' hd'; (try dsimp only at N')))
  k_with "call builtin:len" => ((k_here; (with_reducible show wpAny _ _ (call (Value.builtin "len") [Value.ref _]) _ _ _); k_dflt (refine' len_mem ?NZ7 ?bZ7 ?zZ7 ?_; (case NZ7 => k_asm); (case bZ7 => k_mem); (case zZ7 => omega))))
  k_with "eval ListComp" => ((k_here; k_dflt (refine LCg.ListComp_U (F₀ := by k_asm) (by with_unfolding_all rfl) (by decide) (by rfl) (by decide) (by rfl) ?_)))
  k_with "exec Assign cons ListComp" => ((k_here; k_dflt (refine LCg.Assign_ListComp_U (F₀ := by k_asm) (by rfl) (by with_unfolding_all rfl) (by with_unfolding_all rfl) (by decide) (by rfl) (by decide) (by rfl) (by rfl) (by rfl) ?_)))
  k_with "CompSrc" => ((k_here; (try k_fmods); k_dflt (refine LCg.CompSrc.range (by rfl) (by k_asm) (by k_asm) (by assumption) (by first | (with_reducible refine small_nat ?sm9; (case sm9 => first | exact lt_eq (by with_reducible assumption) (by with_reducible assumption) rfl | exact lt_lt (by with_reducible assumption) rfl | exact lt_el (by with_reducible assumption) (by with_reducible assumption) rfl | exact lt_le (by with_reducible assumption) rfl | omega)) | exact small_one (by kcf_bnd) (by kcf_bnd) (by kcf_bnd) (by kcf_bnd) | decide) (by first | exact rangeSize_nat _ _ | rfl) (by rw [PySem.sizeLine_eq]; first | exact sz_lt (by with_reducible assumption) rfl | exact sz_le (by with_reducible assumption) rfl | omega | (simp only [List.size_toArray]; omega)) ?_; intro g'; k_extra "my comp")))
  k_with "exec For Name" => ((k_here; (rename Fr _ _ _ _ => lF'); (with_unfolding_all refine' For_invVF lF' ?k1Z7 ?k2Z7 ?_; (case k1Z7 => exact rfl); (case k2Z7 => exact rfl); k_whole)))
  k_with "exec For Name Call cons nil" => ((k_here; (rename Fr _ _ _ _ => lF'); (with_unfolding_all refine' For_invVF lF' ?k1Z7 ?k2Z7 ?_; (case k1Z7 => exact rfl); (case k2Z7 => exact rfl); k_whole)))
  k_with "exec For Name Name cons nil" => ((k_here; (rename Fr _ _ _ _ => lF'); (with_unfolding_all refine' For_invVF lF' ?k1Z7 ?k2Z7 ?_; (case k1Z7 => exact rfl); (case k2Z7 => exact rfl); k_whole)))
  k_with "pyIter ref" => ((k_here; k_dflt k_extra "my loop"))
  k_with "LpPost" => ((dsimp only [LpPost]))
  k_with "call builtin:list.append" => ((k_here; k_dflt (refine' append_K ?k1Z7 ?k2Z7 ?k3Z7 ?_ ?zZ7; (case k1Z7 => k_asm); (case k2Z7 => k_asm); (case k3Z7 => k_upd); (case zZ7 => rw [PySem.sizeLine_eq]; simp only [List.size_toArray, List.length_append, List.length_cons, List.length_nil]; first | exact sz_el (by with_reducible assumption) (by with_reducible assumption) rfl | exact sz_ll (by with_reducible assumption) (by with_reducible assumption) rfl | exact sz_lt (by with_reducible assumption) rfl | exact sz_le (by with_reducible assumption) rfl | exact sz_eq (by with_reducible assumption) (by with_reducible assumption) rfl | exact Nat.le_of_ble_eq_true rfl | omega); k_whole); intro h' F' N'; (try k_sweep)))
  k_with "call type:range" => (((rename Fr _ _ _ _ => F'); (rename News _ _ _ _ => N'); first
    | (with_unfolding_all refine range1_rows F' N' ?_; intro _ _ _ _ _ _ _ _ _)
    | (with_unfolding_all refine range2_rows F' N' ?_; intro _ _ _ _ _ _ _ _ _)))
  k_with "binaryOp Mult int int" => ((k_here; (with_reducible refine mul_int ?kmmZ7 (IntMulOk.of_left (intBits_le_64 ?kmaZ7 ?kmbZ7))); (case kmaZ7 => omega); (case kmbZ7 => omega)))
  k_with "subscriptTail" => ((k_here; (with_reducible show wpAny _ _ (subscriptTail _ _ (Value.ref _) (Value.int _ _)) _ _ _); k_dflt (refine' item_raw ?NZ7 ?bZ7 ?h0Z7 ?hkZ7 ?hbZ7 ?_; (case NZ7 => k_asm); (case bZ7 => k_mem); (case h0Z7 => omega); (case hkZ7 => omega); (case hbZ7 => omega))))
  k_with "subscriptTail" => ((k_here; (with_reducible show wpAny _ _ (subscriptTail _ _ (Value.ref _) (Value.int _ _)) _ _ _); k_dflt (refine' item_listL (l := [_, _]) (News.isList ?NZ7 ?bZ7) ?h0Z7 ?hfZ7 ?hxZ7 ?_; (case NZ7 => k_asm); (case bZ7 => k_mem); (case h0Z7 => decide); (case hfZ7 => decide); (case hxZ7 => exact rfl))))
  k_with "subscriptTail Name BinOp ref int" => ((k_here; (with_reducible show wpAny _ _ (subscriptTail _ _ (Value.ref _) (Value.int _ _)) _ _ _); k_dflt (refine' item_raw ?NZ7 ?bZ7 ?h0Z7 ?hkZ7 ?hbZ7 ?_; (case NZ7 => k_asm); (case bZ7 => k_mem); (case h0Z7 => omega); (case hkZ7 => omega); (case hbZ7 => omega))))
  k_with "subscriptTail Name Name ref int" => ((k_here; (with_reducible show wpAny _ _ (subscriptTail _ _ (Value.ref _) (Value.int _ _)) _ _ _); k_dflt (refine' item_raw ?NZ7 ?bZ7 ?h0Z7 ?hkZ7 ?hbZ7 ?_; (case NZ7 => k_asm); (case bZ7 => k_mem); (case h0Z7 => omega); (case hkZ7 => omega); (case hbZ7 => omega))))
  k_with "getAttr ref" => (k_here; (with_reducible show wpAny _ _ (getAttr (Value.ref _) (Str.ofString "kind") _) _ _ _); k_dflt (refine' get_kind ?g1Z7 ?g2Z7 ?g3Z7 ?g4Z7 ?g5Z7 ?_; (case g1Z7 => with_reducible assumption); (case g5Z7 => k_asm); (case g2Z7 => (intro p hp; k_mem)); (case g3Z7 => k_asm); (case g4Z7 => k_asm)); intro tg')
  k_with "getAttr ref" => (k_here; (with_reducible show wpAny _ _ (getAttr (Value.ref _) (Str.ofString "attrs") _) _ _ _); k_dflt (refine' get_attrs ?g1Z7 ?g2Z7 ?g3Z7 ?g4Z7 ?g5Z7 ?g6Z7 ?_; (case g1Z7 => with_reducible assumption); (case g5Z7 => k_asm); (case g2Z7 => (intro p hp; k_mem)); (case g3Z7 => k_asm); (case g4Z7 => k_asm); (case g6Z7 => k_handed)))
  k_with "getAttr ref" => (k_here; (with_reducible show wpAny _ _ (getAttr (Value.ref _) (Str.ofString "items") _) _ _ _); k_dflt (refine' get_items ?g1Z7 ?g2Z7 ?g3Z7 ?g4Z7 ?g5Z7 ?_; (case g1Z7 => with_reducible assumption); (case g5Z7 => k_asm); (case g2Z7 => (intro p hp; k_mem)); (case g3Z7 => k_asm); (case g4Z7 => k_asm)))
  k_with "call ref" => (k_here; (with_reducible show wpAny _ _ (call (Value.ref 522) _) _ _ _); k_dflt (refine' use_mat ?kPZ7 ?k1Z7 ?k2Z7 ?k3Z7 ?k4Z7 ?k5Z7 ?kKZ7 (arr0_tell _ _ _ _ _ _ _ _ _ _ _ _ _ _ _ ?hXZ7 ?hRZ7) ?kdZ7 ?kuZ7 ?_; (case k1Z7 => k_asm); (case k2Z7 => k_asm); (case k3Z7 => k_asm); (case k4Z7 => k_asm); (case k5Z7 => k_asm); (case kKZ7 => first | exact rfl | assumption); (case kPZ7 => exact True.intro); (case hXZ7 => k_mem); (case hRZ7 => k_mem); (case kdZ7 => ktr_room); (case kuZ7 => first | exact hU 9 rfl | ktr_units); intro xM' adM' tlM' h' tk' F' N' yM' oM1' oM2'); (try simp only [List.cons_append, List.nil_append] at N'); (try dsimp only); (try k_fold))
  k_with "my loop" => ((rename Fr _ _ _ _ => lF'); (rename News _ _ _ _ => lN'); (refine' build_range (x := Str.ofString "column") (n := mm) [Str.ofString "place"] (fun i tl its => tl = [] ∧ its = DG vs nr i) rfl ?hr77Z7 ?hs77Z7 ?hn77Z7 lF' lN' ⟨rfl, rfl⟩ (fun i' t' u' tl' its' ci' I' oI' h' tk' hv' hR' hT' ha' F' N' o1' o2' o3' => ?_) (fun u' tl' its' ci' h' tk' hR' hT' ha' F' N' => ?_)); (case hr77Z7 => assumption); (case hs77Z7 => exact small_nat (by omega)); (case hn77Z7 => exact size_nat _); (all_goals (obtain ⟨hR', hRl'⟩ := hR'; subst hR'; (try k_fold))))
  k_with "my loop" => ((rename Fr _ _ _ _ => lF'); (rename News _ _ _ _ => lN'); (have lenI' : its'.length = nr * i' := (by rw [hRl']; exact DG_len)); (have lenB' : its'.length ≤ 16 := (by rw [lenI']; exact Nat.le_trans (Nat.mul_le_mul_left nr (Nat.le_of_lt hv')) hprod)); (refine' build_range (x := Str.ofString "place") (n := nr) [] (fun j tl its => tl = [] ∧ its = (List.range j).map fun j => dgCell vs i' j) rfl ?hr77Z7 ?hs77Z7 ?hn77Z7 lF' (news_swap lN') ⟨rfl, rfl⟩ (fun j' t2' u2' tm' itt' cj' J' oJ' h2' tk2' hw' hR2' hT2' ha2' F2' N2' p1' p2' p3' => ?turn77Z7) (fun u2' tm' itt' cj' h2' tk2' hR2' hT2' ha2' F2' N2' => ?_)); (case hr77Z7 => assumption); (case hs77Z7 => exact small_nat (by omega)); (case hn77Z7 => exact size_nat _); (all_goals (obtain ⟨hR2', hRl2'⟩ := hR2'; subst hR2'; (try k_fold))); (case' turn77Z7 => (obtain ⟨hmo1', hmo2'⟩ := mod_facts (j := j') hl; have lenJ' : itt'.length = j' := (by rw [hRl2']; simp))))
  obtain ⟨ckind, cnames, cgen, cco, cmore⟩ := cs
  dsimp only at hk
  subst hk
  refine wpAny_call ?_
  first | (k_dflt k_enter) | fail "no entry"
  k_steps
  · rename Fr _ _ _ _ => F9
    rename News _ _ _ _ => N9
    exact build_old F9 N9 rfl p1' p2' p3' hT2' ha2' lj_same ⟨rfl, dg_turn hRl2' (by rw [dgCell, if_pos (by omega), hmo1', Int.toNat_natCast])⟩
  · rename Fr _ _ _ _ => F9
    rename News _ _ _ _ => N9
    exact build_old F9 N9 rfl p1' p2' p3' hT2' ha2' lj_same ⟨rfl, dg_turn hRl2' (by rw [dgCell, if_neg (by omega)])⟩
  · exact build_nest F2' N2' rfl ha2' hT2' o1' o2' o3' hT' ha' lj_nest ⟨rfl, by rw [hRl', hRl2']; exact DG_snoc⟩
  · rename Fr _ _ _ _ => F9
    rename News _ _ _ _ => N9
    subst hRl'
    exact tell_end hret (_ ++ [_]) F9 N9 drop_two ((yM'.sub fun p hp => by k_mem).append (Apart.c (by k_all) (Apart.nil _))) ⟨_, _, _, _, rfl, oM1'.mono fun p hp => List.mem_append.mpr (.inl hp), List.mem_append.mpr (.inr (.head _)), oM2'.mono fun p hp => List.mem_append.mpr (.inl hp)⟩
set_option maxHeartbeats 600000 in
theorem heads_tell (w mean mg mb news) (x D : Addr) (attrs : Value) (nm : Option (List Dat)) (hv : VecAt w news x (Str.ofString "double") D attrs) (hn : NamesAt w news attrs nm) :
    Tell 3 w mean mg mb anyB 611 [.ref x] news (OutHead news (hD nm)) := by
  have q := hn
  cases hn with
  | none =>
    refine tell_mk ?_
    intro dp un gd cn cs a ccd cl outer A₀ base h₀ L m s Q E PB B F X N T hk hdp hun hU hret
    k_with_none
    k_with "FinE" => (((unfold LCg.FinE); intro D' h' tk' F' N' o1'; (try simp only [off1_app, LCg.Off1, and_true, and_assoc] at o1'); (repeat (have hOf9 := And.left o1'; replace o1' := And.right o1')); (try simp only [List.nil_append, List.cons_append] at N'); (try dsimp only)))
    k_with "FinA" => (((unfold LCg.FinA); intro D' h' tk' F' N' o1'; (try simp only [off1_app, LCg.Off1, and_true, and_assoc] at o1'); (repeat (have hOf9 := And.left o1'; replace o1' := And.right o1')); (try simp only [List.nil_append, List.cons_append] at N'); (try dsimp only)))
    k_with "call type:list" => ((k_here; (with_reducible show wpAny _ _ (call (Value.type _) [Value.ref _]) _ _ _); k_dflt (refine' list_copyK ?FZ7 ?NZ7 (News.isList ?N2Z7 ?bZ7) ?_ ?zZ7; (case FZ7 => k_asm); (case NZ7 => k_asm); (case N2Z7 => k_asm); (case bZ7 => k_mem); (case zZ7 => rw [PySem.sizeLine_eq]; simp only [List.size_toArray, List.length_cons, List.length_nil]; first | exact sz_el (by with_reducible assumption) (by with_reducible assumption) rfl | exact sz_ll (by with_reducible assumption) (by with_reducible assumption) rfl | exact sz_lt (by with_reducible assumption) rfl | exact sz_le (by with_reducible assumption) rfl | exact sz_eq (by with_reducible assumption) (by with_reducible assumption) rfl | exact Nat.le_of_ble_eq_true rfl | omega)); intro D' c' h' F' N' l1; (try k_lt l1); (try k_sweep)))
    k_with "call builtin:isinstance" => ((k_here; k_dflt (refine' isi_call ?k1Z7 ?k2Z7 ?k3Z7 ?k4Z7 ?_; (case k1Z7 => k_in); (case k2Z7 => (intro M; exact InstAt.type (by k_inst))); (case k3Z7 => k_is); (case k4Z7 => intro e; cases e); k_whole)))
    k_with "getMethod ref" => ((k_here; (with_reducible show wpAny _ _ (getMethod (Value.ref _) (Str.ofString "get") _) _ _ _); k_dflt (refine kdg_method (knd := PySem.strKind _ _) (by k_asm) (by k_mem) (by k_asm) ?_)))
    k_with "call builtin:dict.get" => ((k_here; k_dflt (first
      | refine kdg_get1 (knd := PySem.strKind _ _) (by k_asm) (by k_mem) (by k_asm) (by k_asm) (strKind_is _ _ _ _) (some _) (by rfl) ?_
      | refine kdg_get1 (knd := PySem.strKind _ _) (by k_asm) (by k_mem) (by k_asm) (by k_asm) (strKind_is _ _ _ _) none (by rfl) ?_); (try dsimp only [Option.getD])))
    k_with "compareOp In str ref" => ((k_here; k_dflt (first
      | refine kda_in (knd := PySem.strKind _ _) (by k_asm) (by k_mem) (by k_asm) (by k_asm) (strKind_is _ _ _ _) true (by rfl) ?_
      | refine kda_in (knd := PySem.strKind _ _) (by k_asm) (by k_mem) (by k_asm) (by k_asm) (strKind_is _ _ _ _) false (by rfl) ?_)))
    k_with "compareOp NotIn str ref" => ((k_here; k_dflt (first
      | refine kdg_notin (knd := PySem.strKind _ _) (by k_asm) (by k_mem) (by k_asm) (by k_asm) (strKind_is _ _ _ _) true (by rfl) ?_
      | refine kdg_notin (knd := PySem.strKind _ _) (by k_asm) (by k_mem) (by k_asm) (by k_asm) (strKind_is _ _ _ _) false (by rfl) ?_); (try dsimp only [Bool.not_true, Bool.not_false])))
    k_with "subscriptTail" => ((k_here; (with_reducible show wpAny _ _ (subscriptTail _ _ (Value.ref _) (Value.str _ _)) _ _ _); k_dflt (first
      | refine kda_item (knd := PySem.strKind _ _) (by k_asm) (by k_mem) (by k_asm) (strKind_is _ _ _ _) (by rfl) ?_
      | refine kdt_tail (knd := PySem.strKind _ _) (by k_asm) (by k_mem) (by k_asm) ?_)))
    k_with "getItem ref str" => ((k_here; k_dflt (refine kdt_getItem (knd := PySem.strKind _ _) (by k_asm) (by k_mem) (by k_asm) (strKind_is _ _ _ _) (by rfl) ?_)))
    k_with "setItem ref str" => ((k_here; k_dflt (refine' kda_set (knd := PySem.strKind _ _) ?FZ7 ?NZ7 ?UZ7 ?dZ7 (strKind_is _ _ _ _) ?zZ7 ?_; (case FZ7 => k_asm); (case NZ7 => k_asm); (case UZ7 => k_updF); (case dZ7 => k_asm); (case zZ7 => rw [sizeLine_eq]; exact Nat.le_of_ble_eq_true (by with_unfolding_all rfl))); intro h' o' F' N' hd'; (try dsimp only at N')))
    k_with "call builtin:len" => ((k_here; (with_reducible show wpAny _ _ (call (Value.builtin "len") [Value.ref _]) _ _ _); k_dflt (refine' len_mem ?NZ7 ?bZ7 ?zZ7 ?_; (case NZ7 => k_asm); (case bZ7 => k_mem); (case zZ7 => omega))))
    k_with "eval ListComp" => ((k_here; k_dflt (refine LCg.ListComp_U (F₀ := by k_asm) (by with_unfolding_all rfl) (by decide) (by rfl) (by decide) (by rfl) ?_)))
    k_with "exec Assign cons ListComp" => ((k_here; k_dflt (refine LCg.Assign_ListComp_U (F₀ := by k_asm) (by rfl) (by with_unfolding_all rfl) (by with_unfolding_all rfl) (by decide) (by rfl) (by decide) (by rfl) (by rfl) (by rfl) ?_)))
    k_with "CompSrc" => ((k_here; (try k_fmods); k_dflt (refine LCg.CompSrc.range (by rfl) (by k_asm) (by k_asm) (by assumption) (by first | (with_reducible refine small_nat ?sm9; (case sm9 => first | exact lt_eq (by with_reducible assumption) (by with_reducible assumption) rfl | exact lt_lt (by with_reducible assumption) rfl | exact lt_el (by with_reducible assumption) (by with_reducible assumption) rfl | exact lt_le (by with_reducible assumption) rfl | omega)) | exact small_one (by kcf_bnd) (by kcf_bnd) (by kcf_bnd) (by kcf_bnd) | decide) (by first | exact rangeSize_nat _ _ | rfl) (by rw [PySem.sizeLine_eq]; first | exact sz_lt (by with_reducible assumption) rfl | exact sz_le (by with_reducible assumption) rfl | omega | (simp only [List.size_toArray]; omega)) ?_; intro g'; k_extra "my comp")))
    k_with "exec For Name" => ((k_here; (rename Fr _ _ _ _ => lF'); (with_unfolding_all refine' For_invVF lF' ?k1Z7 ?k2Z7 ?_; (case k1Z7 => exact rfl); (case k2Z7 => exact rfl); k_whole)))
    k_with "exec For Name Call cons nil" => ((k_here; (rename Fr _ _ _ _ => lF'); (with_unfolding_all refine' For_invVF lF' ?k1Z7 ?k2Z7 ?_; (case k1Z7 => exact rfl); (case k2Z7 => exact rfl); k_whole)))
    k_with "exec For Name Name cons nil" => ((k_here; (rename Fr _ _ _ _ => lF'); (with_unfolding_all refine' For_invVF lF' ?k1Z7 ?k2Z7 ?_; (case k1Z7 => exact rfl); (case k2Z7 => exact rfl); k_whole)))
    k_with "pyIter ref" => ((k_here; k_dflt k_extra "my loop"))
    k_with "LpPost" => ((dsimp only [LpPost]))
    k_with "call builtin:list.append" => ((k_here; k_dflt (refine' append_K ?k1Z7 ?k2Z7 ?k3Z7 ?_ ?zZ7; (case k1Z7 => k_asm); (case k2Z7 => k_asm); (case k3Z7 => k_upd); (case zZ7 => rw [PySem.sizeLine_eq]; simp only [List.size_toArray, List.length_append, List.length_cons, List.length_nil]; first | exact sz_el (by with_reducible assumption) (by with_reducible assumption) rfl | exact sz_ll (by with_reducible assumption) (by with_reducible assumption) rfl | exact sz_lt (by with_reducible assumption) rfl | exact sz_le (by with_reducible assumption) rfl | exact sz_eq (by with_reducible assumption) (by with_reducible assumption) rfl | exact Nat.le_of_ble_eq_true rfl | omega); k_whole); intro h' F' N'; (try k_sweep)))
    k_with "call type:range" => (((rename Fr _ _ _ _ => F'); (rename News _ _ _ _ => N'); first
      | (with_unfolding_all refine range1_rows F' N' ?_; intro _ _ _ _ _ _ _ _ _)
      | (with_unfolding_all refine range2_rows F' N' ?_; intro _ _ _ _ _ _ _ _ _)))
    k_with "getAttr ref" => (k_here; (with_reducible show wpAny _ _ (getAttr (Value.ref _) (Str.ofString "kind") _) _ _ _); k_dflt (refine' get_kind ?g1Z7 ?g2Z7 ?g3Z7 ?g4Z7 ?g5Z7 ?_; (case g1Z7 => with_reducible assumption); (case g5Z7 => k_asm); (case g2Z7 => (intro p hp; k_mem)); (case g3Z7 => k_asm); (case g4Z7 => k_asm)); intro tg')
    k_with "getAttr ref" => (k_here; (with_reducible show wpAny _ _ (getAttr (Value.ref _) (Str.ofString "attrs") _) _ _ _); k_dflt (refine' get_attrs ?g1Z7 ?g2Z7 ?g3Z7 ?g4Z7 ?g5Z7 ?g6Z7 ?_; (case g1Z7 => with_reducible assumption); (case g5Z7 => k_asm); (case g2Z7 => (intro p hp; k_mem)); (case g3Z7 => k_asm); (case g4Z7 => k_asm); (case g6Z7 => k_handed)))
    k_with "getAttr ref" => (k_here; (with_reducible show wpAny _ _ (getAttr (Value.ref _) (Str.ofString "items") _) _ _ _); k_dflt (refine' get_items ?g1Z7 ?g2Z7 ?g3Z7 ?g4Z7 ?g5Z7 ?_; (case g1Z7 => with_reducible assumption); (case g5Z7 => k_asm); (case g2Z7 => (intro p hp; k_mem)); (case g3Z7 => k_asm); (case g4Z7 => k_asm)))
    obtain ⟨ckind, cnames, cgen, cco, cmore⟩ := cs
    dsimp only at hk
    subst hk
    refine wpAny_call ?_
    first | (k_dflt k_enter) | fail "no entry"
    k_steps
    rename Fr _ _ _ _ => F9
    rename News _ _ _ _ => N9
    exact tell_end hret [] F9 N9 (fun p hp => hp) (Apart.nil _) ⟨rfl, .none⟩
  | some h1 h2 h3 h4 h5 h6 =>
    refine tell_mk ?_
    intro dp un gd cn cs a ccd cl outer A₀ base h₀ L m s Q E PB B F X N T hk hdp hun hU hret
    k_with_none
    k_with "FinE" => (((unfold LCg.FinE); intro D' h' tk' F' N' o1'; (try simp only [off1_app, LCg.Off1, and_true, and_assoc] at o1'); (repeat (have hOf9 := And.left o1'; replace o1' := And.right o1')); (try simp only [List.nil_append, List.cons_append] at N'); (try dsimp only)))
    k_with "FinA" => (((unfold LCg.FinA); intro D' h' tk' F' N' o1'; (try simp only [off1_app, LCg.Off1, and_true, and_assoc] at o1'); (repeat (have hOf9 := And.left o1'; replace o1' := And.right o1')); (try simp only [List.nil_append, List.cons_append] at N'); (try dsimp only)))
    k_with "call type:list" => ((k_here; (with_reducible show wpAny _ _ (call (Value.type _) [Value.ref _]) _ _ _); k_dflt (refine' list_copyK ?FZ7 ?NZ7 (News.isList ?N2Z7 ?bZ7) ?_ ?zZ7; (case FZ7 => k_asm); (case NZ7 => k_asm); (case N2Z7 => k_asm); (case bZ7 => k_mem); (case zZ7 => rw [PySem.sizeLine_eq]; simp only [List.size_toArray, List.length_cons, List.length_nil]; first | exact sz_el (by with_reducible assumption) (by with_reducible assumption) rfl | exact sz_ll (by with_reducible assumption) (by with_reducible assumption) rfl | exact sz_lt (by with_reducible assumption) rfl | exact sz_le (by with_reducible assumption) rfl | exact sz_eq (by with_reducible assumption) (by with_reducible assumption) rfl | exact Nat.le_of_ble_eq_true rfl | omega)); intro D' c' h' F' N' l1; (try k_lt l1); (try k_sweep)))
    k_with "call builtin:isinstance" => ((k_here; k_dflt (refine' isi_call ?k1Z7 ?k2Z7 ?k3Z7 ?k4Z7 ?_; (case k1Z7 => k_in); (case k2Z7 => (intro M; exact InstAt.type (by k_inst))); (case k3Z7 => k_is); (case k4Z7 => intro e; cases e); k_whole)))
    k_with "getMethod ref" => ((k_here; (with_reducible show wpAny _ _ (getMethod (Value.ref _) (Str.ofString "get") _) _ _ _); k_dflt (refine kdg_method (knd := PySem.strKind _ _) (by k_asm) (by k_mem) (by k_asm) ?_)))
    k_with "call builtin:dict.get" => ((k_here; k_dflt (first
      | refine kdg_get1 (knd := PySem.strKind _ _) (by k_asm) (by k_mem) (by k_asm) (by k_asm) (strKind_is _ _ _ _) (some _) (by rfl) ?_
      | refine kdg_get1 (knd := PySem.strKind _ _) (by k_asm) (by k_mem) (by k_asm) (by k_asm) (strKind_is _ _ _ _) none (by rfl) ?_); (try dsimp only [Option.getD])))
    k_with "compareOp In str ref" => ((k_here; k_dflt (first
      | refine kda_in (knd := PySem.strKind _ _) (by k_asm) (by k_mem) (by k_asm) (by k_asm) (strKind_is _ _ _ _) true (by rfl) ?_
      | refine kda_in (knd := PySem.strKind _ _) (by k_asm) (by k_mem) (by k_asm) (by k_asm) (strKind_is _ _ _ _) false (by rfl) ?_)))
    k_with "compareOp NotIn str ref" => ((k_here; k_dflt (first
      | refine kdg_notin (knd := PySem.strKind _ _) (by k_asm) (by k_mem) (by k_asm) (by k_asm) (strKind_is _ _ _ _) true (by rfl) ?_
      | refine kdg_notin (knd := PySem.strKind _ _) (by k_asm) (by k_mem) (by k_asm) (by k_asm) (strKind_is _ _ _ _) false (by rfl) ?_); (try dsimp only [Bool.not_true, Bool.not_false])))
    k_with "subscriptTail" => ((k_here; (with_reducible show wpAny _ _ (subscriptTail _ _ (Value.ref _) (Value.str _ _)) _ _ _); k_dflt (first
      | refine kda_item (knd := PySem.strKind _ _) (by k_asm) (by k_mem) (by k_asm) (strKind_is _ _ _ _) (by rfl) ?_
      | refine kdt_tail (knd := PySem.strKind _ _) (by k_asm) (by k_mem) (by k_asm) ?_)))
    k_with "getItem ref str" => ((k_here; k_dflt (refine kdt_getItem (knd := PySem.strKind _ _) (by k_asm) (by k_mem) (by k_asm) (strKind_is _ _ _ _) (by rfl) ?_)))
    k_with "setItem ref str" => ((k_here; k_dflt (refine' kda_set (knd := PySem.strKind _ _) ?FZ7 ?NZ7 ?UZ7 ?dZ7 (strKind_is _ _ _ _) ?zZ7 ?_; (case FZ7 => k_asm); (case NZ7 => k_asm); (case UZ7 => k_updF); (case dZ7 => k_asm); (case zZ7 => rw [sizeLine_eq]; exact Nat.le_of_ble_eq_true (by with_unfolding_all rfl))); intro h' o' F' N' hd'; (try dsimp only at N')))
    k_with "call builtin:len" => ((k_here; (with_reducible show wpAny _ _ (call (Value.builtin "len") [Value.ref _]) _ _ _); k_dflt (refine' len_mem ?NZ7 ?bZ7 ?zZ7 ?_; (case NZ7 => k_asm); (case bZ7 => k_mem); (case zZ7 => omega))))
    k_with "eval ListComp" => ((k_here; k_dflt (refine LCg.ListComp_U (F₀ := by k_asm) (by with_unfolding_all rfl) (by decide) (by rfl) (by decide) (by rfl) ?_)))
    k_with "exec Assign cons ListComp" => ((k_here; k_dflt (refine LCg.Assign_ListComp_U (F₀ := by k_asm) (by rfl) (by with_unfolding_all rfl) (by with_unfolding_all rfl) (by decide) (by rfl) (by decide) (by rfl) (by rfl) (by rfl) ?_)))
    k_with "CompSrc" => ((k_here; (try k_fmods); k_dflt (refine LCg.CompSrc.range (by rfl) (by k_asm) (by k_asm) (by assumption) (by first | (with_reducible refine small_nat ?sm9; (case sm9 => first | exact lt_eq (by with_reducible assumption) (by with_reducible assumption) rfl | exact lt_lt (by with_reducible assumption) rfl | exact lt_el (by with_reducible assumption) (by with_reducible assumption) rfl | exact lt_le (by with_reducible assumption) rfl | omega)) | exact small_one (by kcf_bnd) (by kcf_bnd) (by kcf_bnd) (by kcf_bnd) | decide) (by first | exact rangeSize_nat _ _ | rfl) (by rw [PySem.sizeLine_eq]; first | exact sz_lt (by with_reducible assumption) rfl | exact sz_le (by with_reducible assumption) rfl | omega | (simp only [List.size_toArray]; omega)) ?_; intro g'; k_extra "my comp")))
    k_with "exec For Name" => ((k_here; (rename Fr _ _ _ _ => lF'); (with_unfolding_all refine' For_invVF lF' ?k1Z7 ?k2Z7 ?_; (case k1Z7 => exact rfl); (case k2Z7 => exact rfl); k_whole)))
    k_with "exec For Name Call cons nil" => ((k_here; (rename Fr _ _ _ _ => lF'); (with_unfolding_all refine' For_invVF lF' ?k1Z7 ?k2Z7 ?_; (case k1Z7 => exact rfl); (case k2Z7 => exact rfl); k_whole)))
    k_with "exec For Name Name cons nil" => ((k_here; (rename Fr _ _ _ _ => lF'); (with_unfolding_all refine' For_invVF lF' ?k1Z7 ?k2Z7 ?_; (case k1Z7 => exact rfl); (case k2Z7 => exact rfl); k_whole)))
    k_with "pyIter ref" => ((k_here; k_dflt k_extra "my loop"))
    k_with "LpPost" => ((dsimp only [LpPost]))
    k_with "call builtin:list.append" => ((k_here; k_dflt (refine' append_K ?k1Z7 ?k2Z7 ?k3Z7 ?_ ?zZ7; (case k1Z7 => k_asm); (case k2Z7 => k_asm); (case k3Z7 => k_upd); (case zZ7 => rw [PySem.sizeLine_eq]; simp only [List.size_toArray, List.length_append, List.length_cons, List.length_nil]; first | exact sz_el (by with_reducible assumption) (by with_reducible assumption) rfl | exact sz_ll (by with_reducible assumption) (by with_reducible assumption) rfl | exact sz_lt (by with_reducible assumption) rfl | exact sz_le (by with_reducible assumption) rfl | exact sz_eq (by with_reducible assumption) (by with_reducible assumption) rfl | exact Nat.le_of_ble_eq_true rfl | omega); k_whole); intro h' F' N'; (try k_sweep)))
    k_with "call type:range" => (((rename Fr _ _ _ _ => F'); (rename News _ _ _ _ => N'); first
      | (with_unfolding_all refine range1_rows F' N' ?_; intro _ _ _ _ _ _ _ _ _)
      | (with_unfolding_all refine range2_rows F' N' ?_; intro _ _ _ _ _ _ _ _ _)))
    k_with "getAttr ref" => (k_here; (with_reducible show wpAny _ _ (getAttr (Value.ref _) (Str.ofString "kind") _) _ _ _); k_dflt (refine' get_kind ?g1Z7 ?g2Z7 ?g3Z7 ?g4Z7 ?g5Z7 ?_; (case g1Z7 => with_reducible assumption); (case g5Z7 => k_asm); (case g2Z7 => (intro p hp; k_mem)); (case g3Z7 => k_asm); (case g4Z7 => k_asm)); intro tg')
    k_with "getAttr ref" => (k_here; (with_reducible show wpAny _ _ (getAttr (Value.ref _) (Str.ofString "attrs") _) _ _ _); k_dflt (refine' get_attrs ?g1Z7 ?g2Z7 ?g3Z7 ?g4Z7 ?g5Z7 ?g6Z7 ?_; (case g1Z7 => with_reducible assumption); (case g5Z7 => k_asm); (case g2Z7 => (intro p hp; k_mem)); (case g3Z7 => k_asm); (case g4Z7 => k_asm); (case g6Z7 => k_handed)))
    k_with "getAttr ref" => (k_here; (with_reducible show wpAny _ _ (getAttr (Value.ref _) (Str.ofString "items") _) _ _ _); k_dflt (refine' get_items ?g1Z7 ?g2Z7 ?g3Z7 ?g4Z7 ?g5Z7 ?_; (case g1Z7 => with_reducible assumption); (case g5Z7 => k_asm); (case g2Z7 => (intro p hp; k_mem)); (case g3Z7 => k_asm); (case g4Z7 => k_asm)))
    obtain ⟨ckind, cnames, cgen, cco, cmore⟩ := cs
    dsimp only at hk
    subst hk
    refine wpAny_call ?_
    first | (k_dflt k_enter) | fail "no entry"
    k_steps
    rename Fr _ _ _ _ => F9
    rename News _ _ _ _ => N9
    exact tell_end hret [] F9 N9 (fun p hp => hp) (Apart.nil _) ⟨rfl, .list h5 (h6.mono fun p hp => absurd hp List.not_mem_nil)⟩
set_option maxHeartbeats 600000 in
theorem axes_tell (w mean mg mb news) (x D ad : Addr) (n m : Int) (nms : Option (Option (List Value) × Option (List Value))) (pa pb : Option (List Dat)) (hv : VecAt w news x (Str.ofString "double") D (.ref ad)) (hM : MatA w news ad n m nms) (hR : NmsR nms pa pb) :
    Tell 4 w mean mg mb anyB 604 [.ref x] news (OutAxes news pa pb) := by
  cases hM with
  | plain h1 h2 h3 h4 h5 =>
    obtain ⟨ea, eb⟩ := hR
    subst ea
    subst eb
    refine tell_mk ?_
    intro dp un gd cn cs a ccd cl outer A₀ base h₀ L m s Q E PB B F X N T hk hdp hun hU hret
    k_with_none
    k_with "FinE" => (((unfold LCg.FinE); intro D' h' tk' F' N' o1'; (try simp only [off1_app, LCg.Off1, and_true, and_assoc] at o1'); (repeat (have hOf9 := And.left o1'; replace o1' := And.right o1')); (try simp only [List.nil_append, List.cons_append] at N'); (try dsimp only)))
    k_with "FinA" => (((unfold LCg.FinA); intro D' h' tk' F' N' o1'; (try simp only [off1_app, LCg.Off1, and_true, and_assoc] at o1'); (repeat (have hOf9 := And.left o1'; replace o1' := And.right o1')); (try simp only [List.nil_append, List.cons_append] at N'); (try dsimp only)))
    k_with "call type:list" => ((k_here; (with_reducible show wpAny _ _ (call (Value.type _) [Value.ref _]) _ _ _); k_dflt (refine' list_copyK ?FZ7 ?NZ7 (News.isList ?N2Z7 ?bZ7) ?_ ?zZ7; (case FZ7 => k_asm); (case NZ7 => k_asm); (case N2Z7 => k_asm); (case bZ7 => k_mem); (case zZ7 => rw [PySem.sizeLine_eq]; simp only [List.size_toArray, List.length_cons, List.length_nil]; first | exact sz_el (by with_reducible assumption) (by with_reducible assumption) rfl | exact sz_ll (by with_reducible assumption) (by with_reducible assumption) rfl | exact sz_lt (by with_reducible assumption) rfl | exact sz_le (by with_reducible assumption) rfl | exact sz_eq (by with_reducible assumption) (by with_reducible assumption) rfl | exact Nat.le_of_ble_eq_true rfl | omega)); intro D' c' h' F' N' l1; (try k_lt l1); (try k_sweep)))
    k_with "call builtin:isinstance" => ((k_here; k_dflt (refine' isi_call ?k1Z7 ?k2Z7 ?k3Z7 ?k4Z7 ?_; (case k1Z7 => k_in); (case k2Z7 => (intro M; exact InstAt.type (by k_inst))); (case k3Z7 => k_is); (case k4Z7 => intro e; cases e); k_whole)))
    k_with "getMethod ref" => ((k_here; (with_reducible show wpAny _ _ (getMethod (Value.ref _) (Str.ofString "get") _) _ _ _); k_dflt (refine kdg_method (knd := PySem.strKind _ _) (by k_asm) (by k_mem) (by k_asm) ?_)))
    k_with "call builtin:dict.get" => ((k_here; k_dflt (first
      | refine kdg_get1 (knd := PySem.strKind _ _) (by k_asm) (by k_mem) (by k_asm) (by k_asm) (strKind_is _ _ _ _) (some _) (by rfl) ?_
      | refine kdg_get1 (knd := PySem.strKind _ _) (by k_asm) (by k_mem) (by k_asm) (by k_asm) (strKind_is _ _ _ _) none (by rfl) ?_); (try dsimp only [Option.getD])))
    k_with "compareOp In str ref" => ((k_here; k_dflt (first
      | refine kda_in (knd := PySem.strKind _ _) (by k_asm) (by k_mem) (by k_asm) (by k_asm) (strKind_is _ _ _ _) true (by rfl) ?_
      | refine kda_in (knd := PySem.strKind _ _) (by k_asm) (by k_mem) (by k_asm) (by k_asm) (strKind_is _ _ _ _) false (by rfl) ?_)))
    k_with "compareOp NotIn str ref" => ((k_here; k_dflt (first
      | refine kdg_notin (knd := PySem.strKind _ _) (by k_asm) (by k_mem) (by k_asm) (by k_asm) (strKind_is _ _ _ _) true (by rfl) ?_
      | refine kdg_notin (knd := PySem.strKind _ _) (by k_asm) (by k_mem) (by k_asm) (by k_asm) (strKind_is _ _ _ _) false (by rfl) ?_); (try dsimp only [Bool.not_true, Bool.not_false])))
    k_with "subscriptTail" => ((k_here; (with_reducible show wpAny _ _ (subscriptTail _ _ (Value.ref _) (Value.str _ _)) _ _ _); k_dflt (first
      | refine kda_item (knd := PySem.strKind _ _) (by k_asm) (by k_mem) (by k_asm) (strKind_is _ _ _ _) (by rfl) ?_
      | refine kdt_tail (knd := PySem.strKind _ _) (by k_asm) (by k_mem) (by k_asm) ?_)))
    k_with "getItem ref str" => ((k_here; k_dflt (refine kdt_getItem (knd := PySem.strKind _ _) (by k_asm) (by k_mem) (by k_asm) (strKind_is _ _ _ _) (by rfl) ?_)))
    k_with "setItem ref str" => ((k_here; k_dflt (refine' kda_set (knd := PySem.strKind _ _) ?FZ7 ?NZ7 ?UZ7 ?dZ7 (strKind_is _ _ _ _) ?zZ7 ?_; (case FZ7 => k_asm); (case NZ7 => k_asm); (case UZ7 => k_updF); (case dZ7 => k_asm); (case zZ7 => rw [sizeLine_eq]; exact Nat.le_of_ble_eq_true (by with_unfolding_all rfl))); intro h' o' F' N' hd'; (try dsimp only at N')))
    k_with "call builtin:len" => ((k_here; (with_reducible show wpAny _ _ (call (Value.builtin "len") [Value.ref _]) _ _ _); k_dflt (refine' len_mem ?NZ7 ?bZ7 ?zZ7 ?_; (case NZ7 => k_asm); (case bZ7 => k_mem); (case zZ7 => omega))))
    k_with "eval ListComp" => ((k_here; k_dflt (refine LCg.ListComp_U (F₀ := by k_asm) (by with_unfolding_all rfl) (by decide) (by rfl) (by decide) (by rfl) ?_)))
    k_with "exec Assign cons ListComp" => ((k_here; k_dflt (refine LCg.Assign_ListComp_U (F₀ := by k_asm) (by rfl) (by with_unfolding_all rfl) (by with_unfolding_all rfl) (by decide) (by rfl) (by decide) (by rfl) (by rfl) (by rfl) ?_)))
    k_with "CompSrc" => ((k_here; (try k_fmods); k_dflt (refine LCg.CompSrc.range (by rfl) (by k_asm) (by k_asm) (by assumption) (by first | (with_reducible refine small_nat ?sm9; (case sm9 => first | exact lt_eq (by with_reducible assumption) (by with_reducible assumption) rfl | exact lt_lt (by with_reducible assumption) rfl | exact lt_el (by with_reducible assumption) (by with_reducible assumption) rfl | exact lt_le (by with_reducible assumption) rfl | omega)) | exact small_one (by kcf_bnd) (by kcf_bnd) (by kcf_bnd) (by kcf_bnd) | decide) (by first | exact rangeSize_nat _ _ | rfl) (by rw [PySem.sizeLine_eq]; first | exact sz_lt (by with_reducible assumption) rfl | exact sz_le (by with_reducible assumption) rfl | omega | (simp only [List.size_toArray]; omega)) ?_; intro g'; k_extra "my comp")))
    k_with "exec For Name" => ((k_here; (rename Fr _ _ _ _ => lF'); (with_unfolding_all refine' For_invVF lF' ?k1Z7 ?k2Z7 ?_; (case k1Z7 => exact rfl); (case k2Z7 => exact rfl); k_whole)))
    k_with "exec For Name Call cons nil" => ((k_here; (rename Fr _ _ _ _ => lF'); (with_unfolding_all refine' For_invVF lF' ?k1Z7 ?k2Z7 ?_; (case k1Z7 => exact rfl); (case k2Z7 => exact rfl); k_whole)))
    k_with "exec For Name Name cons nil" => ((k_here; (rename Fr _ _ _ _ => lF'); (with_unfolding_all refine' For_invVF lF' ?k1Z7 ?k2Z7 ?_; (case k1Z7 => exact rfl); (case k2Z7 => exact rfl); k_whole)))
    k_with "pyIter ref" => ((k_here; k_dflt k_extra "my loop"))
    k_with "LpPost" => ((dsimp only [LpPost]))
    k_with "call builtin:list.append" => ((k_here; k_dflt (refine' append_K ?k1Z7 ?k2Z7 ?k3Z7 ?_ ?zZ7; (case k1Z7 => k_asm); (case k2Z7 => k_asm); (case k3Z7 => k_upd); (case zZ7 => rw [PySem.sizeLine_eq]; simp only [List.size_toArray, List.length_append, List.length_cons, List.length_nil]; first | exact sz_el (by with_reducible assumption) (by with_reducible assumption) rfl | exact sz_ll (by with_reducible assumption) (by with_reducible assumption) rfl | exact sz_lt (by with_reducible assumption) rfl | exact sz_le (by with_reducible assumption) rfl | exact sz_eq (by with_reducible assumption) (by with_reducible assumption) rfl | exact Nat.le_of_ble_eq_true rfl | omega); k_whole); intro h' F' N'; (try k_sweep)))
    k_with "call type:range" => (((rename Fr _ _ _ _ => F'); (rename News _ _ _ _ => N'); first
      | (with_unfolding_all refine range1_rows F' N' ?_; intro _ _ _ _ _ _ _ _ _)
      | (with_unfolding_all refine range2_rows F' N' ?_; intro _ _ _ _ _ _ _ _ _)))
    k_with "getAttr ref" => (k_here; (with_reducible show wpAny _ _ (getAttr (Value.ref _) (Str.ofString "kind") _) _ _ _); k_dflt (refine' get_kind ?g1Z7 ?g2Z7 ?g3Z7 ?g4Z7 ?g5Z7 ?_; (case g1Z7 => with_reducible assumption); (case g5Z7 => k_asm); (case g2Z7 => (intro p hp; k_mem)); (case g3Z7 => k_asm); (case g4Z7 => k_asm)); intro tg')
    k_with "getAttr ref" => (k_here; (with_reducible show wpAny _ _ (getAttr (Value.ref _) (Str.ofString "attrs") _) _ _ _); k_dflt (refine' get_attrs ?g1Z7 ?g2Z7 ?g3Z7 ?g4Z7 ?g5Z7 ?g6Z7 ?_; (case g1Z7 => with_reducible assumption); (case g5Z7 => k_asm); (case g2Z7 => (intro p hp; k_mem)); (case g3Z7 => k_asm); (case g4Z7 => k_asm); (case g6Z7 => k_handed)))
    k_with "getAttr ref" => (k_here; (with_reducible show wpAny _ _ (getAttr (Value.ref _) (Str.ofString "items") _) _ _ _); k_dflt (refine' get_items ?g1Z7 ?g2Z7 ?g3Z7 ?g4Z7 ?g5Z7 ?_; (case g1Z7 => with_reducible assumption); (case g5Z7 => k_asm); (case g2Z7 => (intro p hp; k_mem)); (case g3Z7 => k_asm); (case g4Z7 => k_asm)))
    obtain ⟨ckind, cnames, cgen, cco, cmore⟩ := cs
    dsimp only at hk
    subst hk
    refine wpAny_call ?_
    first | (k_dflt k_enter) | fail "no entry"
    k_steps
    rename Fr _ _ _ _ => F9
    rename News _ _ _ _ => N9
    exact tell_end hret [(_, _)] F9 N9 (fun p hp => hp) (by repeat' (first | exact Apart.nil _ | refine Apart.c (by k_all) ?_)) ⟨_, _, _, rfl, .head _, .cons .none (.cons .none .nil)⟩
  | named h1 h2 h3 h4 h5 h6 h7 h8 h9 =>
    obtain ⟨hR1, hR2, -⟩ := hR
    have hax := fun i v => ax_of (i := i) (v := v) h8 h9 hR1 hR2
    refine tell_mk ?_
    intro dp un gd cn cs a ccd cl outer A₀ base h₀ L m s Q E PB B F X N T hk hdp hun hU hret
    k_with_none
    k_with "FinE" => (((unfold LCg.FinE); intro D' h' tk' F' N' o1'; (try simp only [off1_app, LCg.Off1, and_true, and_assoc] at o1'); (repeat (have hOf9 := And.left o1'; replace o1' := And.right o1')); (try simp only [List.nil_append, List.cons_append] at N'); (try dsimp only)))
    k_with "FinA" => (((unfold LCg.FinA); intro D' h' tk' F' N' o1'; (try simp only [off1_app, LCg.Off1, and_true, and_assoc] at o1'); (repeat (have hOf9 := And.left o1'; replace o1' := And.right o1')); (try simp only [List.nil_append, List.cons_append] at N'); (try dsimp only)))
    k_with "call type:list" => ((k_here; (with_reducible show wpAny _ _ (call (Value.type _) [Value.ref _]) _ _ _); k_dflt (refine' list_copyK ?FZ7 ?NZ7 (News.isList ?N2Z7 ?bZ7) ?_ ?zZ7; (case FZ7 => k_asm); (case NZ7 => k_asm); (case N2Z7 => k_asm); (case bZ7 => k_mem); (case zZ7 => rw [PySem.sizeLine_eq]; simp only [List.size_toArray, List.length_cons, List.length_nil]; first | exact sz_el (by with_reducible assumption) (by with_reducible assumption) rfl | exact sz_ll (by with_reducible assumption) (by with_reducible assumption) rfl | exact sz_lt (by with_reducible assumption) rfl | exact sz_le (by with_reducible assumption) rfl | exact sz_eq (by with_reducible assumption) (by with_reducible assumption) rfl | exact Nat.le_of_ble_eq_true rfl | omega)); intro D' c' h' F' N' l1; (try k_lt l1); (try k_sweep)))
    k_with "call builtin:isinstance" => ((k_here; k_dflt (refine' isi_call ?k1Z7 ?k2Z7 ?k3Z7 ?k4Z7 ?_; (case k1Z7 => k_in); (case k2Z7 => (intro M; exact InstAt.type (by k_inst))); (case k3Z7 => k_is); (case k4Z7 => intro e; cases e); k_whole)))
    k_with "getMethod ref" => ((k_here; (with_reducible show wpAny _ _ (getMethod (Value.ref _) (Str.ofString "get") _) _ _ _); k_dflt (refine kdg_method (knd := PySem.strKind _ _) (by k_asm) (by k_mem) (by k_asm) ?_)))
    k_with "call builtin:dict.get" => ((k_here; k_dflt (first
      | refine kdg_get1 (knd := PySem.strKind _ _) (by k_asm) (by k_mem) (by k_asm) (by k_asm) (strKind_is _ _ _ _) (some _) (by rfl) ?_
      | refine kdg_get1 (knd := PySem.strKind _ _) (by k_asm) (by k_mem) (by k_asm) (by k_asm) (strKind_is _ _ _ _) none (by rfl) ?_); (try dsimp only [Option.getD])))
    k_with "compareOp In str ref" => ((k_here; k_dflt (first
      | refine kda_in (knd := PySem.strKind _ _) (by k_asm) (by k_mem) (by k_asm) (by k_asm) (strKind_is _ _ _ _) true (by rfl) ?_
      | refine kda_in (knd := PySem.strKind _ _) (by k_asm) (by k_mem) (by k_asm) (by k_asm) (strKind_is _ _ _ _) false (by rfl) ?_)))
    k_with "compareOp NotIn str ref" => ((k_here; k_dflt (first
      | refine kdg_notin (knd := PySem.strKind _ _) (by k_asm) (by k_mem) (by k_asm) (by k_asm) (strKind_is _ _ _ _) true (by rfl) ?_
      | refine kdg_notin (knd := PySem.strKind _ _) (by k_asm) (by k_mem) (by k_asm) (by k_asm) (strKind_is _ _ _ _) false (by rfl) ?_); (try dsimp only [Bool.not_true, Bool.not_false])))
    k_with "subscriptTail" => ((k_here; (with_reducible show wpAny _ _ (subscriptTail _ _ (Value.ref _) (Value.str _ _)) _ _ _); k_dflt (first
      | refine kda_item (knd := PySem.strKind _ _) (by k_asm) (by k_mem) (by k_asm) (strKind_is _ _ _ _) (by rfl) ?_
      | refine kdt_tail (knd := PySem.strKind _ _) (by k_asm) (by k_mem) (by k_asm) ?_)))
    k_with "getItem ref str" => ((k_here; k_dflt (refine kdt_getItem (knd := PySem.strKind _ _) (by k_asm) (by k_mem) (by k_asm) (strKind_is _ _ _ _) (by rfl) ?_)))
    k_with "setItem ref str" => ((k_here; k_dflt (refine' kda_set (knd := PySem.strKind _ _) ?FZ7 ?NZ7 ?UZ7 ?dZ7 (strKind_is _ _ _ _) ?zZ7 ?_; (case FZ7 => k_asm); (case NZ7 => k_asm); (case UZ7 => k_updF); (case dZ7 => k_asm); (case zZ7 => rw [sizeLine_eq]; exact Nat.le_of_ble_eq_true (by with_unfolding_all rfl))); intro h' o' F' N' hd'; (try dsimp only at N')))
    k_with "call builtin:len" => ((k_here; (with_reducible show wpAny _ _ (call (Value.builtin "len") [Value.ref _]) _ _ _); k_dflt (refine' len_mem ?NZ7 ?bZ7 ?zZ7 ?_; (case NZ7 => k_asm); (case bZ7 => k_mem); (case zZ7 => omega))))
    k_with "eval ListComp" => ((k_here; k_dflt (refine LCg.ListComp_U (F₀ := by k_asm) (by with_unfolding_all rfl) (by decide) (by rfl) (by decide) (by rfl) ?_)))
    k_with "exec Assign cons ListComp" => ((k_here; k_dflt (refine LCg.Assign_ListComp_U (F₀ := by k_asm) (by rfl) (by with_unfolding_all rfl) (by with_unfolding_all rfl) (by decide) (by rfl) (by decide) (by rfl) (by rfl) (by rfl) ?_)))
    k_with "CompSrc" => ((k_here; (try k_fmods); k_dflt (refine LCg.CompSrc.range (by rfl) (by k_asm) (by k_asm) (by assumption) (by first | (with_reducible refine small_nat ?sm9; (case sm9 => first | exact lt_eq (by with_reducible assumption) (by with_reducible assumption) rfl | exact lt_lt (by with_reducible assumption) rfl | exact lt_el (by with_reducible assumption) (by with_reducible assumption) rfl | exact lt_le (by with_reducible assumption) rfl | omega)) | exact small_one (by kcf_bnd) (by kcf_bnd) (by kcf_bnd) (by kcf_bnd) | decide) (by first | exact rangeSize_nat _ _ | rfl) (by rw [PySem.sizeLine_eq]; first | exact sz_lt (by with_reducible assumption) rfl | exact sz_le (by with_reducible assumption) rfl | omega | (simp only [List.size_toArray]; omega)) ?_; intro g'; k_extra "my comp")))
    k_with "exec For Name" => ((k_here; (rename Fr _ _ _ _ => lF'); (with_unfolding_all refine' For_invVF lF' ?k1Z7 ?k2Z7 ?_; (case k1Z7 => exact rfl); (case k2Z7 => exact rfl); k_whole)))
    k_with "exec For Name Call cons nil" => ((k_here; (rename Fr _ _ _ _ => lF'); (with_unfolding_all refine' For_invVF lF' ?k1Z7 ?k2Z7 ?_; (case k1Z7 => exact rfl); (case k2Z7 => exact rfl); k_whole)))
    k_with "exec For Name Name cons nil" => ((k_here; (rename Fr _ _ _ _ => lF'); (with_unfolding_all refine' For_invVF lF' ?k1Z7 ?k2Z7 ?_; (case k1Z7 => exact rfl); (case k2Z7 => exact rfl); k_whole)))
    k_with "pyIter ref" => ((k_here; k_dflt k_extra "my loop"))
    k_with "LpPost" => ((dsimp only [LpPost]))
    k_with "call builtin:list.append" => ((k_here; k_dflt (refine' append_K ?k1Z7 ?k2Z7 ?k3Z7 ?_ ?zZ7; (case k1Z7 => k_asm); (case k2Z7 => k_asm); (case k3Z7 => k_upd); (case zZ7 => rw [PySem.sizeLine_eq]; simp only [List.size_toArray, List.length_append, List.length_cons, List.length_nil]; first | exact sz_el (by with_reducible assumption) (by with_reducible assumption) rfl | exact sz_ll (by with_reducible assumption) (by with_reducible assumption) rfl | exact sz_lt (by with_reducible assumption) rfl | exact sz_le (by with_reducible assumption) rfl | exact sz_eq (by with_reducible assumption) (by with_reducible assumption) rfl | exact Nat.le_of_ble_eq_true rfl | omega); k_whole); intro h' F' N'; (try k_sweep)))
    k_with "call type:range" => (((rename Fr _ _ _ _ => F'); (rename News _ _ _ _ => N'); first
      | (with_unfolding_all refine range1_rows F' N' ?_; intro _ _ _ _ _ _ _ _ _)
      | (with_unfolding_all refine range2_rows F' N' ?_; intro _ _ _ _ _ _ _ _ _)))
    k_with "CompSrc" => ((k_here; k_dflt (refine LCg.CompSrc.ledger (by rfl) (by k_asm) (by k_asm) (by k_mem) (by rw [PySem.sizeLine_eq]; simp) ?_; intro g'; k_extra "my comp")))
    k_with "getAttr ref" => (k_here; (with_reducible show wpAny _ _ (getAttr (Value.ref _) (Str.ofString "kind") _) _ _ _); k_dflt (refine' get_kind ?g1Z7 ?g2Z7 ?g3Z7 ?g4Z7 ?g5Z7 ?_; (case g1Z7 => with_reducible assumption); (case g5Z7 => k_asm); (case g2Z7 => (intro p hp; k_mem)); (case g3Z7 => k_asm); (case g4Z7 => k_asm)); intro tg')
    k_with "getAttr ref" => (k_here; (with_reducible show wpAny _ _ (getAttr (Value.ref _) (Str.ofString "attrs") _) _ _ _); k_dflt (refine' get_attrs ?g1Z7 ?g2Z7 ?g3Z7 ?g4Z7 ?g5Z7 ?g6Z7 ?_; (case g1Z7 => with_reducible assumption); (case g5Z7 => k_asm); (case g2Z7 => (intro p hp; k_mem)); (case g3Z7 => k_asm); (case g4Z7 => k_asm); (case g6Z7 => k_handed)))
    k_with "getAttr ref" => (k_here; (with_reducible show wpAny _ _ (getAttr (Value.ref _) (Str.ofString "items") _) _ _ _); k_dflt (refine' get_items ?g1Z7 ?g2Z7 ?g3Z7 ?g4Z7 ?g5Z7 ?_; (case g1Z7 => with_reducible assumption); (case g5Z7 => k_asm); (case g2Z7 => (intro p hp; k_mem)); (case g3Z7 => k_asm); (case g4Z7 => k_asm)))
    k_with "my comp" => (refine' comp_dat news (fun i => [hD pa, hD pb].getD i Dat.none) (fun i' v' I' oI' C' oC' D' m2' ys' tl' h' tk' E' hi' hv' hD' hA' hC' hx' F' N' off' ne' => ?turn77Z7) (fun ys' tl' hA' hD' => ?_); (all_goals (try k_fold)); (case' turn77Z7 => (obtain ⟨o9, c9, ha9, hr9, hd9⟩ := hax _ _ hv'; rcases ha9 with ⟨q1, q2⟩ | ⟨q1, q2⟩; rotate_left; obtain ⟨dx8', k18', k28', k38', k48', k58', tk08', sh08', lo08', hx18', hx28'⟩ := q1.ex; rotate_left)))
    obtain ⟨ckind, cnames, cgen, cco, cmore⟩ := cs
    dsimp only at hk
    subst hk
    refine wpAny_call ?_
    first | (k_dflt k_enter) | fail "no entry"
    k_steps
    · rename Fr _ _ _ _ => F9
      rename News _ _ _ _ => N9
      refine turn_old F9 N9 off' (Or.inr ⟨_, by k_mem, rfl, _, rfl⟩) ?_
      rw [hd9, hr9.none_eq]
      exact .none
    · rename Fr _ _ _ _ => F9
      rename News _ _ _ _ => N9
      refine turn_old F9 N9 off' (Or.inr ⟨_, by k_mem, rfl, _, rfl⟩) ?_
      obtain ⟨ds9, e9, hds9⟩ := hr9.some_eq
      rw [hd9, e9]
      exact .list (by k_mem) (hds9.mono fun p hp => absurd hp List.not_mem_nil)
    · rename Fr _ _ _ _ => F9
      rename News _ _ _ _ => N9
      exact tell_end hret ((_, _) :: tl') F9 N9 (fun p hp => hp) (Apart.c (by k_all) (hA'.sub fun p hp => by k_mem)) ⟨_, _, ys', rfl, .head _, hD'.mono fun p hp => .tail _ hp⟩
end
section
open PySem.Calls
abbrev timesQ (q p : Int × Int) : Int × Int := nrm (q.1 * p.1) (q.2 * p.2)
abbrev plusQ (q p : Int × Int) : Int × Int := nrm (q.1 * p.2 + p.1 * q.2) (q.2 * p.2)
theorem nrm_spec {n d : Int} (hd : 0 < d) : ∃ g : Int, 0 < g ∧ n = g * (nrm n d).1 ∧ d = g * (nrm n d).2 := by
  have hg : 0 < Int.gcd n d := Int.gcd_pos_of_ne_zero_right n (by omega)
  refine ⟨(Int.gcd n d : Int), by omega, ?_, ?_⟩
  · show n = _ * n.fdiv _
    rw [Int.fdiv_eq_ediv_of_nonneg _ (by omega)]
    exact (Int.mul_ediv_cancel' (Int.gcd_dvd_left ..)).symm
  · show d = _ * d.fdiv _
    rw [Int.fdiv_eq_ediv_of_nonneg _ (by omega)]
    exact (Int.mul_ediv_cancel' (Int.gcd_dvd_right ..)).symm
theorem pos_of_mul {g x : Int} (hg : 0 < g) (h : 0 < g * x) : 0 < x := by
  rcases Int.lt_or_le 0 x with h1 | h1
  · exact h1
  · have := Int.mul_le_mul_of_nonneg_left h1 (Int.le_of_lt hg)
    rw [Int.mul_zero] at this
    omega
theorem nrm_pos {n d : Int} (hd : 0 < d) : 0 < (nrm n d).2 := by
  obtain ⟨g, hg, -, e⟩ := nrm_spec (n := n) hd
  exact pos_of_mul hg (by rw [← e]; exact hd)
theorem le_of_mul {g x n : Int} (hg : 0 < g) (e : n = g * x) : x.natAbs ≤ n.natAbs := by
  rw [e, Int.natAbs_mul]
  exact Nat.le_mul_of_pos_left _ (by omega)
theorem nrm_le {n d : Int} (hd : 0 < d) : (nrm n d).1.natAbs ≤ n.natAbs ∧ (nrm n d).2 ≤ d := by
  obtain ⟨g, hg, e1, e2⟩ := nrm_spec (n := n) hd
  have p := nrm_pos (n := n) hd
  have q := le_of_mul hg e2
  exact ⟨le_of_mul hg e1, by omega⟩
theorem nrm_scale {k n d : Int} (hk : 0 < k) : nrm (k * n) (k * d) = nrm n d := by
  unfold nrm
  rw [Int.gcd_mul_left, Int.natCast_mul, Int.natAbs_of_nonneg (Int.le_of_lt hk)]
  rw [Int.mul_fdiv_mul_of_pos _ _ hk, Int.mul_fdiv_mul_of_pos _ _ hk]
theorem times_nrm {n d : Int} {c : Int × Int} (hd : 0 < d) : timesQ (nrm n d) c = nrm (n * c.1) (d * c.2) := by
  obtain ⟨g, hg, e1, e2⟩ := nrm_spec (n := n) hd
  show nrm ((nrm n d).1 * c.1) ((nrm n d).2 * c.2) = _
  rw [← nrm_scale hg, ← Int.mul_assoc, ← Int.mul_assoc, ← e1, ← e2]
theorem times_comm (q p : Int × Int) : timesQ q p = timesQ p q := by
  show nrm _ _ = nrm _ _
  rw [Int.mul_comm q.1, Int.mul_comm q.2]
theorem times_plus {a b c : Int × Int} (ha : 0 < a.2) (hb : 0 < b.2) (hc : 0 < c.2) : timesQ (plusQ a b) c = plusQ (timesQ a c) (timesQ b c) := by
  rw [times_nrm (Int.mul_pos ha hb)]
  obtain ⟨g, hg, e1, e2⟩ := nrm_spec (n := a.1 * c.1) (Int.mul_pos ha hc)
  obtain ⟨k, hk, f1, f2⟩ := nrm_spec (n := b.1 * c.1) (Int.mul_pos hb hc)
  show _ = nrm ((timesQ a c).1 * (timesQ b c).2 + (timesQ b c).1 * (timesQ a c).2) ((timesQ a c).2 * (timesQ b c).2)
  rw [← nrm_scale (Int.mul_pos hg hk) (n := (timesQ a c).1 * (timesQ b c).2 + (timesQ b c).1 * (timesQ a c).2), ← nrm_scale hc (n := (a.1 * b.2 + b.1 * a.2) * c.1)]
  congr 1
  · rw [Int.mul_add, show g * k * ((timesQ a c).1 * (timesQ b c).2) = (g * (timesQ a c).1) * (k * (timesQ b c).2) by ac_rfl, show g * k * ((timesQ b c).1 * (timesQ a c).2) = (k * (timesQ b c).1) * (g * (timesQ a c).2) by ac_rfl, ← e1, ← e2, ← f1, ← f2, Int.add_mul, Int.mul_add]
    congr 1 <;> ac_rfl
  · rw [show g * k * ((timesQ a c).2 * (timesQ b c).2) = (g * (timesQ a c).2) * (k * (timesQ b c).2) by ac_rfl, ← e2, ← f2]
    ac_rfl
theorem PR_len (as bs : List (Int × Int)) : (PR as bs).length = as.length * bs.length := by
  induction bs with
  | nil => rfl
  | cons p bs ih =>
    have e : PR as (p :: bs) = as.map (fun q => timesQ q p) ++ PR as bs := rfl
    rw [e, List.length_append, List.length_map, ih, List.length_cons, Nat.mul_succ, Nat.add_comm]
theorem PR_get {as : List (Int × Int)} : ∀ {bs : List (Int × Int)} {i j : Nat}, i < as.length → j < bs.length → (PR as bs).getD (i + as.length * j) (0, 1) = timesQ (as.getD i (0, 1)) (bs.getD j (0, 1))
  | [], _, _, _, h => absurd h (Nat.not_lt_zero _)
  | p :: bs, i, 0, hi, _ => by
    have e : PR as (p :: bs) = as.map (fun q => timesQ q p) ++ PR as bs := rfl
    rw [e, Nat.mul_zero, Nat.add_zero, List.getD_eq_getElem?_getD, List.getElem?_append_left (by rw [List.length_map]; exact hi), List.getElem?_map, List.getD_eq_getElem?_getD, List.getElem?_eq_getElem hi]
    rfl
  | p :: bs, i, j + 1, hi, hj => by
    have e : PR as (p :: bs) = as.map (fun q => timesQ q p) ++ PR as bs := rfl
    rw [e, List.getD_eq_getElem?_getD, List.getElem?_append_right (by rw [List.length_map, Nat.mul_succ]; omega), List.length_map, show i + as.length * (j + 1) - as.length = i + as.length * j by rw [Nat.mul_succ]; omega, ← List.getD_eq_getElem?_getD, PR_get hi (Nat.lt_of_succ_lt_succ hj)]
    rfl
theorem getD_mem {as : List (Int × Int)} {i : Nat} (h : i < as.length) : as.getD i (0, 1) ∈ as := by
  rw [List.getD_eq_getElem?_getD, List.getElem?_eq_getElem h]
  exact List.getElem_mem h
theorem map_range {α β : Type} {l : List α} {d : α} {f : α → β} {n : Nat} (h : l.length = n) : (List.range n).map (fun i => f (l.getD i d)) = l.map f := by
  subst h
  apply List.ext_getElem?
  intro i
  rcases Nat.lt_or_ge i l.length with hi | hi
  · rw [List.getElem?_map, List.getElem?_map, List.getElem?_range hi, List.getElem?_eq_getElem hi]
    simp [List.getD_eq_getElem?_getD, List.getElem?_eq_getElem hi]
  · rw [List.getElem?_eq_none (by simpa using hi), List.getElem?_eq_none (by simpa using hi)]
/-- turned -/
theorem mirror {as bs : List (Int × Int)} {nl nw : Nat} (ha : as.length = nl) (hb : bs.length = nw) :
    ((List.range nw).flatMap fun c => (List.range nl).map fun r => (PR bs as).getD (c + nw * r) (0, 1)) = PR as bs := by
  show _ = bs.flatMap fun p => as.map fun q => timesQ q p
  rw [List.flatMap_def, List.flatMap_def, ← map_range (d := (0, 1)) hb]
  congr 1
  apply List.map_congr_left
  intro c hc
  rw [← map_range (d := (0, 1)) ha]
  apply List.map_congr_left
  intro r hr
  rw [List.mem_range] at hc hr
  have e := PR_get (as := bs) (bs := as) (i := c) (j := r) (by omega) (by omega)
  rw [hb] at e
  exact e.trans (times_comm _ _)
/-- of a sum it is the sum -/
theorem sum_law {as bs cs : List (Int × Int)} {nl nw : Nat} (ha : as.length = nl) (hb : bs.length = nl) (hc : cs.length = nw) (h0 : 0 < nl) (pa : ∀ q ∈ as, 0 < q.2) (pb : ∀ q ∈ bs, 0 < q.2) (pc : ∀ q ∈ cs, 0 < q.2) :
    PR ((List.range nl).map fun i => plusQ (as.getD i (0, 1)) (bs.getD i (0, 1))) cs = (List.range (nl * nw)).map fun k => plusQ ((PR as cs).getD k (0, 1)) ((PR bs cs).getD k (0, 1)) := by
  have hs : ((List.range nl).map fun i => plusQ (as.getD i (0, 1)) (bs.getD i (0, 1))).length = nl := by simp
  have hl := PR_len ((List.range nl).map fun i => plusQ (as.getD i (0, 1)) (bs.getD i (0, 1))) cs
  rw [hs, hc] at hl
  have e := map_range (d := ((0 : Int), (1 : Int))) (f := id) hl
  rw [List.map_id] at e
  rw [← e]
  apply List.map_congr_left
  intro k hk
  rw [List.mem_range] at hk
  have hi : k % nl < nl := Nat.mod_lt _ h0
  have hj : k / nl < nw := Nat.div_lt_of_lt_mul hk
  have hk2 : k = k % nl + nl * (k / nl) := (Nat.mod_add_div k nl).symm
  have e1 := PR_get (as := (List.range nl).map fun i => plusQ (as.getD i (0, 1)) (bs.getD i (0, 1))) (bs := cs) (i := k % nl) (j := k / nl) (by omega) (by omega)
  have e2 := PR_get (as := as) (bs := cs) (i := k % nl) (j := k / nl) (by omega) (by omega)
  have e3 := PR_get (as := bs) (bs := cs) (i := k % nl) (j := k / nl) (by omega) (by omega)
  rw [hs, ← hk2] at e1
  rw [ha, ← hk2] at e2
  rw [hb, ← hk2] at e3
  rw [e2, e3, ← times_plus (pa _ (getD_mem (by omega))) (pb _ (getD_mem (by omega))) (pc _ (getD_mem (by omega)))]
  refine e1.trans ?_
  congr 2 <;> simp [List.getD_eq_getElem?_getD, List.getElem?_map, List.getElem?_range hi]
/-- the diagonal -/
theorem diag_get {as bs : List (Int × Int)} {n p : Nat} (ha : as.length = n) (hb : bs.length = n) (hp : p < n) : (PR as bs).getD (p * n + p) (0, 1) = timesQ (as.getD p (0, 1)) (bs.getD p (0, 1)) := by
  have e := PR_get (as := as) (bs := bs) (i := p) (j := p) (by omega) (by omega)
  rw [ha] at e
  rw [← e, Nat.mul_comm, Nat.add_comm]
end
section
open PySem.Calls PyProof.V PySem.Spec
def rowQ (ns : List Int) (f : Int) (n : Nat) : List (Int × Int) := (List.range n).map fun (k : Nat) => rowF ns (f + (k : Int))
theorem rowQ_len {ns : List Int} {f : Int} {n : Nat} : (rowQ ns f n).length = n := by simp [rowQ]
def Sm0 (q : Int × Int) : Prop := q.1.natAbs ≤ 13 ∧ 0 < q.2 ∧ q.2 ≤ 4
theorem rowQ_sm0 {ns : List Int} {f : Int} {n : Nat} : ∀ q ∈ rowQ ns f n, Sm0 q := by
  intro q hq
  obtain ⟨k, -, rfl⟩ := List.mem_map.mp hq
  unfold rowF
  have h0 := cellV_nonneg ns (f + (k : Int))
  rw [Int.fmod_eq_emod_of_nonneg _ (by decide), Int.fdiv_eq_ediv_of_nonneg _ (by decide), Int.fmod_eq_emod_of_nonneg _ (by decide)]
  have hd : 0 < 1 + cellV ns (f + (k : Int)) / 23 % 4 := by omega
  have a := nrm_le (n := cellV ns (f + (k : Int)) % 23 - 9) hd
  have b := nrm_pos (n := cellV ns (f + (k : Int)) % 23 - 9) hd
  exact ⟨by omega, b, by omega⟩
theorem Sm0.sm {q : Int × Int} (h : Sm0 q) : Sm q := ⟨by have := h.1; omega, h.2.1, by have := h.2.2; omega⟩
theorem rowQ_sm {ns : List Int} {f : Int} {n : Nat} : ∀ q ∈ rowQ ns f n, Sm q := fun q hq => (rowQ_sm0 q hq).sm
theorem natAbs_mul_le {a b : Int} {m n : Nat} (ha : a.natAbs ≤ m) (hb : b.natAbs ≤ n) : (a * b).natAbs ≤ m * n := by
  rw [Int.natAbs_mul]; exact Nat.mul_le_mul ha hb
theorem times_sm {q p : Int × Int} (h : Sm0 q) (k : Sm0 p) : Sm (timesQ q p) := by
  have hd := Int.mul_pos h.2.1 k.2.1
  have a := nrm_le (n := q.1 * p.1) hd
  have b := nrm_pos (n := q.1 * p.1) hd
  have c := natAbs_mul_le h.1 k.1
  have d := natAbs_mul_le (a := q.2) (b := p.2) (m := 4) (n := 4) (by have := h.2; omega) (by have := k.2; omega)
  show Sm (nrm _ _)
  exact ⟨by omega, b, by omega⟩
theorem plus_sm {q p : Int × Int} (h : Sm0 q) (k : Sm0 p) : Sm (plusQ q p) := by
  have hd := Int.mul_pos h.2.1 k.2.1
  have a := nrm_le (n := q.1 * p.2 + p.1 * q.2) hd
  have b := nrm_pos (n := q.1 * p.2 + p.1 * q.2) hd
  have c := natAbs_mul_le (a := q.1) (b := p.2) (m := 13) (n := 4) h.1 (by have := k.2; omega)
  have c2 := natAbs_mul_le (a := p.1) (b := q.2) (m := 13) (n := 4) k.1 (by have := h.2; omega)
  have d := natAbs_mul_le (a := q.2) (b := p.2) (m := 4) (n := 4) (by have := h.2; omega) (by have := k.2; omega)
  show Sm (nrm _ _)
  exact ⟨by omega, b, by omega⟩
theorem PR_sm {as bs : List (Int × Int)} (h : ∀ q ∈ as, Sm0 q) (k : ∀ q ∈ bs, Sm0 q) : ∀ q ∈ PR as bs, Sm q := by
  intro q hq
  unfold PR at hq
  obtain ⟨p, hp, hq⟩ := List.mem_flatMap.mp hq
  obtain ⟨r, hr, rfl⟩ := List.mem_map.mp hq
  exact times_sm (h r hr) (k p hp)
def sumQ (as bs : List (Int × Int)) (n : Nat) : List (Int × Int) := (List.range n).map fun i => plusQ (as.getD i (0, 1)) (bs.getD i (0, 1))
theorem sumQ_sm {as bs : List (Int × Int)} {n : Nat} (ha : as.length = n) (hb : bs.length = n) (h : ∀ q ∈ as, Sm0 q) (k : ∀ q ∈ bs, Sm0 q) : ∀ q ∈ sumQ as bs n, Sm q := by
  intro q hq
  obtain ⟨i, hi, rfl⟩ := List.mem_map.mp hq
  rw [List.mem_range] at hi
  exact plus_sm (h _ (getD_mem (by omega))) (k _ (getD_mem (by omega)))
theorem rowT (w mean mg mb news) (l : Addr) (vs : List Value) (ns : List Int) (hi : IntsAre vs ns) (hl : ns.length < 2 ^ 62) (f : Int) (t : Tok) (h0 : 0 ≤ f) (hf : f < 100) (n : Nat) (t' : Tok) (hn : n < 100) :
    Tell 4 w mean mg mb (fun base => base.IsList l vs.toArray) 580 [.ref l, .int f t, .int (n : Int) t'] news (OutList ((rowQ ns f n).map frD)) := by
  have e : (rowQ ns f n).map frD = (List.range n).map fun (k : Nat) => frD (rowF ns (f + (k : Int))) := by unfold rowQ; rw [List.map_map]; rfl
  rw [e]
  exact row_tell w mean mg mb news l vs ns hi hl f t h0 hf n t' hn
section
variable {prog : Program} {w : World} {A : Around} {E : Value → Shared → Prop} {s : Shared} {h₀ : Heap} {L : Addr} {news : Led} {Q : Value → Shared → Prop}
/-- two values that tell the same datum are not unequal -/
theorem ne_dat {n₁ n₂ : Led} {va vb : Value} {d e : Dat} (N : News h₀ L s.heap news) (Da : DatIn n₁ va d) (sa : ∀ p ∈ n₁, p ∈ news) (Db : DatIn n₂ vb e) (sb : ∀ p ∈ n₂, p ∈ news) (ed : e = d) (ok : kqdOk 9 d = true) (hu : A.units + 64 < cLine)
    (h : Q (.bool false) s) : wpAny (model prog w) A (compareOp .NotEq va vb) Q E s := by
  subst ed
  obtain ⟨as, ra⟩ := kqd_in N 9 (Da.mono sa) ok
  obtain ⟨bs, rb⟩ := kqd_in N 9 (Db.mono sb) ok
  have l := kqd_lay 9 e ok
  have ly : SeqAt.shaped (kqdP e) = true := by
    unfold SeqAt.shaped
    rw [l.1, Bool.true_and]
    exact decide_eq_true (Nat.le_trans l.2 (by decide))
  refine SeqAt.compareNe_shaped ra rb ly ly hu ?_
  rw [(kqd_eqv 9 e e 9 ok ok).mpr rfl]
  exact h
theorem ne_list {n₁ n₂ : Led} {a b : Addr} {xs ys : List Value} {ka kb : Nat} {ds es : List Dat} (N : News h₀ L s.heap news) (ma : (a, listOf xs.toArray ka) ∈ news) (mb : (b, listOf ys.toArray kb) ∈ news) (Da : DatAll n₁ xs ds) (sa : ∀ p ∈ n₁, p ∈ news) (Db : DatAll n₂ ys es) (sb : ∀ p ∈ n₂, p ∈ news)
    (ed : es = ds) (ok : ∀ d ∈ ds, kqdOk 8 d = true) (hu : A.units + 64 < cLine) (h : Q (.bool false) s) : wpAny (model prog w) A (compareOp .NotEq (.ref a) (.ref b)) Q E s :=
  ne_dat (n₁ := news) (n₂ := news) (d := .list ds) (e := .list es) N (.list ma (Da.mono sa)) (fun _ h => h) (.list mb (Db.mono sb)) (fun _ h => h) (by rw [ed]) (by simpa [kqdOk] using ok) hu h
theorem ne_tup {a b : Addr} {q p : Int × Int} {t1 t2 t3 t4 : Tok} {c c2 : Nat} (N : News h₀ L s.heap news) (ma : (a, tup2 q t1 t2 c) ∈ news) (mb : (b, tup2 p t3 t4 c2) ∈ news) (e : p = q) (hu : A.units + 64 < cLine) (h : Q (.bool false) s) :
    wpAny (model prog w) A (compareOp .NotEq (.ref a) (.ref b)) Q E s :=
  ne_dat (n₁ := news) (n₂ := news) (d := frD q) (e := frD p) N (datIn_tup ma) (fun _ h => h) (datIn_tup mb) (fun _ h => h) (by rw [e]) rfl hu h
theorem item_fr {l : Addr} {vs : List Value} {c : Nat} {n₁ : Led} {as : List (Int × Int)} {value slice : Expr} {k : Int} {u : Tok} (N : News h₀ L s.heap news) (hm : (l, listOf vs.toArray c) ∈ news) (D : DatAll n₁ vs (as.map frD)) (sa : ∀ p ∈ n₁, p ∈ news) (h0 : 0 ≤ k) (hk : k < (as.length : Int)) (hb : k < 2 ^ 60)
    (h : ∀ a t1 t2 c, (a, tup2 (as.getD k.toNat (0, 1)) t1 t2 c) ∈ news → Q (.ref a) s)
    (hs : subscripted slice false (.ref l) (.int k u) = operate [.ref l, .int k u] (getItem (.ref l) (.int k u)) := by with_unfolding_all rfl) (hg : ∀ r, letTemporaryGo value (.ref l) r = pure () := by intro _; with_unfolding_all rfl) :
    wpAny (model prog w) A (subscriptTail value slice (.ref l) (.int k u)) Q E s := by
  refine item_mem N hm D h0 (by rw [List.length_map]; exact hk) hb (fun v d hv hd hD => ?_) hs hg
  have hk' : k.toNat < as.length := by omega
  rw [List.getElem?_map, List.getElem?_eq_getElem hk'] at hd
  cases hd
  obtain ⟨a, t1, t2, c, e, hm⟩ := datIn_frD hD
  subst e
  refine h a t1 t2 c ?_
  rw [List.getD_eq_getElem?_getD, List.getElem?_eq_getElem hk']
  exact sa _ hm
end
theorem frs_ok {qs : List (Int × Int)} : ∀ d ∈ qs.map frD, kqdOk 8 d = true := by
  intro d hd
  obtain ⟨q, -, rfl⟩ := List.mem_map.mp hd
  rfl
/-- names that may be compared -/
def NmOk (nm : Option (List Dat)) : Prop := ∀ ds, nm = some ds → ds.length < 100 ∧ ∀ d ∈ ds, kqdOk 7 d = true
theorem nmOk_none : NmOk none := fun _ h => nomatch h
theorem nmOk_nmD {n : Nat} (h : n ≤ 4) : NmOk (some (nmD n)) := by
  rintro _ ⟨rfl⟩
  match n, h with
  | 0, _ => exact ⟨by decide, by decide +kernel⟩
  | 1, _ => exact ⟨by decide, by decide +kernel⟩
  | 2, _ => exact ⟨by decide, by decide +kernel⟩
  | 3, _ => exact ⟨by decide, by decide +kernel⟩
  | 4, _ => exact ⟨by decide, by decide +kernel⟩
theorem hD_ok {nm : Option (List Dat)} (h : NmOk nm) : kqdOk 8 (hD nm) = true := by
  cases nm with
  | none => rfl
  | some ds => simpa [hD, kqdOk] using (h ds rfl).2
theorem heads_ok {a b : Option (List Dat)} (h : NmOk a) (k : NmOk b) : ∀ d ∈ [hD a, hD b], kqdOk 8 d = true := by
  intro d hd
  rcases List.mem_cons.mp hd with rfl | hd
  · exact hD_ok h
  · rw [List.mem_singleton.mp hd]; exact hD_ok k
abbrev OutVecB (w : World) (vs : List Value) : Value → Led → Prop := fun r tl => ∃ nm, NmOk nm ∧ OutVec w vs nm r tl
theorem vecB_tell (w mean mg mb news) (l : Addr) (vs : List Value) (c : Nat) (b : Bool) (hl : (l, listOf vs.toArray c) ∈ news) (hv : vs.length ≤ 4) :
    Tell 4 w mean mg mb anyB 585 [.ref l, .bool b] news (OutVecB w vs) := by
  intro dp un gd cn cs a ccd cl outer A₀ base h₀ L m s Q E PB B F X N T hk hdp hun hret
  refine vec_tell w mean mg mb news l vs c b hl (by omega) dp un gd cn cs a ccd cl outer A₀ base h₀ L m s Q E PB B F X N T hk hdp hun ?_
  intro r tl h' tk' F' N' y o
  refine hret r tl h' tk' F' N' y ⟨_, ?_, o⟩
  cases b with
  | true => exact nmOk_nmD hv
  | false => exact nmOk_none
theorem cell4 (ns : List Int) (i : Int) : ∃ n : Nat, 1 + (cellV ns i).fmod 4 = (n : Int) ∧ 1 ≤ n ∧ n ≤ 4 := by
  have h0 := cellV_nonneg ns i
  have e : (cellV ns i).fmod 4 = (cellV ns i) % 4 := Int.fmod_eq_emod_of_nonneg _ (by decide)
  rw [e]
  exact ⟨(1 + (cellV ns i) % 4).toNat, by omega, by omega, by omega⟩
theorem cell5 (ns : List Int) (i : Int) : ∃ n : Nat, (cellV ns i).fmod 5 = (n : Int) ∧ n ≤ 4 := by
  have h0 := cellV_nonneg ns i
  have e : (cellV ns i).fmod 5 = (cellV ns i) % 5 := Int.fmod_eq_emod_of_nonneg _ (by decide)
  rw [e]
  exact ⟨((cellV ns i) % 5).toNat, by omega, by omega⟩
theorem Apart.ne2 {e : Addr × Obj} {tl news : Led} {d : Addr} {o : Obj} (h : Apart (e :: tl) news) (m : (d, o) ∈ news) : ∀ p ∈ tl, p.1 ≠ d := fun p hp e => h p (.tail _ hp) _ m e.symm
theorem MatA.dim {w : World} {l : Led} {ad : Addr} {n m : Int} {nms : Option (Option (List Value) × Option (List Value))} (h : MatA w l ad n m nms) :
    ∃ o prs xd Dd t1 t2 c, (ad, o) ∈ l ∧ o.IsDictOf (PySem.strKind LP w) prs ∧ valueAt prs (Str.ofString "dim") = some (Value.ref xd) ∧ VecAt w l xd (Str.ofString "integer") Dd .none ∧ (Dd, listOf [.int n t1, .int m t2].toArray c) ∈ l := by
  cases h with
  | plain h1 h2 h3 h4 h5 => exact ⟨_, _, _, _, _, _, _, h1, h2, rfl, h4, h5⟩
  | named h1 h2 h3 h4 h5 h6 h7 h8 h9 => exact ⟨_, _, _, _, _, _, _, h1, h2, rfl, h4, h5⟩
theorem NmsR.plainEq {nms : Option (Option (List Value) × Option (List Value))} (h : NmsR nms none none) : nms = none := by
  cases nms with
  | none => rfl
  | some p => obtain ⟨-, -, h⟩ := h; rcases h with h | h <;> exact absurd rfl h

theorem ints_ok (x y : Int) : ∀ d ∈ [Dat.int x, Dat.int y], kqdOk 8 d = true := by
  intro d hd
  rcases List.mem_cons.mp hd with rfl | hd
  · rfl
  · rw [List.mem_singleton.mp hd]; rfl
theorem NmOk.len {nm : Option (List Dat)} (h : NmOk nm) : ∀ ds, nm = some ds → ds.length < 100 := fun ds e => (h ds e).1
/-- a loop whose turns may leave objects behind -/
def GR (rest : Led) (_ : Nat) (nw : Led) : Prop := ∃ tl, nw = tl ++ rest ∧ Apart tl rest
section
variable {prog : Program} {w : World} {A : Around} {E : Value → Shared → Prop} {s : Shared} {env : Env} {h₀ : Heap} {x : Str} {body : List Stmt} {Q : Flow → Shared → Prop}
theorem grow_range {r : Addr} {a b : Int} {t u v : Tok} {n : Nat} {m₀ : Str → Option Value} {rest : Led} (stored : List Str) (hh : A.handled = none)
    (hr : IsRange s.heap r a b 1 t u v) (hsm : Builtin.Range.small a b 1 = true) (hn : Builtin.Range.rangeSize a b 1 = ((n : Nat) : Int))
    (F : Fr h₀ env.locals s.heap m₀) (N : News h₀ env.locals s.heap rest)
    (turn : ∀ i t (u : Str → Option Value) tl I oI h tk, i < n → Apart tl rest → Fr h₀ env.locals h (fun z => if z = x then some (.int (a + ((i : Nat) : Int)) t) else if stored.contains z then u z else m₀ z) →
      News h₀ env.locals h ((I, oI) :: (tl ++ rest)) → (∀ p ∈ tl, p.1 ≠ I) → (∀ p ∈ rest, p.1 ≠ I) →
      wpAny (model prog w) A (execs body env) (LpPost h₀ env.locals I oI (LJ x stored m₀ (GR rest) (i + 1)) { s with heap := h, toks := tk } Q) E { s with heap := h, toks := tk })
    (done : ∀ (u : Str → Option Value) tl h tk, Apart tl rest → Fr h₀ env.locals h (fun z => if z = x then u z else if stored.contains z then u z else m₀ z) → News h₀ env.locals h (tl ++ rest) → Q .next { s with heap := h, toks := tk }) :
    wpAny (model prog w) A (pyIter (.ref r)) (fun it s₂ => LoopAtV prog w A h₀ env x body Q E it s₂) E s := by
  refine loop_rangeF stored (GR rest) hh hr hsm hn F N ⟨[], rfl, Apart.nil _⟩ ?_ ?_
  · rintro i t u nw I oI h tk hv ⟨tl, rfl, ha⟩ F₁ N₁ off
    exact turn i t u tl I oI h tk hv ha F₁ N₁ (fun p hp => off p (List.mem_append.mpr (.inl hp))) (fun p hp => off p (List.mem_append.mpr (.inr hp)))
  · rintro u nw h tk ⟨tl, rfl, ha⟩ F₁ N₁
    exact done u tl h tk ha F₁ N₁
end
theorem grow_end {h₀ : Heap} {x : Str} {I L : Addr} {oI : Obj} {m₀ m' : Str → Option Value} {rest tl tl1 : Led} {stored : List Str} {i : Nat} {s₁ : Shared} {h' : Heap} {tk : Nat}
    (F : Fr h₀ L h' m') (N : News h₀ L h' (tl1 ++ ((I, oI) :: (tl ++ rest)))) (y : Apart tl1 ((I, oI) :: (tl ++ rest))) (hI2 : ∀ p ∈ tl, p.1 ≠ I) (hI3 : ∀ p ∈ rest, p.1 ≠ I) (a : Apart tl rest)
    (hm : ∀ z, z ≠ x → stored.contains z = false → m' z = m₀ z) : LpEnd h₀ L I oI (LJ x stored m₀ (GR rest) (i + 1)) s₁ { s₁ with heap := h', toks := tk } := by
  refine ⟨h', tk, m', tl1 ++ (tl ++ rest), rfl, F, fun p hp => N p ?_, ?_, hm, tl1 ++ tl, by rw [List.append_assoc], (y.sub fun p hp => .tail _ (List.mem_append.mpr (.inr hp))).append a⟩
  · simp only [List.mem_cons, List.mem_append] at hp ⊢
    rcases hp with h | h | h | h
    · exact .inr (.inl h)
    · exact .inl h
    · exact .inr (.inr (.inl h))
    · exact .inr (.inr (.inr h))
  · intro p hp
    rcases List.mem_append.mp hp with hp | hp
    · exact (y p hp _ (.head _)).symm
    · rcases List.mem_append.mp hp with hp | hp
      · exact hI2 p hp
      · exact hI3 p hp
section
variable {prog : Program} {w : World} {A : Around} {E : Value → Shared → Prop} {s : Shared} {h₀ : Heap} {L : Addr} {news : Led} {Q : Value → Shared → Prop}
theorem ne_two {a b : Addr} {x y : Int} {t1 t2 t3 t4 : Tok} {ka kb : Nat} (N : News h₀ L s.heap news) (ma : (a, listOf [.int x t1, .int y t2].toArray ka) ∈ news) (mb : (b, listOf [.int x t3, .int y t4].toArray kb) ∈ news) (hu : A.units + 64 < cLine) (h : Q (.bool false) s) :
    wpAny (model prog w) A (compareOp .NotEq (.ref a) (.ref b)) Q E s :=
  ne_list (n₁ := []) (n₂ := []) (ds := [.int x, .int y]) (es := [.int x, .int y]) N ma mb (.cons (.int _ _) (.cons (.int _ _) .nil)) (List.forall_mem_nil _) (.cons (.int _ _) (.cons (.int _ _) .nil)) (List.forall_mem_nil _) rfl (ints_ok _ _) hu h
theorem ne_heads {a b : Addr} {xs : List Value} {va vb : Value} {ka kb : Nat} {n₁ n₂ n₃ : Led} {p q : Option (List Dat)} (N : News h₀ L s.heap news) (ma : (a, listOf xs.toArray ka) ∈ news) (mb : (b, listOf [va, vb].toArray kb) ∈ news) (Da : DatAll n₁ xs [hD p, hD q]) (sa : ∀ p ∈ n₁, p ∈ news)
    (h1 : DatIn n₂ va (hD p)) (s1 : ∀ p ∈ n₂, p ∈ news) (h2 : DatIn n₃ vb (hD q)) (s2 : ∀ p ∈ n₃, p ∈ news) (o1 : NmOk p) (o2 : NmOk q) (hu : A.units + 64 < cLine) (h : Q (.bool false) s) :
    wpAny (model prog w) A (compareOp .NotEq (.ref a) (.ref b)) Q E s :=
  ne_list (n₂ := news) N ma mb Da sa (.cons (h1.mono s1) (.cons (h2.mono s2) .nil)) (fun _ h => h) rfl (heads_ok o1 o2) hu h
end

theorem via {α : Type} {m : α} {l L : List α} (h : m ∈ l) (k : m ∈ l → m ∈ L) : m ∈ L := k h

theorem idx_facts {i j n m : Nat} (hi : i < n) (hj : j < m) : (0 + (i : Int)) + (n : Int) * (0 + (j : Int)) = ((i + n * j : Nat) : Int) ∧ i + n * j < n * m := by
  refine ⟨by simp only [Int.zero_add, Int.natCast_add, Int.natCast_mul], ?_⟩
  have := Nat.mul_le_mul_left n (show j + 1 ≤ m from hj)
  rw [Nat.mul_succ] at this
  omega
theorem PR_row {ns : List Int} {f g : Int} {n m i j : Nat} (hi : i < n) (hj : j < m) : (PR (rowQ ns f n) (rowQ ns g m)).getD (i + n * j) (0, 1) = timesQ ((rowQ ns f n).getD i (0, 1)) ((rowQ ns g m).getD j (0, 1)) := by
  have e := PR_get (as := rowQ ns f n) (bs := rowQ ns g m) (i := i) (j := j) (by rw [rowQ_len]; exact hi) (by rw [rowQ_len]; exact hj)
  rw [rowQ_len] at e
  exact e
theorem found_eq {ns : List Int} {f g : Int} {n m i j : Nat} {k : Int} (hi : i < n) (hj : j < m) (hk : k = ((i + n * j : Nat) : Int)) :
    nrm (((rowQ ns f n).getD (0 + (i : Int)).toNat (0, 1)).1 * ((rowQ ns g m).getD (0 + (j : Int)).toNat (0, 1)).1) (((rowQ ns f n).getD (0 + (i : Int)).toNat (0, 1)).2 * ((rowQ ns g m).getD (0 + (j : Int)).toNat (0, 1)).2) = (PR (rowQ ns f n) (rowQ ns g m)).getD k.toNat (0, 1) := by
  subst hk
  rw [Int.zero_add, Int.zero_add, Int.toNat_natCast, Int.toNat_natCast, Int.toNat_natCast]
  exact (PR_row hi hj).symm
theorem row_sm {ns : List Int} {f : Int} {n i : Nat} (h : i < n) : Sm ((rowQ ns f n).getD (0 + (i : Int)).toNat (0, 1)) := by
  rw [Int.zero_add, Int.toNat_natCast]
  exact rowQ_sm _ (getD_mem (by rw [rowQ_len]; exact h))

theorem all2_dat {K : Led} {n₂ : Nat} {f : Nat → Nat → Value} {g : Nat → Nat → Dat} : ∀ {n : Nat}, (∀ c r, c < n → r < n₂ → DatIn K (f c r) (g c r)) → DatAll K (all2 n₂ f n) ((List.range n).flatMap fun c => (List.range n₂).map (g c))
  | 0, _ => .nil
  | n + 1, h => by
    rw [← all2_snoc, List.range_succ, List.flatMap_append, List.flatMap_singleton]
    exact (all2_dat fun c r hc hr => h c r (Nat.lt_succ_of_lt hc) hr).append (datAll_map fun r hr => h n r (Nat.lt_succ_self n) (List.mem_range.mp hr))
theorem fr_getD {qs : List (Int × Int)} {i : Nat} (h : i < qs.length) : (qs.map frD).getD i Dat.none = frD (qs.getD i (0, 1)) := by
  rw [List.getD_eq_getElem?_getD, List.getD_eq_getElem?_getD, List.getElem?_map, List.getElem?_eq_getElem h]
  rfl
theorem fr_at {K : Led} {vs : List Value} {qs : List (Int × Int)} {i : Nat} (D : DatAll K vs (qs.map frD)) (h : i < qs.length) : DatIn K (vs.getD i .none) (frD (qs.getD i (0, 1))) := by
  have hl := D.length
  rw [List.length_map] at hl
  have e := dat_getD (i := i) D (by omega)
  rw [fr_getD h] at e
  exact e
theorem mirror_dat {K : Led} {vs : List Value} {as bs : List (Int × Int)} {nl nw : Nat} (ha : as.length = nl) (hb : bs.length = nw) (D : DatAll K vs ((PR bs as).map frD)) :
    DatAll K (all2 nl (fun c r => vs.getD (c + nw * r) .none) nw) ((PR as bs).map frD) := by
  have e := mirror ha hb
  rw [← e, List.map_flatMap]
  have h := all2_dat (K := K) (n₂ := nl) (n := nw) (f := fun c r => vs.getD (c + nw * r) .none) (g := fun c r => frD ((PR bs as).getD (c + nw * r) (0, 1))) fun c r hc hr => by
    refine fr_at D ?_
    rw [PR_len, ha, hb]
    exact (idx_facts (n := nw) (m := nl) hc hr).2
  rw [show (List.flatMap (fun a => List.map frD (List.map (fun r => (PR bs as).getD (a + nw * r) (0, 1)) (List.range nl))) (List.range nw)) = (List.flatMap (fun c => List.map (fun r => frD ((PR bs as).getD (c + nw * r) (0, 1))) (List.range nl)) (List.range nw)) by simp only [List.map_map]; rfl]
  exact h
theorem diag_dat {K : Led} {vs : List Value} {as bs : List (Int × Int)} {n : Nat} (ha : as.length = n) (hb : bs.length = n) (D : DatAll K vs ((PR as bs).map frD)) :
    DatAll K ((List.range (min n n)).map fun p => vs.getD (p * n + p) .none) ((List.range n).map fun p => frD (timesQ (as.getD p (0, 1)) (bs.getD p (0, 1)))) := by
  rw [Nat.min_self]
  refine datAll_map fun p hp => ?_
  rw [List.mem_range] at hp
  rw [← diag_get ha hb hp]
  refine fr_at D ?_
  rw [PR_len, ha, hb]
  exact diag_lt hp hp
theorem sum_dat {as bs cs : List (Int × Int)} {nl nw : Nat} (ha : as.length = nl) (hb : bs.length = nl) (hc : cs.length = nw) (h0 : 0 < nl) (pa : ∀ q ∈ as, Sm0 q) (pb : ∀ q ∈ bs, Sm0 q) (pc : ∀ q ∈ cs, Sm0 q) :
    (List.range (nl * nw)).map (fun k => frD (plusQ ((PR as cs).getD k (0, 1)) ((PR bs cs).getD k (0, 1)))) = (PR (sumQ as bs nl) cs).map frD := by
  have e := sum_law ha hb hc h0 (fun q h => (pa q h).2.1) (fun q h => (pb q h).2.1) (fun q h => (pc q h).2.1)
  unfold sumQ
  rw [e, List.map_map]
  rfl
theorem DG_get {vs : List Value} {nr : Nat} : ∀ {mm k : Nat}, k < nr * mm → (DG vs nr mm).getD k .none = dgCell vs (k / nr) (k % nr)
  | 0, _, h => absurd h (Nat.not_lt_zero _)
  | mm + 1, k, h => by
    rw [← DG_snoc, List.getD_eq_getElem?_getD]
    have h0 : 0 < nr := Nat.pos_of_ne_zero fun e => by rw [e, Nat.zero_mul] at h; exact absurd h (Nat.not_lt_zero _)
    rcases Nat.lt_or_ge k (nr * mm) with hk | hk
    · rw [List.getElem?_append_left (by rw [DG_len]; exact hk), ← List.getD_eq_getElem?_getD]
      exact DG_get hk
    · rw [List.getElem?_append_right (by rw [DG_len]; exact hk), DG_len]
      rw [Nat.mul_succ] at h
      have e1 : k / nr = mm := by
        refine Nat.div_eq_of_lt_le ?_ ?_
        · rw [Nat.mul_comm]; exact hk
        · rw [Nat.mul_comm, Nat.mul_succ]; exact h
      have e2 : k % nr = k - nr * mm := by
        have := Nat.mod_add_div k nr
        rw [e1] at this
        omega
      rw [e1, e2, List.getElem?_map, List.getElem?_range (by omega)]
      rfl
theorem DG_diag {vs : List Value} {nr mm p : Nat} (h1 : p < nr) (h2 : p < mm) : (DG vs nr mm).getD (p * nr + p) .none = vs.getD (p % vs.length) .none := by
  have e1 : (p * nr + p) / nr = p := by
    refine Nat.div_eq_of_lt_le (by omega) ?_
    rw [Nat.add_mul]; omega
  have e2 : (p * nr + p) % nr = p := by
    rw [Nat.mul_add_mod_self_right, Nat.mod_eq_of_lt h1]
  rw [DG_get (diag_lt h1 h2), e1, e2]
  unfold dgCell
  rw [if_pos rfl]
theorem due_dat {K : Led} {vs : List Value} {as : List (Int × Int)} {n nr mm : Nat} (ha : as.length = n) (h0 : 0 < n) (D : DatAll K vs (as.map frD)) :
    DatAll K ((List.range (min nr mm)).map fun p => (DG vs nr mm).getD (p * nr + p) .none) ((List.range (min nr mm)).map fun p => frD (as.getD (p % n) (0, 1))) := by
  have hl := D.length
  rw [List.length_map, ha] at hl
  refine datAll_map fun p hp => ?_
  rw [List.mem_range] at hp
  have h1 : p < nr := Nat.lt_of_lt_of_le hp (Nat.min_le_left ..)
  have h2 : p < mm := Nat.lt_of_lt_of_le hp (Nat.min_le_right ..)
  rw [DG_diag h1 h2, hl]
  exact fr_at D (by rw [ha]; exact Nat.mod_lt _ h0)
end
section
open PySem.Calls PyProof.V PySem.Spec
def lawFn : Stmt := LP.main.body.getLast?.getD (.Pass ⟨0, 0, 0, 0⟩)
def lawBody : List Stmt := match lawFn with
  | .FunctionDef _ _ b _ _ _ _ _ _ _ => b
  | _ => []
def lawScope : Scope := match lawFn with
  | .FunctionDef _ _ _ _ _ _ s _ _ _ => s
  | _ => { kind := .function, names := [], isGenerator := false, isCoroutine := false, more := [] }
abbrev lawE (fa : Addr) (cd : Value) (L : Addr) : Env := envOfC (Str.ofString "law") lawScope L fa cd
abbrev lawA₁ (dp un : Nat) (gd : Option (List Code)) (outer : List Env) : Around := { handled := none, depth := dp, frames := some outer, guards := gd, units := un }
abbrev lawA (fa : Addr) (cd : Value) (dp un : Nat) (gd : Option (List Code)) (outer : List Env) (L : Addr) : Around := (lawA₁ dp un gd outer).deeper (lawE fa cd L)
/-- where the walk of a stage ends -/
def Stop (P : Prop) : Prop := P
theorem Stop.mk {P : Prop} (h : Stop P) : P := h
/-- what the law's locals tell at a stage's end -/
abbrev mmL (l xO : Addr) (u : Str → Option Value) : Str → Option Value := fun z => if z = Str.ofString "script" then some (.ref l) else if z = Str.ofString "other" then some (.ref xO) else u z
theorem mmL_fr {h₀ h : Heap} {L l xO : Addr} {m : Str → Option Value} (F : Fr h₀ L h m) (h1 : m (Str.ofString "script") = some (.ref l)) (h2 : m (Str.ofString "other") = some (.ref xO)) : Fr h₀ L h (mmL l xO m) := by
  have e : mmL l xO m = m := by
    funext z
    show (if z = _ then _ else _) = _
    split
    · rename_i h; rw [h, h1]
    · split
      · rename_i h; rw [h, h2]
      · rfl
  rw [e]; exact F
/-- a vector of fractions -/
structure FV (w : World) (led : Led) (x : Addr) (vs : List Value) (qs : List (Int × Int)) (nm : Option (List Dat)) : Prop where
  ex : ∃ D c attrs, VecAt w led x (Str.ofString "double") D attrs ∧ (D, listOf vs.toArray c) ∈ led ∧ NamesAt w led attrs nm ∧ DatAll led vs (qs.map frD)
theorem FV.mono {w : World} {led led' : Led} {x : Addr} {vs : List Value} {qs : List (Int × Int)} {nm : Option (List Dat)} (h : FV w led x vs qs nm) (s : ∀ p ∈ led, p ∈ led') : FV w led' x vs qs nm := by
  obtain ⟨D, c, attrs, h1, h2, h3, h4⟩ := h.ex
  exact ⟨D, c, attrs, h1.mono s, s _ h2, h3.mono s, h4.mono s⟩
theorem fv_of {w : World} {led l1 l2 l3 : Led} {x D : Addr} {c : Nat} {attrs : Value} {vs : List Value} {qs : List (Int × Int)} {nm : Option (List Dat)} (h1 : VecAt w l1 x (Str.ofString "double") D attrs) (s1 : ∀ p ∈ l1, p ∈ led)
    (h2 : (D, listOf vs.toArray c) ∈ led) (h3 : NamesAt w l2 attrs nm) (s2 : ∀ p ∈ l2, p ∈ led) (h4 : DatAll l3 vs (qs.map frD)) (s3 : ∀ p ∈ l3, p ∈ led) : FV w led x vs qs nm := ⟨D, c, attrs, h1.mono s1, h2, h3.mono s2, h4.mono s3⟩
/-- a cell of the law's frame -/
abbrev CellIs (o : Obj) (v : Option Value) : Prop := o.data = .cell v
abbrev cells7 (L : Addr) (o1 o2 o3 o4 o5 o6 o7 : Obj) : Led := [(@HAdd.hAdd Nat Nat Nat _ (@HAdd.hAdd Nat Nat Nat _ (@HAdd.hAdd Nat Nat Nat _ (@HAdd.hAdd Nat Nat Nat _ (@HAdd.hAdd Nat Nat Nat _ (@HAdd.hAdd Nat Nat Nat _ (@HAdd.hAdd Nat Nat Nat _ L 1) 1) 1) 1) 1) 1) 1, o7), (@HAdd.hAdd Nat Nat Nat _ (@HAdd.hAdd Nat Nat Nat _ (@HAdd.hAdd Nat Nat Nat _ (@HAdd.hAdd Nat Nat Nat _ (@HAdd.hAdd Nat Nat Nat _ (@HAdd.hAdd Nat Nat Nat _ L 1) 1) 1) 1) 1) 1, o6), (@HAdd.hAdd Nat Nat Nat _ (@HAdd.hAdd Nat Nat Nat _ (@HAdd.hAdd Nat Nat Nat _ (@HAdd.hAdd Nat Nat Nat _ (@HAdd.hAdd Nat Nat Nat _ L 1) 1) 1) 1) 1, o5), (@HAdd.hAdd Nat Nat Nat _ (@HAdd.hAdd Nat Nat Nat _ (@HAdd.hAdd Nat Nat Nat _ (@HAdd.hAdd Nat Nat Nat _ L 1) 1) 1) 1, o4), (@HAdd.hAdd Nat Nat Nat _ (@HAdd.hAdd Nat Nat Nat _ (@HAdd.hAdd Nat Nat Nat _ L 1) 1) 1, o3), (@HAdd.hAdd Nat Nat Nat _ (@HAdd.hAdd Nat Nat Nat _ L 1) 1, o2), (@HAdd.hAdd Nat Nat Nat _ L 1, o1)]

theorem news_led {h₀ h : Heap} {L : Addr} {all led cs : Led} (N : News h₀ L h all) (e : all = led ++ cs) : News h₀ L h (led ++ cs) := e ▸ N
theorem led_nil {c : Led} : c = [] ++ c := rfl
theorem led_app {a b led c : Led} (h : b = led ++ c) : a ++ b = (a ++ led) ++ c := by rw [h, List.append_assoc]
theorem led_cons {x : Addr × Obj} {b led c : Led} (h : b = led ++ c) : x :: b = (x :: led) ++ c := by rw [h]; rfl
/-- nothing of led stands where the law's cells stand -/
def Off7 (L : Addr) (led : Led) : Prop := ∀ p ∈ led, ∀ k, @LT.lt Nat _ L k → @LE.le Nat _ k (@HAdd.hAdd Nat Nat Nat _ L 7) → @Ne Nat p.1 k
def HasC (L : Addr) (news : Led) : Prop := ∀ k, @LT.lt Nat _ L k → @LE.le Nat _ k (@HAdd.hAdd Nat Nat Nat _ L 7) → ∃ o, ((k, o) : Addr × Obj) ∈ news
theorem HasC.app {L : Addr} {a b : Led} (h : HasC L b) : HasC L (a ++ b) := fun k h1 h2 => (h k h1 h2).imp fun _ h => List.mem_append.mpr (.inr h)
theorem HasC.cons {L : Addr} {x : Addr × Obj} {b : Led} (h : HasC L b) : HasC L (x :: b) := fun k h1 h2 => (h k h1 h2).imp fun _ h => .tail _ h
theorem seven (M k : Nat) (h1 : M < k) (h2 : k ≤ M + 7) : k = M + 1 ∨ k = M + 2 ∨ k = M + 3 ∨ k = M + 4 ∨ k = M + 5 ∨ k = M + 6 ∨ k = M + 7 := by omega
theorem HasC.base {L : Addr} {o1 o2 o3 o4 o5 o6 o7 : Obj} : HasC L (cells7 L o1 o2 o3 o4 o5 o6 o7) := fun k h1 h2 => by
  have e := seven L k h1 h2
  rcases e with e | e | e | e | e | e | e
  · exact ⟨o1, by rw [e]; exact .tail _ (.tail _ (.tail _ (.tail _ (.tail _ (.tail _ (.head _))))))⟩
  · exact ⟨o2, by rw [e]; exact .tail _ (.tail _ (.tail _ (.tail _ (.tail _ (.head _)))))⟩
  · exact ⟨o3, by rw [e]; exact .tail _ (.tail _ (.tail _ (.tail _ (.head _))))⟩
  · exact ⟨o4, by rw [e]; exact .tail _ (.tail _ (.tail _ (.head _)))⟩
  · exact ⟨o5, by rw [e]; exact .tail _ (.tail _ (.head _))⟩
  · exact ⟨o6, by rw [e]; exact .tail _ (.head _)⟩
  · exact ⟨o7, by rw [e]; exact .head _⟩
theorem Off7.of {L : Addr} {X news : Led} (y : Apart X news) (h : HasC L news) : Off7 L X := fun p hp k h1 h2 e => by
  obtain ⟨o, ho⟩ := h k h1 h2
  exact y p hp _ ho e.symm
theorem Off7.nil {L : Addr} : Off7 L [] := fun _ h => nomatch h
theorem Off7.app {L : Addr} {a b : Led} (h : Off7 L a) (t : Off7 L b) : Off7 L (a ++ b) := fun p hp => by
  rcases List.mem_append.mp hp with hp | hp
  · exact h p hp
  · exact t p hp
theorem Off7.blk {L : Addr} {x : Addr × Obj} {a b : Led} (h : Off7 L (x :: a)) (t : Off7 L b) : Off7 L (x :: (a ++ b)) := fun p hp => by
  rcases List.mem_cons.mp hp with rfl | hp
  · exact h _ (.head _)
  · rcases List.mem_append.mp hp with hp | hp
    · exact h p (.tail _ hp)
    · exact t p hp
theorem Off7.one {L : Addr} {x : Addr × Obj} {b : Led} (h : Off7 L [x]) (t : Off7 L b) : Off7 L (x :: b) := fun p hp => by
  rcases List.mem_cons.mp hp with rfl | hp
  · exact h _ (.head _)
  · exact t p hp
theorem Off7.ne {L d : Addr} {led : Led} (h : Off7 L led) (h1 : @LT.lt Nat _ L d) (h2 : @LE.le Nat _ d (@HAdd.hAdd Nat Nat Nat _ L 7)) : ∀ p ∈ led, p.1 ≠ d := fun p hp => h p hp d h1 h2
theorem nl1 (M : Nat) : M < M + 1 := by omega
theorem nm1 (M : Nat) : M + 1 ≤ M + 7 := by omega
theorem nl2 (M : Nat) : M < M + 1 + 1 := by omega
theorem nm2 (M : Nat) : M + 1 + 1 ≤ M + 7 := by omega
theorem nl3 (M : Nat) : M < M + 1 + 1 + 1 := by omega
theorem nm3 (M : Nat) : M + 1 + 1 + 1 ≤ M + 7 := by omega
theorem nl4 (M : Nat) : M < M + 1 + 1 + 1 + 1 := by omega
theorem nm4 (M : Nat) : M + 1 + 1 + 1 + 1 ≤ M + 7 := by omega
theorem nl5 (M : Nat) : M < M + 1 + 1 + 1 + 1 + 1 := by omega
theorem nm5 (M : Nat) : M + 1 + 1 + 1 + 1 + 1 ≤ M + 7 := by omega
theorem nl6 (M : Nat) : M < M + 1 + 1 + 1 + 1 + 1 + 1 := by omega
theorem nm6 (M : Nat) : M + 1 + 1 + 1 + 1 + 1 + 1 ≤ M + 7 := by omega
theorem nl7 (M : Nat) : M < M + 1 + 1 + 1 + 1 + 1 + 1 + 1 := by omega
theorem nm7 (M : Nat) : M + 1 + 1 + 1 + 1 + 1 + 1 + 1 ≤ M + 7 := by omega
theorem Off7.n1 {L : Addr} {led : Led} (h : Off7 L led) : ∀ p ∈ led, p.1 ≠ (@HAdd.hAdd Nat Nat Nat _ L 1) := fun p hp => h p hp _ (nl1 L) (nm1 L)
theorem Off7.n2 {L : Addr} {led : Led} (h : Off7 L led) : ∀ p ∈ led, p.1 ≠ (@HAdd.hAdd Nat Nat Nat _ (@HAdd.hAdd Nat Nat Nat _ L 1) 1) := fun p hp => h p hp _ (nl2 L) (nm2 L)
theorem Off7.n3 {L : Addr} {led : Led} (h : Off7 L led) : ∀ p ∈ led, p.1 ≠ (@HAdd.hAdd Nat Nat Nat _ (@HAdd.hAdd Nat Nat Nat _ (@HAdd.hAdd Nat Nat Nat _ L 1) 1) 1) := fun p hp => h p hp _ (nl3 L) (nm3 L)
theorem Off7.n4 {L : Addr} {led : Led} (h : Off7 L led) : ∀ p ∈ led, p.1 ≠ (@HAdd.hAdd Nat Nat Nat _ (@HAdd.hAdd Nat Nat Nat _ (@HAdd.hAdd Nat Nat Nat _ (@HAdd.hAdd Nat Nat Nat _ L 1) 1) 1) 1) := fun p hp => h p hp _ (nl4 L) (nm4 L)
theorem Off7.n5 {L : Addr} {led : Led} (h : Off7 L led) : ∀ p ∈ led, p.1 ≠ (@HAdd.hAdd Nat Nat Nat _ (@HAdd.hAdd Nat Nat Nat _ (@HAdd.hAdd Nat Nat Nat _ (@HAdd.hAdd Nat Nat Nat _ (@HAdd.hAdd Nat Nat Nat _ L 1) 1) 1) 1) 1) := fun p hp => h p hp _ (nl5 L) (nm5 L)
theorem Off7.n6 {L : Addr} {led : Led} (h : Off7 L led) : ∀ p ∈ led, p.1 ≠ (@HAdd.hAdd Nat Nat Nat _ (@HAdd.hAdd Nat Nat Nat _ (@HAdd.hAdd Nat Nat Nat _ (@HAdd.hAdd Nat Nat Nat _ (@HAdd.hAdd Nat Nat Nat _ (@HAdd.hAdd Nat Nat Nat _ L 1) 1) 1) 1) 1) 1) := fun p hp => h p hp _ (nl6 L) (nm6 L)
theorem Off7.n7 {L : Addr} {led : Led} (h : Off7 L led) : ∀ p ∈ led, p.1 ≠ (@HAdd.hAdd Nat Nat Nat _ (@HAdd.hAdd Nat Nat Nat _ (@HAdd.hAdd Nat Nat Nat _ (@HAdd.hAdd Nat Nat Nat _ (@HAdd.hAdd Nat Nat Nat _ (@HAdd.hAdd Nat Nat Nat _ (@HAdd.hAdd Nat Nat Nat _ L 1) 1) 1) 1) 1) 1) 1) := fun p hp => h p hp _ (nl7 L) (nm7 L)
/-- a vector of fractions, its names untold -/
structure FW (w : World) (led : Led) (x : Addr) (vs : List Value) (qs : List (Int × Int)) : Prop where
  ex : ∃ D c attrs, VecAt w led x (Str.ofString "double") D attrs ∧ (D, listOf vs.toArray c) ∈ led ∧ DatAll led vs (qs.map frD)
theorem FW.mono {w : World} {led led' : Led} {x : Addr} {vs : List Value} {qs : List (Int × Int)} (h : FW w led x vs qs) (s : ∀ p ∈ led, p ∈ led') : FW w led' x vs qs := by
  obtain ⟨D, c, attrs, h1, h2, h4⟩ := h.ex
  exact ⟨D, c, attrs, h1.mono s, s _ h2, h4.mono s⟩
theorem fw_of {w : World} {led l1 l3 : Led} {x D : Addr} {c : Nat} {attrs : Value} {vs : List Value} {qs : List (Int × Int)} (h1 : VecAt w l1 x (Str.ofString "double") D attrs) (s1 : ∀ p ∈ l1, p ∈ led)
    (h2 : (D, listOf vs.toArray c) ∈ led) (h4 : DatAll l3 vs (qs.map frD)) (s3 : ∀ p ∈ l3, p ∈ led) : FW w led x vs qs := ⟨D, c, attrs, h1.mono s1, h2, h4.mono s3⟩
theorem ne_two2 {prog : Program} {w : World} {A : Around} {E : Value → Shared → Prop} {s : Shared} {h₀ : Heap} {L : Addr} {news : Led} {Q : Value → Shared → Prop} {a b : Addr} {x y x' y' : Int} {t1 t2 t3 t4 : Tok} {ka kb : Nat} (N : News h₀ L s.heap news) (ma : (a, listOf [.int x t1, .int y t2].toArray ka) ∈ news) (mb : (b, listOf [.int x' t3, .int y' t4].toArray kb) ∈ news) (ex : x = x') (ey : y = y') (hu : A.units + 64 < cLine) (h : Q (.bool false) s) :
    wpAny (model prog w) A (compareOp .NotEq (.ref a) (.ref b)) Q E s := by
  subst ex; subst ey
  exact ne_two N ma mb hu h
theorem Off7.lt {L d : Addr} {o : Obj} {led : Led} (h : @LT.lt Nat _ (@HAdd.hAdd Nat Nat Nat _ (@HAdd.hAdd Nat Nat Nat _ (@HAdd.hAdd Nat Nat Nat _ (@HAdd.hAdd Nat Nat Nat _ (@HAdd.hAdd Nat Nat Nat _ (@HAdd.hAdd Nat Nat Nat _ (@HAdd.hAdd Nat Nat Nat _ L 1) 1) 1) 1) 1) 1) 1) d) (t : Off7 L led) : Off7 L ((d, o) :: led) := fun p hp k h1 h2 => by
  rcases List.mem_cons.mp hp with rfl | hp
  · exact Nat.ne_of_gt (Nat.lt_of_le_of_lt h2 h)
  · exact t p hp k h1 h2
theorem Off7.each {L d : Addr} {o : Obj} {led : Led} (h7 : @Ne Nat (@HAdd.hAdd Nat Nat Nat _ (@HAdd.hAdd Nat Nat Nat _ (@HAdd.hAdd Nat Nat Nat _ (@HAdd.hAdd Nat Nat Nat _ (@HAdd.hAdd Nat Nat Nat _ (@HAdd.hAdd Nat Nat Nat _ (@HAdd.hAdd Nat Nat Nat _ L 1) 1) 1) 1) 1) 1) 1) d) (h6 : @Ne Nat (@HAdd.hAdd Nat Nat Nat _ (@HAdd.hAdd Nat Nat Nat _ (@HAdd.hAdd Nat Nat Nat _ (@HAdd.hAdd Nat Nat Nat _ (@HAdd.hAdd Nat Nat Nat _ (@HAdd.hAdd Nat Nat Nat _ L 1) 1) 1) 1) 1) 1) d) (h5 : @Ne Nat (@HAdd.hAdd Nat Nat Nat _ (@HAdd.hAdd Nat Nat Nat _ (@HAdd.hAdd Nat Nat Nat _ (@HAdd.hAdd Nat Nat Nat _ (@HAdd.hAdd Nat Nat Nat _ L 1) 1) 1) 1) 1) d) (h4 : @Ne Nat (@HAdd.hAdd Nat Nat Nat _ (@HAdd.hAdd Nat Nat Nat _ (@HAdd.hAdd Nat Nat Nat _ (@HAdd.hAdd Nat Nat Nat _ L 1) 1) 1) 1) d) (h3 : @Ne Nat (@HAdd.hAdd Nat Nat Nat _ (@HAdd.hAdd Nat Nat Nat _ (@HAdd.hAdd Nat Nat Nat _ L 1) 1) 1) d) (h2 : @Ne Nat (@HAdd.hAdd Nat Nat Nat _ (@HAdd.hAdd Nat Nat Nat _ L 1) 1) d) (h1 : @Ne Nat (@HAdd.hAdd Nat Nat Nat _ L 1) d) (t : Off7 L led) : Off7 L ((d, o) :: led) := fun p hp k a b => by
  rcases List.mem_cons.mp hp with rfl | hp
  · have e := seven L k a b
    rcases e with e | e | e | e | e | e | e
    · rw [e]; exact Ne.symm h1
    · rw [e]; exact Ne.symm h2
    · rw [e]; exact Ne.symm h3
    · rw [e]; exact Ne.symm h4
    · rw [e]; exact Ne.symm h5
    · rw [e]; exact Ne.symm h6
    · rw [e]; exact Ne.symm h7
  · exact t p hp k a b
theorem sum_of {tl : Led} {ys : List Value} {as bs : List (Int × Int)} {n : Nat} (h : DatAll (tl ++ []) ys ((List.range n).map fun i => frD (plusQ (as.getD i (0, 1)) (bs.getD i (0, 1))))) : DatAll tl ys ((sumQ as bs n).map frD) := by
  unfold sumQ
  rw [List.map_map]
  rw [List.append_nil] at h
  exact h
theorem sumQ_len {as bs : List (Int × Int)} {n : Nat} : (sumQ as bs n).length = n := by simp [sumQ]
theorem PRrow_sm {ns : List Int} {f g : Int} {n m i : Nat} (h : i < n * m) : Sm ((PR (rowQ ns f n) (rowQ ns g m)).getD (0 + (i : Int)).toNat (0, 1)) := by
  rw [Int.zero_add, Int.toNat_natCast]
  exact PR_sm rowQ_sm0 rowQ_sm0 _ (getD_mem (by rw [PR_len, rowQ_len, rowQ_len]; exact h))
theorem size_mul (n m : Nat) : Builtin.Range.rangeSize 0 ((n : Int) * (m : Int)) 1 = ((n * m : Nat) : Int) := by
  rw [← Int.natCast_mul]; exact size_nat _
theorem small_mul {n m : Nat} (h : n * m < 100) : Builtin.Range.small 0 ((n : Int) * (m : Int)) 1 = true := by
  rw [← Int.natCast_mul]; exact small_nat h
theorem frs_ok2 {n : Nat} {f : Nat → Int × Int} : ∀ d ∈ (List.range n).map (fun i => frD (f i)), kqdOk 8 d = true := by
  intro d hd
  obtain ⟨q, -, rfl⟩ := List.mem_map.mp hd
  rfl

theorem zero537 (w : World) : (fr.heap_1 w.params).lookup 537 = some { cls := .type "tuple", data := .seq #[.int 0 887, .int 1 888] } := by k_is
section
variable {prog : Program} {w : World} {A : Around} {E : Value → Shared → Prop} {s : Shared} {h₀ : Heap} {L : Addr} {news : Led} {Q : Value → Shared → Prop} {m : Str → Option Value}
theorem ne_zero {b : Addr} {t3 t4 : Tok} {c2 : Nat} (X : (fr.heap_1 w.params).In h₀) (F : Fr h₀ L s.heap m) (N : News h₀ L s.heap news) (mb : (b, tup2 (0, 1) t3 t4 c2) ∈ news) (hu : A.units + 64 < cLine) (h : Q (.bool false) s) :
    wpAny (model prog w) A (compareOp .NotEq (.ref 537) (.ref b)) Q E s := by
  have g := F.keep _ _ (X _ _ (zero537 w))
  have ok : kqdOk 9 (frD (0, 1)) = true := rfl
  have ra : ∃ as, Reads s.heap (.ref 537) (kqdP (frD (0, 1))) as := by
    rw [kqdP]
    exact ⟨_, reads_tuple_at g rfl rfl (ReadsAll.cons (Reads.int 0 887) (ReadsAll.cons (Reads.int 1 888) ReadsAll.nil))⟩
  obtain ⟨as, ra⟩ := ra
  obtain ⟨bs, rb⟩ := kqd_in N 9 (datIn_tup mb) ok
  have l := kqd_lay 9 _ ok
  have ly : SeqAt.shaped (kqdP (frD (0, 1))) = true := by
    unfold SeqAt.shaped
    rw [l.1, Bool.true_and]
    exact decide_eq_true (Nat.le_trans l.2 (by decide))
  refine SeqAt.compareNe_shaped ra rb ly ly hu ?_
  rw [(kqd_eqv 9 _ _ 9 ok ok).mpr rfl]
  exact h
/-- an item of a diagonal matrix, beside the diagonal -/
theorem item_dg {l : Addr} {vs : List Value} {nr mm j : Nat} {c : Nat} {value slice : Expr} {k : Int} {u : Tok} (N : News h₀ L s.heap news) (hm : (l, listOf (DG vs nr mm).toArray c) ∈ news) (hk : k = (j : Int)) (hj : j < nr * mm) (hb : nr * mm < 1000) (hne : j % nr ≠ j / nr) (h : Q (.ref 537) s)
    (hs : subscripted slice false (.ref l) (.int k u) = operate [.ref l, .int k u] (getItem (.ref l) (.int k u)) := by with_unfolding_all rfl) (hg : ∀ r, letTemporaryGo value (.ref l) r = pure () := by intro _; with_unfolding_all rfl) :
    wpAny (model prog w) A (subscriptTail value slice (.ref l) (.int k u)) Q E s := by
  refine item_raw N hm (by omega) (by rw [DG_len]; omega) (by omega) ?_ hs hg
  subst hk
  rw [Int.toNat_natCast, DG_get hj]
  unfold dgCell
  rw [if_neg hne]
  exact h
end
theorem size_min (n m : Nat) : Builtin.Range.rangeSize 0 (if (m : Int) < (n : Int) then (m : Int) else (n : Int)) 1 = ((min n m : Nat) : Int) := by
  rw [rangeSize_nat]
  split <;> omega
theorem small_min {n m : Nat} (h : n < 100) (k : m < 100) : Builtin.Range.small 0 (if (m : Int) < (n : Int) then (m : Int) else (n : Int)) 1 = true := small_one (by decide) (by decide) (by split <;> omega) (by split <;> omega)
theorem due_item {K tl : Led} {vs : List Value} {as : List (Int × Int)} {n i : Nat} (D : DatAll K vs (as.map frD)) (ha : as.length = n) (h0 : 0 < n) : DatIn (tl ++ K) (vs.getD (Int.fmod (0 + (i : Int)) (n : Int)).toNat .none) (frD (as.getD (i % n) (0, 1))) := by
  rw [(mod_facts (j := i) h0).1, Int.toNat_natCast]
  exact (fr_at D (by rw [ha]; exact Nat.mod_lt _ h0)).mono fun p hp => List.mem_append.mpr (.inr hp)
/-- the last loop's turn: what the two sides of its first condition are -/
theorem turn_facts {i nr mm : Nat} (h : i < nr * mm) : 0 < nr ∧ Int.fmod (0 + (i : Int)) (nr : Int) = ((i % nr : Nat) : Int) ∧ Int.fdiv (0 + (i : Int)) (nr : Int) = ((i / nr : Nat) : Int) := by
  have h0 : 0 < nr := Nat.pos_of_ne_zero fun e => by rw [e, Nat.zero_mul] at h; exact absurd h (Nat.not_lt_zero _)
  refine ⟨h0, (mod_facts h0).1, ?_⟩
  rw [Int.zero_add, Int.fdiv_eq_ediv_of_nonneg _ (by omega)]
  rfl
end
section
open PySem.Calls PyProof.V PySem.Spec
theorem use_int {k : Nat} {w : World} {mean : ExcName → Option Value} {mg mb : Str → Option Value} {PB : Heap → Prop} {f : Addr} {args : List Value} {news : Led} {dp un : Nat} {gd : Option (List Code)} {cn : Str} {cs : Scope} {a : Addr} {ccd : Value} {cl : List (Str × Addr)} {outer : List Env} {A₀ : Around} {base h₀ : Heap} {L : Addr} {m : Str → Option Value} {s : Shared} {Q E : Value → Shared → Prop} {i : Int}
    (P : PB base) (B : Below A₀ base outer h₀) (F : Fr h₀ L s.heap m) (X : (fr.heap_1 w.params).In h₀) (N : News h₀ L s.heap news) (T : LTop mean mg mb h₀) (hk : cs.kind = .function) (C : Tell k w mean mg mb PB f args news (OutInt i)) (hd : dp + k < recursionLimit) (hu : un + 20 * k + 100 < cLine)
    (ret : ∀ (t : Tok) (h' : Heap) (tk' : Nat), Fr h₀ L h' m → News h₀ L h' (([] : Led) ++ news) → Q (.int i t) { s with heap := h', toks := tk' }) : wpAny (model LP w) (ktrTop dp un gd cn cs L a ccd cl outer) (call (.ref f) args) Q E s := by
  refine tell_use P B F X N T hk C hd hu ?_
  rintro r tl h' tk' F' N' y' ⟨t, rfl, rfl⟩
  exact ret t h' tk' F' N'
theorem use_tup {k : Nat} {w : World} {mean : ExcName → Option Value} {mg mb : Str → Option Value} {PB : Heap → Prop} {f : Addr} {args : List Value} {news : Led} {dp un : Nat} {gd : Option (List Code)} {cn : Str} {cs : Scope} {a : Addr} {ccd : Value} {cl : List (Str × Addr)} {outer : List Env} {A₀ : Around} {base h₀ : Heap} {L : Addr} {m : Str → Option Value} {s : Shared} {Q E : Value → Shared → Prop} {q : Int × Int}
    (P : PB base) (B : Below A₀ base outer h₀) (F : Fr h₀ L s.heap m) (X : (fr.heap_1 w.params).In h₀) (N : News h₀ L s.heap news) (T : LTop mean mg mb h₀) (hk : cs.kind = .function) (C : Tell k w mean mg mb PB f args news (OutTup q)) (hd : dp + k < recursionLimit) (hu : un + 20 * k + 100 < cLine)
    (ret : ∀ (D : Addr) (u1 u2 : Tok) (c : Nat) (h' : Heap) (tk' : Nat), Fr h₀ L h' m → News h₀ L h' ([(D, tup2 q u1 u2 c)] ++ news) → Apart ([(D, tup2 q u1 u2 c)]) news → Q (.ref D) { s with heap := h', toks := tk' }) : wpAny (model LP w) (ktrTop dp un gd cn cs L a ccd cl outer) (call (.ref f) args) Q E s := by
  refine tell_use P B F X N T hk C hd hu ?_
  rintro r tl h' tk' F' N' y' ⟨D, u1, u2, c, rfl, rfl⟩
  exact ret D u1 u2 c h' tk' F' N' y'
theorem use_list {k : Nat} {w : World} {mean : ExcName → Option Value} {mg mb : Str → Option Value} {PB : Heap → Prop} {f : Addr} {args : List Value} {news : Led} {dp un : Nat} {gd : Option (List Code)} {cn : Str} {cs : Scope} {a : Addr} {ccd : Value} {cl : List (Str × Addr)} {outer : List Env} {A₀ : Around} {base h₀ : Heap} {L : Addr} {m : Str → Option Value} {s : Shared} {Q E : Value → Shared → Prop} {ds : List Dat}
    (P : PB base) (B : Below A₀ base outer h₀) (F : Fr h₀ L s.heap m) (X : (fr.heap_1 w.params).In h₀) (N : News h₀ L s.heap news) (T : LTop mean mg mb h₀) (hk : cs.kind = .function) (C : Tell k w mean mg mb PB f args news (OutList ds)) (hd : dp + k < recursionLimit) (hu : un + 20 * k + 100 < cLine)
    (ret : ∀ (D : Addr) (vs : List Value) (c : Nat) (tl : Led) (h' : Heap) (tk' : Nat), Fr h₀ L h' m → News h₀ L h' ((D, listOf vs.toArray c) :: tl ++ news) → Apart ((D, listOf vs.toArray c) :: tl) news → DatAll tl vs ds → vs.length = ds.length → Q (.ref D) { s with heap := h', toks := tk' }) : wpAny (model LP w) (ktrTop dp un gd cn cs L a ccd cl outer) (call (.ref f) args) Q E s := by
  refine tell_use P B F X N T hk C hd hu ?_
  rintro r tl h' tk' F' N' y' ⟨D, vs, c, tl', rfl, rfl, hd'⟩
  exact ret D vs c tl' h' tk' F' N' y' hd' hd'.length
theorem use_vec {k : Nat} {w : World} {mean : ExcName → Option Value} {mg mb : Str → Option Value} {PB : Heap → Prop} {f : Addr} {args : List Value} {news : Led} {dp un : Nat} {gd : Option (List Code)} {cn : Str} {cs : Scope} {a : Addr} {ccd : Value} {cl : List (Str × Addr)} {outer : List Env} {A₀ : Around} {base h₀ : Heap} {L : Addr} {m : Str → Option Value} {s : Shared} {Q E : Value → Shared → Prop} {vs : List Value} {nm : Option (List Dat)}
    (P : PB base) (B : Below A₀ base outer h₀) (F : Fr h₀ L s.heap m) (X : (fr.heap_1 w.params).In h₀) (N : News h₀ L s.heap news) (T : LTop mean mg mb h₀) (hk : cs.kind = .function) (C : Tell k w mean mg mb PB f args news (OutVec w vs nm)) (hd : dp + k < recursionLimit) (hu : un + 20 * k + 100 < cLine)
    (ret : ∀ (x D : Addr) (c : Nat) (at1 : Value) (tl : Led) (h' : Heap) (tk' : Nat), Fr h₀ L h' m → News h₀ L h' (tl ++ news) → Apart (tl) news → VecAt w tl x (Str.ofString "double") D at1 → (D, listOf vs.toArray c) ∈ tl → NamesAt w tl at1 nm → Q (.ref x) { s with heap := h', toks := tk' }) : wpAny (model LP w) (ktrTop dp un gd cn cs L a ccd cl outer) (call (.ref f) args) Q E s := by
  refine tell_use P B F X N T hk C hd hu ?_
  rintro r tl h' tk' F' N' y' ⟨x, D, c, at1, rfl, v', m', n'⟩
  exact ret x D c at1 tl h' tk' F' N' y' v' m' n'
theorem use_vecB {k : Nat} {w : World} {mean : ExcName → Option Value} {mg mb : Str → Option Value} {PB : Heap → Prop} {f : Addr} {args : List Value} {news : Led} {dp un : Nat} {gd : Option (List Code)} {cn : Str} {cs : Scope} {a : Addr} {ccd : Value} {cl : List (Str × Addr)} {outer : List Env} {A₀ : Around} {base h₀ : Heap} {L : Addr} {m : Str → Option Value} {s : Shared} {Q E : Value → Shared → Prop} {vs : List Value}
    (P : PB base) (B : Below A₀ base outer h₀) (F : Fr h₀ L s.heap m) (X : (fr.heap_1 w.params).In h₀) (N : News h₀ L s.heap news) (T : LTop mean mg mb h₀) (hk : cs.kind = .function) (C : Tell k w mean mg mb PB f args news (OutVecB w vs)) (hd : dp + k < recursionLimit) (hu : un + 20 * k + 100 < cLine)
    (ret : ∀ (x D : Addr) (c : Nat) (at1 : Value) (nm : Option (List Dat)) (tl : Led) (h' : Heap) (tk' : Nat), Fr h₀ L h' m → News h₀ L h' (tl ++ news) → Apart (tl) news → NmOk nm → VecAt w tl x (Str.ofString "double") D at1 → (D, listOf vs.toArray c) ∈ tl → NamesAt w tl at1 nm → Q (.ref x) { s with heap := h', toks := tk' }) : wpAny (model LP w) (ktrTop dp un gd cn cs L a ccd cl outer) (call (.ref f) args) Q E s := by
  refine tell_use P B F X N T hk C hd hu ?_
  rintro r tl h' tk' F' N' y' ⟨nm, ok, x, D, c, at1, rfl, v', m', n'⟩
  exact ret x D c at1 nm tl h' tk' F' N' y' ok v' m' n'
theorem use_outer {k : Nat} {w : World} {mean : ExcName → Option Value} {mg mb : Str → Option Value} {PB : Heap → Prop} {f : Addr} {args : List Value} {news : Led} {dp un : Nat} {gd : Option (List Code)} {cn : Str} {cs : Scope} {a : Addr} {ccd : Value} {cl : List (Str × Addr)} {outer : List Env} {A₀ : Around} {base h₀ : Heap} {L : Addr} {m : Str → Option Value} {s : Shared} {Q E : Value → Shared → Prop} {ds : List Dat} {n1 m1 : Int} {pa pb : Option (List Dat)}
    (P : PB base) (B : Below A₀ base outer h₀) (F : Fr h₀ L s.heap m) (X : (fr.heap_1 w.params).In h₀) (N : News h₀ L s.heap news) (T : LTop mean mg mb h₀) (hk : cs.kind = .function) (C : Tell k w mean mg mb PB f args news (OutOuter w ds n1 m1 pa pb)) (hd : dp + k < recursionLimit) (hu : un + 20 * k + 100 < cLine)
    (ret : ∀ (x D : Addr) (c : Nat) (ad : Addr) (vs : List Value) (nms : Option (Option (List Value) × Option (List Value))) (tl : Led) (h' : Heap) (tk' : Nat), Fr h₀ L h' m → News h₀ L h' (tl ++ news) → Apart (tl) news → VecAt w tl x (Str.ofString "double") D (.ref ad) → (D, listOf vs.toArray c) ∈ tl → DatAll tl vs ds → vs.length = ds.length → MatA w tl ad n1 m1 nms → NmsR nms pa pb → Q (.ref x) { s with heap := h', toks := tk' }) : wpAny (model LP w) (ktrTop dp un gd cn cs L a ccd cl outer) (call (.ref f) args) Q E s := by
  refine tell_use P B F X N T hk C hd hu ?_
  rintro r tl h' tk' F' N' y' ⟨x, D, c, ad, vs, nms, rfl, v', m', d', M', R'⟩
  exact ret x D c ad vs nms tl h' tk' F' N' y' v' m' d' d'.length M' R'
theorem use_head {k : Nat} {w : World} {mean : ExcName → Option Value} {mg mb : Str → Option Value} {PB : Heap → Prop} {f : Addr} {args : List Value} {news : Led} {dp un : Nat} {gd : Option (List Code)} {cn : Str} {cs : Scope} {a : Addr} {ccd : Value} {cl : List (Str × Addr)} {outer : List Env} {A₀ : Around} {base h₀ : Heap} {L : Addr} {m : Str → Option Value} {s : Shared} {Q E : Value → Shared → Prop} {d : Dat}
    (P : PB base) (B : Below A₀ base outer h₀) (F : Fr h₀ L s.heap m) (X : (fr.heap_1 w.params).In h₀) (N : News h₀ L s.heap news) (T : LTop mean mg mb h₀) (hk : cs.kind = .function) (C : Tell k w mean mg mb PB f args news (OutHead news d)) (hd : dp + k < recursionLimit) (hu : un + 20 * k + 100 < cLine)
    (ret : ∀ (r : Value) (h' : Heap) (tk' : Nat), Fr h₀ L h' m → News h₀ L h' (([] : Led) ++ news) → DatIn news r d → Q (r) { s with heap := h', toks := tk' }) : wpAny (model LP w) (ktrTop dp un gd cn cs L a ccd cl outer) (call (.ref f) args) Q E s := by
  refine tell_use P B F X N T hk C hd hu ?_
  rintro r tl h' tk' F' N' y' ⟨rfl, dH'⟩
  exact ret r h' tk' F' N' dH'
theorem use_axes {k : Nat} {w : World} {mean : ExcName → Option Value} {mg mb : Str → Option Value} {PB : Heap → Prop} {f : Addr} {args : List Value} {news : Led} {dp un : Nat} {gd : Option (List Code)} {cn : Str} {cs : Scope} {a : Addr} {ccd : Value} {cl : List (Str × Addr)} {outer : List Env} {A₀ : Around} {base h₀ : Heap} {L : Addr} {m : Str → Option Value} {s : Shared} {Q E : Value → Shared → Prop} {pa pb : Option (List Dat)}
    (P : PB base) (B : Below A₀ base outer h₀) (F : Fr h₀ L s.heap m) (X : (fr.heap_1 w.params).In h₀) (N : News h₀ L s.heap news) (T : LTop mean mg mb h₀) (hk : cs.kind = .function) (C : Tell k w mean mg mb PB f args news (OutAxes news pa pb)) (hd : dp + k < recursionLimit) (hu : un + 20 * k + 100 < cLine)
    (ret : ∀ (D : Addr) (c : Nat) (vs : List Value) (tl : Led) (h' : Heap) (tk' : Nat), Fr h₀ L h' m → News h₀ L h' (tl ++ news) → Apart (tl) news → (D, listOf vs.toArray c) ∈ tl → DatAll (tl ++ news) vs [hD pa, hD pb] → Q (.ref D) { s with heap := h', toks := tk' }) : wpAny (model LP w) (ktrTop dp un gd cn cs L a ccd cl outer) (call (.ref f) args) Q E s := by
  refine tell_use P B F X N T hk C hd hu ?_
  rintro r tl h' tk' F' N' y' ⟨D, c, vs, rfl, m', d'⟩
  exact ret D c vs tl h' tk' F' N' y' m' d'
theorem use_diag {k : Nat} {w : World} {mean : ExcName → Option Value} {mg mb : Str → Option Value} {PB : Heap → Prop} {f : Addr} {args : List Value} {news : Led} {dp un : Nat} {gd : Option (List Code)} {cn : Str} {cs : Scope} {a : Addr} {ccd : Value} {cl : List (Str × Addr)} {outer : List Env} {A₀ : Around} {base h₀ : Heap} {L : Addr} {m : Str → Option Value} {s : Shared} {Q E : Value → Shared → Prop} {ws : List Value}
    (P : PB base) (B : Below A₀ base outer h₀) (F : Fr h₀ L s.heap m) (X : (fr.heap_1 w.params).In h₀) (N : News h₀ L s.heap news) (T : LTop mean mg mb h₀) (hk : cs.kind = .function) (C : Tell k w mean mg mb PB f args news (OutDiag w ws)) (hd : dp + k < recursionLimit) (hu : un + 20 * k + 100 < cLine)
    (ret : ∀ (x D : Addr) (c : Nat) (tl : Led) (h' : Heap) (tk' : Nat), Fr h₀ L h' m → News h₀ L h' (tl ++ news) → Apart (tl) news → VecAt w tl x (Str.ofString "double") D .none → (D, listOf ws.toArray c) ∈ tl → Q (.ref x) { s with heap := h', toks := tk' }) : wpAny (model LP w) (ktrTop dp un gd cn cs L a ccd cl outer) (call (.ref f) args) Q E s := by
  refine tell_use P B F X N T hk C hd hu ?_
  rintro r tl h' tk' F' N' y' ⟨x, D, c, rfl, v', m'⟩
  exact ret x D c tl h' tk' F' N' y' v' m'
theorem use_dm {k : Nat} {w : World} {mean : ExcName → Option Value} {mg mb : Str → Option Value} {PB : Heap → Prop} {f : Addr} {args : List Value} {news : Led} {dp un : Nat} {gd : Option (List Code)} {cn : Str} {cs : Scope} {a : Addr} {ccd : Value} {cl : List (Str × Addr)} {outer : List Env} {A₀ : Around} {base h₀ : Heap} {L : Addr} {m : Str → Option Value} {s : Shared} {Q E : Value → Shared → Prop} {vs : List Value} {nr mm : Nat}
    (P : PB base) (B : Below A₀ base outer h₀) (F : Fr h₀ L s.heap m) (X : (fr.heap_1 w.params).In h₀) (N : News h₀ L s.heap news) (T : LTop mean mg mb h₀) (hk : cs.kind = .function) (C : Tell k w mean mg mb PB f args news (OutDM w vs nr mm)) (hd : dp + k < recursionLimit) (hu : un + 20 * k + 100 < cLine)
    (ret : ∀ (x D : Addr) (c : Nat) (ad : Addr) (tl : Led) (h' : Heap) (tk' : Nat), Fr h₀ L h' m → News h₀ L h' (tl ++ news) → Apart (tl) news → VecAt w tl x (Str.ofString "double") D (.ref ad) → (D, listOf (DG vs nr mm).toArray c) ∈ tl → MatA w tl ad nr mm none → Q (.ref x) { s with heap := h', toks := tk' }) : wpAny (model LP w) (ktrTop dp un gd cn cs L a ccd cl outer) (call (.ref f) args) Q E s := by
  refine tell_use P B F X N T hk C hd hu ?_
  rintro r tl h' tk' F' N' y' ⟨x, D, c, ad, rfl, v', m', M'⟩
  exact ret x D c ad tl h' tk' F' N' y' v' m' M'
end
local macro_rules | `(tactic| k_all) => `(tactic| first | with_reducible exact Off7.n1 (by with_reducible assumption) | with_reducible exact Off7.n2 (by with_reducible assumption) | with_reducible exact Off7.n3 (by with_reducible assumption) | with_reducible exact Off7.n4 (by with_reducible assumption) | with_reducible exact Off7.n5 (by with_reducible assumption) | with_reducible exact Off7.n6 (by with_reducible assumption) | with_reducible exact Off7.n7 (by with_reducible assumption) | fail "k_all")
section
open PySem.Calls
theorem scr_fr {h₀ h : Heap} {L l : Addr} {m : Str → Option Value} (F : Fr h₀ L h m) (h1 : m (Str.ofString "script") = some (.ref l)) : Fr h₀ L h (fun z => if z = Str.ofString "script" then some (.ref l) else m z) := by
  have e : (fun z => if z = Str.ofString "script" then some (.ref l) else m z) = m := by
    funext z
    show (if z = _ then _ else _) = _
    split
    · rename_i h; rw [h, h1]
    · rfl
  rw [e]; exact F
set_option maxHeartbeats 1500000 in
theorem law_k1 {w : World} {mean : ExcName → Option Value} {mg mb : Str → Option Value} {l : Addr} {vs : List Value} {ns : List Int} (hi : IntsAre vs ns) (hl : ns.length < 64) {dp un : Nat} {gd : Option (List Code)} {outer : List Env} {base h₀ : Heap} {L : Addr} {s : Shared} {Q : Flow → Shared → Prop} {m u : Str → Option Value} {nl nw : Nat} {fa : Addr} {cd : Value}
    (PB : base.IsList l vs.toArray) (B : Below (lawA₁ dp un gd outer) base outer h₀) (X : (fr.heap_1 w.params).In h₀) (T : LTop mean mg mb h₀) (hdp : dp + 20 < recursionLimit) (hun : un + 20 * 20 + 100 < cLine)
    (F : Fr h₀ L s.heap m) (hm : m (Str.ofString "script") = some (.ref l)) {o1 o2 o3 o4 o5 o6 o7 : Obj} {c1 c2 c3 c4 c5 c6 c7 : Option Value} (d1 : CellIs o1 c1) (d2 : CellIs o2 c2) (d3 : CellIs o3 c3) (d4 : CellIs o4 c4) (d5 : CellIs o5 c5) (d6 : CellIs o6 c6) (d7 : CellIs o7 c7) (N : News h₀ L s.heap (cells7 L o1 o2 o3 o4 o5 o6 o7))
    (hnl : 1 + (cellV ns 0).fmod 4 = (nl : Int)) (hnl1 : 1 ≤ nl) (hnl2 : nl ≤ 4) (hnw : 1 + (cellV ns 1).fmod 4 = (nw : Int)) (hnw1 : 1 ≤ nw) (hnw2 : nw ≤ 4)
    (next : ∀ (u : Str → Option Value) (h' : Heap) (tk' : Nat) (led : Led) (x1 x2 xO D1 D2 DO : Addr) (k1 k2 kO : Nat) (at1 at2 atO : Value) (vs1 vs2 vsO : List Value) (nm1 nmO : Option (List Dat)) (o1 o2 o3 o4 : Obj) (t1 t2 : Tok), Fr h₀ L h' (mmL l xO u) → News h₀ L h' (led ++ cells7 L o1 o2 o3 o4 o5 o6 o7) → Off7 L led →
      CellIs o1 (some (.int nl t1)) → CellIs o2 (some (.int nw t2)) → CellIs o3 (some (.ref x1)) → CellIs o4 (some (.ref x2)) →
      VecAt w led x1 (Str.ofString "double") D1 at1 → (D1, listOf vs1.toArray k1) ∈ led → NamesAt w led at1 nm1 → DatAll led vs1 ((rowQ ns 3 nl).map frD) → NmOk nm1 → VecAt w led x2 (Str.ofString "double") D2 at2 → (D2, listOf vs2.toArray k2) ∈ led → NamesAt w led at2 none → DatAll led vs2 ((rowQ ns 7 nl).map frD) → VecAt w led xO (Str.ofString "double") DO atO → (DO, listOf vsO.toArray kO) ∈ led → NamesAt w led atO nmO → DatAll led vsO ((rowQ ns 11 nw).map frD) → NmOk nmO → wpAny (model LP w) (lawA fa cd dp un gd outer L) (execs (lawBody.drop 6) (lawE fa cd L)) Q (fun _ _ => False) { s with heap := h', toks := tk' }) :
    wpAny (model LP w) (lawA fa cd dp un gd outer L) (execs (lawBody.drop 0) (lawE fa cd L)) Q (fun _ _ => False) s := by
  have hU : ∀ j, Nat.ble (1 + j) 20 = true → un + 3 + 20 * j + 100 < cLine := fun j e => unF (n := 20) hun e
  have hV : un + 3 + 64 < cLine := unV hun
  replace F := scr_fr F hm
  clear hm
  unfold cells7 at N
  unfold lawA lawE
  conv => arg 3; arg 1; whnf
  conv in lawScope => whnf
  dsimp only
  try k_fold
  k_with_none
  k_with "FinE" => (((unfold LCg.FinE); intro D' h' tk' F' N' o1'; (try simp only [off1_app, LCg.Off1, and_true, and_assoc] at o1'); (repeat (have hOf9 := And.left o1'; replace o1' := And.right o1')); (try simp only [List.nil_append, List.cons_append] at N'); (try dsimp only)))
  k_with "FinA" => (((unfold LCg.FinA); intro D' h' tk' F' N' o1'; (try simp only [off1_app, LCg.Off1, and_true, and_assoc] at o1'); (repeat (have hOf9 := And.left o1'; replace o1' := And.right o1')); (try simp only [List.nil_append, List.cons_append] at N'); (try dsimp only)))
  k_with "call type:list" => ((k_here; (with_reducible show wpAny _ _ (call (Value.type _) [Value.ref _]) _ _ _); k_dflt (refine' list_copyK ?F ?N (News.isList ?N2 ?b) ?_ ?z; (case F => k_asm); (case N => k_asm); (case N2 => k_asm); (case b => k_mem); (case z => rw [PySem.sizeLine_eq]; simp only [List.size_toArray, List.length_cons, List.length_nil]; first | exact sz_el (by with_reducible assumption) (by with_reducible assumption) rfl | exact sz_ll (by with_reducible assumption) (by with_reducible assumption) rfl | exact sz_lt (by with_reducible assumption) rfl | exact sz_le (by with_reducible assumption) rfl | exact sz_eq (by with_reducible assumption) (by with_reducible assumption) rfl | exact Nat.le_of_ble_eq_true rfl | omega)); intro D' c' h' F' N' l1; (try k_lt l1); (try k_sweep)))
  k_with "call builtin:isinstance" => ((k_here; k_dflt (refine' isi_call ?k1 ?k2 ?k3 ?k4 ?_; (case k1 => k_in); (case k2 => (intro M; exact InstAt.type (by k_inst))); (case k3 => k_is); (case k4 => intro e; cases e); k_whole)))
  k_with "getMethod ref" => ((k_here; (with_reducible show wpAny _ _ (getMethod (Value.ref _) (Str.ofString "get") _) _ _ _); k_dflt (refine kdg_method (knd := PySem.strKind _ _) (by k_asm) (by k_mem) (by k_asm) ?_)))
  k_with "call builtin:dict.get" => ((k_here; k_dflt (first
    | refine kdg_get1 (knd := PySem.strKind _ _) (by k_asm) (by k_mem) (by k_asm) (by k_asm) (strKind_is _ _ _ _) (some _) (by rfl) ?_
    | refine kdg_get1 (knd := PySem.strKind _ _) (by k_asm) (by k_mem) (by k_asm) (by k_asm) (strKind_is _ _ _ _) none (by rfl) ?_); (try dsimp only [Option.getD])))
  k_with "compareOp In str ref" => ((k_here; k_dflt (first
    | refine kda_in (knd := PySem.strKind _ _) (by k_asm) (by k_mem) (by k_asm) (by k_asm) (strKind_is _ _ _ _) true (by rfl) ?_
    | refine kda_in (knd := PySem.strKind _ _) (by k_asm) (by k_mem) (by k_asm) (by k_asm) (strKind_is _ _ _ _) false (by rfl) ?_)))
  k_with "compareOp NotIn str ref" => ((k_here; k_dflt (first
    | refine kdg_notin (knd := PySem.strKind _ _) (by k_asm) (by k_mem) (by k_asm) (by k_asm) (strKind_is _ _ _ _) true (by rfl) ?_
    | refine kdg_notin (knd := PySem.strKind _ _) (by k_asm) (by k_mem) (by k_asm) (by k_asm) (strKind_is _ _ _ _) false (by rfl) ?_); (try dsimp only [Bool.not_true, Bool.not_false])))
  k_with "subscriptTail" => ((k_here; (with_reducible show wpAny _ _ (subscriptTail _ _ (Value.ref _) (Value.str _ _)) _ _ _); k_dflt (first
    | refine kda_item (knd := PySem.strKind _ _) (by k_asm) (by k_mem) (by k_asm) (strKind_is _ _ _ _) (by rfl) ?_
    | refine kdt_tail (knd := PySem.strKind _ _) (by k_asm) (by k_mem) (by k_asm) ?_)))
  k_with "getItem ref str" => ((k_here; k_dflt (refine kdt_getItem (knd := PySem.strKind _ _) (by k_asm) (by k_mem) (by k_asm) (strKind_is _ _ _ _) (by rfl) ?_)))
  k_with "setItem ref str" => ((k_here; k_dflt (refine' kda_set (knd := PySem.strKind _ _) ?F ?N ?U ?d (strKind_is _ _ _ _) ?z ?_; (case F => k_asm); (case N => k_asm); (case U => k_updF); (case d => k_asm); (case z => rw [sizeLine_eq]; exact Nat.le_of_ble_eq_true (by with_unfolding_all rfl))); intro h' o' F' N' hd'; (try dsimp only at N')))
  k_with "call builtin:len" => ((k_here; (with_reducible show wpAny _ _ (call (Value.builtin "len") [Value.ref _]) _ _ _); k_dflt (refine' len_mem ?N ?b ?z ?_; (case N => k_asm); (case b => k_mem); (case z => omega))))
  k_with "eval ListComp" => ((k_here; k_dflt (refine LCg.ListComp_U (F₀ := by k_asm) (by with_unfolding_all rfl) (by decide) (by rfl) (by decide) (by rfl) ?_)))
  k_with "exec Assign cons ListComp" => ((k_here; k_dflt (refine LCg.Assign_ListComp_U (F₀ := by k_asm) (by rfl) (by with_unfolding_all rfl) (by with_unfolding_all rfl) (by decide) (by rfl) (by decide) (by rfl) (by rfl) (by rfl) ?_)))
  k_with "CompSrc" => ((k_here; (try k_fmods); k_dflt (refine LCg.CompSrc.range (by rfl) (by k_asm) (by k_asm) (by assumption) (by first | (with_reducible refine small_nat ?sm9; (case sm9 => first | exact lt_eq (by with_reducible assumption) (by with_reducible assumption) rfl | exact lt_lt (by with_reducible assumption) rfl | exact lt_el (by with_reducible assumption) (by with_reducible assumption) rfl | exact lt_le (by with_reducible assumption) rfl | omega)) | exact small_one (by kcf_bnd) (by kcf_bnd) (by kcf_bnd) (by kcf_bnd) | decide) (by first | exact rangeSize_nat _ _ | rfl) (by rw [PySem.sizeLine_eq]; first | exact sz_lt (by with_reducible assumption) rfl | exact sz_le (by with_reducible assumption) rfl | omega | (simp only [List.size_toArray]; omega)) ?_; intro g'; k_extra "my comp")))
  k_with "exec For Name" => ((k_here; (rename Fr _ _ _ _ => lF'); (with_unfolding_all refine' For_invVF lF' ?k1 ?k2 ?_; (case k1 => exact rfl); (case k2 => exact rfl); k_whole)))
  k_with "exec For Name Call cons nil" => ((k_here; (rename Fr _ _ _ _ => lF'); (with_unfolding_all refine' For_invVF lF' ?k1 ?k2 ?_; (case k1 => exact rfl); (case k2 => exact rfl); k_whole)))
  k_with "exec For Name Name cons nil" => ((k_here; (rename Fr _ _ _ _ => lF'); (with_unfolding_all refine' For_invVF lF' ?k1 ?k2 ?_; (case k1 => exact rfl); (case k2 => exact rfl); k_whole)))
  k_with "pyIter ref" => ((k_here; k_dflt k_extra "my loop"))
  k_with "LpPost" => ((dsimp only [LpPost]))
  k_with "call builtin:list.append" => ((k_here; k_dflt (refine' append_K ?k1 ?k2 ?k3 ?_ ?z; (case k1 => k_asm); (case k2 => k_asm); (case k3 => k_upd); (case z => rw [PySem.sizeLine_eq]; simp only [List.size_toArray, List.length_append, List.length_cons, List.length_nil]; first | exact sz_el (by with_reducible assumption) (by with_reducible assumption) rfl | exact sz_ll (by with_reducible assumption) (by with_reducible assumption) rfl | exact sz_lt (by with_reducible assumption) rfl | exact sz_le (by with_reducible assumption) rfl | exact sz_eq (by with_reducible assumption) (by with_reducible assumption) rfl | exact Nat.le_of_ble_eq_true rfl | omega); k_whole); intro h' F' N'; (try k_sweep)))
  k_with "call type:range" => (((rename Fr _ _ _ _ => F'); (rename News _ _ _ _ => N'); first
    | (with_unfolding_all refine range1_rows F' N' ?_; intro _ _ _ _ _ _ _ _ _)
    | (with_unfolding_all refine range2_rows F' N' ?_; intro _ _ _ _ _ _ _ _ _)))
  k_with "binaryOp Mult int int" => ((k_here; (with_reducible refine mul_int ?kmm (IntMulOk.of_left (intBits_le_64 ?kma ?kmb))); (case kma => omega); (case kmb => omega)))
  k_with "storeName" => ((k_extra "nums"))
  k_with "getItem ref str" => ((k_here; k_dflt (refine' kdt_getItem (knd := PySem.strKind _ _) ?N ?b ?d (strKind_is _ _ _ _) ?v ?_; (case N => k_asm); (case b => k_mem); (case d => k_asm); (case v => assumption))))
  k_with "compareOp NotEq ref ref" => ((k_here; k_dflt k_extra "ne"))
  k_with "subscriptTail" => ((k_here; (with_reducible show wpAny _ _ (subscriptTail _ _ (Value.ref _) (Value.int _ _)) _ _ _); k_dflt (refine' item_fr ?N ?b ?D ?sa ?h0 ?hk ?hb ?_; (case N => k_asm); (case b => k_mem); (case D => assumption); (case sa => (intro p hp; k_mem)); (case h0 => omega); (case hk => first | (rw [rowQ_len]; omega) | (rw [PR_len, rowQ_len, rowQ_len]; omega) | omega); (case hb => omega)); intro aF' tF1' tF2' cF' mF'))
  k_with "subscriptTail Name BinOp ref int" => ((k_here; (with_reducible show wpAny _ _ (subscriptTail _ _ (Value.ref _) (Value.int _ _)) _ _ _); k_dflt (refine' item_fr ?N ?b ?D ?sa ?h0 ?hk ?hb ?_; (case N => k_asm); (case b => k_mem); (case D => assumption); (case sa => (intro p hp; k_mem)); (case h0 => omega); (case hk => first | (rw [rowQ_len]; omega) | (rw [PR_len, rowQ_len, rowQ_len]; omega) | omega); (case hb => omega)); intro aF' tF1' tF2' cF' mF'))
  k_with "subscriptTail Name Name ref int" => ((k_here; (with_reducible show wpAny _ _ (subscriptTail _ _ (Value.ref _) (Value.int _ _)) _ _ _); k_dflt (refine' item_fr ?N ?b ?D ?sa ?h0 ?hk ?hb ?_; (case N => k_asm); (case b => k_mem); (case D => assumption); (case sa => (intro p hp; k_mem)); (case h0 => omega); (case hk => first | (rw [rowQ_len]; omega) | (rw [PR_len, rowQ_len, rowQ_len]; omega) | omega); (case hb => omega)); intro aF' tF1' tF2' cF' mF'))
  k_with "subscriptTail Attribute" => ((k_here; (with_reducible show wpAny _ _ (subscriptTail _ _ (Value.ref _) (Value.int _ _)) _ _ _); k_dflt (refine kba_turn (value' := PySem.Expr.Name (PySem.Str.ofString "_") ⟨0, 0, 0, 0⟩) (fun _ => rfl) ?_; refine' item_fr ?N ?b ?D ?sa ?h0 ?hk ?hb ?_; (case N => k_asm); (case b => k_mem); (case D => assumption); (case sa => (intro p hp; k_mem)); (case h0 => omega); (case hk => first | (rw [rowQ_len]; omega) | (rw [PR_len, rowQ_len, rowQ_len]; omega) | omega); (case hb => omega)); intro aF' tF1' tF2' cF' mF'))
  k_with "my led" => (first | with_reducible exact led_nil | (refine' led_app ?hh9; (case hh9 => walk_at "my led")) | (refine' led_cons ?hh9; (case hh9 => walk_at "my led")))
  k_with "my hasc" => (first | with_reducible exact HasC.base | ((with_reducible refine HasC.app ?_); walk_at "my hasc") | ((with_reducible refine HasC.cons ?_); walk_at "my hasc"))
  k_with "my off" => (first | with_reducible exact Off7.nil | with_reducible assumption | (refine Off7.of (by with_reducible assumption) ?_; walk_at "my hasc") | ((with_reducible refine Off7.app ?ho9 ?ht9); (case ho9 => walk_at "my off"); (case ht9 => walk_at "my off")) | ((with_reducible refine Off7.blk ?ho9 ?ht9); (case ho9 => walk_at "my off"); (case ht9 => walk_at "my off")) | ((with_reducible refine Off7.lt ?ho9 ?ht9); (case ho9 => with_reducible assumption); (case ht9 => walk_at "my off")) | ((with_reducible refine Off7.each ?ha9 ?hb9 ?hc9 ?hd9 ?he9 ?hf9 ?hg9 ?ht9); (case ha9 => with_reducible assumption); (case hb9 => with_reducible assumption); (case hc9 => with_reducible assumption); (case hd9 => with_reducible assumption); (case he9 => with_reducible assumption); (case hf9 => with_reducible assumption); (case hg9 => with_reducible assumption); (case ht9 => walk_at "my off")) | ((with_reducible refine Off7.one ?ho9 ?ht9); (case ho9 => (refine Off7.of (by with_reducible assumption) ?_; walk_at "my hasc")); (case ht9 => walk_at "my off")))
  k_with "CompSrc" => ((k_here; k_dflt (refine LCg.CompSrc.range (by rfl) (by k_asm) (by k_asm) (by assumption) (by k_extra "cs small") (by k_extra "cs size") (by rw [PySem.sizeLine_eq]; first | exact sz_el (by with_reducible assumption) (by with_reducible assumption) rfl | exact sz_ll (by with_reducible assumption) (by with_reducible assumption) rfl | exact sz_lt (by with_reducible assumption) rfl | exact sz_le (by with_reducible assumption) rfl | exact sz_eq (by with_reducible assumption) (by with_reducible assumption) rfl | exact Nat.le_of_ble_eq_true rfl | omega) ?_; intro g'; k_extra "my comp")))
  k_with "call ref" => (k_here; (with_reducible show wpAny _ _ (call (Value.ref 568) _) _ _ _); k_dflt (refine' use_int ?kP ?k1 ?k2 ?k3 ?k4 ?k5 ?kK (cell_tell _ _ _ _ _ _ _ _ ?hi ?hl _ _ ?h0) ?kd ?ku ?_; (case k1 => k_asm); (case k2 => k_asm); (case k3 => k_asm); (case k4 => k_asm); (case k5 => k_asm); (case kK => first | exact rfl | assumption); (case kP => assumption); (case hi => assumption); (case hl => first | assumption | omega); (case h0 => omega); (case kd => ktr_room); (case ku => first | exact hU 2 rfl | ktr_units); intro t' h' tk' F' N'); (try simp only [List.cons_append, List.nil_append] at N'); (try dsimp only); (try k_fold))
  k_with "call ref" => (k_here; (with_reducible show wpAny _ _ (call (Value.ref 580) _) _ _ _); k_dflt (refine' use_list ?kP ?k1 ?k2 ?k3 ?k4 ?k5 ?kK (rowT _ _ _ _ _ _ _ _ ?hi ?hl _ _ ?h0 ?hf _ _ ?hn) ?kd ?ku ?_; (case k1 => k_asm); (case k2 => k_asm); (case k3 => k_asm); (case k4 => k_asm); (case k5 => k_asm); (case kK => first | exact rfl | assumption); (case kP => assumption); (case hi => assumption); (case hl => first | assumption | omega); (case h0 => omega); (case hf => omega); (case hn => first | exact lt_eq (by with_reducible assumption) (by with_reducible assumption) rfl | exact lt_lt (by with_reducible assumption) rfl | exact lt_el (by with_reducible assumption) (by with_reducible assumption) rfl | exact lt_le (by with_reducible assumption) rfl | omega); (case kd => ktr_room); (case ku => first | exact hU 4 rfl | ktr_units); intro D' vs' c' tl' h' tk' F' N' y' hd' hln'); (rw [List.length_map, rowQ_len] at hln'); (try simp only [List.cons_append, List.nil_append] at N'); (try dsimp only); (try k_fold))
  k_with "call ref" => (k_here; (with_reducible show wpAny _ _ (call (Value.ref 585) _) _ _ _); k_dflt (refine' use_vecB ?kP ?k1 ?k2 ?k3 ?k4 ?k5 ?kK (vecB_tell _ _ _ _ _ _ _ _ _ ?hm ?hl) ?kd ?ku ?_; (case k1 => k_asm); (case k2 => k_asm); (case k3 => k_asm); (case k4 => k_asm); (case k5 => k_asm); (case kK => first | exact rfl | assumption); (case kP => exact True.intro); (case hm => k_mem); (case hl => omega); (case kd => ktr_room); (case ku => first | exact hU 4 rfl | ktr_units); intro x' D' c' at' nm' tl' h' tk' F' N' y' ok' v' m' n'); (try simp only [List.cons_append, List.nil_append] at N'); (try dsimp only); (try k_fold))
  k_with "call ref" => (k_here; (with_reducible show wpAny _ _ (call (Value.ref 585) _) _ _ _); k_dflt (refine' use_vec ?kP ?k1 ?k2 ?k3 ?k4 ?k5 ?kK (vec0_tell _ _ _ _ _ _ _ _ ?hm ?hl) ?kd ?ku ?_; (case k1 => k_asm); (case k2 => k_asm); (case k3 => k_asm); (case k4 => k_asm); (case k5 => k_asm); (case kK => first | exact rfl | assumption); (case kP => exact True.intro); (case hm => k_mem); (case hl => omega); (case kd => ktr_room); (case ku => first | exact hU 4 rfl | ktr_units); intro x' D' c' at' tl' h' tk' F' N' y' v' m' n'); (try simp only [List.cons_append, List.nil_append] at N'); (try dsimp only); (try k_fold))
  k_with "getAttr ref" => (k_here; (with_reducible show wpAny _ _ (getAttr (Value.ref _) (Str.ofString "kind") _) _ _ _); k_dflt (refine' get_kind ?g1 ?g2 ?g3 ?g4 ?g5 ?_; (case g1 => with_reducible assumption); (case g5 => k_asm); (case g2 => (intro p hp; k_mem)); (case g3 => k_asm); (case g4 => k_asm)); intro tg')
  k_with "getAttr ref" => (k_here; (with_reducible show wpAny _ _ (getAttr (Value.ref _) (Str.ofString "attrs") _) _ _ _); k_dflt (refine' get_attrs ?g1 ?g2 ?g3 ?g4 ?g5 ?g6 ?_; (case g1 => with_reducible assumption); (case g5 => k_asm); (case g2 => (intro p hp; k_mem)); (case g3 => k_asm); (case g4 => k_asm); (case g6 => k_handed)))
  k_with "getAttr ref" => (k_here; (with_reducible show wpAny _ _ (getAttr (Value.ref _) (Str.ofString "items") _) _ _ _); k_dflt (refine' get_items ?g1 ?g2 ?g3 ?g4 ?g5 ?_; (case g1 => with_reducible assumption); (case g5 => k_asm); (case g2 => (intro p hp; k_mem)); (case g3 => k_asm); (case g4 => k_asm)))
  k_with "execs cons Assign cons" => ((k_here; (with_reducible show wpAny _ _ (execs (Stmt.Assign [Expr.Name (Str.ofString "found") _] _ _ :: _) _) _ _ _); (refine Stop.mk ?_)))
  k_with "nums" => first | rw [hnl] | rw [hnw]
  k_steps
  rename Fr _ _ _ _ => lF'
  rename News _ _ _ _ => lN'
  unfold Stop
  (refine' next _ _ _ ?led77 _ _ _ _ _ _ _ _ _ _ _ _ _ _ _ _ _ _ _ _ _ _ _ (mmL_fr lF' ?e77 ?e78) (news_led lN' ?n77) ?o77 ?c1 ?c2 ?c3 ?c4 ?v1 ?m1 ?n1 ?dd1 ?ok1 ?v2 ?m2 ?n2 ?dd2 ?vO ?mO ?nO ?ddO ?okO)
  case e77 => rfl
  case e78 => rfl
  case n77 => walk_at "my led"
  case o77 => walk_at "my off"
  case c1 => assumption
  case c2 => assumption
  case c3 => assumption
  case c4 => assumption
  case v1 => exact VecAt.mono (by with_reducible assumption) (by intro p hp; k_mem)
  case m1 => k_mem
  case n1 => exact NamesAt.mono (by with_reducible assumption) (by intro p hp; k_mem)
  case dd1 => (refine' DatAll.mono ?s9 ?a9; (case a9 => with_reducible assumption); (case s9 => (intro p hp; k_mem)))
  case v2 => exact VecAt.mono (by with_reducible assumption) (by intro p hp; k_mem)
  case m2 => k_mem
  case n2 => exact NamesAt.mono (by with_reducible assumption) (by intro p hp; k_mem)
  case dd2 => (refine' DatAll.mono ?s9 ?a9; (case a9 => with_reducible assumption); (case s9 => (intro p hp; k_mem)))
  case vO => exact VecAt.mono (by with_reducible assumption) (by intro p hp; k_mem)
  case mO => k_mem
  case nO => exact NamesAt.mono (by with_reducible assumption) (by intro p hp; k_mem)
  case ddO => (refine' DatAll.mono ?s9 ?a9; (case a9 => with_reducible assumption); (case s9 => (intro p hp; k_mem)))
  case ok1 => with_reducible assumption
  case okO => with_reducible assumption
end
section
open PySem.Calls
set_option maxHeartbeats 1500000 in
theorem law_k2 {w : World} {mean : ExcName → Option Value} {mg mb : Str → Option Value} {l : Addr} {vs : List Value} {ns : List Int} (hi : IntsAre vs ns) (hl : ns.length < 64) {dp un : Nat} {gd : Option (List Code)} {outer : List Env} {base h₀ : Heap} {L : Addr} {s : Shared} {Q : Flow → Shared → Prop} {m u : Str → Option Value} {nl nw : Nat} {fa : Addr} {cd : Value}{led : Led} {x1 x2 xO : Addr} {vs1 vs2 vsO : List Value} {nm1 nmO : Option (List Dat)} {t1 t2 : Tok}{D1 D2 DO : Addr} {k1 k2 kO : Nat} {at1 at2 atO : Value}
    (PB : base.IsList l vs.toArray) (B : Below (lawA₁ dp un gd outer) base outer h₀) (X : (fr.heap_1 w.params).In h₀) (T : LTop mean mg mb h₀) (hdp : dp + 20 < recursionLimit) (hun : un + 20 * 20 + 100 < cLine)
    (F : Fr h₀ L s.heap (mmL l xO u)) {o1 o2 o3 o4 o5 o6 o7 : Obj} {c5 c6 c7 : Option Value} (d1 : CellIs o1 (some (.int nl t1))) (d2 : CellIs o2 (some (.int nw t2))) (d3 : CellIs o3 (some (.ref x1))) (d4 : CellIs o4 (some (.ref x2))) (d5 : CellIs o5 c5) (d6 : CellIs o6 c6) (d7 : CellIs o7 c7) (N : News h₀ L s.heap (led ++ cells7 L o1 o2 o3 o4 o5 o6 o7)) (off : Off7 L led)
    (v1 : VecAt w led x1 (Str.ofString "double") D1 at1) (m1 : (D1, listOf vs1.toArray k1) ∈ led) (n1 : NamesAt w led at1 nm1) (dd1 : DatAll led vs1 ((rowQ ns 3 nl).map frD)) (ok1 : NmOk nm1) (v2 : VecAt w led x2 (Str.ofString "double") D2 at2) (m2 : (D2, listOf vs2.toArray k2) ∈ led) (n2 : NamesAt w led at2 none) (dd2 : DatAll led vs2 ((rowQ ns 7 nl).map frD)) (vO : VecAt w led xO (Str.ofString "double") DO atO) (mO : (DO, listOf vsO.toArray kO) ∈ led) (nO : NamesAt w led atO nmO) (ddO : DatAll led vsO ((rowQ ns 11 nw).map frD)) (okO : NmOk nmO)
    (hnl : 1 + (cellV ns 0).fmod 4 = (nl : Int)) (hnl1 : 1 ≤ nl) (hnl2 : nl ≤ 4) (hnw : 1 + (cellV ns 1).fmod 4 = (nw : Int)) (hnw1 : 1 ≤ nw) (hnw2 : nw ≤ 4)
    (next : ∀ (u : Str → Option Value) (h' : Heap) (tk' : Nat) (led' : Led) (xF DF : Addr) (kF : Nat) (atF : Value) (vsF : List Value) (o5 : Obj), Fr h₀ L h' (mmL l xO u) → News h₀ L h' (led' ++ cells7 L o1 o2 o3 o4 o5 o6 o7) → Off7 L led' → CellIs o5 (some (.ref xF)) → (∀ p ∈ led, p ∈ led') →
      VecAt w led' xF (Str.ofString "double") DF atF → (DF, listOf vsF.toArray kF) ∈ led' → DatAll led' vsF ((PR (rowQ ns 3 nl) (rowQ ns 11 nw)).map frD) → wpAny (model LP w) (lawA fa cd dp un gd outer L) (execs (lawBody.drop 10) (lawE fa cd L)) Q (fun _ _ => False) { s with heap := h', toks := tk' }) :
    wpAny (model LP w) (lawA fa cd dp un gd outer L) (execs (lawBody.drop 6) (lawE fa cd L)) Q (fun _ _ => False) s := by
  have hU : ∀ j, Nat.ble (1 + j) 20 = true → un + 3 + 20 * j + 100 < cLine := fun j e => unF (n := 20) hun e
  have hV : un + 3 + 64 < cLine := unV hun
  have hln1 := dd1.length
  simp only [List.length_map, rowQ_len] at hln1
  have hln2 := dd2.length
  simp only [List.length_map, rowQ_len] at hln2
  have hlnO := ddO.length
  simp only [List.length_map, rowQ_len] at hlnO
  have hlw : nl * nw ≤ 16 := Nat.mul_le_mul hnl2 hnw2
  have hwl : nw * nl ≤ 16 := Nat.mul_le_mul hnw2 hnl2
  unfold cells7 at N
  unfold lawA lawE
  conv => arg 3; arg 1; whnf
  conv in lawScope => whnf
  dsimp only
  try k_fold
  k_with_none
  k_with "FinE" => (((unfold LCg.FinE); intro D' h' tk' F' N' o1'; (try simp only [off1_app, LCg.Off1, and_true, and_assoc] at o1'); (repeat (have hOf9 := And.left o1'; replace o1' := And.right o1')); (try simp only [List.nil_append, List.cons_append] at N'); (try dsimp only)))
  k_with "FinA" => (((unfold LCg.FinA); intro D' h' tk' F' N' o1'; (try simp only [off1_app, LCg.Off1, and_true, and_assoc] at o1'); (repeat (have hOf9 := And.left o1'; replace o1' := And.right o1')); (try simp only [List.nil_append, List.cons_append] at N'); (try dsimp only)))
  k_with "call type:list" => ((k_here; (with_reducible show wpAny _ _ (call (Value.type _) [Value.ref _]) _ _ _); k_dflt (refine' list_copyK ?F ?N (News.isList ?N2 ?b) ?_ ?z; (case F => k_asm); (case N => k_asm); (case N2 => k_asm); (case b => k_mem); (case z => rw [PySem.sizeLine_eq]; simp only [List.size_toArray, List.length_cons, List.length_nil]; first | exact sz_el (by with_reducible assumption) (by with_reducible assumption) rfl | exact sz_ll (by with_reducible assumption) (by with_reducible assumption) rfl | exact sz_lt (by with_reducible assumption) rfl | exact sz_le (by with_reducible assumption) rfl | exact sz_eq (by with_reducible assumption) (by with_reducible assumption) rfl | exact Nat.le_of_ble_eq_true rfl | omega)); intro D' c' h' F' N' l1; (try k_lt l1); (try k_sweep)))
  k_with "call builtin:isinstance" => ((k_here; k_dflt (refine' isi_call ?k1 ?k2 ?k3 ?k4 ?_; (case k1 => k_in); (case k2 => (intro M; exact InstAt.type (by k_inst))); (case k3 => k_is); (case k4 => intro e; cases e); k_whole)))
  k_with "getMethod ref" => ((k_here; (with_reducible show wpAny _ _ (getMethod (Value.ref _) (Str.ofString "get") _) _ _ _); k_dflt (refine kdg_method (knd := PySem.strKind _ _) (by k_asm) (by k_mem) (by k_asm) ?_)))
  k_with "call builtin:dict.get" => ((k_here; k_dflt (first
    | refine kdg_get1 (knd := PySem.strKind _ _) (by k_asm) (by k_mem) (by k_asm) (by k_asm) (strKind_is _ _ _ _) (some _) (by rfl) ?_
    | refine kdg_get1 (knd := PySem.strKind _ _) (by k_asm) (by k_mem) (by k_asm) (by k_asm) (strKind_is _ _ _ _) none (by rfl) ?_); (try dsimp only [Option.getD])))
  k_with "compareOp In str ref" => ((k_here; k_dflt (first
    | refine kda_in (knd := PySem.strKind _ _) (by k_asm) (by k_mem) (by k_asm) (by k_asm) (strKind_is _ _ _ _) true (by rfl) ?_
    | refine kda_in (knd := PySem.strKind _ _) (by k_asm) (by k_mem) (by k_asm) (by k_asm) (strKind_is _ _ _ _) false (by rfl) ?_)))
  k_with "compareOp NotIn str ref" => ((k_here; k_dflt (first
    | refine kdg_notin (knd := PySem.strKind _ _) (by k_asm) (by k_mem) (by k_asm) (by k_asm) (strKind_is _ _ _ _) true (by rfl) ?_
    | refine kdg_notin (knd := PySem.strKind _ _) (by k_asm) (by k_mem) (by k_asm) (by k_asm) (strKind_is _ _ _ _) false (by rfl) ?_); (try dsimp only [Bool.not_true, Bool.not_false])))
  k_with "subscriptTail" => ((k_here; (with_reducible show wpAny _ _ (subscriptTail _ _ (Value.ref _) (Value.str _ _)) _ _ _); k_dflt (first
    | refine kda_item (knd := PySem.strKind _ _) (by k_asm) (by k_mem) (by k_asm) (strKind_is _ _ _ _) (by rfl) ?_
    | refine kdt_tail (knd := PySem.strKind _ _) (by k_asm) (by k_mem) (by k_asm) ?_)))
  k_with "getItem ref str" => ((k_here; k_dflt (refine kdt_getItem (knd := PySem.strKind _ _) (by k_asm) (by k_mem) (by k_asm) (strKind_is _ _ _ _) (by rfl) ?_)))
  k_with "setItem ref str" => ((k_here; k_dflt (refine' kda_set (knd := PySem.strKind _ _) ?F ?N ?U ?d (strKind_is _ _ _ _) ?z ?_; (case F => k_asm); (case N => k_asm); (case U => k_updF); (case d => k_asm); (case z => rw [sizeLine_eq]; exact Nat.le_of_ble_eq_true (by with_unfolding_all rfl))); intro h' o' F' N' hd'; (try dsimp only at N')))
  k_with "call builtin:len" => ((k_here; (with_reducible show wpAny _ _ (call (Value.builtin "len") [Value.ref _]) _ _ _); k_dflt (refine' len_mem ?N ?b ?z ?_; (case N => k_asm); (case b => k_mem); (case z => omega))))
  k_with "eval ListComp" => ((k_here; k_dflt (refine LCg.ListComp_U (F₀ := by k_asm) (by with_unfolding_all rfl) (by decide) (by rfl) (by decide) (by rfl) ?_)))
  k_with "exec Assign cons ListComp" => ((k_here; k_dflt (refine LCg.Assign_ListComp_U (F₀ := by k_asm) (by rfl) (by with_unfolding_all rfl) (by with_unfolding_all rfl) (by decide) (by rfl) (by decide) (by rfl) (by rfl) (by rfl) ?_)))
  k_with "CompSrc" => ((k_here; (try k_fmods); k_dflt (refine LCg.CompSrc.range (by rfl) (by k_asm) (by k_asm) (by assumption) (by first | (with_reducible refine small_nat ?sm9; (case sm9 => first | exact lt_eq (by with_reducible assumption) (by with_reducible assumption) rfl | exact lt_lt (by with_reducible assumption) rfl | exact lt_el (by with_reducible assumption) (by with_reducible assumption) rfl | exact lt_le (by with_reducible assumption) rfl | omega)) | exact small_one (by kcf_bnd) (by kcf_bnd) (by kcf_bnd) (by kcf_bnd) | decide) (by first | exact rangeSize_nat _ _ | rfl) (by rw [PySem.sizeLine_eq]; first | exact sz_lt (by with_reducible assumption) rfl | exact sz_le (by with_reducible assumption) rfl | omega | (simp only [List.size_toArray]; omega)) ?_; intro g'; k_extra "my comp")))
  k_with "exec For Name" => ((k_here; (rename Fr _ _ _ _ => lF'); (with_unfolding_all refine' For_invVF lF' ?k1 ?k2 ?_; (case k1 => exact rfl); (case k2 => exact rfl); k_whole)))
  k_with "exec For Name Call cons nil" => ((k_here; (rename Fr _ _ _ _ => lF'); (with_unfolding_all refine' For_invVF lF' ?k1 ?k2 ?_; (case k1 => exact rfl); (case k2 => exact rfl); k_whole)))
  k_with "exec For Name Name cons nil" => ((k_here; (rename Fr _ _ _ _ => lF'); (with_unfolding_all refine' For_invVF lF' ?k1 ?k2 ?_; (case k1 => exact rfl); (case k2 => exact rfl); k_whole)))
  k_with "pyIter ref" => ((k_here; k_dflt k_extra "my loop"))
  k_with "LpPost" => ((dsimp only [LpPost]))
  k_with "call builtin:list.append" => ((k_here; k_dflt (refine' append_K ?k1 ?k2 ?k3 ?_ ?z; (case k1 => k_asm); (case k2 => k_asm); (case k3 => k_upd); (case z => rw [PySem.sizeLine_eq]; simp only [List.size_toArray, List.length_append, List.length_cons, List.length_nil]; first | exact sz_el (by with_reducible assumption) (by with_reducible assumption) rfl | exact sz_ll (by with_reducible assumption) (by with_reducible assumption) rfl | exact sz_lt (by with_reducible assumption) rfl | exact sz_le (by with_reducible assumption) rfl | exact sz_eq (by with_reducible assumption) (by with_reducible assumption) rfl | exact Nat.le_of_ble_eq_true rfl | omega); k_whole); intro h' F' N'; (try k_sweep)))
  k_with "call type:range" => (((rename Fr _ _ _ _ => F'); (rename News _ _ _ _ => N'); first
    | (with_unfolding_all refine range1_rows F' N' ?_; intro _ _ _ _ _ _ _ _ _)
    | (with_unfolding_all refine range2_rows F' N' ?_; intro _ _ _ _ _ _ _ _ _)))
  k_with "binaryOp Mult int int" => ((k_here; (with_reducible refine mul_int ?kmm (IntMulOk.of_left (intBits_le_64 ?kma ?kmb))); (case kma => omega); (case kmb => omega)))
  k_with "storeName" => ((k_extra "nums"))
  k_with "getItem ref str" => ((k_here; k_dflt (refine' kdt_getItem (knd := PySem.strKind _ _) ?N ?b ?d (strKind_is _ _ _ _) ?v ?_; (case N => k_asm); (case b => k_mem); (case d => k_asm); (case v => assumption))))
  k_with "compareOp NotEq ref ref" => ((k_here; k_dflt k_extra "ne"))
  k_with "subscriptTail" => ((k_here; (with_reducible show wpAny _ _ (subscriptTail _ _ (Value.ref _) (Value.int _ _)) _ _ _); k_dflt (refine' item_fr ?N ?b ?D ?sa ?h0 ?hk ?hb ?_; (case N => k_asm); (case b => k_mem); (case D => assumption); (case sa => (intro p hp; k_mem)); (case h0 => omega); (case hk => first | (rw [rowQ_len]; omega) | (rw [PR_len, rowQ_len, rowQ_len]; omega) | omega); (case hb => omega)); intro aF' tF1' tF2' cF' mF'))
  k_with "subscriptTail Name BinOp ref int" => ((k_here; (with_reducible show wpAny _ _ (subscriptTail _ _ (Value.ref _) (Value.int _ _)) _ _ _); k_dflt (refine' item_fr ?N ?b ?D ?sa ?h0 ?hk ?hb ?_; (case N => k_asm); (case b => k_mem); (case D => assumption); (case sa => (intro p hp; k_mem)); (case h0 => omega); (case hk => first | (rw [rowQ_len]; omega) | (rw [PR_len, rowQ_len, rowQ_len]; omega) | omega); (case hb => omega)); intro aF' tF1' tF2' cF' mF'))
  k_with "subscriptTail Name Name ref int" => ((k_here; (with_reducible show wpAny _ _ (subscriptTail _ _ (Value.ref _) (Value.int _ _)) _ _ _); k_dflt (refine' item_fr ?N ?b ?D ?sa ?h0 ?hk ?hb ?_; (case N => k_asm); (case b => k_mem); (case D => assumption); (case sa => (intro p hp; k_mem)); (case h0 => omega); (case hk => first | (rw [rowQ_len]; omega) | (rw [PR_len, rowQ_len, rowQ_len]; omega) | omega); (case hb => omega)); intro aF' tF1' tF2' cF' mF'))
  k_with "subscriptTail Attribute" => ((k_here; (with_reducible show wpAny _ _ (subscriptTail _ _ (Value.ref _) (Value.int _ _)) _ _ _); k_dflt (refine kba_turn (value' := PySem.Expr.Name (PySem.Str.ofString "_") ⟨0, 0, 0, 0⟩) (fun _ => rfl) ?_; refine' item_fr ?N ?b ?D ?sa ?h0 ?hk ?hb ?_; (case N => k_asm); (case b => k_mem); (case D => assumption); (case sa => (intro p hp; k_mem)); (case h0 => omega); (case hk => first | (rw [rowQ_len]; omega) | (rw [PR_len, rowQ_len, rowQ_len]; omega) | omega); (case hb => omega)); intro aF' tF1' tF2' cF' mF'))
  k_with "my led" => (first | with_reducible exact led_nil | (refine' led_app ?hh9; (case hh9 => walk_at "my led")) | (refine' led_cons ?hh9; (case hh9 => walk_at "my led")))
  k_with "my hasc" => (first | with_reducible exact HasC.base | ((with_reducible refine HasC.app ?_); walk_at "my hasc") | ((with_reducible refine HasC.cons ?_); walk_at "my hasc"))
  k_with "my off" => (first | with_reducible exact Off7.nil | with_reducible assumption | (refine Off7.of (by with_reducible assumption) ?_; walk_at "my hasc") | ((with_reducible refine Off7.app ?ho9 ?ht9); (case ho9 => walk_at "my off"); (case ht9 => walk_at "my off")) | ((with_reducible refine Off7.blk ?ho9 ?ht9); (case ho9 => walk_at "my off"); (case ht9 => walk_at "my off")) | ((with_reducible refine Off7.lt ?ho9 ?ht9); (case ho9 => with_reducible assumption); (case ht9 => walk_at "my off")) | ((with_reducible refine Off7.each ?ha9 ?hb9 ?hc9 ?hd9 ?he9 ?hf9 ?hg9 ?ht9); (case ha9 => with_reducible assumption); (case hb9 => with_reducible assumption); (case hc9 => with_reducible assumption); (case hd9 => with_reducible assumption); (case he9 => with_reducible assumption); (case hf9 => with_reducible assumption); (case hg9 => with_reducible assumption); (case ht9 => walk_at "my off")) | ((with_reducible refine Off7.one ?ho9 ?ht9); (case ho9 => (refine Off7.of (by with_reducible assumption) ?_; walk_at "my hasc")); (case ht9 => walk_at "my off")))
  k_with "CompSrc" => ((k_here; k_dflt (refine LCg.CompSrc.range (by rfl) (by k_asm) (by k_asm) (by assumption) (by k_extra "cs small") (by k_extra "cs size") (by rw [PySem.sizeLine_eq]; first | exact sz_el (by with_reducible assumption) (by with_reducible assumption) rfl | exact sz_ll (by with_reducible assumption) (by with_reducible assumption) rfl | exact sz_lt (by with_reducible assumption) rfl | exact sz_le (by with_reducible assumption) rfl | exact sz_eq (by with_reducible assumption) (by with_reducible assumption) rfl | exact Nat.le_of_ble_eq_true rfl | omega) ?_; intro g'; k_extra "my comp")))
  k_with "call ref" => (k_here; (with_reducible show wpAny _ _ (call (Value.ref 556) _) _ _ _); k_dflt (refine' use_outer ?kP ?k1 ?k2 ?k3 ?k4 ?k5 ?kK (outer_tell _ _ _ _ _ _ _ _ _ _ _ ?hu ?hD ?hn _ _ ?hsu ?hau ?hSu ?hlu ?hnl _ _ _ _ _ _ ?hu2 ?hD2 ?hn2 _ _ ?hsu2 ?hau2 ?hSu2 ?hlu2 ?hnl2) ?kd ?ku ?_; (case k1 => k_asm); (case k2 => k_asm); (case k3 => k_asm); (case k4 => k_asm); (case k5 => k_asm); (case kK => first | exact rfl | assumption); (case kP => exact True.intro); (case hu => exact VecAt.mono (by with_reducible assumption) (by intro p hp; k_mem)); (case hD => k_mem); (case hn => exact NamesAt.mono (by with_reducible assumption) (by intro p hp; k_mem)); (case hau => assumption); (case hsu => (intro p hp; k_mem)); (case hSu => first | exact rowQ_sm | exact sumQ_sm rowQ_len rowQ_len rowQ_sm0 rowQ_sm0 | assumption); (case hlu => first | exact lt_eq (by with_reducible assumption) (by with_reducible assumption) rfl | exact lt_lt (by with_reducible assumption) rfl | exact lt_el (by with_reducible assumption) (by with_reducible assumption) rfl | exact lt_le (by with_reducible assumption) rfl | omega); (case hnl => first | exact NmOk.len (by with_reducible assumption) | exact NmOk.len nmOk_none); (case hu2 => exact VecAt.mono (by with_reducible assumption) (by intro p hp; k_mem)); (case hD2 => k_mem); (case hn2 => exact NamesAt.mono (by with_reducible assumption) (by intro p hp; k_mem)); (case hau2 => assumption); (case hsu2 => (intro p hp; k_mem)); (case hSu2 => first | exact rowQ_sm | exact sumQ_sm rowQ_len rowQ_len rowQ_sm0 rowQ_sm0 | assumption); (case hlu2 => first | exact lt_eq (by with_reducible assumption) (by with_reducible assumption) rfl | exact lt_lt (by with_reducible assumption) rfl | exact lt_el (by with_reducible assumption) (by with_reducible assumption) rfl | exact lt_le (by with_reducible assumption) rfl | omega); (case hnl2 => first | exact NmOk.len (by with_reducible assumption) | exact NmOk.len nmOk_none); (case kd => ktr_room); (case ku => first | exact hU 14 rfl | ktr_units); intro xo' Do' co' ado' vso' nmo' tl' h' tk' F' N' y' v' hmo' hdo' hlo' hMo' hNo'); (simp only [List.length_map, PR_len, rowQ_len, sumQ_len] at hlo'); (k_extra "dims"); (try simp only [List.cons_append, List.nil_append] at N'); (try dsimp only); (try k_fold))
  k_with "dims" => ((rename MatA _ _ _ _ _ _ => hM9); (obtain ⟨oA', prs', xd', Dd', td1', td2', cd', hA1', hA2', hA3', hA4', hA5'⟩ := MatA.dim hM9))
  k_with "call ref" => (k_here; (with_reducible show wpAny _ _ (call (Value.ref 592) _) _ _ _); k_dflt (refine' use_tup ?kP ?k1 ?k2 ?k3 ?k4 ?k5 ?kK (times_tell _ _ _ _ _ _ _ _ _ _ ?hm ?hq _ _ _ _ _ ?hm2 ?hp) ?kd ?ku ?_; (case k1 => k_asm); (case k2 => k_asm); (case k3 => k_asm); (case k4 => k_asm); (case k5 => k_asm); (case kK => first | exact rfl | assumption); (case kP => exact True.intro); (case hm => k_mem); (case hq => k_extra "sm"); (case hm2 => k_mem); (case hp => k_extra "sm"); (case kd => ktr_room); (case ku => first | exact hU 6 rfl | ktr_units); intro D' u1' u2' c' h' tk' F' N' y'); (try simp only [List.cons_append, List.nil_append] at N'); (try dsimp only); (try k_fold))
  k_with "call ref" => (k_here; (with_reducible show wpAny _ _ (call (Value.ref 611) _) _ _ _); k_dflt (refine' use_head ?kP ?k1 ?k2 ?k3 ?k4 ?k5 ?kK (heads_tell _ _ _ _ _ _ _ _ _ ?hv ?hn) ?kd ?ku ?_; (case k1 => k_asm); (case k2 => k_asm); (case k3 => k_asm); (case k4 => k_asm); (case k5 => k_asm); (case kK => first | exact rfl | assumption); (case kP => exact True.intro); (case hv => exact VecAt.mono (by with_reducible assumption) (by intro p hp; k_mem)); (case hn => exact NamesAt.mono (by with_reducible assumption) (by intro p hp; k_mem)); (case kd => ktr_room); (case ku => first | exact hU 3 rfl | ktr_units); intro r' h' tk' F' N' dH'); (try simp only [List.cons_append, List.nil_append] at N'); (try dsimp only); (try k_fold))
  k_with "call ref" => (k_here; (with_reducible show wpAny _ _ (call (Value.ref 604) _) _ _ _); k_dflt (refine' use_axes ?kP ?k1 ?k2 ?k3 ?k4 ?k5 ?kK (axes_tell _ _ _ _ _ _ _ _ _ _ _ _ _ ?hv ?hM ?hR) ?kd ?ku ?_; (case k1 => k_asm); (case k2 => k_asm); (case k3 => k_asm); (case k4 => k_asm); (case k5 => k_asm); (case kK => first | exact rfl | assumption); (case kP => exact True.intro); (case hv => exact VecAt.mono (by with_reducible assumption) (by intro p hp; k_mem)); (case hM => exact MatA.mono (by with_reducible assumption) (by intro p hp; k_mem)); (case hR => with_reducible assumption); (case kd => ktr_room); (case ku => first | exact hU 4 rfl | ktr_units); intro DX' cX' vsX' tl' h' tk' F' N' y' mX' dX'); (try simp only [List.cons_append, List.nil_append] at N'); (try dsimp only); (try k_fold))
  k_with "getAttr ref" => (k_here; (with_reducible show wpAny _ _ (getAttr (Value.ref _) (Str.ofString "kind") _) _ _ _); k_dflt (refine' get_kind ?g1 ?g2 ?g3 ?g4 ?g5 ?_; (case g1 => with_reducible assumption); (case g5 => k_asm); (case g2 => (intro p hp; k_mem)); (case g3 => k_asm); (case g4 => k_asm)); intro tg')
  k_with "getAttr ref" => (k_here; (with_reducible show wpAny _ _ (getAttr (Value.ref _) (Str.ofString "attrs") _) _ _ _); k_dflt (refine' get_attrs ?g1 ?g2 ?g3 ?g4 ?g5 ?g6 ?_; (case g1 => with_reducible assumption); (case g5 => k_asm); (case g2 => (intro p hp; k_mem)); (case g3 => k_asm); (case g4 => k_asm); (case g6 => k_handed)))
  k_with "getAttr ref" => (k_here; (with_reducible show wpAny _ _ (getAttr (Value.ref _) (Str.ofString "items") _) _ _ _); k_dflt (refine' get_items ?g1 ?g2 ?g3 ?g4 ?g5 ?_; (case g1 => with_reducible assumption); (case g5 => k_asm); (case g2 => (intro p hp; k_mem)); (case g3 => k_asm); (case g4 => k_asm)))
  k_with "execs cons Assign cons" => ((k_here; (with_reducible show wpAny _ _ (execs (Stmt.Assign [Expr.Name (Str.ofString "back") _] _ _ :: _) _) _ _ _); (refine Stop.mk ?_)))
  k_with "ne" => first
    | (refine' ne_two2 ?N77 ?a77 ?b77 ?e77 ?f77 ?u77 ?_; (case N77 => k_asm); (case a77 => k_mem); (case b77 => k_mem); (case e77 => omega); (case f77 => omega); (case u77 => first | exact hV | ktr_units))
    | (refine' ne_tup ?N77 ?a77 ?b77 ?e77 ?u77 ?_; (case N77 => k_asm); (case a77 => k_mem); (case b77 => k_mem); (case e77 => exact found_eq hv' hv2' hix'); (case u77 => first | exact hV | ktr_units))
    | (refine' ne_heads ?N77 ?a77 ?b77 ?d77 ?s77 ?h77 ?t77 ?i77 ?v77 ?o77 ?q77 ?u77 ?_; (case N77 => k_asm); (case a77 => k_mem); (case b77 => k_mem); (case d77 => assumption); (case s77 => (intro p hp; rcases List.mem_append.mp hp with hp | hp <;> k_mem)); (case h77 => assumption); (case t77 => (intro p hp; k_mem)); (case i77 => assumption); (case v77 => (intro p hp; k_mem)); (case o77 => first | assumption | exact nmOk_none); (case q77 => first | assumption | exact nmOk_none); (case u77 => first | exact hV | ktr_units))
  k_with "sm" => exact row_sm (by omega)
  k_with "my loop" => ((rename Fr _ _ _ _ => lF'); (rename News _ _ _ _ => lN'); (refine' grow_range (x := Str.ofString "row") (n := nl) [Str.ofString "column"] rfl ?hr77 ?hs77 ?hn77 lF' lN' (fun i' t' u' tl' I' oI' h' tk' hv' ha' F' N' o1' o2' => ?_) (fun u' tl' h' tk' ha' F' N' => ?_)); (case hr77 => assumption); (case hs77 => exact small_nat (by omega)); (case hn77 => exact size_nat _); (all_goals (try k_fold)))
  k_with "my loop" => ((rename Fr _ _ _ _ => lF'); (rename News _ _ _ _ => lN'); (refine' grow_range (x := Str.ofString "column") (n := nw) [] rfl ?hr77 ?hs77 ?hn77 lF' lN' (fun j' t2' u2' tl2' J' oJ' h2' tk2' hv2' ha2' F2' N2' p1' p2' => ?turn77) (fun u2' tl2' h2' tk2' ha2' F2' N2' => ?_)); (case hr77 => assumption); (case hs77 => exact small_nat (by omega)); (case hn77 => exact size_nat _); (all_goals (try k_fold)); (case' turn77 => (obtain ⟨hix', hix2'⟩ := idx_facts hv' hv2')))
  k_steps
  all_goals first
    | (refine' grow_end (tl1 := [(_, _)]) ?gF ?gN ?gy ?g2 ?g3 ?ga ?gm; (case gF => assumption); (case gN => assumption); (case gy => assumption); (case g2 => assumption); (case g3 => assumption); (case ga => assumption); (case gm => exact lj_same))
    | (refine' grow_end ?gF ?gN ?gy ?g2 ?g3 ?ga ?gm; (case gF => assumption); (case gN => assumption); (case gy => assumption); (case g2 => assumption); (case g3 => assumption); (case ga => assumption); (case gm => exact lj_nest))
    | skip
  rename Fr _ _ _ _ => lF'
  rename News _ _ _ _ => lN'
  unfold Stop
  (refine' next _ _ _ ?led77 _ _ _ _ _ _ (mmL_fr lF' ?e77 ?e78) (news_led lN' ?n77) ?o77 ?c5 ?s77 ?vF ?mF ?ddF)
  case e77 => rfl
  case e78 => rfl
  case n77 => walk_at "my led"
  case o77 => walk_at "my off"
  case s77 => (intro p hp; k_mem)
  case c5 => assumption
  case vF => exact VecAt.mono (by with_reducible assumption) (by intro p hp; k_mem)
  case mF => k_mem
  case ddF => (refine' DatAll.mono ?s9 ?a9; (case a9 => with_reducible assumption); (case s9 => (intro p hp; k_mem)))
end
section
open PySem.Calls
set_option maxHeartbeats 1500000 in
theorem law_k3 {w : World} {mean : ExcName → Option Value} {mg mb : Str → Option Value} {l : Addr} {vs : List Value} {ns : List Int} (hi : IntsAre vs ns) (hl : ns.length < 64) {dp un : Nat} {gd : Option (List Code)} {outer : List Env} {base h₀ : Heap} {L : Addr} {s : Shared} {Q : Flow → Shared → Prop} {m u : Str → Option Value} {nl nw : Nat} {fa : Addr} {cd : Value}{led : Led} {x1 x2 xO : Addr} {vs1 vs2 vsO : List Value} {nm1 nmO : Option (List Dat)} {t1 t2 : Tok} {xF : Addr} {vsF : List Value}{D1 D2 DO : Addr} {k1 k2 kO : Nat} {at1 at2 atO : Value} {DF : Addr} {kF : Nat} {atF : Value}
    (PB : base.IsList l vs.toArray) (B : Below (lawA₁ dp un gd outer) base outer h₀) (X : (fr.heap_1 w.params).In h₀) (T : LTop mean mg mb h₀) (hdp : dp + 20 < recursionLimit) (hun : un + 20 * 20 + 100 < cLine)
    (F : Fr h₀ L s.heap (mmL l xO u)) {o1 o2 o3 o4 o5 o6 o7 : Obj} {c6 c7 : Option Value} (d1 : CellIs o1 (some (.int nl t1))) (d2 : CellIs o2 (some (.int nw t2))) (d3 : CellIs o3 (some (.ref x1))) (d4 : CellIs o4 (some (.ref x2))) (d5 : CellIs o5 (some (.ref xF))) (d6 : CellIs o6 c6) (d7 : CellIs o7 c7) (N : News h₀ L s.heap (led ++ cells7 L o1 o2 o3 o4 o5 o6 o7)) (off : Off7 L led)
    (v1 : VecAt w led x1 (Str.ofString "double") D1 at1) (m1 : (D1, listOf vs1.toArray k1) ∈ led) (n1 : NamesAt w led at1 nm1) (dd1 : DatAll led vs1 ((rowQ ns 3 nl).map frD)) (ok1 : NmOk nm1) (v2 : VecAt w led x2 (Str.ofString "double") D2 at2) (m2 : (D2, listOf vs2.toArray k2) ∈ led) (n2 : NamesAt w led at2 none) (dd2 : DatAll led vs2 ((rowQ ns 7 nl).map frD)) (vO : VecAt w led xO (Str.ofString "double") DO atO) (mO : (DO, listOf vsO.toArray kO) ∈ led) (nO : NamesAt w led atO nmO) (ddO : DatAll led vsO ((rowQ ns 11 nw).map frD)) (okO : NmOk nmO) (vF : VecAt w led xF (Str.ofString "double") DF atF) (mF : (DF, listOf vsF.toArray kF) ∈ led) (ddF : DatAll led vsF ((PR (rowQ ns 3 nl) (rowQ ns 11 nw)).map frD))
    (hnl : 1 + (cellV ns 0).fmod 4 = (nl : Int)) (hnl1 : 1 ≤ nl) (hnl2 : nl ≤ 4) (hnw : 1 + (cellV ns 1).fmod 4 = (nw : Int)) (hnw1 : 1 ≤ nw) (hnw2 : nw ≤ 4)
    (next : ∀ (u : Str → Option Value) (h' : Heap) (tk' : Nat) (led' : Led) (o6 : Obj) (c6 : Option Value), Fr h₀ L h' (mmL l xO u) → News h₀ L h' (led' ++ cells7 L o1 o2 o3 o4 o5 o6 o7) → Off7 L led' → CellIs o6 c6 → (∀ p ∈ led, p ∈ led') →
      wpAny (model LP w) (lawA fa cd dp un gd outer L) (execs (lawBody.drop 13) (lawE fa cd L)) Q (fun _ _ => False) { s with heap := h', toks := tk' }) :
    wpAny (model LP w) (lawA fa cd dp un gd outer L) (execs (lawBody.drop 10) (lawE fa cd L)) Q (fun _ _ => False) s := by
  have hU : ∀ j, Nat.ble (1 + j) 20 = true → un + 3 + 20 * j + 100 < cLine := fun j e => unF (n := 20) hun e
  have hV : un + 3 + 64 < cLine := unV hun
  have hln1 := dd1.length
  simp only [List.length_map, rowQ_len] at hln1
  have hln2 := dd2.length
  simp only [List.length_map, rowQ_len] at hln2
  have hlnO := ddO.length
  simp only [List.length_map, rowQ_len] at hlnO
  have hlnF := ddF.length
  simp only [List.length_map, rowQ_len, PR_len] at hlnF
  have hlw : nl * nw ≤ 16 := Nat.mul_le_mul hnl2 hnw2
  have hwl : nw * nl ≤ 16 := Nat.mul_le_mul hnw2 hnl2
  unfold cells7 at N
  unfold lawA lawE
  conv => arg 3; arg 1; whnf
  conv in lawScope => whnf
  dsimp only
  try k_fold
  k_with_none
  k_with "FinE" => (((unfold LCg.FinE); intro D' h' tk' F' N' o1'; (try simp only [off1_app, LCg.Off1, and_true, and_assoc] at o1'); (repeat (have hOf9 := And.left o1'; replace o1' := And.right o1')); (try simp only [List.nil_append, List.cons_append] at N'); (try dsimp only)))
  k_with "FinA" => (((unfold LCg.FinA); intro D' h' tk' F' N' o1'; (try simp only [off1_app, LCg.Off1, and_true, and_assoc] at o1'); (repeat (have hOf9 := And.left o1'; replace o1' := And.right o1')); (try simp only [List.nil_append, List.cons_append] at N'); (try dsimp only)))
  k_with "call type:list" => ((k_here; (with_reducible show wpAny _ _ (call (Value.type _) [Value.ref _]) _ _ _); k_dflt (refine' list_copyK ?F ?N (News.isList ?N2 ?b) ?_ ?z; (case F => k_asm); (case N => k_asm); (case N2 => k_asm); (case b => k_mem); (case z => rw [PySem.sizeLine_eq]; simp only [List.size_toArray, List.length_cons, List.length_nil]; first | exact sz_el (by with_reducible assumption) (by with_reducible assumption) rfl | exact sz_ll (by with_reducible assumption) (by with_reducible assumption) rfl | exact sz_lt (by with_reducible assumption) rfl | exact sz_le (by with_reducible assumption) rfl | exact sz_eq (by with_reducible assumption) (by with_reducible assumption) rfl | exact Nat.le_of_ble_eq_true rfl | omega)); intro D' c' h' F' N' l1; (try k_lt l1); (try k_sweep)))
  k_with "call builtin:isinstance" => ((k_here; k_dflt (refine' isi_call ?k1 ?k2 ?k3 ?k4 ?_; (case k1 => k_in); (case k2 => (intro M; exact InstAt.type (by k_inst))); (case k3 => k_is); (case k4 => intro e; cases e); k_whole)))
  k_with "getMethod ref" => ((k_here; (with_reducible show wpAny _ _ (getMethod (Value.ref _) (Str.ofString "get") _) _ _ _); k_dflt (refine kdg_method (knd := PySem.strKind _ _) (by k_asm) (by k_mem) (by k_asm) ?_)))
  k_with "call builtin:dict.get" => ((k_here; k_dflt (first
    | refine kdg_get1 (knd := PySem.strKind _ _) (by k_asm) (by k_mem) (by k_asm) (by k_asm) (strKind_is _ _ _ _) (some _) (by rfl) ?_
    | refine kdg_get1 (knd := PySem.strKind _ _) (by k_asm) (by k_mem) (by k_asm) (by k_asm) (strKind_is _ _ _ _) none (by rfl) ?_); (try dsimp only [Option.getD])))
  k_with "compareOp In str ref" => ((k_here; k_dflt (first
    | refine kda_in (knd := PySem.strKind _ _) (by k_asm) (by k_mem) (by k_asm) (by k_asm) (strKind_is _ _ _ _) true (by rfl) ?_
    | refine kda_in (knd := PySem.strKind _ _) (by k_asm) (by k_mem) (by k_asm) (by k_asm) (strKind_is _ _ _ _) false (by rfl) ?_)))
  k_with "compareOp NotIn str ref" => ((k_here; k_dflt (first
    | refine kdg_notin (knd := PySem.strKind _ _) (by k_asm) (by k_mem) (by k_asm) (by k_asm) (strKind_is _ _ _ _) true (by rfl) ?_
    | refine kdg_notin (knd := PySem.strKind _ _) (by k_asm) (by k_mem) (by k_asm) (by k_asm) (strKind_is _ _ _ _) false (by rfl) ?_); (try dsimp only [Bool.not_true, Bool.not_false])))
  k_with "subscriptTail" => ((k_here; (with_reducible show wpAny _ _ (subscriptTail _ _ (Value.ref _) (Value.str _ _)) _ _ _); k_dflt (first
    | refine kda_item (knd := PySem.strKind _ _) (by k_asm) (by k_mem) (by k_asm) (strKind_is _ _ _ _) (by rfl) ?_
    | refine kdt_tail (knd := PySem.strKind _ _) (by k_asm) (by k_mem) (by k_asm) ?_)))
  k_with "getItem ref str" => ((k_here; k_dflt (refine kdt_getItem (knd := PySem.strKind _ _) (by k_asm) (by k_mem) (by k_asm) (strKind_is _ _ _ _) (by rfl) ?_)))
  k_with "setItem ref str" => ((k_here; k_dflt (refine' kda_set (knd := PySem.strKind _ _) ?F ?N ?U ?d (strKind_is _ _ _ _) ?z ?_; (case F => k_asm); (case N => k_asm); (case U => k_updF); (case d => k_asm); (case z => rw [sizeLine_eq]; exact Nat.le_of_ble_eq_true (by with_unfolding_all rfl))); intro h' o' F' N' hd'; (try dsimp only at N')))
  k_with "call builtin:len" => ((k_here; (with_reducible show wpAny _ _ (call (Value.builtin "len") [Value.ref _]) _ _ _); k_dflt (refine' len_mem ?N ?b ?z ?_; (case N => k_asm); (case b => k_mem); (case z => omega))))
  k_with "eval ListComp" => ((k_here; k_dflt (refine LCg.ListComp_U (F₀ := by k_asm) (by with_unfolding_all rfl) (by decide) (by rfl) (by decide) (by rfl) ?_)))
  k_with "exec Assign cons ListComp" => ((k_here; k_dflt (refine LCg.Assign_ListComp_U (F₀ := by k_asm) (by rfl) (by with_unfolding_all rfl) (by with_unfolding_all rfl) (by decide) (by rfl) (by decide) (by rfl) (by rfl) (by rfl) ?_)))
  k_with "CompSrc" => ((k_here; (try k_fmods); k_dflt (refine LCg.CompSrc.range (by rfl) (by k_asm) (by k_asm) (by assumption) (by first | (with_reducible refine small_nat ?sm9; (case sm9 => first | exact lt_eq (by with_reducible assumption) (by with_reducible assumption) rfl | exact lt_lt (by with_reducible assumption) rfl | exact lt_el (by with_reducible assumption) (by with_reducible assumption) rfl | exact lt_le (by with_reducible assumption) rfl | omega)) | exact small_one (by kcf_bnd) (by kcf_bnd) (by kcf_bnd) (by kcf_bnd) | decide) (by first | exact rangeSize_nat _ _ | rfl) (by rw [PySem.sizeLine_eq]; first | exact sz_lt (by with_reducible assumption) rfl | exact sz_le (by with_reducible assumption) rfl | omega | (simp only [List.size_toArray]; omega)) ?_; intro g'; k_extra "my comp")))
  k_with "exec For Name" => ((k_here; (rename Fr _ _ _ _ => lF'); (with_unfolding_all refine' For_invVF lF' ?k1 ?k2 ?_; (case k1 => exact rfl); (case k2 => exact rfl); k_whole)))
  k_with "exec For Name Call cons nil" => ((k_here; (rename Fr _ _ _ _ => lF'); (with_unfolding_all refine' For_invVF lF' ?k1 ?k2 ?_; (case k1 => exact rfl); (case k2 => exact rfl); k_whole)))
  k_with "exec For Name Name cons nil" => ((k_here; (rename Fr _ _ _ _ => lF'); (with_unfolding_all refine' For_invVF lF' ?k1 ?k2 ?_; (case k1 => exact rfl); (case k2 => exact rfl); k_whole)))
  k_with "pyIter ref" => ((k_here; k_dflt k_extra "my loop"))
  k_with "LpPost" => ((dsimp only [LpPost]))
  k_with "call builtin:list.append" => ((k_here; k_dflt (refine' append_K ?k1 ?k2 ?k3 ?_ ?z; (case k1 => k_asm); (case k2 => k_asm); (case k3 => k_upd); (case z => rw [PySem.sizeLine_eq]; simp only [List.size_toArray, List.length_append, List.length_cons, List.length_nil]; first | exact sz_el (by with_reducible assumption) (by with_reducible assumption) rfl | exact sz_ll (by with_reducible assumption) (by with_reducible assumption) rfl | exact sz_lt (by with_reducible assumption) rfl | exact sz_le (by with_reducible assumption) rfl | exact sz_eq (by with_reducible assumption) (by with_reducible assumption) rfl | exact Nat.le_of_ble_eq_true rfl | omega); k_whole); intro h' F' N'; (try k_sweep)))
  k_with "call type:range" => (((rename Fr _ _ _ _ => F'); (rename News _ _ _ _ => N'); first
    | (with_unfolding_all refine range1_rows F' N' ?_; intro _ _ _ _ _ _ _ _ _)
    | (with_unfolding_all refine range2_rows F' N' ?_; intro _ _ _ _ _ _ _ _ _)))
  k_with "binaryOp Mult int int" => ((k_here; (with_reducible refine mul_int ?kmm (IntMulOk.of_left (intBits_le_64 ?kma ?kmb))); (case kma => omega); (case kmb => omega)))
  k_with "storeName" => ((k_extra "nums"))
  k_with "getItem ref str" => ((k_here; k_dflt (refine' kdt_getItem (knd := PySem.strKind _ _) ?N ?b ?d (strKind_is _ _ _ _) ?v ?_; (case N => k_asm); (case b => k_mem); (case d => k_asm); (case v => assumption))))
  k_with "compareOp NotEq ref ref" => ((k_here; k_dflt k_extra "ne"))
  k_with "subscriptTail" => ((k_here; (with_reducible show wpAny _ _ (subscriptTail _ _ (Value.ref _) (Value.int _ _)) _ _ _); k_dflt (refine' item_raw ?N ?b ?h0 ?hk ?hb ?_; (case N => k_asm); (case b => k_mem); (case h0 => omega); (case hk => omega); (case hb => omega))))
  k_with "subscriptTail Name BinOp ref int" => ((k_here; (with_reducible show wpAny _ _ (subscriptTail _ _ (Value.ref _) (Value.int _ _)) _ _ _); k_dflt (refine' item_raw ?N ?b ?h0 ?hk ?hb ?_; (case N => k_asm); (case b => k_mem); (case h0 => omega); (case hk => omega); (case hb => omega))))
  k_with "subscriptTail Name Name ref int" => ((k_here; (with_reducible show wpAny _ _ (subscriptTail _ _ (Value.ref _) (Value.int _ _)) _ _ _); k_dflt (refine' item_raw ?N ?b ?h0 ?hk ?hb ?_; (case N => k_asm); (case b => k_mem); (case h0 => omega); (case hk => omega); (case hb => omega))))
  k_with "subscriptTail Attribute" => ((k_here; (with_reducible show wpAny _ _ (subscriptTail _ _ (Value.ref _) (Value.int _ _)) _ _ _); k_dflt (refine kba_turn (value' := PySem.Expr.Name (PySem.Str.ofString "_") ⟨0, 0, 0, 0⟩) (fun _ => rfl) ?_; refine' item_raw ?N ?b ?h0 ?hk ?hb ?_; (case N => k_asm); (case b => k_mem); (case h0 => omega); (case hk => omega); (case hb => omega))))
  k_with "my led" => (first | with_reducible exact led_nil | (refine' led_app ?hh9; (case hh9 => walk_at "my led")) | (refine' led_cons ?hh9; (case hh9 => walk_at "my led")))
  k_with "my hasc" => (first | with_reducible exact HasC.base | ((with_reducible refine HasC.app ?_); walk_at "my hasc") | ((with_reducible refine HasC.cons ?_); walk_at "my hasc"))
  k_with "my off" => (first | with_reducible exact Off7.nil | with_reducible assumption | (refine Off7.of (by with_reducible assumption) ?_; walk_at "my hasc") | ((with_reducible refine Off7.app ?ho9 ?ht9); (case ho9 => walk_at "my off"); (case ht9 => walk_at "my off")) | ((with_reducible refine Off7.blk ?ho9 ?ht9); (case ho9 => walk_at "my off"); (case ht9 => walk_at "my off")) | ((with_reducible refine Off7.lt ?ho9 ?ht9); (case ho9 => with_reducible assumption); (case ht9 => walk_at "my off")) | ((with_reducible refine Off7.each ?ha9 ?hb9 ?hc9 ?hd9 ?he9 ?hf9 ?hg9 ?ht9); (case ha9 => with_reducible assumption); (case hb9 => with_reducible assumption); (case hc9 => with_reducible assumption); (case hd9 => with_reducible assumption); (case he9 => with_reducible assumption); (case hf9 => with_reducible assumption); (case hg9 => with_reducible assumption); (case ht9 => walk_at "my off")) | ((with_reducible refine Off7.one ?ho9 ?ht9); (case ho9 => (refine Off7.of (by with_reducible assumption) ?_; walk_at "my hasc")); (case ht9 => walk_at "my off")))
  k_with "exec Assign cons ListComp" => ((k_here; k_dflt (refine Assign_two (F₀ := by k_asm) (by rfl) (by with_unfolding_all rfl) (by with_unfolding_all rfl) (by decide) (by rfl) (by decide) (by rfl) (by rfl) (by decide) (by rfl) (by rfl) ?_)))
  k_with "Src2" => ((k_here; k_dflt k_extra "my two"))
  k_with "call ref" => (k_here; (with_reducible show wpAny _ _ (call (Value.ref 556) _) _ _ _); k_dflt (refine' use_outer ?kP ?k1 ?k2 ?k3 ?k4 ?k5 ?kK (outer_tell _ _ _ _ _ _ _ _ _ _ _ ?hu ?hD ?hn _ _ ?hsu ?hau ?hSu ?hlu ?hnl _ _ _ _ _ _ ?hu2 ?hD2 ?hn2 _ _ ?hsu2 ?hau2 ?hSu2 ?hlu2 ?hnl2) ?kd ?ku ?_; (case k1 => k_asm); (case k2 => k_asm); (case k3 => k_asm); (case k4 => k_asm); (case k5 => k_asm); (case kK => first | exact rfl | assumption); (case kP => exact True.intro); (case hu => exact VecAt.mono (by with_reducible assumption) (by intro p hp; k_mem)); (case hD => k_mem); (case hn => exact NamesAt.mono (by with_reducible assumption) (by intro p hp; k_mem)); (case hau => assumption); (case hsu => (intro p hp; k_mem)); (case hSu => first | exact rowQ_sm | exact sumQ_sm rowQ_len rowQ_len rowQ_sm0 rowQ_sm0 | assumption); (case hlu => first | exact lt_eq (by with_reducible assumption) (by with_reducible assumption) rfl | exact lt_lt (by with_reducible assumption) rfl | exact lt_el (by with_reducible assumption) (by with_reducible assumption) rfl | exact lt_le (by with_reducible assumption) rfl | omega); (case hnl => first | exact NmOk.len (by with_reducible assumption) | exact NmOk.len nmOk_none); (case hu2 => exact VecAt.mono (by with_reducible assumption) (by intro p hp; k_mem)); (case hD2 => k_mem); (case hn2 => exact NamesAt.mono (by with_reducible assumption) (by intro p hp; k_mem)); (case hau2 => assumption); (case hsu2 => (intro p hp; k_mem)); (case hSu2 => first | exact rowQ_sm | exact sumQ_sm rowQ_len rowQ_len rowQ_sm0 rowQ_sm0 | assumption); (case hlu2 => first | exact lt_eq (by with_reducible assumption) (by with_reducible assumption) rfl | exact lt_lt (by with_reducible assumption) rfl | exact lt_el (by with_reducible assumption) (by with_reducible assumption) rfl | exact lt_le (by with_reducible assumption) rfl | omega); (case hnl2 => first | exact NmOk.len (by with_reducible assumption) | exact NmOk.len nmOk_none); (case kd => ktr_room); (case ku => first | exact hU 14 rfl | ktr_units); intro xo' Do' co' ado' vso' nmo' tl' h' tk' F' N' y' v' hmo' hdo' hlo' hMo' hNo'); (simp only [List.length_map, PR_len, rowQ_len, sumQ_len] at hlo'); (try simp only [List.cons_append, List.nil_append] at N'); (try dsimp only); (try k_fold))
  k_with "call ref" => (k_here; (with_reducible show wpAny _ _ (call (Value.ref 611) _) _ _ _); k_dflt (refine' use_head ?kP ?k1 ?k2 ?k3 ?k4 ?k5 ?kK (heads_tell _ _ _ _ _ _ _ _ _ ?hv ?hn) ?kd ?ku ?_; (case k1 => k_asm); (case k2 => k_asm); (case k3 => k_asm); (case k4 => k_asm); (case k5 => k_asm); (case kK => first | exact rfl | assumption); (case kP => exact True.intro); (case hv => exact VecAt.mono (by with_reducible assumption) (by intro p hp; k_mem)); (case hn => exact NamesAt.mono (by with_reducible assumption) (by intro p hp; k_mem)); (case kd => ktr_room); (case ku => first | exact hU 3 rfl | ktr_units); intro r' h' tk' F' N' dH'); (try simp only [List.cons_append, List.nil_append] at N'); (try dsimp only); (try k_fold))
  k_with "call ref" => (k_here; (with_reducible show wpAny _ _ (call (Value.ref 604) _) _ _ _); k_dflt (refine' use_axes ?kP ?k1 ?k2 ?k3 ?k4 ?k5 ?kK (axes_tell _ _ _ _ _ _ _ _ _ _ _ _ _ ?hv ?hM ?hR) ?kd ?ku ?_; (case k1 => k_asm); (case k2 => k_asm); (case k3 => k_asm); (case k4 => k_asm); (case k5 => k_asm); (case kK => first | exact rfl | assumption); (case kP => exact True.intro); (case hv => exact VecAt.mono (by with_reducible assumption) (by intro p hp; k_mem)); (case hM => exact MatA.mono (by with_reducible assumption) (by intro p hp; k_mem)); (case hR => with_reducible assumption); (case kd => ktr_room); (case ku => first | exact hU 4 rfl | ktr_units); intro DX' cX' vsX' tl' h' tk' F' N' y' mX' dX'); (try simp only [List.cons_append, List.nil_append] at N'); (try dsimp only); (try k_fold))
  k_with "getAttr ref" => (k_here; (with_reducible show wpAny _ _ (getAttr (Value.ref _) (Str.ofString "kind") _) _ _ _); k_dflt (refine' get_kind ?g1 ?g2 ?g3 ?g4 ?g5 ?_; (case g1 => with_reducible assumption); (case g5 => k_asm); (case g2 => (intro p hp; k_mem)); (case g3 => k_asm); (case g4 => k_asm)); intro tg')
  k_with "getAttr ref" => (k_here; (with_reducible show wpAny _ _ (getAttr (Value.ref _) (Str.ofString "attrs") _) _ _ _); k_dflt (refine' get_attrs ?g1 ?g2 ?g3 ?g4 ?g5 ?g6 ?_; (case g1 => with_reducible assumption); (case g5 => k_asm); (case g2 => (intro p hp; k_mem)); (case g3 => k_asm); (case g4 => k_asm); (case g6 => k_handed)))
  k_with "getAttr ref" => (k_here; (with_reducible show wpAny _ _ (getAttr (Value.ref _) (Str.ofString "items") _) _ _ _); k_dflt (refine' get_items ?g1 ?g2 ?g3 ?g4 ?g5 ?_; (case g1 => with_reducible assumption); (case g5 => k_asm); (case g2 => (intro p hp; k_mem)); (case g3 => k_asm); (case g4 => k_asm)))
  k_with "execs cons Assign cons" => ((k_here; (with_reducible show wpAny _ _ (execs (Stmt.Assign [Expr.Name (Str.ofString "both_now") _] _ _ :: _) _) _ _ _); (refine Stop.mk ?_)))
  k_with "ne" => first
    | (refine' ne_list ?N77 ?a77 ?b77 (mirror_dat (as := rowQ ns 3 nl) (bs := rowQ ns 11 nw) rowQ_len rowQ_len ?m77) ?s77 ?d77 ?t77 rfl frs_ok ?u77 ?_; (case N77 => k_asm); (case a77 => k_mem); (case b77 => k_mem); (case m77 => assumption); (case s77 => (intro p hp; k_mem)); (case d77 => assumption); (case t77 => (intro p hp; k_mem)); (case u77 => first | exact hV | ktr_units))
    | (refine' ne_heads ?N77 ?a77 ?b77 ?d77 ?s77 ?h77 ?t77 ?i77 ?v77 ?o77 ?q77 ?u77 ?_; (case N77 => k_asm); (case a77 => k_mem); (case b77 => k_mem); (case d77 => assumption); (case s77 => (intro p hp; rcases List.mem_append.mp hp with hp | hp <;> k_mem)); (case h77 => assumption); (case t77 => (intro p hp; k_mem)); (case i77 => assumption); (case v77 => (intro p hp; k_mem)); (case o77 => first | assumption | exact nmOk_none); (case q77 => first | assumption | exact nmOk_none); (case u77 => first | exact hV | ktr_units))
  k_with "my two" => ((rename List Value => vsB); (rename Fr _ _ _ _ => lF'); (rename News _ _ _ _ => lN'); (refine' Src2.range 0 nl (fun c r => vsB.getD (c + nw * r) .none) rfl lF' lN' ?hr77 ?hs77 ?hn77 ?sz77 (fun g' i' hv' => ?src77) (fun g' i' hv' j' hv2' => ?elt77) (fun g' => ?_)); (case hr77 => assumption); (case hs77 => exact small_nat (by omega)); (case hn77 => exact size_nat _); (case sz77 => (rw [PySem.sizeLine_eq, Nat.mul_comm]; omega)); (case' src77 => (unfold SrcI; intro I' oI' C' oC' D' ys' m2' h' tk' t' E' hC' hx' F' N')); (case' elt77 => (obtain ⟨hix', hix2'⟩ := idx_facts (n := nw) (m := nl) hv' hv2'; unfold EltAt; intro J' oJ' I' oI' C' oC' D' ys' m2' h' tk' t' t2' E' hC' hx' hx2' F' N')); (all_goals (try k_fold)))
  k_steps
  all_goals (try with_reducible assumption)
  · rw [hix', Int.toNat_natCast]
  · exact small_nat (by omega)
  · exact size_nat _
  rename Fr _ _ _ _ => lF'
  rename News _ _ _ _ => lN'
  unfold Stop
  (refine' next _ _ _ ?led77 _ _ (mmL_fr lF' ?e77 ?e78) (news_led lN' ?n77) ?o77 ?c6 ?s77)
  case e77 => rfl
  case e78 => rfl
  case n77 => walk_at "my led"
  case o77 => walk_at "my off"
  case s77 => (intro p hp; k_mem)
  case c6 => assumption
end
section
open PySem.Calls
set_option maxHeartbeats 1500000 in
theorem law_k4 {w : World} {mean : ExcName → Option Value} {mg mb : Str → Option Value} {l : Addr} {vs : List Value} {ns : List Int} (hi : IntsAre vs ns) (hl : ns.length < 64) {dp un : Nat} {gd : Option (List Code)} {outer : List Env} {base h₀ : Heap} {L : Addr} {s : Shared} {Q : Flow → Shared → Prop} {m u : Str → Option Value} {nl nw : Nat} {fa : Addr} {cd : Value}{led : Led} {x1 x2 xO : Addr} {vs1 vs2 vsO : List Value} {nm1 nmO : Option (List Dat)} {t1 t2 : Tok} {xF : Addr} {vsF : List Value}{D1 D2 DO : Addr} {k1 k2 kO : Nat} {at1 at2 atO : Value} {DF : Addr} {kF : Nat} {atF : Value}
    (PB : base.IsList l vs.toArray) (B : Below (lawA₁ dp un gd outer) base outer h₀) (X : (fr.heap_1 w.params).In h₀) (T : LTop mean mg mb h₀) (hdp : dp + 20 < recursionLimit) (hun : un + 20 * 20 + 100 < cLine)
    (F : Fr h₀ L s.heap (mmL l xO u)) {o1 o2 o3 o4 o5 o6 o7 : Obj} {c6 c7 : Option Value} (d1 : CellIs o1 (some (.int nl t1))) (d2 : CellIs o2 (some (.int nw t2))) (d3 : CellIs o3 (some (.ref x1))) (d4 : CellIs o4 (some (.ref x2))) (d5 : CellIs o5 (some (.ref xF))) (d6 : CellIs o6 c6) (d7 : CellIs o7 c7) (N : News h₀ L s.heap (led ++ cells7 L o1 o2 o3 o4 o5 o6 o7)) (off : Off7 L led)
    (v1 : VecAt w led x1 (Str.ofString "double") D1 at1) (m1 : (D1, listOf vs1.toArray k1) ∈ led) (n1 : NamesAt w led at1 nm1) (dd1 : DatAll led vs1 ((rowQ ns 3 nl).map frD)) (ok1 : NmOk nm1) (v2 : VecAt w led x2 (Str.ofString "double") D2 at2) (m2 : (D2, listOf vs2.toArray k2) ∈ led) (n2 : NamesAt w led at2 none) (dd2 : DatAll led vs2 ((rowQ ns 7 nl).map frD)) (vO : VecAt w led xO (Str.ofString "double") DO atO) (mO : (DO, listOf vsO.toArray kO) ∈ led) (nO : NamesAt w led atO nmO) (ddO : DatAll led vsO ((rowQ ns 11 nw).map frD)) (okO : NmOk nmO) (vF : VecAt w led xF (Str.ofString "double") DF atF) (mF : (DF, listOf vsF.toArray kF) ∈ led) (ddF : DatAll led vsF ((PR (rowQ ns 3 nl) (rowQ ns 11 nw)).map frD))
    (hnl : 1 + (cellV ns 0).fmod 4 = (nl : Int)) (hnl1 : 1 ≤ nl) (hnl2 : nl ≤ 4) (hnw : 1 + (cellV ns 1).fmod 4 = (nw : Int)) (hnw1 : 1 ≤ nw) (hnw2 : nw ≤ 4)
    (next : ∀ (u : Str → Option Value) (h' : Heap) (tk' : Nat) (led' : Led) (o7 : Obj) (c7 : Option Value), Fr h₀ L h' (mmL l xO u) → News h₀ L h' (led' ++ cells7 L o1 o2 o3 o4 o5 o6 o7) → Off7 L led' → CellIs o7 c7 → (∀ p ∈ led, p ∈ led') →
      wpAny (model LP w) (lawA fa cd dp un gd outer L) (execs (lawBody.drop 16) (lawE fa cd L)) Q (fun _ _ => False) { s with heap := h', toks := tk' }) :
    wpAny (model LP w) (lawA fa cd dp un gd outer L) (execs (lawBody.drop 13) (lawE fa cd L)) Q (fun _ _ => False) s := by
  have hU : ∀ j, Nat.ble (1 + j) 20 = true → un + 3 + 20 * j + 100 < cLine := fun j e => unF (n := 20) hun e
  have hV : un + 3 + 64 < cLine := unV hun
  have hln1 := dd1.length
  simp only [List.length_map, rowQ_len] at hln1
  have hln2 := dd2.length
  simp only [List.length_map, rowQ_len] at hln2
  have hlnO := ddO.length
  simp only [List.length_map, rowQ_len] at hlnO
  have hlnF := ddF.length
  simp only [List.length_map, rowQ_len, PR_len] at hlnF
  have hlw : nl * nw ≤ 16 := Nat.mul_le_mul hnl2 hnw2
  have hwl : nw * nl ≤ 16 := Nat.mul_le_mul hnw2 hnl2
  unfold cells7 at N
  unfold lawA lawE
  conv => arg 3; arg 1; whnf
  conv in lawScope => whnf
  dsimp only
  try k_fold
  k_with_none
  k_with "FinE" => (((unfold LCg.FinE); intro D' h' tk' F' N' o1'; (try simp only [off1_app, LCg.Off1, and_true, and_assoc] at o1'); (repeat (have hOf9 := And.left o1'; replace o1' := And.right o1')); (try simp only [List.nil_append, List.cons_append] at N'); (try dsimp only)))
  k_with "FinA" => (((unfold LCg.FinA); intro D' h' tk' F' N' o1'; (try simp only [off1_app, LCg.Off1, and_true, and_assoc] at o1'); (repeat (have hOf9 := And.left o1'; replace o1' := And.right o1')); (try simp only [List.nil_append, List.cons_append] at N'); (try dsimp only)))
  k_with "call type:list" => ((k_here; (with_reducible show wpAny _ _ (call (Value.type _) [Value.ref _]) _ _ _); k_dflt (refine' list_copyK ?F ?N (News.isList ?N2 ?b) ?_ ?z; (case F => k_asm); (case N => k_asm); (case N2 => k_asm); (case b => k_mem); (case z => rw [PySem.sizeLine_eq]; simp only [List.size_toArray, List.length_cons, List.length_nil]; first | exact sz_el (by with_reducible assumption) (by with_reducible assumption) rfl | exact sz_ll (by with_reducible assumption) (by with_reducible assumption) rfl | exact sz_lt (by with_reducible assumption) rfl | exact sz_le (by with_reducible assumption) rfl | exact sz_eq (by with_reducible assumption) (by with_reducible assumption) rfl | exact Nat.le_of_ble_eq_true rfl | omega)); intro D' c' h' F' N' l1; (try k_lt l1); (try k_sweep)))
  k_with "call builtin:isinstance" => ((k_here; k_dflt (refine' isi_call ?k1 ?k2 ?k3 ?k4 ?_; (case k1 => k_in); (case k2 => (intro M; exact InstAt.type (by k_inst))); (case k3 => k_is); (case k4 => intro e; cases e); k_whole)))
  k_with "getMethod ref" => ((k_here; (with_reducible show wpAny _ _ (getMethod (Value.ref _) (Str.ofString "get") _) _ _ _); k_dflt (refine kdg_method (knd := PySem.strKind _ _) (by k_asm) (by k_mem) (by k_asm) ?_)))
  k_with "call builtin:dict.get" => ((k_here; k_dflt (first
    | refine kdg_get1 (knd := PySem.strKind _ _) (by k_asm) (by k_mem) (by k_asm) (by k_asm) (strKind_is _ _ _ _) (some _) (by rfl) ?_
    | refine kdg_get1 (knd := PySem.strKind _ _) (by k_asm) (by k_mem) (by k_asm) (by k_asm) (strKind_is _ _ _ _) none (by rfl) ?_); (try dsimp only [Option.getD])))
  k_with "compareOp In str ref" => ((k_here; k_dflt (first
    | refine kda_in (knd := PySem.strKind _ _) (by k_asm) (by k_mem) (by k_asm) (by k_asm) (strKind_is _ _ _ _) true (by rfl) ?_
    | refine kda_in (knd := PySem.strKind _ _) (by k_asm) (by k_mem) (by k_asm) (by k_asm) (strKind_is _ _ _ _) false (by rfl) ?_)))
  k_with "compareOp NotIn str ref" => ((k_here; k_dflt (first
    | refine kdg_notin (knd := PySem.strKind _ _) (by k_asm) (by k_mem) (by k_asm) (by k_asm) (strKind_is _ _ _ _) true (by rfl) ?_
    | refine kdg_notin (knd := PySem.strKind _ _) (by k_asm) (by k_mem) (by k_asm) (by k_asm) (strKind_is _ _ _ _) false (by rfl) ?_); (try dsimp only [Bool.not_true, Bool.not_false])))
  k_with "subscriptTail" => ((k_here; (with_reducible show wpAny _ _ (subscriptTail _ _ (Value.ref _) (Value.str _ _)) _ _ _); k_dflt (first
    | refine kda_item (knd := PySem.strKind _ _) (by k_asm) (by k_mem) (by k_asm) (strKind_is _ _ _ _) (by rfl) ?_
    | refine kdt_tail (knd := PySem.strKind _ _) (by k_asm) (by k_mem) (by k_asm) ?_)))
  k_with "getItem ref str" => ((k_here; k_dflt (refine kdt_getItem (knd := PySem.strKind _ _) (by k_asm) (by k_mem) (by k_asm) (strKind_is _ _ _ _) (by rfl) ?_)))
  k_with "setItem ref str" => ((k_here; k_dflt (refine' kda_set (knd := PySem.strKind _ _) ?F ?N ?U ?d (strKind_is _ _ _ _) ?z ?_; (case F => k_asm); (case N => k_asm); (case U => k_updF); (case d => k_asm); (case z => rw [sizeLine_eq]; exact Nat.le_of_ble_eq_true (by with_unfolding_all rfl))); intro h' o' F' N' hd'; (try dsimp only at N')))
  k_with "call builtin:len" => ((k_here; (with_reducible show wpAny _ _ (call (Value.builtin "len") [Value.ref _]) _ _ _); k_dflt (refine' len_mem ?N ?b ?z ?_; (case N => k_asm); (case b => k_mem); (case z => omega))))
  k_with "eval ListComp" => ((k_here; k_dflt (refine LCg.ListComp_U (F₀ := by k_asm) (by with_unfolding_all rfl) (by decide) (by rfl) (by decide) (by rfl) ?_)))
  k_with "exec Assign cons ListComp" => ((k_here; k_dflt (refine LCg.Assign_ListComp_U (F₀ := by k_asm) (by rfl) (by with_unfolding_all rfl) (by with_unfolding_all rfl) (by decide) (by rfl) (by decide) (by rfl) (by rfl) (by rfl) ?_)))
  k_with "CompSrc" => ((k_here; (try k_fmods); k_dflt (refine LCg.CompSrc.range (by rfl) (by k_asm) (by k_asm) (by assumption) (by first | (with_reducible refine small_nat ?sm9; (case sm9 => first | exact lt_eq (by with_reducible assumption) (by with_reducible assumption) rfl | exact lt_lt (by with_reducible assumption) rfl | exact lt_el (by with_reducible assumption) (by with_reducible assumption) rfl | exact lt_le (by with_reducible assumption) rfl | omega)) | exact small_one (by kcf_bnd) (by kcf_bnd) (by kcf_bnd) (by kcf_bnd) | decide) (by first | exact rangeSize_nat _ _ | rfl) (by rw [PySem.sizeLine_eq]; first | exact sz_lt (by with_reducible assumption) rfl | exact sz_le (by with_reducible assumption) rfl | omega | (simp only [List.size_toArray]; omega)) ?_; intro g'; k_extra "my comp")))
  k_with "exec For Name" => ((k_here; (rename Fr _ _ _ _ => lF'); (with_unfolding_all refine' For_invVF lF' ?k1 ?k2 ?_; (case k1 => exact rfl); (case k2 => exact rfl); k_whole)))
  k_with "exec For Name Call cons nil" => ((k_here; (rename Fr _ _ _ _ => lF'); (with_unfolding_all refine' For_invVF lF' ?k1 ?k2 ?_; (case k1 => exact rfl); (case k2 => exact rfl); k_whole)))
  k_with "exec For Name Name cons nil" => ((k_here; (rename Fr _ _ _ _ => lF'); (with_unfolding_all refine' For_invVF lF' ?k1 ?k2 ?_; (case k1 => exact rfl); (case k2 => exact rfl); k_whole)))
  k_with "pyIter ref" => ((k_here; k_dflt k_extra "my loop"))
  k_with "LpPost" => ((dsimp only [LpPost]))
  k_with "call builtin:list.append" => ((k_here; k_dflt (refine' append_K ?k1 ?k2 ?k3 ?_ ?z; (case k1 => k_asm); (case k2 => k_asm); (case k3 => k_upd); (case z => rw [PySem.sizeLine_eq]; simp only [List.size_toArray, List.length_append, List.length_cons, List.length_nil]; first | exact sz_el (by with_reducible assumption) (by with_reducible assumption) rfl | exact sz_ll (by with_reducible assumption) (by with_reducible assumption) rfl | exact sz_lt (by with_reducible assumption) rfl | exact sz_le (by with_reducible assumption) rfl | exact sz_eq (by with_reducible assumption) (by with_reducible assumption) rfl | exact Nat.le_of_ble_eq_true rfl | omega); k_whole); intro h' F' N'; (try k_sweep)))
  k_with "call type:range" => (((rename Fr _ _ _ _ => F'); (rename News _ _ _ _ => N'); first
    | (with_unfolding_all refine range1_rows F' N' ?_; intro _ _ _ _ _ _ _ _ _)
    | (with_unfolding_all refine range2_rows F' N' ?_; intro _ _ _ _ _ _ _ _ _)))
  k_with "binaryOp Mult int int" => ((k_here; (with_reducible refine mul_int ?kmm (IntMulOk.of_left (intBits_le_64 ?kma ?kmb))); (case kma => omega); (case kmb => omega)))
  k_with "storeName" => ((k_extra "nums"))
  k_with "getItem ref str" => ((k_here; k_dflt (refine' kdt_getItem (knd := PySem.strKind _ _) ?N ?b ?d (strKind_is _ _ _ _) ?v ?_; (case N => k_asm); (case b => k_mem); (case d => k_asm); (case v => assumption))))
  k_with "compareOp NotEq ref ref" => ((k_here; k_dflt k_extra "ne"))
  k_with "subscriptTail" => ((k_here; (with_reducible show wpAny _ _ (subscriptTail _ _ (Value.ref _) (Value.int _ _)) _ _ _); k_dflt (refine' item_fr ?N ?b ?D ?sa ?h0 ?hk ?hb ?_; (case N => k_asm); (case b => k_mem); (case D => assumption); (case sa => (intro p hp; k_mem)); (case h0 => omega); (case hk => first | (rw [rowQ_len]; omega) | (rw [PR_len, rowQ_len, rowQ_len]; omega) | omega); (case hb => omega)); intro aF' tF1' tF2' cF' mF'))
  k_with "subscriptTail Name BinOp ref int" => ((k_here; (with_reducible show wpAny _ _ (subscriptTail _ _ (Value.ref _) (Value.int _ _)) _ _ _); k_dflt (refine' item_fr ?N ?b ?D ?sa ?h0 ?hk ?hb ?_; (case N => k_asm); (case b => k_mem); (case D => assumption); (case sa => (intro p hp; k_mem)); (case h0 => omega); (case hk => first | (rw [rowQ_len]; omega) | (rw [PR_len, rowQ_len, rowQ_len]; omega) | omega); (case hb => omega)); intro aF' tF1' tF2' cF' mF'))
  k_with "subscriptTail Name Name ref int" => ((k_here; (with_reducible show wpAny _ _ (subscriptTail _ _ (Value.ref _) (Value.int _ _)) _ _ _); k_dflt (refine' item_fr ?N ?b ?D ?sa ?h0 ?hk ?hb ?_; (case N => k_asm); (case b => k_mem); (case D => assumption); (case sa => (intro p hp; k_mem)); (case h0 => omega); (case hk => first | (rw [rowQ_len]; omega) | (rw [PR_len, rowQ_len, rowQ_len]; omega) | omega); (case hb => omega)); intro aF' tF1' tF2' cF' mF'))
  k_with "subscriptTail Attribute" => ((k_here; (with_reducible show wpAny _ _ (subscriptTail _ _ (Value.ref _) (Value.int _ _)) _ _ _); k_dflt (refine kba_turn (value' := PySem.Expr.Name (PySem.Str.ofString "_") ⟨0, 0, 0, 0⟩) (fun _ => rfl) ?_; refine' item_fr ?N ?b ?D ?sa ?h0 ?hk ?hb ?_; (case N => k_asm); (case b => k_mem); (case D => assumption); (case sa => (intro p hp; k_mem)); (case h0 => omega); (case hk => first | (rw [rowQ_len]; omega) | (rw [PR_len, rowQ_len, rowQ_len]; omega) | omega); (case hb => omega)); intro aF' tF1' tF2' cF' mF'))
  k_with "my led" => (first | with_reducible exact led_nil | (refine' led_app ?hh9; (case hh9 => walk_at "my led")) | (refine' led_cons ?hh9; (case hh9 => walk_at "my led")))
  k_with "my hasc" => (first | with_reducible exact HasC.base | ((with_reducible refine HasC.app ?_); walk_at "my hasc") | ((with_reducible refine HasC.cons ?_); walk_at "my hasc"))
  k_with "my off" => (first | with_reducible exact Off7.nil | with_reducible assumption | (refine Off7.of (by with_reducible assumption) ?_; walk_at "my hasc") | ((with_reducible refine Off7.app ?ho9 ?ht9); (case ho9 => walk_at "my off"); (case ht9 => walk_at "my off")) | ((with_reducible refine Off7.blk ?ho9 ?ht9); (case ho9 => walk_at "my off"); (case ht9 => walk_at "my off")) | ((with_reducible refine Off7.lt ?ho9 ?ht9); (case ho9 => with_reducible assumption); (case ht9 => walk_at "my off")) | ((with_reducible refine Off7.each ?ha9 ?hb9 ?hc9 ?hd9 ?he9 ?hf9 ?hg9 ?ht9); (case ha9 => with_reducible assumption); (case hb9 => with_reducible assumption); (case hc9 => with_reducible assumption); (case hd9 => with_reducible assumption); (case he9 => with_reducible assumption); (case hf9 => with_reducible assumption); (case hg9 => with_reducible assumption); (case ht9 => walk_at "my off")) | ((with_reducible refine Off7.one ?ho9 ?ht9); (case ho9 => (refine Off7.of (by with_reducible assumption) ?_; walk_at "my hasc")); (case ht9 => walk_at "my off")))
  k_with "CompSrc" => ((k_here; k_dflt (refine LCg.CompSrc.range (by rfl) (by k_asm) (by k_asm) (by assumption) (by k_extra "cs small") (by k_extra "cs size") (by rw [PySem.sizeLine_eq]; first | exact sz_el (by with_reducible assumption) (by with_reducible assumption) rfl | exact sz_ll (by with_reducible assumption) (by with_reducible assumption) rfl | exact sz_lt (by with_reducible assumption) rfl | exact sz_le (by with_reducible assumption) rfl | exact sz_eq (by with_reducible assumption) (by with_reducible assumption) rfl | exact Nat.le_of_ble_eq_true rfl | omega) ?_; intro g'; k_extra "my comp")))
  k_with "call ref" => (k_here; (with_reducible show wpAny _ _ (call (Value.ref 556) _) _ _ _); k_dflt (refine' use_outer ?kP ?k1 ?k2 ?k3 ?k4 ?k5 ?kK (outer_tell _ _ _ _ _ _ _ _ _ _ _ ?hu ?hD ?hn _ _ ?hsu ?hau ?hSu ?hlu ?hnl _ _ _ _ _ _ ?hu2 ?hD2 ?hn2 _ _ ?hsu2 ?hau2 ?hSu2 ?hlu2 ?hnl2) ?kd ?ku ?_; (case k1 => k_asm); (case k2 => k_asm); (case k3 => k_asm); (case k4 => k_asm); (case k5 => k_asm); (case kK => first | exact rfl | assumption); (case kP => exact True.intro); (case hu => exact VecAt.mono (by with_reducible assumption) (by intro p hp; k_mem)); (case hD => k_mem); (case hn => exact NamesAt.mono (by with_reducible assumption) (by intro p hp; k_mem)); (case hau => assumption); (case hsu => (intro p hp; k_mem)); (case hSu => first | exact rowQ_sm | exact sumQ_sm rowQ_len rowQ_len rowQ_sm0 rowQ_sm0 | assumption); (case hlu => first | exact lt_eq (by with_reducible assumption) (by with_reducible assumption) rfl | exact lt_lt (by with_reducible assumption) rfl | exact lt_el (by with_reducible assumption) (by with_reducible assumption) rfl | exact lt_le (by with_reducible assumption) rfl | omega); (case hnl => first | exact NmOk.len (by with_reducible assumption) | exact NmOk.len nmOk_none); (case hu2 => exact VecAt.mono (by with_reducible assumption) (by intro p hp; k_mem)); (case hD2 => k_mem); (case hn2 => exact NamesAt.mono (by with_reducible assumption) (by intro p hp; k_mem)); (case hau2 => assumption); (case hsu2 => (intro p hp; k_mem)); (case hSu2 => first | exact rowQ_sm | exact sumQ_sm rowQ_len rowQ_len rowQ_sm0 rowQ_sm0 | assumption); (case hlu2 => first | exact lt_eq (by with_reducible assumption) (by with_reducible assumption) rfl | exact lt_lt (by with_reducible assumption) rfl | exact lt_el (by with_reducible assumption) (by with_reducible assumption) rfl | exact lt_le (by with_reducible assumption) rfl | omega); (case hnl2 => first | exact NmOk.len (by with_reducible assumption) | exact NmOk.len nmOk_none); (case kd => ktr_room); (case ku => first | exact hU 14 rfl | ktr_units); intro xo' Do' co' ado' vso' nmo' tl' h' tk' F' N' y' v' hmo' hdo' hlo' hMo' hNo'); (simp only [List.length_map, PR_len, rowQ_len, sumQ_len] at hlo'); (try simp only [List.cons_append, List.nil_append] at N'); (try dsimp only); (try k_fold))
  k_with "call ref" => (k_here; (with_reducible show wpAny _ _ (call (Value.ref 585) _) _ _ _); k_dflt (refine' use_vec ?kP ?k1 ?k2 ?k3 ?k4 ?k5 ?kK (vec0_tell _ _ _ _ _ _ _ _ ?hm ?hl) ?kd ?ku ?_; (case k1 => k_asm); (case k2 => k_asm); (case k3 => k_asm); (case k4 => k_asm); (case k5 => k_asm); (case kK => first | exact rfl | assumption); (case kP => exact True.intro); (case hm => k_mem); (case hl => omega); (case kd => ktr_room); (case ku => first | exact hU 4 rfl | ktr_units); intro x' D' c' at' tl' h' tk' F' N' y' v' m' n'); (try simp only [List.cons_append, List.nil_append] at N'); (try dsimp only); (try k_fold))
  k_with "call ref" => (k_here; (with_reducible show wpAny _ _ (call (Value.ref 599) _) _ _ _); k_dflt (refine' use_tup ?kP ?k1 ?k2 ?k3 ?k4 ?k5 ?kK (plus_tell _ _ _ _ _ _ _ _ _ _ ?hm ?hq _ _ _ _ _ ?hm2 ?hp) ?kd ?ku ?_; (case k1 => k_asm); (case k2 => k_asm); (case k3 => k_asm); (case k4 => k_asm); (case k5 => k_asm); (case kK => first | exact rfl | assumption); (case kP => exact True.intro); (case hm => k_mem); (case hq => k_extra "sm"); (case hm2 => k_mem); (case hp => k_extra "sm"); (case kd => ktr_room); (case ku => first | exact hU 6 rfl | ktr_units); intro D' u1' u2' c' h' tk' F' N' y'); (try simp only [List.cons_append, List.nil_append] at N'); (try dsimp only); (try k_fold))
  k_with "getAttr ref" => (k_here; (with_reducible show wpAny _ _ (getAttr (Value.ref _) (Str.ofString "kind") _) _ _ _); k_dflt (refine' get_kind ?g1 ?g2 ?g3 ?g4 ?g5 ?_; (case g1 => with_reducible assumption); (case g5 => k_asm); (case g2 => (intro p hp; k_mem)); (case g3 => k_asm); (case g4 => k_asm)); intro tg')
  k_with "getAttr ref" => (k_here; (with_reducible show wpAny _ _ (getAttr (Value.ref _) (Str.ofString "attrs") _) _ _ _); k_dflt (refine' get_attrs ?g1 ?g2 ?g3 ?g4 ?g5 ?g6 ?_; (case g1 => with_reducible assumption); (case g5 => k_asm); (case g2 => (intro p hp; k_mem)); (case g3 => k_asm); (case g4 => k_asm); (case g6 => k_handed)))
  k_with "getAttr ref" => (k_here; (with_reducible show wpAny _ _ (getAttr (Value.ref _) (Str.ofString "items") _) _ _ _); k_dflt (refine' get_items ?g1 ?g2 ?g3 ?g4 ?g5 ?_; (case g1 => with_reducible assumption); (case g5 => k_asm); (case g2 => (intro p hp; k_mem)); (case g3 => k_asm); (case g4 => k_asm)))
  k_with "execs cons Assign cons" => ((k_here; (with_reducible show wpAny _ _ (execs (Stmt.Assign [Expr.Name (Str.ofString "square") _] _ _ :: _) _) _ _ _); (refine Stop.mk ?_)))
  k_with "cs small" => first | exact small_nat (by omega) | exact small_mul (by omega)
  k_with "cs size" => first | exact size_mul _ _ | exact size_nat _
  k_with "sm" => first | exact row_sm (by omega) | exact PRrow_sm (by omega)
  k_with "ne" => (refine' ne_list ?N77 ?a77 ?b77 ?m77 ?s77 ?d77 ?t77 (sum_dat (as := rowQ ns 3 nl) (bs := rowQ ns 7 nl) (cs := rowQ ns 11 nw) rowQ_len rowQ_len rowQ_len (by omega) rowQ_sm0 rowQ_sm0 rowQ_sm0) frs_ok ?u77 ?_; (case N77 => k_asm); (case a77 => k_mem); (case b77 => k_mem); (case m77 => assumption); (case s77 => (intro p hp; k_mem)); (case d77 => assumption); (case t77 => (intro p hp; (try rw [List.append_nil] at hp); k_mem)); (case u77 => first | exact hV | ktr_units))
  k_with "my comp" => (refine' comp_range_dat (n := nl) [] (fun i => frD (plusQ ((rowQ ns 3 nl).getD i (0, 1)) ((rowQ ns 7 nl).getD i (0, 1)))) (fun i' t' I' oI' C' oC' D' m2' ys' tl' h' tk' E' hi' hD' hA' hC' hx' F' N' off' ne' => ?_) (fun ys' tl' hA' hD' => ?fin77); (all_goals (try k_fold)); (case' fin77 => (have hly' := hD'.length; simp only [List.length_map, List.length_range] at hly'; replace hD' := sum_of hD')))
  k_with "my comp" => (refine' comp_range_dat (n := nl * nw) [] (fun k => frD (plusQ ((PR (rowQ ns 3 nl) (rowQ ns 11 nw)).getD k (0, 1)) ((PR (rowQ ns 7 nl) (rowQ ns 11 nw)).getD k (0, 1)))) (fun i' t' I' oI' C' oC' D' m2' ys' tl' h' tk' E' hi' hD' hA' hC' hx' F' N' off' ne' => ?_) (fun ys' tl' hA' hD' => ?_); (all_goals (try k_fold)))
  k_steps
  all_goals (try with_reducible assumption)
  · (refine' turn_tup ?tF ?tN ?to ?ta True.intro ?te; (case tF => with_reducible assumption); (case tN => with_reducible assumption); (case to => with_reducible assumption); (case ta => with_reducible assumption); (case te => (rw [Int.zero_add, Int.toNat_natCast]; done)))
  rotate_left
  · (refine' turn_tup ?tF ?tN ?to ?ta True.intro ?te; (case tF => with_reducible assumption); (case tN => with_reducible assumption); (case to => with_reducible assumption); (case ta => with_reducible assumption); (case te => (rw [Int.zero_add, Int.toNat_natCast]; done)))
  rename Fr _ _ _ _ => lF'
  rename News _ _ _ _ => lN'
  unfold Stop
  (refine' next _ _ _ ?led77 _ _ (mmL_fr lF' ?e77 ?e78) (news_led lN' ?n77) ?o77 ?c7 ?s77)
  case e77 => rfl
  case e78 => rfl
  case n77 => walk_at "my led"
  case o77 => walk_at "my off"
  case s77 => (intro p hp; k_mem)
  case c7 => assumption
end
section
open PySem.Calls
set_option maxHeartbeats 1500000 in
theorem law_k5 {w : World} {mean : ExcName → Option Value} {mg mb : Str → Option Value} {l : Addr} {vs : List Value} {ns : List Int} (hi : IntsAre vs ns) (hl : ns.length < 64) {dp un : Nat} {gd : Option (List Code)} {outer : List Env} {base h₀ : Heap} {L : Addr} {s : Shared} {Q : Flow → Shared → Prop} {m u : Str → Option Value} {nl nw : Nat} {fa : Addr} {cd : Value}{led : Led} {x1 x2 xO : Addr} {vs1 vs2 vsO : List Value} {nm1 nmO : Option (List Dat)} {t1 t2 : Tok} {xF : Addr} {vsF : List Value}{D1 D2 DO : Addr} {k1 k2 kO : Nat} {at1 at2 atO : Value} {DF : Addr} {kF : Nat} {atF : Value}
    (PB : base.IsList l vs.toArray) (B : Below (lawA₁ dp un gd outer) base outer h₀) (X : (fr.heap_1 w.params).In h₀) (T : LTop mean mg mb h₀) (hdp : dp + 20 < recursionLimit) (hun : un + 20 * 20 + 100 < cLine)
    (F : Fr h₀ L s.heap (mmL l xO u)) {o1 o2 o3 o4 o5 o6 o7 : Obj} {c6 c7 : Option Value} (d1 : CellIs o1 (some (.int nl t1))) (d2 : CellIs o2 (some (.int nw t2))) (d3 : CellIs o3 (some (.ref x1))) (d4 : CellIs o4 (some (.ref x2))) (d5 : CellIs o5 (some (.ref xF))) (d6 : CellIs o6 c6) (d7 : CellIs o7 c7) (N : News h₀ L s.heap (led ++ cells7 L o1 o2 o3 o4 o5 o6 o7)) (off : Off7 L led)
    (v1 : VecAt w led x1 (Str.ofString "double") D1 at1) (m1 : (D1, listOf vs1.toArray k1) ∈ led) (n1 : NamesAt w led at1 nm1) (dd1 : DatAll led vs1 ((rowQ ns 3 nl).map frD)) (ok1 : NmOk nm1) (v2 : VecAt w led x2 (Str.ofString "double") D2 at2) (m2 : (D2, listOf vs2.toArray k2) ∈ led) (n2 : NamesAt w led at2 none) (dd2 : DatAll led vs2 ((rowQ ns 7 nl).map frD)) (vO : VecAt w led xO (Str.ofString "double") DO atO) (mO : (DO, listOf vsO.toArray kO) ∈ led) (nO : NamesAt w led atO nmO) (ddO : DatAll led vsO ((rowQ ns 11 nw).map frD)) (okO : NmOk nmO) (vF : VecAt w led xF (Str.ofString "double") DF atF) (mF : (DF, listOf vsF.toArray kF) ∈ led) (ddF : DatAll led vsF ((PR (rowQ ns 3 nl) (rowQ ns 11 nw)).map frD))
    (hnl : 1 + (cellV ns 0).fmod 4 = (nl : Int)) (hnl1 : 1 ≤ nl) (hnl2 : nl ≤ 4) (hnw : 1 + (cellV ns 1).fmod 4 = (nw : Int)) (hnw1 : 1 ≤ nw) (hnw2 : nw ≤ 4)
    (next : ∀ (u : Str → Option Value) (h' : Heap) (tk' : Nat) (led' : Led), Fr h₀ L h' (mmL l xO u) → News h₀ L h' (led' ++ cells7 L o1 o2 o3 o4 o5 o6 o7) → Off7 L led' → (∀ p ∈ led, p ∈ led') →
      wpAny (model LP w) (lawA fa cd dp un gd outer L) (execs (lawBody.drop 18) (lawE fa cd L)) Q (fun _ _ => False) { s with heap := h', toks := tk' }) :
    wpAny (model LP w) (lawA fa cd dp un gd outer L) (execs (lawBody.drop 16) (lawE fa cd L)) Q (fun _ _ => False) s := by
  have hU : ∀ j, Nat.ble (1 + j) 20 = true → un + 3 + 20 * j + 100 < cLine := fun j e => unF (n := 20) hun e
  have hV : un + 3 + 64 < cLine := unV hun
  have hln1 := dd1.length
  simp only [List.length_map, rowQ_len] at hln1
  have hln2 := dd2.length
  simp only [List.length_map, rowQ_len] at hln2
  have hlnO := ddO.length
  simp only [List.length_map, rowQ_len] at hlnO
  have hlnF := ddF.length
  simp only [List.length_map, rowQ_len, PR_len] at hlnF
  have hlw : nl * nw ≤ 16 := Nat.mul_le_mul hnl2 hnw2
  have hwl : nw * nl ≤ 16 := Nat.mul_le_mul hnw2 hnl2
  unfold cells7 at N
  unfold lawA lawE
  conv => arg 3; arg 1; whnf
  conv in lawScope => whnf
  dsimp only
  try k_fold
  k_with_none
  k_with "FinE" => (((unfold LCg.FinE); intro D' h' tk' F' N' o1'; (try simp only [off1_app, LCg.Off1, and_true, and_assoc] at o1'); (repeat (have hOf9 := And.left o1'; replace o1' := And.right o1')); (try simp only [List.nil_append, List.cons_append] at N'); (try dsimp only)))
  k_with "FinA" => (((unfold LCg.FinA); intro D' h' tk' F' N' o1'; (try simp only [off1_app, LCg.Off1, and_true, and_assoc] at o1'); (repeat (have hOf9 := And.left o1'; replace o1' := And.right o1')); (try simp only [List.nil_append, List.cons_append] at N'); (try dsimp only)))
  k_with "call type:list" => ((k_here; (with_reducible show wpAny _ _ (call (Value.type _) [Value.ref _]) _ _ _); k_dflt (refine' list_copyK ?F ?N (News.isList ?N2 ?b) ?_ ?z; (case F => k_asm); (case N => k_asm); (case N2 => k_asm); (case b => k_mem); (case z => rw [PySem.sizeLine_eq]; simp only [List.size_toArray, List.length_cons, List.length_nil]; first | exact sz_el (by with_reducible assumption) (by with_reducible assumption) rfl | exact sz_ll (by with_reducible assumption) (by with_reducible assumption) rfl | exact sz_lt (by with_reducible assumption) rfl | exact sz_le (by with_reducible assumption) rfl | exact sz_eq (by with_reducible assumption) (by with_reducible assumption) rfl | exact Nat.le_of_ble_eq_true rfl | omega)); intro D' c' h' F' N' l1; (try k_lt l1); (try k_sweep)))
  k_with "call builtin:isinstance" => ((k_here; k_dflt (refine' isi_call ?k1 ?k2 ?k3 ?k4 ?_; (case k1 => k_in); (case k2 => (intro M; exact InstAt.type (by k_inst))); (case k3 => k_is); (case k4 => intro e; cases e); k_whole)))
  k_with "getMethod ref" => ((k_here; (with_reducible show wpAny _ _ (getMethod (Value.ref _) (Str.ofString "get") _) _ _ _); k_dflt (refine kdg_method (knd := PySem.strKind _ _) (by k_asm) (by k_mem) (by k_asm) ?_)))
  k_with "call builtin:dict.get" => ((k_here; k_dflt (first
    | refine kdg_get1 (knd := PySem.strKind _ _) (by k_asm) (by k_mem) (by k_asm) (by k_asm) (strKind_is _ _ _ _) (some _) (by rfl) ?_
    | refine kdg_get1 (knd := PySem.strKind _ _) (by k_asm) (by k_mem) (by k_asm) (by k_asm) (strKind_is _ _ _ _) none (by rfl) ?_); (try dsimp only [Option.getD])))
  k_with "compareOp In str ref" => ((k_here; k_dflt (first
    | refine kda_in (knd := PySem.strKind _ _) (by k_asm) (by k_mem) (by k_asm) (by k_asm) (strKind_is _ _ _ _) true (by rfl) ?_
    | refine kda_in (knd := PySem.strKind _ _) (by k_asm) (by k_mem) (by k_asm) (by k_asm) (strKind_is _ _ _ _) false (by rfl) ?_)))
  k_with "compareOp NotIn str ref" => ((k_here; k_dflt (first
    | refine kdg_notin (knd := PySem.strKind _ _) (by k_asm) (by k_mem) (by k_asm) (by k_asm) (strKind_is _ _ _ _) true (by rfl) ?_
    | refine kdg_notin (knd := PySem.strKind _ _) (by k_asm) (by k_mem) (by k_asm) (by k_asm) (strKind_is _ _ _ _) false (by rfl) ?_); (try dsimp only [Bool.not_true, Bool.not_false])))
  k_with "subscriptTail" => ((k_here; (with_reducible show wpAny _ _ (subscriptTail _ _ (Value.ref _) (Value.str _ _)) _ _ _); k_dflt (first
    | refine kda_item (knd := PySem.strKind _ _) (by k_asm) (by k_mem) (by k_asm) (strKind_is _ _ _ _) (by rfl) ?_
    | refine kdt_tail (knd := PySem.strKind _ _) (by k_asm) (by k_mem) (by k_asm) ?_)))
  k_with "getItem ref str" => ((k_here; k_dflt (refine kdt_getItem (knd := PySem.strKind _ _) (by k_asm) (by k_mem) (by k_asm) (strKind_is _ _ _ _) (by rfl) ?_)))
  k_with "setItem ref str" => ((k_here; k_dflt (refine' kda_set (knd := PySem.strKind _ _) ?F ?N ?U ?d (strKind_is _ _ _ _) ?z ?_; (case F => k_asm); (case N => k_asm); (case U => k_updF); (case d => k_asm); (case z => rw [sizeLine_eq]; exact Nat.le_of_ble_eq_true (by with_unfolding_all rfl))); intro h' o' F' N' hd'; (try dsimp only at N')))
  k_with "call builtin:len" => ((k_here; (with_reducible show wpAny _ _ (call (Value.builtin "len") [Value.ref _]) _ _ _); k_dflt (refine' len_mem ?N ?b ?z ?_; (case N => k_asm); (case b => k_mem); (case z => omega))))
  k_with "eval ListComp" => ((k_here; k_dflt (refine LCg.ListComp_U (F₀ := by k_asm) (by with_unfolding_all rfl) (by decide) (by rfl) (by decide) (by rfl) ?_)))
  k_with "exec Assign cons ListComp" => ((k_here; k_dflt (refine LCg.Assign_ListComp_U (F₀ := by k_asm) (by rfl) (by with_unfolding_all rfl) (by with_unfolding_all rfl) (by decide) (by rfl) (by decide) (by rfl) (by rfl) (by rfl) ?_)))
  k_with "CompSrc" => ((k_here; (try k_fmods); k_dflt (refine LCg.CompSrc.range (by rfl) (by k_asm) (by k_asm) (by assumption) (by first | (with_reducible refine small_nat ?sm9; (case sm9 => first | exact lt_eq (by with_reducible assumption) (by with_reducible assumption) rfl | exact lt_lt (by with_reducible assumption) rfl | exact lt_el (by with_reducible assumption) (by with_reducible assumption) rfl | exact lt_le (by with_reducible assumption) rfl | omega)) | exact small_one (by kcf_bnd) (by kcf_bnd) (by kcf_bnd) (by kcf_bnd) | decide) (by first | exact rangeSize_nat _ _ | rfl) (by rw [PySem.sizeLine_eq]; first | exact sz_lt (by with_reducible assumption) rfl | exact sz_le (by with_reducible assumption) rfl | omega | (simp only [List.size_toArray]; omega)) ?_; intro g'; k_extra "my comp")))
  k_with "exec For Name" => ((k_here; (rename Fr _ _ _ _ => lF'); (with_unfolding_all refine' For_invVF lF' ?k1 ?k2 ?_; (case k1 => exact rfl); (case k2 => exact rfl); k_whole)))
  k_with "exec For Name Call cons nil" => ((k_here; (rename Fr _ _ _ _ => lF'); (with_unfolding_all refine' For_invVF lF' ?k1 ?k2 ?_; (case k1 => exact rfl); (case k2 => exact rfl); k_whole)))
  k_with "exec For Name Name cons nil" => ((k_here; (rename Fr _ _ _ _ => lF'); (with_unfolding_all refine' For_invVF lF' ?k1 ?k2 ?_; (case k1 => exact rfl); (case k2 => exact rfl); k_whole)))
  k_with "pyIter ref" => ((k_here; k_dflt k_extra "my loop"))
  k_with "LpPost" => ((dsimp only [LpPost]))
  k_with "call builtin:list.append" => ((k_here; k_dflt (refine' append_K ?k1 ?k2 ?k3 ?_ ?z; (case k1 => k_asm); (case k2 => k_asm); (case k3 => k_upd); (case z => rw [PySem.sizeLine_eq]; simp only [List.size_toArray, List.length_append, List.length_cons, List.length_nil]; first | exact sz_el (by with_reducible assumption) (by with_reducible assumption) rfl | exact sz_ll (by with_reducible assumption) (by with_reducible assumption) rfl | exact sz_lt (by with_reducible assumption) rfl | exact sz_le (by with_reducible assumption) rfl | exact sz_eq (by with_reducible assumption) (by with_reducible assumption) rfl | exact Nat.le_of_ble_eq_true rfl | omega); k_whole); intro h' F' N'; (try k_sweep)))
  k_with "call type:range" => (((rename Fr _ _ _ _ => F'); (rename News _ _ _ _ => N'); first
    | (with_unfolding_all refine range1_rows F' N' ?_; intro _ _ _ _ _ _ _ _ _)
    | (with_unfolding_all refine range2_rows F' N' ?_; intro _ _ _ _ _ _ _ _ _)))
  k_with "binaryOp Mult int int" => ((k_here; (with_reducible refine mul_int ?kmm (IntMulOk.of_left (intBits_le_64 ?kma ?kmb))); (case kma => omega); (case kmb => omega)))
  k_with "storeName" => ((k_extra "nums"))
  k_with "getItem ref str" => ((k_here; k_dflt (refine' kdt_getItem (knd := PySem.strKind _ _) ?N ?b ?d (strKind_is _ _ _ _) ?v ?_; (case N => k_asm); (case b => k_mem); (case d => k_asm); (case v => assumption))))
  k_with "compareOp NotEq ref ref" => ((k_here; k_dflt k_extra "ne"))
  k_with "subscriptTail" => ((k_here; (with_reducible show wpAny _ _ (subscriptTail _ _ (Value.ref _) (Value.int _ _)) _ _ _); k_dflt (refine' item_fr ?N ?b ?D ?sa ?h0 ?hk ?hb ?_; (case N => k_asm); (case b => k_mem); (case D => assumption); (case sa => (intro p hp; k_mem)); (case h0 => omega); (case hk => first | (rw [rowQ_len]; omega) | (rw [PR_len, rowQ_len, rowQ_len]; omega) | omega); (case hb => omega)); intro aF' tF1' tF2' cF' mF'))
  k_with "subscriptTail Name BinOp ref int" => ((k_here; (with_reducible show wpAny _ _ (subscriptTail _ _ (Value.ref _) (Value.int _ _)) _ _ _); k_dflt (refine' item_fr ?N ?b ?D ?sa ?h0 ?hk ?hb ?_; (case N => k_asm); (case b => k_mem); (case D => assumption); (case sa => (intro p hp; k_mem)); (case h0 => omega); (case hk => first | (rw [rowQ_len]; omega) | (rw [PR_len, rowQ_len, rowQ_len]; omega) | omega); (case hb => omega)); intro aF' tF1' tF2' cF' mF'))
  k_with "subscriptTail Name Name ref int" => ((k_here; (with_reducible show wpAny _ _ (subscriptTail _ _ (Value.ref _) (Value.int _ _)) _ _ _); k_dflt (refine' item_fr ?N ?b ?D ?sa ?h0 ?hk ?hb ?_; (case N => k_asm); (case b => k_mem); (case D => assumption); (case sa => (intro p hp; k_mem)); (case h0 => omega); (case hk => first | (rw [rowQ_len]; omega) | (rw [PR_len, rowQ_len, rowQ_len]; omega) | omega); (case hb => omega)); intro aF' tF1' tF2' cF' mF'))
  k_with "subscriptTail Attribute" => ((k_here; (with_reducible show wpAny _ _ (subscriptTail _ _ (Value.ref _) (Value.int _ _)) _ _ _); k_dflt (refine kba_turn (value' := PySem.Expr.Name (PySem.Str.ofString "_") ⟨0, 0, 0, 0⟩) (fun _ => rfl) ?_; refine' item_fr ?N ?b ?D ?sa ?h0 ?hk ?hb ?_; (case N => k_asm); (case b => k_mem); (case D => assumption); (case sa => (intro p hp; k_mem)); (case h0 => omega); (case hk => first | (rw [rowQ_len]; omega) | (rw [PR_len, rowQ_len, rowQ_len]; omega) | omega); (case hb => omega)); intro aF' tF1' tF2' cF' mF'))
  k_with "my led" => (first | with_reducible exact led_nil | (refine' led_app ?hh9; (case hh9 => walk_at "my led")) | (refine' led_cons ?hh9; (case hh9 => walk_at "my led")))
  k_with "my hasc" => (first | with_reducible exact HasC.base | ((with_reducible refine HasC.app ?_); walk_at "my hasc") | ((with_reducible refine HasC.cons ?_); walk_at "my hasc"))
  k_with "my off" => (first | with_reducible exact Off7.nil | with_reducible assumption | (refine Off7.of (by with_reducible assumption) ?_; walk_at "my hasc") | ((with_reducible refine Off7.app ?ho9 ?ht9); (case ho9 => walk_at "my off"); (case ht9 => walk_at "my off")) | ((with_reducible refine Off7.blk ?ho9 ?ht9); (case ho9 => walk_at "my off"); (case ht9 => walk_at "my off")) | ((with_reducible refine Off7.lt ?ho9 ?ht9); (case ho9 => with_reducible assumption); (case ht9 => walk_at "my off")) | ((with_reducible refine Off7.each ?ha9 ?hb9 ?hc9 ?hd9 ?he9 ?hf9 ?hg9 ?ht9); (case ha9 => with_reducible assumption); (case hb9 => with_reducible assumption); (case hc9 => with_reducible assumption); (case hd9 => with_reducible assumption); (case he9 => with_reducible assumption); (case hf9 => with_reducible assumption); (case hg9 => with_reducible assumption); (case ht9 => walk_at "my off")) | ((with_reducible refine Off7.one ?ho9 ?ht9); (case ho9 => (refine Off7.of (by with_reducible assumption) ?_; walk_at "my hasc")); (case ht9 => walk_at "my off")))
  k_with "CompSrc" => ((k_here; k_dflt (refine LCg.CompSrc.range (by rfl) (by k_asm) (by k_asm) (by assumption) (by k_extra "cs small") (by k_extra "cs size") (by rw [PySem.sizeLine_eq]; first | exact sz_el (by with_reducible assumption) (by with_reducible assumption) rfl | exact sz_ll (by with_reducible assumption) (by with_reducible assumption) rfl | exact sz_lt (by with_reducible assumption) rfl | exact sz_le (by with_reducible assumption) rfl | exact sz_eq (by with_reducible assumption) (by with_reducible assumption) rfl | exact Nat.le_of_ble_eq_true rfl | omega) ?_; intro g'; k_extra "my comp")))
  k_with "call ref" => (k_here; (with_reducible show wpAny _ _ (call (Value.ref 556) _) _ _ _); k_dflt (refine' use_outer ?kP ?k1 ?k2 ?k3 ?k4 ?k5 ?kK (outer_tell _ _ _ _ _ _ _ _ _ _ _ ?hu ?hD ?hn _ _ ?hsu ?hau ?hSu ?hlu ?hnl _ _ _ _ _ _ ?hu2 ?hD2 ?hn2 _ _ ?hsu2 ?hau2 ?hSu2 ?hlu2 ?hnl2) ?kd ?ku ?_; (case k1 => k_asm); (case k2 => k_asm); (case k3 => k_asm); (case k4 => k_asm); (case k5 => k_asm); (case kK => first | exact rfl | assumption); (case kP => exact True.intro); (case hu => exact VecAt.mono (by with_reducible assumption) (by intro p hp; k_mem)); (case hD => k_mem); (case hn => exact NamesAt.mono (by with_reducible assumption) (by intro p hp; k_mem)); (case hau => assumption); (case hsu => (intro p hp; k_mem)); (case hSu => first | exact rowQ_sm | exact sumQ_sm rowQ_len rowQ_len rowQ_sm0 rowQ_sm0 | assumption); (case hlu => first | exact lt_eq (by with_reducible assumption) (by with_reducible assumption) rfl | exact lt_lt (by with_reducible assumption) rfl | exact lt_el (by with_reducible assumption) (by with_reducible assumption) rfl | exact lt_le (by with_reducible assumption) rfl | omega); (case hnl => first | exact NmOk.len (by with_reducible assumption) | exact NmOk.len nmOk_none); (case hu2 => exact VecAt.mono (by with_reducible assumption) (by intro p hp; k_mem)); (case hD2 => k_mem); (case hn2 => exact NamesAt.mono (by with_reducible assumption) (by intro p hp; k_mem)); (case hau2 => assumption); (case hsu2 => (intro p hp; k_mem)); (case hSu2 => first | exact rowQ_sm | exact sumQ_sm rowQ_len rowQ_len rowQ_sm0 rowQ_sm0 | assumption); (case hlu2 => first | exact lt_eq (by with_reducible assumption) (by with_reducible assumption) rfl | exact lt_lt (by with_reducible assumption) rfl | exact lt_el (by with_reducible assumption) (by with_reducible assumption) rfl | exact lt_le (by with_reducible assumption) rfl | omega); (case hnl2 => first | exact NmOk.len (by with_reducible assumption) | exact NmOk.len nmOk_none); (case kd => ktr_room); (case ku => first | exact hU 14 rfl | ktr_units); intro xo' Do' co' ado' vso' nmo' tl' h' tk' F' N' y' v' hmo' hdo' hlo' hMo' hNo'); (simp only [List.length_map, PR_len, rowQ_len, sumQ_len] at hlo'); (try k_extra "mat"); (try simp only [List.cons_append, List.nil_append] at N'); (try dsimp only); (try k_fold))
  k_with "call ref" => (k_here; (with_reducible show wpAny _ _ (call (Value.ref 585) _) _ _ _); k_dflt (refine' use_vec ?kP ?k1 ?k2 ?k3 ?k4 ?k5 ?kK (vec0_tell _ _ _ _ _ _ _ _ ?hm ?hl) ?kd ?ku ?_; (case k1 => k_asm); (case k2 => k_asm); (case k3 => k_asm); (case k4 => k_asm); (case k5 => k_asm); (case kK => first | exact rfl | assumption); (case kP => exact True.intro); (case hm => k_mem); (case hl => omega); (case kd => ktr_room); (case ku => first | exact hU 4 rfl | ktr_units); intro x' D' c' at' tl' h' tk' F' N' y' v' m' n'); (try simp only [List.cons_append, List.nil_append] at N'); (try dsimp only); (try k_fold))
  k_with "call ref" => (k_here; (with_reducible show wpAny _ _ (call (Value.ref 592) _) _ _ _); k_dflt (refine' use_tup ?kP ?k1 ?k2 ?k3 ?k4 ?k5 ?kK (times_tell _ _ _ _ _ _ _ _ _ _ ?hm ?hq _ _ _ _ _ ?hm2 ?hp) ?kd ?ku ?_; (case k1 => k_asm); (case k2 => k_asm); (case k3 => k_asm); (case k4 => k_asm); (case k5 => k_asm); (case kK => first | exact rfl | assumption); (case kP => exact True.intro); (case hm => k_mem); (case hq => k_extra "sm"); (case hm2 => k_mem); (case hp => k_extra "sm"); (case kd => ktr_room); (case ku => first | exact hU 6 rfl | ktr_units); intro D' u1' u2' c' h' tk' F' N' y'); (try simp only [List.cons_append, List.nil_append] at N'); (try dsimp only); (try k_fold))
  k_with "call ref" => (k_here; (with_reducible show wpAny _ _ (call (Value.ref 542) _) _ _ _); k_dflt (refine' use_diag ?kP ?k1 ?k2 ?k3 ?k4 ?k5 ?kK (diag_tell _ _ _ _ _ _ _ _ _ _ _ _ ?hv ?hD ?hM ?hl ?hn ?hm) ?kd ?ku ?_; (case k1 => k_asm); (case k2 => k_asm); (case k3 => k_asm); (case k4 => k_asm); (case k5 => k_asm); (case kK => first | exact rfl | assumption); (case kP => exact True.intro); (case hv => exact VecAt.mono (by with_reducible assumption) (by intro p hp; k_mem)); (case hD => k_mem); (case hM => exact MatA.mono (by with_reducible assumption) (by intro p hp; k_mem)); (case hl => first | assumption | exact DG_len); (case hn => first | exact lt_eq (by with_reducible assumption) (by with_reducible assumption) rfl | exact lt_lt (by with_reducible assumption) rfl | exact lt_el (by with_reducible assumption) (by with_reducible assumption) rfl | exact lt_le (by with_reducible assumption) rfl | omega); (case hm => first | exact lt_eq (by with_reducible assumption) (by with_reducible assumption) rfl | exact lt_lt (by with_reducible assumption) rfl | exact lt_el (by with_reducible assumption) (by with_reducible assumption) rfl | exact lt_le (by with_reducible assumption) rfl | omega); (case kd => ktr_room); (case ku => first | exact hU 9 rfl | ktr_units); intro x' D' c' tl' h' tk' F' N' y' v' m'); (try simp only [List.cons_append, List.nil_append] at N'); (try dsimp only); (try k_fold))
  k_with "getAttr ref" => (k_here; (with_reducible show wpAny _ _ (getAttr (Value.ref _) (Str.ofString "kind") _) _ _ _); k_dflt (refine' get_kind ?g1 ?g2 ?g3 ?g4 ?g5 ?_; (case g1 => with_reducible assumption); (case g5 => k_asm); (case g2 => (intro p hp; k_mem)); (case g3 => k_asm); (case g4 => k_asm)); intro tg')
  k_with "getAttr ref" => (k_here; (with_reducible show wpAny _ _ (getAttr (Value.ref _) (Str.ofString "attrs") _) _ _ _); k_dflt (refine' get_attrs ?g1 ?g2 ?g3 ?g4 ?g5 ?g6 ?_; (case g1 => with_reducible assumption); (case g5 => k_asm); (case g2 => (intro p hp; k_mem)); (case g3 => k_asm); (case g4 => k_asm); (case g6 => k_handed)))
  k_with "getAttr ref" => (k_here; (with_reducible show wpAny _ _ (getAttr (Value.ref _) (Str.ofString "items") _) _ _ _); k_dflt (refine' get_items ?g1 ?g2 ?g3 ?g4 ?g5 ?_; (case g1 => with_reducible assumption); (case g5 => k_asm); (case g2 => (intro p hp; k_mem)); (case g3 => k_asm); (case g4 => k_asm)))
  k_with "execs cons Assign cons" => ((k_here; (with_reducible show wpAny _ _ (execs (Stmt.Assign [Expr.Name (Str.ofString "rows") _] _ _ :: _) _) _ _ _); (refine Stop.mk ?_)))
  k_with "cs small" => exact small_nat (by omega)
  k_with "cs size" => exact size_nat _
  k_with "sm" => exact row_sm (by omega)
  k_with "mat" => ((rename MatA _ _ _ _ _ _ => hM9); (rename NmsR _ _ _ => hN9); (have e9 := NmsR.plainEq hN9); subst e9; (rw [hln1, hln2] at hM9))
  k_with "ne" => (refine' ne_list ?N77 ?a77 ?b77 (diag_dat (as := rowQ ns 3 nl) (bs := rowQ ns 7 nl) rowQ_len rowQ_len ?m77) ?s77 ?d77 ?t77 rfl frs_ok2 ?u77 ?_; (case N77 => k_asm); (case a77 => k_mem); (case b77 => k_mem); (case m77 => assumption); (case s77 => (intro p hp; k_mem)); (case d77 => assumption); (case t77 => (intro p hp; (try rw [List.append_nil] at hp); k_mem)); (case u77 => first | exact hV | ktr_units))
  k_with "my comp" => (refine' comp_range_dat (n := nl) [] (fun i => frD (timesQ ((rowQ ns 3 nl).getD i (0, 1)) ((rowQ ns 7 nl).getD i (0, 1)))) (fun i' t' I' oI' C' oC' D' m2' ys' tl' h' tk' E' hi' hD' hA' hC' hx' F' N' off' ne' => ?_) (fun ys' tl' hA' hD' => ?_); (all_goals (try k_fold)))
  k_steps
  all_goals (try with_reducible assumption)
  · (refine' turn_tup ?tF ?tN ?to ?ta True.intro ?te; (case tF => with_reducible assumption); (case tN => with_reducible assumption); (case to => with_reducible assumption); (case ta => with_reducible assumption); (case te => (rw [Int.zero_add, Int.toNat_natCast]; done)))
  rename Fr _ _ _ _ => lF'
  rename News _ _ _ _ => lN'
  unfold Stop
  (refine' next _ _ _ ?led77 (mmL_fr lF' ?e77 ?e78) (news_led lN' ?n77) ?o77 ?s77)
  case e77 => rfl
  case e78 => rfl
  case n77 => walk_at "my led"
  case o77 => walk_at "my off"
  case s77 => (intro p hp; k_mem)
end
section
open PySem.Calls
set_option maxHeartbeats 1500000 in
theorem law_k6 {w : World} {mean : ExcName → Option Value} {mg mb : Str → Option Value} {l : Addr} {vs : List Value} {ns : List Int} (hi : IntsAre vs ns) (hl : ns.length < 64) {dp un : Nat} {gd : Option (List Code)} {outer : List Env} {base h₀ : Heap} {L : Addr} {s : Shared} {Q : Flow → Shared → Prop} {m u : Str → Option Value} {nl nw : Nat} {fa : Addr} {cd : Value}{led : Led} {x1 x2 xO : Addr} {vs1 vs2 vsO : List Value} {nm1 nmO : Option (List Dat)} {t1 t2 : Tok} {xF : Addr} {vsF : List Value}{D1 D2 DO : Addr} {k1 k2 kO : Nat} {at1 at2 atO : Value} {DF : Addr} {kF : Nat} {atF : Value}
    (PB : base.IsList l vs.toArray) (B : Below (lawA₁ dp un gd outer) base outer h₀) (X : (fr.heap_1 w.params).In h₀) (T : LTop mean mg mb h₀) (hdp : dp + 20 < recursionLimit) (hun : un + 20 * 20 + 100 < cLine)
    (F : Fr h₀ L s.heap (mmL l xO u)) {o1 o2 o3 o4 o5 o6 o7 : Obj} {c6 c7 : Option Value} (d1 : CellIs o1 (some (.int nl t1))) (d2 : CellIs o2 (some (.int nw t2))) (d3 : CellIs o3 (some (.ref x1))) (d4 : CellIs o4 (some (.ref x2))) (d5 : CellIs o5 (some (.ref xF))) (d6 : CellIs o6 c6) (d7 : CellIs o7 c7) (N : News h₀ L s.heap (led ++ cells7 L o1 o2 o3 o4 o5 o6 o7)) (off : Off7 L led)
    (v1 : VecAt w led x1 (Str.ofString "double") D1 at1) (m1 : (D1, listOf vs1.toArray k1) ∈ led) (n1 : NamesAt w led at1 nm1) (dd1 : DatAll led vs1 ((rowQ ns 3 nl).map frD)) (ok1 : NmOk nm1) (v2 : VecAt w led x2 (Str.ofString "double") D2 at2) (m2 : (D2, listOf vs2.toArray k2) ∈ led) (n2 : NamesAt w led at2 none) (dd2 : DatAll led vs2 ((rowQ ns 7 nl).map frD)) (vO : VecAt w led xO (Str.ofString "double") DO atO) (mO : (DO, listOf vsO.toArray kO) ∈ led) (nO : NamesAt w led atO nmO) (ddO : DatAll led vsO ((rowQ ns 11 nw).map frD)) (okO : NmOk nmO) (vF : VecAt w led xF (Str.ofString "double") DF atF) (mF : (DF, listOf vsF.toArray kF) ∈ led) (ddF : DatAll led vsF ((PR (rowQ ns 3 nl) (rowQ ns 11 nw)).map frD))
    (hnl : 1 + (cellV ns 0).fmod 4 = (nl : Int)) (hnl1 : 1 ≤ nl) (hnl2 : nl ≤ 4) (hnw : 1 + (cellV ns 1).fmod 4 = (nw : Int)) (hnw1 : 1 ≤ nw) (hnw2 : nw ≤ 4)
    {nr nc : Nat} (hnr : (cellV ns 15).fmod 5 = (nr : Int)) (hnr1 : nr ≤ 4) (hnc : (cellV ns 16).fmod 5 = (nc : Int)) (hnc1 : nc ≤ 4)
    (next : ∀ (u : Str → Option Value) (h' : Heap) (tk' : Nat) (led' : Led), Fr h₀ L h' u → News h₀ L h' led' → Q (.ret (.bool true)) { s with heap := h', toks := tk' }) :
    wpAny (model LP w) (lawA fa cd dp un gd outer L) (execs (lawBody.drop 18) (lawE fa cd L)) Q (fun _ _ => False) s := by
  have hU : ∀ j, Nat.ble (1 + j) 20 = true → un + 3 + 20 * j + 100 < cLine := fun j e => unF (n := 20) hun e
  have hV : un + 3 + 64 < cLine := unV hun
  have hln1 := dd1.length
  simp only [List.length_map, rowQ_len] at hln1
  have hln2 := dd2.length
  simp only [List.length_map, rowQ_len] at hln2
  have hlnO := ddO.length
  simp only [List.length_map, rowQ_len] at hlnO
  have hlnF := ddF.length
  simp only [List.length_map, rowQ_len, PR_len] at hlnF
  have hlw : nl * nw ≤ 16 := Nat.mul_le_mul hnl2 hnw2
  have hwl : nw * nl ≤ 16 := Nat.mul_le_mul hnw2 hnl2
  have hrc : nr * nc ≤ 16 := Nat.mul_le_mul hnr1 hnc1
  unfold cells7 at N
  unfold lawA lawE
  conv => arg 3; arg 1; whnf
  conv in lawScope => whnf
  dsimp only
  try k_fold
  k_with_none
  k_with "FinE" => (((unfold LCg.FinE); intro D' h' tk' F' N' o1'; (try simp only [off1_app, LCg.Off1, and_true, and_assoc] at o1'); (repeat (have hOf9 := And.left o1'; replace o1' := And.right o1')); (try simp only [List.nil_append, List.cons_append] at N'); (try dsimp only)))
  k_with "FinA" => (((unfold LCg.FinA); intro D' h' tk' F' N' o1'; (try simp only [off1_app, LCg.Off1, and_true, and_assoc] at o1'); (repeat (have hOf9 := And.left o1'; replace o1' := And.right o1')); (try simp only [List.nil_append, List.cons_append] at N'); (try dsimp only)))
  k_with "call type:list" => ((k_here; (with_reducible show wpAny _ _ (call (Value.type _) [Value.ref _]) _ _ _); k_dflt (refine' list_copyK ?FZ7 ?NZ7 (News.isList ?N2Z7 ?bZ7) ?_ ?zZ7; (case FZ7 => k_asm); (case NZ7 => k_asm); (case N2Z7 => k_asm); (case bZ7 => k_mem); (case zZ7 => rw [PySem.sizeLine_eq]; simp only [List.size_toArray, List.length_cons, List.length_nil]; first | exact sz_el (by with_reducible assumption) (by with_reducible assumption) rfl | exact sz_ll (by with_reducible assumption) (by with_reducible assumption) rfl | exact sz_lt (by with_reducible assumption) rfl | exact sz_le (by with_reducible assumption) rfl | exact sz_eq (by with_reducible assumption) (by with_reducible assumption) rfl | exact Nat.le_of_ble_eq_true rfl | omega)); intro D' c' h' F' N' l1; (try k_lt l1); (try k_sweep)))
  k_with "call builtin:isinstance" => ((k_here; k_dflt (refine' isi_call ?k1Z7 ?k2Z7 ?k3Z7 ?k4Z7 ?_; (case k1Z7 => k_in); (case k2Z7 => (intro M; exact InstAt.type (by k_inst))); (case k3Z7 => k_is); (case k4Z7 => intro e; cases e); k_whole)))
  k_with "getMethod ref" => ((k_here; (with_reducible show wpAny _ _ (getMethod (Value.ref _) (Str.ofString "get") _) _ _ _); k_dflt (refine kdg_method (knd := PySem.strKind _ _) (by k_asm) (by k_mem) (by k_asm) ?_)))
  k_with "call builtin:dict.get" => ((k_here; k_dflt (first
    | refine kdg_get1 (knd := PySem.strKind _ _) (by k_asm) (by k_mem) (by k_asm) (by k_asm) (strKind_is _ _ _ _) (some _) (by rfl) ?_
    | refine kdg_get1 (knd := PySem.strKind _ _) (by k_asm) (by k_mem) (by k_asm) (by k_asm) (strKind_is _ _ _ _) none (by rfl) ?_); (try dsimp only [Option.getD])))
  k_with "compareOp In str ref" => ((k_here; k_dflt (first
    | refine kda_in (knd := PySem.strKind _ _) (by k_asm) (by k_mem) (by k_asm) (by k_asm) (strKind_is _ _ _ _) true (by rfl) ?_
    | refine kda_in (knd := PySem.strKind _ _) (by k_asm) (by k_mem) (by k_asm) (by k_asm) (strKind_is _ _ _ _) false (by rfl) ?_)))
  k_with "compareOp NotIn str ref" => ((k_here; k_dflt (first
    | refine kdg_notin (knd := PySem.strKind _ _) (by k_asm) (by k_mem) (by k_asm) (by k_asm) (strKind_is _ _ _ _) true (by rfl) ?_
    | refine kdg_notin (knd := PySem.strKind _ _) (by k_asm) (by k_mem) (by k_asm) (by k_asm) (strKind_is _ _ _ _) false (by rfl) ?_); (try dsimp only [Bool.not_true, Bool.not_false])))
  k_with "subscriptTail" => ((k_here; (with_reducible show wpAny _ _ (subscriptTail _ _ (Value.ref _) (Value.str _ _)) _ _ _); k_dflt (first
    | refine kda_item (knd := PySem.strKind _ _) (by k_asm) (by k_mem) (by k_asm) (strKind_is _ _ _ _) (by rfl) ?_
    | refine kdt_tail (knd := PySem.strKind _ _) (by k_asm) (by k_mem) (by k_asm) ?_)))
  k_with "getItem ref str" => ((k_here; k_dflt (refine kdt_getItem (knd := PySem.strKind _ _) (by k_asm) (by k_mem) (by k_asm) (strKind_is _ _ _ _) (by rfl) ?_)))
  k_with "setItem ref str" => ((k_here; k_dflt (refine' kda_set (knd := PySem.strKind _ _) ?FZ7 ?NZ7 ?UZ7 ?dZ7 (strKind_is _ _ _ _) ?zZ7 ?_; (case FZ7 => k_asm); (case NZ7 => k_asm); (case UZ7 => k_updF); (case dZ7 => k_asm); (case zZ7 => rw [sizeLine_eq]; exact Nat.le_of_ble_eq_true (by with_unfolding_all rfl))); intro h' o' F' N' hd'; (try dsimp only at N')))
  k_with "call builtin:len" => ((k_here; (with_reducible show wpAny _ _ (call (Value.builtin "len") [Value.ref _]) _ _ _); k_dflt (refine' len_mem ?NZ7 ?bZ7 ?zZ7 ?_; (case NZ7 => k_asm); (case bZ7 => k_mem); (case zZ7 => omega))))
  k_with "eval ListComp" => ((k_here; k_dflt (refine LCg.ListComp_U (F₀ := by k_asm) (by with_unfolding_all rfl) (by decide) (by rfl) (by decide) (by rfl) ?_)))
  k_with "exec Assign cons ListComp" => ((k_here; k_dflt (refine LCg.Assign_ListComp_U (F₀ := by k_asm) (by rfl) (by with_unfolding_all rfl) (by with_unfolding_all rfl) (by decide) (by rfl) (by decide) (by rfl) (by rfl) (by rfl) ?_)))
  k_with "CompSrc" => ((k_here; (try k_fmods); k_dflt (refine LCg.CompSrc.range (by rfl) (by k_asm) (by k_asm) (by assumption) (by first | (with_reducible refine small_nat ?sm9; (case sm9 => first | exact lt_eq (by with_reducible assumption) (by with_reducible assumption) rfl | exact lt_lt (by with_reducible assumption) rfl | exact lt_el (by with_reducible assumption) (by with_reducible assumption) rfl | exact lt_le (by with_reducible assumption) rfl | omega)) | exact small_one (by kcf_bnd) (by kcf_bnd) (by kcf_bnd) (by kcf_bnd) | decide) (by first | exact rangeSize_nat _ _ | rfl) (by rw [PySem.sizeLine_eq]; first | exact sz_lt (by with_reducible assumption) rfl | exact sz_le (by with_reducible assumption) rfl | omega | (simp only [List.size_toArray]; omega)) ?_; intro g'; k_extra "my comp")))
  k_with "exec For Name" => ((k_here; (rename Fr _ _ _ _ => lF'); (with_unfolding_all refine' For_invVF lF' ?k1Z7 ?k2Z7 ?_; (case k1Z7 => exact rfl); (case k2Z7 => exact rfl); k_whole)))
  k_with "exec For Name Call cons nil" => ((k_here; (rename Fr _ _ _ _ => lF'); (with_unfolding_all refine' For_invVF lF' ?k1Z7 ?k2Z7 ?_; (case k1Z7 => exact rfl); (case k2Z7 => exact rfl); k_whole)))
  k_with "exec For Name Name cons nil" => ((k_here; (rename Fr _ _ _ _ => lF'); (with_unfolding_all refine' For_invVF lF' ?k1Z7 ?k2Z7 ?_; (case k1Z7 => exact rfl); (case k2Z7 => exact rfl); k_whole)))
  k_with "pyIter ref" => ((k_here; k_dflt k_extra "my loop"))
  k_with "LpPost" => ((dsimp only [LpPost]))
  k_with "call builtin:list.append" => ((k_here; k_dflt (refine' append_K ?k1Z7 ?k2Z7 ?k3Z7 ?_ ?zZ7; (case k1Z7 => k_asm); (case k2Z7 => k_asm); (case k3Z7 => k_upd); (case zZ7 => rw [PySem.sizeLine_eq]; simp only [List.size_toArray, List.length_append, List.length_cons, List.length_nil]; first | exact sz_el (by with_reducible assumption) (by with_reducible assumption) rfl | exact sz_ll (by with_reducible assumption) (by with_reducible assumption) rfl | exact sz_lt (by with_reducible assumption) rfl | exact sz_le (by with_reducible assumption) rfl | exact sz_eq (by with_reducible assumption) (by with_reducible assumption) rfl | exact Nat.le_of_ble_eq_true rfl | omega); k_whole); intro h' F' N'; (try k_sweep)))
  k_with "call type:range" => (((rename Fr _ _ _ _ => F'); (rename News _ _ _ _ => N'); first
    | (with_unfolding_all refine range1_rows F' N' ?_; intro _ _ _ _ _ _ _ _ _)
    | (with_unfolding_all refine range2_rows F' N' ?_; intro _ _ _ _ _ _ _ _ _)))
  k_with "binaryOp Mult int int" => ((k_here; (with_reducible refine mul_int ?kmmZ7 (IntMulOk.of_left (intBits_le_64 ?kmaZ7 ?kmbZ7))); (case kmaZ7 => omega); (case kmbZ7 => omega)))
  k_with "storeName" => ((k_extra "nums"))
  k_with "getItem ref str" => ((k_here; k_dflt (refine' kdt_getItem (knd := PySem.strKind _ _) ?NZ7 ?bZ7 ?dZ7 (strKind_is _ _ _ _) ?vZ7 ?_; (case NZ7 => k_asm); (case bZ7 => k_mem); (case dZ7 => k_asm); (case vZ7 => assumption))))
  k_with "compareOp NotEq ref ref" => ((k_here; k_dflt k_extra "ne"))
  k_with "subscriptTail" => ((k_here; (with_reducible show wpAny _ _ (subscriptTail _ _ (Value.ref _) (Value.int _ _)) _ _ _); k_dflt (first | k_extra "dg" | (refine' item_raw ?NZ7 ?bZ7 ?h0Z7 ?hkZ7 ?hbZ7 ?_; (case NZ7 => k_asm); (case bZ7 => k_mem); (case h0Z7 => omega); (case hkZ7 => omega); (case hbZ7 => omega)))))
  k_with "subscriptTail Name BinOp ref int" => ((k_here; (with_reducible show wpAny _ _ (subscriptTail _ _ (Value.ref _) (Value.int _ _)) _ _ _); k_dflt (first | k_extra "dg" | (refine' item_raw ?NZ7 ?bZ7 ?h0Z7 ?hkZ7 ?hbZ7 ?_; (case NZ7 => k_asm); (case bZ7 => k_mem); (case h0Z7 => omega); (case hkZ7 => omega); (case hbZ7 => omega)))))
  k_with "subscriptTail Name Name ref int" => ((k_here; (with_reducible show wpAny _ _ (subscriptTail _ _ (Value.ref _) (Value.int _ _)) _ _ _); k_dflt (first | k_extra "dg" | (refine' item_raw ?NZ7 ?bZ7 ?h0Z7 ?hkZ7 ?hbZ7 ?_; (case NZ7 => k_asm); (case bZ7 => k_mem); (case h0Z7 => omega); (case hkZ7 => omega); (case hbZ7 => omega)))))
  k_with "subscriptTail Attribute" => ((k_here; (with_reducible show wpAny _ _ (subscriptTail _ _ (Value.ref _) (Value.int _ _)) _ _ _); k_dflt (refine kba_turn (value' := PySem.Expr.Name (PySem.Str.ofString "_") ⟨0, 0, 0, 0⟩) (fun _ => rfl) ?_; first | k_extra "dg" | (refine' item_raw ?NZ7 ?bZ7 ?h0Z7 ?hkZ7 ?hbZ7 ?_; (case NZ7 => k_asm); (case bZ7 => k_mem); (case h0Z7 => omega); (case hkZ7 => omega); (case hbZ7 => omega)))))
  k_with "my led" => (first | with_reducible exact led_nil | (refine' led_app ?hh9Z7; (case hh9Z7 => walk_at "my led")) | (refine' led_cons ?hh9Z7; (case hh9Z7 => walk_at "my led")))
  k_with "my hasc" => (first | with_reducible exact HasC.base | ((with_reducible refine HasC.app ?_); walk_at "my hasc") | ((with_reducible refine HasC.cons ?_); walk_at "my hasc"))
  k_with "my off" => (first | with_reducible exact Off7.nil | with_reducible assumption | (refine Off7.of (by with_reducible assumption) ?_; walk_at "my hasc") | ((with_reducible refine Off7.app ?ho9Z7 ?ht9Z7); (case ho9Z7 => walk_at "my off"); (case ht9Z7 => walk_at "my off")) | ((with_reducible refine Off7.blk ?ho9Z7 ?ht9Z7); (case ho9Z7 => walk_at "my off"); (case ht9Z7 => walk_at "my off")) | ((with_reducible refine Off7.lt ?ho9Z7 ?ht9Z7); (case ho9Z7 => with_reducible assumption); (case ht9Z7 => walk_at "my off")) | ((with_reducible refine Off7.each ?ha9Z7 ?hb9Z7 ?hc9Z7 ?hd9Z7 ?he9Z7 ?hf9Z7 ?hg9Z7 ?ht9Z7); (case ha9Z7 => with_reducible assumption); (case hb9Z7 => with_reducible assumption); (case hc9Z7 => with_reducible assumption); (case hd9Z7 => with_reducible assumption); (case he9Z7 => with_reducible assumption); (case hf9Z7 => with_reducible assumption); (case hg9Z7 => with_reducible assumption); (case ht9Z7 => walk_at "my off")) | ((with_reducible refine Off7.one ?ho9Z7 ?ht9Z7); (case ho9Z7 => (refine Off7.of (by with_reducible assumption) ?_; walk_at "my hasc")); (case ht9Z7 => walk_at "my off")))
  k_with "CompSrc" => ((k_here; k_dflt (refine LCg.CompSrc.range (by rfl) (by k_asm) (by k_asm) (by assumption) (by k_extra "cs small") (by k_extra "cs size") (by rw [PySem.sizeLine_eq]; first | exact sz_el (by with_reducible assumption) (by with_reducible assumption) rfl | exact sz_ll (by with_reducible assumption) (by with_reducible assumption) rfl | exact sz_lt (by with_reducible assumption) rfl | exact sz_le (by with_reducible assumption) rfl | exact sz_eq (by with_reducible assumption) (by with_reducible assumption) rfl | exact Nat.le_of_ble_eq_true rfl | omega) ?_; intro g'; k_extra "my comp")))
  k_with "call ref" => (k_here; (with_reducible show wpAny _ _ (call (Value.ref 568) _) _ _ _); k_dflt (refine' use_int ?kPZ7 ?k1Z7 ?k2Z7 ?k3Z7 ?k4Z7 ?k5Z7 ?kKZ7 (cell_tell _ _ _ _ _ _ _ _ ?hiZ7 ?hlZ7 _ _ ?h0Z7) ?kdZ7 ?kuZ7 ?_; (case k1Z7 => k_asm); (case k2Z7 => k_asm); (case k3Z7 => k_asm); (case k4Z7 => k_asm); (case k5Z7 => k_asm); (case kKZ7 => first | exact rfl | assumption); (case kPZ7 => assumption); (case hiZ7 => assumption); (case hlZ7 => first | assumption | omega); (case h0Z7 => omega); (case kdZ7 => ktr_room); (case kuZ7 => first | exact hU 2 rfl | ktr_units); intro t' h' tk' F' N'); (try simp only [List.cons_append, List.nil_append] at N'); (try dsimp only); (try k_fold))
  k_with "call ref" => (k_here; (with_reducible show wpAny _ _ (call (Value.ref 542) _) _ _ _); k_dflt (refine' use_diag ?kPZ7 ?k1Z7 ?k2Z7 ?k3Z7 ?k4Z7 ?k5Z7 ?kKZ7 (diag_tell _ _ _ _ _ _ _ _ _ _ _ _ ?hvZ7 ?hDZ7 ?hMZ7 ?hlZ7 ?hnZ7 ?hmZ7) ?kdZ7 ?kuZ7 ?_; (case k1Z7 => k_asm); (case k2Z7 => k_asm); (case k3Z7 => k_asm); (case k4Z7 => k_asm); (case k5Z7 => k_asm); (case kKZ7 => first | exact rfl | assumption); (case kPZ7 => exact True.intro); (case hvZ7 => exact VecAt.mono (by with_reducible assumption) (by intro p hp; k_mem)); (case hDZ7 => k_mem); (case hMZ7 => exact MatA.mono (by with_reducible assumption) (by intro p hp; k_mem)); (case hlZ7 => first | assumption | exact DG_len); (case hnZ7 => first | exact lt_eq (by with_reducible assumption) (by with_reducible assumption) rfl | exact lt_lt (by with_reducible assumption) rfl | exact lt_el (by with_reducible assumption) (by with_reducible assumption) rfl | exact lt_le (by with_reducible assumption) rfl | omega); (case hmZ7 => first | exact lt_eq (by with_reducible assumption) (by with_reducible assumption) rfl | exact lt_lt (by with_reducible assumption) rfl | exact lt_el (by with_reducible assumption) (by with_reducible assumption) rfl | exact lt_le (by with_reducible assumption) rfl | omega); (case kdZ7 => ktr_room); (case kuZ7 => first | exact hU 9 rfl | ktr_units); intro x' D' c' tl' h' tk' F' N' y' v' m'); (try simp only [List.cons_append, List.nil_append] at N'); (try dsimp only); (try k_fold))
  k_with "call ref" => (k_here; (with_reducible show wpAny _ _ (call (Value.ref 549) _) _ _ _); k_dflt (refine' use_dm ?kPZ7 ?k1Z7 ?k2Z7 ?k3Z7 ?k4Z7 ?k5Z7 ?kKZ7 (dmat_tell _ _ _ _ _ _ _ _ _ _ _ _ _ _ ?hvZ7 ?hDZ7 ?hlZ7 ?hl2Z7 ?hnZ7 ?hmZ7) ?kdZ7 ?kuZ7 ?_; (case k1Z7 => k_asm); (case k2Z7 => k_asm); (case k3Z7 => k_asm); (case k4Z7 => k_asm); (case k5Z7 => k_asm); (case kKZ7 => first | exact rfl | assumption); (case kPZ7 => exact True.intro); (case hvZ7 => first | exact VecAt.mono (by with_reducible assumption) (by intro p hp; k_mem) | exact ⟨_, _, _, _, _, _, _, _, _, (by k_mem), (by k_mem)⟩); (case hDZ7 => k_mem); (case hlZ7 => first | exact lt_eq (by with_reducible assumption) (by with_reducible assumption) rfl | exact lt_lt (by with_reducible assumption) rfl | exact lt_el (by with_reducible assumption) (by with_reducible assumption) rfl | exact lt_le (by with_reducible assumption) rfl | omega); (case hl2Z7 => first | exact lt_eq (by with_reducible assumption) (by with_reducible assumption) rfl | exact lt_lt (by with_reducible assumption) rfl | exact lt_el (by with_reducible assumption) (by with_reducible assumption) rfl | exact lt_le (by with_reducible assumption) rfl | omega); (case hnZ7 => first | exact lt_eq (by with_reducible assumption) (by with_reducible assumption) rfl | exact lt_lt (by with_reducible assumption) rfl | exact lt_el (by with_reducible assumption) (by with_reducible assumption) rfl | exact lt_le (by with_reducible assumption) rfl | omega); (case hmZ7 => first | exact lt_eq (by with_reducible assumption) (by with_reducible assumption) rfl | exact lt_lt (by with_reducible assumption) rfl | exact lt_el (by with_reducible assumption) (by with_reducible assumption) rfl | exact lt_le (by with_reducible assumption) rfl | omega); (case kdZ7 => ktr_room); (case kuZ7 => first | exact hU 14 rfl | ktr_units); intro x' D' c' ad' tl' h' tk' F' N' y' v' m' hMo'); (k_extra "dims"); (try simp only [List.cons_append, List.nil_append] at N'); (try dsimp only); (try k_fold))
  k_with "dims" => ((rename MatA _ _ _ _ _ _ => hM9); (obtain ⟨oA', prs', xd', Dd', td1', td2', cd', hA1', hA2', hA3', hA4', hA5'⟩ := MatA.dim hM9))
  k_with "getAttr ref" => (k_here; (with_reducible show wpAny _ _ (getAttr (Value.ref _) (Str.ofString "kind") _) _ _ _); k_dflt (refine' get_kind ?g1Z7 ?g2Z7 ?g3Z7 ?g4Z7 ?g5Z7 ?_; (case g1Z7 => with_reducible assumption); (case g5Z7 => k_asm); (case g2Z7 => (intro p hp; k_mem)); (case g3Z7 => k_asm); (case g4Z7 => k_asm)); intro tg')
  k_with "getAttr ref" => (k_here; (with_reducible show wpAny _ _ (getAttr (Value.ref _) (Str.ofString "attrs") _) _ _ _); k_dflt (refine' get_attrs ?g1Z7 ?g2Z7 ?g3Z7 ?g4Z7 ?g5Z7 ?g6Z7 ?_; (case g1Z7 => with_reducible assumption); (case g5Z7 => k_asm); (case g2Z7 => (intro p hp; k_mem)); (case g3Z7 => k_asm); (case g4Z7 => k_asm); (case g6Z7 => k_handed)))
  k_with "getAttr ref" => (k_here; (with_reducible show wpAny _ _ (getAttr (Value.ref _) (Str.ofString "items") _) _ _ _); k_dflt (refine' get_items ?g1Z7 ?g2Z7 ?g3Z7 ?g4Z7 ?g5Z7 ?_; (case g1Z7 => with_reducible assumption); (case g5Z7 => k_asm); (case g2Z7 => (intro p hp; k_mem)); (case g3Z7 => k_asm); (case g4Z7 => k_asm)))
  k_with "nums" => first | rw [hnr] | rw [hnc]
  k_with "cs small" => first | exact small_min (by omega) (by omega) | exact small_nat (by omega)
  k_with "cs size" => first | exact size_min _ _ | exact size_nat _
  k_with "ne" => first
    | (refine' ne_two2 ?N77 ?a77 ?b77 ?e77 ?f77 ?u77 ?_; (case N77 => k_asm); (case a77 => k_mem); (case b77 => k_mem); (case e77 => rfl); (case f77 => rfl); (case u77 => first | exact hV | ktr_units))
    | (refine' ne_list ?N77 ?a77 ?b77 (due_dat (nr := nr) (mm := nc) (as := rowQ ns 3 nl) rowQ_len (by omega) dd1) ?s77 ?d77 ?t77 rfl frs_ok2 ?u77 ?_; (case N77 => k_asm); (case a77 => k_mem); (case b77 => k_mem); (case s77 => (intro p hp; k_mem)); (case d77 => assumption); (case t77 => (intro p hp; (rcases List.mem_append.mp hp with hp | hp <;> k_mem))); (case u77 => first | exact hV | ktr_units))
    | (refine' ne_zero ?X77 ?F77 ?N77 ?b77 ?u77 ?_; (case X77 => assumption); (case F77 => assumption); (case N77 => k_asm); (case b77 => k_mem); (case u77 => first | exact hV | ktr_units))
  k_with "dg" => (refine' item_dg (nr := nr) (mm := nc) ?N78 ?b78 ?k78 ?j78 ?c78 ?e78 ?_; (case N78 => k_asm); (case b78 => k_mem); (case k78 => exact Int.zero_add _); (case j78 => assumption); (case c78 => omega); (case e78 => (intro e9; (rename @Ne Int _ _ => hne9); apply hne9; rw [hg1', hg2', e9])))
  k_with "my comp" => (refine' comp_range_dat (n := min nr nc) led (fun p => frD ((rowQ ns 3 nl).getD (p % nl) (0, 1))) (fun i' t' I' oI' C' oC' D' m2' ys' tl' h' tk' E' hi' hD' hA' hC' hx' F' N' off' ne' => ?turn77) (fun ys' tl' hA' hD' => ?_); (all_goals (try k_fold)); (case' turn77 => (obtain ⟨hmo1', hmo2'⟩ := mod_facts (j := i') (show 0 < nl by omega))))
  k_with "my loop" => ((rename Fr _ _ _ _ => lF'); (rename News _ _ _ _ => lN'); (refine' grow_range (x := Str.ofString "at") (n := nr * nc) [] rfl ?hr77 ?hs77 ?hn77 lF' lN' (fun i' t' u' tl' I' oI' h' tk' hv' ha' F' N' o1' o2' => ?turn78) (fun u' tl' h' tk' ha' F' N' => ?_)); (case hr77 => assumption); (case hs77 => exact small_mul (by omega)); (case hn77 => exact size_mul _ _); (all_goals (try k_fold)); (case' turn78 => (obtain ⟨hg0', hg1', hg2'⟩ := turn_facts hv')))
  k_steps
  all_goals (try with_reducible assumption)
  · rename Fr _ _ _ _ => F9
    rename News _ _ _ _ => N9
    rename LCg.Off3 _ _ _ _ => off9
    exact turn_old F9 N9 off9 True.intro (due_item dd1 rowQ_len (by omega))
  · rename Fr _ _ _ _ => F9
    rename News _ _ _ _ => N9
    (exact grow_end (tl1 := []) F9 (fun p hp => N9 p (List.mem_cons_of_mem _ hp)) (Apart.nil _) o1' o2' ha' lj_same)
  · rename Fr _ _ _ _ => F9
    rename News _ _ _ _ => N9
    (exact grow_end (tl1 := []) F9 N9 (Apart.nil _) o1' o2' ha' lj_same)
  · rename Fr _ _ _ _ => F9
    rename News _ _ _ _ => N9
    exact next _ _ _ _ F9 N9
end
section
open PySem.Calls PyProof.V PySem.Spec
theorem law_body {w : World} {mean : ExcName → Option Value} {mg mb : Str → Option Value} {l : Addr} {vs : List Value} {ns : List Int} (hi : IntsAre vs ns) (hl : ns.length < 64) {dp un : Nat} {gd : Option (List Code)} {outer : List Env} {base h₀ : Heap} {L : Addr} {s : Shared} {Q : Flow → Shared → Prop} {m : Str → Option Value} {fa : Addr} {cd : Value}
    (PB : base.IsList l vs.toArray) (B : Below (lawA₁ dp un gd outer) base outer h₀) (X : (fr.heap_1 w.params).In h₀) (T : LTop mean mg mb h₀) (hdp : dp + 20 < recursionLimit) (hun : un + 20 * 20 + 100 < cLine)
    (F : Fr h₀ L s.heap m) (hm : m (Str.ofString "script") = some (.ref l)) {o1 o2 o3 o4 o5 o6 o7 : Obj} {c1 c2 c3 c4 c5 c6 c7 : Option Value} (d1 : CellIs o1 c1) (d2 : CellIs o2 c2) (d3 : CellIs o3 c3) (d4 : CellIs o4 c4) (d5 : CellIs o5 c5) (d6 : CellIs o6 c6) (d7 : CellIs o7 c7) (N : News h₀ L s.heap (cells7 L o1 o2 o3 o4 o5 o6 o7))
    (next : ∀ (u : Str → Option Value) (h' : Heap) (tk' : Nat) (led' : Led), Fr h₀ L h' u → News h₀ L h' led' → Q (.ret (.bool true)) { s with heap := h', toks := tk' }) :
    wpAny (model LP w) (lawA fa cd dp un gd outer L) (execs (lawBody.drop 0) (lawE fa cd L)) Q (fun _ _ => False) s := by
  obtain ⟨nl, hnl, hnl1, hnl2⟩ := cell4 ns 0
  obtain ⟨nw, hnw, hnw1, hnw2⟩ := cell4 ns 1
  obtain ⟨nr, hnr, hnr1⟩ := cell5 ns 15
  obtain ⟨nc, hnc, hnc1⟩ := cell5 ns 16
  refine law_k1 (m := m) (u := m) hi hl PB B X T hdp hun F hm d1 d2 d3 d4 d5 d6 d7 N hnl hnl1 hnl2 hnw hnw1 hnw2 ?_
  intro u1 g1 j1 e1 x1 x2 xO D1 D2 DO k1 k2 kO at1 at2 atO vs1 vs2 vsO nm1 nmO o1 o2 o3 o4 t1 t2 F1 N1 off1 d1 d2 d3 d4 V1 m1 n1 q1 ok1 V2 m2 n2 q2 VO mO nO qO okO
  refine law_k2 (m := m) hi hl PB B X T hdp hun F1 d1 d2 d3 d4 d5 d6 d7 N1 off1 V1 m1 n1 q1 ok1 V2 m2 n2 q2 VO mO nO qO okO hnl hnl1 hnl2 hnw hnw1 hnw2 ?_
  intro u2 g2 j2 e2 xF DF kF atF vsF o5 F2 N2 off2 d5 s2 VF mF qF
  refine law_k3 (m := m) hi hl PB B X T hdp hun F2 d1 d2 d3 d4 d5 d6 d7 N2 off2 (V1.mono s2) (s2 _ m1) (n1.mono s2) (DatAll.mono s2 q1) ok1 (V2.mono s2) (s2 _ m2) (n2.mono s2) (DatAll.mono s2 q2) (VO.mono s2) (s2 _ mO) (nO.mono s2) (DatAll.mono s2 qO) okO VF mF qF hnl hnl1 hnl2 hnw hnw1 hnw2 ?_
  intro u3 g3 j3 e3 o6 c6 F3 N3 off3 d6 s3
  refine law_k4 (m := m) hi hl PB B X T hdp hun F3 d1 d2 d3 d4 d5 d6 d7 N3 off3 ((V1.mono s2).mono s3) (s3 _ (s2 _ m1)) ((n1.mono s2).mono s3) (DatAll.mono s3 (DatAll.mono s2 q1)) ok1 ((V2.mono s2).mono s3) (s3 _ (s2 _ m2)) ((n2.mono s2).mono s3) (DatAll.mono s3 (DatAll.mono s2 q2)) ((VO.mono s2).mono s3) (s3 _ (s2 _ mO)) ((nO.mono s2).mono s3) (DatAll.mono s3 (DatAll.mono s2 qO)) okO (VF.mono s3) (s3 _ mF) (DatAll.mono s3 qF) hnl hnl1 hnl2 hnw hnw1 hnw2 ?_
  intro u4 g4 j4 e4 o7 c7 F4 N4 off4 d7 s4
  refine law_k5 (m := m) hi hl PB B X T hdp hun F4 d1 d2 d3 d4 d5 d6 d7 N4 off4 (((V1.mono s2).mono s3).mono s4) (s4 _ (s3 _ (s2 _ m1))) (((n1.mono s2).mono s3).mono s4) (DatAll.mono s4 (DatAll.mono s3 (DatAll.mono s2 q1))) ok1 (((V2.mono s2).mono s3).mono s4) (s4 _ (s3 _ (s2 _ m2))) (((n2.mono s2).mono s3).mono s4) (DatAll.mono s4 (DatAll.mono s3 (DatAll.mono s2 q2))) (((VO.mono s2).mono s3).mono s4) (s4 _ (s3 _ (s2 _ mO))) (((nO.mono s2).mono s3).mono s4) (DatAll.mono s4 (DatAll.mono s3 (DatAll.mono s2 qO))) okO ((VF.mono s3).mono s4) (s4 _ (s3 _ mF)) (DatAll.mono s4 (DatAll.mono s3 qF)) hnl hnl1 hnl2 hnw hnw1 hnw2 ?_
  intro u5 g5 j5 e5 F5 N5 off5 s5
  refine law_k6 (m := m) hi hl PB B X T hdp hun F5 d1 d2 d3 d4 d5 d6 d7 N5 off5 ((((V1.mono s2).mono s3).mono s4).mono s5) (s5 _ (s4 _ (s3 _ (s2 _ m1)))) ((((n1.mono s2).mono s3).mono s4).mono s5) (DatAll.mono s5 (DatAll.mono s4 (DatAll.mono s3 (DatAll.mono s2 q1)))) ok1 ((((V2.mono s2).mono s3).mono s4).mono s5) (s5 _ (s4 _ (s3 _ (s2 _ m2)))) ((((n2.mono s2).mono s3).mono s4).mono s5) (DatAll.mono s5 (DatAll.mono s4 (DatAll.mono s3 (DatAll.mono s2 q2)))) ((((VO.mono s2).mono s3).mono s4).mono s5) (s5 _ (s4 _ (s3 _ (s2 _ mO)))) ((((nO.mono s2).mono s3).mono s4).mono s5) (DatAll.mono s5 (DatAll.mono s4 (DatAll.mono s3 (DatAll.mono s2 qO)))) okO (((VF.mono s3).mono s4).mono s5) (s5 _ (s4 _ (s3 _ mF))) (DatAll.mono s5 (DatAll.mono s4 (DatAll.mono s3 qF))) hnl hnl1 hnl2 hnw hnw1 hnw2 hnr hnr1 hnc hnc1 ?_
  exact next
end
section
open PySem.Calls PyProof.V PySem.Spec
local macro_rules | `(tactic| k_qdec) => `(tactic| first | exact names_ok | exact no_imports)
set_option maxHeartbeats 1500000 in
theorem law_try : PySem.Challenge.rw_pq1329_01.Holds := by
  refine holds_law said fun _ => ?_
  refine holds_open (q := vw) (loose := TL) (Xt := Xw) (XP := XL vw []) (Yf := Hook.obs kh) (Ya := Hook.val kh) (YP := Hook.says kh) (N := 6940) left (Hook.of kh) (Hook.keeps kh) (fun s e => xl_of s (Bool.and_eq_true_iff.mp e).1) XL.keeps (by rfl) (by rfl) (by rfl)
    (fun s e => recFacts_of (Bool.and_eq_true_iff.mp e).2) (by rfl) said_row row_ok ⟨rfl, rfl, rfl, rfl, rfl, by decide +kernel⟩ ?hw ?hc
  case hw => w_witness2
  k_go0
  (all_goals try k_fold)
  rename IntsAre _ _ => hI
  rename ¬ ((63 : Nat) : Int) < _ => h63
  rename Fr _ _ _ _ => lF'
  rename News _ _ _ _ => lN'
  (refine' wpAny_mono (law_body (dp := 1 + claimMargin) (un := 4) (gd := some []) (outer := []) hI ?l99 ?p99 ?b99 ?x99 ?t99 ?h99 ?u99 lF' ?m99 ?d1 ?d2 ?d3 ?d4 ?d5 ?d6 ?d7 lN' ?next99) (fun _ _ h => h) (fun _ _ h => h.elim))
  case l99 => omega
  case b99 => assumption
  case p99 => assumption
  case x99 => assumption
  case t99 => assumption
  case h99 => decide
  case u99 => decide
  case m99 => rfl
  case d1 => assumption
  case d2 => assumption
  case d3 => assumption
  case d4 => assumption
  case d5 => assumption
  case d6 => assumption
  case d7 => assumption
  case next99 =>
    intro u9 h9 tk9 led9 F9 N9
    k_steps
end
end Mine
theorem PySem.Challenge.cw_pq1329_01_holds : PySem.Challenge.rw_pq1329_01.Holds :=
  Mine.law_try
