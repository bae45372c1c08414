import PyProof.Rows.All
import Wide.All
import OpenK.AllK
import Wide.FinOn
import PySem.Challenge.RW_nz0286_01
open PySem PySem.W PyProof.Rows
set_option Elab.async false
set_option maxRecDepth 100000
set_option maxHeartbeats 8000000
open_top Mine.hd for PySem.Challenge.rw_nz0286_01
namespace Mine
local macro_rules | `(tactic| walk_at $s:str) => `(tactic| k_extra $s)
local macro_rules | `(tactic| k_all) => `(tactic| assumption)
/-- the four titles of the menu -/
def nm : Nat → PySem.Str
  | 0 => PySem.Str.ofString "flags"
  | 1 => PySem.Str.ofString "uid"
  | 2 => PySem.Str.ofString "rfc822.size"
  | _ => PySem.Str.ofString "modseq"
def itemD (k : Nat) : PyData := .tuple [.str (nm k)]

/-- what a ref reads as, told of any heap that keeps the base and holds the ledger's part t -/
def Rd (h₀ : Heap) (t : List (Addr × Obj)) (a : Addr) (d : PyData) : Prop :=
  ∀ h : Heap, (∀ b o, h₀.get? b = some o → h.get? b = some o) → (∀ p ∈ t, h.get? p.1 = some p.2) → Reads h (.ref a) d []
theorem Rd.base {h₀ g : Heap} {t : List (Addr × Obj)} {a : Addr} {d : PyData} (r : Rd h₀ t a d) (k : ∀ b o, h₀.get? b = some o → g.get? b = some o) : Rd g t a d :=
  fun h kh ht => r h (fun b o e => kh b o (k b o e)) ht
theorem Rd.led {h₀ : Heap} {t t' : List (Addr × Obj)} {a : Addr} {d : PyData} (r : Rd h₀ t a d) (k : ∀ p ∈ t, p ∈ t') : Rd h₀ t' a d :=
  fun h kh ht => r h kh (fun p hp => ht p (k p hp))
theorem Rd.at {h₀ h : Heap} {L : Addr} {m : PySem.Str → Option Value} {t news : List (Addr × Obj)} {a : Addr} {d : PyData} (r : Rd h₀ t a d) (F : Fr h₀ L h m) (N : News h₀ L h news) (hs : ∀ p ∈ t, p ∈ news) : Reads h (.ref a) d [] :=
  r h F.keep (fun p hp => (N p (hs p hp)).1)

/-- a list of refs, item by item -/
inductive Its (h₀ : Heap) (t : List (Addr × Obj)) : List Addr → List Nat → Prop
  | nil : Its h₀ t [] []
  | cons {a : Addr} {k : Nat} {ws : List Addr} {ks : List Nat} : k < 4 → Rd h₀ t a (itemD k) → Its h₀ t ws ks → Its h₀ t (a :: ws) (k :: ks)
theorem Its.base {h₀ g : Heap} {t : List (Addr × Obj)} {ws : List Addr} {ks : List Nat} (r : Its h₀ t ws ks) (k : ∀ b o, h₀.get? b = some o → g.get? b = some o) : Its g t ws ks := by
  induction r with
  | nil => exact .nil
  | cons hk h _ ih => exact .cons hk (h.base k) ih
theorem Its.led {h₀ : Heap} {t t' : List (Addr × Obj)} {ws : List Addr} {ks : List Nat} (r : Its h₀ t ws ks) (k : ∀ p ∈ t, p ∈ t') : Its h₀ t' ws ks := by
  induction r with
  | nil => exact .nil
  | cons hk h _ ih => exact .cons hk (h.led k) ih
theorem Its.length {h₀ : Heap} {t : List (Addr × Obj)} {ws : List Addr} {ks : List Nat} (r : Its h₀ t ws ks) : ws.length = ks.length := by
  induction r with
  | nil => rfl
  | cons _ _ _ ih => rw [List.length_cons, List.length_cons, ih]
theorem Its.append {h₀ : Heap} {t : List (Addr × Obj)} {ws vs : List Addr} {ks js : List Nat} (r : Its h₀ t ws ks) (q : Its h₀ t vs js) : Its h₀ t (ws ++ vs) (ks ++ js) := by
  induction r with
  | nil => exact q
  | cons hk h _ ih => exact .cons hk h ih
theorem Its.get {h₀ : Heap} {t : List (Addr × Obj)} {ws : List Addr} {ks : List Nat} (r : Its h₀ t ws ks) {i : Nat} {a : Addr} (h : ws[i]? = some a) : ∃ k, ks[i]? = some k ∧ k < 4 ∧ Rd h₀ t a (itemD k) := by
  induction r generalizing i with
  | nil => cases h
  | cons hk hr _ ih =>
    cases i with
    | zero => cases h; exact ⟨_, rfl, hk, hr⟩
    | succ i => exact ih h
def refs (ws : List Addr) : List Value := ws.map Value.ref
theorem refs_length (ws : List Addr) : (refs ws).length = ws.length := List.length_map ..
theorem refs_get {ws : List Addr} {i : Nat} {v : Value} (h : (refs ws)[i]? = some v) : ∃ a, v = .ref a ∧ ws[i]? = some a := by
  unfold refs at h
  rw [List.getElem?_map] at h
  cases e : ws[i]? with
  | none => rw [e] at h; cases h
  | some a => rw [e] at h; cases h; exact ⟨a, rfl, rfl⟩
theorem Its.reads {h₀ : Heap} {t : List (Addr × Obj)} {ws : List Addr} {ks : List Nat} (r : Its h₀ t ws ks) (h : Heap) (kh : ∀ b o, h₀.get? b = some o → h.get? b = some o) (ht : ∀ p ∈ t, h.get? p.1 = some p.2) : ReadsAll h (refs ws) (ks.map itemD) [] := by
  induction r with
  | nil => exact .nil
  | cons hk hr _ ih => exact ReadsAll.cons (hr h kh ht) ih

theorem tup_reads {h : Heap} {a : Addr} {ds : List PyData} (r : Reads h (.ref a) (.tuple ds) []) : ∃ vs, IsTup h a vs.toArray ∧ ReadsAll h vs ds [] := by
  cases r with
  | tuple h1 h2 h3 h4 => exact ⟨_, ⟨_, h1, h2, _, by rw [Array.toArray_toList]; exact h3⟩, h4⟩
theorem item_tup {h : Heap} {a : Addr} {k : Nat} (r : Reads h (.ref a) (itemD k) []) : ∃ tk, IsTup h a (List.toArray [.str (nm k) tk]) := by
  obtain ⟨vs, ht, hr⟩ := tup_reads r
  generalize hd : [PyData.str (nm k)] = ds at hr
  generalize ha : ([] : List Addr) = as at hr
  cases hr with
  | nil => cases hd
  | cons h1 h2 =>
    cases hd
    cases h2
    cases h1
    exact ⟨_, ht⟩

section
variable {prog : Program} {w : World} {A : Around} {E : Value → Shared → Prop} {s : Shared}
/-- item[0] of a menu's item -/
theorem item0 {h₀ : Heap} {L : Addr} {m : PySem.Str → Option Value} {t news : List (Addr × Obj)} {a : Addr} {k : Nat} {value slice : PySem.Expr} {u : Tok} {Q : Value → Shared → Prop} (r : Rd h₀ t a (itemD k)) (F : Fr h₀ L s.heap m) (N : News h₀ L s.heap news) (hs : ∀ p ∈ t, p ∈ news)
    (h : ∀ tk, Q (.str (nm k) tk) s)
    (hsub : subscripted slice false (.ref a) (.int 0 u) = operate [.ref a, .int 0 u] (getItem (.ref a) (.int 0 u)) := by with_unfolding_all rfl) :
    wpAny (model prog w) A (subscriptTail value slice (.ref a) (.int 0 u)) Q E s := by
  obtain ⟨tk, ht⟩ := item_tup (r.at F N hs)
  exact item_tupleT ht (by decide) (by decide) (by rfl : seqIndex? 0 1 = some 0) rfl (h tk) hsub
end

/-- is j among the kinds -/
def hasK (ks : List Nat) (j : Nat) : Bool := ks.any (· == j)
theorem nm_eq {k j : Nat} (hk : k < 4) (hj : j < 4) : (nm k == nm j) = (k == j) := by
  have hk' : k = 0 ∨ k = 1 ∨ k = 2 ∨ k = 3 := by omega
  have hj' : j = 0 ∨ j = 1 ∨ j = 2 ∨ j = 3 := by omega
  rcases hk' with rfl | rfl | rfl | rfl <;> rcases hj' with rfl | rfl | rfl | rfl <;> decide +kernel
theorem itemD_eqv {k j : Nat} (hk : k < 4) (hj : j < 4) : PyData.eqv (itemD k) (itemD j) = (k == j) := by
  simp only [itemD, PyData.eqv, PyData.eqvAll, Bool.and_true, nm_eq hk hj]
theorem itemD_lay {k : Nat} : (itemD k).canLay0 = true := by
  unfold itemD nm
  split <;> decide +kernel
theorem itemD_depth (k : Nat) : (itemD k).depth = 1 := by simp [itemD, PyData.depth, PyData.depthAll]
theorem Its.lay {h₀ : Heap} {t : List (Addr × Obj)} {ws : List Addr} {ks : List Nat} (r : Its h₀ t ws ks) : PyData.canLayAll0 (ks.map itemD) = true := by
  induction r with
  | nil => rfl
  | cons _ _ _ ih => simp only [List.map_cons, PyData.canLayAll0, itemD_lay, ih, Bool.and_self]
theorem Its.any {h₀ : Heap} {t : List (Addr × Obj)} {ws : List Addr} {ks : List Nat} (r : Its h₀ t ws ks) {j : Nat} (hj : j < 4) : (ks.map itemD).any (fun y => PyData.eqv y (itemD j)) = hasK ks j := by
  unfold hasK
  induction r with
  | nil => rfl
  | cons hk _ _ ih => simp only [List.map_cons, List.any_cons, itemD_eqv hk hj, ih]
abbrev tupO (vs : List Value) : Obj := { cls := .type "tuple", data := .seq vs.toArray }
theorem Rd.new {h₀ : Heap} {news : List (Addr × Obj)} {b : Addr} {k : Nat} {tk : Tok} (hb : (b, tupO [.str (nm k) tk]) ∈ news) : Rd h₀ news b (itemD k) :=
  fun h _ ht => Reads.tuple (ht _ hb) rfl rfl (ReadsAll.cons (Reads.str _ _) ReadsAll.nil)

section
variable {prog : Program} {w : World} {A : Around} {E : Value → Shared → Prop} {s : Shared} {h₀ : Heap} {L : Addr} {m : PySem.Str → Option Value} {t news : List (Addr × Obj)}
/-- (title,) not in the tuple of the items -/
theorem notin_tup {a b : Addr} {ws : List Addr} {ks : List Nat} {tk : Tok} {Q : Value → Shared → Prop} (j : Nat) (hj : j < 4) (F : Fr h₀ L s.heap m) (N : News h₀ L s.heap news) (ha : (a, tupO (refs ws)) ∈ news) (hb : (b, tupO [.str (nm j) tk]) ∈ news)
    (hw : Its h₀ t ws ks) (ht : ∀ p ∈ t, p ∈ news) (hu : A.units + 2 < cLine) (h : Q (.bool (!hasK ks j)) s) : wpAny (model prog w) A (compareOp .NotIn (.ref b) (.ref a)) Q E s := by
  have ra : Reads s.heap (.ref a) (.tuple (ks.map itemD)) [] := Reads.tuple (N _ ha).1 rfl rfl (hw.reads s.heap F.keep fun p hp => (N p (ht p hp)).1)
  have rb : Reads s.heap (.ref b) (itemD j) [] := (Rd.new hb).at F N fun _ hp => hp
  refine SeqAt.notIn_tuple_reads ra rb hw.lay itemD_lay ?_ (by rw [hw.any hj]; exact h)
  rw [itemD_depth]
  have : min (PyData.depthAll (ks.map itemD)) 1 ≤ 1 := Nat.min_le_right _ _
  omega
theorem notin_list {a b : Addr} {ws : List Addr} {ks : List Nat} {tk : Tok} {n : Nat} {Q : Value → Shared → Prop} (j : Nat) (hj : j < 4) (F : Fr h₀ L s.heap m) (N : News h₀ L s.heap news) (ha : (a, W.listOf (refs ws).toArray n) ∈ news) (hb : (b, tupO [.str (nm j) tk]) ∈ news)
    (hw : Its h₀ t ws ks) (ht : ∀ p ∈ t, p ∈ news) (hu : A.units + 2 < cLine) (h : Q (.bool (!hasK ks j)) s) : wpAny (model prog w) A (compareOp .NotIn (.ref b) (.ref a)) Q E s := by
  have ra : Reads s.heap (.ref a) (.list (ks.map itemD)) [a] := Reads.list (N _ ha).1 rfl rfl (hw.reads s.heap F.keep fun p hp => (N p (ht p hp)).1)
  have rb : Reads s.heap (.ref b) (itemD j) [] := (Rd.new hb).at F N fun _ hp => hp
  refine SeqAt.notIn_list_reads ra rb hw.lay itemD_lay ?_ (by rw [hw.any hj]; exact h)
  rw [itemD_depth]
  have : min (PyData.depthAll (ks.map itemD)) 1 ≤ 1 := Nat.min_le_right _ _
  omega
end

theorem offs_of {d : Addr} : ∀ {l : List (Addr × Obj)}, AllLt d l → ∀ p ∈ l, p.1 ≠ d
  | [], _, _, h => nomatch h
  | q :: r, h, p, hp => by
    rcases List.mem_cons.mp hp with rfl | hp
    · exact Nat.ne_of_lt h.1
    · exact offs_of h.2 p hp
theorem offs2 {d a : Addr} {l : List (Addr × Obj)} (o : Obj) (h : a < d ∧ AllLt d l) : ∀ p ∈ (a, o) :: l, p.1 ≠ d := offs_of (l := (a, o) :: l) h
theorem ne_tup {h₀ h : Heap} {L b S : Addr} {vs : List Value} {its : Array Value} {n : Nat} {news rest : List (Addr × Obj)} (N : News h₀ L h news) (hb : (b, tupO vs) ∈ news) (hS : (S, W.listOf its n) ∈ news) (h : ∀ p ∈ rest, p.1 ≠ S) : ∀ p ∈ (b, tupO vs) :: rest, p.1 ≠ S :=
  List.forall_mem_cons.mpr ⟨News.twoPlaces N hb hS (by simp), h⟩
theorem news_dup {h₀ h : Heap} {L a : Addr} {o : Obj} {news : List (Addr × Obj)} (N : News h₀ L h news) (hm : (a, o) ∈ news) : News h₀ L h ((a, o) :: news) := N.perm (List.forall_mem_cons.mpr ⟨hm, fun _ hp => hp⟩)
theorem own_ne {h₀ h : Heap} {L S C : Addr} {its : Array Value} {n : Nat} {oC : Obj} {v : Option Value} {news own : List (Addr × Obj)} (N : News h₀ L h news) (ho : ∀ p ∈ own, p ∈ news) (hown : ∀ p ∈ own, ∃ vs, p.2 = tupO vs) (hS : (S, W.listOf its n) ∈ news) (hC : (C, oC) ∈ news) (hd : oC.data = .cell v) :
    ∀ p ∈ own, p.1 ≠ S ∧ p.1 ≠ C := by
  intro p hp
  obtain ⟨vs, e⟩ := hown p hp
  refine ⟨News.twoPlaces N (ho p hp) hS ?_, News.twoPlaces N (ho p hp) hC ?_⟩
  · rw [e]; simp
  · rw [e]
    rintro rfl
    simp at hd
theorem refs_push (ws : List Addr) (b : Addr) : (refs ws).toArray.push (.ref b) = (refs (ws ++ [b])).toArray := by simp [refs]
section
variable {prog : Program} {w : World} {A : Around} {E : Value → Shared → Prop} {s : Shared} {h₀ : Heap} {L : Addr} {m : PySem.Str → Option Value} {t rest news : List (Addr × Obj)}
theorem append_R {D b : Addr} {ws : List Addr} {ks : List Nat} {n : Nat} {tk : Tok} {Q : Value → Shared → Prop} (j : Nat) (hj : j < 4) (F : Fr h₀ L s.heap m) (N : News h₀ L s.heap news) (hD : (D, W.listOf (refs ws).toArray n) ∈ news) (hb : (b, tupO [.str (nm j) tk]) ∈ news)
    (hr : (∀ p ∈ rest, p.1 ≠ D) ∧ ∀ p ∈ rest, p ∈ news) (hw : Its h₀ t ws ks) (hsz : ws.length ≤ 100)
    (h : ∀ h', Fr h₀ L h' m → News h₀ L h' ((D, W.listOf (refs (ws ++ [b])).toArray (n + 1)) :: (b, tupO [.str (nm j) tk]) :: rest) → (∀ p ∈ (b, tupO [.str (nm j) tk]) :: rest, p.1 ≠ D) → Its h₀ ((b, tupO [.str (nm j) tk]) :: t) (ws ++ [b]) (ks ++ [j]) → Q .none { s with heap := h' }) :
    wpAny (model prog w) A (call (.builtin "list.append") [.ref D, .ref b]) Q E s := by
  have hbD : b ≠ D := News.twoPlaces N hb hD (by simp)
  have hall : ∀ p ∈ (b, tupO [.str (nm j) tk]) :: rest, p.1 ≠ D := List.forall_mem_cons.mpr ⟨hbD, hr.1⟩
  refine append_K (news := (D, W.listOf (refs ws).toArray n) :: (b, tupO [.str (nm j) tk]) :: rest) (news' := (D, W.listOf (refs (ws ++ [b])).toArray (n + 1)) :: (b, tupO [.str (nm j) tk]) :: rest) F
    (N.perm (List.forall_mem_cons.mpr ⟨hD, List.forall_mem_cons.mpr ⟨hb, hr.2⟩⟩)) (by rw [refs_push]; exact Upd.head hall) (fun h' F' N' => h h' F' N' hall ?_) (by rw [List.size_toArray, refs_length, PySem.sizeLine_eq]; omega)
  exact (hw.led fun _ hp => List.mem_cons_of_mem _ hp).append (.cons hj (Rd.new List.mem_cons_self) .nil)
theorem insert_R {D b : Addr} {ws : List Addr} {ks : List Nat} {n : Nat} {tk u : Tok} {Q : Value → Shared → Prop} (j : Nat) (hj : j < 4) (F : Fr h₀ L s.heap m) (N : News h₀ L s.heap news) (hD : (D, W.listOf (refs ws).toArray n) ∈ news) (hb : (b, tupO [.str (nm j) tk]) ∈ news)
    (hr : (∀ p ∈ rest, p.1 ≠ D) ∧ ∀ p ∈ rest, p ∈ news) (hw : Its h₀ t ws ks) (hsz : ws.length ≤ 100)
    (h : ∀ h', Fr h₀ L h' m → News h₀ L h' ((D, W.listOf (refs (b :: ws)).toArray (n + 1)) :: (b, tupO [.str (nm j) tk]) :: rest) → (∀ p ∈ (b, tupO [.str (nm j) tk]) :: rest, p.1 ≠ D) → Its h₀ ((b, tupO [.str (nm j) tk]) :: t) (b :: ws) (j :: ks) → Q .none { s with heap := h' }) :
    wpAny (model prog w) A (call (.builtin "list.insert") [.ref D, .int 0 u, .ref b]) Q E s := by
  have hbD : b ≠ D := News.twoPlaces N hb hD (by simp)
  have hall : ∀ p ∈ (b, tupO [.str (nm j) tk]) :: rest, p.1 ≠ D := List.forall_mem_cons.mpr ⟨hbD, hr.1⟩
  refine kl_insert (l := refs (b :: ws)) (news := (D, W.listOf (refs ws).toArray n) :: (b, tupO [.str (nm j) tk]) :: rest) (news' := (D, W.listOf (refs (b :: ws)).toArray (n + 1)) :: (b, tupO [.str (nm j) tk]) :: rest) F
    (N.perm (List.forall_mem_cons.mpr ⟨hD, List.forall_mem_cons.mpr ⟨hb, hr.2⟩⟩)) rfl (by simp [kl_ins, refs]) (Upd.head hall) (by rw [List.toList_toArray, refs_length, PySem.sizeLine_eq]; omega) (fun h' F' N' => h h' F' N' hall ?_)
  exact .cons hj (Rd.new List.mem_cons_self) (hw.led fun _ hp => List.mem_cons_of_mem _ hp)
end

section
variable {prog : Program} {w : World} {A : Around} {E : Value → Shared → Prop} {s : Shared} {h₀ : Heap} {L : Addr} {m : PySem.Str → Option Value} {news : List (Addr × Obj)}
theorem add_R {A1 B1 : Addr} (xs ys : List Addr) {nA nB : Nat} {Q : Value → Shared → Prop} (F : Fr h₀ L s.heap m) (N : News h₀ L s.heap news) (hA : (A1, W.listOf (refs xs).toArray nA) ∈ news) (hB : (B1, W.listOf (refs ys).toArray nB) ∈ news) (hsz : xs.length + ys.length ≤ 1000)
    (h : ∀ (D : Addr) (h' : Heap), Fr h₀ L h' m → News h₀ L h' ((D, W.listOf (refs (xs ++ ys)).toArray 0) :: news) → AllLt D news → Q (.ref D) { s with heap := h' }) :
    wpAny (model prog w) A (binaryOp .Add (.ref A1) (.ref B1)) Q E s := by
  refine add_arrays F N (N.isList hA) (N.isList hB) (fun h' F' N' => h _ h' F' ?_ (allLt_of fun p hp => Heap.lt_size (N p hp).1)) (by rw [List.size_toArray, List.size_toArray, refs_length, refs_length, PySem.sizeLine_eq]; omega)
  have e : (refs xs).toArray.toList ++ (refs ys).toArray.toList = refs (xs ++ ys) := by simp [refs]
  rw [e] at N'
  exact N'
end

/-- what wanted_items makes of the kinds -/
def wantU (ks : List Nat) (u : Bool) : List Nat := if u && !hasK ks 1 then 1 :: ks else ks
def wantM (ks : List Nat) (v : Bool) : List Nat := if v && !hasK ks 3 then ks ++ [3] else ks
def wantK (ks : List Nat) (u v : Bool) : List Nat := wantM (wantU ks u) v

theorem ce_intro {h₀ : Heap} {L I C D : Addr} {m : PySem.Str → Option Value} {s₁ : Shared} {oI oC oD : Obj} {S : List (Addr × Obj) → Prop} {rest : Value → List (Addr × Obj) → Prop} {y : Value} {h' : Heap} {tk : Nat} {all news' : List (Addr × Obj)}
    (off : LCg.Off3 I C D news') (F : Fr h₀ L h' m) (N : News h₀ L h' all) (sub : ∀ p ∈ (I, oI) :: (C, oC) :: (D, oD) :: news', p ∈ all) (hS : S news') (r : rest y news') :
    LCg.CompEnd h₀ L m s₁ I oI C oC D oD S rest y { s₁ with heap := h', toks := tk } := LCg.CompEnd.intro F N news' sub off hS r

theorem hasK_cons (k : Nat) (ks : List Nat) (j : Nat) : hasK (k :: ks) j = (k == j || hasK ks j) := rfl
theorem hasK_append (a b : List Nat) (j : Nat) : hasK (a ++ b) j = (hasK a j || hasK b j) := List.any_append
theorem hasK_nil (j : Nat) : hasK [] j = false := rfl
theorem wantU_has3 (ks : List Nat) (u : Bool) : hasK (wantU ks u) 3 = hasK ks 3 := by
  unfold wantU
  split
  · rw [hasK_cons]; rfl
  · rfl
theorem wantK_due (ks : List Nat) (u v : Bool) : (if v && !hasK ks 3 then wantU ks u ++ [3] else wantU ks u) = wantK ks u v := by
  unfold wantK wantM
  rw [wantU_has3]
theorem wantK_has1 (ks : List Nat) (v : Bool) : hasK (wantK ks true v) 1 = true := by
  have h : hasK (wantU ks true) 1 = true := by
    unfold wantU
    cases e : hasK ks 1 with
    | true => simpa using e
    | false => simp [hasK_cons]
  unfold wantK wantM
  split
  · rw [hasK_append, h]; rfl
  · exact h
theorem wantK_has3 (ks : List Nat) (u : Bool) : hasK (wantK ks u true) 3 = true := by
  unfold wantK wantM
  cases e : hasK (wantU ks u) 3 with
  | true => simpa using e
  | false => simp [hasK_append, hasK_cons]
theorem wantK_idem (ks : List Nat) (u v : Bool) : wantK (wantK ks u v) u v = wantK ks u v := by
  have h1 : wantU (wantK ks u v) u = wantK ks u v := by
    cases u with
    | false => rfl
    | true =>
      have h := wantK_has1 ks v
      generalize wantK ks true v = z at h ⊢
      unfold wantU
      rw [h]; rfl
  have h3 : wantM (wantK ks u v) v = wantK ks u v := by
    cases v with
    | false => rfl
    | true =>
      have h := wantK_has3 ks u
      generalize wantK ks u true = z at h ⊢
      unfold wantM
      rw [h]; rfl
  show wantM (wantU (wantK ks u v) u) v = wantK ks u v
  rw [h1, h3]
theorem wantK_length (ks : List Nat) (u v : Bool) : (wantK ks u v).length ≤ ks.length + 2 := by
  have h : (wantU ks u).length ≤ ks.length + 1 := by
    unfold wantU
    split
    · exact Nat.le_refl _
    · exact Nat.le_succ _
  unfold wantK wantM
  split
  · rw [List.length_append, List.length_singleton]; omega
  · omega

theorem wantU_length (ks : List Nat) (u : Bool) : (wantU ks u).length ≤ ks.length + 1 := by
  unfold wantU
  split
  · exact Nat.le_refl _
  · exact Nat.le_succ _
theorem itemD_self (k : Nat) : PyData.eqv (itemD k) (itemD k) = true := by
  simp only [itemD, PyData.eqv, PyData.eqvAll, Bool.and_true]
  exact beq_self_eq_true _
theorem items_self : ∀ ks : List Nat, PyData.eqvAll (ks.map itemD) (ks.map itemD) = true
  | [] => rfl
  | k :: ks => by simp only [List.map_cons, PyData.eqvAll, itemD_self, items_self ks, Bool.and_self]
theorem items_lay : ∀ ks : List Nat, PyData.canLayAll0 (ks.map itemD) = true
  | [] => rfl
  | k :: ks => by simp only [List.map_cons, PyData.canLayAll0, itemD_lay, items_lay ks, Bool.and_self]
theorem items_depth : ∀ ks : List Nat, PyData.depthAll (ks.map itemD) ≤ 1
  | [] => Nat.zero_le _
  | k :: ks => by
    have := items_depth ks
    simp only [List.map_cons, PyData.depthAll, itemD_depth]
    omega
theorem items_shaped (ks : List Nat) : SeqAt.shaped (.list (ks.map itemD)) = true := by
  have h := items_depth ks
  simp only [SeqAt.shaped, PyData.canLay0, items_lay, Bool.true_and, PyData.depth]
  exact decide_eq_true (by omega)
section
variable {prog : Program} {w : World} {A : Around} {E : Value → Shared → Prop} {s : Shared} {h₀ : Heap} {L : Addr} {m : PySem.Str → Option Value} {t1 t2 news : List (Addr × Obj)}
/-- two lists of the same items -/
theorem ne_items {a b : Addr} {ws1 ws2 : List Addr} {ks1 ks2 : List Nat} {n1 n2 : Nat} {Q : Value → Shared → Prop} (F : Fr h₀ L s.heap m) (N : News h₀ L s.heap news) (ha : (a, W.listOf (refs ws1).toArray n1) ∈ news) (hb : (b, W.listOf (refs ws2).toArray n2) ∈ news)
    (h1 : Its h₀ t1 ws1 ks1) (s1 : ∀ p ∈ t1, p ∈ news) (h2 : Its h₀ t2 ws2 ks2) (s2 : ∀ p ∈ t2, p ∈ news) (e : ks1 = ks2) (hu : A.units + 64 < cLine) (h : Q (.bool false) s) : wpAny (model prog w) A (compareOp .NotEq (.ref a) (.ref b)) Q E s := by
  subst e
  have ra : Reads s.heap (.ref a) (.list (ks1.map itemD)) [a] := Reads.list (N _ ha).1 rfl rfl (h1.reads s.heap F.keep fun p hp => (N p (s1 p hp)).1)
  have rb : Reads s.heap (.ref b) (.list (ks1.map itemD)) [b] := Reads.list (N _ hb).1 rfl rfl (h2.reads s.heap F.keep fun p hp => (N p (s2 p hp)).1)
  refine ne_dataH ra rb (items_shaped _) (items_shaped _) hu ?_
  rw [show PyData.eqv (.list (ks1.map itemD)) (.list (ks1.map itemD)) = true from by simp only [PyData.eqv, items_self]]
  exact h
end

theorem news_rot3 {h₀ h : Heap} {L : Addr} {a b c x y z : Addr × Obj} {r : List (Addr × Obj)} (N : News h₀ L h (a :: b :: c :: x :: y :: z :: r)) : News h₀ L h (x :: y :: z :: a :: b :: c :: r) :=
  N.perm (fun p hp => by simp only [List.mem_cons] at hp ⊢; rcases hp with h | h | h | h | h | h | h <;> simp [h])
theorem off_add {I C D : Addr} {a b c d : Addr × Obj} {new own rest : List (Addr × Obj)} (o : LCg.Off3 I C D (a :: b :: c :: d :: (own ++ rest))) (hn : ∀ q ∈ new, q.1 ≠ I ∧ q.1 ≠ C ∧ q.1 ≠ D) : LCg.Off3 I C D (a :: b :: c :: d :: ((new ++ own) ++ rest)) := by
  have m := o.mem
  refine LCg.Off3.of fun p hp => ?_
  simp only [List.mem_cons, List.mem_append] at hp m
  rcases hp with h | h | h | h | (h | h) | h
  · exact m p (.inl h)
  · exact m p (.inr (.inl h))
  · exact m p (.inr (.inr (.inl h)))
  · exact m p (.inr (.inr (.inr (.inl h))))
  · exact hn p h
  · exact m p (.inr (.inr (.inr (.inr (.inl h)))))
  · exact m p (.inr (.inr (.inr (.inr (.inr h)))))
theorem lt_three {q : Addr} {x y z I C D : Addr × Obj} {r : List (Addr × Obj)} (h : AllLt q (x :: y :: z :: I :: C :: D :: r)) : q ≠ I.1 ∧ q ≠ C.1 ∧ q ≠ D.1 :=
  ⟨(Nat.ne_of_lt h.2.2.2.1).symm, (Nat.ne_of_lt h.2.2.2.2.1).symm, (Nat.ne_of_lt h.2.2.2.2.2.1).symm⟩

section
variable {prog : Program} {w : World} {A : Around} {E : Value → Shared → Prop} {s : Shared} {h₀ : Heap} {L : Addr} {m : PySem.Str → Option Value} {news : List (Addr × Obj)}
/-- xs[0] of a list of the ledger -/
theorem list0 {l : Addr} {its : List Value} {n : Nat} {v : Value} {value slice : PySem.Expr} {u : Tok} {Q : Value → Shared → Prop} (N : News h₀ L s.heap news) (hm : (l, W.listOf its.toArray n) ∈ news) (hx : its[0]? = some v) (h : Q v s)
    (hs : subscripted slice false (.ref l) (.int 0 u) = operate [.ref l, .int 0 u] (getItem (.ref l) (.int 0 u)) := by with_unfolding_all rfl) :
    wpAny (model prog w) A (subscriptTail value slice (.ref l) (.int 0 u)) Q E s :=
  tail_any (N.isList hm).typeIs slot_list_getitem.lookup (wpAny_getItem_list (N.isList hm) (by decide) (by decide) (by simpa using hx) h) hs
/-- two pairs of a text and an int that are the same -/
theorem ne_pair {a b : Addr} {x : PySem.Str} {i : Int} {k1 k2 t1 t2 : Tok} {Q : Value → Shared → Prop} (N : News h₀ L s.heap news) (ha : (a, tupO [.str x k1, .int i t1]) ∈ news) (hb : (b, tupO [.str x k2, .int i t2]) ∈ news) (hx : SeqAt.shaped (.tuple [.str x, .int i]) = true)
    (hu : A.units + 64 < cLine) (h : Q (.bool false) s) : wpAny (model prog w) A (compareOp .NotEq (.ref a) (.ref b)) Q E s := by
  have ra : Reads s.heap (.ref a) (.tuple [.str x, .int i]) [] := Reads.tuple (N _ ha).1 rfl rfl (ReadsAll.cons (Reads.str _ _) (ReadsAll.cons (Reads.int _ _) ReadsAll.nil))
  have rb : Reads s.heap (.ref b) (.tuple [.str x, .int i]) [] := Reads.tuple (N _ hb).1 rfl rfl (ReadsAll.cons (Reads.str _ _) (ReadsAll.cons (Reads.int _ _) ReadsAll.nil))
  refine ne_dataH ra rb hx hx hu ?_
  rw [show PyData.eqv (.tuple [.str x, .int i]) (.tuple [.str x, .int i]) = true from by
    simp only [PyData.eqv, PyData.eqvAll, Bool.and_true, Bool.and_eq_true]
    exact ⟨beq_self_eq_true _, beq_self_eq_true _⟩]
  exact h
end
theorem shaped_pair (z : PySem.Str) (hz : PyData.strOk z = true) (i : Int) : SeqAt.shaped (.tuple [.str z, .int i]) = true := by
  simp only [SeqAt.shaped, PyData.canLay0, PyData.canLayAll0, hz, Bool.and_self, Bool.true_and, PyData.depth, PyData.depthAll]
  rfl
theorem wantK_head {ks : List Nat} {v : Bool} (h : hasK ks 1 = false) : ∃ r, wantK ks true v = 1 :: r := by
  have e : wantU ks true = 1 :: ks := by simp [wantU, h]
  unfold wantK wantM
  rw [e]
  split
  · exact ⟨_, rfl⟩
  · exact ⟨_, rfl⟩

/-- a comprehension with one test, by an invariant -/
theorem restT_inv {prog : Program} {w : World} {A : Around} {h₀ : Heap} {L : Addr} {m : PySem.Str → Option Value} {env : Env} {ct elt : PySem.Expr} {x : PySem.Str} {scope : Scope} {cl : List (PySem.Str × Addr)} {s : Shared} {S : List (Addr × Obj) → Prop} {P : Nat → Value → Prop}
    {Fin : List Value → List (Addr × Obj) → Prop} {n : Nat} (J : Nat → List Value → List (Addr × Obj) → Prop)
    (turn : ∀ i ys news v I oI C oC D m₂ h tk (E' : Value → Shared → Prop), i < n → J i ys news → P i v → LCg.NsObj oC m₂ → m₂ x = some v → Fr h₀ L h m → News h₀ L h ((I, oI) :: (C, oC) :: (D, LCg.lst ys) :: news) → LCg.Off3 I C D news → ((@Ne Nat I C) ∧ (@Ne Nat I D) ∧ (@Ne Nat C D)) →
      wpAny (model prog w) A (isTrue ct (compEnvC scope cl C env) (eval ct (compEnvC scope cl C env))) (fun ok s' => if ok = true then
        wpAny (model prog w) A (eval elt (compEnvC scope cl C env)) (LCg.CompEnd h₀ L m { s with heap := h, toks := tk } I oI C oC D (LCg.lst ys) S (fun y news' => J (i + 1) (ys ++ [y]) news')) E' s'
        else LCg.CompEnd h₀ L m { s with heap := h, toks := tk } I oI C oC D (LCg.lst ys) S (fun _ news' => J (i + 1) ys news') Value.none s') E' { s with heap := h, toks := tk })
    (fin : ∀ ys news, J n ys news → Fin ys news) {news : List (Addr × Obj)} (h0 : J 0 [] news) : LCt.CompRestT prog w A h₀ L m env ct elt x scope cl s S P Fin n 0 [] news := by
  have key : ∀ j i ys news, i + j = n → J i ys news → LCt.CompRestT prog w A h₀ L m env ct elt x scope cl s S P Fin j i ys news := by
    intro j
    induction j with
    | zero =>
      intro i ys news hi hj
      obtain rfl : i = n := by omega
      exact LCt.CompRestT.zero (fin ys news hj)
    | succ j ih =>
      intro i ys news hi hj
      refine LCt.CompRestT.succ ?_
      intro v I oI C oC D m₂ h tk E' hv hC hx F N off ne
      refine wpAny_mono (turn i ys news v I oI C oC D m₂ h tk E' (by omega) hj hv hC hx F N off ne) (fun ok s₂ hq => ?_) fun _ _ e => e
      cases ok with
      | true =>
        rw [if_pos rfl] at hq ⊢
        refine wpAny_mono hq (fun y s₃ hr => ?_) fun _ _ e => e
        obtain ⟨h', tk', nw, e, F', N', off', hS, hJ⟩ := hr
        exact ⟨h', tk', nw, e, F', N', off', hS, ih (i + 1) _ nw (by omega) hJ⟩
      | false =>
        rw [if_neg Bool.false_ne_true] at hq ⊢
        obtain ⟨h', tk', nw, e, F', N', off', hS, hJ⟩ := hq
        exact ⟨h', tk', nw, e, F', N', off', hS, ih (i + 1) _ nw (by omega) hJ⟩
  exact key n 0 [] news (by omega) h0

/-- refs of lists that hold the one int ms -/
inductive Mss (ms : Int) (t : List (Addr × Obj)) : List Value → Prop
  | nil : Mss ms t []
  | cons {q : Addr} {tk : Tok} {n : Nat} {vs : List Value} : (q, W.listOf (List.toArray [Value.int ms tk]) n) ∈ t → Mss ms t vs → Mss ms t (.ref q :: vs)
theorem Mss.snoc {ms : Int} {t : List (Addr × Obj)} {vs : List Value} {q : Addr} {tk : Tok} {n : Nat} (h : Mss ms t vs) (hq : (q, W.listOf (List.toArray [Value.int ms tk]) n) ∈ t) : Mss ms t (vs ++ [.ref q]) := by
  induction h with
  | nil => exact .cons hq .nil
  | cons h _ ih => exact .cons h ih
theorem Mss.led {ms : Int} {t t' : List (Addr × Obj)} {vs : List Value} (h : Mss ms t vs) (k : ∀ p ∈ t, p ∈ t') : Mss ms t' vs := by
  induction h with
  | nil => exact .nil
  | cons h _ ih => exact .cons (k _ h) ih
theorem Mss.reads {ms : Int} {t : List (Addr × Obj)} {vs : List Value} (h : Mss ms t vs) {hp : Heap} (ht : ∀ p ∈ t, hp.get? p.1 = some p.2) : ∃ as, ReadsAll hp vs (List.replicate vs.length (.list [.int ms])) as := by
  induction h with
  | nil => exact ⟨_, .nil⟩
  | cons h _ ih =>
    obtain ⟨as, r⟩ := ih
    exact ⟨_, ReadsAll.cons (Reads.list (ht _ h) rfl rfl (ReadsAll.cons (Reads.int _ _) ReadsAll.nil)) r⟩
theorem mss_lay (ms : Int) : ∀ n : Nat, PyData.canLayAll0 (List.replicate n (.list [.int ms])) = true
  | 0 => rfl
  | n + 1 => by rw [List.replicate_succ]; simp only [PyData.canLayAll0, PyData.canLay0, mss_lay ms n, Bool.and_self]
theorem mss_depth (ms : Int) : ∀ n : Nat, PyData.depthAll (List.replicate n (.list [.int ms])) ≤ 1
  | 0 => Nat.zero_le _
  | n + 1 => by
    have := mss_depth ms n
    rw [List.replicate_succ]
    simp only [PyData.depthAll, PyData.depth]
    omega
theorem mss_shaped (ms : Int) (n : Nat) : SeqAt.shaped (.list (List.replicate n (.list [.int ms]))) = true := by
  have h := mss_depth ms n
  simp only [SeqAt.shaped, PyData.canLay0, mss_lay, Bool.true_and, PyData.depth]
  exact decide_eq_true (by omega)
theorem mss_eqv (ms : Int) : ∀ a b : Nat, PyData.eqvAll (List.replicate a (.list [.int ms])) (List.replicate b (.list [.int ms])) = (a == b)
  | 0, 0 => rfl
  | 0, b + 1 => by rw [List.replicate_succ]; rfl
  | a + 1, 0 => by rw [List.replicate_succ]; rfl
  | a + 1, b + 1 => by
    rw [List.replicate_succ, List.replicate_succ]
    simp only [PyData.eqvAll, mss_eqv ms a b, PyData.eqv, Bool.and_true, beq_self_eq_true, Bool.true_and]
    exact (Bool.eq_iff_iff.mpr (by simp)).symm
section
variable {prog : Program} {w : World} {A : Around} {E : Value → Shared → Prop} {s : Shared} {h₀ : Heap} {L : Addr} {m : PySem.Str → Option Value} {t1 t2 news : List (Addr × Obj)}
theorem mss_list {ms : Int} {a : Addr} {vs : List Value} {n : Nat} (N : News h₀ L s.heap news) (ha : (a, W.listOf vs.toArray n) ∈ news) (h1 : Mss ms t1 vs) (s1 : ∀ p ∈ t1, p ∈ news) : ∃ as, Reads s.heap (.ref a) (.list (List.replicate vs.length (.list [.int ms]))) as := by
  obtain ⟨as, r⟩ := h1.reads (hp := s.heap) (fun p hp => (N p (s1 p hp)).1)
  exact ⟨_, Reads.list (N _ ha).1 rfl rfl r⟩
theorem eq_mss {ms : Int} {a b : Addr} {vs ws : List Value} {n k : Nat} {Q : Value → Shared → Prop} (N : News h₀ L s.heap news) (ha : (a, W.listOf vs.toArray n) ∈ news) (hb : (b, W.listOf ws.toArray k) ∈ news)
    (h1 : Mss ms t1 vs) (s1 : ∀ p ∈ t1, p ∈ news) (h2 : Mss ms t2 ws) (s2 : ∀ p ∈ t2, p ∈ news) (hu : A.units + 64 < cLine) (h : Q (.bool (vs.length == ws.length)) s) : wpAny (model prog w) A (compareOp .Eq (.ref a) (.ref b)) Q E s := by
  obtain ⟨_, ra⟩ := mss_list N ha h1 s1
  obtain ⟨_, rb⟩ := mss_list N hb h2 s2
  refine eq_dataH ra rb (mss_shaped _ _) (mss_shaped _ _) hu ?_
  rw [show PyData.eqv (.list (List.replicate vs.length (.list [.int ms]))) (.list (List.replicate ws.length (.list [.int ms]))) = (vs.length == ws.length) from by simp only [PyData.eqv, mss_eqv]]
  exact h
theorem ne_mss_eq {ms : Int} {a b : Addr} {vs ws : List Value} {n k : Nat} {Q : Value → Shared → Prop} (N : News h₀ L s.heap news) (ha : (a, W.listOf vs.toArray n) ∈ news) (hb : (b, W.listOf ws.toArray k) ∈ news)
    (h1 : Mss ms t1 vs) (s1 : ∀ p ∈ t1, p ∈ news) (h2 : Mss ms t2 ws) (s2 : ∀ p ∈ t2, p ∈ news) (e : vs.length = ws.length) (hu : A.units + 64 < cLine) (h : Q (.bool false) s) : wpAny (model prog w) A (compareOp .NotEq (.ref a) (.ref b)) Q E s := by
  obtain ⟨_, ra⟩ := mss_list N ha h1 s1
  obtain ⟨_, rb⟩ := mss_list N hb h2 s2
  refine ne_dataH ra rb (mss_shaped _ _) (mss_shaped _ _) hu ?_
  rw [show PyData.eqv (.list (List.replicate vs.length (.list [.int ms]))) (.list (List.replicate ws.length (.list [.int ms]))) = true from by
    simp only [PyData.eqv, mss_eqv, e, beq_self_eq_true]]
  exact h
theorem mss_flat {ms : Int} {t : List (Addr × Obj)} {q : Addr} {tk : Tok} {n : Nat} (hq : (q, W.listOf (List.toArray [Value.int ms tk]) n) ∈ t) : ∀ k : Nat, Mss ms t (List.replicate k [Value.ref q]).flatten ∧ (List.replicate k [Value.ref q]).flatten.length = k
  | 0 => ⟨.nil, rfl⟩
  | k + 1 => by
    obtain ⟨a, b⟩ := mss_flat hq k
    rw [List.replicate_succ, List.flatten_cons]
    exact ⟨.cons hq a, by rw [List.length_append, b, List.length_singleton]; omega⟩
theorem mul_mss {ms x : Int} {l q : Addr} {n nq : Nat} {tk u : Tok} {Q : Value → Shared → Prop} (F : Fr h₀ L s.heap m) (N : News h₀ L s.heap news) (hl : (l, W.listOf (List.toArray [Value.ref q]) n) ∈ news) (hq : (q, W.listOf (List.toArray [Value.int ms tk]) nq) ∈ news) (h0 : 0 ≤ x) (h1 : x ≤ 100)
    (h : ∀ (D : Addr) (h' : Heap) (ws : List Value), Fr h₀ L h' m → News h₀ L h' ((D, W.listOf ws.toArray 0) :: news) → Mss ms news ws → (ws.length : Int) = x → Q (.ref D) { s with heap := h' }) : wpAny (model prog w) A (binaryOp .Mult (.ref l) (.int x u)) Q E s := by
  obtain ⟨a, b⟩ := mss_flat hq x.toNat
  refine KMa.mul (vs := [Value.ref q]) F N (N.isList hl) (by omega) (by omega) (by rw [List.length_singleton]; omega) rfl (fun D h' F' N' _ => h D h' _ F' N' a ?_)
  rw [b]
  omega
theorem ne_mss {ms : Int} {a b : Addr} {vs ws : List Value} {n k : Nat} {Q : Value → Shared → Prop} (N : News h₀ L s.heap news) (ha : (a, W.listOf vs.toArray n) ∈ news) (hb : (b, W.listOf ws.toArray k) ∈ news)
    (h1 : Mss ms t1 vs) (s1 : ∀ p ∈ t1, p ∈ news) (h2 : Mss ms t2 ws) (s2 : ∀ p ∈ t2, p ∈ news) (hu : A.units + 64 < cLine) (h : Q (.bool (!(vs.length == ws.length))) s) : wpAny (model prog w) A (compareOp .NotEq (.ref a) (.ref b)) Q E s := by
  obtain ⟨_, ra⟩ := mss_list N ha h1 s1
  obtain ⟨_, rb⟩ := mss_list N hb h2 s2
  refine ne_dataH ra rb (mss_shaped _ _) (mss_shaped _ _) hu ?_
  rw [show PyData.eqv (.list (List.replicate vs.length (.list [.int ms]))) (.list (List.replicate ws.length (.list [.int ms]))) = (vs.length == ws.length) from by simp only [PyData.eqv, mss_eqv]]
  exact h
end

/-- a comprehension by an invariant over what it has made and the ledger -/
theorem rest_inv {prog : Program} {w : World} {A : Around} {h₀ : Heap} {L : Addr} {m : PySem.Str → Option Value} {env : Env} {elt : PySem.Expr} {x : PySem.Str} {scope : Scope} {cl : List (PySem.Str × Addr)} {s : Shared} {S : List (Addr × Obj) → Prop} {P : Nat → Value → Prop}
    {Fin : List Value → List (Addr × Obj) → Prop} {n : Nat} (J : Nat → List Value → List (Addr × Obj) → Prop)
    (turn : ∀ i ys news v I oI C oC D m₂ h tk (E' : Value → Shared → Prop), i < n → J i ys news → P i v → LCg.NsObj oC m₂ → m₂ x = some v → Fr h₀ L h m → News h₀ L h ((I, oI) :: (C, oC) :: (D, LCg.lst ys) :: news) → LCg.Off3 I C D news → ((@Ne Nat I C) ∧ (@Ne Nat I D) ∧ (@Ne Nat C D)) →
      wpAny (model prog w) A (eval elt (compEnvC scope cl C env)) (LCg.CompEnd h₀ L m { s with heap := h, toks := tk } I oI C oC D (LCg.lst ys) S (fun y news' => J (i + 1) (ys ++ [y]) news')) E' { s with heap := h, toks := tk })
    (fin : ∀ ys news, J n ys news → Fin ys news) {news : List (Addr × Obj)} (h0 : J 0 [] news) : LCg.CompRest prog w A h₀ L m env elt x scope cl s S P Fin n 0 [] news := by
  have key : ∀ j i ys news, i + j = n → J i ys news → LCg.CompRest prog w A h₀ L m env elt x scope cl s S P Fin j i ys news := by
    intro j
    induction j with
    | zero =>
      intro i ys news hi hj
      obtain rfl : i = n := by omega
      exact LCg.CompRest.zero (fin ys news hj)
    | succ j ih =>
      intro i ys news hi hj
      refine LCg.CompRest.succ ?_
      intro v I oI C oC D m₂ h tk E' hv hC hx F N off ne
      refine wpAny_mono (turn i ys news v I oI C oC D m₂ h tk E' (by omega) hj hv hC hx F N off ne) (fun y s₂ hq => ?_) fun _ _ e => e
      obtain ⟨h', tk', nw, e, F', N', off', hS, hJ⟩ := hq
      exact ⟨h', tk', nw, e, F', N', off', hS, ih (i + 1) _ nw (by omega) hJ⟩
  exact key n 0 [] news (by omega) h0
local macro_rules | `(tactic| size_fits) => `(tactic| (simp only [List.size_toArray, refs_length, List.length_cons, List.length_append, List.length_nil, PySem.sizeLine_eq]; omega))
section
open PySem.Calls
/-- a tuple of the ledger as a comprehension's source -/
def TAt (ax : Addr) (its : Array Value) (nw : List (Addr × Obj)) : Prop := False ∨ ∃ o, (ax, o) ∈ nw ∧ o.cls = .type "tuple" ∧ ∃ n, o.data = .seq its n
def TSrc (prog : Program) (w : World) (A : Around) (h₀ : Heap) (L : Addr) (m : PySem.Str → Option Value) (env : Env) (elt : PySem.Expr) (x : PySem.Str) (scope : Scope) (cl : List (PySem.Str × Addr)) (Q : Value → Shared → Prop) (xv : Value) (s₁ : Shared) : Prop :=
  ∃ ax its news, xv = .ref ax ∧ A.handled = none ∧ Fr h₀ L s₁.heap m ∧ News h₀ L s₁.heap news ∧ TAt ax its news ∧ its.size ≤ sizeLine ∧
    ∀ g : Heap, LCg.CompRest prog w A h₀ L m env elt x scope cl { s₁ with heap := g } (TAt ax its) (fun i v => its[i]? = some v) (LCg.FinE h₀ L m { s₁ with heap := g } Q) its.size 0 [] news
section
variable {prog : Program} {w : World} {A : Around} {E : Value → Shared → Prop} {s : Shared} {h₀ : Heap} {L : Addr} {m : PySem.Str → Option Value} {env : Env}
theorem TAt.tup {h : Heap} {ax : Addr} {its : Array Value} {nw : List (Addr × Obj)} (S : TAt ax its nw) (N : News h₀ L h nw) : h.IsTuple ax its := by
  rcases S with hf | ⟨o, hm, hc⟩
  · exact hf.elim
  · exact ⟨o, (N _ hm).1, hc⟩
theorem TSrc.intro {elt : PySem.Expr} {x : PySem.Str} {scope : Scope} {cl : List (PySem.Str × Addr)} {Q : Value → Shared → Prop} {ax : Addr} {its : Array Value} {n : Nat} {news : List (Addr × Obj)} {s₁ : Shared}
    (hh : A.handled = none) (F : Fr h₀ L s₁.heap m) (N : News h₀ L s₁.heap news) (hm : (ax, ({ cls := .type "tuple", data := .seq its n } : Obj)) ∈ news) (hsz : its.size ≤ sizeLine)
    (h : ∀ g : Heap, LCg.CompRest prog w A h₀ L m env elt x scope cl { s₁ with heap := g } (TAt ax its) (fun i v => its[i]? = some v) (LCg.FinE h₀ L m { s₁ with heap := g } Q) its.size 0 [] news) :
    TSrc prog w A h₀ L m env elt x scope cl Q (.ref ax) s₁ := ⟨ax, its, news, rfl, hh, F, N, .inr ⟨_, hm, rfl, _, rfl⟩, hsz, h⟩
theorem comp_tup {elt iter : PySem.Expr} {x : PySem.Str} {px : Pos} {scope : Scope} {cl : List (PySem.Str × Addr)} {pos : Pos} {Q : Value → Shared → Prop} (F₀ : Fr h₀ L s.heap m) (hclos : closureFor scope env = pure cl) (hcell : ∀ y ∈ scope.names, y.2 ≠ .cell) (hkind : scope.kind = .function)
    (hnames : ∀ y ∈ scope.names, y.2 = .local → scope.names.lookup y.1 = some .local) (hx : scope.names.lookup x = some .local)
    (h : wpAny (model prog w) A (eval iter env) (TSrc prog w A h₀ L m env elt x scope cl Q) E s) (hs : ∀ v, foldedSetIterable iter env v = pure v := by intro _; rfl) :
    wpAny (model prog w) A (eval (.ListComp elt [⟨.Name x px, iter, [], 0⟩] scope pos) env) Q E s := by
  rw [eval_ListComp]
  refine wpAny_comprehension_free (use := none) rfl hs hclos hkind hnames (wpAny_mono h ?_ fun _ _ e => e)
  rintro xv s₁ ⟨ax, its, news, rfl, hh, F, N, S, hsz, R⟩
  have ht := S.tup N
  have hlt : ax < s₁.heap.objs.size := by
    obtain ⟨_, e, _⟩ := ht
    exact Heap.lt_size e
  refine wpAny_pyIter_tuple ht ?_
  have grow : ∀ b o, s₁.heap.get? b = some o → (s₁.heap.push { cls := .type "tuple_iterator", data := .fields #[.ref ax, .int 0 0] }).get? b = some o := fun b o e => Heap.get?_push_of_some _ e
  have W := Walks.tuple (prog := prog) (w := w) hh s₁.heap.objs.size ax (Nat.ne_of_lt hlt) its
  refine LCg.block_U W hsz ?_ ?_ hcell hkind hx ?_ ?_ (F.keeps grow) (N.grown grow) (Nat.ne_of_lt F.ns.lt) (next_is_new F) (fun p hp => Nat.ne_of_lt (Heap.lt_size (N p hp).1)) S (R _) ?_
  · rintro i h' ⟨⟨o, e, _⟩, _⟩
    exact ⟨o, e⟩
  · rintro i h₁ h₂ o nw ⟨⟨o', e', r'⟩, _⟩ e1 e2 _ N' S'
    obtain rfl : o = o' := Option.some.inj (e1.symm.trans e')
    exact ⟨⟨o, e2, r'⟩, S'.tup N'⟩
  · exact ⟨⟨_, Heap.get?_push_size _ rfl, rfl, rfl⟩, ht.push _⟩
  · intro b hb
    have hb' : b = s₁.heap.objs.size ∨ b = ax := by simpa using hb
    show b < (s₁.heap.push _).objs.size
    rw [Heap.size_push]
    rcases hb' with rfl | rfl
    · exact Nat.lt_succ_self _
    · exact Nat.lt_succ_of_lt hlt
  · intro D C h' tk m' ys news' F' N' o1 hn hC₀ hD₀ hCL hDL hCD offC fin
    refine ⟨m', hn, fun h'' hs'' => fin D h'' tk (F'.change hs'' hCL hC₀) ?_ o1⟩
    refine List.forall_mem_cons.mpr ⟨?_, fun p hp => ?_⟩
    · have z := N' _ List.mem_cons_self
      exact ⟨hs''.extBut _ _ (Ne.symm hCD) z.1, z.2⟩
    · have z := N' p (List.mem_cons_of_mem _ hp)
      exact ⟨hs''.extBut _ _ (offC p hp) z.1, z.2⟩
end
end
/-- the law's def, its body and its scope, read off the row's own program -/
def lawDef : PySem.Stmt := PySem.Challenge.pw_nz0286_01.main.body.getLastD (.Pass default)
def lawBody : List PySem.Stmt := match lawDef with
  | .FunctionDef _ _ body _ _ _ _ _ _ _ => body
  | _ => []
def lawScope : Scope := match lawDef with
  | .FunctionDef _ _ _ _ _ _ sc _ _ _ => sc
  | _ => default
def lawSt (i : Nat) : PySem.Stmt := lawBody.getD i (.Pass default)
/-- the letter's fields as its dict holds them -/
abbrev letterEs (P : Params) (u ms : Int) (tf : Addr) (k1 t1 k2 t2 k3 k4 t4 k5 t5 : Tok) : List DictEntry :=
  [⟨PyData.keyHash P (PySem.Str.ofString "uid"), .str (PySem.Str.ofString "uid") k1, .int u t1⟩,
   ⟨PyData.keyHash P (PySem.Str.ofString "octets"), .str (PySem.Str.ofString "octets") k2, .bytes #[97, 98] t2⟩,
   ⟨PyData.keyHash P (PySem.Str.ofString "flags"), .str (PySem.Str.ofString "flags") k3, .ref tf⟩,
   ⟨PyData.keyHash P (PySem.Str.ofString "instant"), .str (PySem.Str.ofString "instant") k4, .int 0 t4⟩,
   ⟨PyData.keyHash P (PySem.Str.ofString "modseq"), .str (PySem.Str.ofString "modseq") k5, .int ms t5⟩]
theorem draw (w : World) {mg mb : PySem.Str → Option Value} {loose : List PySem.Str} {mean : ExcName → Option Value} {cn : PySem.Str} {nms : List (PySem.Str × NameKind)} {ig ic : Bool} {mo : List (PySem.Str × Const)} {fa : Addr} {ccd : Value} {cl : List (PySem.Str × Addr)} {h₀ base : Heap} {L : Addr} {m : PySem.Str → Option Value}
    {s : Shared} {Q E : Value → Shared → Prop} {S c : Addr} {vs : List Value} {ns : List Int} {nS nc : Nat} {at' lim : Int} {ta tl : Tok} {rest : List (Addr × Obj)}
    (B : Below callerA base [] h₀) (F : Fr h₀ L s.heap m) (X : (hd.heap_39 w.params).In h₀) (T : Top hd.view_39 loose mean mg mb h₀)
    (hoff : ∀ p ∈ rest, p.1 ≠ S)
    (N : News h₀ L s.heap ((S, W.listOf (List.toArray [Value.ref c, Value.int at' ta]) nS) :: (c, W.listOf vs.toArray nc) :: rest)) 
    (hSc : c ≠ S) (hi : IntsAre vs ns) (hn : 0 < ns.length) (hlen : ns.length ≤ 63) (hl : 0 < lim) (hl2 : lim ≤ 9)
    (ret : ∀ (v : Int) (t : Tok) (h' : Heap) (tk : Nat) (t' : Tok) (n' : Nat), 0 ≤ v → v < lim → Fr h₀ L h' m → News h₀ L h' ((S, W.listOf (List.toArray [Value.ref c, Value.int (at' + 1) t']) n') :: (c, W.listOf vs.toArray nc) :: rest) → Q (.int v t) { s with heap := h', toks := tk }) :
    wpAny (model Challenge.rw_nz0286_01.row.prog w) (callerA.deeper (envX cn { kind := .function, names := nms, isGenerator := ig, isCoroutine := ic, more := mo } L fa ccd cl)) (call (.ref 270) [.ref S, .int lim tl]) Q E s := by
  k_with_none
  revert B F X T N ret
  k_fill
  intro B F X T N ret
  k_steps
  exact ret _ _ _ _ _ _ (fmod_lo _ hl) (fmod_hi _ hl) (by assumption) (by assumption)
theorem nm_section (k : Nat) : ¬ ((nm k == PySem.Str.ofString "section") = true) := by
  unfold nm
  split <;> decide +kernel
theorem told (w : World) {mg mb : PySem.Str → Option Value} {loose : List PySem.Str} {mean : ExcName → Option Value} {cn : PySem.Str} {nms : List (PySem.Str × NameKind)} {ig ic : Bool} {mo : List (PySem.Str × Const)} {fa : Addr} {ccd : Value} {cl : List (PySem.Str × Addr)} {env₁ : Env} {h₀ base : Heap} {L : Addr} {m : PySem.Str → Option Value}
    {s : Shared} {Q E : Value → Shared → Prop} {I : Addr} {ws : List Addr} {ks : List Nat} {nI : Nat} {news : List (Addr × Obj)}
    (B : Below (callerA.deeper env₁) base [env₁] h₀) (F : Fr h₀ L s.heap m) (X : (hd.heap_39 w.params).In h₀) (T : Top hd.view_39 loose mean mg mb h₀)
    (N : News h₀ L s.heap news) (hI : (I, W.listOf (refs ws).toArray nI) ∈ news) (hw : Its h₀ news ws ks) (hsz : (refs ws).toArray.size ≤ sizeLine)
    (ret : ∀ (a : Addr) (h' : Heap) (tk : Nat), Fr h₀ L h' m → News h₀ L h' ((a, { cls := .type "tuple", data := .seq (refs ws).toArray }) :: news) → Q (.ref a) { s with heap := h', toks := tk }) :
    wpAny (model Challenge.rw_nz0286_01.row.prog w) ((callerA.deeper env₁).deeper (envX cn { kind := .function, names := nms, isGenerator := ig, isCoroutine := ic, more := mo } L fa ccd cl)) (call (.ref 211) [.ref I]) Q E s := by
  k_with_none
  k_with "eval ListComp" => (k_here; k_dflt (refine LCg.ListComp_U (F₀ := by k_asm) (by with_unfolding_all rfl) (by decide) (by rfl) (by decide) (by rfl) ?_))
  k_with "CompSrc" => (k_here; k_dflt (refine LCg.CompSrc.ledger (by rfl) (by k_asm) (by k_asm) (by assumption) (by assumption) ?_); intro g')
  k_with "subscriptTail Name Constant ref int" => (k_here; k_dflt (refine item0 (by assumption) (by k_asm) (by k_asm) (by kcf_all) ?_); intro tk')
  k_with "ite" => (first | refine ite_neg (by with_reducible assumption) ?_ | refine ite_pos (by with_reducible assumption) ?_)
  revert B F X T N ret
  k_fill
  intro B F X T N ret
  k_steps
  rename Fr h₀ L _ m => FG'
  refine rest_inv (fun i ys nw => nw = news ∧ ys = (refs ws).take i) ?_ ?_ ⟨rfl, rfl⟩
  · rintro i ys nw v I' oI' C' oC' D' m' h' tk' E' hi ⟨rfl, rfl⟩ hv hC' hx' F' N' off' ne'
    obtain ⟨a, rfl, ha⟩ := refs_get (by simpa using hv)
    obtain ⟨k, hk, hk4, hr⟩ := (hw.base FG'.keep).get ha
    have hns := nm_section k
    k_steps
    refine LCg.CompEnd.intro (by assumption) (by assumption) _ (by kcf_all) off' (.inr ⟨_, hI, rfl, _, rfl⟩) ⟨rfl, ?_⟩
    rw [List.take_add_one, refs, List.getElem?_map, ha]
    rfl
  · rintro ys nw ⟨rfl, hys⟩
    obtain rfl : ys = refs ws := by rw [hys]; simp
    k_steps
    exact ret _ _ _ (by assumption) (News.perm (by assumption) (by kcf_all))
theorem wanted (w : World) {mg mb : PySem.Str → Option Value} {loose : List PySem.Str} {mean : ExcName → Option Value} {cn : PySem.Str} {nms : List (PySem.Str × NameKind)} {ig ic : Bool} {mo : List (PySem.Str × Const)} {fa : Addr} {ccd : Value} {cl : List (PySem.Str × Addr)} {h₀ base : Heap} {L : Addr} {m : PySem.Str → Option Value}
    {s : Shared} {Q E : Value → Shared → Prop} {I : Addr} {ws : List Addr} {ks : List Nat} {nI : Nat} {t r : List (Addr × Obj)} {u v : Bool}
    (B : Below callerA base [] h₀) (F : Fr h₀ L s.heap m) (X : (hd.heap_39 w.params).In h₀) (T : Top hd.view_39 loose mean mg mb h₀)
    (N : News h₀ L s.heap ((I, W.listOf (refs ws).toArray nI) :: t)) (hw : Its h₀ r ws ks) (hrt : ∀ p ∈ r, p ∈ t) (hsz : ws.length ≤ 7)
    (ret : ∀ (D : Addr) (ws' : List Addr) (h' : Heap) (tk n' : Nat) (own : List (Addr × Obj)), (∀ p ∈ own ++ (I, W.listOf (refs ws).toArray nI) :: t, p.1 ≠ D) → (∀ p ∈ own, ∃ vs, p.2 = tupO vs) → Fr h₀ L h' m → News h₀ L h' ((D, W.listOf (refs ws').toArray n') :: (own ++ (I, W.listOf (refs ws).toArray nI) :: t)) →
      Its h₀ (own ++ r) ws' (wantK ks u v) → Q (.ref D) { s with heap := h', toks := tk }) :
    wpAny (model Challenge.rw_nz0286_01.row.prog w) (callerA.deeper (envX cn { kind := .function, names := nms, isGenerator := ig, isCoroutine := ic, more := mo } L fa ccd cl)) (call (.ref 218) [.ref I, .bool u, .bool v]) Q E s := by
  k_with_none
  k_with "call ref" => (k_here; (with_reducible show wpAny _ _ (call (Value.ref 211) _ _) _ _ _); k_dflt (with_unfolding_all refine told _ (by k_asm) (by k_asm) (by k_asm) (by k_asm) (by k_asm) (by kcf_m) (Its.led (by assumption) (by kcf_all)) (by size_fits) ?_); intro a' h' tk' F' N'; (try k_sweep))
  k_with "compareOp NotIn ref ref" => (k_here; k_dflt (first | refine notin_tup 1 (by decide) (by k_asm) (by k_asm) (by kcf_m) (by kcf_m) (by assumption) (by kcf_all) (by exact Nat.le_of_ble_eq_true rfl) ?_ | refine notin_tup 3 (by decide) (by k_asm) (by k_asm) (by kcf_m) (by kcf_m) (by assumption) (by kcf_all) (by exact Nat.le_of_ble_eq_true rfl) ?_))
  k_with "call builtin:list.insert" => (k_here; k_dflt (refine insert_R 1 (by decide) (by k_asm) (by k_asm) (by kcf_m) (by kcf_m) (by first | exact ⟨by assumption, by kcf_all⟩ | exact ⟨offs2 _ (by assumption), by kcf_all⟩) (by assumption) (by omega) ?_); intro h' F' N' hne' hw'; (try k_sweep))
  k_with "call builtin:list.append" => (k_here; k_dflt (refine append_R 3 (by decide) (by k_asm) (by k_asm) (by kcf_m) (by kcf_m) (by first | exact ⟨by assumption, by kcf_all⟩ | exact ⟨offs2 _ (by assumption), by kcf_all⟩) (by assumption) (by first | omega | (simp only [List.length_cons]; omega)) ?_); intro h' F' N' hne' hw'; (try k_sweep))
  revert B F X T N ret 
  k_fill
  intro B F X T N ret 
  walk1
  rename Fr h₀ L _ m => FG'
  have hw' := (hw.base FG'.keep).led hrt
  k_steps
  all_goals first
  | (refine ret _ ((_ :: ws) ++ [_]) _ _ _ [(_, tupO [.str (nm 3) _]), (_, tupO [.str (nm 1) _])] (by assumption) (List.forall_mem_cons.mpr ⟨⟨_, rfl⟩, List.forall_mem_cons.mpr ⟨⟨_, rfl⟩, List.forall_mem_nil _⟩⟩) (by assumption) (News.perm (by assumption) (by kcf_all)) ?_
     rw [show wantK ks u v = (1 :: ks) ++ [3] from by simp [wantK, wantU, wantM, *]]
     exact Its.append (.cons (by decide) (Rd.new (.tail _ (.head _))) (hw.led (by kcf_all))) (.cons (by decide) (Rd.new (.head _)) .nil))
  | (refine ret _ (_ :: ws) _ _ _ [(_, tupO [.str (nm 1) _])] (by assumption) (List.forall_mem_cons.mpr ⟨⟨_, rfl⟩, List.forall_mem_nil _⟩) (by assumption) (News.perm (by assumption) (by kcf_all)) ?_
     rw [show wantK ks u v = 1 :: ks from by simp [wantK, wantU, wantM, *]]
     exact .cons (by decide) (Rd.new (.head _)) (hw.led (by kcf_all)))
  | (refine ret _ (ws ++ [_]) _ _ _ [(_, tupO [.str (nm 3) _])] (by assumption) (List.forall_mem_cons.mpr ⟨⟨_, rfl⟩, List.forall_mem_nil _⟩) (by assumption) (News.perm (by assumption) (by kcf_all)) ?_
     rw [show wantK ks u v = ks ++ [3] from by simp [wantK, wantU, wantM, *]]
     exact Its.append (hw.led (by kcf_all)) (.cons (by decide) (Rd.new (.head _)) .nil))
  | (refine ret _ ws _ _ _ [] (offs2 _ (by assumption)) (fun _ h => nomatch h) (by assumption) (News.perm (by assumption) (by kcf_all)) ?_
     rw [show wantK ks u v = ks from by simp [wantK, wantU, wantM, *]]
     exact hw)
/-- the four titles of the letter's answer -/
def tt : Nat → PySem.Str
  | 0 => PySem.Str.ofString "FLAGS"
  | 1 => PySem.Str.ofString "UID"
  | 2 => PySem.Str.ofString "RFC822.SIZE"
  | _ => PySem.Str.ofString "MODSEQ"
/-- what a pair's second place holds, as far as it is asked -/
def Val (u ms : Int) (k : Nat) (y : Value) (own : List (Addr × Obj)) : Prop :=
  (k = 1 → ∃ t, y = .int u t) ∧ (k = 3 → ∃ q t n, y = .ref q ∧ (q, W.listOf (List.toArray [Value.int ms t]) n) ∈ own)
def PairAt (u ms : Int) (t : List (Addr × Obj)) (p : Addr) (k : Nat) : Prop := ∃ (y : Value) (tk : Tok), (p, tupO [.str (tt k) tk, y]) ∈ t ∧ Val u ms k y t
theorem Val.led {u ms : Int} {k : Nat} {y : Value} {t t' : List (Addr × Obj)} (v : Val u ms k y t) (h : ∀ p ∈ t, p ∈ t') : Val u ms k y t' :=
  ⟨v.1, fun e => let ⟨q, tk, n, e', hm⟩ := v.2 e; ⟨q, tk, n, e', h _ hm⟩⟩
theorem PairAt.led {u ms : Int} {t t' : List (Addr × Obj)} {p : Addr} {k : Nat} (v : PairAt u ms t p k) (h : ∀ p ∈ t, p ∈ t') : PairAt u ms t' p k :=
  let ⟨y, tk, hm, hv⟩ := v; ⟨y, tk, h _ hm, hv.led h⟩
theorem ite_flags {P Q : Prop} {k : Nat} (hk : k = 0 ∨ k = 1 ∨ k = 2 ∨ k = 3) (h1 : k = 0 → P) (h2 : k = 1 ∨ k = 2 ∨ k = 3 → Q) : if (nm k == PySem.Str.ofString "flags") = true then P else Q := by
  rcases hk with rfl | rfl | rfl | rfl
  · rw [if_pos (by decide +kernel)]; exact h1 rfl
  · rw [if_neg (by decide +kernel)]; exact h2 (.inl rfl)
  · rw [if_neg (by decide +kernel)]; exact h2 (.inr (.inl rfl))
  · rw [if_neg (by decide +kernel)]; exact h2 (.inr (.inr rfl))
theorem ite_uid {P Q : Prop} {k : Nat} (hk : k = 1 ∨ k = 2 ∨ k = 3) (h1 : k = 1 → P) (h2 : k = 2 ∨ k = 3 → Q) : if (nm k == PySem.Str.ofString "uid") = true then P else Q := by
  rcases hk with rfl | rfl | rfl
  · rw [if_pos (by decide +kernel)]; exact h1 rfl
  · rw [if_neg (by decide +kernel)]; exact h2 (.inl rfl)
  · rw [if_neg (by decide +kernel)]; exact h2 (.inr rfl)
theorem ite_date {P Q : Prop} {k : Nat} (hk : k = 2 ∨ k = 3) (h2 : Q) : if (nm k == PySem.Str.ofString "internaldate") = true then P else Q := by
  rcases hk with rfl | rfl
  · rw [if_neg (by decide +kernel)]; exact h2
  · rw [if_neg (by decide +kernel)]; exact h2
theorem ite_size {P Q : Prop} {k : Nat} (hk : k = 2 ∨ k = 3) (h1 : k = 2 → P) (h2 : k = 3 → Q) : if (nm k == PySem.Str.ofString "rfc822.size") = true then P else Q := by
  rcases hk with rfl | rfl
  · rw [if_pos (by decide +kernel)]; exact h1 rfl
  · rw [if_neg (by decide +kernel)]; exact h2 rfl
theorem tt_modseq {k : Nat} (hk : k < 4) : (tt k == PySem.Str.ofString "MODSEQ") = (k == 3) := by
  have hk' : k = 0 ∨ k = 1 ∨ k = 2 ∨ k = 3 := by omega
  rcases hk' with rfl | rfl | rfl | rfl <;> decide +kernel
/-- how many of the kinds are modseqs -/
def cnt (ks : List Nat) : Nat := ks.countP (· == 3)
theorem cnt_take {ks : List Nat} {i k : Nat} (h : ks[i]? = some k) : cnt (ks.take (i + 1)) = cnt (ks.take i) + (if k = 3 then 1 else 0) := by
  unfold cnt
  rw [List.take_add_one, h, List.countP_append]
  show _ + List.countP _ [k] = _
  rw [List.countP_singleton]
  simp
theorem cnt_pos {ks : List Nat} (h : hasK ks 3 = true) : 0 < cnt ks := by
  unfold hasK at h
  unfold cnt
  rw [List.countP_pos_iff]
  simpa using h
/-- the titles as they lie in a list -/
inductive Tts : List Value → List Nat → Prop
  | nil : Tts [] []
  | cons {k : Nat} {tk : Tok} {vs : List Value} {ks : List Nat} : Tts vs ks → Tts (.str (tt k) tk :: vs) (k :: ks)
theorem Tts.append {vs ws : List Value} {ks js : List Nat} (a : Tts vs ks) (b : Tts ws js) : Tts (vs ++ ws) (ks ++ js) := by
  induction a with
  | nil => exact b
  | cons _ ih => exact .cons ih
theorem Tts.length {vs : List Value} {ks : List Nat} (a : Tts vs ks) : vs.length = ks.length := by
  induction a with
  | nil => rfl
  | cons _ ih => rw [List.length_cons, List.length_cons, ih]
theorem Tts.strs {vs : List Value} {ks : List Nat} (a : Tts vs ks) : StrsAre vs (ks.map tt) := by
  induction a with
  | nil => exact .nil
  | cons _ ih => exact .cons _ _ ih
theorem cnt_countIn : ∀ ks : List Nat, (∀ k ∈ ks, k < 4) → Spec.countIn (.str (PySem.Str.ofString "MODSEQ")) ((ks.map tt).map PyData.str) = (cnt ks : Nat)
  | [], _ => rfl
  | k :: ks, h => by
    have h4 := h k List.mem_cons_self
    have ih := cnt_countIn ks fun j hj => h j (List.mem_cons_of_mem _ hj)
    have e : Spec.same (.str (tt k)) (.str (PySem.Str.ofString "MODSEQ")) = (k == 3) := by
      rw [← tt_modseq h4]; rfl
    simp only [List.map_cons, Spec.countIn, ih, e]
    unfold cnt
    rw [List.countP_cons]
    by_cases h3 : k = 3 <;> simp [h3] <;> omega
theorem cnt_le (ks : List Nat) : cnt ks ≤ ks.length := List.countP_le_length
theorem count_tts {prog : Program} {w : World} {A : Around} {E : Value → Shared → Prop} {s : Shared} {h₀ : Heap} {L : Addr} {news : List (Addr × Obj)} {Ti : Addr} {vs : List Value} {kf : List Nat} {n : Nat} {t : Tok} {Q : Value → Shared → Prop} (N : News h₀ L s.heap news) (hT : (Ti, W.listOf vs.toArray n) ∈ news) (hts : Tts vs kf) (h4 : ∀ k ∈ kf, k < 4)
    (h : Q (.int (cnt kf : Nat) s.toks) { s with toks := s.toks + 1 }) : wpAny (model prog w) A (call (.builtin "list.count") [.ref Ti, .str (PySem.Str.ofString "MODSEQ") t]) Q E s :=
  count_list_strs (N.isList hT) hts.strs (by rw [cnt_countIn kf h4]; exact h)
def ttD (k : Nat) : PyData := .str (tt k)
theorem Tts.reads {vs : List Value} {ks : List Nat} (a : Tts vs ks) (h : Heap) : ReadsAll h vs (ks.map ttD) [] := by
  induction a with
  | nil => exact .nil
  | cons _ ih => exact ReadsAll.cons (Reads.str _ _) ih
theorem tt_lay (k : Nat) : PyData.strOk (tt k) = true := by
  unfold tt
  split <;> decide +kernel
theorem tts_lay : ∀ ks : List Nat, PyData.canLayAll0 (ks.map ttD) = true
  | [] => rfl
  | k :: ks => by simp only [List.map_cons, ttD, PyData.canLayAll0, PyData.canLay0, tt_lay, Bool.true_and]; exact tts_lay ks
theorem tts_depth : ∀ ks : List Nat, PyData.depthAll (ks.map ttD) = 0
  | [] => rfl
  | k :: ks => by
    have := tts_depth ks
    simp only [List.map_cons, PyData.depthAll, this]
    rfl
theorem tts_shaped (ks : List Nat) : SeqAt.shaped (.list (ks.map ttD)) = true := by
  simp only [SeqAt.shaped, PyData.canLay0, tts_lay, Bool.true_and, PyData.depth, tts_depth]
  rfl
theorem tts_self : ∀ ks : List Nat, PyData.eqvAll (ks.map ttD) (ks.map ttD) = true
  | [] => rfl
  | k :: ks => by
    simp only [List.map_cons, PyData.eqvAll, tts_self ks, Bool.and_true]
    show (tt k == tt k) = true
    exact beq_self_eq_true _
theorem eq_tts {prog : Program} {w : World} {A : Around} {E : Value → Shared → Prop} {s : Shared} {h₀ : Heap} {L : Addr} {news : List (Addr × Obj)} {a b : Addr} {vs ws : List Value} {kf : List Nat} {n k : Nat} {Q : Value → Shared → Prop} (N : News h₀ L s.heap news) (ha : (a, W.listOf vs.toArray n) ∈ news) (hb : (b, W.listOf ws.toArray k) ∈ news)
    (h1 : Tts vs kf) (h2 : Tts ws kf) (hu : A.units + 64 < cLine) (h : Q (.bool true) s) : wpAny (model prog w) A (compareOp .Eq (.ref a) (.ref b)) Q E s := by
  have ra : Reads s.heap (.ref a) (.list (kf.map ttD)) [a] := Reads.list (N _ ha).1 rfl rfl (h1.reads _)
  have rb : Reads s.heap (.ref b) (.list (kf.map ttD)) [b] := Reads.list (N _ hb).1 rfl rfl (h2.reads _)
  refine eq_dataH ra rb (tts_shaped _) (tts_shaped _) hu ?_
  rw [show PyData.eqv (.list (kf.map ttD)) (.list (kf.map ttD)) = true from by simp only [PyData.eqv, tts_self]]
  exact h
inductive Prs (u ms : Int) (t : List (Addr × Obj)) : List Addr → List Nat → Prop
  | nil : Prs u ms t [] []
  | cons {p : Addr} {k : Nat} {ps : List Addr} {ks : List Nat} : k < 4 → PairAt u ms t p k → Prs u ms t ps ks → Prs u ms t (p :: ps) (k :: ks)
theorem Prs.led {u ms : Int} {t t' : List (Addr × Obj)} {ps : List Addr} {ks : List Nat} (v : Prs u ms t ps ks) (h : ∀ p ∈ t, p ∈ t') : Prs u ms t' ps ks := by
  induction v with
  | nil => exact .nil
  | cons hk hp _ ih => exact .cons hk (hp.led h) ih
theorem Prs.append {u ms : Int} {t : List (Addr × Obj)} {ps qs : List Addr} {ks js : List Nat} (v : Prs u ms t ps ks) (z : Prs u ms t qs js) : Prs u ms t (ps ++ qs) (ks ++ js) := by
  induction v with
  | nil => exact z
  | cons hk hp _ ih => exact .cons hk hp ih
theorem Prs.lt {u ms : Int} {t : List (Addr × Obj)} {ps : List Addr} {ks : List Nat} (v : Prs u ms t ps ks) : ∀ k ∈ ks, k < 4 := by
  induction v with
  | nil => intro k h; cases h
  | cons hk _ _ ih => exact List.forall_mem_cons.mpr ⟨hk, ih⟩
theorem Prs.length {u ms : Int} {t : List (Addr × Obj)} {ps : List Addr} {ks : List Nat} (v : Prs u ms t ps ks) : ps.length = ks.length := by
  induction v with
  | nil => rfl
  | cons _ _ _ ih => rw [List.length_cons, List.length_cons, ih]
theorem Prs.get {u ms : Int} {t : List (Addr × Obj)} {ps : List Addr} {ks : List Nat} (v : Prs u ms t ps ks) {i : Nat} {p : Addr} (h : ps[i]? = some p) : ∃ k, ks[i]? = some k ∧ k < 4 ∧ PairAt u ms t p k := by
  induction v generalizing i with
  | nil => cases h
  | cons hk hp _ ih =>
    cases i with
    | zero => cases h; exact ⟨_, rfl, hk, hp⟩
    | succ i => exact ih h
theorem pair (w : World) {mg mb : PySem.Str → Option Value} {loose : List PySem.Str} {mean : ExcName → Option Value} {cn : PySem.Str} {nms : List (PySem.Str × NameKind)} {ig ic : Bool} {mo : List (PySem.Str × Const)} {fa : Addr} {ccd : Value} {cl : List (PySem.Str × Addr)} {h₀ base : Heap} {L : Addr} {m : PySem.Str → Option Value}
    {s : Shared} {Q E : Value → Shared → Prop} {x dx tf a : Addr} {u ms : Int} {k1 t1 k2 t2 k3 k4 t4 k5 t5 t6 : Tok} {news : List (Addr × Obj)} {k : Nat}
    (B : Below callerA base [] h₀) (F : Fr h₀ L s.heap m) (X : (hd.heap_39 w.params).In h₀) (T : Top hd.view_39 loose mean mg mb h₀)
    (N : News h₀ L s.heap ((x, instObj 254 dx) :: (dx, dictOf (letterEs w.params u ms tf k1 t1 k2 t2 k3 k4 t4 k5 t5) 5) :: (tf, tupO [.str (PySem.Str.ofString "k") t6]) :: news))
    (hk : k < 4) (hr : Rd h₀ news a (itemD k))
    (ret : ∀ (p : Addr) (y : Value) (tk' : Tok) (h' : Heap) (tk : Nat) (own : List (Addr × Obj)), AllLt p ((x, instObj 254 dx) :: (dx, dictOf (letterEs w.params u ms tf k1 t1 k2 t2 k3 k4 t4 k5 t5) 5) :: (tf, tupO [.str (PySem.Str.ofString "k") t6]) :: news) →
      (∀ q ∈ own, AllLt q.1 ((x, instObj 254 dx) :: (dx, dictOf (letterEs w.params u ms tf k1 t1 k2 t2 k3 k4 t4 k5 t5) 5) :: (tf, tupO [.str (PySem.Str.ofString "k") t6]) :: news)) → Val u ms k y own → Fr h₀ L h' m →
      News h₀ L h' ((p, tupO [.str (tt k) tk', y]) :: (own ++ (x, instObj 254 dx) :: (dx, dictOf (letterEs w.params u ms tf k1 t1 k2 t2 k3 k4 t4 k5 t5) 5) :: (tf, tupO [.str (PySem.Str.ofString "k") t6]) :: news)) → Q (.ref p) { s with heap := h', toks := tk }) :
    wpAny (model Challenge.rw_nz0286_01.row.prog w) (callerA.deeper (envX cn { kind := .function, names := nms, isGenerator := ig, isCoroutine := ic, more := mo } L fa ccd cl)) (call (.ref 223) [.ref x, .ref a]) Q E s := by
  k_with_none
  k_with "subscriptTail Name Constant ref int" => (k_here; k_dflt (refine item0 (by assumption) (by k_asm) (by k_asm) (by kcf_all) ?_); intro tk')
  k_with "eval ListComp" => (k_here; (with_reducible show wpAny _ _ (eval (Expr.ListComp _ [⟨_, Expr.Attribute _ _ _, _, _⟩] _ _) _) _ _ _); k_dflt (refine comp_tup (by k_asm) (by with_unfolding_all rfl) (by decide) (by rfl) (by decide) (by rfl) ?_))
  k_with "TSrc" => (k_here; k_dflt (refine TSrc.intro (by rfl) (by k_asm) (by k_asm) (by k_mem) (by exact Nat.le_of_ble_eq_true rfl) ?_); intro g'; lcg_lit)
  k_with "CompRest" => (with_unfolding_all first
  | (refine LCg.CompRest.succ ?_; intro v' I' oI' C' oC' D' m' h' tk' E' hv' hC' hx' F' N' off' ne'; lcg_open hv')
  | refine LCg.CompRest.zero ?_)
  k_with "CompEnd" => (refine ce_intro (by assumption) (by assumption) (by assumption) (by kcf_all) (.inr ⟨_, by k_mem, rfl, _, rfl⟩) ?_)
  k_with "ite" => (first | (refine ite_flags (by assumption) ?_ ?_ <;> intro hk' <;> try subst hk') | (refine ite_uid (by assumption) ?_ ?_ <;> intro hk' <;> try subst hk') | refine ite_date (by assumption) ?_ | (refine ite_size (by assumption) ?_ ?_ <;> intro hk' <;> try subst hk'))
  revert B F X T N ret
  k_fill
  intro B F X T N ret
  have hk' : k = 0 ∨ k = 1 ∨ k = 2 ∨ k = 3 := by omega
  clear hk
  walk1
  rename Fr h₀ L _ m => FG'
  replace hr := hr.base FG'.keep
  k_steps
  · exact ret _ _ _ _ _ [] (by rename_i l _ _ _ _; exact l.2) (fun _ h => nomatch h) ⟨fun h => (nomatch h), fun h => (nomatch h)⟩ (by assumption) (News.perm (by assumption) (by kcf_all))
  · exact ret _ _ _ _ _ [] (by assumption) (fun _ h => nomatch h) ⟨fun _ => ⟨_, rfl⟩, fun h => (nomatch h)⟩ (by assumption) (News.perm (by assumption) (by kcf_all))
  · exact ret _ _ _ _ _ [] (by assumption) (fun _ h => nomatch h) ⟨fun h => (nomatch h), fun h => (nomatch h)⟩ (by assumption) (News.perm (by assumption) (by kcf_all))
  · exact ret _ _ _ _ _ [_] (by rename_i l _ _ _ _; exact l.2) (fun q hq => by rw [List.mem_singleton.mp hq]; dsimp only; assumption) ⟨fun h => (nomatch h), fun _ => ⟨_, _, _, rfl, .head _⟩⟩ (by assumption) (News.perm (by assumption) (by kcf_all))
theorem menu_rd (w : World) {h₀ : Heap} {k : Nat} (hk : k < 4) (X : (hd.heap_39 w.params).In h₀) (hP : (model PySem.Challenge.rw_nz0286_01.row.prog w).w = w) : Rd h₀ [] (259 + k) (itemD k) := by
  revert X hP
  k_fill
  intro X _
  have e0 : ∃ o t, (hd.heap_39 w.params).lookup 259 = some o ∧ o.cls = .type "tuple" ∧ ∃ n, o.data = .seq (List.toArray [.str (PySem.Str.ofString "flags") t]) n := ⟨_, _, by k_is, rfl, _, rfl⟩
  have e1 : ∃ o t, (hd.heap_39 w.params).lookup 260 = some o ∧ o.cls = .type "tuple" ∧ ∃ n, o.data = .seq (List.toArray [.str (PySem.Str.ofString "uid") t]) n := ⟨_, _, by k_is, rfl, _, rfl⟩
  have e2 : ∃ o t, (hd.heap_39 w.params).lookup 261 = some o ∧ o.cls = .type "tuple" ∧ ∃ n, o.data = .seq (List.toArray [.str (PySem.Str.ofString "rfc822.size") t]) n := ⟨_, _, by k_is, rfl, _, rfl⟩
  have e3 : ∃ o t, (hd.heap_39 w.params).lookup 262 = some o ∧ o.cls = .type "tuple" ∧ ∃ n, o.data = .seq (List.toArray [.str (PySem.Str.ofString "modseq") t]) n := ⟨_, _, by k_is, rfl, _, rfl⟩
  have key : ∀ (b : Addr) (z : PySem.Str), (∃ o t, (hd.heap_39 w.params).lookup b = some o ∧ o.cls = .type "tuple" ∧ ∃ n, o.data = .seq (List.toArray [.str z t]) n) → Rd h₀ [] b (.tuple [.str z]) := by
    rintro b z ⟨o, t, h1, h2, n, h3⟩ h kh _
    exact Reads.tuple (kh _ _ (X _ _ h1)) h2 h3 (ReadsAll.cons (Reads.str _ _) ReadsAll.nil)
  have hk' : k = 0 ∨ k = 1 ∨ k = 2 ∨ k = 3 := by omega
  rcases hk' with rfl | rfl | rfl | rfl
  · exact key _ _ e0
  · exact key _ _ e1
  · exact key _ _ e2
  · exact key _ _ e3
theorem item4 (w : World) {A : Around} {E : Value → Shared → Prop} {s : Shared} {h₀ : Heap} {L : Addr} {m : PySem.Str → Option Value} {value slice : PySem.Expr} {v : Int} {t : Tok} {Q : Value → Shared → Prop} (F : Fr h₀ L s.heap m) (X : (hd.heap_39 w.params).In h₀) (h0 : 0 ≤ v) (h1 : v < 4) (h : Q (.ref (259 + v.toNat)) s)
    (hs : subscripted slice false (.ref 263) (.int v t) = operate [.ref 263, .int v t] (getItem (.ref 263) (.int v t)) := by with_unfolding_all rfl) :
    wpAny (model PySem.Challenge.rw_nz0286_01.row.prog w) A (subscriptTail value slice (.ref 263) (.int v t)) Q E s := by
  revert F X
  k_fill
  intro F X
  refine topTup_K (l := [.ref 259, .ref 260, .ref 261, .ref 262]) F X (by k_is) (by omega) (by omega) (j := v.toNat) ?_ ?_ h hs
  · have hv : v = 0 ∨ v = 1 ∨ v = 2 ∨ v = 3 := by omega
    rcases hv with rfl | rfl | rfl | rfl <;> rfl
  · have hv : v = 0 ∨ v = 1 ∨ v = 2 ∨ v = 3 := by omega
    rcases hv with rfl | rfl | rfl | rfl <;> rfl
theorem st3 (w : World) {mg mb : PySem.Str → Option Value} {loose : List PySem.Str} {mean : ExcName → Option Value} {fa : Addr} {cd : Value} {h₀ base : Heap} {L : Addr} {m : PySem.Str → Option Value}
    {s : Shared} {Q : Flow → Shared → Prop} {E : Value → Shared → Prop} {S c : Addr} {vs : List Value} {ns : List Int} {nS nc : Nat} {at' : Int} {ta : Tok} {oCs oCl : Obj} {rest : List (Addr × Obj)}
    (B : Below callerA base [] h₀) (F : Fr h₀ L s.heap m) (X : (hd.heap_39 w.params).In h₀) (T : Top hd.view_39 loose mean mg mb h₀)
    (N : News h₀ L s.heap ((S, W.listOf (List.toArray [Value.ref c, Value.int at' ta]) nS) :: (c, W.listOf vs.toArray nc) :: (L + 1 + 1, oCl) :: (L + 1, oCs) :: rest))
    (hCs : oCs.data = .cell (some (.ref S))) (hoff : ∀ p ∈ (L + 1 + 1, oCl) :: (L + 1, oCs) :: rest, p.1 ≠ S) (hSc : c ≠ S) (hi : IntsAre vs ns) (hn : 0 < ns.length) (hlen : ns.length ≤ 63)
    (ret : ∀ (I : Addr) (nI : Nat) (ws : List Addr) (ks : List Nat) (h' : Heap) (tk : Nat) (a2 : Int) (t2 : Tok) (n2 : Nat), ws.length ≤ 5 → Its h₀ [] ws ks → (I ≠ S ∧ I ≠ L + 1 + 1) → Fr h₀ L h' (fun y => if y = PySem.Str.ofString "items" then some (.ref I) else m y) →
      News h₀ L h' ((S, W.listOf (List.toArray [Value.ref c, Value.int a2 t2]) n2) :: (c, W.listOf vs.toArray nc) :: (L + 1 + 1, oCl) :: (L + 1, oCs) :: (I, W.listOf (refs ws).toArray nI) :: rest) → Q .next { s with heap := h', toks := tk }) :
    wpAny (model Challenge.rw_nz0286_01.row.prog w) (callerA.deeper (envOfC (PySem.Str.ofString "law") lawScope L fa cd)) (exec (lawSt 2) (envOfC (PySem.Str.ofString "law") lawScope L fa cd)) Q E s := by
  k_with_none
  k_with "subscriptTail Name Call ref int" => (k_here; k_dflt (refine item4 _ (by k_asm) (by k_asm) (by assumption) (by assumption) ?_))
  k_with "call ref" => (k_here; (with_reducible show wpAny _ _ (call (Value.ref 270) _ _) _ _ _); k_dflt (refine draw _ (by k_asm) (by k_asm) (by k_asm) (by k_asm) (by assumption) (News.perm (by k_asm) (by kcf_all)) (by assumption) (by assumption) (by assumption) (by assumption) (by decide) (by decide) ?_); intro v' t' h' tk' t2' n' hv0' hv1' F' N'; (try k_sweep))
  k_with "exec Assign cons ListComp" => (k_here; k_dflt (refine LCg.Assign_ListComp_U (F₀ := by k_asm) (by rfl) (by with_unfolding_all rfl) (by with_unfolding_all rfl) (by decide) (by rfl) (by decide) (by rfl) (by rfl) (by rfl) ?_))
  k_with "CompSrc" => (k_here; k_dflt (refine LCg.CompSrc.range (by rfl) (by k_asm) (by k_asm) (by assumption) (small_one (by omega) (by omega) (by omega) (by omega)) (by exact rangeSize_nat _ _) (by rw [PySem.sizeLine_eq]; omega) ?_); intro g')
  revert B F X T N ret
  k_fill
  intro B F X T N ret
  dsimp only [lawSt, lawBody, lawScope, lawDef, PySem.Challenge.pw_nz0286_01, List.getLastD, List.getLast, List.getD_cons_succ, List.getD_cons_zero, List.getD, Option.getD, List.getElem?_cons_succ, List.getElem?_cons_zero]
  k_steps
  refine rest_inv (fun i ys nw => (∃ (a : Int) (t : Tok) (n : Nat), nw = (S, W.listOf (List.toArray [Value.ref c, Value.int a t]) n) :: (c, W.listOf vs.toArray nc) :: (L + 1 + 1, oCl) :: (L + 1, oCs) :: rest) ∧ ∃ (ws : List Addr) (ks : List Nat), ys = refs ws ∧ ws.length = i ∧ Its h₀ [] ws ks) ?_ ?_ ⟨⟨_, _, _, rfl⟩, [], [], rfl, rfl, .nil⟩
  · rintro i ys nw v I' oI' C' oC' D' m' h' tk' E' hi' ⟨⟨a, t, n, rfl⟩, ws, ks, rfl, rfl, hw⟩ hv hC' hx' F' N' off' ne'
    have o3 := off'.mem _ (.head _)
    have hoff' : ∀ p ∈ (I', oI') :: (C', oC') :: (D', LCg.lst (refs ws)) :: (L + 1 + 1, oCl) :: (L + 1, oCs) :: rest, p.1 ≠ S :=
      List.forall_mem_cons.mpr ⟨Ne.symm o3.1, List.forall_mem_cons.mpr ⟨Ne.symm o3.2.1, List.forall_mem_cons.mpr ⟨Ne.symm o3.2.2, hoff⟩⟩⟩
    k_steps
    refine ce_intro (news' := (S, W.listOf (List.toArray [Value.ref c, Value.int (a + 1) _]) _) :: (c, W.listOf vs.toArray nc) :: (L + 1 + 1, oCl) :: (L + 1, oCs) :: rest) off' (by assumption) (by assumption) (by kcf_all) trivial ⟨⟨_, _, _, rfl⟩, ws ++ [259 + v'.toNat], ks ++ [v'.toNat], ?_, ?_, hw.append (.cons ?_ (menu_rd w ?_ X rfl) .nil)⟩
    · simp [refs]
    · rw [List.length_append, List.length_singleton]
    · omega
    · omega
  · rintro ys nw ⟨⟨a, t, n, rfl⟩, ws, ks, rfl, hl, hw⟩
    k_steps
    exact ret _ _ ws ks _ _ _ _ _ (by omega) hw (by rename_i o; exact ⟨Ne.symm o.1, Ne.symm o.2.2.1⟩) (by assumption) (News.perm (by assumption) (by kcf_all))
theorem st4 (w : World) {mg mb : PySem.Str → Option Value} {loose : List PySem.Str} {mean : ExcName → Option Value} {fa : Addr} {cd : Value} {h₀ base : Heap} {L : Addr} {m : PySem.Str → Option Value}
    {s : Shared} {Q : Flow → Shared → Prop} {E : Value → Shared → Prop} {S c : Addr} {vs : List Value} {ns : List Int} {nS nc : Nat} {at' : Int} {ta : Tok} {oCs oCl : Obj} {rest : List (Addr × Obj)}
    (B : Below callerA base [] h₀) (F : Fr h₀ L s.heap m) (X : (hd.heap_39 w.params).In h₀) (T : Top hd.view_39 loose mean mg mb h₀)
    (N : News h₀ L s.heap ((S, W.listOf (List.toArray [Value.ref c, Value.int at' ta]) nS) :: (c, W.listOf vs.toArray nc) :: (L + 1 + 1, oCl) :: (L + 1, oCs) :: rest))
    (hCs : oCs.data = .cell (some (.ref S))) (hoff : ∀ p ∈ (L + 1 + 1, oCl) :: (L + 1, oCs) :: rest, p.1 ≠ S) (hSc : c ≠ S) (hi : IntsAre vs ns) (hn : 0 < ns.length) (hlen : ns.length ≤ 63)
    (ret : ∀ (b : Bool) (h' : Heap) (tk : Nat) (a2 : Int) (t2 : Tok) (n2 : Nat), Fr h₀ L h' (fun y => if y = PySem.Str.ofString "is_uid" then some (.bool b) else m y) →
      News h₀ L h' ((S, W.listOf (List.toArray [Value.ref c, Value.int a2 t2]) n2) :: (c, W.listOf vs.toArray nc) :: (L + 1 + 1, oCl) :: (L + 1, oCs) :: rest) → Q .next { s with heap := h', toks := tk }) :
    wpAny (model Challenge.rw_nz0286_01.row.prog w) (callerA.deeper (envOfC (PySem.Str.ofString "law") lawScope L fa cd)) (exec (lawSt 3) (envOfC (PySem.Str.ofString "law") lawScope L fa cd)) Q E s := by
  k_with_none
  k_with "call ref" => (k_here; (with_reducible show wpAny _ _ (call (Value.ref 270) _ _) _ _ _); k_dflt (refine draw _ (by k_asm) (by k_asm) (by k_asm) (by k_asm) (by assumption) (News.perm (by k_asm) (by kcf_all)) (by assumption) (by assumption) (by assumption) (by assumption) (by decide) (by decide) ?_); intro v' t' h' tk' t2' n' hv0' hv1' F' N'; (try k_sweep))
  revert B F X T N ret
  k_fill
  intro B F X T N ret
  dsimp only [lawSt, lawBody, lawScope, lawDef, PySem.Challenge.pw_nz0286_01, List.getLastD, List.getLast, List.getD_cons_succ, List.getD_cons_zero, List.getD, Option.getD, List.getElem?_cons_succ, List.getElem?_cons_zero]
  k_steps
  exact ret _ _ _ _ _ _ (by assumption) (by assumption)
theorem st5 (w : World) {mg mb : PySem.Str → Option Value} {loose : List PySem.Str} {mean : ExcName → Option Value} {fa : Addr} {cd : Value} {h₀ base : Heap} {L : Addr} {m : PySem.Str → Option Value}
    {s : Shared} {Q : Flow → Shared → Prop} {E : Value → Shared → Prop} {S c : Addr} {vs : List Value} {ns : List Int} {nS nc : Nat} {at' : Int} {ta : Tok} {oCs oCl : Obj} {rest : List (Addr × Obj)}
    (B : Below callerA base [] h₀) (F : Fr h₀ L s.heap m) (X : (hd.heap_39 w.params).In h₀) (T : Top hd.view_39 loose mean mg mb h₀)
    (N : News h₀ L s.heap ((S, W.listOf (List.toArray [Value.ref c, Value.int at' ta]) nS) :: (c, W.listOf vs.toArray nc) :: (L + 1 + 1, oCl) :: (L + 1, oCs) :: rest))
    (hCs : oCs.data = .cell (some (.ref S))) (hoff : ∀ p ∈ (L + 1 + 1, oCl) :: (L + 1, oCs) :: rest, p.1 ≠ S) (hSc : c ≠ S) (hi : IntsAre vs ns) (hn : 0 < ns.length) (hlen : ns.length ≤ 63)
    (ret : ∀ (b : Bool) (h' : Heap) (tk : Nat) (a2 : Int) (t2 : Tok) (n2 : Nat), Fr h₀ L h' (fun y => if y = PySem.Str.ofString "is_since" then some (.bool b) else m y) →
      News h₀ L h' ((S, W.listOf (List.toArray [Value.ref c, Value.int a2 t2]) n2) :: (c, W.listOf vs.toArray nc) :: (L + 1 + 1, oCl) :: (L + 1, oCs) :: rest) → Q .next { s with heap := h', toks := tk }) :
    wpAny (model Challenge.rw_nz0286_01.row.prog w) (callerA.deeper (envOfC (PySem.Str.ofString "law") lawScope L fa cd)) (exec (lawSt 4) (envOfC (PySem.Str.ofString "law") lawScope L fa cd)) Q E s := by
  k_with_none
  k_with "call ref" => (k_here; (with_reducible show wpAny _ _ (call (Value.ref 270) _ _) _ _ _); k_dflt (refine draw _ (by k_asm) (by k_asm) (by k_asm) (by k_asm) (by assumption) (News.perm (by k_asm) (by kcf_all)) (by assumption) (by assumption) (by assumption) (by assumption) (by decide) (by decide) ?_); intro v' t' h' tk' t2' n' hv0' hv1' F' N'; (try k_sweep))
  revert B F X T N ret
  k_fill
  intro B F X T N ret
  dsimp only [lawSt, lawBody, lawScope, lawDef, PySem.Challenge.pw_nz0286_01, List.getLastD, List.getLast, List.getD_cons_succ, List.getD_cons_zero, List.getD, Option.getD, List.getElem?_cons_succ, List.getElem?_cons_zero]
  k_steps
  exact ret _ _ _ _ _ _ (by assumption) (by assumption)
theorem st6 (w : World) {mg mb : PySem.Str → Option Value} {loose : List PySem.Str} {mean : ExcName → Option Value} {fa : Addr} {cd : Value} {h₀ base : Heap} {L : Addr} {m : PySem.Str → Option Value}
    {s : Shared} {Q : Flow → Shared → Prop} {E : Value → Shared → Prop} {S c : Addr} {oS oc oCs oCl : Obj} {rest : List (Addr × Obj)} {I : Addr} {ws : List Addr} {nI : Nat}
    (B : Below callerA base [] h₀) (F : Fr h₀ L s.heap m) (X : (hd.heap_39 w.params).In h₀) (T : Top hd.view_39 loose mean mg mb h₀)
    (N : News h₀ L s.heap ((S, oS) :: (c, oc) :: (L + 1 + 1, oCl) :: (L + 1, oCs) :: rest))
    (hI : (I, W.listOf (refs ws).toArray nI) ∈ rest) (hmI : m (PySem.Str.ofString "items") = some (.ref I)) (hl : ws.length ≤ 5)
    (ret : ∀ (D : Addr) (nD : Nat) (h' : Heap) (tk : Nat), (D ≠ S ∧ D ≠ L + 1 + 1) → Fr h₀ L h' (fun y => if y = PySem.Str.ofString "before" then some (.ref D) else m y) →
      News h₀ L h' ((S, oS) :: (c, oc) :: (L + 1 + 1, oCl) :: (L + 1, oCs) :: (D, W.listOf (refs ws).toArray nD) :: rest) → Q .next { s with heap := h', toks := tk }) :
    wpAny (model Challenge.rw_nz0286_01.row.prog w) (callerA.deeper (envOfC (PySem.Str.ofString "law") lawScope L fa cd)) (exec (lawSt 5) (envOfC (PySem.Str.ofString "law") lawScope L fa cd)) Q E s := by
  k_with_none
  k_with "eval Name" => (k_here; k_dflt (refine' nameX_L ?F ?v ?_ ?a ?b; (case F => k_asm); (case a => rfl); (case b => rfl); (case v => assumption); k_whole))
  k_with "call type:list" => (k_here; k_dflt (refine list_copyK (by k_asm) (by k_asm) (News.isList (by k_asm) (by kcf_m)) ?_ (by size_fits)); intro D' c' h' F' N' l1; (try k_lt l1); (try k_sweep))
  revert B F X T N ret
  k_fill
  intro B F X T N ret
  dsimp only [lawSt, lawBody, lawScope, lawDef, PySem.Challenge.pw_nz0286_01, List.getLastD, List.getLast, List.getD_cons_succ, List.getD_cons_zero, List.getD, Option.getD, List.getElem?_cons_succ, List.getElem?_cons_zero]
  k_steps
  exact ret _ _ _ _ ⟨(Nat.ne_of_lt l1.1).symm, (Nat.ne_of_lt l1.2.2.1).symm⟩ (by assumption) (News.perm (by assumption) (by kcf_all))
theorem st7 (w : World) {mg mb : PySem.Str → Option Value} {loose : List PySem.Str} {mean : ExcName → Option Value} {fa : Addr} {cd : Value} {h₀ : Heap} {L : Addr} {m : PySem.Str → Option Value}
    {s : Shared} {Q : Flow → Shared → Prop} {E : Value → Shared → Prop} {S c : Addr} {oS oc oCs oCl : Obj} {rest : List (Addr × Obj)} {I Bf : Addr} {ws : List Addr} {ks : List Nat} {nI nB : Nat} {b1 : Bool}
    (F : Fr h₀ L s.heap m) (X : (hd.heap_39 w.params).In h₀) (T : Top hd.view_39 loose mean mg mb h₀)
    (N : News h₀ L s.heap ((S, oS) :: (c, oc) :: (L + 1 + 1, oCl) :: (L + 1, oCs) :: rest))
    (hI : (I, W.listOf (refs ws).toArray nI) ∈ rest) (hB : (Bf, W.listOf (refs ws).toArray nB) ∈ rest) (hmI : m (PySem.Str.ofString "items") = some (.ref I)) (hmB : m (PySem.Str.ofString "before") = some (.ref Bf)) (hmU : m (PySem.Str.ofString "is_uid") = some (.bool b1))
    (hw : Its h₀ rest ws ks) (hl : ws.length ≤ 5)
    (ret : ∀ (D : Addr) (wd : List Addr) (own : List (Addr × Obj)) (h' : Heap) (tk : Nat), Fr h₀ L h' (fun y => if y = PySem.Str.ofString "due" then some (.ref D) else m y) →
      News h₀ L h' ((S, oS) :: (c, oc) :: (L + 1 + 1, oCl) :: (L + 1, oCs) :: (D, W.listOf (refs wd).toArray 0) :: (own ++ rest)) → (D ≠ S ∧ D ≠ L + 1 + 1) → (∀ p ∈ own, (p.1 ≠ S ∧ p.1 ≠ L + 1 + 1)) → Its h₀ (own ++ rest) wd (wantU ks b1) → Q .next { s with heap := h', toks := tk }) :
    wpAny (model Challenge.rw_nz0286_01.row.prog w) (callerA.deeper (envOfC (PySem.Str.ofString "law") lawScope L fa cd)) (exec (lawSt 6) (envOfC (PySem.Str.ofString "law") lawScope L fa cd)) Q E s := by
  k_with_none
  k_with "eval Name" => (k_here; k_dflt (refine' nameX_L ?F ?v ?_ ?a ?b; (case F => k_asm); (case a => rfl); (case b => rfl); (case v => assumption); k_whole))
  k_with "compareOp NotIn ref ref" => (k_here; k_dflt (first | refine notin_list 1 (by decide) (by k_asm) (by k_asm) (by kcf_m) (by kcf_m) (by assumption) (by kcf_all) (by exact Nat.le_of_ble_eq_true rfl) ?_ | refine notin_list 3 (by decide) (by k_asm) (by k_asm) (by kcf_m) (by kcf_m) (by assumption) (by kcf_all) (by exact Nat.le_of_ble_eq_true rfl) ?_))
  k_with "binaryOp Add ref ref" => (k_here; k_dflt (first | refine add_R [_] _ (by k_asm) (by k_asm) (by kcf_m) (by kcf_m) (by simp only [List.length_cons, List.length_nil]; omega) ?_ | refine add_R [] _ (by k_asm) (by k_asm) (by kcf_m) (by kcf_m) (by simp only [List.length_nil]; omega) ?_); intro D' h' F' N' l1; (try simp only [AllLt, and_true] at l1); (try k_sweep))
  revert F X T N ret
  k_fill
  intro F X T N ret
  dsimp only [lawSt, lawBody, lawScope, lawDef, PySem.Challenge.pw_nz0286_01, List.getLastD, List.getLast, List.getD_cons_succ, List.getD_cons_zero, List.getD, Option.getD, List.getElem?_cons_succ, List.getElem?_cons_zero]
  k_steps
  all_goals first
  | (refine ret _ ([_] ++ ws) [(_, tupO [.str (nm 1) _])] _ _ (by assumption) (News.perm (by assumption) (by kcf_all)) (by refine ⟨neN ?_, neN ?_⟩ <;> omega) ?_ ?_
     · intro p hp
       rw [List.mem_singleton.mp hp]
       refine ⟨neN ?_, neN ?_⟩ <;> (dsimp only; omega)
     · rw [show wantU ks b1 = [1] ++ ks from by simp [wantU, *]]
       exact Its.append (.cons (by decide) (Rd.new (.head _)) .nil) (hw.led (by kcf_all)))
  | (refine ret _ ([] ++ ws) [] _ _ (by assumption) (News.perm (by assumption) (by kcf_all)) (by refine ⟨neN ?_, neN ?_⟩ <;> omega) (fun _ h => nomatch h) ?_
     rw [show wantU ks b1 = ks from by simp [wantU, *]]
     exact hw)
theorem st8 (w : World) {mg mb : PySem.Str → Option Value} {loose : List PySem.Str} {mean : ExcName → Option Value} {fa : Addr} {cd : Value} {h₀ : Heap} {L : Addr} {m : PySem.Str → Option Value}
    {s : Shared} {Q : Flow → Shared → Prop} {E : Value → Shared → Prop} {S c : Addr} {oS oc oCs oCl : Obj} {rest : List (Addr × Obj)} {I Du : Addr} {ws wd : List Addr} {ks kd : List Nat} {nI nD : Nat} {b2 : Bool}
    (F : Fr h₀ L s.heap m) (X : (hd.heap_39 w.params).In h₀) (T : Top hd.view_39 loose mean mg mb h₀)
    (N : News h₀ L s.heap ((S, oS) :: (c, oc) :: (L + 1 + 1, oCl) :: (L + 1, oCs) :: rest))
    (hI : (I, W.listOf (refs ws).toArray nI) ∈ rest) (hB : (Du, W.listOf (refs wd).toArray nD) ∈ rest) (hmI : m (PySem.Str.ofString "items") = some (.ref I)) (hmB : m (PySem.Str.ofString "due") = some (.ref Du)) (hmU : m (PySem.Str.ofString "is_since") = some (.bool b2))
    (hw : Its h₀ rest ws ks) (hwd : Its h₀ rest wd kd) (hl : wd.length ≤ 6)
    (ret : ∀ (D : Addr) (wd' : List Addr) (own : List (Addr × Obj)) (h' : Heap) (tk : Nat), Fr h₀ L h' (fun y => if y = PySem.Str.ofString "due" then some (.ref D) else m y) →
      News h₀ L h' ((S, oS) :: (c, oc) :: (L + 1 + 1, oCl) :: (L + 1, oCs) :: (D, W.listOf (refs wd').toArray 0) :: (own ++ rest)) → (D ≠ S ∧ D ≠ L + 1 + 1) → (∀ p ∈ own, (p.1 ≠ S ∧ p.1 ≠ L + 1 + 1)) → Its h₀ (own ++ rest) wd' (if b2 && !hasK ks 3 then kd ++ [3] else kd) → Q .next { s with heap := h', toks := tk }) :
    wpAny (model Challenge.rw_nz0286_01.row.prog w) (callerA.deeper (envOfC (PySem.Str.ofString "law") lawScope L fa cd)) (exec (lawSt 7) (envOfC (PySem.Str.ofString "law") lawScope L fa cd)) Q E s := by
  k_with_none
  k_with "eval Name" => (k_here; k_dflt (refine' nameX_L ?F ?v ?_ ?a ?b; (case F => k_asm); (case a => rfl); (case b => rfl); (case v => assumption); k_whole))
  k_with "compareOp NotIn ref ref" => (k_here; k_dflt (first | refine notin_list 1 (by decide) (by k_asm) (by k_asm) (by kcf_m) (by kcf_m) (by assumption) (by kcf_all) (by exact Nat.le_of_ble_eq_true rfl) ?_ | refine notin_list 3 (by decide) (by k_asm) (by k_asm) (by kcf_m) (by kcf_m) (by assumption) (by kcf_all) (by exact Nat.le_of_ble_eq_true rfl) ?_))
  k_with "binaryOp Add ref ref" => (k_here; k_dflt (first | refine add_R _ [_] (by k_asm) (by k_asm) (by kcf_m) (by kcf_m) (by simp only [List.length_cons, List.length_nil]; omega) ?_ | refine add_R _ [] (by k_asm) (by k_asm) (by kcf_m) (by kcf_m) (by simp only [List.length_nil]; omega) ?_); intro D' h' F' N' l1; (try simp only [AllLt, and_true] at l1); (try k_sweep))
  revert F X T N ret
  k_fill
  intro F X T N ret
  dsimp only [lawSt, lawBody, lawScope, lawDef, PySem.Challenge.pw_nz0286_01, List.getLastD, List.getLast, List.getD_cons_succ, List.getD_cons_zero, List.getD, Option.getD, List.getElem?_cons_succ, List.getElem?_cons_zero]
  k_steps
  all_goals first
  | (refine ret _ (wd ++ [_]) [(_, tupO [.str (nm 3) _])] _ _ (by assumption) (News.perm (by assumption) (by kcf_all)) (by refine ⟨neN ?_, neN ?_⟩ <;> omega) ?_ ?_
     · intro p hp
       rw [List.mem_singleton.mp hp]
       refine ⟨neN ?_, neN ?_⟩ <;> (dsimp only; omega)
     · rw [if_pos (by simp [*])]
       exact Its.append (hwd.led (by kcf_all)) (.cons (by decide) (Rd.new (.head _)) .nil))
  | (refine ret _ (wd ++ []) [] _ _ (by assumption) (News.perm (by assumption) (by kcf_all)) (by refine ⟨neN ?_, neN ?_⟩ <;> omega) (fun _ h => nomatch h) ?_
     rw [if_neg (by simp [*]), List.append_nil]
     exact hwd)
theorem st9 (w : World) {mg mb : PySem.Str → Option Value} {loose : List PySem.Str} {mean : ExcName → Option Value} {fa : Addr} {cd : Value} {h₀ base : Heap} {L : Addr} {m : PySem.Str → Option Value}
    {s : Shared} {Q : Flow → Shared → Prop} {E : Value → Shared → Prop} {S c : Addr} {its : Array Value} {nS : Nat} {oc oCs oCl : Obj} {rest : List (Addr × Obj)} {I : Addr} {ws : List Addr} {ks : List Nat} {nI : Nat} {b1 b2 : Bool}
    (B : Below callerA base [] h₀) (F : Fr h₀ L s.heap m) (X : (hd.heap_39 w.params).In h₀) (T : Top hd.view_39 loose mean mg mb h₀)
    (N : News h₀ L s.heap ((S, W.listOf its nS) :: (c, oc) :: (L + 1 + 1, oCl) :: (L + 1, oCs) :: rest)) (hCl : oCl.data = .cell none)
    (hI : (I, W.listOf (refs ws).toArray nI) ∈ rest) (hmI : m (PySem.Str.ofString "items") = some (.ref I)) (hmU : m (PySem.Str.ofString "is_uid") = some (.bool b1)) (hmM : m (PySem.Str.ofString "is_since") = some (.bool b2))
    (hw : Its h₀ rest ws ks) (hl : ws.length ≤ 5)
    (ret : ∀ (D : Addr) (nD : Nat) (wd : List Addr) (own : List (Addr × Obj)) (h' : Heap) (tk : Nat), Fr h₀ L h' (fun y => if y = PySem.Str.ofString "found" then some (.ref D) else m y) →
      News h₀ L h' ((S, W.listOf its nS) :: (c, oc) :: (L + 1 + 1, oCl) :: (L + 1, oCs) :: (D, W.listOf (refs wd).toArray nD) :: (own ++ rest)) → (D ≠ S ∧ D ≠ L + 1 + 1) → (∀ p ∈ own, (p.1 ≠ S ∧ p.1 ≠ L + 1 + 1)) → Its h₀ (own ++ rest) wd (wantK ks b1 b2) → Q .next { s with heap := h', toks := tk }) :
    wpAny (model Challenge.rw_nz0286_01.row.prog w) (callerA.deeper (envOfC (PySem.Str.ofString "law") lawScope L fa cd)) (exec (lawSt 8) (envOfC (PySem.Str.ofString "law") lawScope L fa cd)) Q E s := by
  k_with_none
  k_with "eval Name" => (k_here; k_dflt (refine' nameX_L ?F ?v ?_ ?a ?b; (case F => k_asm); (case a => rfl); (case b => rfl); (case v => assumption); k_whole))
  k_with "call ref" => (k_here; (with_reducible show wpAny _ _ (call (Value.ref 218) _ _) _ _ _); k_dflt (refine wanted _ (by k_asm) (by k_asm) (by k_asm) (by k_asm) (news_dup (by k_asm) (by kcf_m)) (by assumption) (by kcf_all) (by omega) ?_); intro D' ws' h' tk' n' own' hne' hown' F' N' hw'; (try k_sweep))
  revert B F X T N ret
  k_fill
  intro B F X T N ret
  dsimp only [lawSt, lawBody, lawScope, lawDef, PySem.Challenge.pw_nz0286_01, List.getLastD, List.getLast, List.getD_cons_succ, List.getD_cons_zero, List.getD, Option.getD, List.getElem?_cons_succ, List.getElem?_cons_zero]
  k_steps
  rename_i h'' F'' N''
  refine ret _ _ ws' own' _ _ (by assumption) (News.perm (by assumption) (by kcf_all)) ⟨Ne.symm (hne' (S, W.listOf its nS) (by kcf_m)), Ne.symm (hne' (L + 1 + 1, oCl) (by kcf_m))⟩ (own_ne N'' (by kcf_all) hown' (by kcf_m) (by kcf_m) hCl) hw'
theorem st10 (w : World) {mg mb : PySem.Str → Option Value} {loose : List PySem.Str} {mean : ExcName → Option Value} {fa : Addr} {cd : Value} {h₀ base : Heap} {L : Addr} {m : PySem.Str → Option Value}
    {s : Shared} {Q : Flow → Shared → Prop} {E : Value → Shared → Prop} {led rest : List (Addr × Obj)} {I Bf Du Fo : Addr} {ws wd wf : List Addr} {ks : List Nat} {nI nB nD nF : Nat} {b1 b2 : Bool}
    (B : Below callerA base [] h₀) (F : Fr h₀ L s.heap m) (X : (hd.heap_39 w.params).In h₀) (T : Top hd.view_39 loose mean mg mb h₀)
    (N : News h₀ L s.heap (led ++ rest))
    (hI : (I, W.listOf (refs ws).toArray nI) ∈ rest) (hB : (Bf, W.listOf (refs ws).toArray nB) ∈ rest) (hD : (Du, W.listOf (refs wd).toArray nD) ∈ rest) (hF : (Fo, W.listOf (refs wf).toArray nF) ∈ rest)
    (hmI : m (PySem.Str.ofString "items") = some (.ref I)) (hmB : m (PySem.Str.ofString "before") = some (.ref Bf)) (hmD : m (PySem.Str.ofString "due") = some (.ref Du)) (hmF : m (PySem.Str.ofString "found") = some (.ref Fo)) (hmU : m (PySem.Str.ofString "is_uid") = some (.bool b1)) (hmM : m (PySem.Str.ofString "is_since") = some (.bool b2))
    (hw : Its h₀ rest ws ks) (hwd : Its h₀ rest wd (wantK ks b1 b2)) (hwf : Its h₀ rest wf (wantK ks b1 b2)) (hl : wf.length ≤ 7)
    (ret : ∀ (h' : Heap) (tk : Nat), Fr h₀ L h' m → News h₀ L h' (led ++ rest) → Q .next { s with heap := h', toks := tk }) :
    wpAny (model Challenge.rw_nz0286_01.row.prog w) (callerA.deeper (envOfC (PySem.Str.ofString "law") lawScope L fa cd)) (exec (lawSt 9) (envOfC (PySem.Str.ofString "law") lawScope L fa cd)) Q E s := by
  k_with_none
  k_with "eval Name" => (k_here; k_dflt (refine' nameX_L ?F ?v ?_ ?a ?b; (case F => k_asm); (case a => rfl); (case b => rfl); (case v => assumption); k_whole))
  k_with "call ref" => (k_here; (with_reducible show wpAny _ _ (call (Value.ref 218) _ _) _ _ _); k_dflt (refine wanted _ (by k_asm) (by k_asm) (by k_asm) (by k_asm) (news_dup (by k_asm) (by kcf_m)) (by assumption) (by kcf_all) (by omega) ?_); intro D' ws' h' tk' n' own' hne' hown' F' N' hw'; (try k_sweep))
  k_with "compareOp NotEq ref ref" => (k_here; k_dflt (refine ne_items (by k_asm) (by k_asm) (by kcf_m) (by kcf_m) (by assumption) (by kcf_all) (by assumption) (by kcf_all) (by first | rfl | exact wantK_idem _ _ _) (by exact Nat.le_of_ble_eq_true rfl) ?_))
  revert B F X T N ret
  k_fill
  intro B F X T N ret
  dsimp only [lawSt, lawBody, lawScope, lawDef, PySem.Challenge.pw_nz0286_01, List.getLastD, List.getLast, List.getD_cons_succ, List.getD_cons_zero, List.getD, Option.getD, List.getElem?_cons_succ, List.getElem?_cons_zero]
  k_steps
  exact ret _ _ (by assumption) (News.perm (by assumption) (by kcf_all))
theorem st11 (w : World) {mg mb : PySem.Str → Option Value} {loose : List PySem.Str} {mean : ExcName → Option Value} {fa : Addr} {cd : Value} {h₀ base : Heap} {L : Addr} {m : PySem.Str → Option Value}
    {s : Shared} {Q : Flow → Shared → Prop} {E : Value → Shared → Prop} {S c : Addr} {vs : List Value} {ns : List Int} {nS nc : Nat} {at' : Int} {ta : Tok} {oCs oCl : Obj} {rest : List (Addr × Obj)}
    (B : Below callerA base [] h₀) (F : Fr h₀ L s.heap m) (X : (hd.heap_39 w.params).In h₀) (T : Top hd.view_39 loose mean mg mb h₀)
    (N : News h₀ L s.heap ((S, W.listOf (List.toArray [Value.ref c, Value.int at' ta]) nS) :: (c, W.listOf vs.toArray nc) :: (L + 1 + 1, oCl) :: (L + 1, oCs) :: rest))
    (hCs : oCs.data = .cell (some (.ref S))) (hCl : oCl.data = .cell none) (hoff : ∀ p ∈ (L + 1 + 1, oCl) :: (L + 1, oCs) :: rest, p.1 ≠ S) (hSc : c ≠ S) (hi : IntsAre vs ns) (hn : 0 < ns.length) (hlen : ns.length ≤ 63)
    (hcl : c ≠ L + 1 + 1) (hoffC : ∀ p ∈ rest, p.1 ≠ L + 1 + 1)
    (ret : ∀ (x dx tf : Addr) (u ms : Int) (k1 t1 k2 t2 k3 k4 t4 k5 t5 t6 : Tok) (h' : Heap) (tk : Nat) (o' : Obj), Fr h₀ L h' m → o'.data = .cell (some (.ref x)) →
      News h₀ L h' ((x, instObj 254 dx) :: (dx, dictOf (letterEs w.params u ms tf k1 t1 k2 t2 k3 k4 t4 k5 t5) 5) :: (tf, tupO [.str (PySem.Str.ofString "k") t6]) :: (L + 1 + 1, o') :: rest) → Q .next { s with heap := h', toks := tk }) :
    wpAny (model Challenge.rw_nz0286_01.row.prog w) (callerA.deeper (envOfC (PySem.Str.ofString "law") lawScope L fa cd)) (exec (lawSt 10) (envOfC (PySem.Str.ofString "law") lawScope L fa cd)) Q E s := by
  k_with_none
  k_with "call ref" => (k_here; (with_reducible show wpAny _ _ (call (Value.ref 270) _ _) _ _ _); k_dflt (first
  | refine draw _ (by k_asm) (by k_asm) (by k_asm) (by k_asm) (ne_tup (by k_asm) (by kcf_m) (by kcf_m) (by assumption)) (News.perm (by k_asm) (by kcf_all)) (by assumption) (by assumption) (by assumption) (by assumption) (by decide) (by decide) ?_
  | refine draw _ (by k_asm) (by k_asm) (by k_asm) (by k_asm) (by assumption) (News.perm (by k_asm) (by kcf_all)) (by assumption) (by assumption) (by assumption) (by assumption) (by decide) (by decide) ?_); intro v' t' h' tk' t2' n' hv0' hv1' F' N'; (try k_sweep))
  k_with "call type:tuple" => (k_here; k_dflt (refine call_tuple_tup (News.isTup (by k_asm) (by k_mem)) ?_))
  revert B F X T N ret
  k_fill
  intro B F X T N ret
  dsimp only [lawSt, lawBody, lawScope, lawDef, PySem.Challenge.pw_nz0286_01, List.getLastD, List.getLast, List.getD_cons_succ, List.getD_cons_zero, List.getD, Option.getD, List.getElem?_cons_succ, List.getElem?_cons_zero]
  have hSC : @Ne Nat (L + 1 + 1) S := hoff _ (.head _)
  replace hcl : @Ne Nat c (L + 1 + 1) := hcl
  k_steps
  exact ret _ _ _ _ _ _ _ _ _ _ _ _ _ _ _ _ _ _ (by assumption) (by assumption) (News.perm (by assumption) (by kcf_all))
theorem st12 (w : World) {mg mb : PySem.Str → Option Value} {loose : List PySem.Str} {mean : ExcName → Option Value} {fa : Addr} {cd : Value} {h₀ base : Heap} {L : Addr} {m : PySem.Str → Option Value}
    {s : Shared} {Q : Flow → Shared → Prop} {E : Value → Shared → Prop} {oCl : Obj} {rest : List (Addr × Obj)} {Fo : Addr} {wf : List Addr} {kf : List Nat} {nF : Nat}
    {x dx tf : Addr} {u ms : Int} {k1 t1 k2 t2 k3 k4 t4 k5 t5 t6 : Tok}
    (B : Below callerA base [] h₀) (F : Fr h₀ L s.heap m) (X : (hd.heap_39 w.params).In h₀) (T : Top hd.view_39 loose mean mg mb h₀)
    (N : News h₀ L s.heap ((x, instObj 254 dx) :: (dx, dictOf (letterEs w.params u ms tf k1 t1 k2 t2 k3 k4 t4 k5 t5) 5) :: (tf, tupO [.str (PySem.Str.ofString "k") t6]) :: (L + 1 + 1, oCl) :: rest)) (hCl : oCl.data = .cell (some (.ref x)))
    (hF : (Fo, W.listOf (refs wf).toArray nF) ∈ rest) (hmF : m (PySem.Str.ofString "found") = some (.ref Fo)) (hwf : Its h₀ rest wf kf) (hl : wf.length ≤ 7)
    (ret : ∀ (D : Addr) (ps : List Addr) (own : List (Addr × Obj)) (h' : Heap) (tk : Nat), Fr h₀ L h' (fun y => if y = PySem.Str.ofString "pairs" then some (.ref D) else m y) →
      News h₀ L h' ((D, W.listOf (refs ps).toArray ps.length) :: (x, instObj 254 dx) :: (dx, dictOf (letterEs w.params u ms tf k1 t1 k2 t2 k3 k4 t4 k5 t5) 5) :: (tf, tupO [.str (PySem.Str.ofString "k") t6]) :: (L + 1 + 1, oCl) :: (own ++ rest)) → Prs u ms own ps kf → Q .next { s with heap := h', toks := tk }) :
    wpAny (model Challenge.rw_nz0286_01.row.prog w) (callerA.deeper (envOfC (PySem.Str.ofString "law") lawScope L fa cd)) (exec (lawSt 11) (envOfC (PySem.Str.ofString "law") lawScope L fa cd)) Q E s := by
  k_with_none
  k_with "eval Name" => (k_here; k_dflt (refine' nameX_L ?F ?v ?_ ?a ?b; (case F => k_asm); (case a => rfl); (case b => rfl); (case v => assumption); k_whole))
  k_with "exec Assign cons ListComp" => (k_here; k_dflt (refine LCg.Assign_ListComp_U (F₀ := by k_asm) (by rfl) (by with_unfolding_all rfl) (by with_unfolding_all rfl) (by decide) (by rfl) (by decide) (by rfl) (by rfl) (by rfl) ?_))
  k_with "CompSrc" => (k_here; k_dflt (refine LCg.CompSrc.ledger (by rfl) (by k_asm) (by k_asm) (by kcf_m) (by rw [List.size_toArray, refs_length, PySem.sizeLine_eq]; omega) ?_); intro g')
  k_with "call ref" => (k_here; (with_reducible show wpAny _ _ (call (Value.ref 223) _ _) _ _ _); k_dflt (refine pair _ (by k_asm) (by k_asm) (by k_asm) (by k_asm) (news_rot3 (by k_asm)) (by assumption) (Rd.led (by assumption) (by kcf_all)) ?_); intro p' y' tk2' h' tk' own' hp' hown' hval' F' N'; (try k_sweep))
  revert B F X T N ret
  k_fill
  intro B F X T N ret
  dsimp only [lawSt, lawBody, lawScope, lawDef, PySem.Challenge.pw_nz0286_01, List.getLastD, List.getLast, List.getD_cons_succ, List.getD_cons_zero, List.getD, Option.getD, List.getElem?_cons_succ, List.getElem?_cons_zero]
  k_steps
  refine rest_inv (fun i ys nw => ∃ (own : List (Addr × Obj)) (ps : List Addr), nw = (x, instObj 254 dx) :: (dx, dictOf (letterEs w.params u ms tf k1 t1 k2 t2 k3 k4 t4 k5 t5) 5) :: (tf, tupO [.str (PySem.Str.ofString "k") t6]) :: (L + 1 + 1, oCl) :: (own ++ rest) ∧ ys = refs ps ∧ Prs u ms own ps (kf.take i)) ?_ ?_ ⟨[], [], rfl, rfl, .nil⟩
  · rintro i ys nw v I' oI' C' oC' D' m' h' tk' E' hi' ⟨own, ps, rfl, rfl, hp⟩ hv hC' hx' F' N' off' ne'
    obtain ⟨a, rfl, ha⟩ := refs_get (by simpa using hv)
    obtain ⟨k, hk, hk4, hr⟩ := hwf.get ha
    k_steps
    refine ce_intro (off_add (new := (p', tupO [.str (tt k) tk2', y']) :: own') off' (List.forall_mem_cons.mpr ⟨lt_three hp', fun q hq => lt_three (hown' q hq)⟩)) (by assumption) (by assumption) (by kcf_all) (.inr ⟨_, (by kcf_m : (Fo, W.listOf (refs wf).toArray nF) ∈ _), rfl, _, rfl⟩) ⟨_, ps ++ [p'], rfl, ?_, ?_⟩
    · simp [refs]
    · rw [List.take_add_one, hk]
      exact (hp.led (by kcf_all)).append (.cons hk4 ⟨y', tk2', by kcf_m, hval'.led (by kcf_all)⟩ .nil)
  · rintro ys nw ⟨own, ps, rfl, rfl, hp⟩
    have hlen : (refs wf).toArray.size = kf.length := by rw [List.size_toArray, refs_length, hwf.length]
    rw [hlen, List.take_length] at hp
    k_steps
    exact ret _ ps own _ _ (by assumption) (News.perm (by assumption) (by rw [← refs_length ps]; kcf_all)) hp
theorem st13 (w : World) {mg mb : PySem.Str → Option Value} {loose : List PySem.Str} {mean : ExcName → Option Value} {fa : Addr} {cd : Value} {h₀ : Heap} {L : Addr} {m : PySem.Str → Option Value}
    {s : Shared} {Q : Flow → Shared → Prop} {E : Value → Shared → Prop} {led : List (Addr × Obj)} {Pz : Addr} {ps : List Addr} {kf : List Nat} {nP : Nat} {u ms : Int}
    (F : Fr h₀ L s.heap m) (X : (hd.heap_39 w.params).In h₀) (T : Top hd.view_39 loose mean mg mb h₀)
    (N : News h₀ L s.heap led) (hP : (Pz, W.listOf (refs ps).toArray nP) ∈ led) (hmP : m (PySem.Str.ofString "pairs") = some (.ref Pz)) (hps : Prs u ms led ps kf) (hl : ps.length ≤ 7)
    (ret : ∀ (D : Addr) (vs : List Value) (h' : Heap) (tk : Nat), Fr h₀ L h' (fun y => if y = PySem.Str.ofString "titles" then some (.ref D) else m y) →
      News h₀ L h' ((D, W.listOf vs.toArray vs.length) :: led) → Tts vs kf → Q .next { s with heap := h', toks := tk }) :
    wpAny (model Challenge.rw_nz0286_01.row.prog w) (callerA.deeper (envOfC (PySem.Str.ofString "law") lawScope L fa cd)) (exec (lawSt 12) (envOfC (PySem.Str.ofString "law") lawScope L fa cd)) Q E s := by
  k_with_none
  k_with "eval Name" => (k_here; k_dflt (refine' nameX_L ?F ?v ?_ ?a ?b; (case F => k_asm); (case a => rfl); (case b => rfl); (case v => assumption); k_whole))
  k_with "exec Assign cons ListComp" => (k_here; k_dflt (refine LCg.Assign_ListComp_U (F₀ := by k_asm) (by rfl) (by with_unfolding_all rfl) (by with_unfolding_all rfl) (by decide) (by rfl) (by decide) (by rfl) (by rfl) (by rfl) ?_))
  k_with "CompSrc" => (k_here; k_dflt (refine LCg.CompSrc.ledger (by rfl) (by k_asm) (by k_asm) (by kcf_m) (by rw [List.size_toArray, refs_length, PySem.sizeLine_eq]; omega) ?_); intro g')
  k_with "subscriptTail Name Constant ref int" => (k_here; k_dflt (refine item_tupleT (News.isTup (by k_asm) (by kcf_m)) (by decide) (by decide) (by rfl) (by rfl) ?_))
  revert F X T N ret
  k_fill
  intro F X T N ret
  dsimp only [lawSt, lawBody, lawScope, lawDef, PySem.Challenge.pw_nz0286_01, List.getLastD, List.getLast, List.getD_cons_succ, List.getD_cons_zero, List.getD, Option.getD, List.getElem?_cons_succ, List.getElem?_cons_zero]
  k_steps
  refine rest_inv (fun i ys nw => nw = led ∧ Tts ys (kf.take i)) ?_ ?_ ⟨rfl, .nil⟩
  · rintro i ys nw v I' oI' C' oC' D' m' h' tk' E' hi' ⟨rfl, ht⟩ hv hC' hx' F' N' off' ne'
    obtain ⟨p, rfl, hp⟩ := refs_get (by simpa using hv)
    obtain ⟨k, hk, hk4, y, tk, hm, _⟩ := hps.get hp
    k_steps
    refine ce_intro off' (by assumption) (by assumption) (by kcf_all) (.inr ⟨_, hP, rfl, _, rfl⟩) ⟨rfl, ?_⟩
    rw [List.take_add_one, hk]
    exact ht.append (.cons .nil)
  · rintro ys nw ⟨rfl, ht⟩
    have hlen : (refs ps).toArray.size = kf.length := by rw [List.size_toArray, refs_length, hps.length]
    rw [hlen, List.take_length] at ht
    k_steps
    exact ret _ ys _ _ (by assumption) (by assumption) ht
theorem st14 (w : World) {mg mb : PySem.Str → Option Value} {loose : List PySem.Str} {mean : ExcName → Option Value} {fa : Addr} {cd : Value} {h₀ : Heap} {L : Addr} {m : PySem.Str → Option Value}
    {s : Shared} {Q : Flow → Shared → Prop} {E : Value → Shared → Prop} {oCl : Obj} {rest : List (Addr × Obj)} {Bf Pz : Addr} {ws ps : List Addr} {ks : List Nat} {nB nP : Nat} {b1 b2 : Bool}
    {x dx tf : Addr} {u ms : Int} {k1 t1 k2 t2 k3 k4 t4 k5 t5 t6 : Tok}
    (F : Fr h₀ L s.heap m) (X : (hd.heap_39 w.params).In h₀) (T : Top hd.view_39 loose mean mg mb h₀)
    (N : News h₀ L s.heap ((x, instObj 254 dx) :: (dx, dictOf (letterEs w.params u ms tf k1 t1 k2 t2 k3 k4 t4 k5 t5) 5) :: (tf, tupO [.str (PySem.Str.ofString "k") t6]) :: (L + 1 + 1, oCl) :: rest)) (hCl : oCl.data = .cell (some (.ref x)))
    (hB : (Bf, W.listOf (refs ws).toArray nB) ∈ rest) (hmB : m (PySem.Str.ofString "before") = some (.ref Bf)) (hw : Its h₀ rest ws ks) (hmU : m (PySem.Str.ofString "is_uid") = some (.bool b1))
    (hP : (Pz, W.listOf (refs ps).toArray nP) ∈ rest) (hmP : m (PySem.Str.ofString "pairs") = some (.ref Pz)) (hps : Prs u ms rest ps (wantK ks b1 b2))
    (ret : ∀ (h' : Heap) (tk : Nat), Fr h₀ L h' m → News h₀ L h' ((x, instObj 254 dx) :: (dx, dictOf (letterEs w.params u ms tf k1 t1 k2 t2 k3 k4 t4 k5 t5) 5) :: (tf, tupO [.str (PySem.Str.ofString "k") t6]) :: (L + 1 + 1, oCl) :: rest) → Q .next { s with heap := h', toks := tk }) :
    wpAny (model Challenge.rw_nz0286_01.row.prog w) (callerA.deeper (envOfC (PySem.Str.ofString "law") lawScope L fa cd)) (exec (lawSt 13) (envOfC (PySem.Str.ofString "law") lawScope L fa cd)) Q E s := by
  k_with_none
  k_with "eval Name" => (k_here; k_dflt (refine' nameX_L ?F ?v ?_ ?a ?b; (case F => k_asm); (case a => rfl); (case b => rfl); (case v => assumption); k_whole))
  k_with "compareOp NotIn ref ref" => (k_here; k_dflt (refine notin_list 1 (by decide) (by k_asm) (by k_asm) (by kcf_m) (by kcf_m) (by assumption) (by kcf_all) (by exact Nat.le_of_ble_eq_true rfl) ?_))
  k_with "compareOp NotEq ref ref" => (k_here; k_dflt (refine ne_pair (by k_asm) (by kcf_m) (by kcf_m) (shaped_pair _ (by decide +kernel) _) (by exact Nat.le_of_ble_eq_true rfl) ?_))
  revert F X T N ret
  k_fill
  intro F X T N ret
  dsimp only [lawSt, lawBody, lawScope, lawDef, PySem.Challenge.pw_nz0286_01, List.getLastD, List.getLast, List.getD_cons_succ, List.getD_cons_zero, List.getD, Option.getD, List.getElem?_cons_succ, List.getElem?_cons_zero]
  have hp0 : b1 = true → hasK ks 1 = false → ∃ p0 tk t, (refs ps)[0]? = some (.ref p0) ∧ (p0, tupO [.str (PySem.Str.ofString "UID") tk, .int u t]) ∈ rest := by
    rintro rfl h1
    obtain ⟨r, hr⟩ := wantK_head (v := b2) h1
    rw [hr] at hps
    cases hps with
    | cons hk hp _ =>
      obtain ⟨y, tk, hm, hv⟩ := hp
      obtain ⟨t, rfl⟩ := hv.1 rfl
      exact ⟨_, tk, t, rfl, hm⟩
  k_steps
  all_goals first
  | exact ret _ _ (by assumption) (News.perm (by assumption) (by kcf_all))
  | (obtain ⟨p0, tk, t, hx0, hm0⟩ := hp0 (by assumption) (by assumption)
     k_dflt (refine list0 (by k_asm) (by kcf_m) hx0 ?_)
     k_steps
     exact ret _ _ (by assumption) (News.perm (by assumption) (by kcf_all)))
theorem st15 (w : World) {mg mb : PySem.Str → Option Value} {loose : List PySem.Str} {mean : ExcName → Option Value} {fa : Addr} {cd : Value} {h₀ : Heap} {L : Addr} {m : PySem.Str → Option Value}
    {s : Shared} {Q : Flow → Shared → Prop} {E : Value → Shared → Prop} {led : List (Addr × Obj)} {Pz : Addr} {ps : List Addr} {ks : List Nat} {nP : Nat} {u ms : Int} {b1 b2 : Bool}
    (F : Fr h₀ L s.heap m) (X : (hd.heap_39 w.params).In h₀) (T : Top hd.view_39 loose mean mg mb h₀)
    (N : News h₀ L s.heap led) (hP : (Pz, W.listOf (refs ps).toArray nP) ∈ led) (hmP : m (PySem.Str.ofString "pairs") = some (.ref Pz)) (hmM : m (PySem.Str.ofString "is_since") = some (.bool b2)) (hps : Prs u ms led ps (wantK ks b1 b2)) (hl : ps.length ≤ 7)
    (ret : ∀ (h' : Heap) (tk : Nat), Fr h₀ L h' m → News h₀ L h' led → Q .next { s with heap := h', toks := tk }) :
    wpAny (model Challenge.rw_nz0286_01.row.prog w) (callerA.deeper (envOfC (PySem.Str.ofString "law") lawScope L fa cd)) (exec (lawSt 14) (envOfC (PySem.Str.ofString "law") lawScope L fa cd)) Q E s := by
  k_with_none
  k_with "ite" => (first | refine ite_neg (by with_reducible assumption) ?_ | refine ite_pos (by with_reducible assumption) ?_)
  k_with "eval Name" => (k_here; k_dflt (refine' nameX_L ?F ?v ?_ ?a ?b; (case F => k_asm); (case a => rfl); (case b => rfl); (case v => assumption); k_whole))
  k_with "eval ListComp" => (k_here; k_dflt (refine LCt.ListComp_T (F₀ := by k_asm) (by with_unfolding_all rfl) (by decide) (by rfl) (by decide) (by rfl) ?_))
  k_with "CompSrcT" => (k_here; k_dflt (refine LCt.CompSrcT.ledger (by rfl) (by k_asm) (by k_asm) (by kcf_m) (by rw [List.size_toArray, refs_length, PySem.sizeLine_eq]; omega) ?_); intro g')
  k_with "subscriptTail Name Constant ref int" => (k_here; k_dflt (refine item_tupleT (News.isTup (by k_asm) (by kcf_m)) (by decide) (by decide) (by rfl) (by rfl) ?_))
  k_with "compareOp Eq ref ref" => (k_here; k_dflt (refine eq_mss (ws := []) (by k_asm) (by kcf_m) (by kcf_m) (by assumption) (by kcf_all) .nil (List.forall_mem_nil _) (by exact Nat.le_of_ble_eq_true rfl) ?_))
  revert F X T N ret
  k_fill
  intro F X T N ret
  dsimp only [lawSt, lawBody, lawScope, lawDef, PySem.Challenge.pw_nz0286_01, List.getLastD, List.getLast, List.getD_cons_succ, List.getD_cons_zero, List.getD, Option.getD, List.getElem?_cons_succ, List.getElem?_cons_zero]
  k_steps
  · refine restT_inv (fun i ys nw => nw = led ∧ Mss ms led ys ∧ ys.length = cnt ((wantK ks b1 b2).take i)) ?_ ?_ ⟨rfl, .nil, rfl⟩
    · rintro i ys nw v I' oI' C' oC' D' m' h' tk' E' hi' ⟨rfl, hm, hc⟩ hv hC' hx' F' N' off' ne'
      obtain ⟨p, rfl, hp⟩ := refs_get (by simpa using hv)
      obtain ⟨k, hk, hk4, y, tk, hm', hy⟩ := hps.get hp
      by_cases h3 : k = 3
      · have h3' : (tt k == PySem.Str.ofString "MODSEQ") = true := by rw [tt_modseq hk4, h3]; rfl
        obtain ⟨q, tq, nq, rfl, hq⟩ := hy.2 h3
        k_steps
        refine ce_intro off' (by assumption) (by assumption) (by kcf_all) (.inr ⟨_, hP, rfl, _, rfl⟩) ⟨rfl, hm.snoc hq, ?_⟩
        rw [cnt_take hk, if_pos h3, List.length_append, List.length_singleton, hc]
      · have h3' : ¬ ((tt k == PySem.Str.ofString "MODSEQ") = true) := by rw [tt_modseq hk4]; simpa using h3
        k_steps
        refine ce_intro off' (by assumption) (by assumption) (by kcf_all) (.inr ⟨_, hP, rfl, _, rfl⟩) ⟨rfl, hm, ?_⟩
        rw [cnt_take hk, if_neg h3, hc]
        rfl
    · rintro ys nw ⟨rfl, hm, hc⟩
      have hlen : (refs ps).toArray.size = (wantK ks b1 b2).length := by rw [List.size_toArray, refs_length, hps.length]
      rw [hlen, List.take_length] at hc
      have hb2 : b2 = true := by assumption
      have hpos : 0 < ys.length := by
        rw [hc, hb2]
        exact cnt_pos (wantK_has3 ks b1)
      have hne : ¬ ((ys.length == ([] : List Value).length) = true) := by
        rw [List.length_nil, beq_iff_eq]
        omega
      k_steps
      exact ret _ _ (by assumption) (News.perm (by assumption) (by kcf_all))
  · exact ret s.heap s.toks F N
theorem st16 (w : World) {mg mb : PySem.Str → Option Value} {loose : List PySem.Str} {mean : ExcName → Option Value} {fa : Addr} {cd : Value} {h₀ : Heap} {L : Addr} {m : PySem.Str → Option Value}
    {s : Shared} {Q : Flow → Shared → Prop} {E : Value → Shared → Prop} {oCl : Obj} {rest : List (Addr × Obj)} {Pz Ti : Addr} {ps : List Addr} {vs : List Value} {kf : List Nat} {nP nT : Nat}
    {x dx tf : Addr} {u ms : Int} {k1 t1 k2 t2 k3 k4 t4 k5 t5 t6 : Tok}
    (F : Fr h₀ L s.heap m) (X : (hd.heap_39 w.params).In h₀) (T : Top hd.view_39 loose mean mg mb h₀)
    (N : News h₀ L s.heap ((x, instObj 254 dx) :: (dx, dictOf (letterEs w.params u ms tf k1 t1 k2 t2 k3 k4 t4 k5 t5) 5) :: (tf, tupO [.str (PySem.Str.ofString "k") t6]) :: (L + 1 + 1, oCl) :: rest)) (hCl : oCl.data = .cell (some (.ref x)))
    (hP : (Pz, W.listOf (refs ps).toArray nP) ∈ rest) (hmP : m (PySem.Str.ofString "pairs") = some (.ref Pz)) (hps : Prs u ms rest ps kf) (hl : ps.length ≤ 7)
    (hT : (Ti, W.listOf vs.toArray nT) ∈ rest) (hmT : m (PySem.Str.ofString "titles") = some (.ref Ti)) (hts : Tts vs kf)
    (ret : ∀ (h' : Heap) (tk : Nat), Fr h₀ L h' m → News h₀ L h' ((x, instObj 254 dx) :: (dx, dictOf (letterEs w.params u ms tf k1 t1 k2 t2 k3 k4 t4 k5 t5) 5) :: (tf, tupO [.str (PySem.Str.ofString "k") t6]) :: (L + 1 + 1, oCl) :: rest) → Q .next { s with heap := h', toks := tk }) :
    wpAny (model Challenge.rw_nz0286_01.row.prog w) (callerA.deeper (envOfC (PySem.Str.ofString "law") lawScope L fa cd)) (exec (lawSt 15) (envOfC (PySem.Str.ofString "law") lawScope L fa cd)) Q E s := by
  k_with_none
  k_with "ite" => (first | refine ite_neg (by with_reducible assumption) ?_ | refine ite_pos (by with_reducible assumption) ?_)
  k_with "eval Name" => (k_here; k_dflt (refine' nameX_L ?F ?v ?_ ?a ?b; (case F => k_asm); (case a => rfl); (case b => rfl); (case v => assumption); k_whole))
  k_with "eval ListComp" => (k_here; k_dflt (refine LCt.ListComp_T (F₀ := by k_asm) (by with_unfolding_all rfl) (by decide) (by rfl) (by decide) (by rfl) ?_))
  k_with "CompSrcT" => (k_here; k_dflt (refine LCt.CompSrcT.ledger (by rfl) (by k_asm) (by k_asm) (by kcf_m) (by rw [List.size_toArray, refs_length, PySem.sizeLine_eq]; omega) ?_); intro g')
  k_with "subscriptTail Name Constant ref int" => (k_here; k_dflt (refine item_tupleT (News.isTup (by k_asm) (by kcf_m)) (by decide) (by decide) (by rfl) (by rfl) ?_))
  k_with "compareOp NotEq ref ref" => (k_here; k_dflt (refine ne_mss_eq (by k_asm) (by kcf_m) (by kcf_m) (by assumption) (by kcf_all) (by assumption) (by kcf_all) (by omega) (by exact Nat.le_of_ble_eq_true rfl) ?_))
  k_with "getMethod ref" => (k_here; (with_reducible show wpAny _ _ (getMethod (Value.ref _) (PySem.Str.ofString "count") _) _ _ _); k_dflt (refine kl_method (by k_asm) (by kcf_m) PySem.F.slot_list_count PySem.F.type_list_count ?_))
  k_with "call builtin:list.count" => (k_here; k_dflt (refine count_tts (by k_asm) (by kcf_m) (by assumption) (by assumption) ?_))
  k_with "binaryOp Mult ref int" => (k_here; k_dflt (refine mul_mss (by k_asm) (by k_asm) (by kcf_m) (by kcf_m) (by omega) (by omega) ?_); intro D' h' ws' F' N' hm' hl'; (try k_sweep))
  revert F X T N ret
  k_fill
  intro F X T N ret
  dsimp only [lawSt, lawBody, lawScope, lawDef, PySem.Challenge.pw_nz0286_01, List.getLastD, List.getLast, List.getD_cons_succ, List.getD_cons_zero, List.getD, Option.getD, List.getElem?_cons_succ, List.getElem?_cons_zero]
  k_steps
  refine restT_inv (fun i ys nw => nw = (x, instObj 254 dx) :: (dx, dictOf (letterEs w.params u ms tf k1 t1 k2 t2 k3 k4 t4 k5 t5) 5) :: (tf, tupO [.str (PySem.Str.ofString "k") t6]) :: (L + 1 + 1, oCl) :: rest ∧ Mss ms rest ys ∧ ys.length = cnt (kf.take i)) ?_ ?_ ⟨rfl, .nil, rfl⟩
  · rintro i ys nw v I' oI' C' oC' D' m' h' tk' E' hi' ⟨rfl, hm, hc⟩ hv hC' hx' F' N' off' ne'
    obtain ⟨p, rfl, hp⟩ := refs_get (by simpa using hv)
    obtain ⟨k, hk, hk4, y, tk, hm', hy⟩ := hps.get hp
    by_cases h3 : k = 3
    · have h3' : (tt k == PySem.Str.ofString "MODSEQ") = true := by rw [tt_modseq hk4, h3]; rfl
      obtain ⟨q, tq, nq, rfl, hq⟩ := hy.2 h3
      k_steps
      refine ce_intro off' (by assumption) (by assumption) (by kcf_all) (.inr ⟨_, (by kcf_m : (Pz, W.listOf (refs ps).toArray nP) ∈ _), rfl, _, rfl⟩) ⟨rfl, hm.snoc hq, ?_⟩
      rw [cnt_take hk, if_pos h3, List.length_append, List.length_singleton, hc]
    · have h3' : ¬ ((tt k == PySem.Str.ofString "MODSEQ") = true) := by rw [tt_modseq hk4]; simpa using h3
      k_steps
      refine ce_intro off' (by assumption) (by assumption) (by kcf_all) (.inr ⟨_, (by kcf_m : (Pz, W.listOf (refs ps).toArray nP) ∈ _), rfl, _, rfl⟩) ⟨rfl, hm, ?_⟩
      rw [cnt_take hk, if_neg h3, hc]
      rfl
  · rintro ys nw ⟨rfl, hm, hc⟩
    have hlen : (refs ps).toArray.size = kf.length := by rw [List.size_toArray, refs_length, hps.length]
    rw [hlen, List.take_length] at hc
    have h4 := hps.lt
    have hle : cnt kf ≤ 7 := by
      have h1 := cnt_le kf
      have h2 := hps.length
      omega
    k_steps
    exact ret _ _ (by assumption) (News.perm (by assumption) (by kcf_all))
theorem st17 (w : World) {mg mb : PySem.Str → Option Value} {loose : List PySem.Str} {mean : ExcName → Option Value} {fa : Addr} {cd : Value} {h₀ : Heap} {L : Addr} {m : PySem.Str → Option Value}
    {s : Shared} {Q : Flow → Shared → Prop} {E : Value → Shared → Prop} {led : List (Addr × Obj)} {Ti Fo : Addr} {wf : List Addr} {vs : List Value} {kf : List Nat} {nF nT : Nat}
    (F : Fr h₀ L s.heap m) (X : (hd.heap_39 w.params).In h₀) (T : Top hd.view_39 loose mean mg mb h₀)
    (N : News h₀ L s.heap led)
    (hF : (Fo, W.listOf (refs wf).toArray nF) ∈ led) (hmF : m (PySem.Str.ofString "found") = some (.ref Fo)) (hwf : Its h₀ led wf kf) (hl : wf.length ≤ 7)
    (hT : (Ti, W.listOf vs.toArray nT) ∈ led) (hmT : m (PySem.Str.ofString "titles") = some (.ref Ti)) (hts : Tts vs kf)
    (ret : ∀ (h' : Heap) (tk : Nat), Fr h₀ L h' m → Q (.ret (.bool true)) { s with heap := h', toks := tk }) :
    wpAny (model Challenge.rw_nz0286_01.row.prog w) (callerA.deeper (envOfC (PySem.Str.ofString "law") lawScope L fa cd)) (exec (lawSt 16) (envOfC (PySem.Str.ofString "law") lawScope L fa cd)) Q E s := by
  k_with_none
  k_with "eval Name" => (k_here; k_dflt (refine' nameX_L ?F ?v ?_ ?a ?b; (case F => k_asm); (case a => rfl); (case b => rfl); (case v => assumption); k_whole))
  k_with "eval ListComp" => (k_here; k_dflt (refine LCg.ListComp_U (F₀ := by k_asm) (by with_unfolding_all rfl) (by decide) (by rfl) (by decide) (by rfl) ?_))
  k_with "CompSrc" => (k_here; k_dflt (refine LCg.CompSrc.ledger (by rfl) (by k_asm) (by k_asm) (by kcf_m) (by rw [List.size_toArray, refs_length, PySem.sizeLine_eq]; omega) ?_); intro g')
  k_with "subscriptTail Name Constant ref int" => (k_here; k_dflt (refine item0 (by assumption) (by k_asm) (by k_asm) (by kcf_all) ?_); intro tk')
  k_with "compareOp Eq ref ref" => (k_here; k_dflt (refine eq_tts (by k_asm) (by kcf_m) (by kcf_m) (by assumption) (by assumption) (by exact Nat.le_of_ble_eq_true rfl) ?_))
  k_with "subscriptTail" => (k_here; (with_reducible show wpAny _ _ (subscriptTail _ _ (Value.ref _) (Value.str (nm _) _)) _ _ _); rcases hk' with rfl | rfl | rfl | rfl <;> dsimp only [nm])
  revert F X T N ret
  k_fill
  intro F X T N ret
  dsimp only [lawSt, lawBody, lawScope, lawDef, PySem.Challenge.pw_nz0286_01, List.getLastD, List.getLast, List.getD_cons_succ, List.getD_cons_zero, List.getD, Option.getD, List.getElem?_cons_succ, List.getElem?_cons_zero]
  k_steps
  refine rest_inv (fun i ys nw => nw = led ∧ Tts ys (kf.take i)) ?_ ?_ ⟨rfl, .nil⟩
  · rintro i ys nw v I' oI' C' oC' D' m' h' tk' E' hi' ⟨rfl, ht⟩ hv hC' hx' F' N' off' ne'
    obtain ⟨a, rfl, ha⟩ := refs_get (by simpa using hv)
    obtain ⟨k, hk, hk4, hr⟩ := hwf.get ha
    have hk' : k = 0 ∨ k = 1 ∨ k = 2 ∨ k = 3 := by omega
    clear hk4
    k_steps
    all_goals
      refine ce_intro off' (by assumption) (by assumption) (by kcf_all) (.inr ⟨_, hF, rfl, _, rfl⟩) ⟨rfl, ?_⟩
      rw [List.take_add_one, hk]
      first | exact ht.append (Tts.cons (k := 0) .nil) | exact ht.append (Tts.cons (k := 1) .nil) | exact ht.append (Tts.cons (k := 2) .nil) | exact ht.append (Tts.cons (k := 3) .nil)
  · rintro ys nw ⟨rfl, ht⟩
    have hlen : (refs wf).toArray.size = kf.length := by rw [List.size_toArray, refs_length, hwf.length]
    rw [hlen, List.take_length] at ht
    k_steps
    exact ret _ _ (by assumption)
theorem rest3 (w : World) {mg mb : PySem.Str → Option Value} {loose : List PySem.Str} {mean : ExcName → Option Value} {fa : Addr} {cd : Value} {h₀ base : Heap} {L : Addr} {m : PySem.Str → Option Value}
    {s : Shared} {Q : Flow → Shared → Prop} {E : Value → Shared → Prop} {S c : Addr} {vs : List Value} {ns : List Int} {nS nc : Nat} {at' : Int} {ta : Tok} {oCs oCl : Obj}
    (B : Below callerA base [] h₀) (F : Fr h₀ L s.heap m) (X : (hd.heap_39 w.params).In h₀) (T : Top hd.view_39 loose mean mg mb h₀)
    (N : News h₀ L s.heap ((S, W.listOf (List.toArray [Value.ref c, Value.int at' ta]) nS) :: (c, W.listOf vs.toArray nc) :: (L + 1 + 1, oCl) :: (L + 1, oCs) :: []))
    (hCs : oCs.data = .cell (some (.ref S))) (hCl : oCl.data = .cell none) (hoff : ∀ p ∈ (L + 1 + 1, oCl) :: (L + 1, oCs) :: ([] : List (Addr × Obj)), p.1 ≠ S) (hSc : c ≠ S) (hcl : c ≠ L + 1 + 1) (hi : IntsAre vs ns) (hn : 0 < ns.length) (hlen : ns.length ≤ 63)
    (ret : ∀ (h' : Heap) (tk : Nat) (m' : PySem.Str → Option Value), Fr h₀ L h' m' → Q (.ret (.bool true)) { s with heap := h', toks := tk }) :
    wpAny (model Challenge.rw_nz0286_01.row.prog w) (callerA.deeper (envOfC (PySem.Str.ofString "law") lawScope L fa cd)) (execs (lawBody.drop 2) (envOfC (PySem.Str.ofString "law") lawScope L fa cd)) Q E s := by
  refine wpAny_execs_cons (st := lawSt 2) (rest := lawBody.drop 3) ?_
  refine st3 w B F X T N hCs hoff hSc hi hn hlen ?_
  intro I nI ws ks h3 tk3 a3 t3 n3 hl hw hI F3 N3
  have hoff3 : ∀ p ∈ (L + 1 + 1, oCl) :: (L + 1, oCs) :: (I, W.listOf (refs ws).toArray nI) :: ([] : List (Addr × Obj)), p.1 ≠ S := by
    intro p hp
    simp only [List.mem_cons, List.not_mem_nil, or_false] at hp
    rcases hp with rfl | rfl | rfl
    · exact hoff _ (.head _)
    · exact hoff _ (.tail _ (.head _))
    · exact hI.1
  refine wpAny_execs_cons (st := lawSt 3) (rest := lawBody.drop 4) ?_
  refine st4 w B F3 X T N3 hCs hoff3 hSc hi hn hlen ?_
  intro b1 h4 tk4 a4 t4 n4 F4 N4
  refine wpAny_execs_cons (st := lawSt 4) (rest := lawBody.drop 5) ?_
  refine st5 w B F4 X T N4 hCs hoff3 hSc hi hn hlen ?_
  intro b2 h5 tk5 a5 t5 n5 F5 N5
  refine wpAny_execs_cons (st := lawSt 5) (rest := lawBody.drop 6) ?_
  refine st6 w B F5 X T N5 (.head _) rfl hl ?_
  intro Bf nB h6 tk6 hB F6 N6
  generalize hr6 : (Bf, W.listOf (refs ws).toArray nB) :: (I, W.listOf (refs ws).toArray nI) :: ([] : List (Addr × Obj)) = rest6 at N6
  have mB6 : (Bf, W.listOf (refs ws).toArray nB) ∈ rest6 := hr6 ▸ .head _
  have mI6 : (I, W.listOf (refs ws).toArray nI) ∈ rest6 := hr6 ▸ .tail _ (.head _)
  have n6 : ∀ p ∈ rest6, p.1 ≠ S ∧ p.1 ≠ L + 1 + 1 := hr6 ▸ List.forall_mem_cons.mpr ⟨hB, List.forall_mem_cons.mpr ⟨hI, List.forall_mem_nil _⟩⟩
  have w6 : Its h₀ rest6 ws ks := hw.led (List.forall_mem_nil _)
  refine wpAny_execs_cons (st := lawSt 6) (rest := lawBody.drop 7) ?_
  refine st7 w F6 X T N6 mI6 mB6 rfl rfl rfl w6 hl ?_
  intro D7 wd7 own7 h7 tk7 F7 N7 hD7 hown7 hw7
  generalize hr7 : (D7, W.listOf (refs wd7).toArray 0) :: (own7 ++ rest6) = rest7 at N7
  have s67 : ∀ p ∈ rest6, p ∈ rest7 := hr7 ▸ fun p hp => .tail _ (List.mem_append_right _ hp)
  have mD7 : (D7, W.listOf (refs wd7).toArray 0) ∈ rest7 := hr7 ▸ .head _
  have n7 : ∀ p ∈ rest7, p.1 ≠ S ∧ p.1 ≠ L + 1 + 1 := hr7 ▸ List.forall_mem_cons.mpr ⟨hD7, List.forall_mem_append.mpr ⟨hown7, n6⟩⟩
  have w7 : Its h₀ rest7 ws ks := w6.led s67
  have wd7' : Its h₀ rest7 wd7 (wantU ks b1) := hw7.led (hr7 ▸ fun p hp => .tail _ hp)
  have hks : ks.length ≤ 5 := by rw [← hw.length]; exact hl
  have l7 : wd7.length ≤ 6 := by
    have h1 := wantU_length ks b1
    rw [wd7'.length]
    omega
  refine wpAny_execs_cons (st := lawSt 7) (rest := lawBody.drop 8) ?_
  refine st8 w F7 X T N7 (s67 _ mI6) mD7 rfl rfl rfl w7 wd7' l7 ?_
  intro D8 wd8 own8 h8 tk8 F8 N8 hD8 hown8 hw8
  rw [wantK_due] at hw8
  generalize hr8 : (D8, W.listOf (refs wd8).toArray 0) :: (own8 ++ rest7) = rest8 at N8
  have s78 : ∀ p ∈ rest7, p ∈ rest8 := hr8 ▸ fun p hp => .tail _ (List.mem_append_right _ hp)
  have mD8 : (D8, W.listOf (refs wd8).toArray 0) ∈ rest8 := hr8 ▸ .head _
  have n8 : ∀ p ∈ rest8, p.1 ≠ S ∧ p.1 ≠ L + 1 + 1 := hr8 ▸ List.forall_mem_cons.mpr ⟨hD8, List.forall_mem_append.mpr ⟨hown8, n7⟩⟩
  have w8 : Its h₀ rest8 ws ks := w7.led s78
  have wd8' : Its h₀ rest8 wd8 (wantK ks b1 b2) := hw8.led (hr8 ▸ fun p hp => .tail _ hp)
  refine wpAny_execs_cons (st := lawSt 8) (rest := lawBody.drop 9) ?_
  refine st9 w B F8 X T N8 hCl (s78 _ (s67 _ mI6)) rfl rfl rfl w8 hl ?_
  intro D9 nD9 wd9 own9 h9 tk9 F9 N9 hD9 hown9 hw9
  generalize hr9 : (D9, W.listOf (refs wd9).toArray nD9) :: (own9 ++ rest8) = rest9 at N9
  have s89 : ∀ p ∈ rest8, p ∈ rest9 := hr9 ▸ fun p hp => .tail _ (List.mem_append_right _ hp)
  have mD9 : (D9, W.listOf (refs wd9).toArray nD9) ∈ rest9 := hr9 ▸ .head _
  have n9 : ∀ p ∈ rest9, p.1 ≠ S ∧ p.1 ≠ L + 1 + 1 := hr9 ▸ List.forall_mem_cons.mpr ⟨hD9, List.forall_mem_append.mpr ⟨hown9, n8⟩⟩
  have w9 : Its h₀ rest9 ws ks := w8.led s89
  have wd9' : Its h₀ rest9 wd9 (wantK ks b1 b2) := hw9.led (hr9 ▸ fun p hp => .tail _ hp)
  have l9 : wd9.length ≤ 7 := by
    have h1 := wantK_length ks b1 b2
    rw [wd9'.length]
    omega
  have mB9 := s89 _ (s78 _ (s67 _ mB6))
  refine wpAny_execs_cons (st := lawSt 9) (rest := lawBody.drop 10) ?_
  refine st10 (led := [_, _, _, _]) w B F9 X T N9 (s89 _ (s78 _ (s67 _ mI6))) mB9 (s89 _ mD8) mD9 rfl rfl rfl rfl rfl rfl w9 (wd8'.led s89) wd9' l9 ?_
  intro h10 tk10 F10 N10
  refine wpAny_execs_cons (st := lawSt 10) (rest := lawBody.drop 11) ?_
  refine st11 w B F10 X T N10 hCs hCl (List.forall_mem_cons.mpr ⟨hoff _ (.head _), List.forall_mem_cons.mpr ⟨hoff _ (.tail _ (.head _)), fun p hp => (n9 p hp).1⟩⟩) hSc hi hn hlen hcl (fun p hp => (n9 p hp).2) ?_
  intro x dx tf u ms k1 t1 k2 t2 k3 k4 t4' k5 t5' t6 h11 tk11 o' F11 ho' N11
  refine wpAny_execs_cons (st := lawSt 11) (rest := lawBody.drop 12) ?_
  refine st12 w B F11 X T N11 ho' mD9 rfl wd9' l9 ?_
  intro Pz ps own12 h12 tk12 F12 N12 hps
  have lps : ps.length ≤ 7 := by rw [hps.length, ← wd9'.length]; exact l9
  refine wpAny_execs_cons (st := lawSt 12) (rest := lawBody.drop 13) ?_
  refine st13 w F12 X T N12 (.head _) rfl (hps.led (by kcf_all)) lps ?_
  intro Ti vs' h13 tk13 F13 N13 hts
  generalize hr14 : (Ti, W.listOf vs'.toArray vs'.length) :: (Pz, W.listOf (refs ps).toArray ps.length) :: (own12 ++ rest9) = rest14
  have s14 : ∀ p ∈ rest9, p ∈ rest14 := hr14 ▸ fun p hp => .tail _ (.tail _ (List.mem_append_right _ hp))
  have mT : (Ti, W.listOf vs'.toArray vs'.length) ∈ rest14 := hr14 ▸ .head _
  have mP : (Pz, W.listOf (refs ps).toArray ps.length) ∈ rest14 := hr14 ▸ .tail _ (.head _)
  have hps14 : Prs u ms rest14 ps (wantK ks b1 b2) := hps.led (hr14 ▸ fun p hp => .tail _ (.tail _ (List.mem_append_left _ hp)))
  have N14 : News h₀ L h13 ((x, instObj 254 dx) :: (dx, dictOf (letterEs w.params u ms tf k1 t1 k2 t2 k3 k4 t4' k5 t5') 5) :: (tf, tupO [.str (PySem.Str.ofString "k") t6]) :: (L + 1 + 1, o') :: rest14) := N13.perm (by subst hr14; kcf_all)
  refine wpAny_execs_cons (st := lawSt 13) (rest := lawBody.drop 14) ?_
  refine st14 w F13 X T N14 ho' (s14 _ mB9) rfl (w9.led s14) rfl mP rfl hps14 ?_
  intro h15 tk15 F15 N15
  refine wpAny_execs_cons (st := lawSt 14) (rest := lawBody.drop 15) ?_
  refine st15 w F15 X T N15 (.tail _ (.tail _ (.tail _ (.tail _ mP)))) rfl rfl (hps14.led fun _ hp => .tail _ (.tail _ (.tail _ (.tail _ hp)))) lps ?_
  intro h16 tk16 F16 N16
  refine wpAny_execs_cons (st := lawSt 15) (rest := lawBody.drop 16) ?_
  refine st16 w F16 X T N16 ho' mP rfl hps14 lps mT rfl hts ?_
  intro h17 tk17 F17 N17
  refine wpAny_execs_cons (st := lawSt 16) (rest := lawBody.drop 17) ?_
  exact st17 w F17 X T N17 (.tail _ (.tail _ (.tail _ (.tail _ (s14 _ mD9))))) rfl (wd9'.led fun _ hp => .tail _ (.tail _ (.tail _ (.tail _ (s14 _ hp))))) l9 (.tail _ (.tail _ (.tail _ (.tail _ mT)))) rfl hts fun h' tk F' => ret h' tk _ F'
end Mine
set_option maxRecDepth 100000 in
set_option maxHeartbeats 8000000 in
theorem PySem.Challenge.cw_nz0286_01_holds : PySem.Challenge.rw_nz0286_01.Holds := by
  k_with_none
  refine Mine.hd ?_
  w_strict k_go0
  all_goals try k_fold
  all_goals repeat' (first
    | (fail_if_success (with_reducible show wpAny _ _ (execs (PySem.Stmt.Assign [PySem.Expr.Name (PySem.Str.ofString "items") _] _ _ :: _) _) _ _ _)
       first | (k_unfold; (try dsimp only)) | (k_end; wrow_close) | walk1 | (dsimp only; walk1) | (leave1; walk_say "STEP leave1"; try dsimp only)))
  · refine Mine.rest3 _ (by k_asm) (by k_asm) (by k_asm) (by k_asm) (News.perm (by k_asm) (by kcf_all)) (by assumption) (by assumption) (by k_all) (by k_ne) (by k_ne) (by assumption) (by assumption) (by simp only [List.length_map, List.length_take]; omega) ?_
    intro h' tk m' F'
    k_unfold
    dsimp only
    wrow_close
  · refine Mine.rest3 _ (by k_asm) (by k_asm) (by k_asm) (by k_asm) (News.perm (by k_asm) (by kcf_all)) (by assumption) (by assumption) (by k_all) (by k_ne) (by k_ne) (IntsAre.cons 0 _ .nil) (by decide) (by decide) ?_
    intro h' tk m' F'
    k_unfold
    dsimp only
    wrow_close
