import PyProof.Rows.All
import Wide.All
import OpenK.AllK
import Wide.FinOn
import Lean
import PySem.Challenge.RW_og0095_01
open PySem PySem.W PyProof.Rows PySem.Calls
set_option Elab.async false
set_option maxRecDepth 100000
namespace Mine

/-- a text of blanks, hyphens, digits and capitals, that begins with a blank -/
noncomputable def calm (x : Str) : Bool := x.cps.toList.head? == some 32 && x.cps.toList.all fun c => c == 32 || c == 45 || (Nat.ble 48 c && Nat.ble c 57) || (Nat.ble 65 c && Nat.ble c 90)

theorem calm_any {x : Str} (h : calm x = true) (p : Nat → Bool) (hp : ∀ c, (c == 32 || c == 45 || (Nat.ble 48 c && Nat.ble c 57) || (Nat.ble 65 c && Nat.ble c 90)) = true → p c = false) : x.cps.any p = false := by
  rw [← Array.any_toList, List.any_eq_false]
  intro c hc
  unfold calm at h
  have := List.all_eq_true.mp (Bool.and_eq_true_iff.mp h).2 c hc
  simp [hp c this]

theorem calm_head {x : Str} (h : calm x = true) : x.cps[0]? = some 32 := by
  unfold calm at h
  have := (Bool.and_eq_true_iff.mp h).1
  rw [beq_iff_eq] at this
  rw [← Array.getElem?_toList, ← List.head?_eq_getElem?]
  exact this

theorem calm_opens {x : Str} (h : calm x = true) : x.opensWith "__" = false := by
  unfold Str.opensWith
  rw [beq_eq_false_iff_ne]
  intro e
  have h0 := calm_head h
  have e' := congrArg (fun a : Array Nat => a[0]?) e
  simp only [Array.getElem?_extract] at e'
  have r : (("__" : Str).cps[0]?) = some 95 := by decide +kernel
  rw [r] at e'
  have s : ("__" : Str).cps.size = 2 := by decide +kernel
  rw [s] at e'
  have hs : 0 < x.cps.size := by
    rcases Nat.eq_zero_or_pos x.cps.size with z | z
    · rw [Array.getElem?_eq_none (by omega)] at h0; cases h0
    · exact z
  simp [h0] at e'

theorem frame_heads : frameAttrs.all (fun a => a.cps[0]? != some 32) = true := by decide +kernel

theorem calm_frame {x : Str} (h : calm x = true) : frameAttrs.contains x = false := by
  rw [Bool.eq_false_iff]
  intro e
  have hm : x ∈ frameAttrs := by simpa using e
  have := List.all_eq_true.mp frame_heads x hm
  rw [calm_head h] at this
  simp at this

theorem calm_str {k : Look} {x : Str} (h : calm x = true) (hs : k.strict = false) (hb : k.but = none) (hf : k.foot = none) : k.str x = true := by
  have hr : roadStr x = false := by
    unfold roadStr
    rw [calm_any h _ (by intro c hc; simp only [Bool.or_eq_true, beq_iff_eq, Bool.and_eq_true, Nat.ble_eq] at hc; simp only [Bool.or_eq_false_iff, beq_eq_false_iff_ne]; omega),
      calm_any h _ (by intro c hc; simp only [Bool.or_eq_true, beq_iff_eq, Bool.and_eq_true, Nat.ble_eq] at hc; simp only [beq_eq_false_iff_ne]; omega)]
    rfl
  have hw : k.word x = true := by
    unfold Look.word attrL
    rw [calm_frame h, calm_opens h, hs, hb, hf]
    rfl
  unfold Look.str
  rw [hr, hw]
  simp

/-- a statement that binds one plain name to a calm text -/
noncomputable def calmStmt : Stmt → Bool
  | .Assign [.Name n _] (.Constant (.str x) _ _) _ => calm x && n == ("RESERVED" : Str)
  | _ => false

theorem calm_stmt {k : Look} {s : Stmt} (h : calmStmt s = true) (hs : k.strict = false) (hb : k.but = none) (hf : k.foot = none) (hn : k.name ("RESERVED" : Str) = true) : noRoadLS k s = true := by
  unfold calmStmt at h
  split at h
  · rename_i n p1 x p2 p3 p4
    obtain ⟨h1, h2⟩ := Bool.and_eq_true_iff.mp h
    have hn' : n = ("RESERVED" : Str) := by simpa using h2
    subst hn'
    simp only [noRoadLS, noRoadLs, noRoadL, hn, calm_str h1 hs hb hf, Bool.and_true]
    unfold Look.stores
    rw [hf]
    rfl
  · cases h

theorem noRoad_append {k : Look} : ∀ a b : List Stmt, noRoadLSs k (a ++ b) = (noRoadLSs k a && noRoadLSs k b)
  | [], b => by simp [noRoadLSs]
  | s :: a, b => by simp only [List.cons_append, noRoadLSs, noRoad_append a b, Bool.and_assoc]

abbrev body : List Stmt := PySem.Challenge.pw_og0095_01.main.body
noncomputable def calmAt (i : Nat) (b : List Stmt) : Bool := (b[i]?).any calmStmt

theorem noRoad_at {k : Look} {b : List Stmt} (i : Nat) (h1 : noRoadLSs k (b.take i) = true) (h2 : calmAt i b = true) (h3 : noRoadLSs k (b.drop (i + 1)) = true) (hs : k.strict = false) (hb : k.but = none) (hf : k.foot = none) (hn : k.name ("RESERVED" : Str) = true) : noRoadLSs k b = true := by
  unfold calmAt at h2
  cases q : b[i]? with
  | none => rw [q] at h2; cases h2
  | some s =>
    rw [q] at h2
    have e : b = b.take i ++ s :: b.drop (i + 1) := by
      have hi : i < b.length := by
        rcases Nat.lt_or_ge i b.length with z | z
        · exact z
        · rw [List.getElem?_eq_none z] at q; cases q
      rw [List.getElem?_eq_getElem hi] at q
      cases q
      rw [← List.drop_eq_getElem_cons hi, List.take_append_drop]
    rw [e, noRoad_append, h1]
    simp only [noRoadLSs, h3, Bool.and_true, Bool.true_and]
    exact calm_stmt h2 hs hb hf hn

theorem calm_here : calmAt 20 body = true := by k_qdec

abbrev lk (p : Program) : Look := { strict := !(importedModules p.main.body).all cThrough.contains, foot := none, bare := (["vars", "dir", "locals"] : List Str).filter (readsOut p p.main.body) }

theorem road : noRoadLSs (lk PySem.Challenge.pw_og0095_01) body = true := by
  refine noRoad_at 20 ?_ calm_here ?_ ?_ rfl rfl ?_
  · k_qdec
  · k_qdec
  · rw [Bool.eq_false_iff]
    intro e
    have : (lk PySem.Challenge.pw_og0095_01).strict = false := by
      have q : (!(lk PySem.Challenge.pw_og0095_01).strict) = true := by k_qdec
      simpa using q
    rw [this] at e
    cases e
  · k_qdec

theorem looks : looksOpen PySem.Challenge.pw_og0095_01 = true := by
  unfold looksOpen
  refine look_both (look_both (look_both (look_both (look_both ?_ ?_) ?_) ?_) ?_) ?_
  · k_qdec
  · k_qdec
  · k_qdec
  · k_qdec
  · exact road
  · k_qdec
theorem looks' : looksOpen PySem.Challenge.rw_og0095_01.row.prog = true := looks
theorem said : PySem.Challenge.rw_og0095_01.wellSaid = true := by
  unfold OpenLaw.wellSaid OpenRow.wellSaid OpenRow.partSaid
  repeat' with_reducible refine look_both ?_ ?_
  all_goals first | with_reducible exact looks' | k_qdec

/-! A hook of the head that looks at every written object, but at one long text apart (the kernel compares a written text with itself in quadratic time otherwise).
    Each side has functions of its own names, built of recursors alone, so that no comparison of the text is ever tried. -/

noncomputable def bareAt (es : List DictEntry) : Nat → List DictEntry :=
  @List.rec DictEntry (fun _ => Nat → List DictEntry) (fun _ => []) (fun e r ih n => @Nat.rec (fun _ => List DictEntry) (@DictEntry.rec (fun _ => DictEntry) (fun h k _ => ⟨h, k, .none⟩) e :: r) (fun m _ => e :: ih m) n) es
noncomputable def bareAt' (es : List DictEntry) : Nat → List DictEntry :=
  @List.rec DictEntry (fun _ => Nat → List DictEntry) (fun _ => []) (fun e r ih n => @Nat.rec (fun _ => List DictEntry) (@DictEntry.rec (fun _ => DictEntry) (fun h k _ => ⟨h, k, .none⟩) e :: r) (fun m _ => e :: ih m) n) es
noncomputable def entryAt : List DictEntry → Nat → Option Value
  | [], _ => none
  | e :: _, 0 => some e.val
  | _ :: r, n + 1 => entryAt r n
theorem bareAt_nil (n : Nat) : bareAt [] n = [] := rfl
theorem bareAt_zero (e : DictEntry) (r : List DictEntry) : bareAt (e :: r) 0 = ⟨e.hash, e.key, .none⟩ :: r := rfl
theorem bareAt_succ (e : DictEntry) (r : List DictEntry) (n : Nat) : bareAt (e :: r) (n + 1) = e :: bareAt r n := rfl
theorem bareAt_same : bareAt' = bareAt := rfl

theorem entries_of : ∀ (n : Nat) (a b : List DictEntry), bareAt a n = bareAt b n → entryAt a n = entryAt b n → a = b
  | _, [], [], _, _ => rfl
  | 0, [], _ :: _, h, _ => by simp [bareAt_nil, bareAt_zero] at h
  | _ + 1, [], _ :: _, h, _ => by simp [bareAt_nil, bareAt_succ] at h
  | 0, _ :: _, [], h, _ => by simp [bareAt_nil, bareAt_zero] at h
  | _ + 1, _ :: _, [], h, _ => by simp [bareAt_nil, bareAt_succ] at h
  | 0, e :: r, e' :: r', h1, h2 => by
    simp only [bareAt_zero, List.cons.injEq, DictEntry.mk.injEq] at h1
    obtain ⟨⟨q1, q2, _⟩, q4⟩ := h1
    have q5 : e.val = e'.val := Option.some.inj h2
    cases e; cases e'
    simp_all
  | n + 1, e :: r, e' :: r', h1, h2 => by
    simp only [bareAt_succ, List.cons.injEq] at h1
    rw [h1.1, entries_of n r r' h1.2 h2]

noncomputable def dictOf? : Data → Option (List DictEntry × Nat)
  | .dict es k => some (es.toList, k)
  | _ => none
noncomputable def bareData (n : Nat) (d : Data) : Data := @Option.rec (List DictEntry × Nat) (fun _ => Data) d (fun p => @Prod.rec (List DictEntry) Nat (fun _ => Data) (fun es k => .dict ⟨bareAt es n⟩ k) p) (dictOf? d)
noncomputable def bareData' (n : Nat) (d : Data) : Data := @Option.rec (List DictEntry × Nat) (fun _ => Data) d (fun p => @Prod.rec (List DictEntry) Nat (fun _ => Data) (fun es k => .dict ⟨bareAt' es n⟩ k) p) (dictOf? d)
/-- the object at address d, without its n-th entry's value -/
noncomputable def bareObj (d n : Nat) (a : Addr) (o : Obj) : Obj := @Bool.rec (fun _ => Obj) o (@Obj.rec (fun _ => Obj) (fun c dd da sl => ⟨c, dd, bareData n da, sl⟩) o) (Nat.beq a d)
noncomputable def bareObj' (d n : Nat) (a : Addr) (o : Obj) : Obj := @Bool.rec (fun _ => Obj) o (@Obj.rec (fun _ => Obj) (fun c dd da sl => ⟨c, dd, bareData' n da, sl⟩) o) (Nat.beq a d)
theorem bareObj_same : bareObj' = bareObj := rfl
noncomputable def valObj (n : Nat) (o : Obj) : Option Value := match o.data with
  | .dict es _ => entryAt es.toList n
  | _ => none

theorem obj_of {d n : Nat} {a : Addr} {o o' : Obj} (h1 : bareObj d n a o = bareObj d n a o') (h2 : Nat.beq a d = true → valObj n o = valObj n o') : o = o' := by
  unfold bareObj at h1
  cases q : Nat.beq a d with
  | false => rw [q] at h1; exact h1
  | true =>
    have h2 := h2 q
    rw [q] at h1
    obtain ⟨c, dd, da, sl⟩ := o
    obtain ⟨c', dd', da', sl'⟩ := o'
    simp only [Obj.mk.injEq] at h1
    obtain ⟨e1, e2, e3, e4⟩ := h1
    subst e1 e2 e4
    cases da <;> cases da' <;> simp_all [bareData, dictOf?, valObj]
    rename_i es k es' k'
    exact Array.ext' (entries_of n _ _ e3.1 h2)

/-- the text that statement i of a program binds -/
noncomputable def resOf (i : Nat) (p : Program) : Str := match p.main.body[i]? with
  | some (.Assign _ (.Constant (.str x) _ _) _) => x
  | _ => Str.mk #[]

/-- that text with its signs written out (the unifier writes them) -/
noncomputable def resT : { t : Str // resOf 20 PySem.Challenge.pw_og0095_01 = t } := ⟨_, (show resOf 20 PySem.Challenge.pw_og0095_01 = Str.ofString (String.ofList _) from rfl).trans (PySem.W.Fast.ofString_ofList _)⟩

noncomputable def valOk (k : Nat) (v : Option Value) : Bool := match v with
  | some (.str x k') => PySem.W.Fast.lEq x.cps.toList resT.1.cps.toList && Nat.beq k' k
  | _ => false
theorem valOk_of {k : Nat} {v : Option Value} (h : valOk k v = true) : v = some (.str resT.1 k) := by
  unfold valOk at h
  split at h
  · obtain ⟨h1, h2⟩ := Bool.and_eq_true_iff.mp h
    rename_i x k'
    have e : x = resT.1 := by
      have := PySem.W.Fast.lEq_iff.mp h1
      cases x
      generalize resT.1 = t at this ⊢
      cases t
      exact congrArg Str.mk (Array.ext' this)
    rw [e, Nat.eq_of_beq_eq_true h2]
  · cases h

noncomputable def obsT (d n k : Nat) (as : List Addr) (s : Shared) : List (Option Obj) × Bool :=
  (as.map fun a => (s.heap.get? a).map (bareObj d n a), (s.heap.get? d).all fun o => valOk k (valObj n o))
noncomputable def valT (d n : Nat) (K : Params → Frag) (w : World) : List (Option Obj) × Bool := ((K w.params).map fun p => some (bareObj' d n p.1 p.2), true)

theorem in_of {d n : Nat} {t : Option Value} {h : Heap} : ∀ {K : Frag}, ((K.map (·.1)).map fun a => (h.get? a).map (bareObj d n a)) = K.map (fun p => some (bareObj' d n p.1 p.2)) →
    (∀ o, h.get? d = some o → valObj n o = t) → (∀ p ∈ K, Nat.beq p.1 d = true → valObj n p.2 = t) → K.map (fun p => h.get? p.1) = K.map (fun p => some p.2)
  | [], _, _, _ => rfl
  | p :: K, h1, h2, h3 => by
    rw [bareObj_same] at h1
    simp only [List.map_cons, List.cons.injEq] at h1
    have ih := in_of (by rw [bareObj_same]; exact h1.2) h2 (fun q hq => h3 q (.tail _ hq))
    have e : h.get? p.1 = some p.2 := by
      cases q : h.get? p.1 with
      | none => have z := h1.1; rw [q] at z; cases z
      | some o =>
        have z := h1.1
        rw [q] at z
        have z' : bareObj d n p.1 o = bareObj d n p.1 p.2 := by simpa using z
        refine congrArg some (obj_of z' fun b => ?_)
        rw [h3 p (.head _) b]
        have b' := Nat.eq_of_beq_eq_true b
        exact h2 o (b' ▸ q)
    simp only [List.map_cons, e, ih]

/-- the value of the entry n of the object d of K -/
noncomputable def valIn (d n : Nat) : Frag → Option Value
  | [] => none
  | p :: K => match Nat.beq p.1 d with
    | true => valObj n p.2
    | false => valIn d n K
noncomputable def onceIn (d : Nat) : List Nat → Bool
  | [] => true
  | a :: r => match Nat.beq a d with
    | true => r.all fun b => !Nat.beq b d
    | false => onceIn d r
theorem val_in {d n : Nat} {t : Option Value} : ∀ {K : Frag}, onceIn d (K.map (·.1)) = true → valIn d n K = t → ∀ p ∈ K, Nat.beq p.1 d = true → valObj n p.2 = t
  | [], _, _, _, hp, _ => nomatch hp
  | p :: K, h1, h2, q, hq, b => by
    unfold valIn at h2
    simp only [List.map_cons, onceIn] at h1
    cases z : Nat.beq p.1 d with
    | true =>
      rw [z] at h1 h2
      rcases List.mem_cons.mp hq with rfl | hq
      · exact h2
      · have := List.all_eq_true.mp h1 q.1 (List.mem_map_of_mem hq)
        rw [b] at this
        cases this
    | false =>
      rw [z] at h1 h2
      rcases List.mem_cons.mp hq with rfl | hq
      · rw [b] at z; cases z
      · exact val_in h1 h2 q hq b

theorem hook_of {d n k : Nat} {K : Params → Frag} {as : List Addr} (e : ∀ P, as = (K P).map (·.1)) (e1 : onceIn d as = true) (e2 : ∀ P, valIn d n (K P) = some (.str resT.1 k)) (w : World) (s : Shared)
    (x : obsT d n k as s = valT d n K w) : InK K w s.heap := by
  have x1 : (as.map fun a => (s.heap.get? a).map (bareObj d n a)) = (K w.params).map fun p => some (bareObj' d n p.1 p.2) := congrArg Prod.fst x
  have x2 : ((s.heap.get? d).all fun o => valOk k (valObj n o)) = true := congrArg Prod.snd x
  rw [e w.params] at x1 e1
  have y := in_of x1 (t := some (.str resT.1 k)) (fun o ho => by rw [ho] at x2; exact valOk_of x2) (val_in e1 (e2 w.params))
  refine InK.of e w s ?_
  rw [e w.params, List.map_map]
  exact y
theorem res_val {v : Option Value} {k : Nat} (h : v = some (.str (resOf 20 PySem.Challenge.pw_og0095_01) k)) : v = some (.str resT.1 k) := h.trans (congrArg (fun t => some (Value.str t k)) resT.2)
noncomputable def theHook (K : Params → Frag) (as : List Addr) (e : ∀ P, as = (K P).map (·.1)) (e1 : onceIn 3 as = true) (e2 : ∀ P, valIn 3 25 (K P) = some (.str resT.1 367)) : Hook :=
  ⟨List (Option Obj) × Bool, obsT 3 25 367 as, valT 3 25 K, InK K, hook_of e e1 e2, InK.keeps⟩
noncomputable def pR : Program := PySem.W.Fast.tw6752978252412004549
theorem pR_eq : PySem.Challenge.pw_og0095_01 = pR := PySem.W.Fast.te6752978252412004549
noncomputable def stR (i : Nat) : Stmt := (pR.main.body[i]?).getD (.Pass ⟨0, 0, 0, 0⟩)
noncomputable def clR (i j : Nat) : Stmt := match stR i with
  | .ClassDef _ _ _ b _ _ _ _ _ _ _ => (b[j]?).getD (.Pass ⟨0, 0, 0, 0⟩)
  | s => s
noncomputable def fnA (s : Stmt) : Arguments := match s with
  | .FunctionDef _ a _ _ _ _ _ _ _ _ => a
  | _ => ⟨[], [], none, [], [], none, []⟩
noncomputable def fnB (s : Stmt) : List Stmt := match s with
  | .FunctionDef _ _ b _ _ _ _ _ _ _ => b
  | _ => []
noncomputable def fnS (s : Stmt) : Scope := match s with
  | .FunctionDef _ _ _ _ _ _ c _ _ _ => c
  | _ => pR.main.scope
noncomputable def stsR (a n : Nat) : List Stmt := ((behindTheImports pR).drop a).take n
noncomputable def env_5 : Env := { scope := pR.main.scope, locals := mainNs, globals := mainNs, cells := [], code := Value.ref 13, frame := some 14 }

noncomputable def z0 : Str := Str.mk (Array.mk [60, 109, 111, 100, 117, 108, 101, 62])
noncomputable def z1 : Str := Str.mk (Array.mk [47, 99, 108, 97, 105, 109, 47, 99, 117, 116, 46, 112, 121])
noncomputable def z2 : Str := Str.mk (Array.mk [95, 95, 109, 97, 105, 110, 95, 95])
noncomputable def z3 : Str := Str.mk (Array.mk [95, 95, 110, 97, 109, 101, 95, 95])
noncomputable def z4 : Str := Str.mk (Array.mk [108, 101, 100, 103, 101, 114, 115, 112, 101, 97, 107, 46, 101, 114, 114, 111, 114, 115])
noncomputable def z5 : Str := Str.mk (Array.mk [95, 95, 100, 111, 99, 95, 95])
noncomputable def z6 : Str := Str.mk (Array.mk [95, 95, 112, 97, 99, 107, 97, 103, 101, 95, 95])
noncomputable def z7 : Str := Str.mk (Array.mk [95, 95, 108, 111, 97, 100, 101, 114, 95, 95])
noncomputable def z8 : Str := Str.mk (Array.mk [95, 95, 115, 112, 101, 99, 95, 95])
noncomputable def z9 : Str := Str.mk (Array.mk [95, 95, 97, 110, 110, 111, 116, 97, 116, 105, 111, 110, 115, 95, 95])
noncomputable def z10 : Str := Str.mk (Array.mk [95, 95, 98, 117, 105, 108, 116, 105, 110, 115, 95, 95])
noncomputable def z11 : Str := Str.mk (Array.mk [95, 95, 102, 105, 108, 101, 95, 95])
noncomputable def z12 : Str := Str.mk (Array.mk [95, 95, 99, 97, 99, 104, 101, 100, 95, 95])
noncomputable def z13 : Str := Str.mk (Array.mk [95, 119, 97, 108, 108])
noncomputable def z14 : Str := Str.mk (Array.mk [82, 69, 77, 65, 82, 75, 83])
noncomputable def z15 : Str := Str.mk (Array.mk [112, 97, 115, 115, 95, 114, 101, 109, 97, 114, 107, 115])
noncomputable def z16 : Str := Str.mk (Array.mk [105, 115, 95, 114, 101, 109, 97, 114, 107, 95, 104, 101, 114, 101])
noncomputable def z17 : Str := Str.mk (Array.mk [114, 101, 97, 100, 95, 105, 100, 101, 110, 116, 105, 102, 105, 99, 97, 116, 105, 111, 110])
noncomputable def z18 : Str := Str.mk (Array.mk [107])
noncomputable def z19 : Str := Str.mk (Array.mk [65, 85, 84, 72, 79, 82])
noncomputable def z20 : Str := Str.mk (Array.mk [73, 78, 83, 84, 65, 76, 76, 65, 84, 73, 79, 78])
noncomputable def z21 : Str := Str.mk (Array.mk [68, 65, 84, 69, 45, 87, 82, 73, 84, 84, 69, 78])
noncomputable def z22 : Str := Str.mk (Array.mk [68, 65, 84, 69, 45, 67, 79, 77, 80, 73, 76, 69, 68])
noncomputable def z23 : Str := Str.mk (Array.mk [83, 69, 67, 85, 82, 73, 84, 89])
noncomputable def z24 : Str := Str.mk (Array.mk [114, 101, 97, 100, 101, 114])
noncomputable def z25 : Str := Str.mk (Array.mk [108, 101, 100, 103, 101, 114, 115, 112, 101, 97, 107, 46, 101, 110, 118, 114, 101, 97, 100])
noncomputable def z26 : Str := Str.mk (Array.mk [110, 97, 109, 101])
noncomputable def z27 : Str := Str.mk (Array.mk [116, 121, 112, 101, 46, 95, 95, 115, 117, 98, 99, 108, 97, 115, 115, 101, 115, 95, 95, 46, 69, 120, 99, 101, 112, 116, 105, 111, 110, 46, 48])
noncomputable def z28 : Str := Str.mk (Array.mk [116, 121, 112, 101, 46, 95, 95, 115, 117, 98, 99, 108, 97, 115, 115, 101, 115, 95, 95, 46, 69, 120, 99, 101, 112, 116, 105, 111, 110, 46, 110])
noncomputable def z29 : Str := Str.mk (Array.mk [76, 101, 100, 103, 101, 114, 69, 114, 114, 111, 114])
noncomputable def z30 : Str := Str.mk (Array.mk [95, 95, 109, 111, 100, 117, 108, 101, 95, 95])
noncomputable def z31 : Str := Str.mk (Array.mk [95, 95, 113, 117, 97, 108, 110, 97, 109, 101, 95, 95])
noncomputable def z32 : Str := Str.mk (Array.mk [95, 95, 102, 105, 114, 115, 116, 108, 105, 110, 101, 110, 111, 95, 95])
noncomputable def z33 : Str := Str.mk (Array.mk [95, 95, 105, 110, 105, 116, 95, 95])
noncomputable def z34 : Str := Str.mk (Array.mk [116, 111, 108, 100])
noncomputable def z35 : Str := Str.mk (Array.mk [95, 95, 115, 116, 97, 116, 105, 99, 95, 97, 116, 116, 114, 105, 98, 117, 116, 101, 115, 95, 95])
noncomputable def z36 : Str := Str.mk (Array.mk [115, 101, 108, 102])
noncomputable def z37 : Str := Str.mk (Array.mk [119, 104, 97, 116])
noncomputable def z38 : Str := Str.mk (Array.mk [97, 116])
noncomputable def z39 : Str := Str.mk (Array.mk [76, 101, 100, 103, 101, 114, 69, 114, 114, 111, 114, 46, 95, 95, 105, 110, 105, 116, 95, 95])
noncomputable def z40 : Str := Str.mk (Array.mk [76, 101, 100, 103, 101, 114, 69, 114, 114, 111, 114, 46, 116, 111, 108, 100])
noncomputable def z41 : Str := Str.mk (Array.mk [95, 95, 119, 101, 97, 107, 114, 101, 102, 95, 95])
noncomputable def z42 : Str := Str.mk (Array.mk [84, 111, 107, 101, 110, 70, 97, 117, 108, 116])
noncomputable def z43 : Str := Str.mk (Array.mk [108, 101, 100, 103, 101, 114, 115, 112, 101, 97, 107, 46, 100, 101, 99, 105, 109, 97, 108, 115])
noncomputable def z44 : Str := Str.mk (Array.mk [71, 114, 97, 109, 109, 97, 114, 70, 97, 117, 108, 116])
noncomputable def z45 : Str := Str.mk (Array.mk [70, 73, 71, 85, 82, 69, 83])
noncomputable def z46 : Str := Str.mk (Array.mk [48, 49, 50, 51, 52, 53, 54, 55, 56, 57])
noncomputable def z47 : Str := Str.mk (Array.mk [99, 117, 116, 95, 113, 117, 111, 116, 105, 101, 110, 116])
noncomputable def z48 : Str := Str.mk (Array.mk [100, 101, 99, 105, 109, 97, 108])
noncomputable def z49 : Str := Str.mk (Array.mk [117, 110, 105, 116, 115, 95, 97, 116])
noncomputable def z50 : Str := Str.mk (Array.mk [105, 115, 95, 119, 104, 111, 108, 101])
noncomputable def z51 : Str := Str.mk (Array.mk [119, 104, 111, 108, 101, 95, 111, 102])
noncomputable def z52 : Str := Str.mk (Array.mk [116, 111, 112])
noncomputable def z53 : Str := Str.mk (Array.mk [98, 111, 116, 116, 111, 109])
noncomputable def z54 : Str := Str.mk (Array.mk [117, 110, 105, 116, 115])
noncomputable def z55 : Str := Str.mk (Array.mk [115, 99, 97, 108, 101])
noncomputable def z56 : Str := Str.mk (Array.mk [97])
noncomputable def z57 : Str := Str.mk (Array.mk [105, 115, 95, 114, 111, 117, 110, 100, 101, 100])
noncomputable def z58 : Str := Str.mk (Array.mk [115, 105, 122, 101])
noncomputable def z59 : Str := Str.mk (Array.mk [104, 97, 108, 102])
noncomputable def z60 : Str := Str.mk (Array.mk [108, 101, 100, 103, 101, 114, 115, 112, 101, 97, 107, 46, 114, 101, 97, 100, 101, 114])
noncomputable def z61 : Str := Str.mk (Array.mk [119, 111, 114, 116, 104, 95, 111, 102])
noncomputable def z62 : Str := Str.mk (Array.mk [114, 101, 97, 100, 95, 100, 101, 99, 105, 109, 97, 108])
noncomputable def z63 : Str := Str.mk (Array.mk [82, 69, 83, 69, 82, 86, 69, 68])
noncomputable def z64 : Str := Str.mk (Array.mk [32, 65, 67, 67, 69, 80, 84, 32, 65, 67, 67, 69, 83, 83, 32, 65, 68, 68, 32, 65, 68, 86, 65, 78, 67, 73, 78, 71, 32, 65, 70, 84, 69, 82, 32, 65, 76, 76, 32, 65, 76, 80, 72, 65, 66, 69, 84, 73, 67, 32, 65, 76, 80, 72, 65, 66, 69, 84, 73, 67, 45, 76, 79, 87, 69, 82, 32, 65, 76, 80, 72, 65, 66, 69, 84, 73, 67, 45, 85, 80, 80, 69, 82, 32, 65, 76, 80, 72, 65, 78, 85, 77, 69, 82, 73, 67, 32, 65, 76, 80, 72, 65, 78, 85, 77, 69, 82, 73, 67, 45, 69, 68, 73, 84, 69, 68, 32, 65, 76, 83, 79, 32, 65, 76, 84, 69, 82, 78, 65, 84, 69, 32, 65, 78, 68, 32, 65, 78, 89, 32, 65, 82, 69, 32, 65, 82, 69, 65, 32, 65, 82, 69, 65, 83, 32, 65, 83, 67, 69, 78, 68, 73, 78, 71, 32, 65, 83, 83, 73, 71, 78, 32, 65, 84, 32, 65, 85, 84, 72, 79, 82, 32, 66, 69, 70, 79, 82, 69, 32, 66, 73, 78, 65, 82, 89, 32, 66, 76, 65, 78, 75, 32, 66, 76, 79, 67, 75, 32, 66, 89, 32, 67, 65, 76, 76, 32, 67, 72, 65, 82, 65, 67, 84, 69, 82, 32, 67, 72, 65, 82, 65, 67, 84, 69, 82, 83, 32, 67, 76, 79, 83, 69, 32, 67, 79, 77, 80, 32, 67, 79, 77, 80, 45, 51, 32, 67, 79, 77, 80, 85, 84, 65, 84, 73, 79, 78, 65, 76, 32, 67, 79, 77, 80, 85, 84, 65, 84, 73, 79, 78, 65, 76, 45, 51, 32, 67, 79, 77, 80, 85, 84, 69, 32, 67, 79, 78, 70, 73, 71, 85, 82, 65, 84, 73, 79, 78, 32, 67, 79, 78, 84, 65, 73, 78, 83, 32, 67, 79, 78, 84, 69, 78, 84, 32, 67, 79, 78, 84, 73, 78, 85, 69, 32, 67, 79, 78, 86, 69, 82, 84, 73, 78, 71, 32, 67, 79, 80, 89, 32, 67, 79, 82, 82, 32, 67, 79, 82, 82, 69, 83, 80, 79, 78, 68, 73, 78, 71, 32, 67, 79, 85, 78, 84, 32, 68, 65, 84, 65, 32, 68, 65, 84, 69, 45, 67, 79, 77, 80, 73, 76, 69, 68, 32, 68, 65, 84, 69, 45, 87, 82, 73, 84, 84, 69, 78, 32, 68, 69, 76, 69, 84, 69, 32, 68, 69, 76, 73, 77, 73, 84, 69, 68, 32, 68, 69, 76, 73, 77, 73, 84, 69, 82, 32, 68, 69, 80, 69, 78, 68, 73, 78, 71, 32, 68, 69, 83, 67, 69, 78, 68, 73, 78, 71, 32, 68, 73, 83, 80, 76, 65, 89, 32, 68, 73, 86, 73, 68, 69, 32, 68, 73, 86, 73, 83, 73, 79, 78, 32, 68, 79, 87, 78, 32, 68, 85, 80, 76, 73, 67, 65, 84, 69, 83, 32, 68, 89, 78, 65, 77, 73, 67, 32, 69, 76, 83, 69, 32, 69, 78, 68, 32, 69, 78, 68, 45, 65, 68, 68, 32, 69, 78, 68, 45, 67, 65, 76, 76, 32, 69, 78, 68, 45, 67, 79, 77, 80, 85, 84, 69, 32, 69, 78, 68, 45, 68, 69, 76, 69, 84, 69, 32, 69, 78, 68, 45, 68, 73, 86, 73, 68, 69, 32, 69, 78, 68, 45, 69, 86, 65, 76, 85, 65, 84, 69, 32, 69, 78, 68, 45, 73, 70, 32, 69, 78, 68, 45, 77, 85, 76, 84, 73, 80, 76, 89, 32, 69, 78, 68, 45, 80, 69, 82, 70, 79, 82, 77, 32, 69, 78, 68, 45, 82, 69, 65, 68, 32, 69, 78, 68, 45, 82, 69, 84, 85, 82, 78, 32, 69, 78, 68, 45, 82, 69, 87, 82, 73, 84, 69, 32, 69, 78, 68, 45, 83, 69, 65, 82, 67, 72, 32, 69, 78, 68, 45, 83, 84, 65, 82, 84, 32, 69, 78, 68, 45, 83, 84, 82, 73, 78, 71, 32, 69, 78, 68, 45, 83, 85, 66, 84, 82, 65, 67, 84, 32, 69, 78, 68, 45, 85, 78, 83, 84, 82, 73, 78, 71, 32, 69, 78, 68, 45, 87, 82, 73, 84, 69, 32, 69, 78, 86, 73, 82, 79, 78, 77, 69, 78, 84, 32, 69, 81, 85, 65, 76, 32, 69, 82, 82, 79, 82, 32, 69, 86, 65, 76, 85, 65, 84, 69, 32, 69, 88, 67, 69, 80, 84, 73, 79, 78, 32, 69, 88, 73, 84, 32, 69, 88, 84, 69, 78, 68, 32, 69, 88, 84, 69, 82, 78, 65, 76, 32, 70, 65, 76, 83, 69, 32, 70, 68, 32, 70, 73, 76, 69, 32, 70, 73, 76, 69, 45, 67, 79, 78, 84, 82, 79, 76, 32, 70, 73, 76, 76, 69, 82, 32, 70, 73, 82, 83, 84, 32, 70, 79, 82, 32, 70, 82, 79, 77, 32, 71, 73, 86, 73, 78, 71, 32, 71, 76, 79, 66, 65, 76, 32, 71, 79, 32, 71, 82, 69, 65, 84, 69, 82, 32, 72, 73, 71, 72, 45, 86, 65, 76, 85, 69, 32, 72, 73, 71, 72, 45, 86, 65, 76, 85, 69, 83, 32, 73, 45, 79, 32, 73, 45, 79, 45, 67, 79, 78, 84, 82, 79, 76, 32, 73, 68, 69, 78, 84, 73, 70, 73, 67, 65, 84, 73, 79, 78, 32, 73, 70, 32, 73, 78, 32, 73, 78, 68, 69, 88, 32, 73, 78, 68, 69, 88, 69, 68, 32, 73, 78, 73, 84, 73, 65, 76, 32, 73, 78, 73, 84, 73, 65, 76, 73, 90, 69, 32, 73, 78, 80, 85, 84, 32, 73, 78, 80, 85, 84, 45, 79, 85, 84, 80, 85, 84, 32, 73, 78, 83, 80, 69, 67, 84, 32, 73, 78, 83, 84, 65, 76, 76, 65, 84, 73, 79, 78, 32, 73, 78, 84, 79, 32, 73, 78, 86, 65, 76, 73, 68, 32, 73, 83, 32, 74, 85, 83, 84, 32, 74, 85, 83, 84, 73, 70, 73, 69, 68, 32, 75, 69, 89, 32, 76, 65, 66, 69, 76, 32, 76, 69, 65, 68, 73, 78, 71, 32, 76, 69, 70, 84, 32, 76, 69, 83, 83, 32, 76, 73, 78, 69, 32, 76, 73, 78, 69, 83, 32, 76, 73, 78, 75, 65, 71, 69, 32, 76, 79, 67, 75, 32, 76, 79, 87, 45, 86, 65, 76, 85, 69, 32, 76, 79, 87, 45, 86, 65, 76, 85, 69, 83, 32, 77, 69, 82, 71, 69, 32, 77, 79, 68, 69, 32, 77, 79, 86, 69, 32, 77, 85, 76, 84, 73, 80, 76, 89, 32, 78, 65, 84, 73, 86, 69, 32, 78, 69, 71, 65, 84, 73, 86, 69, 32, 78, 69, 88, 84, 32, 78, 79, 32, 78, 79, 84, 32, 78, 85, 77, 69, 82, 73, 67, 32, 78, 85, 77, 69, 82, 73, 67, 45, 69, 68, 73, 84, 69, 68, 32, 79, 66, 74, 69, 67, 84, 45, 67, 79, 77, 80, 85, 84, 69, 82, 32, 79, 67, 67, 85, 82, 83, 32, 79, 70, 32, 79, 70, 70, 32, 79, 77, 73, 84, 84, 69, 68, 32, 79, 78, 32, 79, 80, 69, 78, 32, 79, 80, 84, 73, 79, 78, 65, 76, 32, 79, 82, 32, 79, 82, 68, 69, 82, 32, 79, 82, 71, 65, 78, 73, 90, 65, 84, 73, 79, 78, 32, 79, 84, 72, 69, 82, 32, 79, 85, 84, 80, 85, 84, 32, 79, 86, 69, 82, 70, 76, 79, 87, 32, 80, 65, 67, 75, 69, 68, 45, 68, 69, 67, 73, 77, 65, 76, 32, 80, 69, 82, 70, 79, 82, 77, 32, 80, 73, 67, 32, 80, 73, 67, 84, 85, 82, 69, 32, 80, 79, 73, 78, 84, 69, 82, 32, 80, 79, 83, 73, 84, 73, 86, 69, 32, 80, 82, 79, 67, 69, 68, 85, 82, 69, 32, 80, 82, 79, 67, 69, 69, 68, 32, 80, 82, 79, 71, 82, 65, 77, 32, 80, 82, 79, 71, 82, 65, 77, 45, 73, 68, 32, 81, 85, 79, 84, 69, 32, 81, 85, 79, 84, 69, 83, 32, 82, 65, 78, 68, 79, 77, 32, 82, 69, 65, 68, 32, 82, 69, 67, 79, 82, 68, 32, 82, 69, 67, 79, 82, 68, 83, 32, 82, 69, 68, 69, 70, 73, 78, 69, 83, 32, 82, 69, 70, 69, 82, 69, 78, 67, 69, 32, 82, 69, 76, 65, 84, 73, 86, 69, 32, 82, 69, 76, 69, 65, 83, 69, 32, 82, 69, 77, 65, 73, 78, 68, 69, 82, 32, 82, 69, 78, 65, 77, 69, 83, 32, 82, 69, 80, 76, 65, 67, 69, 32, 82, 69, 80, 76, 65, 67, 73, 78, 71, 32, 82, 69, 84, 85, 82, 78, 32, 82, 69, 87, 82, 73, 84, 69, 32, 82, 73, 71, 72, 84, 32, 82, 79, 85, 78, 68, 69, 68, 32, 82, 85, 78, 32, 83, 65, 77, 69, 32, 83, 68, 32, 83, 69, 65, 82, 67, 72, 32, 83, 69, 67, 84, 73, 79, 78, 32, 83, 69, 67, 85, 82, 73, 84, 89, 32, 83, 69, 76, 69, 67, 84, 32, 83, 69, 78, 84, 69, 78, 67, 69, 32, 83, 69, 80, 65, 82, 65, 84, 69, 32, 83, 69, 81, 85, 69, 78, 84, 73, 65, 76, 32, 83, 69, 84, 32, 83, 73, 71, 78, 32, 83, 73, 90, 69, 32, 83, 79, 82, 84, 32, 83, 79, 82, 84, 45, 77, 69, 82, 71, 69, 32, 83, 79, 85, 82, 67, 69, 45, 67, 79, 77, 80, 85, 84, 69, 82, 32, 83, 80, 65, 67, 69, 32, 83, 80, 65, 67, 69, 83, 32, 83, 80, 69, 67, 73, 65, 76, 45, 78, 65, 77, 69, 83, 32, 83, 84, 65, 78, 68, 65, 82, 68, 32, 83, 84, 65, 82, 84, 32, 83, 84, 65, 84, 85, 83, 32, 83, 84, 79, 80, 32, 83, 84, 82, 73, 78, 71, 32, 83, 85, 66, 84, 82, 65, 67, 84, 32, 83, 89, 78, 67, 32, 83, 89, 78, 67, 72, 82, 79, 78, 73, 90, 69, 68, 32, 84, 65, 76, 76, 89, 73, 78, 71, 32, 84, 69, 83, 84, 32, 84, 72, 65, 78, 32, 84, 72, 69, 78, 32, 84, 72, 82, 79, 85, 71, 72, 32, 84, 72, 82, 85, 32, 84, 73, 77, 69, 83, 32, 84, 79, 32, 84, 82, 65, 73, 76, 73, 78, 71, 32, 84, 82, 85, 69, 32, 85, 78, 83, 84, 82, 73, 78, 71, 32, 85, 78, 84, 73, 76, 32, 85, 80, 32, 85, 80, 79, 78, 32, 85, 83, 65, 71, 69, 32, 85, 83, 73, 78, 71, 32, 86, 65, 76, 85, 69, 32, 86, 65, 76, 85, 69, 83, 32, 86, 65, 82, 89, 73, 78, 71, 32, 87, 72, 69, 78, 32, 87, 73, 84, 72, 32, 87, 79, 82, 75, 73, 78, 71, 45, 83, 84, 79, 82, 65, 71, 69, 32, 87, 82, 73, 84, 69, 32, 90, 69, 82, 79, 32, 90, 69, 82, 79, 69, 83, 32, 90, 69, 82, 79, 83, 32])
noncomputable def z65 : Str := Str.mk (Array.mk [105, 115, 95, 114, 101, 115, 101, 114, 118, 101, 100])
noncomputable def z66 : Str := Str.mk (Array.mk [102, 105, 103, 117, 114, 101, 115])
noncomputable def z67 : Str := Str.mk (Array.mk [110, 117, 109, 98, 101, 114])
noncomputable def z68 : Str := Str.mk (Array.mk [102, 105, 103, 117, 114, 101])
noncomputable def z69 : Str := Str.mk (Array.mk [116, 101, 120, 116])
noncomputable def z70 : Str := Str.mk (Array.mk [98, 101, 103, 105, 110])
noncomputable def z71 : Str := Str.mk (Array.mk [97, 104, 101, 97, 100])
noncomputable def z72 : Str := Str.mk (Array.mk [98, 101, 104, 105, 110, 100])
noncomputable def z73 : Str := Str.mk (Array.mk [112, 111, 105, 110, 116])
noncomputable def z74 : Str := Str.mk (Array.mk [119, 111, 114, 100])
noncomputable def z75 : Str := Str.mk (Array.mk [82, 101, 97, 100, 101, 114])
noncomputable def z76 : Str := Str.mk (Array.mk [112, 101, 101, 107])
noncomputable def z77 : Str := Str.mk (Array.mk [105, 115, 95, 100, 111, 110, 101])
noncomputable def z78 : Str := Str.mk (Array.mk [102, 97, 117, 108, 116])
noncomputable def z79 : Str := Str.mk (Array.mk [116, 97, 107, 101])
noncomputable def z80 : Str := Str.mk (Array.mk [105, 115, 95, 107, 105, 110, 100])
noncomputable def z81 : Str := Str.mk (Array.mk [105, 115, 95, 119, 111, 114, 100])
noncomputable def z82 : Str := Str.mk (Array.mk [115, 107, 105, 112])
noncomputable def z83 : Str := Str.mk (Array.mk [110, 101, 101, 100])
noncomputable def z84 : Str := Str.mk (Array.mk [111, 110, 101, 95, 111, 102])
noncomputable def z85 : Str := Str.mk (Array.mk [105, 115, 95, 110, 97, 109, 101])
noncomputable def z86 : Str := Str.mk (Array.mk [110, 97, 109, 101, 115])
noncomputable def z87 : Str := Str.mk (Array.mk [105, 115, 95, 115, 105, 103, 110])
noncomputable def z88 : Str := Str.mk (Array.mk [115, 107, 105, 112, 95, 115, 105, 103, 110])
noncomputable def z89 : Str := Str.mk (Array.mk [110, 101, 101, 100, 95, 115, 105, 103, 110])
noncomputable def z90 : Str := Str.mk (Array.mk [105, 115, 95, 110, 117, 109, 98, 101, 114])
noncomputable def z91 : Str := Str.mk (Array.mk [115, 105, 103, 110, 101, 100])
noncomputable def z92 : Str := Str.mk (Array.mk [119, 104, 111, 108, 101])
noncomputable def z93 : Str := Str.mk (Array.mk [108, 105, 116, 101, 114, 97, 108])
noncomputable def z94 : Str := Str.mk (Array.mk [111, 99, 116, 101, 116, 115])
noncomputable def z95 : Str := Str.mk (Array.mk [116, 111, 107, 101, 110, 115])
noncomputable def z96 : Str := Str.mk (Array.mk [82, 101, 97, 100, 101, 114, 46, 95, 95, 105, 110, 105, 116, 95, 95])
noncomputable def z97 : Str := Str.mk (Array.mk [82, 101, 97, 100, 101, 114, 46, 112, 101, 101, 107])
noncomputable def z98 : Str := Str.mk (Array.mk [82, 101, 97, 100, 101, 114, 46, 105, 115, 95, 100, 111, 110, 101])
noncomputable def z99 : Str := Str.mk (Array.mk [82, 101, 97, 100, 101, 114, 46, 102, 97, 117, 108, 116])
noncomputable def z100 : Str := Str.mk (Array.mk [116, 111, 107, 101, 110])
noncomputable def z101 : Str := Str.mk (Array.mk [82, 101, 97, 100, 101, 114, 46, 116, 97, 107, 101])
noncomputable def z102 : Str := Str.mk (Array.mk [107, 105, 110, 100])
noncomputable def z103 : Str := Str.mk (Array.mk [82, 101, 97, 100, 101, 114, 46, 105, 115, 95, 107, 105, 110, 100])
noncomputable def z104 : Str := Str.mk (Array.mk [119, 111, 114, 100, 115])
noncomputable def z105 : Str := Str.mk (Array.mk [82, 101, 97, 100, 101, 114, 46, 105, 115, 95, 119, 111, 114, 100])
noncomputable def z106 : Str := Str.mk (Array.mk [82, 101, 97, 100, 101, 114, 46, 115, 107, 105, 112])
noncomputable def z107 : Str := Str.mk (Array.mk [82, 101, 97, 100, 101, 114, 46, 110, 101, 101, 100])
noncomputable def z108 : Str := Str.mk (Array.mk [82, 101, 97, 100, 101, 114, 46, 111, 110, 101, 95, 111, 102])
noncomputable def z109 : Str := Str.mk (Array.mk [82, 101, 97, 100, 101, 114, 46, 119, 111, 114, 100])
noncomputable def z110 : Str := Str.mk (Array.mk [82, 101, 97, 100, 101, 114, 46, 105, 115, 95, 110, 97, 109, 101])
noncomputable def z111 : Str := Str.mk (Array.mk [82, 101, 97, 100, 101, 114, 46, 110, 97, 109, 101])
noncomputable def z112 : Str := Str.mk (Array.mk [82, 101, 97, 100, 101, 114, 46, 110, 97, 109, 101, 115])
noncomputable def z113 : Str := Str.mk (Array.mk [115, 105, 103, 110])
noncomputable def z114 : Str := Str.mk (Array.mk [82, 101, 97, 100, 101, 114, 46, 105, 115, 95, 115, 105, 103, 110])
noncomputable def z115 : Str := Str.mk (Array.mk [82, 101, 97, 100, 101, 114, 46, 115, 107, 105, 112, 95, 115, 105, 103, 110])
noncomputable def z116 : Str := Str.mk (Array.mk [82, 101, 97, 100, 101, 114, 46, 110, 101, 101, 100, 95, 115, 105, 103, 110])
noncomputable def z117 : Str := Str.mk (Array.mk [82, 101, 97, 100, 101, 114, 46, 105, 115, 95, 110, 117, 109, 98, 101, 114])
noncomputable def z118 : Str := Str.mk (Array.mk [82, 101, 97, 100, 101, 114, 46, 115, 105, 103, 110, 101, 100])
noncomputable def z119 : Str := Str.mk (Array.mk [102, 111, 117, 110, 100])
noncomputable def z120 : Str := Str.mk (Array.mk [82, 101, 97, 100, 101, 114, 46, 119, 104, 111, 108, 101])
noncomputable def z121 : Str := Str.mk (Array.mk [82, 101, 97, 100, 101, 114, 46, 108, 105, 116, 101, 114, 97, 108])
noncomputable def z122 : Str := Str.mk (Array.mk [82, 101, 97, 100, 101, 114, 46, 111, 99, 116, 101, 116, 115])
noncomputable def z123 : Str := Str.mk (Array.mk [110, 97, 109, 101, 100])
noncomputable def z124 : Str := Str.mk (Array.mk [95, 95, 100, 105, 99, 116, 95, 95])
noncomputable def z125 : Str := Str.mk (Array.mk [108, 97, 119, 95, 111, 103, 48, 48, 57, 53, 95, 48, 49])
noncomputable def z126 : Str := Str.mk (Array.mk [84, 111, 107, 101, 110])
noncomputable def z127 : Str := Str.mk (Array.mk [95, 108, 97, 119, 95, 114, 101, 109, 97, 114, 107, 115])
noncomputable def z128 : Str := Str.mk (Array.mk [95, 108, 97, 119, 95, 100, 114, 97, 119])
noncomputable def z129 : Str := Str.mk (Array.mk [95, 108, 97, 119, 95, 119, 111, 114, 100, 115])
noncomputable def z130 : Str := Str.mk (Array.mk [95, 108, 97, 119, 95, 114, 101, 102, 117, 115, 101, 100])
noncomputable def z131 : Str := Str.mk (Array.mk [108, 101, 100, 103, 101, 114, 115, 112, 101, 97, 107, 46, 116, 111, 107, 101, 110, 115])
noncomputable def z132 : Str := Str.mk (Array.mk [119, 111, 114, 116, 104])
noncomputable def z133 : Str := Str.mk (Array.mk [105, 115, 95, 105, 110, 95, 97])
noncomputable def z134 : Str := Str.mk (Array.mk [84, 111, 107, 101, 110, 46, 95, 95, 105, 110, 105, 116, 95, 95])
noncomputable def z135 : Str := Str.mk (Array.mk [84, 111, 107, 101, 110, 46, 116, 111, 108, 100])
noncomputable def z136 : Str := Str.mk (Array.mk [116, 97, 112, 101])
noncomputable def z137 : Str := Str.mk (Array.mk [109, 97, 110, 121])
noncomputable def z138 : Str := Str.mk (Array.mk [99, 101, 108, 108, 115])
noncomputable def z139 : Str := Str.mk (Array.mk [108, 97, 119])
noncomputable def z140 : Str := Str.mk (Array.mk [115, 99, 114, 105, 112, 116])
noncomputable def z141 : Str := Str.mk (Array.mk [116, 117, 114, 110])
noncomputable def z142 : Str := Str.mk (Array.mk [115, 112, 111, 116])
noncomputable def z143 : Str := Str.mk (Array.mk [112, 108, 97, 99, 101])
noncomputable def z144 : Str := Str.mk (Array.mk [99, 117, 116])
noncomputable def o_7 (P : Params) : Obj := (Obj.mk (Value.type PySem.W.SL.s2766695959194262286x5) Option.none (Data.seq (List.toArray []) 0) (List.toArray []))
noncomputable def o_8 (P : Params) : Obj := (Obj.mk Value.none Option.none (Data.fields (List.toArray [])) (List.toArray []))
noncomputable def o_9 (P : Params) : Obj := (Obj.mk (Value.type PySem.W.SL.s5856160107412720595x4) Option.none (Data.fields (List.toArray [(Value.str z0 182), (Value.str z0 183), (Value.str z1 184), (Value.int 1 0), (Value.int 0 0), (Value.int 0 0), (Value.int 0 0), (Value.int 0 0), (Value.ref 11), (Value.bool Bool.false), (Value.int 181 0), (Value.ref 12), Value.none, Value.none, Value.none, Value.none, (Value.int 185 0), (Value.int 1 0), (Value.str z1 186)])) (List.toArray []))
noncomputable def o_10 (P : Params) : Obj := (Obj.mk (Value.type PySem.W.SL.s658472552662922059x5) Option.none Data.plain (List.toArray [(Option.some (Value.ref 13)), (Option.some (Value.ref 3)), (Option.some (Value.ref 3)), Option.none, (Option.some (Value.str z2 164)), Option.none, (Option.some (Value.ref 0))]))
noncomputable def heap_10 (P : Params) : Heap := (Heap.mk (Array.mk [(PySem.W.boot_o_0 P), (PySem.W.boot_o_1 P), (PySem.W.boot_o_2 P), (PySem.W.boot_o_3 P), (PySem.W.boot_o_4 P), (PySem.W.boot_o_5 P), (PySem.W.boot_o_6 P), (PySem.W.boot_o_7 P), (PySem.W.boot_o_8 P), (PySem.W.boot_o_9 P), (PySem.W.boot_o_10 P), (o_7 P), (o_8 P), (o_9 P), (o_10 P)]) (Life.mk [] [] [] 0 [] [] Bool.false (List.toArray []) [] 0 Bool.false Bool.false Bool.false 0 [2000, 10, 10] Bool.false 0 Bool.true [] [] 0 Bool.false))
noncomputable def tree_11 (P : Params) : PySem.W.BT := (PySem.W.BT.node (PySem.W.boot_o_0 P) (PySem.W.BT.node (PySem.W.boot_o_1 P) (PySem.W.BT.node (PySem.W.boot_o_3 P) (PySem.W.BT.node (PySem.W.boot_o_7 P) PySem.W.BT.nil PySem.W.BT.nil) (PySem.W.BT.node (o_7 P) PySem.W.BT.nil PySem.W.BT.nil)) (PySem.W.BT.node (PySem.W.boot_o_5 P) (PySem.W.BT.node (PySem.W.boot_o_9 P) PySem.W.BT.nil PySem.W.BT.nil) (PySem.W.BT.node (o_9 P) PySem.W.BT.nil PySem.W.BT.nil))) (PySem.W.BT.node (PySem.W.boot_o_2 P) (PySem.W.BT.node (PySem.W.boot_o_4 P) (PySem.W.BT.node (PySem.W.boot_o_8 P) PySem.W.BT.nil PySem.W.BT.nil) (PySem.W.BT.node (o_8 P) PySem.W.BT.nil PySem.W.BT.nil)) (PySem.W.BT.node (PySem.W.boot_o_6 P) (PySem.W.BT.node (PySem.W.boot_o_10 P) PySem.W.BT.nil PySem.W.BT.nil) (PySem.W.BT.node (o_10 P) PySem.W.BT.nil PySem.W.BT.nil))))
noncomputable def o_13 (P : Params) : Obj := (Obj.mk (Value.type PySem.W.SL.s14018661285674007319x4) Option.none (Data.dict (List.toArray [(DictEntry.mk (PyData.keyHash P z3) (Value.str z3 165) (Value.str z4 223)), (DictEntry.mk (PyData.keyHash P z5) (Value.str z5 166) Value.none), (DictEntry.mk (PyData.keyHash P z6) (Value.str z6 167) Value.none), (DictEntry.mk (PyData.keyHash P z7) (Value.str z7 168) (Value.builtin PySem.W.SL.s7097527257260152453x26)), (DictEntry.mk (PyData.keyHash P z8) (Value.str z8 169) Value.none), (DictEntry.mk (PyData.keyHash P z9) (Value.str z9 170) (Value.ref 6)), (DictEntry.mk (PyData.keyHash P z10) (Value.str z10 171) (Value.ref 4)), (DictEntry.mk (PyData.keyHash P z11) (Value.str z11 173) (Value.str z1 172)), (DictEntry.mk (PyData.keyHash P z12) (Value.str z12 174) Value.none), (DictEntry.mk (PyData.keyHash P z13) (Value.str z13 193) (Value.ref 21)), (DictEntry.mk (PyData.keyHash P z14) (Value.str z14 201) (Value.ref 22)), (DictEntry.mk (PyData.keyHash P z15) (Value.str z15 208) (Value.ref 29)), (DictEntry.mk (PyData.keyHash P z16) (Value.str z16 214) (Value.ref 34)), (DictEntry.mk (PyData.keyHash P z17) (Value.str z17 222) (Value.ref 41))]) 14) (List.toArray []))
noncomputable def o_14 (P : Params) : Obj := (Obj.mk Value.none Option.none (Data.fields (List.toArray [(Value.int 1 0), (Value.int 0 0), (Value.ref 20), (Value.int 6 0), (Value.int 0 0), (Value.ref 28), (Value.int 10 0), (Value.int 0 0), (Value.ref 33), (Value.int 12 0), (Value.int 0 0), (Value.ref 40)])) (List.toArray []))
noncomputable def o_15 (P : Params) : Obj := (Obj.mk (Value.type PySem.W.SL.s2766695959194262286x5) Option.none (Data.seq (List.toArray []) 0) (List.toArray []))
noncomputable def o_16 (P : Params) : Obj := (Obj.mk Value.none Option.none (Data.fields (List.toArray [])) (List.toArray []))
noncomputable def o_17 (P : Params) : Obj := (Obj.mk (Value.type PySem.W.SL.s2766695959194262286x5) Option.none (Data.seq (List.toArray [(Value.str z18 190)]) 0) (List.toArray []))
noncomputable def o_18 (P : Params) : Obj := (Obj.mk (Value.type PySem.W.SL.s2766695959194262286x5) Option.none (Data.seq (List.toArray []) 0) (List.toArray []))
noncomputable def o_19 (P : Params) : Obj := (Obj.mk Value.none Option.none (Data.func (FuncData.mk z13 z13 (fnA (stR 0)) (FuncBody.stmts (fnB (stR 0))) (fnS (stR 0)) 0 [] Value.none Value.none Value.none Value.none Option.none Value.none Value.none 0)) (List.toArray []))
noncomputable def o_20 (P : Params) : Obj := (Obj.mk (Value.type PySem.W.SL.s5856160107412720595x4) Option.none (Data.fields (List.toArray [(Value.str z13 187), (Value.str z13 188), (Value.str z1 189), (Value.int 1 0), (Value.int 1 0), (Value.int 0 0), (Value.int 0 0), (Value.int 3 0), (Value.ref 15), (Value.bool Bool.true), (Value.int 181 0), (Value.ref 16), Value.none, (Value.ref 17), (Value.ref 18), (Value.ref 19), (Value.int 191 0), (Value.int 1 0), (Value.str z1 192)])) (List.toArray []))
noncomputable def o_21 (P : Params) : Obj := (Obj.mk (Value.type PySem.W.SL.s7174869446012820540x8) Option.none (Data.func (FuncData.mk z13 z13 (fnA (stR 0)) (FuncBody.stmts (fnB (stR 0))) (fnS (stR 0)) 3 [] Value.none Value.none Value.none (Value.str z2 164) Option.none (Value.ref 20) Value.none 0)) (List.toArray []))
noncomputable def o_22 (P : Params) : Obj := (Obj.mk (Value.type PySem.W.SL.s2766695959194262286x5) Option.none (Data.seq (List.toArray [(Value.str z19 196), (Value.str z20 197), (Value.str z21 198), (Value.str z22 199), (Value.str z23 200)]) 0) (List.toArray []))
noncomputable def o_23 (P : Params) : Obj := (Obj.mk (Value.type PySem.W.SL.s2766695959194262286x5) Option.none (Data.seq (List.toArray []) 0) (List.toArray []))
noncomputable def o_24 (P : Params) : Obj := (Obj.mk Value.none Option.none (Data.fields (List.toArray [])) (List.toArray []))
noncomputable def o_25 (P : Params) : Obj := (Obj.mk (Value.type PySem.W.SL.s2766695959194262286x5) Option.none (Data.seq (List.toArray [(Value.str z24 205)]) 0) (List.toArray []))
noncomputable def o_26 (P : Params) : Obj := (Obj.mk (Value.type PySem.W.SL.s2766695959194262286x5) Option.none (Data.seq (List.toArray []) 0) (List.toArray []))
noncomputable def o_27 (P : Params) : Obj := (Obj.mk Value.none Option.none (Data.func (FuncData.mk z15 z15 (fnA (stR 3)) (FuncBody.stmts (fnB (stR 3))) (fnS (stR 3)) 0 [] Value.none Value.none Value.none Value.none Option.none Value.none Value.none 0)) (List.toArray []))
noncomputable def o_28 (P : Params) : Obj := (Obj.mk (Value.type PySem.W.SL.s5856160107412720595x4) Option.none (Data.fields (List.toArray [(Value.str z15 202), (Value.str z15 203), (Value.str z1 204), (Value.int 6 0), (Value.int 1 0), (Value.int 0 0), (Value.int 0 0), (Value.int 3 0), (Value.ref 23), (Value.bool Bool.true), (Value.int 181 0), (Value.ref 24), Value.none, (Value.ref 25), (Value.ref 26), (Value.ref 27), (Value.int 206 0), (Value.int 6 0), (Value.str z1 207)])) (List.toArray []))
noncomputable def o_29 (P : Params) : Obj := (Obj.mk (Value.type PySem.W.SL.s7174869446012820540x8) Option.none (Data.func (FuncData.mk z15 z15 (fnA (stR 3)) (FuncBody.stmts (fnB (stR 3))) (fnS (stR 3)) 3 [] Value.none Value.none Value.none (Value.str z25 194) Option.none (Value.ref 28) Value.none 0)) (List.toArray []))
noncomputable def o_30 (P : Params) : Obj := (Obj.mk (Value.type PySem.W.SL.s2766695959194262286x5) Option.none (Data.seq (List.toArray []) 0) (List.toArray []))
noncomputable def o_31 (P : Params) : Obj := (Obj.mk Value.none Option.none (Data.fields (List.toArray [])) (List.toArray []))
noncomputable def o_32 (P : Params) : Obj := (Obj.mk Value.none Option.none (Data.func (FuncData.mk z16 z16 (fnA (stR 4)) (FuncBody.stmts (fnB (stR 4))) (fnS (stR 4)) 0 [] Value.none Value.none Value.none Value.none Option.none Value.none Value.none 0)) (List.toArray []))
noncomputable def o_33 (P : Params) : Obj := (Obj.mk (Value.type PySem.W.SL.s5856160107412720595x4) Option.none (Data.fields (List.toArray [(Value.str z16 209), (Value.str z16 210), (Value.str z1 211), (Value.int 10 0), (Value.int 1 0), (Value.int 0 0), (Value.int 0 0), (Value.int 3 0), (Value.ref 30), (Value.bool Bool.true), (Value.int 181 0), (Value.ref 31), Value.none, Value.none, Value.none, (Value.ref 32), (Value.int 212 0), (Value.int 10 0), (Value.str z1 213)])) (List.toArray []))
noncomputable def o_34 (P : Params) : Obj := (Obj.mk (Value.type PySem.W.SL.s7174869446012820540x8) Option.none (Data.func (FuncData.mk z16 z16 (fnA (stR 4)) (FuncBody.stmts (fnB (stR 4))) (fnS (stR 4)) 3 [] Value.none Value.none Value.none (Value.str z25 194) Option.none (Value.ref 33) Value.none 0)) (List.toArray []))
noncomputable def o_35 (P : Params) : Obj := (Obj.mk (Value.type PySem.W.SL.s2766695959194262286x5) Option.none (Data.seq (List.toArray []) 0) (List.toArray []))
noncomputable def o_36 (P : Params) : Obj := (Obj.mk Value.none Option.none (Data.fields (List.toArray [])) (List.toArray []))
noncomputable def o_37 (P : Params) : Obj := (Obj.mk (Value.type PySem.W.SL.s2766695959194262286x5) Option.none (Data.seq (List.toArray [(Value.str z24 218), (Value.str z26 219)]) 0) (List.toArray []))
noncomputable def o_38 (P : Params) : Obj := (Obj.mk (Value.type PySem.W.SL.s2766695959194262286x5) Option.none (Data.seq (List.toArray []) 0) (List.toArray []))
noncomputable def o_39 (P : Params) : Obj := (Obj.mk Value.none Option.none (Data.func (FuncData.mk z17 z17 (fnA (stR 5)) (FuncBody.stmts (fnB (stR 5))) (fnS (stR 5)) 0 [] Value.none Value.none Value.none Value.none Option.none Value.none Value.none 0)) (List.toArray []))
noncomputable def o_40 (P : Params) : Obj := (Obj.mk (Value.type PySem.W.SL.s5856160107412720595x4) Option.none (Data.fields (List.toArray [(Value.str z17 215), (Value.str z17 216), (Value.str z1 217), (Value.int 12 0), (Value.int 1 0), (Value.int 0 0), (Value.int 0 0), (Value.int 3 0), (Value.ref 35), (Value.bool Bool.true), (Value.int 181 0), (Value.ref 36), Value.none, (Value.ref 37), (Value.ref 38), (Value.ref 39), (Value.int 220 0), (Value.int 12 0), (Value.str z1 221)])) (List.toArray []))
noncomputable def o_41 (P : Params) : Obj := (Obj.mk (Value.type PySem.W.SL.s7174869446012820540x8) Option.none (Data.func (FuncData.mk z17 z17 (fnA (stR 5)) (FuncBody.stmts (fnB (stR 5))) (fnS (stR 5)) 3 [] Value.none Value.none Value.none (Value.str z25 194) Option.none (Value.ref 40) Value.none 0)) (List.toArray []))
noncomputable def tree_41 (P : Params) : PySem.W.BT := (PySem.W.BT.node (PySem.W.boot_o_0 P) (PySem.W.BT.node (PySem.W.boot_o_1 P) (PySem.W.BT.node (o_13 P) (PySem.W.BT.node (PySem.W.boot_o_7 P) (PySem.W.BT.node (o_15 P) (PySem.W.BT.node (o_31 P) PySem.W.BT.nil PySem.W.BT.nil) PySem.W.BT.nil) (PySem.W.BT.node (o_23 P) (PySem.W.BT.node (o_39 P) PySem.W.BT.nil PySem.W.BT.nil) PySem.W.BT.nil)) (PySem.W.BT.node (o_7 P) (PySem.W.BT.node (o_19 P) (PySem.W.BT.node (o_35 P) PySem.W.BT.nil PySem.W.BT.nil) PySem.W.BT.nil) (PySem.W.BT.node (o_27 P) PySem.W.BT.nil PySem.W.BT.nil))) (PySem.W.BT.node (PySem.W.boot_o_5 P) (PySem.W.BT.node (PySem.W.boot_o_9 P) (PySem.W.BT.node (o_17 P) (PySem.W.BT.node (o_33 P) PySem.W.BT.nil PySem.W.BT.nil) PySem.W.BT.nil) (PySem.W.BT.node (o_25 P) (PySem.W.BT.node (o_41 P) PySem.W.BT.nil PySem.W.BT.nil) PySem.W.BT.nil)) (PySem.W.BT.node (o_9 P) (PySem.W.BT.node (o_21 P) (PySem.W.BT.node (o_37 P) PySem.W.BT.nil PySem.W.BT.nil) PySem.W.BT.nil) (PySem.W.BT.node (o_29 P) PySem.W.BT.nil PySem.W.BT.nil)))) (PySem.W.BT.node (PySem.W.boot_o_2 P) (PySem.W.BT.node (PySem.W.boot_o_4 P) (PySem.W.BT.node (PySem.W.boot_o_8 P) (PySem.W.BT.node (o_16 P) (PySem.W.BT.node (o_32 P) PySem.W.BT.nil PySem.W.BT.nil) PySem.W.BT.nil) (PySem.W.BT.node (o_24 P) (PySem.W.BT.node (o_40 P) PySem.W.BT.nil PySem.W.BT.nil) PySem.W.BT.nil)) (PySem.W.BT.node (o_14 P) (PySem.W.BT.node (o_20 P) (PySem.W.BT.node (o_36 P) PySem.W.BT.nil PySem.W.BT.nil) PySem.W.BT.nil) (PySem.W.BT.node (o_28 P) PySem.W.BT.nil PySem.W.BT.nil))) (PySem.W.BT.node (PySem.W.boot_o_6 P) (PySem.W.BT.node (PySem.W.boot_o_10 P) (PySem.W.BT.node (o_18 P) (PySem.W.BT.node (o_34 P) PySem.W.BT.nil PySem.W.BT.nil) PySem.W.BT.nil) (PySem.W.BT.node (o_26 P) PySem.W.BT.nil PySem.W.BT.nil)) (PySem.W.BT.node (o_10 P) (PySem.W.BT.node (o_22 P) (PySem.W.BT.node (o_38 P) PySem.W.BT.nil PySem.W.BT.nil) PySem.W.BT.nil) (PySem.W.BT.node (o_30 P) PySem.W.BT.nil PySem.W.BT.nil)))))
noncomputable def o_42 (P : Params) : Obj := (Obj.mk Value.none Option.none (Data.dict (List.toArray [(DictEntry.mk (PyData.keyHash P z27) (Value.str z27 261) (Value.int 67 0)), (DictEntry.mk (PyData.keyHash P z28) (Value.str z28 262) (Value.int 1 0))]) 2) (List.toArray []))
noncomputable def o_43 (P : Params) : Obj := (Obj.mk (Value.type PySem.W.SL.s14018661285674007319x4) Option.none (Data.dict (List.toArray [(DictEntry.mk (PyData.keyHash P z3) (Value.str z3 165) (Value.str z4 223)), (DictEntry.mk (PyData.keyHash P z5) (Value.str z5 166) Value.none), (DictEntry.mk (PyData.keyHash P z6) (Value.str z6 167) Value.none), (DictEntry.mk (PyData.keyHash P z7) (Value.str z7 168) (Value.builtin PySem.W.SL.s7097527257260152453x26)), (DictEntry.mk (PyData.keyHash P z8) (Value.str z8 169) Value.none), (DictEntry.mk (PyData.keyHash P z9) (Value.str z9 170) (Value.ref 6)), (DictEntry.mk (PyData.keyHash P z10) (Value.str z10 171) (Value.ref 4)), (DictEntry.mk (PyData.keyHash P z11) (Value.str z11 173) (Value.str z1 172)), (DictEntry.mk (PyData.keyHash P z12) (Value.str z12 174) Value.none), (DictEntry.mk (PyData.keyHash P z13) (Value.str z13 193) (Value.ref 21)), (DictEntry.mk (PyData.keyHash P z14) (Value.str z14 201) (Value.ref 22)), (DictEntry.mk (PyData.keyHash P z15) (Value.str z15 208) (Value.ref 29)), (DictEntry.mk (PyData.keyHash P z16) (Value.str z16 214) (Value.ref 34)), (DictEntry.mk (PyData.keyHash P z17) (Value.str z17 222) (Value.ref 41)), (DictEntry.mk (PyData.keyHash P z29) (Value.str z29 264) (Value.ref 67))]) 15) (List.toArray []))
noncomputable def o_44 (P : Params) : Obj := (Obj.mk Value.none Option.none (Data.fields (List.toArray [(Value.int 1 0), (Value.int 0 0), (Value.ref 20), (Value.int 6 0), (Value.int 0 0), (Value.ref 28), (Value.int 10 0), (Value.int 0 0), (Value.ref 33), (Value.int 12 0), (Value.int 0 0), (Value.ref 40), (Value.int 27 0), (Value.int 0 0), (Value.ref 47)])) (List.toArray []))
noncomputable def o_45 (P : Params) : Obj := (Obj.mk (Value.type PySem.W.SL.s2766695959194262286x5) Option.none (Data.seq (List.toArray [(Value.type PySem.W.SL.s5946037652744460706x9)]) 0) (List.toArray []))
noncomputable def o_46 (P : Params) : Obj := (Obj.mk (Value.type PySem.W.SL.s11030030927630378310x26) Option.none (Data.fields (List.toArray [(Value.builtin PySem.W.SL.s10062305145149207511x16), (Value.type PySem.W.SL.s17162191345867700912x4)])) (List.toArray []))
noncomputable def o_47 (P : Params) : Obj := (Obj.mk (Value.type PySem.W.SL.s14018661285674007319x4) Option.none (Data.dict (List.toArray [(DictEntry.mk (PyData.keyHash P z30) (Value.str z30 232) (Value.str z4 223)), (DictEntry.mk (PyData.keyHash P z31) (Value.str z31 234) (Value.str z29 233)), (DictEntry.mk (PyData.keyHash P z32) (Value.str z32 236) (Value.int 27 235)), (DictEntry.mk (PyData.keyHash P z33) (Value.str z33 247) (Value.ref 57)), (DictEntry.mk (PyData.keyHash P z34) (Value.str z34 254) (Value.ref 64)), (DictEntry.mk (PyData.keyHash P z35) (Value.str z35 257) (Value.ref 65))]) 6) (List.toArray []))
noncomputable def o_48 (P : Params) : Obj := (Obj.mk (Value.type PySem.W.SL.s2766695959194262286x5) Option.none (Data.seq (List.toArray []) 0) (List.toArray []))
noncomputable def o_49 (P : Params) : Obj := (Obj.mk Value.none Option.none (Data.fields (List.toArray [(Value.int 29 0), (Value.int 4 0), (Value.ref 56), (Value.int 34 0), (Value.int 4 0), (Value.ref 63)])) (List.toArray []))
noncomputable def o_50 (P : Params) : Obj := (Obj.mk (Value.type PySem.W.SL.s5856160107412720595x4) Option.none (Data.fields (List.toArray [(Value.str z29 227), (Value.str z29 228), (Value.str z1 229), (Value.int 27 0), (Value.int 0 0), (Value.int 0 0), (Value.int 0 0), (Value.int 0 0), (Value.ref 45), (Value.bool Bool.false), (Value.int 181 0), (Value.ref 46), Value.none, Value.none, Value.none, Value.none, (Value.int 230 0), (Value.int 27 0), (Value.str z1 231)])) (List.toArray []))
noncomputable def o_51 (P : Params) : Obj := (Obj.mk (Value.type PySem.W.SL.s658472552662922059x5) Option.none Data.plain (List.toArray [(Option.some (Value.ref 47)), (Option.some (Value.ref 3)), (Option.some (Value.ref 44)), Option.none, (Option.some (Value.str z4 223)), Option.none, (Option.some (Value.ref 0))]))
noncomputable def o_52 (P : Params) : Obj := (Obj.mk (Value.type PySem.W.SL.s2766695959194262286x5) Option.none (Data.seq (List.toArray [(Value.int 0 237), (Value.int 0 238)]) 0) (List.toArray []))
noncomputable def o_53 (P : Params) : Obj := (Obj.mk (Value.type PySem.W.SL.s2766695959194262286x5) Option.none (Data.seq (List.toArray [(Value.ref 49)]) 0) (List.toArray []))
noncomputable def o_54 (P : Params) : Obj := (Obj.mk (Value.type PySem.W.SL.s2766695959194262286x5) Option.none (Data.seq (List.toArray []) 0) (List.toArray []))
noncomputable def o_55 (P : Params) : Obj := (Obj.mk Value.none Option.none (Data.fields (List.toArray [])) (List.toArray []))
noncomputable def o_56 (P : Params) : Obj := (Obj.mk (Value.type PySem.W.SL.s2766695959194262286x5) Option.none (Data.seq (List.toArray [(Value.str z36 242), (Value.str z37 243), (Value.str z38 244)]) 0) (List.toArray []))
noncomputable def o_57 (P : Params) : Obj := (Obj.mk (Value.type PySem.W.SL.s2766695959194262286x5) Option.none (Data.seq (List.toArray []) 0) (List.toArray []))
noncomputable def o_58 (P : Params) : Obj := (Obj.mk Value.none Option.none (Data.func (FuncData.mk z33 z39 (fnA (clR 7 0)) (FuncBody.stmts (fnB (clR 7 0))) (fnS (clR 7 0)) 0 [] Value.none Value.none Value.none Value.none Option.none Value.none Value.none 0)) (List.toArray []))
noncomputable def o_59 (P : Params) : Obj := (Obj.mk (Value.type PySem.W.SL.s5856160107412720595x4) Option.none (Data.fields (List.toArray [(Value.str z33 239), (Value.str z39 240), (Value.str z1 241), (Value.int 29 0), (Value.int 3 0), (Value.int 0 0), (Value.int 0 0), (Value.int 3 0), (Value.ref 51), (Value.bool Bool.true), (Value.int 181 0), (Value.ref 52), Value.none, (Value.ref 53), (Value.ref 54), (Value.ref 55), (Value.int 245 0), (Value.int 29 0), (Value.str z1 246)])) (List.toArray []))
noncomputable def o_60 (P : Params) : Obj := (Obj.mk (Value.type PySem.W.SL.s7174869446012820540x8) Option.none (Data.func (FuncData.mk z33 z39 (fnA (clR 7 0)) (FuncBody.stmts (fnB (clR 7 0))) (fnS (clR 7 0)) 3 [] (Value.ref 50) Value.none Value.none (Value.str z4 223) Option.none (Value.ref 56) Value.none 0)) (List.toArray []))
noncomputable def o_61 (P : Params) : Obj := (Obj.mk (Value.type PySem.W.SL.s2766695959194262286x5) Option.none (Data.seq (List.toArray []) 0) (List.toArray []))
noncomputable def o_62 (P : Params) : Obj := (Obj.mk Value.none Option.none (Data.fields (List.toArray [])) (List.toArray []))
noncomputable def o_63 (P : Params) : Obj := (Obj.mk (Value.type PySem.W.SL.s2766695959194262286x5) Option.none (Data.seq (List.toArray [(Value.str z36 251)]) 0) (List.toArray []))
noncomputable def o_64 (P : Params) : Obj := (Obj.mk (Value.type PySem.W.SL.s2766695959194262286x5) Option.none (Data.seq (List.toArray []) 0) (List.toArray []))
noncomputable def o_65 (P : Params) : Obj := (Obj.mk Value.none Option.none (Data.func (FuncData.mk z34 z40 (fnA (clR 7 1)) (FuncBody.stmts (fnB (clR 7 1))) (fnS (clR 24 1)) 0 [] Value.none Value.none Value.none Value.none Option.none Value.none Value.none 0)) (List.toArray []))
noncomputable def o_66 (P : Params) : Obj := (Obj.mk (Value.type PySem.W.SL.s5856160107412720595x4) Option.none (Data.fields (List.toArray [(Value.str z34 248), (Value.str z40 249), (Value.str z1 250), (Value.int 34 0), (Value.int 1 0), (Value.int 0 0), (Value.int 0 0), (Value.int 3 0), (Value.ref 58), (Value.bool Bool.true), (Value.int 181 0), (Value.ref 59), Value.none, (Value.ref 60), (Value.ref 61), (Value.ref 62), (Value.int 252 0), (Value.int 34 0), (Value.str z1 253)])) (List.toArray []))
noncomputable def o_67 (P : Params) : Obj := (Obj.mk (Value.type PySem.W.SL.s7174869446012820540x8) Option.none (Data.func (FuncData.mk z34 z40 (fnA (clR 7 1)) (FuncBody.stmts (fnB (clR 7 1))) (fnS (clR 24 1)) 3 [] Value.none Value.none Value.none (Value.str z4 223) Option.none (Value.ref 63) Value.none 0)) (List.toArray []))
noncomputable def o_68 (P : Params) : Obj := (Obj.mk (Value.type PySem.W.SL.s2766695959194262286x5) Option.none (Data.seq (List.toArray [(Value.str z38 255), (Value.str z37 256)]) 0) (List.toArray []))
noncomputable def o_69 (P : Params) : Obj := (Obj.mk (Value.type PySem.W.SL.s14018661285674007319x4) Option.none (Data.dict (List.toArray [(DictEntry.mk (PyData.keyHash P z30) (Value.str z30 232) (Value.str z4 223)), (DictEntry.mk (PyData.keyHash P z32) (Value.str z32 236) (Value.int 27 235)), (DictEntry.mk (PyData.keyHash P z33) (Value.str z33 247) (Value.ref 57)), (DictEntry.mk (PyData.keyHash P z34) (Value.str z34 254) (Value.ref 64)), (DictEntry.mk (PyData.keyHash P z35) (Value.str z35 257) (Value.ref 65)), (DictEntry.mk (PyData.keyHash P z41) (Value.str z41 259) (Value.ref 68)), (DictEntry.mk (PyData.keyHash P z5) (Value.str z5 260) Value.none)]) 3) (List.toArray []))
noncomputable def o_70 (P : Params) : Obj := (Obj.mk (Value.type PySem.W.SL.s17162191345867700912x4) Option.none (Data.cls (ClassData.mk z29 [(Value.type PySem.W.SL.s5946037652744460706x9)] [(Value.ref 67), (Value.type PySem.W.SL.s5946037652744460706x9), (Value.type PySem.W.SL.s4278001404047624695x13), (Value.type PySem.W.SL.s2742458400755230247x6)] 66 z29 Bool.true [] [] Bool.false Option.none Bool.false)) (List.toArray [(Option.some (Value.ref 42)), Option.none, (Option.some (Value.str z29 225)), (Option.some (Value.str z29 233)), (Option.some (Value.builtin PySem.W.SL.s5160863994218179198x17)), (Option.some (Value.bool Bool.true))]))
noncomputable def o_71 (P : Params) : Obj := (Obj.mk (Value.type PySem.W.SL.s14755015743595814543x17) Option.none (Data.fields (List.toArray [(Value.str z41 258), (Value.ref 67), (Value.builtin PySem.W.SL.s10220274742760427390x26), Value.none])) (List.toArray []))
noncomputable def o_72 (P : Params) : Obj := (Obj.mk (Value.type PySem.W.SL.s4290257624100764138x5) Option.none (Data.fields (List.toArray [(Value.ref 67), (Value.ref 67), (Value.ref 67)])) (List.toArray []))
noncomputable def o_73 (P : Params) : Obj := (Obj.mk (Value.type PySem.W.SL.s11030030927630378310x26) Option.none (Data.fields (List.toArray [(Value.builtin PySem.W.SL.s4860613602091757760x24), (Value.ref 67)])) (List.toArray []))
noncomputable def tree_73 (P : Params) : PySem.W.BT := (PySem.W.BT.node (PySem.W.boot_o_0 P) (PySem.W.BT.node (PySem.W.boot_o_1 P) (PySem.W.BT.node (o_43 P) (PySem.W.BT.node (PySem.W.boot_o_7 P) (PySem.W.BT.node (o_15 P) (PySem.W.BT.node (o_31 P) (PySem.W.BT.node (o_66 P) PySem.W.BT.nil PySem.W.BT.nil) PySem.W.BT.nil) (PySem.W.BT.node (o_50 P) PySem.W.BT.nil PySem.W.BT.nil)) (PySem.W.BT.node (o_23 P) (PySem.W.BT.node (o_39 P) PySem.W.BT.nil PySem.W.BT.nil) (PySem.W.BT.node (o_58 P) PySem.W.BT.nil PySem.W.BT.nil))) (PySem.W.BT.node (o_7 P) (PySem.W.BT.node (o_19 P) (PySem.W.BT.node (o_35 P) (PySem.W.BT.node (o_70 P) PySem.W.BT.nil PySem.W.BT.nil) PySem.W.BT.nil) (PySem.W.BT.node (o_54 P) PySem.W.BT.nil PySem.W.BT.nil)) (PySem.W.BT.node (o_27 P) (PySem.W.BT.node (o_46 P) PySem.W.BT.nil PySem.W.BT.nil) (PySem.W.BT.node (o_62 P) PySem.W.BT.nil PySem.W.BT.nil)))) (PySem.W.BT.node (PySem.W.boot_o_5 P) (PySem.W.BT.node (PySem.W.boot_o_9 P) (PySem.W.BT.node (o_17 P) (PySem.W.BT.node (o_33 P) (PySem.W.BT.node (o_68 P) PySem.W.BT.nil PySem.W.BT.nil) PySem.W.BT.nil) (PySem.W.BT.node (o_52 P) PySem.W.BT.nil PySem.W.BT.nil)) (PySem.W.BT.node (o_25 P) (PySem.W.BT.node (o_41 P) PySem.W.BT.nil PySem.W.BT.nil) (PySem.W.BT.node (o_60 P) PySem.W.BT.nil PySem.W.BT.nil))) (PySem.W.BT.node (o_9 P) (PySem.W.BT.node (o_21 P) (PySem.W.BT.node (o_37 P) (PySem.W.BT.node (o_72 P) PySem.W.BT.nil PySem.W.BT.nil) PySem.W.BT.nil) (PySem.W.BT.node (o_56 P) PySem.W.BT.nil PySem.W.BT.nil)) (PySem.W.BT.node (o_29 P) (PySem.W.BT.node (o_48 P) PySem.W.BT.nil PySem.W.BT.nil) (PySem.W.BT.node (o_64 P) PySem.W.BT.nil PySem.W.BT.nil))))) (PySem.W.BT.node (o_42 P) (PySem.W.BT.node (PySem.W.boot_o_4 P) (PySem.W.BT.node (PySem.W.boot_o_8 P) (PySem.W.BT.node (o_16 P) (PySem.W.BT.node (o_32 P) (PySem.W.BT.node (o_67 P) PySem.W.BT.nil PySem.W.BT.nil) PySem.W.BT.nil) (PySem.W.BT.node (o_51 P) PySem.W.BT.nil PySem.W.BT.nil)) (PySem.W.BT.node (o_24 P) (PySem.W.BT.node (o_40 P) PySem.W.BT.nil PySem.W.BT.nil) (PySem.W.BT.node (o_59 P) PySem.W.BT.nil PySem.W.BT.nil))) (PySem.W.BT.node (o_44 P) (PySem.W.BT.node (o_20 P) (PySem.W.BT.node (o_36 P) (PySem.W.BT.node (o_71 P) PySem.W.BT.nil PySem.W.BT.nil) PySem.W.BT.nil) (PySem.W.BT.node (o_55 P) PySem.W.BT.nil PySem.W.BT.nil)) (PySem.W.BT.node (o_28 P) (PySem.W.BT.node (o_47 P) PySem.W.BT.nil PySem.W.BT.nil) (PySem.W.BT.node (o_63 P) PySem.W.BT.nil PySem.W.BT.nil)))) (PySem.W.BT.node (PySem.W.boot_o_6 P) (PySem.W.BT.node (PySem.W.boot_o_10 P) (PySem.W.BT.node (o_18 P) (PySem.W.BT.node (o_34 P) (PySem.W.BT.node (o_69 P) PySem.W.BT.nil PySem.W.BT.nil) PySem.W.BT.nil) (PySem.W.BT.node (o_53 P) PySem.W.BT.nil PySem.W.BT.nil)) (PySem.W.BT.node (o_26 P) (PySem.W.BT.node (o_45 P) PySem.W.BT.nil PySem.W.BT.nil) (PySem.W.BT.node (o_61 P) PySem.W.BT.nil PySem.W.BT.nil))) (PySem.W.BT.node (o_10 P) (PySem.W.BT.node (o_22 P) (PySem.W.BT.node (o_38 P) (PySem.W.BT.node (o_73 P) PySem.W.BT.nil PySem.W.BT.nil) PySem.W.BT.nil) (PySem.W.BT.node (o_57 P) PySem.W.BT.nil PySem.W.BT.nil)) (PySem.W.BT.node (o_30 P) (PySem.W.BT.node (o_49 P) PySem.W.BT.nil PySem.W.BT.nil) (PySem.W.BT.node (o_65 P) PySem.W.BT.nil PySem.W.BT.nil))))))
noncomputable def o_74 (P : Params) : Obj := (Obj.mk (Value.type PySem.W.SL.s14018661285674007319x4) Option.none (Data.dict (List.toArray [(DictEntry.mk (PyData.keyHash P z3) (Value.str z3 165) (Value.str z4 223)), (DictEntry.mk (PyData.keyHash P z5) (Value.str z5 166) Value.none), (DictEntry.mk (PyData.keyHash P z6) (Value.str z6 167) Value.none), (DictEntry.mk (PyData.keyHash P z7) (Value.str z7 168) (Value.builtin PySem.W.SL.s7097527257260152453x26)), (DictEntry.mk (PyData.keyHash P z8) (Value.str z8 169) Value.none), (DictEntry.mk (PyData.keyHash P z9) (Value.str z9 170) (Value.ref 6)), (DictEntry.mk (PyData.keyHash P z10) (Value.str z10 171) (Value.ref 4)), (DictEntry.mk (PyData.keyHash P z11) (Value.str z11 173) (Value.str z1 172)), (DictEntry.mk (PyData.keyHash P z12) (Value.str z12 174) Value.none), (DictEntry.mk (PyData.keyHash P z13) (Value.str z13 193) (Value.ref 21)), (DictEntry.mk (PyData.keyHash P z14) (Value.str z14 201) (Value.ref 22)), (DictEntry.mk (PyData.keyHash P z15) (Value.str z15 208) (Value.ref 29)), (DictEntry.mk (PyData.keyHash P z16) (Value.str z16 214) (Value.ref 34)), (DictEntry.mk (PyData.keyHash P z17) (Value.str z17 222) (Value.ref 41)), (DictEntry.mk (PyData.keyHash P z29) (Value.str z29 264) (Value.ref 67)), (DictEntry.mk (PyData.keyHash P z42) (Value.str z42 280) (Value.ref 80))]) 16) (List.toArray []))
noncomputable def o_75 (P : Params) : Obj := (Obj.mk Value.none Option.none (Data.fields (List.toArray [(Value.int 1 0), (Value.int 0 0), (Value.ref 20), (Value.int 6 0), (Value.int 0 0), (Value.ref 28), (Value.int 10 0), (Value.int 0 0), (Value.ref 33), (Value.int 12 0), (Value.int 0 0), (Value.ref 40), (Value.int 27 0), (Value.int 0 0), (Value.ref 47), (Value.int 36 0), (Value.int 0 0), (Value.ref 76)])) (List.toArray []))
noncomputable def o_76 (P : Params) : Obj := (Obj.mk (Value.type PySem.W.SL.s17162191345867700912x4) Option.none (Data.cls (ClassData.mk z29 [(Value.type PySem.W.SL.s5946037652744460706x9)] [(Value.ref 67), (Value.type PySem.W.SL.s5946037652744460706x9), (Value.type PySem.W.SL.s4278001404047624695x13), (Value.type PySem.W.SL.s2742458400755230247x6)] 66 z29 Bool.true [] [(Value.ref 80)] Bool.false Option.none Bool.false)) (List.toArray [(Option.some (Value.ref 42)), Option.none, (Option.some (Value.str z29 225)), (Option.some (Value.str z29 233)), (Option.some (Value.builtin PySem.W.SL.s5160863994218179198x17)), (Option.some (Value.bool Bool.true))]))
noncomputable def o_77 (P : Params) : Obj := (Obj.mk (Value.type PySem.W.SL.s2766695959194262286x5) Option.none (Data.seq (List.toArray [(Value.ref 67)]) 0) (List.toArray []))
noncomputable def o_78 (P : Params) : Obj := (Obj.mk (Value.type PySem.W.SL.s11030030927630378310x26) Option.none (Data.fields (List.toArray [(Value.builtin PySem.W.SL.s10062305145149207511x16), (Value.type PySem.W.SL.s17162191345867700912x4)])) (List.toArray []))
noncomputable def o_79 (P : Params) : Obj := (Obj.mk (Value.type PySem.W.SL.s14018661285674007319x4) Option.none (Data.dict (List.toArray [(DictEntry.mk (PyData.keyHash P z30) (Value.str z30 272) (Value.str z4 223)), (DictEntry.mk (PyData.keyHash P z31) (Value.str z31 274) (Value.str z42 273)), (DictEntry.mk (PyData.keyHash P z32) (Value.str z32 276) (Value.int 36 275)), (DictEntry.mk (PyData.keyHash P z35) (Value.str z35 277) (Value.ref 78))]) 4) (List.toArray []))
noncomputable def o_80 (P : Params) : Obj := (Obj.mk (Value.type PySem.W.SL.s2766695959194262286x5) Option.none (Data.seq (List.toArray []) 0) (List.toArray []))
noncomputable def o_81 (P : Params) : Obj := (Obj.mk Value.none Option.none (Data.fields (List.toArray [])) (List.toArray []))
noncomputable def o_82 (P : Params) : Obj := (Obj.mk (Value.type PySem.W.SL.s5856160107412720595x4) Option.none (Data.fields (List.toArray [(Value.str z42 267), (Value.str z42 268), (Value.str z1 269), (Value.int 36 0), (Value.int 0 0), (Value.int 0 0), (Value.int 0 0), (Value.int 0 0), (Value.ref 74), (Value.bool Bool.false), (Value.int 181 0), (Value.ref 75), Value.none, Value.none, Value.none, Value.none, (Value.int 270 0), (Value.int 36 0), (Value.str z1 271)])) (List.toArray []))
noncomputable def o_83 (P : Params) : Obj := (Obj.mk (Value.type PySem.W.SL.s658472552662922059x5) Option.none Data.plain (List.toArray [(Option.some (Value.ref 76)), (Option.some (Value.ref 3)), (Option.some (Value.ref 73)), Option.none, (Option.some (Value.str z4 223)), Option.none, (Option.some (Value.ref 0))]))
noncomputable def o_84 (P : Params) : Obj := (Obj.mk (Value.type PySem.W.SL.s2766695959194262286x5) Option.none (Data.seq (List.toArray []) 0) (List.toArray []))
noncomputable def o_85 (P : Params) : Obj := (Obj.mk (Value.type PySem.W.SL.s14018661285674007319x4) Option.none (Data.dict (List.toArray [(DictEntry.mk (PyData.keyHash P z30) (Value.str z30 272) (Value.str z4 223)), (DictEntry.mk (PyData.keyHash P z32) (Value.str z32 276) (Value.int 36 275)), (DictEntry.mk (PyData.keyHash P z35) (Value.str z35 277) (Value.ref 78)), (DictEntry.mk (PyData.keyHash P z5) (Value.str z5 278) Value.none)]) 2) (List.toArray []))
noncomputable def o_86 (P : Params) : Obj := (Obj.mk (Value.type PySem.W.SL.s17162191345867700912x4) Option.none (Data.cls (ClassData.mk z42 [(Value.ref 67)] [(Value.ref 80), (Value.ref 67), (Value.type PySem.W.SL.s5946037652744460706x9), (Value.type PySem.W.SL.s4278001404047624695x13), (Value.type PySem.W.SL.s2742458400755230247x6)] 79 z42 Bool.true [] [] Bool.false Option.none Bool.false)) (List.toArray [(Option.some (Value.ref 71)), Option.none, (Option.some (Value.str z42 265)), (Option.some (Value.str z42 273)), (Option.some (Value.builtin PySem.W.SL.s5160863994218179198x17)), (Option.some (Value.bool Bool.true))]))
noncomputable def o_87 (P : Params) : Obj := (Obj.mk (Value.type PySem.W.SL.s4290257624100764138x5) Option.none (Data.fields (List.toArray [(Value.ref 80), (Value.ref 80), (Value.ref 80)])) (List.toArray []))
noncomputable def o_88 (P : Params) : Obj := (Obj.mk (Value.type PySem.W.SL.s11030030927630378310x26) Option.none (Data.fields (List.toArray [(Value.builtin PySem.W.SL.s4860613602091757760x24), (Value.ref 80)])) (List.toArray []))
noncomputable def tree_88 (P : Params) : PySem.W.BT := (PySem.W.BT.node (PySem.W.boot_o_0 P) (PySem.W.BT.node (PySem.W.boot_o_1 P) (PySem.W.BT.node (o_74 P) (PySem.W.BT.node (PySem.W.boot_o_7 P) (PySem.W.BT.node (o_15 P) (PySem.W.BT.node (o_31 P) (PySem.W.BT.node (o_66 P) PySem.W.BT.nil PySem.W.BT.nil) PySem.W.BT.nil) (PySem.W.BT.node (o_50 P) (PySem.W.BT.node (o_85 P) PySem.W.BT.nil PySem.W.BT.nil) PySem.W.BT.nil)) (PySem.W.BT.node (o_23 P) (PySem.W.BT.node (o_39 P) (PySem.W.BT.node (o_77 P) PySem.W.BT.nil PySem.W.BT.nil) PySem.W.BT.nil) (PySem.W.BT.node (o_58 P) PySem.W.BT.nil PySem.W.BT.nil))) (PySem.W.BT.node (o_7 P) (PySem.W.BT.node (o_19 P) (PySem.W.BT.node (o_35 P) (PySem.W.BT.node (o_76 P) PySem.W.BT.nil PySem.W.BT.nil) PySem.W.BT.nil) (PySem.W.BT.node (o_54 P) PySem.W.BT.nil PySem.W.BT.nil)) (PySem.W.BT.node (o_27 P) (PySem.W.BT.node (o_46 P) (PySem.W.BT.node (o_81 P) PySem.W.BT.nil PySem.W.BT.nil) PySem.W.BT.nil) (PySem.W.BT.node (o_62 P) PySem.W.BT.nil PySem.W.BT.nil)))) (PySem.W.BT.node (PySem.W.boot_o_5 P) (PySem.W.BT.node (PySem.W.boot_o_9 P) (PySem.W.BT.node (o_17 P) (PySem.W.BT.node (o_33 P) (PySem.W.BT.node (o_68 P) PySem.W.BT.nil PySem.W.BT.nil) PySem.W.BT.nil) (PySem.W.BT.node (o_52 P) (PySem.W.BT.node (o_87 P) PySem.W.BT.nil PySem.W.BT.nil) PySem.W.BT.nil)) (PySem.W.BT.node (o_25 P) (PySem.W.BT.node (o_41 P) (PySem.W.BT.node (o_79 P) PySem.W.BT.nil PySem.W.BT.nil) PySem.W.BT.nil) (PySem.W.BT.node (o_60 P) PySem.W.BT.nil PySem.W.BT.nil))) (PySem.W.BT.node (o_9 P) (PySem.W.BT.node (o_21 P) (PySem.W.BT.node (o_37 P) (PySem.W.BT.node (o_72 P) PySem.W.BT.nil PySem.W.BT.nil) PySem.W.BT.nil) (PySem.W.BT.node (o_56 P) PySem.W.BT.nil PySem.W.BT.nil)) (PySem.W.BT.node (o_29 P) (PySem.W.BT.node (o_48 P) (PySem.W.BT.node (o_83 P) PySem.W.BT.nil PySem.W.BT.nil) PySem.W.BT.nil) (PySem.W.BT.node (o_64 P) PySem.W.BT.nil PySem.W.BT.nil))))) (PySem.W.BT.node (o_42 P) (PySem.W.BT.node (PySem.W.boot_o_4 P) (PySem.W.BT.node (PySem.W.boot_o_8 P) (PySem.W.BT.node (o_16 P) (PySem.W.BT.node (o_32 P) (PySem.W.BT.node (o_67 P) PySem.W.BT.nil PySem.W.BT.nil) PySem.W.BT.nil) (PySem.W.BT.node (o_51 P) (PySem.W.BT.node (o_86 P) PySem.W.BT.nil PySem.W.BT.nil) PySem.W.BT.nil)) (PySem.W.BT.node (o_24 P) (PySem.W.BT.node (o_40 P) (PySem.W.BT.node (o_78 P) PySem.W.BT.nil PySem.W.BT.nil) PySem.W.BT.nil) (PySem.W.BT.node (o_59 P) PySem.W.BT.nil PySem.W.BT.nil))) (PySem.W.BT.node (o_75 P) (PySem.W.BT.node (o_20 P) (PySem.W.BT.node (o_36 P) (PySem.W.BT.node (o_71 P) PySem.W.BT.nil PySem.W.BT.nil) PySem.W.BT.nil) (PySem.W.BT.node (o_55 P) PySem.W.BT.nil PySem.W.BT.nil)) (PySem.W.BT.node (o_28 P) (PySem.W.BT.node (o_47 P) (PySem.W.BT.node (o_82 P) PySem.W.BT.nil PySem.W.BT.nil) PySem.W.BT.nil) (PySem.W.BT.node (o_63 P) PySem.W.BT.nil PySem.W.BT.nil)))) (PySem.W.BT.node (PySem.W.boot_o_6 P) (PySem.W.BT.node (PySem.W.boot_o_10 P) (PySem.W.BT.node (o_18 P) (PySem.W.BT.node (o_34 P) (PySem.W.BT.node (o_69 P) PySem.W.BT.nil PySem.W.BT.nil) PySem.W.BT.nil) (PySem.W.BT.node (o_53 P) (PySem.W.BT.node (o_88 P) PySem.W.BT.nil PySem.W.BT.nil) PySem.W.BT.nil)) (PySem.W.BT.node (o_26 P) (PySem.W.BT.node (o_45 P) (PySem.W.BT.node (o_80 P) PySem.W.BT.nil PySem.W.BT.nil) PySem.W.BT.nil) (PySem.W.BT.node (o_61 P) PySem.W.BT.nil PySem.W.BT.nil))) (PySem.W.BT.node (o_10 P) (PySem.W.BT.node (o_22 P) (PySem.W.BT.node (o_38 P) (PySem.W.BT.node (o_73 P) PySem.W.BT.nil PySem.W.BT.nil) PySem.W.BT.nil) (PySem.W.BT.node (o_57 P) PySem.W.BT.nil PySem.W.BT.nil)) (PySem.W.BT.node (o_30 P) (PySem.W.BT.node (o_49 P) (PySem.W.BT.node (o_84 P) PySem.W.BT.nil PySem.W.BT.nil) PySem.W.BT.nil) (PySem.W.BT.node (o_65 P) PySem.W.BT.nil PySem.W.BT.nil))))))
noncomputable def o_89 (P : Params) : Obj := (Obj.mk (Value.type PySem.W.SL.s14018661285674007319x4) Option.none (Data.dict (List.toArray [(DictEntry.mk (PyData.keyHash P z3) (Value.str z3 165) (Value.str z43 297)), (DictEntry.mk (PyData.keyHash P z5) (Value.str z5 166) Value.none), (DictEntry.mk (PyData.keyHash P z6) (Value.str z6 167) Value.none), (DictEntry.mk (PyData.keyHash P z7) (Value.str z7 168) (Value.builtin PySem.W.SL.s7097527257260152453x26)), (DictEntry.mk (PyData.keyHash P z8) (Value.str z8 169) Value.none), (DictEntry.mk (PyData.keyHash P z9) (Value.str z9 170) (Value.ref 6)), (DictEntry.mk (PyData.keyHash P z10) (Value.str z10 171) (Value.ref 4)), (DictEntry.mk (PyData.keyHash P z11) (Value.str z11 173) (Value.str z1 172)), (DictEntry.mk (PyData.keyHash P z12) (Value.str z12 174) Value.none), (DictEntry.mk (PyData.keyHash P z13) (Value.str z13 193) (Value.ref 21)), (DictEntry.mk (PyData.keyHash P z14) (Value.str z14 201) (Value.ref 22)), (DictEntry.mk (PyData.keyHash P z15) (Value.str z15 208) (Value.ref 29)), (DictEntry.mk (PyData.keyHash P z16) (Value.str z16 214) (Value.ref 34)), (DictEntry.mk (PyData.keyHash P z17) (Value.str z17 222) (Value.ref 41)), (DictEntry.mk (PyData.keyHash P z29) (Value.str z29 264) (Value.ref 67)), (DictEntry.mk (PyData.keyHash P z42) (Value.str z42 280) (Value.ref 80)), (DictEntry.mk (PyData.keyHash P z44) (Value.str z44 296) (Value.ref 92)), (DictEntry.mk (PyData.keyHash P z45) (Value.str z45 300) (Value.str z46 299)), (DictEntry.mk (PyData.keyHash P z47) (Value.str z47 308) (Value.ref 101)), (DictEntry.mk (PyData.keyHash P z48) (Value.str z48 317) (Value.ref 109)), (DictEntry.mk (PyData.keyHash P z49) (Value.str z49 328) (Value.ref 116)), (DictEntry.mk (PyData.keyHash P z50) (Value.str z50 335) (Value.ref 123)), (DictEntry.mk (PyData.keyHash P z51) (Value.str z51 342) (Value.ref 130))]) 23) (List.toArray []))
noncomputable def o_90 (P : Params) : Obj := (Obj.mk Value.none Option.none (Data.fields (List.toArray [(Value.int 1 0), (Value.int 0 0), (Value.ref 20), (Value.int 6 0), (Value.int 0 0), (Value.ref 28), (Value.int 10 0), (Value.int 0 0), (Value.ref 33), (Value.int 12 0), (Value.int 0 0), (Value.ref 40), (Value.int 27 0), (Value.int 0 0), (Value.ref 47), (Value.int 36 0), (Value.int 0 0), (Value.ref 76), (Value.int 38 0), (Value.int 0 0), (Value.ref 88), (Value.int 42 0), (Value.int 0 0), (Value.ref 100), (Value.int 46 0), (Value.int 0 0), (Value.ref 108), (Value.int 53 0), (Value.int 0 0), (Value.ref 115), (Value.int 61 0), (Value.int 0 0), (Value.ref 122), (Value.int 63 0), (Value.int 0 0), (Value.ref 129)])) (List.toArray []))
noncomputable def o_91 (P : Params) : Obj := (Obj.mk (Value.type PySem.W.SL.s17162191345867700912x4) Option.none (Data.cls (ClassData.mk z29 [(Value.type PySem.W.SL.s5946037652744460706x9)] [(Value.ref 67), (Value.type PySem.W.SL.s5946037652744460706x9), (Value.type PySem.W.SL.s4278001404047624695x13), (Value.type PySem.W.SL.s2742458400755230247x6)] 66 z29 Bool.true [] [(Value.ref 80), (Value.ref 92)] Bool.false Option.none Bool.false)) (List.toArray [(Option.some (Value.ref 42)), Option.none, (Option.some (Value.str z29 225)), (Option.some (Value.str z29 233)), (Option.some (Value.builtin PySem.W.SL.s5160863994218179198x17)), (Option.some (Value.bool Bool.true))]))
noncomputable def o_92 (P : Params) : Obj := (Obj.mk (Value.type PySem.W.SL.s2766695959194262286x5) Option.none (Data.seq (List.toArray [(Value.ref 67)]) 0) (List.toArray []))
noncomputable def o_93 (P : Params) : Obj := (Obj.mk (Value.type PySem.W.SL.s11030030927630378310x26) Option.none (Data.fields (List.toArray [(Value.builtin PySem.W.SL.s10062305145149207511x16), (Value.type PySem.W.SL.s17162191345867700912x4)])) (List.toArray []))
noncomputable def o_94 (P : Params) : Obj := (Obj.mk (Value.type PySem.W.SL.s14018661285674007319x4) Option.none (Data.dict (List.toArray [(DictEntry.mk (PyData.keyHash P z30) (Value.str z30 288) (Value.str z4 223)), (DictEntry.mk (PyData.keyHash P z31) (Value.str z31 290) (Value.str z44 289)), (DictEntry.mk (PyData.keyHash P z32) (Value.str z32 292) (Value.int 38 291)), (DictEntry.mk (PyData.keyHash P z35) (Value.str z35 293) (Value.ref 90))]) 4) (List.toArray []))
noncomputable def o_95 (P : Params) : Obj := (Obj.mk (Value.type PySem.W.SL.s2766695959194262286x5) Option.none (Data.seq (List.toArray []) 0) (List.toArray []))
noncomputable def o_96 (P : Params) : Obj := (Obj.mk Value.none Option.none (Data.fields (List.toArray [])) (List.toArray []))
noncomputable def o_97 (P : Params) : Obj := (Obj.mk (Value.type PySem.W.SL.s5856160107412720595x4) Option.none (Data.fields (List.toArray [(Value.str z44 283), (Value.str z44 284), (Value.str z1 285), (Value.int 38 0), (Value.int 0 0), (Value.int 0 0), (Value.int 0 0), (Value.int 0 0), (Value.ref 86), (Value.bool Bool.false), (Value.int 181 0), (Value.ref 87), Value.none, Value.none, Value.none, Value.none, (Value.int 286 0), (Value.int 38 0), (Value.str z1 287)])) (List.toArray []))
noncomputable def o_98 (P : Params) : Obj := (Obj.mk (Value.type PySem.W.SL.s658472552662922059x5) Option.none Data.plain (List.toArray [(Option.some (Value.ref 88)), (Option.some (Value.ref 3)), (Option.some (Value.ref 85)), Option.none, (Option.some (Value.str z4 223)), Option.none, (Option.some (Value.ref 0))]))
noncomputable def o_99 (P : Params) : Obj := (Obj.mk (Value.type PySem.W.SL.s2766695959194262286x5) Option.none (Data.seq (List.toArray []) 0) (List.toArray []))
noncomputable def o_100 (P : Params) : Obj := (Obj.mk (Value.type PySem.W.SL.s14018661285674007319x4) Option.none (Data.dict (List.toArray [(DictEntry.mk (PyData.keyHash P z30) (Value.str z30 288) (Value.str z4 223)), (DictEntry.mk (PyData.keyHash P z32) (Value.str z32 292) (Value.int 38 291)), (DictEntry.mk (PyData.keyHash P z35) (Value.str z35 293) (Value.ref 90)), (DictEntry.mk (PyData.keyHash P z5) (Value.str z5 294) Value.none)]) 2) (List.toArray []))
noncomputable def o_101 (P : Params) : Obj := (Obj.mk (Value.type PySem.W.SL.s17162191345867700912x4) Option.none (Data.cls (ClassData.mk z44 [(Value.ref 67)] [(Value.ref 92), (Value.ref 67), (Value.type PySem.W.SL.s5946037652744460706x9), (Value.type PySem.W.SL.s4278001404047624695x13), (Value.type PySem.W.SL.s2742458400755230247x6)] 91 z44 Bool.true [] [] Bool.false Option.none Bool.false)) (List.toArray [(Option.some (Value.ref 83)), Option.none, (Option.some (Value.str z44 281)), (Option.some (Value.str z44 289)), (Option.some (Value.builtin PySem.W.SL.s5160863994218179198x17)), (Option.some (Value.bool Bool.true))]))
noncomputable def o_102 (P : Params) : Obj := (Obj.mk (Value.type PySem.W.SL.s4290257624100764138x5) Option.none (Data.fields (List.toArray [(Value.ref 92), (Value.ref 92), (Value.ref 92)])) (List.toArray []))
noncomputable def o_103 (P : Params) : Obj := (Obj.mk (Value.type PySem.W.SL.s11030030927630378310x26) Option.none (Data.fields (List.toArray [(Value.builtin PySem.W.SL.s4860613602091757760x24), (Value.ref 92)])) (List.toArray []))
noncomputable def o_104 (P : Params) : Obj := (Obj.mk (Value.type PySem.W.SL.s2766695959194262286x5) Option.none (Data.seq (List.toArray []) 0) (List.toArray []))
noncomputable def o_105 (P : Params) : Obj := (Obj.mk Value.none Option.none (Data.fields (List.toArray [])) (List.toArray []))
noncomputable def o_106 (P : Params) : Obj := (Obj.mk (Value.type PySem.W.SL.s2766695959194262286x5) Option.none (Data.seq (List.toArray [(Value.str z52 304), (Value.str z53 305)]) 0) (List.toArray []))
noncomputable def o_107 (P : Params) : Obj := (Obj.mk (Value.type PySem.W.SL.s2766695959194262286x5) Option.none (Data.seq (List.toArray []) 0) (List.toArray []))
noncomputable def o_108 (P : Params) : Obj := (Obj.mk Value.none Option.none (Data.func (FuncData.mk z47 z47 (fnA (stR 12)) (FuncBody.stmts (fnB (stR 12))) (fnS (stR 12)) 0 [] Value.none Value.none Value.none Value.none Option.none Value.none Value.none 0)) (List.toArray []))
noncomputable def o_109 (P : Params) : Obj := (Obj.mk (Value.type PySem.W.SL.s5856160107412720595x4) Option.none (Data.fields (List.toArray [(Value.str z47 301), (Value.str z47 302), (Value.str z1 303), (Value.int 42 0), (Value.int 2 0), (Value.int 0 0), (Value.int 0 0), (Value.int 3 0), (Value.ref 95), (Value.bool Bool.true), (Value.int 181 0), (Value.ref 96), Value.none, (Value.ref 97), (Value.ref 98), (Value.ref 99), (Value.int 306 0), (Value.int 42 0), (Value.str z1 307)])) (List.toArray []))
noncomputable def o_110 (P : Params) : Obj := (Obj.mk (Value.type PySem.W.SL.s7174869446012820540x8) Option.none (Data.func (FuncData.mk z47 z47 (fnA (stR 12)) (FuncBody.stmts (fnB (stR 12))) (fnS (stR 12)) 3 [] Value.none Value.none Value.none (Value.str z43 297) Option.none (Value.ref 100) Value.none 0)) (List.toArray []))
noncomputable def o_111 (P : Params) : Obj := (Obj.mk (Value.type PySem.W.SL.s2766695959194262286x5) Option.none (Data.seq (List.toArray [(Value.int 0 309)]) 0) (List.toArray []))
noncomputable def o_112 (P : Params) : Obj := (Obj.mk (Value.type PySem.W.SL.s2766695959194262286x5) Option.none (Data.seq (List.toArray []) 0) (List.toArray []))
noncomputable def o_113 (P : Params) : Obj := (Obj.mk Value.none Option.none (Data.fields (List.toArray [])) (List.toArray []))
noncomputable def o_114 (P : Params) : Obj := (Obj.mk (Value.type PySem.W.SL.s2766695959194262286x5) Option.none (Data.seq (List.toArray [(Value.str z54 313), (Value.str z55 314)]) 0) (List.toArray []))
noncomputable def o_115 (P : Params) : Obj := (Obj.mk (Value.type PySem.W.SL.s2766695959194262286x5) Option.none (Data.seq (List.toArray []) 0) (List.toArray []))
noncomputable def o_116 (P : Params) : Obj := (Obj.mk Value.none Option.none (Data.func (FuncData.mk z48 z48 (fnA (stR 13)) (FuncBody.stmts (fnB (stR 13))) (fnS (stR 13)) 0 [] Value.none Value.none Value.none Value.none Option.none Value.none Value.none 0)) (List.toArray []))
noncomputable def o_117 (P : Params) : Obj := (Obj.mk (Value.type PySem.W.SL.s5856160107412720595x4) Option.none (Data.fields (List.toArray [(Value.str z48 310), (Value.str z48 311), (Value.str z1 312), (Value.int 46 0), (Value.int 2 0), (Value.int 0 0), (Value.int 0 0), (Value.int 3 0), (Value.ref 103), (Value.bool Bool.true), (Value.int 181 0), (Value.ref 104), Value.none, (Value.ref 105), (Value.ref 106), (Value.ref 107), (Value.int 315 0), (Value.int 46 0), (Value.str z1 316)])) (List.toArray []))
noncomputable def o_118 (P : Params) : Obj := (Obj.mk (Value.type PySem.W.SL.s7174869446012820540x8) Option.none (Data.func (FuncData.mk z48 z48 (fnA (stR 13)) (FuncBody.stmts (fnB (stR 13))) (fnS (stR 13)) 3 [] (Value.ref 102) Value.none Value.none (Value.str z43 297) Option.none (Value.ref 108) Value.none 0)) (List.toArray []))
noncomputable def o_119 (P : Params) : Obj := (Obj.mk (Value.type PySem.W.SL.s2766695959194262286x5) Option.none (Data.seq (List.toArray []) 0) (List.toArray []))
noncomputable def o_120 (P : Params) : Obj := (Obj.mk Value.none Option.none (Data.fields (List.toArray [])) (List.toArray []))
noncomputable def o_121 (P : Params) : Obj := (Obj.mk (Value.type PySem.W.SL.s2766695959194262286x5) Option.none (Data.seq (List.toArray [(Value.str z56 321), (Value.str z55 322), (Value.str z57 323), (Value.str z58 324), (Value.str z59 325)]) 0) (List.toArray []))
noncomputable def o_122 (P : Params) : Obj := (Obj.mk (Value.type PySem.W.SL.s2766695959194262286x5) Option.none (Data.seq (List.toArray []) 0) (List.toArray []))
noncomputable def o_123 (P : Params) : Obj := (Obj.mk Value.none Option.none (Data.func (FuncData.mk z49 z49 (fnA (stR 14)) (FuncBody.stmts (fnB (stR 14))) (fnS (stR 14)) 0 [] Value.none Value.none Value.none Value.none Option.none Value.none Value.none 0)) (List.toArray []))
noncomputable def o_124 (P : Params) : Obj := (Obj.mk (Value.type PySem.W.SL.s5856160107412720595x4) Option.none (Data.fields (List.toArray [(Value.str z49 318), (Value.str z49 319), (Value.str z1 320), (Value.int 53 0), (Value.int 3 0), (Value.int 0 0), (Value.int 0 0), (Value.int 3 0), (Value.ref 110), (Value.bool Bool.true), (Value.int 181 0), (Value.ref 111), Value.none, (Value.ref 112), (Value.ref 113), (Value.ref 114), (Value.int 326 0), (Value.int 53 0), (Value.str z1 327)])) (List.toArray []))
noncomputable def o_125 (P : Params) : Obj := (Obj.mk (Value.type PySem.W.SL.s7174869446012820540x8) Option.none (Data.func (FuncData.mk z49 z49 (fnA (stR 14)) (FuncBody.stmts (fnB (stR 14))) (fnS (stR 14)) 3 [] Value.none Value.none Value.none (Value.str z43 297) Option.none (Value.ref 115) Value.none 0)) (List.toArray []))
noncomputable def o_126 (P : Params) : Obj := (Obj.mk (Value.type PySem.W.SL.s2766695959194262286x5) Option.none (Data.seq (List.toArray []) 0) (List.toArray []))
noncomputable def o_127 (P : Params) : Obj := (Obj.mk Value.none Option.none (Data.fields (List.toArray [])) (List.toArray []))
noncomputable def o_128 (P : Params) : Obj := (Obj.mk (Value.type PySem.W.SL.s2766695959194262286x5) Option.none (Data.seq (List.toArray [(Value.str z56 332)]) 0) (List.toArray []))
noncomputable def o_129 (P : Params) : Obj := (Obj.mk (Value.type PySem.W.SL.s2766695959194262286x5) Option.none (Data.seq (List.toArray []) 0) (List.toArray []))
noncomputable def o_130 (P : Params) : Obj := (Obj.mk Value.none Option.none (Data.func (FuncData.mk z50 z50 (fnA (stR 15)) (FuncBody.stmts (fnB (stR 15))) (fnS (stR 15)) 0 [] Value.none Value.none Value.none Value.none Option.none Value.none Value.none 0)) (List.toArray []))
noncomputable def o_131 (P : Params) : Obj := (Obj.mk (Value.type PySem.W.SL.s5856160107412720595x4) Option.none (Data.fields (List.toArray [(Value.str z50 329), (Value.str z50 330), (Value.str z1 331), (Value.int 61 0), (Value.int 1 0), (Value.int 0 0), (Value.int 0 0), (Value.int 3 0), (Value.ref 117), (Value.bool Bool.true), (Value.int 181 0), (Value.ref 118), Value.none, (Value.ref 119), (Value.ref 120), (Value.ref 121), (Value.int 333 0), (Value.int 61 0), (Value.str z1 334)])) (List.toArray []))
noncomputable def o_132 (P : Params) : Obj := (Obj.mk (Value.type PySem.W.SL.s7174869446012820540x8) Option.none (Data.func (FuncData.mk z50 z50 (fnA (stR 15)) (FuncBody.stmts (fnB (stR 15))) (fnS (stR 15)) 3 [] Value.none Value.none Value.none (Value.str z43 297) Option.none (Value.ref 122) Value.none 0)) (List.toArray []))
noncomputable def o_133 (P : Params) : Obj := (Obj.mk (Value.type PySem.W.SL.s2766695959194262286x5) Option.none (Data.seq (List.toArray []) 0) (List.toArray []))
noncomputable def o_134 (P : Params) : Obj := (Obj.mk Value.none Option.none (Data.fields (List.toArray [])) (List.toArray []))
noncomputable def o_135 (P : Params) : Obj := (Obj.mk (Value.type PySem.W.SL.s2766695959194262286x5) Option.none (Data.seq (List.toArray [(Value.str z56 339)]) 0) (List.toArray []))
noncomputable def o_136 (P : Params) : Obj := (Obj.mk (Value.type PySem.W.SL.s2766695959194262286x5) Option.none (Data.seq (List.toArray []) 0) (List.toArray []))
noncomputable def o_137 (P : Params) : Obj := (Obj.mk Value.none Option.none (Data.func (FuncData.mk z51 z51 (fnA (stR 16)) (FuncBody.stmts (fnB (stR 16))) (fnS (stR 16)) 0 [] Value.none Value.none Value.none Value.none Option.none Value.none Value.none 0)) (List.toArray []))
noncomputable def o_138 (P : Params) : Obj := (Obj.mk (Value.type PySem.W.SL.s5856160107412720595x4) Option.none (Data.fields (List.toArray [(Value.str z51 336), (Value.str z51 337), (Value.str z1 338), (Value.int 63 0), (Value.int 1 0), (Value.int 0 0), (Value.int 0 0), (Value.int 3 0), (Value.ref 124), (Value.bool Bool.true), (Value.int 181 0), (Value.ref 125), Value.none, (Value.ref 126), (Value.ref 127), (Value.ref 128), (Value.int 340 0), (Value.int 63 0), (Value.str z1 341)])) (List.toArray []))
noncomputable def o_139 (P : Params) : Obj := (Obj.mk (Value.type PySem.W.SL.s7174869446012820540x8) Option.none (Data.func (FuncData.mk z51 z51 (fnA (stR 16)) (FuncBody.stmts (fnB (stR 16))) (fnS (stR 16)) 3 [] Value.none Value.none Value.none (Value.str z43 297) Option.none (Value.ref 129) Value.none 0)) (List.toArray []))
noncomputable def tree_139 (P : Params) : PySem.W.BT := (PySem.W.BT.node (PySem.W.boot_o_0 P) (PySem.W.BT.node (PySem.W.boot_o_1 P) (PySem.W.BT.node (o_89 P) (PySem.W.BT.node (PySem.W.boot_o_7 P) (PySem.W.BT.node (o_15 P) (PySem.W.BT.node (o_31 P) (PySem.W.BT.node (o_66 P) (PySem.W.BT.node (o_136 P) PySem.W.BT.nil PySem.W.BT.nil) PySem.W.BT.nil) (PySem.W.BT.node (o_104 P) PySem.W.BT.nil PySem.W.BT.nil)) (PySem.W.BT.node (o_50 P) (PySem.W.BT.node (o_85 P) PySem.W.BT.nil PySem.W.BT.nil) (PySem.W.BT.node (o_120 P) PySem.W.BT.nil PySem.W.BT.nil))) (PySem.W.BT.node (o_23 P) (PySem.W.BT.node (o_39 P) (PySem.W.BT.node (o_77 P) PySem.W.BT.nil PySem.W.BT.nil) (PySem.W.BT.node (o_112 P) PySem.W.BT.nil PySem.W.BT.nil)) (PySem.W.BT.node (o_58 P) (PySem.W.BT.node (o_96 P) PySem.W.BT.nil PySem.W.BT.nil) (PySem.W.BT.node (o_128 P) PySem.W.BT.nil PySem.W.BT.nil)))) (PySem.W.BT.node (o_7 P) (PySem.W.BT.node (o_19 P) (PySem.W.BT.node (o_35 P) (PySem.W.BT.node (o_91 P) PySem.W.BT.nil PySem.W.BT.nil) (PySem.W.BT.node (o_108 P) PySem.W.BT.nil PySem.W.BT.nil)) (PySem.W.BT.node (o_54 P) (PySem.W.BT.node (o_92 P) PySem.W.BT.nil PySem.W.BT.nil) (PySem.W.BT.node (o_124 P) PySem.W.BT.nil PySem.W.BT.nil))) (PySem.W.BT.node (o_27 P) (PySem.W.BT.node (o_46 P) (PySem.W.BT.node (o_81 P) PySem.W.BT.nil PySem.W.BT.nil) (PySem.W.BT.node (o_116 P) PySem.W.BT.nil PySem.W.BT.nil)) (PySem.W.BT.node (o_62 P) (PySem.W.BT.node (o_100 P) PySem.W.BT.nil PySem.W.BT.nil) (PySem.W.BT.node (o_132 P) PySem.W.BT.nil PySem.W.BT.nil))))) (PySem.W.BT.node (PySem.W.boot_o_5 P) (PySem.W.BT.node (PySem.W.boot_o_9 P) (PySem.W.BT.node (o_17 P) (PySem.W.BT.node (o_33 P) (PySem.W.BT.node (o_68 P) (PySem.W.BT.node (o_138 P) PySem.W.BT.nil PySem.W.BT.nil) PySem.W.BT.nil) (PySem.W.BT.node (o_106 P) PySem.W.BT.nil PySem.W.BT.nil)) (PySem.W.BT.node (o_52 P) (PySem.W.BT.node (o_87 P) PySem.W.BT.nil PySem.W.BT.nil) (PySem.W.BT.node (o_122 P) PySem.W.BT.nil PySem.W.BT.nil))) (PySem.W.BT.node (o_25 P) (PySem.W.BT.node (o_41 P) (PySem.W.BT.node (o_79 P) PySem.W.BT.nil PySem.W.BT.nil) (PySem.W.BT.node (o_114 P) PySem.W.BT.nil PySem.W.BT.nil)) (PySem.W.BT.node (o_60 P) (PySem.W.BT.node (o_98 P) PySem.W.BT.nil PySem.W.BT.nil) (PySem.W.BT.node (o_130 P) PySem.W.BT.nil PySem.W.BT.nil)))) (PySem.W.BT.node (o_9 P) (PySem.W.BT.node (o_21 P) (PySem.W.BT.node (o_37 P) (PySem.W.BT.node (o_72 P) PySem.W.BT.nil PySem.W.BT.nil) (PySem.W.BT.node (o_110 P) PySem.W.BT.nil PySem.W.BT.nil)) (PySem.W.BT.node (o_56 P) (PySem.W.BT.node (o_94 P) PySem.W.BT.nil PySem.W.BT.nil) (PySem.W.BT.node (o_126 P) PySem.W.BT.nil PySem.W.BT.nil))) (PySem.W.BT.node (o_29 P) (PySem.W.BT.node (o_48 P) (PySem.W.BT.node (o_83 P) PySem.W.BT.nil PySem.W.BT.nil) (PySem.W.BT.node (o_118 P) PySem.W.BT.nil PySem.W.BT.nil)) (PySem.W.BT.node (o_64 P) (PySem.W.BT.node (o_102 P) PySem.W.BT.nil PySem.W.BT.nil) (PySem.W.BT.node (o_134 P) PySem.W.BT.nil PySem.W.BT.nil)))))) (PySem.W.BT.node (o_42 P) (PySem.W.BT.node (PySem.W.boot_o_4 P) (PySem.W.BT.node (PySem.W.boot_o_8 P) (PySem.W.BT.node (o_16 P) (PySem.W.BT.node (o_32 P) (PySem.W.BT.node (o_67 P) (PySem.W.BT.node (o_137 P) PySem.W.BT.nil PySem.W.BT.nil) PySem.W.BT.nil) (PySem.W.BT.node (o_105 P) PySem.W.BT.nil PySem.W.BT.nil)) (PySem.W.BT.node (o_51 P) (PySem.W.BT.node (o_86 P) PySem.W.BT.nil PySem.W.BT.nil) (PySem.W.BT.node (o_121 P) PySem.W.BT.nil PySem.W.BT.nil))) (PySem.W.BT.node (o_24 P) (PySem.W.BT.node (o_40 P) (PySem.W.BT.node (o_78 P) PySem.W.BT.nil PySem.W.BT.nil) (PySem.W.BT.node (o_113 P) PySem.W.BT.nil PySem.W.BT.nil)) (PySem.W.BT.node (o_59 P) (PySem.W.BT.node (o_97 P) PySem.W.BT.nil PySem.W.BT.nil) (PySem.W.BT.node (o_129 P) PySem.W.BT.nil PySem.W.BT.nil)))) (PySem.W.BT.node (o_90 P) (PySem.W.BT.node (o_20 P) (PySem.W.BT.node (o_36 P) (PySem.W.BT.node (o_71 P) PySem.W.BT.nil PySem.W.BT.nil) (PySem.W.BT.node (o_109 P) PySem.W.BT.nil PySem.W.BT.nil)) (PySem.W.BT.node (o_55 P) (PySem.W.BT.node (o_93 P) PySem.W.BT.nil PySem.W.BT.nil) (PySem.W.BT.node (o_125 P) PySem.W.BT.nil PySem.W.BT.nil))) (PySem.W.BT.node (o_28 P) (PySem.W.BT.node (o_47 P) (PySem.W.BT.node (o_82 P) PySem.W.BT.nil PySem.W.BT.nil) (PySem.W.BT.node (o_117 P) PySem.W.BT.nil PySem.W.BT.nil)) (PySem.W.BT.node (o_63 P) (PySem.W.BT.node (o_101 P) PySem.W.BT.nil PySem.W.BT.nil) (PySem.W.BT.node (o_133 P) PySem.W.BT.nil PySem.W.BT.nil))))) (PySem.W.BT.node (PySem.W.boot_o_6 P) (PySem.W.BT.node (PySem.W.boot_o_10 P) (PySem.W.BT.node (o_18 P) (PySem.W.BT.node (o_34 P) (PySem.W.BT.node (o_69 P) (PySem.W.BT.node (o_139 P) PySem.W.BT.nil PySem.W.BT.nil) PySem.W.BT.nil) (PySem.W.BT.node (o_107 P) PySem.W.BT.nil PySem.W.BT.nil)) (PySem.W.BT.node (o_53 P) (PySem.W.BT.node (o_88 P) PySem.W.BT.nil PySem.W.BT.nil) (PySem.W.BT.node (o_123 P) PySem.W.BT.nil PySem.W.BT.nil))) (PySem.W.BT.node (o_26 P) (PySem.W.BT.node (o_45 P) (PySem.W.BT.node (o_80 P) PySem.W.BT.nil PySem.W.BT.nil) (PySem.W.BT.node (o_115 P) PySem.W.BT.nil PySem.W.BT.nil)) (PySem.W.BT.node (o_61 P) (PySem.W.BT.node (o_99 P) PySem.W.BT.nil PySem.W.BT.nil) (PySem.W.BT.node (o_131 P) PySem.W.BT.nil PySem.W.BT.nil)))) (PySem.W.BT.node (o_10 P) (PySem.W.BT.node (o_22 P) (PySem.W.BT.node (o_38 P) (PySem.W.BT.node (o_73 P) PySem.W.BT.nil PySem.W.BT.nil) (PySem.W.BT.node (o_111 P) PySem.W.BT.nil PySem.W.BT.nil)) (PySem.W.BT.node (o_57 P) (PySem.W.BT.node (o_95 P) PySem.W.BT.nil PySem.W.BT.nil) (PySem.W.BT.node (o_127 P) PySem.W.BT.nil PySem.W.BT.nil))) (PySem.W.BT.node (o_30 P) (PySem.W.BT.node (o_49 P) (PySem.W.BT.node (o_84 P) PySem.W.BT.nil PySem.W.BT.nil) (PySem.W.BT.node (o_119 P) PySem.W.BT.nil PySem.W.BT.nil)) (PySem.W.BT.node (o_65 P) (PySem.W.BT.node (o_103 P) PySem.W.BT.nil PySem.W.BT.nil) (PySem.W.BT.node (o_135 P) PySem.W.BT.nil PySem.W.BT.nil)))))))
noncomputable def o_140 (P : Params) : Obj := (Obj.mk (Value.type PySem.W.SL.s14018661285674007319x4) Option.none (Data.dict (List.toArray [(DictEntry.mk (PyData.keyHash P z3) (Value.str z3 165) (Value.str z60 365)), (DictEntry.mk (PyData.keyHash P z5) (Value.str z5 166) Value.none), (DictEntry.mk (PyData.keyHash P z6) (Value.str z6 167) Value.none), (DictEntry.mk (PyData.keyHash P z7) (Value.str z7 168) (Value.builtin PySem.W.SL.s7097527257260152453x26)), (DictEntry.mk (PyData.keyHash P z8) (Value.str z8 169) Value.none), (DictEntry.mk (PyData.keyHash P z9) (Value.str z9 170) (Value.ref 6)), (DictEntry.mk (PyData.keyHash P z10) (Value.str z10 171) (Value.ref 4)), (DictEntry.mk (PyData.keyHash P z11) (Value.str z11 173) (Value.str z1 172)), (DictEntry.mk (PyData.keyHash P z12) (Value.str z12 174) Value.none), (DictEntry.mk (PyData.keyHash P z13) (Value.str z13 193) (Value.ref 21)), (DictEntry.mk (PyData.keyHash P z14) (Value.str z14 201) (Value.ref 22)), (DictEntry.mk (PyData.keyHash P z15) (Value.str z15 208) (Value.ref 29)), (DictEntry.mk (PyData.keyHash P z16) (Value.str z16 214) (Value.ref 34)), (DictEntry.mk (PyData.keyHash P z17) (Value.str z17 222) (Value.ref 41)), (DictEntry.mk (PyData.keyHash P z29) (Value.str z29 264) (Value.ref 67)), (DictEntry.mk (PyData.keyHash P z42) (Value.str z42 280) (Value.ref 80)), (DictEntry.mk (PyData.keyHash P z44) (Value.str z44 296) (Value.ref 92)), (DictEntry.mk (PyData.keyHash P z45) (Value.str z45 300) (Value.str z46 299)), (DictEntry.mk (PyData.keyHash P z47) (Value.str z47 308) (Value.ref 101)), (DictEntry.mk (PyData.keyHash P z48) (Value.str z48 317) (Value.ref 109)), (DictEntry.mk (PyData.keyHash P z49) (Value.str z49 328) (Value.ref 116)), (DictEntry.mk (PyData.keyHash P z50) (Value.str z50 335) (Value.ref 123)), (DictEntry.mk (PyData.keyHash P z51) (Value.str z51 342) (Value.ref 130)), (DictEntry.mk (PyData.keyHash P z61) (Value.str z61 351) (Value.ref 137)), (DictEntry.mk (PyData.keyHash P z62) (Value.str z62 364) (Value.ref 144)), (DictEntry.mk (PyData.keyHash P z63) (Value.str z63 368) (Value.str z64 367)), (DictEntry.mk (PyData.keyHash P z65) (Value.str z65 375) (Value.ref 151))]) 27) (List.toArray []))
noncomputable def o_141 (P : Params) : Obj := (Obj.mk Value.none Option.none (Data.fields (List.toArray [(Value.int 1 0), (Value.int 0 0), (Value.ref 20), (Value.int 6 0), (Value.int 0 0), (Value.ref 28), (Value.int 10 0), (Value.int 0 0), (Value.ref 33), (Value.int 12 0), (Value.int 0 0), (Value.ref 40), (Value.int 27 0), (Value.int 0 0), (Value.ref 47), (Value.int 36 0), (Value.int 0 0), (Value.ref 76), (Value.int 38 0), (Value.int 0 0), (Value.ref 88), (Value.int 42 0), (Value.int 0 0), (Value.ref 100), (Value.int 46 0), (Value.int 0 0), (Value.ref 108), (Value.int 53 0), (Value.int 0 0), (Value.ref 115), (Value.int 61 0), (Value.int 0 0), (Value.ref 122), (Value.int 63 0), (Value.int 0 0), (Value.ref 129), (Value.int 65 0), (Value.int 0 0), (Value.ref 136), (Value.int 70 0), (Value.int 0 0), (Value.ref 143), (Value.int 87 0), (Value.int 0 0), (Value.ref 150)])) (List.toArray []))
noncomputable def o_142 (P : Params) : Obj := (Obj.mk (Value.type PySem.W.SL.s2766695959194262286x5) Option.none (Data.seq (List.toArray []) 0) (List.toArray []))
noncomputable def o_143 (P : Params) : Obj := (Obj.mk Value.none Option.none (Data.fields (List.toArray [])) (List.toArray []))
noncomputable def o_144 (P : Params) : Obj := (Obj.mk (Value.type PySem.W.SL.s2766695959194262286x5) Option.none (Data.seq (List.toArray [(Value.str z66 346), (Value.str z67 347), (Value.str z68 348)]) 0) (List.toArray []))
noncomputable def o_145 (P : Params) : Obj := (Obj.mk (Value.type PySem.W.SL.s2766695959194262286x5) Option.none (Data.seq (List.toArray []) 0) (List.toArray []))
noncomputable def o_146 (P : Params) : Obj := (Obj.mk Value.none Option.none (Data.func (FuncData.mk z61 z61 (fnA (stR 17)) (FuncBody.stmts (fnB (stR 17))) (fnS (stR 17)) 0 [] Value.none Value.none Value.none Value.none Option.none Value.none Value.none 0)) (List.toArray []))
noncomputable def o_147 (P : Params) : Obj := (Obj.mk (Value.type PySem.W.SL.s5856160107412720595x4) Option.none (Data.fields (List.toArray [(Value.str z61 343), (Value.str z61 344), (Value.str z1 345), (Value.int 65 0), (Value.int 1 0), (Value.int 0 0), (Value.int 0 0), (Value.int 3 0), (Value.ref 131), (Value.bool Bool.true), (Value.int 181 0), (Value.ref 132), Value.none, (Value.ref 133), (Value.ref 134), (Value.ref 135), (Value.int 349 0), (Value.int 65 0), (Value.str z1 350)])) (List.toArray []))
noncomputable def o_148 (P : Params) : Obj := (Obj.mk (Value.type PySem.W.SL.s7174869446012820540x8) Option.none (Data.func (FuncData.mk z61 z61 (fnA (stR 17)) (FuncBody.stmts (fnB (stR 17))) (fnS (stR 17)) 3 [] Value.none Value.none Value.none (Value.str z43 297) Option.none (Value.ref 136) Value.none 0)) (List.toArray []))
noncomputable def o_149 (P : Params) : Obj := (Obj.mk (Value.type PySem.W.SL.s2766695959194262286x5) Option.none (Data.seq (List.toArray []) 0) (List.toArray []))
noncomputable def o_150 (P : Params) : Obj := (Obj.mk Value.none Option.none (Data.fields (List.toArray [])) (List.toArray []))
noncomputable def o_151 (P : Params) : Obj := (Obj.mk (Value.type PySem.W.SL.s2766695959194262286x5) Option.none (Data.seq (List.toArray [(Value.str z69 355), (Value.str z70 356), (Value.str z71 357), (Value.str z72 358), (Value.str z73 359), (Value.str z38 360), (Value.str z54 361)]) 0) (List.toArray []))
noncomputable def o_152 (P : Params) : Obj := (Obj.mk (Value.type PySem.W.SL.s2766695959194262286x5) Option.none (Data.seq (List.toArray []) 0) (List.toArray []))
noncomputable def o_153 (P : Params) : Obj := (Obj.mk Value.none Option.none (Data.func (FuncData.mk z62 z62 (fnA (stR 18)) (FuncBody.stmts (fnB (stR 18))) (fnS (stR 18)) 0 [] Value.none Value.none Value.none Value.none Option.none Value.none Value.none 0)) (List.toArray []))
noncomputable def o_154 (P : Params) : Obj := (Obj.mk (Value.type PySem.W.SL.s5856160107412720595x4) Option.none (Data.fields (List.toArray [(Value.str z62 352), (Value.str z62 353), (Value.str z1 354), (Value.int 70 0), (Value.int 1 0), (Value.int 0 0), (Value.int 0 0), (Value.int 3 0), (Value.ref 138), (Value.bool Bool.true), (Value.int 181 0), (Value.ref 139), Value.none, (Value.ref 140), (Value.ref 141), (Value.ref 142), (Value.int 362 0), (Value.int 70 0), (Value.str z1 363)])) (List.toArray []))
noncomputable def o_155 (P : Params) : Obj := (Obj.mk (Value.type PySem.W.SL.s7174869446012820540x8) Option.none (Data.func (FuncData.mk z62 z62 (fnA (stR 18)) (FuncBody.stmts (fnB (stR 18))) (fnS (stR 18)) 3 [] Value.none Value.none Value.none (Value.str z43 297) Option.none (Value.ref 143) Value.none 0)) (List.toArray []))
noncomputable def o_156 (P : Params) : Obj := (Obj.mk (Value.type PySem.W.SL.s2766695959194262286x5) Option.none (Data.seq (List.toArray []) 0) (List.toArray []))
noncomputable def o_157 (P : Params) : Obj := (Obj.mk Value.none Option.none (Data.fields (List.toArray [])) (List.toArray []))
noncomputable def o_158 (P : Params) : Obj := (Obj.mk (Value.type PySem.W.SL.s2766695959194262286x5) Option.none (Data.seq (List.toArray [(Value.str z74 372)]) 0) (List.toArray []))
noncomputable def o_159 (P : Params) : Obj := (Obj.mk (Value.type PySem.W.SL.s2766695959194262286x5) Option.none (Data.seq (List.toArray []) 0) (List.toArray []))
noncomputable def o_160 (P : Params) : Obj := (Obj.mk Value.none Option.none (Data.func (FuncData.mk z65 z65 (fnA (stR 21)) (FuncBody.stmts (fnB (stR 21))) (fnS (stR 21)) 0 [] Value.none Value.none Value.none Value.none Option.none Value.none Value.none 0)) (List.toArray []))
noncomputable def o_161 (P : Params) : Obj := (Obj.mk (Value.type PySem.W.SL.s5856160107412720595x4) Option.none (Data.fields (List.toArray [(Value.str z65 369), (Value.str z65 370), (Value.str z1 371), (Value.int 87 0), (Value.int 1 0), (Value.int 0 0), (Value.int 0 0), (Value.int 3 0), (Value.ref 145), (Value.bool Bool.true), (Value.int 181 0), (Value.ref 146), Value.none, (Value.ref 147), (Value.ref 148), (Value.ref 149), (Value.int 373 0), (Value.int 87 0), (Value.str z1 374)])) (List.toArray []))
noncomputable def o_162 (P : Params) : Obj := (Obj.mk (Value.type PySem.W.SL.s7174869446012820540x8) Option.none (Data.func (FuncData.mk z65 z65 (fnA (stR 21)) (FuncBody.stmts (fnB (stR 21))) (fnS (stR 21)) 3 [] Value.none Value.none Value.none (Value.str z60 365) Option.none (Value.ref 150) Value.none 0)) (List.toArray []))
noncomputable def tree_162 (P : Params) : PySem.W.BT := (PySem.W.BT.node (PySem.W.boot_o_0 P) (PySem.W.BT.node (PySem.W.boot_o_1 P) (PySem.W.BT.node (o_140 P) (PySem.W.BT.node (PySem.W.boot_o_7 P) (PySem.W.BT.node (o_15 P) (PySem.W.BT.node (o_31 P) (PySem.W.BT.node (o_66 P) (PySem.W.BT.node (o_136 P) PySem.W.BT.nil PySem.W.BT.nil) PySem.W.BT.nil) (PySem.W.BT.node (o_104 P) PySem.W.BT.nil PySem.W.BT.nil)) (PySem.W.BT.node (o_50 P) (PySem.W.BT.node (o_85 P) (PySem.W.BT.node (o_154 P) PySem.W.BT.nil PySem.W.BT.nil) PySem.W.BT.nil) (PySem.W.BT.node (o_120 P) PySem.W.BT.nil PySem.W.BT.nil))) (PySem.W.BT.node (o_23 P) (PySem.W.BT.node (o_39 P) (PySem.W.BT.node (o_77 P) (PySem.W.BT.node (o_146 P) PySem.W.BT.nil PySem.W.BT.nil) PySem.W.BT.nil) (PySem.W.BT.node (o_112 P) PySem.W.BT.nil PySem.W.BT.nil)) (PySem.W.BT.node (o_58 P) (PySem.W.BT.node (o_96 P) (PySem.W.BT.node (o_162 P) PySem.W.BT.nil PySem.W.BT.nil) PySem.W.BT.nil) (PySem.W.BT.node (o_128 P) PySem.W.BT.nil PySem.W.BT.nil)))) (PySem.W.BT.node (o_7 P) (PySem.W.BT.node (o_19 P) (PySem.W.BT.node (o_35 P) (PySem.W.BT.node (o_91 P) (PySem.W.BT.node (o_142 P) PySem.W.BT.nil PySem.W.BT.nil) PySem.W.BT.nil) (PySem.W.BT.node (o_108 P) PySem.W.BT.nil PySem.W.BT.nil)) (PySem.W.BT.node (o_54 P) (PySem.W.BT.node (o_92 P) (PySem.W.BT.node (o_158 P) PySem.W.BT.nil PySem.W.BT.nil) PySem.W.BT.nil) (PySem.W.BT.node (o_124 P) PySem.W.BT.nil PySem.W.BT.nil))) (PySem.W.BT.node (o_27 P) (PySem.W.BT.node (o_46 P) (PySem.W.BT.node (o_81 P) (PySem.W.BT.node (o_150 P) PySem.W.BT.nil PySem.W.BT.nil) PySem.W.BT.nil) (PySem.W.BT.node (o_116 P) PySem.W.BT.nil PySem.W.BT.nil)) (PySem.W.BT.node (o_62 P) (PySem.W.BT.node (o_100 P) PySem.W.BT.nil PySem.W.BT.nil) (PySem.W.BT.node (o_132 P) PySem.W.BT.nil PySem.W.BT.nil))))) (PySem.W.BT.node (PySem.W.boot_o_5 P) (PySem.W.BT.node (PySem.W.boot_o_9 P) (PySem.W.BT.node (o_17 P) (PySem.W.BT.node (o_33 P) (PySem.W.BT.node (o_68 P) (PySem.W.BT.node (o_138 P) PySem.W.BT.nil PySem.W.BT.nil) PySem.W.BT.nil) (PySem.W.BT.node (o_106 P) PySem.W.BT.nil PySem.W.BT.nil)) (PySem.W.BT.node (o_52 P) (PySem.W.BT.node (o_87 P) (PySem.W.BT.node (o_156 P) PySem.W.BT.nil PySem.W.BT.nil) PySem.W.BT.nil) (PySem.W.BT.node (o_122 P) PySem.W.BT.nil PySem.W.BT.nil))) (PySem.W.BT.node (o_25 P) (PySem.W.BT.node (o_41 P) (PySem.W.BT.node (o_79 P) (PySem.W.BT.node (o_148 P) PySem.W.BT.nil PySem.W.BT.nil) PySem.W.BT.nil) (PySem.W.BT.node (o_114 P) PySem.W.BT.nil PySem.W.BT.nil)) (PySem.W.BT.node (o_60 P) (PySem.W.BT.node (o_98 P) PySem.W.BT.nil PySem.W.BT.nil) (PySem.W.BT.node (o_130 P) PySem.W.BT.nil PySem.W.BT.nil)))) (PySem.W.BT.node (o_9 P) (PySem.W.BT.node (o_21 P) (PySem.W.BT.node (o_37 P) (PySem.W.BT.node (o_72 P) (PySem.W.BT.node (o_144 P) PySem.W.BT.nil PySem.W.BT.nil) PySem.W.BT.nil) (PySem.W.BT.node (o_110 P) PySem.W.BT.nil PySem.W.BT.nil)) (PySem.W.BT.node (o_56 P) (PySem.W.BT.node (o_94 P) (PySem.W.BT.node (o_160 P) PySem.W.BT.nil PySem.W.BT.nil) PySem.W.BT.nil) (PySem.W.BT.node (o_126 P) PySem.W.BT.nil PySem.W.BT.nil))) (PySem.W.BT.node (o_29 P) (PySem.W.BT.node (o_48 P) (PySem.W.BT.node (o_83 P) (PySem.W.BT.node (o_152 P) PySem.W.BT.nil PySem.W.BT.nil) PySem.W.BT.nil) (PySem.W.BT.node (o_118 P) PySem.W.BT.nil PySem.W.BT.nil)) (PySem.W.BT.node (o_64 P) (PySem.W.BT.node (o_102 P) PySem.W.BT.nil PySem.W.BT.nil) (PySem.W.BT.node (o_134 P) PySem.W.BT.nil PySem.W.BT.nil)))))) (PySem.W.BT.node (o_42 P) (PySem.W.BT.node (PySem.W.boot_o_4 P) (PySem.W.BT.node (PySem.W.boot_o_8 P) (PySem.W.BT.node (o_16 P) (PySem.W.BT.node (o_32 P) (PySem.W.BT.node (o_67 P) (PySem.W.BT.node (o_137 P) PySem.W.BT.nil PySem.W.BT.nil) PySem.W.BT.nil) (PySem.W.BT.node (o_105 P) PySem.W.BT.nil PySem.W.BT.nil)) (PySem.W.BT.node (o_51 P) (PySem.W.BT.node (o_86 P) (PySem.W.BT.node (o_155 P) PySem.W.BT.nil PySem.W.BT.nil) PySem.W.BT.nil) (PySem.W.BT.node (o_121 P) PySem.W.BT.nil PySem.W.BT.nil))) (PySem.W.BT.node (o_24 P) (PySem.W.BT.node (o_40 P) (PySem.W.BT.node (o_78 P) (PySem.W.BT.node (o_147 P) PySem.W.BT.nil PySem.W.BT.nil) PySem.W.BT.nil) (PySem.W.BT.node (o_113 P) PySem.W.BT.nil PySem.W.BT.nil)) (PySem.W.BT.node (o_59 P) (PySem.W.BT.node (o_97 P) PySem.W.BT.nil PySem.W.BT.nil) (PySem.W.BT.node (o_129 P) PySem.W.BT.nil PySem.W.BT.nil)))) (PySem.W.BT.node (o_141 P) (PySem.W.BT.node (o_20 P) (PySem.W.BT.node (o_36 P) (PySem.W.BT.node (o_71 P) (PySem.W.BT.node (o_143 P) PySem.W.BT.nil PySem.W.BT.nil) PySem.W.BT.nil) (PySem.W.BT.node (o_109 P) PySem.W.BT.nil PySem.W.BT.nil)) (PySem.W.BT.node (o_55 P) (PySem.W.BT.node (o_93 P) (PySem.W.BT.node (o_159 P) PySem.W.BT.nil PySem.W.BT.nil) PySem.W.BT.nil) (PySem.W.BT.node (o_125 P) PySem.W.BT.nil PySem.W.BT.nil))) (PySem.W.BT.node (o_28 P) (PySem.W.BT.node (o_47 P) (PySem.W.BT.node (o_82 P) (PySem.W.BT.node (o_151 P) PySem.W.BT.nil PySem.W.BT.nil) PySem.W.BT.nil) (PySem.W.BT.node (o_117 P) PySem.W.BT.nil PySem.W.BT.nil)) (PySem.W.BT.node (o_63 P) (PySem.W.BT.node (o_101 P) PySem.W.BT.nil PySem.W.BT.nil) (PySem.W.BT.node (o_133 P) PySem.W.BT.nil PySem.W.BT.nil))))) (PySem.W.BT.node (PySem.W.boot_o_6 P) (PySem.W.BT.node (PySem.W.boot_o_10 P) (PySem.W.BT.node (o_18 P) (PySem.W.BT.node (o_34 P) (PySem.W.BT.node (o_69 P) (PySem.W.BT.node (o_139 P) PySem.W.BT.nil PySem.W.BT.nil) PySem.W.BT.nil) (PySem.W.BT.node (o_107 P) PySem.W.BT.nil PySem.W.BT.nil)) (PySem.W.BT.node (o_53 P) (PySem.W.BT.node (o_88 P) (PySem.W.BT.node (o_157 P) PySem.W.BT.nil PySem.W.BT.nil) PySem.W.BT.nil) (PySem.W.BT.node (o_123 P) PySem.W.BT.nil PySem.W.BT.nil))) (PySem.W.BT.node (o_26 P) (PySem.W.BT.node (o_45 P) (PySem.W.BT.node (o_80 P) (PySem.W.BT.node (o_149 P) PySem.W.BT.nil PySem.W.BT.nil) PySem.W.BT.nil) (PySem.W.BT.node (o_115 P) PySem.W.BT.nil PySem.W.BT.nil)) (PySem.W.BT.node (o_61 P) (PySem.W.BT.node (o_99 P) PySem.W.BT.nil PySem.W.BT.nil) (PySem.W.BT.node (o_131 P) PySem.W.BT.nil PySem.W.BT.nil)))) (PySem.W.BT.node (o_10 P) (PySem.W.BT.node (o_22 P) (PySem.W.BT.node (o_38 P) (PySem.W.BT.node (o_73 P) (PySem.W.BT.node (o_145 P) PySem.W.BT.nil PySem.W.BT.nil) PySem.W.BT.nil) (PySem.W.BT.node (o_111 P) PySem.W.BT.nil PySem.W.BT.nil)) (PySem.W.BT.node (o_57 P) (PySem.W.BT.node (o_95 P) (PySem.W.BT.node (o_161 P) PySem.W.BT.nil PySem.W.BT.nil) PySem.W.BT.nil) (PySem.W.BT.node (o_127 P) PySem.W.BT.nil PySem.W.BT.nil))) (PySem.W.BT.node (o_30 P) (PySem.W.BT.node (o_49 P) (PySem.W.BT.node (o_84 P) (PySem.W.BT.node (o_153 P) PySem.W.BT.nil PySem.W.BT.nil) PySem.W.BT.nil) (PySem.W.BT.node (o_119 P) PySem.W.BT.nil PySem.W.BT.nil)) (PySem.W.BT.node (o_65 P) (PySem.W.BT.node (o_103 P) PySem.W.BT.nil PySem.W.BT.nil) (PySem.W.BT.node (o_135 P) PySem.W.BT.nil PySem.W.BT.nil)))))))
noncomputable def o_163 (P : Params) : Obj := (Obj.mk (Value.type PySem.W.SL.s14018661285674007319x4) Option.none (Data.dict (List.toArray [(DictEntry.mk (PyData.keyHash P z3) (Value.str z3 165) (Value.str z60 365)), (DictEntry.mk (PyData.keyHash P z5) (Value.str z5 166) Value.none), (DictEntry.mk (PyData.keyHash P z6) (Value.str z6 167) Value.none), (DictEntry.mk (PyData.keyHash P z7) (Value.str z7 168) (Value.builtin PySem.W.SL.s7097527257260152453x26)), (DictEntry.mk (PyData.keyHash P z8) (Value.str z8 169) Value.none), (DictEntry.mk (PyData.keyHash P z9) (Value.str z9 170) (Value.ref 6)), (DictEntry.mk (PyData.keyHash P z10) (Value.str z10 171) (Value.ref 4)), (DictEntry.mk (PyData.keyHash P z11) (Value.str z11 173) (Value.str z1 172)), (DictEntry.mk (PyData.keyHash P z12) (Value.str z12 174) Value.none), (DictEntry.mk (PyData.keyHash P z13) (Value.str z13 193) (Value.ref 21)), (DictEntry.mk (PyData.keyHash P z14) (Value.str z14 201) (Value.ref 22)), (DictEntry.mk (PyData.keyHash P z15) (Value.str z15 208) (Value.ref 29)), (DictEntry.mk (PyData.keyHash P z16) (Value.str z16 214) (Value.ref 34)), (DictEntry.mk (PyData.keyHash P z17) (Value.str z17 222) (Value.ref 41)), (DictEntry.mk (PyData.keyHash P z29) (Value.str z29 264) (Value.ref 67)), (DictEntry.mk (PyData.keyHash P z42) (Value.str z42 280) (Value.ref 80)), (DictEntry.mk (PyData.keyHash P z44) (Value.str z44 296) (Value.ref 92)), (DictEntry.mk (PyData.keyHash P z45) (Value.str z45 300) (Value.str z46 299)), (DictEntry.mk (PyData.keyHash P z47) (Value.str z47 308) (Value.ref 101)), (DictEntry.mk (PyData.keyHash P z48) (Value.str z48 317) (Value.ref 109)), (DictEntry.mk (PyData.keyHash P z49) (Value.str z49 328) (Value.ref 116)), (DictEntry.mk (PyData.keyHash P z50) (Value.str z50 335) (Value.ref 123)), (DictEntry.mk (PyData.keyHash P z51) (Value.str z51 342) (Value.ref 130)), (DictEntry.mk (PyData.keyHash P z61) (Value.str z61 351) (Value.ref 137)), (DictEntry.mk (PyData.keyHash P z62) (Value.str z62 364) (Value.ref 144)), (DictEntry.mk (PyData.keyHash P z63) (Value.str z63 368) (Value.str z64 367)), (DictEntry.mk (PyData.keyHash P z65) (Value.str z65 375) (Value.ref 151)), (DictEntry.mk (PyData.keyHash P z75) (Value.str z75 577) (Value.ref 320))]) 28) (List.toArray []))
noncomputable def o_164 (P : Params) : Obj := (Obj.mk Value.none Option.none (Data.fields (List.toArray [(Value.int 1 0), (Value.int 0 0), (Value.ref 20), (Value.int 6 0), (Value.int 0 0), (Value.ref 28), (Value.int 10 0), (Value.int 0 0), (Value.ref 33), (Value.int 12 0), (Value.int 0 0), (Value.ref 40), (Value.int 27 0), (Value.int 0 0), (Value.ref 47), (Value.int 36 0), (Value.int 0 0), (Value.ref 76), (Value.int 38 0), (Value.int 0 0), (Value.ref 88), (Value.int 42 0), (Value.int 0 0), (Value.ref 100), (Value.int 46 0), (Value.int 0 0), (Value.ref 108), (Value.int 53 0), (Value.int 0 0), (Value.ref 115), (Value.int 61 0), (Value.int 0 0), (Value.ref 122), (Value.int 63 0), (Value.int 0 0), (Value.ref 129), (Value.int 65 0), (Value.int 0 0), (Value.ref 136), (Value.int 70 0), (Value.int 0 0), (Value.ref 143), (Value.int 87 0), (Value.int 0 0), (Value.ref 150), (Value.int 89 0), (Value.int 0 0), (Value.ref 157)])) (List.toArray []))
noncomputable def o_165 (P : Params) : Obj := (Obj.mk (Value.type PySem.W.SL.s2766695959194262286x5) Option.none (Data.seq (List.toArray []) 0) (List.toArray []))
noncomputable def o_166 (P : Params) : Obj := (Obj.mk (Value.type PySem.W.SL.s11030030927630378310x26) Option.none (Data.fields (List.toArray [(Value.builtin PySem.W.SL.s10062305145149207511x16), (Value.type PySem.W.SL.s17162191345867700912x4)])) (List.toArray []))
noncomputable def o_167 (P : Params) : Obj := (Obj.mk (Value.type PySem.W.SL.s14018661285674007319x4) Option.none (Data.dict (List.toArray [(DictEntry.mk (PyData.keyHash P z30) (Value.str z30 383) (Value.str z60 365)), (DictEntry.mk (PyData.keyHash P z31) (Value.str z31 385) (Value.str z75 384)), (DictEntry.mk (PyData.keyHash P z32) (Value.str z32 387) (Value.int 89 386)), (DictEntry.mk (PyData.keyHash P z33) (Value.str z33 397) (Value.ref 166)), (DictEntry.mk (PyData.keyHash P z76) (Value.str z76 406) (Value.ref 174)), (DictEntry.mk (PyData.keyHash P z77) (Value.str z77 413) (Value.ref 181)), (DictEntry.mk (PyData.keyHash P z78) (Value.str z78 421) (Value.ref 188)), (DictEntry.mk (PyData.keyHash P z79) (Value.str z79 429) (Value.ref 195)), (DictEntry.mk (PyData.keyHash P z80) (Value.str z80 440) (Value.ref 203)), (DictEntry.mk (PyData.keyHash P z81) (Value.str z81 450) (Value.ref 210)), (DictEntry.mk (PyData.keyHash P z82) (Value.str z82 458) (Value.ref 217)), (DictEntry.mk (PyData.keyHash P z83) (Value.str z83 466) (Value.ref 224)), (DictEntry.mk (PyData.keyHash P z84) (Value.str z84 474) (Value.ref 231)), (DictEntry.mk (PyData.keyHash P z74) (Value.str z74 481) (Value.ref 238)), (DictEntry.mk (PyData.keyHash P z85) (Value.str z85 490) (Value.ref 246)), (DictEntry.mk (PyData.keyHash P z26) (Value.str z26 497) (Value.ref 253)), (DictEntry.mk (PyData.keyHash P z86) (Value.str z86 504) (Value.ref 260)), (DictEntry.mk (PyData.keyHash P z87) (Value.str z87 514) (Value.ref 268)), (DictEntry.mk (PyData.keyHash P z88) (Value.str z88 522) (Value.ref 275)), (DictEntry.mk (PyData.keyHash P z89) (Value.str z89 530) (Value.ref 282)), (DictEntry.mk (PyData.keyHash P z90) (Value.str z90 537) (Value.ref 289)), (DictEntry.mk (PyData.keyHash P z91) (Value.str z91 544) (Value.ref 296)), (DictEntry.mk (PyData.keyHash P z92) (Value.str z92 552) (Value.ref 303)), (DictEntry.mk (PyData.keyHash P z93) (Value.str z93 559) (Value.ref 310)), (DictEntry.mk (PyData.keyHash P z94) (Value.str z94 566) (Value.ref 317)), (DictEntry.mk (PyData.keyHash P z35) (Value.str z35 570) (Value.ref 318))]) 26) (List.toArray []))
noncomputable def o_168 (P : Params) : Obj := (Obj.mk (Value.type PySem.W.SL.s2766695959194262286x5) Option.none (Data.seq (List.toArray []) 0) (List.toArray []))
noncomputable def o_169 (P : Params) : Obj := (Obj.mk Value.none Option.none (Data.fields (List.toArray [(Value.int 91 0), (Value.int 4 0), (Value.ref 165), (Value.int 96 0), (Value.int 4 0), (Value.ref 173), (Value.int 101 0), (Value.int 4 0), (Value.ref 180), (Value.int 104 0), (Value.int 4 0), (Value.ref 187), (Value.int 109 0), (Value.int 4 0), (Value.ref 194), (Value.int 116 0), (Value.int 4 0), (Value.ref 202), (Value.int 120 0), (Value.int 4 0), (Value.ref 209), (Value.int 128 0), (Value.int 4 0), (Value.ref 216), (Value.int 134 0), (Value.int 4 0), (Value.ref 223), (Value.int 138 0), (Value.int 4 0), (Value.ref 230), (Value.int 141 0), (Value.int 4 0), (Value.ref 237), (Value.int 146 0), (Value.int 4 0), (Value.ref 245), (Value.int 149 0), (Value.int 4 0), (Value.ref 252), (Value.int 154 0), (Value.int 4 0), (Value.ref 259), (Value.int 157 0), (Value.int 4 0), (Value.ref 267), (Value.int 160 0), (Value.int 4 0), (Value.ref 274), (Value.int 166 0), (Value.int 4 0), (Value.ref 281), (Value.int 170 0), (Value.int 4 0), (Value.ref 288), (Value.int 173 0), (Value.int 4 0), (Value.ref 295), (Value.int 176 0), (Value.int 4 0), (Value.ref 302), (Value.int 185 0), (Value.int 4 0), (Value.ref 309), (Value.int 190 0), (Value.int 4 0), (Value.ref 316)])) (List.toArray []))
noncomputable def o_170 (P : Params) : Obj := (Obj.mk (Value.type PySem.W.SL.s5856160107412720595x4) Option.none (Data.fields (List.toArray [(Value.str z75 378), (Value.str z75 379), (Value.str z1 380), (Value.int 89 0), (Value.int 0 0), (Value.int 0 0), (Value.int 0 0), (Value.int 0 0), (Value.ref 155), (Value.bool Bool.false), (Value.int 181 0), (Value.ref 156), Value.none, Value.none, Value.none, Value.none, (Value.int 381 0), (Value.int 89 0), (Value.str z1 382)])) (List.toArray []))
noncomputable def o_171 (P : Params) : Obj := (Obj.mk (Value.type PySem.W.SL.s658472552662922059x5) Option.none Data.plain (List.toArray [(Option.some (Value.ref 157)), (Option.some (Value.ref 3)), (Option.some (Value.ref 154)), Option.none, (Option.some (Value.str z60 365)), Option.none, (Option.some (Value.ref 0))]))
noncomputable def o_172 (P : Params) : Obj := (Obj.mk (Value.type PySem.W.SL.s2766695959194262286x5) Option.none (Data.seq (List.toArray [(Value.int 0 388)]) 0) (List.toArray []))
noncomputable def o_173 (P : Params) : Obj := (Obj.mk (Value.type PySem.W.SL.s2766695959194262286x5) Option.none (Data.seq (List.toArray []) 0) (List.toArray []))
noncomputable def o_174 (P : Params) : Obj := (Obj.mk Value.none Option.none (Data.fields (List.toArray [])) (List.toArray []))
noncomputable def o_175 (P : Params) : Obj := (Obj.mk (Value.type PySem.W.SL.s2766695959194262286x5) Option.none (Data.seq (List.toArray [(Value.str z36 392), (Value.str z95 393), (Value.str z38 394)]) 0) (List.toArray []))
noncomputable def o_176 (P : Params) : Obj := (Obj.mk (Value.type PySem.W.SL.s2766695959194262286x5) Option.none (Data.seq (List.toArray []) 0) (List.toArray []))
noncomputable def o_177 (P : Params) : Obj := (Obj.mk Value.none Option.none (Data.func (FuncData.mk z33 z96 (fnA (clR 22 0)) (FuncBody.stmts (fnB (clR 22 0))) (fnS (clR 22 0)) 0 [] Value.none Value.none Value.none Value.none Option.none Value.none Value.none 0)) (List.toArray []))
noncomputable def o_178 (P : Params) : Obj := (Obj.mk (Value.type PySem.W.SL.s5856160107412720595x4) Option.none (Data.fields (List.toArray [(Value.str z33 389), (Value.str z96 390), (Value.str z1 391), (Value.int 91 0), (Value.int 3 0), (Value.int 0 0), (Value.int 0 0), (Value.int 3 0), (Value.ref 160), (Value.bool Bool.true), (Value.int 181 0), (Value.ref 161), Value.none, (Value.ref 162), (Value.ref 163), (Value.ref 164), (Value.int 395 0), (Value.int 91 0), (Value.str z1 396)])) (List.toArray []))
noncomputable def o_179 (P : Params) : Obj := (Obj.mk (Value.type PySem.W.SL.s7174869446012820540x8) Option.none (Data.func (FuncData.mk z33 z96 (fnA (clR 22 0)) (FuncBody.stmts (fnB (clR 22 0))) (fnS (clR 22 0)) 3 [] (Value.ref 159) Value.none Value.none (Value.str z60 365) Option.none (Value.ref 165) Value.none 0)) (List.toArray []))
noncomputable def o_180 (P : Params) : Obj := (Obj.mk (Value.type PySem.W.SL.s2766695959194262286x5) Option.none (Data.seq (List.toArray [(Value.int 0 398)]) 0) (List.toArray []))
noncomputable def o_181 (P : Params) : Obj := (Obj.mk (Value.type PySem.W.SL.s2766695959194262286x5) Option.none (Data.seq (List.toArray []) 0) (List.toArray []))
noncomputable def o_182 (P : Params) : Obj := (Obj.mk Value.none Option.none (Data.fields (List.toArray [])) (List.toArray []))
noncomputable def o_183 (P : Params) : Obj := (Obj.mk (Value.type PySem.W.SL.s2766695959194262286x5) Option.none (Data.seq (List.toArray [(Value.str z36 402), (Value.str z71 403)]) 0) (List.toArray []))
noncomputable def o_184 (P : Params) : Obj := (Obj.mk (Value.type PySem.W.SL.s2766695959194262286x5) Option.none (Data.seq (List.toArray []) 0) (List.toArray []))
noncomputable def o_185 (P : Params) : Obj := (Obj.mk Value.none Option.none (Data.func (FuncData.mk z76 z97 (fnA (clR 22 1)) (FuncBody.stmts (fnB (clR 22 1))) (fnS (clR 22 1)) 0 [] Value.none Value.none Value.none Value.none Option.none Value.none Value.none 0)) (List.toArray []))
noncomputable def o_186 (P : Params) : Obj := (Obj.mk (Value.type PySem.W.SL.s5856160107412720595x4) Option.none (Data.fields (List.toArray [(Value.str z76 399), (Value.str z97 400), (Value.str z1 401), (Value.int 96 0), (Value.int 2 0), (Value.int 0 0), (Value.int 0 0), (Value.int 3 0), (Value.ref 168), (Value.bool Bool.true), (Value.int 181 0), (Value.ref 169), Value.none, (Value.ref 170), (Value.ref 171), (Value.ref 172), (Value.int 404 0), (Value.int 96 0), (Value.str z1 405)])) (List.toArray []))
noncomputable def o_187 (P : Params) : Obj := (Obj.mk (Value.type PySem.W.SL.s7174869446012820540x8) Option.none (Data.func (FuncData.mk z76 z97 (fnA (clR 22 1)) (FuncBody.stmts (fnB (clR 22 1))) (fnS (clR 22 1)) 3 [] (Value.ref 167) Value.none Value.none (Value.str z60 365) Option.none (Value.ref 173) Value.none 0)) (List.toArray []))
noncomputable def o_188 (P : Params) : Obj := (Obj.mk (Value.type PySem.W.SL.s2766695959194262286x5) Option.none (Data.seq (List.toArray []) 0) (List.toArray []))
noncomputable def o_189 (P : Params) : Obj := (Obj.mk Value.none Option.none (Data.fields (List.toArray [])) (List.toArray []))
noncomputable def o_190 (P : Params) : Obj := (Obj.mk (Value.type PySem.W.SL.s2766695959194262286x5) Option.none (Data.seq (List.toArray [(Value.str z36 410)]) 0) (List.toArray []))
noncomputable def o_191 (P : Params) : Obj := (Obj.mk (Value.type PySem.W.SL.s2766695959194262286x5) Option.none (Data.seq (List.toArray []) 0) (List.toArray []))
noncomputable def o_192 (P : Params) : Obj := (Obj.mk Value.none Option.none (Data.func (FuncData.mk z77 z98 (fnA (clR 22 2)) (FuncBody.stmts (fnB (clR 22 2))) (fnS (clR 22 2)) 0 [] Value.none Value.none Value.none Value.none Option.none Value.none Value.none 0)) (List.toArray []))
noncomputable def o_193 (P : Params) : Obj := (Obj.mk (Value.type PySem.W.SL.s5856160107412720595x4) Option.none (Data.fields (List.toArray [(Value.str z77 407), (Value.str z98 408), (Value.str z1 409), (Value.int 101 0), (Value.int 1 0), (Value.int 0 0), (Value.int 0 0), (Value.int 3 0), (Value.ref 175), (Value.bool Bool.true), (Value.int 181 0), (Value.ref 176), Value.none, (Value.ref 177), (Value.ref 178), (Value.ref 179), (Value.int 411 0), (Value.int 101 0), (Value.str z1 412)])) (List.toArray []))
noncomputable def o_194 (P : Params) : Obj := (Obj.mk (Value.type PySem.W.SL.s7174869446012820540x8) Option.none (Data.func (FuncData.mk z77 z98 (fnA (clR 22 2)) (FuncBody.stmts (fnB (clR 22 2))) (fnS (clR 22 2)) 3 [] Value.none Value.none Value.none (Value.str z60 365) Option.none (Value.ref 180) Value.none 0)) (List.toArray []))
noncomputable def o_195 (P : Params) : Obj := (Obj.mk (Value.type PySem.W.SL.s2766695959194262286x5) Option.none (Data.seq (List.toArray []) 0) (List.toArray []))
noncomputable def o_196 (P : Params) : Obj := (Obj.mk Value.none Option.none (Data.fields (List.toArray [])) (List.toArray []))
noncomputable def o_197 (P : Params) : Obj := (Obj.mk (Value.type PySem.W.SL.s2766695959194262286x5) Option.none (Data.seq (List.toArray [(Value.str z36 417), (Value.str z37 418)]) 0) (List.toArray []))
noncomputable def o_198 (P : Params) : Obj := (Obj.mk (Value.type PySem.W.SL.s2766695959194262286x5) Option.none (Data.seq (List.toArray []) 0) (List.toArray []))
noncomputable def o_199 (P : Params) : Obj := (Obj.mk Value.none Option.none (Data.func (FuncData.mk z78 z99 (fnA (clR 22 3)) (FuncBody.stmts (fnB (clR 22 3))) (fnS (clR 22 3)) 0 [] Value.none Value.none Value.none Value.none Option.none Value.none Value.none 0)) (List.toArray []))
noncomputable def o_200 (P : Params) : Obj := (Obj.mk (Value.type PySem.W.SL.s5856160107412720595x4) Option.none (Data.fields (List.toArray [(Value.str z78 414), (Value.str z99 415), (Value.str z1 416), (Value.int 104 0), (Value.int 2 0), (Value.int 0 0), (Value.int 0 0), (Value.int 3 0), (Value.ref 182), (Value.bool Bool.true), (Value.int 181 0), (Value.ref 183), Value.none, (Value.ref 184), (Value.ref 185), (Value.ref 186), (Value.int 419 0), (Value.int 104 0), (Value.str z1 420)])) (List.toArray []))
noncomputable def o_201 (P : Params) : Obj := (Obj.mk (Value.type PySem.W.SL.s7174869446012820540x8) Option.none (Data.func (FuncData.mk z78 z99 (fnA (clR 22 3)) (FuncBody.stmts (fnB (clR 22 3))) (fnS (clR 22 3)) 3 [] Value.none Value.none Value.none (Value.str z60 365) Option.none (Value.ref 187) Value.none 0)) (List.toArray []))
noncomputable def o_202 (P : Params) : Obj := (Obj.mk (Value.type PySem.W.SL.s2766695959194262286x5) Option.none (Data.seq (List.toArray []) 0) (List.toArray []))
noncomputable def o_203 (P : Params) : Obj := (Obj.mk Value.none Option.none (Data.fields (List.toArray [])) (List.toArray []))
noncomputable def o_204 (P : Params) : Obj := (Obj.mk (Value.type PySem.W.SL.s2766695959194262286x5) Option.none (Data.seq (List.toArray [(Value.str z36 425), (Value.str z100 426)]) 0) (List.toArray []))
noncomputable def o_205 (P : Params) : Obj := (Obj.mk (Value.type PySem.W.SL.s2766695959194262286x5) Option.none (Data.seq (List.toArray []) 0) (List.toArray []))
noncomputable def o_206 (P : Params) : Obj := (Obj.mk Value.none Option.none (Data.func (FuncData.mk z79 z101 (fnA (clR 22 4)) (FuncBody.stmts (fnB (clR 22 4))) (fnS (clR 22 4)) 0 [] Value.none Value.none Value.none Value.none Option.none Value.none Value.none 0)) (List.toArray []))
noncomputable def o_207 (P : Params) : Obj := (Obj.mk (Value.type PySem.W.SL.s5856160107412720595x4) Option.none (Data.fields (List.toArray [(Value.str z79 422), (Value.str z101 423), (Value.str z1 424), (Value.int 109 0), (Value.int 1 0), (Value.int 0 0), (Value.int 0 0), (Value.int 3 0), (Value.ref 189), (Value.bool Bool.true), (Value.int 181 0), (Value.ref 190), Value.none, (Value.ref 191), (Value.ref 192), (Value.ref 193), (Value.int 427 0), (Value.int 109 0), (Value.str z1 428)])) (List.toArray []))
noncomputable def o_208 (P : Params) : Obj := (Obj.mk (Value.type PySem.W.SL.s7174869446012820540x8) Option.none (Data.func (FuncData.mk z79 z101 (fnA (clR 22 4)) (FuncBody.stmts (fnB (clR 22 4))) (fnS (clR 22 4)) 3 [] Value.none Value.none Value.none (Value.str z60 365) Option.none (Value.ref 194) Value.none 0)) (List.toArray []))
noncomputable def o_209 (P : Params) : Obj := (Obj.mk (Value.type PySem.W.SL.s2766695959194262286x5) Option.none (Data.seq (List.toArray [(Value.int 0 430)]) 0) (List.toArray []))
noncomputable def o_210 (P : Params) : Obj := (Obj.mk (Value.type PySem.W.SL.s2766695959194262286x5) Option.none (Data.seq (List.toArray []) 0) (List.toArray []))
noncomputable def o_211 (P : Params) : Obj := (Obj.mk Value.none Option.none (Data.fields (List.toArray [])) (List.toArray []))
noncomputable def o_212 (P : Params) : Obj := (Obj.mk (Value.type PySem.W.SL.s2766695959194262286x5) Option.none (Data.seq (List.toArray [(Value.str z36 434), (Value.str z102 435), (Value.str z71 436), (Value.str z100 437)]) 0) (List.toArray []))
noncomputable def o_213 (P : Params) : Obj := (Obj.mk (Value.type PySem.W.SL.s2766695959194262286x5) Option.none (Data.seq (List.toArray []) 0) (List.toArray []))
noncomputable def o_214 (P : Params) : Obj := (Obj.mk Value.none Option.none (Data.func (FuncData.mk z80 z103 (fnA (clR 22 5)) (FuncBody.stmts (fnB (clR 22 5))) (fnS (clR 22 5)) 0 [] Value.none Value.none Value.none Value.none Option.none Value.none Value.none 0)) (List.toArray []))
noncomputable def o_215 (P : Params) : Obj := (Obj.mk (Value.type PySem.W.SL.s5856160107412720595x4) Option.none (Data.fields (List.toArray [(Value.str z80 431), (Value.str z103 432), (Value.str z1 433), (Value.int 116 0), (Value.int 3 0), (Value.int 0 0), (Value.int 0 0), (Value.int 3 0), (Value.ref 197), (Value.bool Bool.true), (Value.int 181 0), (Value.ref 198), Value.none, (Value.ref 199), (Value.ref 200), (Value.ref 201), (Value.int 438 0), (Value.int 116 0), (Value.str z1 439)])) (List.toArray []))
noncomputable def o_216 (P : Params) : Obj := (Obj.mk (Value.type PySem.W.SL.s7174869446012820540x8) Option.none (Data.func (FuncData.mk z80 z103 (fnA (clR 22 5)) (FuncBody.stmts (fnB (clR 22 5))) (fnS (clR 22 5)) 3 [] (Value.ref 196) Value.none Value.none (Value.str z60 365) Option.none (Value.ref 202) Value.none 0)) (List.toArray []))
noncomputable def o_217 (P : Params) : Obj := (Obj.mk (Value.type PySem.W.SL.s2766695959194262286x5) Option.none (Data.seq (List.toArray []) 0) (List.toArray []))
noncomputable def o_218 (P : Params) : Obj := (Obj.mk Value.none Option.none (Data.fields (List.toArray [])) (List.toArray []))
noncomputable def o_219 (P : Params) : Obj := (Obj.mk (Value.type PySem.W.SL.s2766695959194262286x5) Option.none (Data.seq (List.toArray [(Value.str z36 444), (Value.str z104 445), (Value.str z71 446), (Value.str z74 447)]) 0) (List.toArray []))
noncomputable def o_220 (P : Params) : Obj := (Obj.mk (Value.type PySem.W.SL.s2766695959194262286x5) Option.none (Data.seq (List.toArray []) 0) (List.toArray []))
noncomputable def o_221 (P : Params) : Obj := (Obj.mk Value.none Option.none (Data.func (FuncData.mk z81 z105 (fnA (clR 22 6)) (FuncBody.stmts (fnB (clR 22 6))) (fnS (clR 22 6)) 0 [] Value.none Value.none Value.none Value.none Option.none Value.none Value.none 0)) (List.toArray []))
noncomputable def o_222 (P : Params) : Obj := (Obj.mk (Value.type PySem.W.SL.s5856160107412720595x4) Option.none (Data.fields (List.toArray [(Value.str z81 441), (Value.str z105 442), (Value.str z1 443), (Value.int 120 0), (Value.int 2 0), (Value.int 0 0), (Value.int 0 0), (Value.int 3 0), (Value.ref 204), (Value.bool Bool.true), (Value.int 181 0), (Value.ref 205), Value.none, (Value.ref 206), (Value.ref 207), (Value.ref 208), (Value.int 448 0), (Value.int 120 0), (Value.str z1 449)])) (List.toArray []))
noncomputable def o_223 (P : Params) : Obj := (Obj.mk (Value.type PySem.W.SL.s7174869446012820540x8) Option.none (Data.func (FuncData.mk z81 z105 (fnA (clR 22 6)) (FuncBody.stmts (fnB (clR 22 6))) (fnS (clR 22 6)) 3 [] Value.none Value.none Value.none (Value.str z60 365) Option.none (Value.ref 209) Value.none 0)) (List.toArray []))
noncomputable def o_224 (P : Params) : Obj := (Obj.mk (Value.type PySem.W.SL.s2766695959194262286x5) Option.none (Data.seq (List.toArray []) 0) (List.toArray []))
noncomputable def o_225 (P : Params) : Obj := (Obj.mk Value.none Option.none (Data.fields (List.toArray [])) (List.toArray []))
noncomputable def o_226 (P : Params) : Obj := (Obj.mk (Value.type PySem.W.SL.s2766695959194262286x5) Option.none (Data.seq (List.toArray [(Value.str z36 454), (Value.str z104 455)]) 0) (List.toArray []))
noncomputable def o_227 (P : Params) : Obj := (Obj.mk (Value.type PySem.W.SL.s2766695959194262286x5) Option.none (Data.seq (List.toArray []) 0) (List.toArray []))
noncomputable def o_228 (P : Params) : Obj := (Obj.mk Value.none Option.none (Data.func (FuncData.mk z82 z106 (fnA (clR 22 7)) (FuncBody.stmts (fnB (clR 22 7))) (fnS (clR 22 7)) 0 [] Value.none Value.none Value.none Value.none Option.none Value.none Value.none 0)) (List.toArray []))
noncomputable def o_229 (P : Params) : Obj := (Obj.mk (Value.type PySem.W.SL.s5856160107412720595x4) Option.none (Data.fields (List.toArray [(Value.str z82 451), (Value.str z106 452), (Value.str z1 453), (Value.int 128 0), (Value.int 2 0), (Value.int 0 0), (Value.int 0 0), (Value.int 3 0), (Value.ref 211), (Value.bool Bool.true), (Value.int 181 0), (Value.ref 212), Value.none, (Value.ref 213), (Value.ref 214), (Value.ref 215), (Value.int 456 0), (Value.int 128 0), (Value.str z1 457)])) (List.toArray []))
noncomputable def o_230 (P : Params) : Obj := (Obj.mk (Value.type PySem.W.SL.s7174869446012820540x8) Option.none (Data.func (FuncData.mk z82 z106 (fnA (clR 22 7)) (FuncBody.stmts (fnB (clR 22 7))) (fnS (clR 22 7)) 3 [] Value.none Value.none Value.none (Value.str z60 365) Option.none (Value.ref 216) Value.none 0)) (List.toArray []))
noncomputable def o_231 (P : Params) : Obj := (Obj.mk (Value.type PySem.W.SL.s2766695959194262286x5) Option.none (Data.seq (List.toArray []) 0) (List.toArray []))
noncomputable def o_232 (P : Params) : Obj := (Obj.mk Value.none Option.none (Data.fields (List.toArray [])) (List.toArray []))
noncomputable def o_233 (P : Params) : Obj := (Obj.mk (Value.type PySem.W.SL.s2766695959194262286x5) Option.none (Data.seq (List.toArray [(Value.str z36 462), (Value.str z104 463)]) 0) (List.toArray []))
noncomputable def o_234 (P : Params) : Obj := (Obj.mk (Value.type PySem.W.SL.s2766695959194262286x5) Option.none (Data.seq (List.toArray []) 0) (List.toArray []))
noncomputable def o_235 (P : Params) : Obj := (Obj.mk Value.none Option.none (Data.func (FuncData.mk z83 z107 (fnA (clR 22 8)) (FuncBody.stmts (fnB (clR 22 8))) (fnS (clR 22 8)) 0 [] Value.none Value.none Value.none Value.none Option.none Value.none Value.none 0)) (List.toArray []))
noncomputable def o_236 (P : Params) : Obj := (Obj.mk (Value.type PySem.W.SL.s5856160107412720595x4) Option.none (Data.fields (List.toArray [(Value.str z83 459), (Value.str z107 460), (Value.str z1 461), (Value.int 134 0), (Value.int 2 0), (Value.int 0 0), (Value.int 0 0), (Value.int 3 0), (Value.ref 218), (Value.bool Bool.true), (Value.int 181 0), (Value.ref 219), Value.none, (Value.ref 220), (Value.ref 221), (Value.ref 222), (Value.int 464 0), (Value.int 134 0), (Value.str z1 465)])) (List.toArray []))
noncomputable def o_237 (P : Params) : Obj := (Obj.mk (Value.type PySem.W.SL.s7174869446012820540x8) Option.none (Data.func (FuncData.mk z83 z107 (fnA (clR 22 8)) (FuncBody.stmts (fnB (clR 22 8))) (fnS (clR 22 8)) 3 [] Value.none Value.none Value.none (Value.str z60 365) Option.none (Value.ref 223) Value.none 0)) (List.toArray []))
noncomputable def o_238 (P : Params) : Obj := (Obj.mk (Value.type PySem.W.SL.s2766695959194262286x5) Option.none (Data.seq (List.toArray []) 0) (List.toArray []))
noncomputable def o_239 (P : Params) : Obj := (Obj.mk Value.none Option.none (Data.fields (List.toArray [])) (List.toArray []))
noncomputable def o_240 (P : Params) : Obj := (Obj.mk (Value.type PySem.W.SL.s2766695959194262286x5) Option.none (Data.seq (List.toArray [(Value.str z36 470), (Value.str z104 471)]) 0) (List.toArray []))
noncomputable def o_241 (P : Params) : Obj := (Obj.mk (Value.type PySem.W.SL.s2766695959194262286x5) Option.none (Data.seq (List.toArray []) 0) (List.toArray []))
noncomputable def o_242 (P : Params) : Obj := (Obj.mk Value.none Option.none (Data.func (FuncData.mk z84 z108 (fnA (clR 22 9)) (FuncBody.stmts (fnB (clR 22 9))) (fnS (clR 22 9)) 0 [] Value.none Value.none Value.none Value.none Option.none Value.none Value.none 0)) (List.toArray []))
noncomputable def o_243 (P : Params) : Obj := (Obj.mk (Value.type PySem.W.SL.s5856160107412720595x4) Option.none (Data.fields (List.toArray [(Value.str z84 467), (Value.str z108 468), (Value.str z1 469), (Value.int 138 0), (Value.int 2 0), (Value.int 0 0), (Value.int 0 0), (Value.int 3 0), (Value.ref 225), (Value.bool Bool.true), (Value.int 181 0), (Value.ref 226), Value.none, (Value.ref 227), (Value.ref 228), (Value.ref 229), (Value.int 472 0), (Value.int 138 0), (Value.str z1 473)])) (List.toArray []))
noncomputable def o_244 (P : Params) : Obj := (Obj.mk (Value.type PySem.W.SL.s7174869446012820540x8) Option.none (Data.func (FuncData.mk z84 z108 (fnA (clR 22 9)) (FuncBody.stmts (fnB (clR 22 9))) (fnS (clR 22 9)) 3 [] Value.none Value.none Value.none (Value.str z60 365) Option.none (Value.ref 230) Value.none 0)) (List.toArray []))
noncomputable def o_245 (P : Params) : Obj := (Obj.mk (Value.type PySem.W.SL.s2766695959194262286x5) Option.none (Data.seq (List.toArray []) 0) (List.toArray []))
noncomputable def o_246 (P : Params) : Obj := (Obj.mk Value.none Option.none (Data.fields (List.toArray [])) (List.toArray []))
noncomputable def o_247 (P : Params) : Obj := (Obj.mk (Value.type PySem.W.SL.s2766695959194262286x5) Option.none (Data.seq (List.toArray [(Value.str z36 478)]) 0) (List.toArray []))
noncomputable def o_248 (P : Params) : Obj := (Obj.mk (Value.type PySem.W.SL.s2766695959194262286x5) Option.none (Data.seq (List.toArray []) 0) (List.toArray []))
noncomputable def o_249 (P : Params) : Obj := (Obj.mk Value.none Option.none (Data.func (FuncData.mk z74 z109 (fnA (clR 22 10)) (FuncBody.stmts (fnB (clR 22 10))) (fnS (clR 22 20)) 0 [] Value.none Value.none Value.none Value.none Option.none Value.none Value.none 0)) (List.toArray []))
noncomputable def o_250 (P : Params) : Obj := (Obj.mk (Value.type PySem.W.SL.s5856160107412720595x4) Option.none (Data.fields (List.toArray [(Value.str z74 475), (Value.str z109 476), (Value.str z1 477), (Value.int 141 0), (Value.int 1 0), (Value.int 0 0), (Value.int 0 0), (Value.int 3 0), (Value.ref 232), (Value.bool Bool.true), (Value.int 181 0), (Value.ref 233), Value.none, (Value.ref 234), (Value.ref 235), (Value.ref 236), (Value.int 479 0), (Value.int 141 0), (Value.str z1 480)])) (List.toArray []))
noncomputable def o_251 (P : Params) : Obj := (Obj.mk (Value.type PySem.W.SL.s7174869446012820540x8) Option.none (Data.func (FuncData.mk z74 z109 (fnA (clR 22 10)) (FuncBody.stmts (fnB (clR 22 10))) (fnS (clR 22 20)) 3 [] Value.none Value.none Value.none (Value.str z60 365) Option.none (Value.ref 237) Value.none 0)) (List.toArray []))
noncomputable def o_252 (P : Params) : Obj := (Obj.mk (Value.type PySem.W.SL.s2766695959194262286x5) Option.none (Data.seq (List.toArray [(Value.int 0 482)]) 0) (List.toArray []))
noncomputable def o_253 (P : Params) : Obj := (Obj.mk (Value.type PySem.W.SL.s2766695959194262286x5) Option.none (Data.seq (List.toArray []) 0) (List.toArray []))
noncomputable def o_254 (P : Params) : Obj := (Obj.mk Value.none Option.none (Data.fields (List.toArray [])) (List.toArray []))
noncomputable def o_255 (P : Params) : Obj := (Obj.mk (Value.type PySem.W.SL.s2766695959194262286x5) Option.none (Data.seq (List.toArray [(Value.str z36 486), (Value.str z71 487)]) 0) (List.toArray []))
noncomputable def o_256 (P : Params) : Obj := (Obj.mk (Value.type PySem.W.SL.s2766695959194262286x5) Option.none (Data.seq (List.toArray []) 0) (List.toArray []))
noncomputable def o_257 (P : Params) : Obj := (Obj.mk Value.none Option.none (Data.func (FuncData.mk z85 z110 (fnA (clR 22 11)) (FuncBody.stmts (fnB (clR 22 11))) (fnS (clR 22 11)) 0 [] Value.none Value.none Value.none Value.none Option.none Value.none Value.none 0)) (List.toArray []))
noncomputable def o_258 (P : Params) : Obj := (Obj.mk (Value.type PySem.W.SL.s5856160107412720595x4) Option.none (Data.fields (List.toArray [(Value.str z85 483), (Value.str z110 484), (Value.str z1 485), (Value.int 146 0), (Value.int 2 0), (Value.int 0 0), (Value.int 0 0), (Value.int 3 0), (Value.ref 240), (Value.bool Bool.true), (Value.int 181 0), (Value.ref 241), Value.none, (Value.ref 242), (Value.ref 243), (Value.ref 244), (Value.int 488 0), (Value.int 146 0), (Value.str z1 489)])) (List.toArray []))
noncomputable def o_259 (P : Params) : Obj := (Obj.mk (Value.type PySem.W.SL.s7174869446012820540x8) Option.none (Data.func (FuncData.mk z85 z110 (fnA (clR 22 11)) (FuncBody.stmts (fnB (clR 22 11))) (fnS (clR 22 11)) 3 [] (Value.ref 239) Value.none Value.none (Value.str z60 365) Option.none (Value.ref 245) Value.none 0)) (List.toArray []))
noncomputable def o_260 (P : Params) : Obj := (Obj.mk (Value.type PySem.W.SL.s2766695959194262286x5) Option.none (Data.seq (List.toArray []) 0) (List.toArray []))
noncomputable def o_261 (P : Params) : Obj := (Obj.mk Value.none Option.none (Data.fields (List.toArray [])) (List.toArray []))
noncomputable def o_262 (P : Params) : Obj := (Obj.mk (Value.type PySem.W.SL.s2766695959194262286x5) Option.none (Data.seq (List.toArray [(Value.str z36 494)]) 0) (List.toArray []))
noncomputable def o_263 (P : Params) : Obj := (Obj.mk (Value.type PySem.W.SL.s2766695959194262286x5) Option.none (Data.seq (List.toArray []) 0) (List.toArray []))
noncomputable def o_264 (P : Params) : Obj := (Obj.mk Value.none Option.none (Data.func (FuncData.mk z26 z111 (fnA (clR 22 12)) (FuncBody.stmts (fnB (clR 22 12))) (fnS (clR 22 20)) 0 [] Value.none Value.none Value.none Value.none Option.none Value.none Value.none 0)) (List.toArray []))
noncomputable def o_265 (P : Params) : Obj := (Obj.mk (Value.type PySem.W.SL.s5856160107412720595x4) Option.none (Data.fields (List.toArray [(Value.str z26 491), (Value.str z111 492), (Value.str z1 493), (Value.int 149 0), (Value.int 1 0), (Value.int 0 0), (Value.int 0 0), (Value.int 3 0), (Value.ref 247), (Value.bool Bool.true), (Value.int 181 0), (Value.ref 248), Value.none, (Value.ref 249), (Value.ref 250), (Value.ref 251), (Value.int 495 0), (Value.int 149 0), (Value.str z1 496)])) (List.toArray []))
noncomputable def o_266 (P : Params) : Obj := (Obj.mk (Value.type PySem.W.SL.s7174869446012820540x8) Option.none (Data.func (FuncData.mk z26 z111 (fnA (clR 22 12)) (FuncBody.stmts (fnB (clR 22 12))) (fnS (clR 22 20)) 3 [] Value.none Value.none Value.none (Value.str z60 365) Option.none (Value.ref 252) Value.none 0)) (List.toArray []))
noncomputable def o_267 (P : Params) : Obj := (Obj.mk (Value.type PySem.W.SL.s2766695959194262286x5) Option.none (Data.seq (List.toArray []) 0) (List.toArray []))
noncomputable def o_268 (P : Params) : Obj := (Obj.mk Value.none Option.none (Data.fields (List.toArray [])) (List.toArray []))
noncomputable def o_269 (P : Params) : Obj := (Obj.mk (Value.type PySem.W.SL.s2766695959194262286x5) Option.none (Data.seq (List.toArray [(Value.str z36 501)]) 0) (List.toArray []))
noncomputable def o_270 (P : Params) : Obj := (Obj.mk (Value.type PySem.W.SL.s2766695959194262286x5) Option.none (Data.seq (List.toArray []) 0) (List.toArray []))
noncomputable def o_271 (P : Params) : Obj := (Obj.mk Value.none Option.none (Data.func (FuncData.mk z86 z112 (fnA (clR 22 13)) (FuncBody.stmts (fnB (clR 22 13))) (fnS (clR 24 1)) 0 [] Value.none Value.none Value.none Value.none Option.none Value.none Value.none 0)) (List.toArray []))
noncomputable def o_272 (P : Params) : Obj := (Obj.mk (Value.type PySem.W.SL.s5856160107412720595x4) Option.none (Data.fields (List.toArray [(Value.str z86 498), (Value.str z112 499), (Value.str z1 500), (Value.int 154 0), (Value.int 1 0), (Value.int 0 0), (Value.int 0 0), (Value.int 3 0), (Value.ref 254), (Value.bool Bool.true), (Value.int 181 0), (Value.ref 255), Value.none, (Value.ref 256), (Value.ref 257), (Value.ref 258), (Value.int 502 0), (Value.int 154 0), (Value.str z1 503)])) (List.toArray []))
noncomputable def o_273 (P : Params) : Obj := (Obj.mk (Value.type PySem.W.SL.s7174869446012820540x8) Option.none (Data.func (FuncData.mk z86 z112 (fnA (clR 22 13)) (FuncBody.stmts (fnB (clR 22 13))) (fnS (clR 24 1)) 3 [] Value.none Value.none Value.none (Value.str z60 365) Option.none (Value.ref 259) Value.none 0)) (List.toArray []))
noncomputable def o_274 (P : Params) : Obj := (Obj.mk (Value.type PySem.W.SL.s2766695959194262286x5) Option.none (Data.seq (List.toArray [(Value.int 0 505)]) 0) (List.toArray []))
noncomputable def o_275 (P : Params) : Obj := (Obj.mk (Value.type PySem.W.SL.s2766695959194262286x5) Option.none (Data.seq (List.toArray []) 0) (List.toArray []))
noncomputable def o_276 (P : Params) : Obj := (Obj.mk Value.none Option.none (Data.fields (List.toArray [])) (List.toArray []))
noncomputable def o_277 (P : Params) : Obj := (Obj.mk (Value.type PySem.W.SL.s2766695959194262286x5) Option.none (Data.seq (List.toArray [(Value.str z36 509), (Value.str z113 510), (Value.str z71 511)]) 0) (List.toArray []))
noncomputable def o_278 (P : Params) : Obj := (Obj.mk (Value.type PySem.W.SL.s2766695959194262286x5) Option.none (Data.seq (List.toArray []) 0) (List.toArray []))
noncomputable def o_279 (P : Params) : Obj := (Obj.mk Value.none Option.none (Data.func (FuncData.mk z87 z114 (fnA (clR 22 14)) (FuncBody.stmts (fnB (clR 22 14))) (fnS (clR 22 14)) 0 [] Value.none Value.none Value.none Value.none Option.none Value.none Value.none 0)) (List.toArray []))
noncomputable def o_280 (P : Params) : Obj := (Obj.mk (Value.type PySem.W.SL.s5856160107412720595x4) Option.none (Data.fields (List.toArray [(Value.str z87 506), (Value.str z114 507), (Value.str z1 508), (Value.int 157 0), (Value.int 3 0), (Value.int 0 0), (Value.int 0 0), (Value.int 3 0), (Value.ref 262), (Value.bool Bool.true), (Value.int 181 0), (Value.ref 263), Value.none, (Value.ref 264), (Value.ref 265), (Value.ref 266), (Value.int 512 0), (Value.int 157 0), (Value.str z1 513)])) (List.toArray []))
noncomputable def o_281 (P : Params) : Obj := (Obj.mk (Value.type PySem.W.SL.s7174869446012820540x8) Option.none (Data.func (FuncData.mk z87 z114 (fnA (clR 22 14)) (FuncBody.stmts (fnB (clR 22 14))) (fnS (clR 22 14)) 3 [] (Value.ref 261) Value.none Value.none (Value.str z60 365) Option.none (Value.ref 267) Value.none 0)) (List.toArray []))
noncomputable def o_282 (P : Params) : Obj := (Obj.mk (Value.type PySem.W.SL.s2766695959194262286x5) Option.none (Data.seq (List.toArray []) 0) (List.toArray []))
noncomputable def o_283 (P : Params) : Obj := (Obj.mk Value.none Option.none (Data.fields (List.toArray [])) (List.toArray []))
noncomputable def o_284 (P : Params) : Obj := (Obj.mk (Value.type PySem.W.SL.s2766695959194262286x5) Option.none (Data.seq (List.toArray [(Value.str z36 518), (Value.str z113 519)]) 0) (List.toArray []))
noncomputable def o_285 (P : Params) : Obj := (Obj.mk (Value.type PySem.W.SL.s2766695959194262286x5) Option.none (Data.seq (List.toArray []) 0) (List.toArray []))
noncomputable def o_286 (P : Params) : Obj := (Obj.mk Value.none Option.none (Data.func (FuncData.mk z88 z115 (fnA (clR 22 15)) (FuncBody.stmts (fnB (clR 22 15))) (fnS (clR 22 16)) 0 [] Value.none Value.none Value.none Value.none Option.none Value.none Value.none 0)) (List.toArray []))
noncomputable def o_287 (P : Params) : Obj := (Obj.mk (Value.type PySem.W.SL.s5856160107412720595x4) Option.none (Data.fields (List.toArray [(Value.str z88 515), (Value.str z115 516), (Value.str z1 517), (Value.int 160 0), (Value.int 2 0), (Value.int 0 0), (Value.int 0 0), (Value.int 3 0), (Value.ref 269), (Value.bool Bool.true), (Value.int 181 0), (Value.ref 270), Value.none, (Value.ref 271), (Value.ref 272), (Value.ref 273), (Value.int 520 0), (Value.int 160 0), (Value.str z1 521)])) (List.toArray []))
noncomputable def o_288 (P : Params) : Obj := (Obj.mk (Value.type PySem.W.SL.s7174869446012820540x8) Option.none (Data.func (FuncData.mk z88 z115 (fnA (clR 22 15)) (FuncBody.stmts (fnB (clR 22 15))) (fnS (clR 22 16)) 3 [] Value.none Value.none Value.none (Value.str z60 365) Option.none (Value.ref 274) Value.none 0)) (List.toArray []))
noncomputable def o_289 (P : Params) : Obj := (Obj.mk (Value.type PySem.W.SL.s2766695959194262286x5) Option.none (Data.seq (List.toArray []) 0) (List.toArray []))
noncomputable def o_290 (P : Params) : Obj := (Obj.mk Value.none Option.none (Data.fields (List.toArray [])) (List.toArray []))
noncomputable def o_291 (P : Params) : Obj := (Obj.mk (Value.type PySem.W.SL.s2766695959194262286x5) Option.none (Data.seq (List.toArray [(Value.str z36 526), (Value.str z113 527)]) 0) (List.toArray []))
noncomputable def o_292 (P : Params) : Obj := (Obj.mk (Value.type PySem.W.SL.s2766695959194262286x5) Option.none (Data.seq (List.toArray []) 0) (List.toArray []))
noncomputable def o_293 (P : Params) : Obj := (Obj.mk Value.none Option.none (Data.func (FuncData.mk z89 z116 (fnA (clR 22 16)) (FuncBody.stmts (fnB (clR 22 16))) (fnS (clR 22 16)) 0 [] Value.none Value.none Value.none Value.none Option.none Value.none Value.none 0)) (List.toArray []))
noncomputable def o_294 (P : Params) : Obj := (Obj.mk (Value.type PySem.W.SL.s5856160107412720595x4) Option.none (Data.fields (List.toArray [(Value.str z89 523), (Value.str z116 524), (Value.str z1 525), (Value.int 166 0), (Value.int 2 0), (Value.int 0 0), (Value.int 0 0), (Value.int 3 0), (Value.ref 276), (Value.bool Bool.true), (Value.int 181 0), (Value.ref 277), Value.none, (Value.ref 278), (Value.ref 279), (Value.ref 280), (Value.int 528 0), (Value.int 166 0), (Value.str z1 529)])) (List.toArray []))
noncomputable def o_295 (P : Params) : Obj := (Obj.mk (Value.type PySem.W.SL.s7174869446012820540x8) Option.none (Data.func (FuncData.mk z89 z116 (fnA (clR 22 16)) (FuncBody.stmts (fnB (clR 22 16))) (fnS (clR 22 16)) 3 [] Value.none Value.none Value.none (Value.str z60 365) Option.none (Value.ref 281) Value.none 0)) (List.toArray []))
noncomputable def o_296 (P : Params) : Obj := (Obj.mk (Value.type PySem.W.SL.s2766695959194262286x5) Option.none (Data.seq (List.toArray []) 0) (List.toArray []))
noncomputable def o_297 (P : Params) : Obj := (Obj.mk Value.none Option.none (Data.fields (List.toArray [])) (List.toArray []))
noncomputable def o_298 (P : Params) : Obj := (Obj.mk (Value.type PySem.W.SL.s2766695959194262286x5) Option.none (Data.seq (List.toArray [(Value.str z36 534)]) 0) (List.toArray []))
noncomputable def o_299 (P : Params) : Obj := (Obj.mk (Value.type PySem.W.SL.s2766695959194262286x5) Option.none (Data.seq (List.toArray []) 0) (List.toArray []))
noncomputable def o_300 (P : Params) : Obj := (Obj.mk Value.none Option.none (Data.func (FuncData.mk z90 z117 (fnA (clR 22 17)) (FuncBody.stmts (fnB (clR 22 17))) (fnS (clR 24 1)) 0 [] Value.none Value.none Value.none Value.none Option.none Value.none Value.none 0)) (List.toArray []))
noncomputable def o_301 (P : Params) : Obj := (Obj.mk (Value.type PySem.W.SL.s5856160107412720595x4) Option.none (Data.fields (List.toArray [(Value.str z90 531), (Value.str z117 532), (Value.str z1 533), (Value.int 170 0), (Value.int 1 0), (Value.int 0 0), (Value.int 0 0), (Value.int 3 0), (Value.ref 283), (Value.bool Bool.true), (Value.int 181 0), (Value.ref 284), Value.none, (Value.ref 285), (Value.ref 286), (Value.ref 287), (Value.int 535 0), (Value.int 170 0), (Value.str z1 536)])) (List.toArray []))
noncomputable def o_302 (P : Params) : Obj := (Obj.mk (Value.type PySem.W.SL.s7174869446012820540x8) Option.none (Data.func (FuncData.mk z90 z117 (fnA (clR 22 17)) (FuncBody.stmts (fnB (clR 22 17))) (fnS (clR 24 1)) 3 [] Value.none Value.none Value.none (Value.str z60 365) Option.none (Value.ref 288) Value.none 0)) (List.toArray []))
noncomputable def o_303 (P : Params) : Obj := (Obj.mk (Value.type PySem.W.SL.s2766695959194262286x5) Option.none (Data.seq (List.toArray []) 0) (List.toArray []))
noncomputable def o_304 (P : Params) : Obj := (Obj.mk Value.none Option.none (Data.fields (List.toArray [])) (List.toArray []))
noncomputable def o_305 (P : Params) : Obj := (Obj.mk (Value.type PySem.W.SL.s2766695959194262286x5) Option.none (Data.seq (List.toArray [(Value.str z36 541)]) 0) (List.toArray []))
noncomputable def o_306 (P : Params) : Obj := (Obj.mk (Value.type PySem.W.SL.s2766695959194262286x5) Option.none (Data.seq (List.toArray []) 0) (List.toArray []))
noncomputable def o_307 (P : Params) : Obj := (Obj.mk Value.none Option.none (Data.func (FuncData.mk z91 z118 (fnA (clR 22 18)) (FuncBody.stmts (fnB (clR 22 18))) (fnS (clR 24 1)) 0 [] Value.none Value.none Value.none Value.none Option.none Value.none Value.none 0)) (List.toArray []))
noncomputable def o_308 (P : Params) : Obj := (Obj.mk (Value.type PySem.W.SL.s5856160107412720595x4) Option.none (Data.fields (List.toArray [(Value.str z91 538), (Value.str z118 539), (Value.str z1 540), (Value.int 173 0), (Value.int 1 0), (Value.int 0 0), (Value.int 0 0), (Value.int 3 0), (Value.ref 290), (Value.bool Bool.true), (Value.int 181 0), (Value.ref 291), Value.none, (Value.ref 292), (Value.ref 293), (Value.ref 294), (Value.int 542 0), (Value.int 173 0), (Value.str z1 543)])) (List.toArray []))
noncomputable def o_309 (P : Params) : Obj := (Obj.mk (Value.type PySem.W.SL.s7174869446012820540x8) Option.none (Data.func (FuncData.mk z91 z118 (fnA (clR 22 18)) (FuncBody.stmts (fnB (clR 22 18))) (fnS (clR 24 1)) 3 [] Value.none Value.none Value.none (Value.str z60 365) Option.none (Value.ref 295) Value.none 0)) (List.toArray []))
noncomputable def o_310 (P : Params) : Obj := (Obj.mk (Value.type PySem.W.SL.s2766695959194262286x5) Option.none (Data.seq (List.toArray []) 0) (List.toArray []))
noncomputable def o_311 (P : Params) : Obj := (Obj.mk Value.none Option.none (Data.fields (List.toArray [])) (List.toArray []))
noncomputable def o_312 (P : Params) : Obj := (Obj.mk (Value.type PySem.W.SL.s2766695959194262286x5) Option.none (Data.seq (List.toArray [(Value.str z36 548), (Value.str z119 549)]) 0) (List.toArray []))
noncomputable def o_313 (P : Params) : Obj := (Obj.mk (Value.type PySem.W.SL.s2766695959194262286x5) Option.none (Data.seq (List.toArray []) 0) (List.toArray []))
noncomputable def o_314 (P : Params) : Obj := (Obj.mk Value.none Option.none (Data.func (FuncData.mk z92 z120 (fnA (clR 22 19)) (FuncBody.stmts (fnB (clR 22 19))) (fnS (clR 22 19)) 0 [] Value.none Value.none Value.none Value.none Option.none Value.none Value.none 0)) (List.toArray []))
noncomputable def o_315 (P : Params) : Obj := (Obj.mk (Value.type PySem.W.SL.s5856160107412720595x4) Option.none (Data.fields (List.toArray [(Value.str z92 545), (Value.str z120 546), (Value.str z1 547), (Value.int 176 0), (Value.int 1 0), (Value.int 0 0), (Value.int 0 0), (Value.int 3 0), (Value.ref 297), (Value.bool Bool.true), (Value.int 181 0), (Value.ref 298), Value.none, (Value.ref 299), (Value.ref 300), (Value.ref 301), (Value.int 550 0), (Value.int 176 0), (Value.str z1 551)])) (List.toArray []))
noncomputable def o_316 (P : Params) : Obj := (Obj.mk (Value.type PySem.W.SL.s7174869446012820540x8) Option.none (Data.func (FuncData.mk z92 z120 (fnA (clR 22 19)) (FuncBody.stmts (fnB (clR 22 19))) (fnS (clR 22 19)) 3 [] Value.none Value.none Value.none (Value.str z60 365) Option.none (Value.ref 302) Value.none 0)) (List.toArray []))
noncomputable def o_317 (P : Params) : Obj := (Obj.mk (Value.type PySem.W.SL.s2766695959194262286x5) Option.none (Data.seq (List.toArray []) 0) (List.toArray []))
noncomputable def o_318 (P : Params) : Obj := (Obj.mk Value.none Option.none (Data.fields (List.toArray [])) (List.toArray []))
noncomputable def o_319 (P : Params) : Obj := (Obj.mk (Value.type PySem.W.SL.s2766695959194262286x5) Option.none (Data.seq (List.toArray [(Value.str z36 556)]) 0) (List.toArray []))
noncomputable def o_320 (P : Params) : Obj := (Obj.mk (Value.type PySem.W.SL.s2766695959194262286x5) Option.none (Data.seq (List.toArray []) 0) (List.toArray []))
noncomputable def o_321 (P : Params) : Obj := (Obj.mk Value.none Option.none (Data.func (FuncData.mk z93 z121 (fnA (clR 22 20)) (FuncBody.stmts (fnB (clR 22 20))) (fnS (clR 22 20)) 0 [] Value.none Value.none Value.none Value.none Option.none Value.none Value.none 0)) (List.toArray []))
noncomputable def o_322 (P : Params) : Obj := (Obj.mk (Value.type PySem.W.SL.s5856160107412720595x4) Option.none (Data.fields (List.toArray [(Value.str z93 553), (Value.str z121 554), (Value.str z1 555), (Value.int 185 0), (Value.int 1 0), (Value.int 0 0), (Value.int 0 0), (Value.int 3 0), (Value.ref 304), (Value.bool Bool.true), (Value.int 181 0), (Value.ref 305), Value.none, (Value.ref 306), (Value.ref 307), (Value.ref 308), (Value.int 557 0), (Value.int 185 0), (Value.str z1 558)])) (List.toArray []))
noncomputable def o_323 (P : Params) : Obj := (Obj.mk (Value.type PySem.W.SL.s7174869446012820540x8) Option.none (Data.func (FuncData.mk z93 z121 (fnA (clR 22 20)) (FuncBody.stmts (fnB (clR 22 20))) (fnS (clR 22 20)) 3 [] Value.none Value.none Value.none (Value.str z60 365) Option.none (Value.ref 309) Value.none 0)) (List.toArray []))
noncomputable def o_324 (P : Params) : Obj := (Obj.mk (Value.type PySem.W.SL.s2766695959194262286x5) Option.none (Data.seq (List.toArray []) 0) (List.toArray []))
noncomputable def o_325 (P : Params) : Obj := (Obj.mk Value.none Option.none (Data.fields (List.toArray [])) (List.toArray []))
noncomputable def o_326 (P : Params) : Obj := (Obj.mk (Value.type PySem.W.SL.s2766695959194262286x5) Option.none (Data.seq (List.toArray [(Value.str z36 563)]) 0) (List.toArray []))
noncomputable def o_327 (P : Params) : Obj := (Obj.mk (Value.type PySem.W.SL.s2766695959194262286x5) Option.none (Data.seq (List.toArray []) 0) (List.toArray []))
noncomputable def o_328 (P : Params) : Obj := (Obj.mk Value.none Option.none (Data.func (FuncData.mk z94 z122 (fnA (clR 22 21)) (FuncBody.stmts (fnB (clR 22 21))) (fnS (clR 24 1)) 0 [] Value.none Value.none Value.none Value.none Option.none Value.none Value.none 0)) (List.toArray []))
noncomputable def o_329 (P : Params) : Obj := (Obj.mk (Value.type PySem.W.SL.s5856160107412720595x4) Option.none (Data.fields (List.toArray [(Value.str z94 560), (Value.str z122 561), (Value.str z1 562), (Value.int 190 0), (Value.int 1 0), (Value.int 0 0), (Value.int 0 0), (Value.int 3 0), (Value.ref 311), (Value.bool Bool.true), (Value.int 181 0), (Value.ref 312), Value.none, (Value.ref 313), (Value.ref 314), (Value.ref 315), (Value.int 564 0), (Value.int 190 0), (Value.str z1 565)])) (List.toArray []))
noncomputable def o_330 (P : Params) : Obj := (Obj.mk (Value.type PySem.W.SL.s7174869446012820540x8) Option.none (Data.func (FuncData.mk z94 z122 (fnA (clR 22 21)) (FuncBody.stmts (fnB (clR 22 21))) (fnS (clR 24 1)) 3 [] Value.none Value.none Value.none (Value.str z60 365) Option.none (Value.ref 316) Value.none 0)) (List.toArray []))
noncomputable def o_331 (P : Params) : Obj := (Obj.mk (Value.type PySem.W.SL.s2766695959194262286x5) Option.none (Data.seq (List.toArray [(Value.str z38 567), (Value.str z123 568), (Value.str z95 569)]) 0) (List.toArray []))
noncomputable def o_332 (P : Params) : Obj := (Obj.mk (Value.type PySem.W.SL.s14018661285674007319x4) Option.none (Data.dict (List.toArray [(DictEntry.mk (PyData.keyHash P z30) (Value.str z30 383) (Value.str z60 365)), (DictEntry.mk (PyData.keyHash P z32) (Value.str z32 387) (Value.int 89 386)), (DictEntry.mk (PyData.keyHash P z33) (Value.str z33 397) (Value.ref 166)), (DictEntry.mk (PyData.keyHash P z76) (Value.str z76 406) (Value.ref 174)), (DictEntry.mk (PyData.keyHash P z77) (Value.str z77 413) (Value.ref 181)), (DictEntry.mk (PyData.keyHash P z78) (Value.str z78 421) (Value.ref 188)), (DictEntry.mk (PyData.keyHash P z79) (Value.str z79 429) (Value.ref 195)), (DictEntry.mk (PyData.keyHash P z80) (Value.str z80 440) (Value.ref 203)), (DictEntry.mk (PyData.keyHash P z81) (Value.str z81 450) (Value.ref 210)), (DictEntry.mk (PyData.keyHash P z82) (Value.str z82 458) (Value.ref 217)), (DictEntry.mk (PyData.keyHash P z83) (Value.str z83 466) (Value.ref 224)), (DictEntry.mk (PyData.keyHash P z84) (Value.str z84 474) (Value.ref 231)), (DictEntry.mk (PyData.keyHash P z74) (Value.str z74 481) (Value.ref 238)), (DictEntry.mk (PyData.keyHash P z85) (Value.str z85 490) (Value.ref 246)), (DictEntry.mk (PyData.keyHash P z26) (Value.str z26 497) (Value.ref 253)), (DictEntry.mk (PyData.keyHash P z86) (Value.str z86 504) (Value.ref 260)), (DictEntry.mk (PyData.keyHash P z87) (Value.str z87 514) (Value.ref 268)), (DictEntry.mk (PyData.keyHash P z88) (Value.str z88 522) (Value.ref 275)), (DictEntry.mk (PyData.keyHash P z89) (Value.str z89 530) (Value.ref 282)), (DictEntry.mk (PyData.keyHash P z90) (Value.str z90 537) (Value.ref 289)), (DictEntry.mk (PyData.keyHash P z91) (Value.str z91 544) (Value.ref 296)), (DictEntry.mk (PyData.keyHash P z92) (Value.str z92 552) (Value.ref 303)), (DictEntry.mk (PyData.keyHash P z93) (Value.str z93 559) (Value.ref 310)), (DictEntry.mk (PyData.keyHash P z94) (Value.str z94 566) (Value.ref 317)), (DictEntry.mk (PyData.keyHash P z35) (Value.str z35 570) (Value.ref 318)), (DictEntry.mk (PyData.keyHash P z124) (Value.str z124 572) (Value.ref 321)), (DictEntry.mk (PyData.keyHash P z41) (Value.str z41 574) (Value.ref 322)), (DictEntry.mk (PyData.keyHash P z5) (Value.str z5 575) Value.none)]) 4) (List.toArray []))
noncomputable def o_333 (P : Params) : Obj := (Obj.mk (Value.type PySem.W.SL.s17162191345867700912x4) Option.none (Data.cls (ClassData.mk z75 [(Value.type PySem.W.SL.s2742458400755230247x6)] [(Value.ref 320), (Value.type PySem.W.SL.s2742458400755230247x6)] 319 z75 Bool.true [] [] Bool.false Option.none Bool.false)) (List.toArray [Option.none, Option.none, (Option.some (Value.str z75 376)), (Option.some (Value.str z75 384)), (Option.some (Value.builtin PySem.W.SL.s11443829558043349243x14)), (Option.some (Value.bool Bool.true))]))
noncomputable def o_334 (P : Params) : Obj := (Obj.mk (Value.type PySem.W.SL.s14755015743595814543x17) Option.none (Data.fields (List.toArray [(Value.str z124 571), (Value.ref 320), (Value.builtin PySem.W.SL.s6511155373996960695x17), (Value.builtin PySem.W.SL.s12411053484034534018x21)])) (List.toArray []))
noncomputable def o_335 (P : Params) : Obj := (Obj.mk (Value.type PySem.W.SL.s14755015743595814543x17) Option.none (Data.fields (List.toArray [(Value.str z41 573), (Value.ref 320), (Value.builtin PySem.W.SL.s10220274742760427390x26), Value.none])) (List.toArray []))
noncomputable def o_336 (P : Params) : Obj := (Obj.mk (Value.type PySem.W.SL.s4290257624100764138x5) Option.none (Data.fields (List.toArray [(Value.ref 320), (Value.ref 320), (Value.ref 320)])) (List.toArray []))
noncomputable def o_337 (P : Params) : Obj := (Obj.mk (Value.type PySem.W.SL.s11030030927630378310x26) Option.none (Data.fields (List.toArray [(Value.builtin PySem.W.SL.s4860613602091757760x24), (Value.ref 320)])) (List.toArray []))
noncomputable def tree_337 (P : Params) : PySem.W.BT := (PySem.W.BT.node (PySem.W.boot_o_0 P) (PySem.W.BT.node (PySem.W.boot_o_1 P) (PySem.W.BT.node (o_163 P) (PySem.W.BT.node (PySem.W.boot_o_7 P) (PySem.W.BT.node (o_15 P) (PySem.W.BT.node (o_31 P) (PySem.W.BT.node (o_66 P) (PySem.W.BT.node (o_136 P) (PySem.W.BT.node (o_268 P) PySem.W.BT.nil PySem.W.BT.nil) PySem.W.BT.nil) (PySem.W.BT.node (o_204 P) (PySem.W.BT.node (o_332 P) PySem.W.BT.nil PySem.W.BT.nil) PySem.W.BT.nil)) (PySem.W.BT.node (o_104 P) (PySem.W.BT.node (o_172 P) (PySem.W.BT.node (o_300 P) PySem.W.BT.nil PySem.W.BT.nil) PySem.W.BT.nil) (PySem.W.BT.node (o_236 P) PySem.W.BT.nil PySem.W.BT.nil))) (PySem.W.BT.node (o_50 P) (PySem.W.BT.node (o_85 P) (PySem.W.BT.node (o_154 P) (PySem.W.BT.node (o_284 P) PySem.W.BT.nil PySem.W.BT.nil) PySem.W.BT.nil) (PySem.W.BT.node (o_220 P) PySem.W.BT.nil PySem.W.BT.nil)) (PySem.W.BT.node (o_120 P) (PySem.W.BT.node (o_188 P) (PySem.W.BT.node (o_316 P) PySem.W.BT.nil PySem.W.BT.nil) PySem.W.BT.nil) (PySem.W.BT.node (o_252 P) PySem.W.BT.nil PySem.W.BT.nil)))) (PySem.W.BT.node (o_23 P) (PySem.W.BT.node (o_39 P) (PySem.W.BT.node (o_77 P) (PySem.W.BT.node (o_146 P) (PySem.W.BT.node (o_276 P) PySem.W.BT.nil PySem.W.BT.nil) PySem.W.BT.nil) (PySem.W.BT.node (o_212 P) PySem.W.BT.nil PySem.W.BT.nil)) (PySem.W.BT.node (o_112 P) (PySem.W.BT.node (o_180 P) (PySem.W.BT.node (o_308 P) PySem.W.BT.nil PySem.W.BT.nil) PySem.W.BT.nil) (PySem.W.BT.node (o_244 P) PySem.W.BT.nil PySem.W.BT.nil))) (PySem.W.BT.node (o_58 P) (PySem.W.BT.node (o_96 P) (PySem.W.BT.node (o_162 P) (PySem.W.BT.node (o_292 P) PySem.W.BT.nil PySem.W.BT.nil) PySem.W.BT.nil) (PySem.W.BT.node (o_228 P) PySem.W.BT.nil PySem.W.BT.nil)) (PySem.W.BT.node (o_128 P) (PySem.W.BT.node (o_196 P) (PySem.W.BT.node (o_324 P) PySem.W.BT.nil PySem.W.BT.nil) PySem.W.BT.nil) (PySem.W.BT.node (o_260 P) PySem.W.BT.nil PySem.W.BT.nil))))) (PySem.W.BT.node (o_7 P) (PySem.W.BT.node (o_19 P) (PySem.W.BT.node (o_35 P) (PySem.W.BT.node (o_91 P) (PySem.W.BT.node (o_142 P) (PySem.W.BT.node (o_272 P) PySem.W.BT.nil PySem.W.BT.nil) PySem.W.BT.nil) (PySem.W.BT.node (o_208 P) (PySem.W.BT.node (o_336 P) PySem.W.BT.nil PySem.W.BT.nil) PySem.W.BT.nil)) (PySem.W.BT.node (o_108 P) (PySem.W.BT.node (o_176 P) (PySem.W.BT.node (o_304 P) PySem.W.BT.nil PySem.W.BT.nil) PySem.W.BT.nil) (PySem.W.BT.node (o_240 P) PySem.W.BT.nil PySem.W.BT.nil))) (PySem.W.BT.node (o_54 P) (PySem.W.BT.node (o_92 P) (PySem.W.BT.node (o_158 P) (PySem.W.BT.node (o_288 P) PySem.W.BT.nil PySem.W.BT.nil) PySem.W.BT.nil) (PySem.W.BT.node (o_224 P) PySem.W.BT.nil PySem.W.BT.nil)) (PySem.W.BT.node (o_124 P) (PySem.W.BT.node (o_192 P) (PySem.W.BT.node (o_320 P) PySem.W.BT.nil PySem.W.BT.nil) PySem.W.BT.nil) (PySem.W.BT.node (o_256 P) PySem.W.BT.nil PySem.W.BT.nil)))) (PySem.W.BT.node (o_27 P) (PySem.W.BT.node (o_46 P) (PySem.W.BT.node (o_81 P) (PySem.W.BT.node (o_150 P) (PySem.W.BT.node (o_280 P) PySem.W.BT.nil PySem.W.BT.nil) PySem.W.BT.nil) (PySem.W.BT.node (o_216 P) PySem.W.BT.nil PySem.W.BT.nil)) (PySem.W.BT.node (o_116 P) (PySem.W.BT.node (o_184 P) (PySem.W.BT.node (o_312 P) PySem.W.BT.nil PySem.W.BT.nil) PySem.W.BT.nil) (PySem.W.BT.node (o_248 P) PySem.W.BT.nil PySem.W.BT.nil))) (PySem.W.BT.node (o_62 P) (PySem.W.BT.node (o_100 P) (PySem.W.BT.node (o_168 P) (PySem.W.BT.node (o_296 P) PySem.W.BT.nil PySem.W.BT.nil) PySem.W.BT.nil) (PySem.W.BT.node (o_232 P) PySem.W.BT.nil PySem.W.BT.nil)) (PySem.W.BT.node (o_132 P) (PySem.W.BT.node (o_200 P) (PySem.W.BT.node (o_328 P) PySem.W.BT.nil PySem.W.BT.nil) PySem.W.BT.nil) (PySem.W.BT.node (o_264 P) PySem.W.BT.nil PySem.W.BT.nil)))))) (PySem.W.BT.node (PySem.W.boot_o_5 P) (PySem.W.BT.node (PySem.W.boot_o_9 P) (PySem.W.BT.node (o_17 P) (PySem.W.BT.node (o_33 P) (PySem.W.BT.node (o_68 P) (PySem.W.BT.node (o_138 P) (PySem.W.BT.node (o_270 P) PySem.W.BT.nil PySem.W.BT.nil) PySem.W.BT.nil) (PySem.W.BT.node (o_206 P) (PySem.W.BT.node (o_334 P) PySem.W.BT.nil PySem.W.BT.nil) PySem.W.BT.nil)) (PySem.W.BT.node (o_106 P) (PySem.W.BT.node (o_174 P) (PySem.W.BT.node (o_302 P) PySem.W.BT.nil PySem.W.BT.nil) PySem.W.BT.nil) (PySem.W.BT.node (o_238 P) PySem.W.BT.nil PySem.W.BT.nil))) (PySem.W.BT.node (o_52 P) (PySem.W.BT.node (o_87 P) (PySem.W.BT.node (o_156 P) (PySem.W.BT.node (o_286 P) PySem.W.BT.nil PySem.W.BT.nil) PySem.W.BT.nil) (PySem.W.BT.node (o_222 P) PySem.W.BT.nil PySem.W.BT.nil)) (PySem.W.BT.node (o_122 P) (PySem.W.BT.node (o_190 P) (PySem.W.BT.node (o_318 P) PySem.W.BT.nil PySem.W.BT.nil) PySem.W.BT.nil) (PySem.W.BT.node (o_254 P) PySem.W.BT.nil PySem.W.BT.nil)))) (PySem.W.BT.node (o_25 P) (PySem.W.BT.node (o_41 P) (PySem.W.BT.node (o_79 P) (PySem.W.BT.node (o_148 P) (PySem.W.BT.node (o_278 P) PySem.W.BT.nil PySem.W.BT.nil) PySem.W.BT.nil) (PySem.W.BT.node (o_214 P) PySem.W.BT.nil PySem.W.BT.nil)) (PySem.W.BT.node (o_114 P) (PySem.W.BT.node (o_182 P) (PySem.W.BT.node (o_310 P) PySem.W.BT.nil PySem.W.BT.nil) PySem.W.BT.nil) (PySem.W.BT.node (o_246 P) PySem.W.BT.nil PySem.W.BT.nil))) (PySem.W.BT.node (o_60 P) (PySem.W.BT.node (o_98 P) (PySem.W.BT.node (o_166 P) (PySem.W.BT.node (o_294 P) PySem.W.BT.nil PySem.W.BT.nil) PySem.W.BT.nil) (PySem.W.BT.node (o_230 P) PySem.W.BT.nil PySem.W.BT.nil)) (PySem.W.BT.node (o_130 P) (PySem.W.BT.node (o_198 P) (PySem.W.BT.node (o_326 P) PySem.W.BT.nil PySem.W.BT.nil) PySem.W.BT.nil) (PySem.W.BT.node (o_262 P) PySem.W.BT.nil PySem.W.BT.nil))))) (PySem.W.BT.node (o_9 P) (PySem.W.BT.node (o_21 P) (PySem.W.BT.node (o_37 P) (PySem.W.BT.node (o_72 P) (PySem.W.BT.node (o_144 P) (PySem.W.BT.node (o_274 P) PySem.W.BT.nil PySem.W.BT.nil) PySem.W.BT.nil) (PySem.W.BT.node (o_210 P) PySem.W.BT.nil PySem.W.BT.nil)) (PySem.W.BT.node (o_110 P) (PySem.W.BT.node (o_178 P) (PySem.W.BT.node (o_306 P) PySem.W.BT.nil PySem.W.BT.nil) PySem.W.BT.nil) (PySem.W.BT.node (o_242 P) PySem.W.BT.nil PySem.W.BT.nil))) (PySem.W.BT.node (o_56 P) (PySem.W.BT.node (o_94 P) (PySem.W.BT.node (o_160 P) (PySem.W.BT.node (o_290 P) PySem.W.BT.nil PySem.W.BT.nil) PySem.W.BT.nil) (PySem.W.BT.node (o_226 P) PySem.W.BT.nil PySem.W.BT.nil)) (PySem.W.BT.node (o_126 P) (PySem.W.BT.node (o_194 P) (PySem.W.BT.node (o_322 P) PySem.W.BT.nil PySem.W.BT.nil) PySem.W.BT.nil) (PySem.W.BT.node (o_258 P) PySem.W.BT.nil PySem.W.BT.nil)))) (PySem.W.BT.node (o_29 P) (PySem.W.BT.node (o_48 P) (PySem.W.BT.node (o_83 P) (PySem.W.BT.node (o_152 P) (PySem.W.BT.node (o_282 P) PySem.W.BT.nil PySem.W.BT.nil) PySem.W.BT.nil) (PySem.W.BT.node (o_218 P) PySem.W.BT.nil PySem.W.BT.nil)) (PySem.W.BT.node (o_118 P) (PySem.W.BT.node (o_186 P) (PySem.W.BT.node (o_314 P) PySem.W.BT.nil PySem.W.BT.nil) PySem.W.BT.nil) (PySem.W.BT.node (o_250 P) PySem.W.BT.nil PySem.W.BT.nil))) (PySem.W.BT.node (o_64 P) (PySem.W.BT.node (o_102 P) (PySem.W.BT.node (o_170 P) (PySem.W.BT.node (o_298 P) PySem.W.BT.nil PySem.W.BT.nil) PySem.W.BT.nil) (PySem.W.BT.node (o_234 P) PySem.W.BT.nil PySem.W.BT.nil)) (PySem.W.BT.node (o_134 P) (PySem.W.BT.node (o_202 P) (PySem.W.BT.node (o_330 P) PySem.W.BT.nil PySem.W.BT.nil) PySem.W.BT.nil) (PySem.W.BT.node (o_266 P) PySem.W.BT.nil PySem.W.BT.nil))))))) (PySem.W.BT.node (o_42 P) (PySem.W.BT.node (PySem.W.boot_o_4 P) (PySem.W.BT.node (PySem.W.boot_o_8 P) (PySem.W.BT.node (o_16 P) (PySem.W.BT.node (o_32 P) (PySem.W.BT.node (o_67 P) (PySem.W.BT.node (o_137 P) (PySem.W.BT.node (o_269 P) PySem.W.BT.nil PySem.W.BT.nil) PySem.W.BT.nil) (PySem.W.BT.node (o_205 P) (PySem.W.BT.node (o_333 P) PySem.W.BT.nil PySem.W.BT.nil) PySem.W.BT.nil)) (PySem.W.BT.node (o_105 P) (PySem.W.BT.node (o_173 P) (PySem.W.BT.node (o_301 P) PySem.W.BT.nil PySem.W.BT.nil) PySem.W.BT.nil) (PySem.W.BT.node (o_237 P) PySem.W.BT.nil PySem.W.BT.nil))) (PySem.W.BT.node (o_51 P) (PySem.W.BT.node (o_86 P) (PySem.W.BT.node (o_155 P) (PySem.W.BT.node (o_285 P) PySem.W.BT.nil PySem.W.BT.nil) PySem.W.BT.nil) (PySem.W.BT.node (o_221 P) PySem.W.BT.nil PySem.W.BT.nil)) (PySem.W.BT.node (o_121 P) (PySem.W.BT.node (o_189 P) (PySem.W.BT.node (o_317 P) PySem.W.BT.nil PySem.W.BT.nil) PySem.W.BT.nil) (PySem.W.BT.node (o_253 P) PySem.W.BT.nil PySem.W.BT.nil)))) (PySem.W.BT.node (o_24 P) (PySem.W.BT.node (o_40 P) (PySem.W.BT.node (o_78 P) (PySem.W.BT.node (o_147 P) (PySem.W.BT.node (o_277 P) PySem.W.BT.nil PySem.W.BT.nil) PySem.W.BT.nil) (PySem.W.BT.node (o_213 P) PySem.W.BT.nil PySem.W.BT.nil)) (PySem.W.BT.node (o_113 P) (PySem.W.BT.node (o_181 P) (PySem.W.BT.node (o_309 P) PySem.W.BT.nil PySem.W.BT.nil) PySem.W.BT.nil) (PySem.W.BT.node (o_245 P) PySem.W.BT.nil PySem.W.BT.nil))) (PySem.W.BT.node (o_59 P) (PySem.W.BT.node (o_97 P) (PySem.W.BT.node (o_165 P) (PySem.W.BT.node (o_293 P) PySem.W.BT.nil PySem.W.BT.nil) PySem.W.BT.nil) (PySem.W.BT.node (o_229 P) PySem.W.BT.nil PySem.W.BT.nil)) (PySem.W.BT.node (o_129 P) (PySem.W.BT.node (o_197 P) (PySem.W.BT.node (o_325 P) PySem.W.BT.nil PySem.W.BT.nil) PySem.W.BT.nil) (PySem.W.BT.node (o_261 P) PySem.W.BT.nil PySem.W.BT.nil))))) (PySem.W.BT.node (o_164 P) (PySem.W.BT.node (o_20 P) (PySem.W.BT.node (o_36 P) (PySem.W.BT.node (o_71 P) (PySem.W.BT.node (o_143 P) (PySem.W.BT.node (o_273 P) PySem.W.BT.nil PySem.W.BT.nil) PySem.W.BT.nil) (PySem.W.BT.node (o_209 P) (PySem.W.BT.node (o_337 P) PySem.W.BT.nil PySem.W.BT.nil) PySem.W.BT.nil)) (PySem.W.BT.node (o_109 P) (PySem.W.BT.node (o_177 P) (PySem.W.BT.node (o_305 P) PySem.W.BT.nil PySem.W.BT.nil) PySem.W.BT.nil) (PySem.W.BT.node (o_241 P) PySem.W.BT.nil PySem.W.BT.nil))) (PySem.W.BT.node (o_55 P) (PySem.W.BT.node (o_93 P) (PySem.W.BT.node (o_159 P) (PySem.W.BT.node (o_289 P) PySem.W.BT.nil PySem.W.BT.nil) PySem.W.BT.nil) (PySem.W.BT.node (o_225 P) PySem.W.BT.nil PySem.W.BT.nil)) (PySem.W.BT.node (o_125 P) (PySem.W.BT.node (o_193 P) (PySem.W.BT.node (o_321 P) PySem.W.BT.nil PySem.W.BT.nil) PySem.W.BT.nil) (PySem.W.BT.node (o_257 P) PySem.W.BT.nil PySem.W.BT.nil)))) (PySem.W.BT.node (o_28 P) (PySem.W.BT.node (o_47 P) (PySem.W.BT.node (o_82 P) (PySem.W.BT.node (o_151 P) (PySem.W.BT.node (o_281 P) PySem.W.BT.nil PySem.W.BT.nil) PySem.W.BT.nil) (PySem.W.BT.node (o_217 P) PySem.W.BT.nil PySem.W.BT.nil)) (PySem.W.BT.node (o_117 P) (PySem.W.BT.node (o_185 P) (PySem.W.BT.node (o_313 P) PySem.W.BT.nil PySem.W.BT.nil) PySem.W.BT.nil) (PySem.W.BT.node (o_249 P) PySem.W.BT.nil PySem.W.BT.nil))) (PySem.W.BT.node (o_63 P) (PySem.W.BT.node (o_101 P) (PySem.W.BT.node (o_169 P) (PySem.W.BT.node (o_297 P) PySem.W.BT.nil PySem.W.BT.nil) PySem.W.BT.nil) (PySem.W.BT.node (o_233 P) PySem.W.BT.nil PySem.W.BT.nil)) (PySem.W.BT.node (o_133 P) (PySem.W.BT.node (o_201 P) (PySem.W.BT.node (o_329 P) PySem.W.BT.nil PySem.W.BT.nil) PySem.W.BT.nil) (PySem.W.BT.node (o_265 P) PySem.W.BT.nil PySem.W.BT.nil)))))) (PySem.W.BT.node (PySem.W.boot_o_6 P) (PySem.W.BT.node (PySem.W.boot_o_10 P) (PySem.W.BT.node (o_18 P) (PySem.W.BT.node (o_34 P) (PySem.W.BT.node (o_69 P) (PySem.W.BT.node (o_139 P) (PySem.W.BT.node (o_271 P) PySem.W.BT.nil PySem.W.BT.nil) PySem.W.BT.nil) (PySem.W.BT.node (o_207 P) (PySem.W.BT.node (o_335 P) PySem.W.BT.nil PySem.W.BT.nil) PySem.W.BT.nil)) (PySem.W.BT.node (o_107 P) (PySem.W.BT.node (o_175 P) (PySem.W.BT.node (o_303 P) PySem.W.BT.nil PySem.W.BT.nil) PySem.W.BT.nil) (PySem.W.BT.node (o_239 P) PySem.W.BT.nil PySem.W.BT.nil))) (PySem.W.BT.node (o_53 P) (PySem.W.BT.node (o_88 P) (PySem.W.BT.node (o_157 P) (PySem.W.BT.node (o_287 P) PySem.W.BT.nil PySem.W.BT.nil) PySem.W.BT.nil) (PySem.W.BT.node (o_223 P) PySem.W.BT.nil PySem.W.BT.nil)) (PySem.W.BT.node (o_123 P) (PySem.W.BT.node (o_191 P) (PySem.W.BT.node (o_319 P) PySem.W.BT.nil PySem.W.BT.nil) PySem.W.BT.nil) (PySem.W.BT.node (o_255 P) PySem.W.BT.nil PySem.W.BT.nil)))) (PySem.W.BT.node (o_26 P) (PySem.W.BT.node (o_45 P) (PySem.W.BT.node (o_80 P) (PySem.W.BT.node (o_149 P) (PySem.W.BT.node (o_279 P) PySem.W.BT.nil PySem.W.BT.nil) PySem.W.BT.nil) (PySem.W.BT.node (o_215 P) PySem.W.BT.nil PySem.W.BT.nil)) (PySem.W.BT.node (o_115 P) (PySem.W.BT.node (o_183 P) (PySem.W.BT.node (o_311 P) PySem.W.BT.nil PySem.W.BT.nil) PySem.W.BT.nil) (PySem.W.BT.node (o_247 P) PySem.W.BT.nil PySem.W.BT.nil))) (PySem.W.BT.node (o_61 P) (PySem.W.BT.node (o_99 P) (PySem.W.BT.node (o_167 P) (PySem.W.BT.node (o_295 P) PySem.W.BT.nil PySem.W.BT.nil) PySem.W.BT.nil) (PySem.W.BT.node (o_231 P) PySem.W.BT.nil PySem.W.BT.nil)) (PySem.W.BT.node (o_131 P) (PySem.W.BT.node (o_199 P) (PySem.W.BT.node (o_327 P) PySem.W.BT.nil PySem.W.BT.nil) PySem.W.BT.nil) (PySem.W.BT.node (o_263 P) PySem.W.BT.nil PySem.W.BT.nil))))) (PySem.W.BT.node (o_10 P) (PySem.W.BT.node (o_22 P) (PySem.W.BT.node (o_38 P) (PySem.W.BT.node (o_73 P) (PySem.W.BT.node (o_145 P) (PySem.W.BT.node (o_275 P) PySem.W.BT.nil PySem.W.BT.nil) PySem.W.BT.nil) (PySem.W.BT.node (o_211 P) PySem.W.BT.nil PySem.W.BT.nil)) (PySem.W.BT.node (o_111 P) (PySem.W.BT.node (o_179 P) (PySem.W.BT.node (o_307 P) PySem.W.BT.nil PySem.W.BT.nil) PySem.W.BT.nil) (PySem.W.BT.node (o_243 P) PySem.W.BT.nil PySem.W.BT.nil))) (PySem.W.BT.node (o_57 P) (PySem.W.BT.node (o_95 P) (PySem.W.BT.node (o_161 P) (PySem.W.BT.node (o_291 P) PySem.W.BT.nil PySem.W.BT.nil) PySem.W.BT.nil) (PySem.W.BT.node (o_227 P) PySem.W.BT.nil PySem.W.BT.nil)) (PySem.W.BT.node (o_127 P) (PySem.W.BT.node (o_195 P) (PySem.W.BT.node (o_323 P) PySem.W.BT.nil PySem.W.BT.nil) PySem.W.BT.nil) (PySem.W.BT.node (o_259 P) PySem.W.BT.nil PySem.W.BT.nil)))) (PySem.W.BT.node (o_30 P) (PySem.W.BT.node (o_49 P) (PySem.W.BT.node (o_84 P) (PySem.W.BT.node (o_153 P) (PySem.W.BT.node (o_283 P) PySem.W.BT.nil PySem.W.BT.nil) PySem.W.BT.nil) (PySem.W.BT.node (o_219 P) PySem.W.BT.nil PySem.W.BT.nil)) (PySem.W.BT.node (o_119 P) (PySem.W.BT.node (o_187 P) (PySem.W.BT.node (o_315 P) PySem.W.BT.nil PySem.W.BT.nil) PySem.W.BT.nil) (PySem.W.BT.node (o_251 P) PySem.W.BT.nil PySem.W.BT.nil))) (PySem.W.BT.node (o_65 P) (PySem.W.BT.node (o_103 P) (PySem.W.BT.node (o_171 P) (PySem.W.BT.node (o_299 P) PySem.W.BT.nil PySem.W.BT.nil) PySem.W.BT.nil) (PySem.W.BT.node (o_235 P) PySem.W.BT.nil PySem.W.BT.nil)) (PySem.W.BT.node (o_135 P) (PySem.W.BT.node (o_203 P) (PySem.W.BT.node (o_331 P) PySem.W.BT.nil PySem.W.BT.nil) PySem.W.BT.nil) (PySem.W.BT.node (o_267 P) PySem.W.BT.nil PySem.W.BT.nil))))))))
noncomputable def o_338 (P : Params) : Obj := (Obj.mk Value.none Option.none (Data.fields (List.toArray [(Value.int 1 0), (Value.int 0 0), (Value.ref 20), (Value.int 6 0), (Value.int 0 0), (Value.ref 28), (Value.int 10 0), (Value.int 0 0), (Value.ref 33), (Value.int 12 0), (Value.int 0 0), (Value.ref 40), (Value.int 27 0), (Value.int 0 0), (Value.ref 47), (Value.int 36 0), (Value.int 0 0), (Value.ref 76), (Value.int 38 0), (Value.int 0 0), (Value.ref 88), (Value.int 42 0), (Value.int 0 0), (Value.ref 100), (Value.int 46 0), (Value.int 0 0), (Value.ref 108), (Value.int 53 0), (Value.int 0 0), (Value.ref 115), (Value.int 61 0), (Value.int 0 0), (Value.ref 122), (Value.int 63 0), (Value.int 0 0), (Value.ref 129), (Value.int 65 0), (Value.int 0 0), (Value.ref 136), (Value.int 70 0), (Value.int 0 0), (Value.ref 143), (Value.int 87 0), (Value.int 0 0), (Value.ref 150), (Value.int 89 0), (Value.int 0 0), (Value.ref 157)])) (List.toArray []))
noncomputable def o_339 (P : Params) : Obj := (Obj.mk (Value.type PySem.W.SL.s2766695959194262286x5) Option.none (Data.seq (List.toArray []) 0) (List.toArray []))
noncomputable def o_340 (P : Params) : Obj := (Obj.mk (Value.type PySem.W.SL.s11030030927630378310x26) Option.none (Data.fields (List.toArray [(Value.builtin PySem.W.SL.s10062305145149207511x16), (Value.type PySem.W.SL.s17162191345867700912x4)])) (List.toArray []))
noncomputable def o_341 (P : Params) : Obj := (Obj.mk (Value.type PySem.W.SL.s14018661285674007319x4) Option.none (Data.dict (List.toArray [(DictEntry.mk (PyData.keyHash P z30) (Value.str z30 383) (Value.str z60 365)), (DictEntry.mk (PyData.keyHash P z31) (Value.str z31 385) (Value.str z75 384)), (DictEntry.mk (PyData.keyHash P z32) (Value.str z32 387) (Value.int 89 386)), (DictEntry.mk (PyData.keyHash P z33) (Value.str z33 397) (Value.ref 166)), (DictEntry.mk (PyData.keyHash P z76) (Value.str z76 406) (Value.ref 174)), (DictEntry.mk (PyData.keyHash P z77) (Value.str z77 413) (Value.ref 181)), (DictEntry.mk (PyData.keyHash P z78) (Value.str z78 421) (Value.ref 188)), (DictEntry.mk (PyData.keyHash P z79) (Value.str z79 429) (Value.ref 195)), (DictEntry.mk (PyData.keyHash P z80) (Value.str z80 440) (Value.ref 203)), (DictEntry.mk (PyData.keyHash P z81) (Value.str z81 450) (Value.ref 210)), (DictEntry.mk (PyData.keyHash P z82) (Value.str z82 458) (Value.ref 217)), (DictEntry.mk (PyData.keyHash P z83) (Value.str z83 466) (Value.ref 224)), (DictEntry.mk (PyData.keyHash P z84) (Value.str z84 474) (Value.ref 231))]) 13) (List.toArray []))
noncomputable def o_342 (P : Params) : Obj := (Obj.mk (Value.type PySem.W.SL.s2766695959194262286x5) Option.none (Data.seq (List.toArray []) 0) (List.toArray []))
noncomputable def o_343 (P : Params) : Obj := (Obj.mk Value.none Option.none (Data.fields (List.toArray [(Value.int 91 0), (Value.int 4 0), (Value.ref 165), (Value.int 96 0), (Value.int 4 0), (Value.ref 173), (Value.int 101 0), (Value.int 4 0), (Value.ref 180), (Value.int 104 0), (Value.int 4 0), (Value.ref 187), (Value.int 109 0), (Value.int 4 0), (Value.ref 194), (Value.int 116 0), (Value.int 4 0), (Value.ref 202), (Value.int 120 0), (Value.int 4 0), (Value.ref 209), (Value.int 128 0), (Value.int 4 0), (Value.ref 216), (Value.int 134 0), (Value.int 4 0), (Value.ref 223), (Value.int 138 0), (Value.int 4 0), (Value.ref 230), (Value.int 141 0), (Value.int 4 0), (Value.ref 237)])) (List.toArray []))
noncomputable def o_344 (P : Params) : Obj := (Obj.mk (Value.type PySem.W.SL.s5856160107412720595x4) Option.none (Data.fields (List.toArray [(Value.str z75 378), (Value.str z75 379), (Value.str z1 380), (Value.int 89 0), (Value.int 0 0), (Value.int 0 0), (Value.int 0 0), (Value.int 0 0), (Value.ref 155), (Value.bool Bool.false), (Value.int 181 0), (Value.ref 156), Value.none, Value.none, Value.none, Value.none, (Value.int 381 0), (Value.int 89 0), (Value.str z1 382)])) (List.toArray []))
noncomputable def o_345 (P : Params) : Obj := (Obj.mk (Value.type PySem.W.SL.s658472552662922059x5) Option.none Data.plain (List.toArray [(Option.some (Value.ref 157)), (Option.some (Value.ref 3)), (Option.some (Value.ref 154)), Option.none, (Option.some (Value.str z60 365)), Option.none, (Option.some (Value.ref 0))]))
noncomputable def o_346 (P : Params) : Obj := (Obj.mk (Value.type PySem.W.SL.s2766695959194262286x5) Option.none (Data.seq (List.toArray [(Value.int 0 388)]) 0) (List.toArray []))
noncomputable def o_347 (P : Params) : Obj := (Obj.mk (Value.type PySem.W.SL.s2766695959194262286x5) Option.none (Data.seq (List.toArray []) 0) (List.toArray []))
noncomputable def o_348 (P : Params) : Obj := (Obj.mk Value.none Option.none (Data.fields (List.toArray [])) (List.toArray []))
noncomputable def o_349 (P : Params) : Obj := (Obj.mk (Value.type PySem.W.SL.s2766695959194262286x5) Option.none (Data.seq (List.toArray [(Value.str z36 392), (Value.str z95 393), (Value.str z38 394)]) 0) (List.toArray []))
noncomputable def o_350 (P : Params) : Obj := (Obj.mk (Value.type PySem.W.SL.s2766695959194262286x5) Option.none (Data.seq (List.toArray []) 0) (List.toArray []))
noncomputable def o_351 (P : Params) : Obj := (Obj.mk Value.none Option.none (Data.func (FuncData.mk z33 z96 (fnA (clR 22 0)) (FuncBody.stmts (fnB (clR 22 0))) (fnS (clR 22 0)) 0 [] Value.none Value.none Value.none Value.none Option.none Value.none Value.none 0)) (List.toArray []))
noncomputable def o_352 (P : Params) : Obj := (Obj.mk (Value.type PySem.W.SL.s5856160107412720595x4) Option.none (Data.fields (List.toArray [(Value.str z33 389), (Value.str z96 390), (Value.str z1 391), (Value.int 91 0), (Value.int 3 0), (Value.int 0 0), (Value.int 0 0), (Value.int 3 0), (Value.ref 160), (Value.bool Bool.true), (Value.int 181 0), (Value.ref 161), Value.none, (Value.ref 162), (Value.ref 163), (Value.ref 164), (Value.int 395 0), (Value.int 91 0), (Value.str z1 396)])) (List.toArray []))
noncomputable def o_353 (P : Params) : Obj := (Obj.mk (Value.type PySem.W.SL.s7174869446012820540x8) Option.none (Data.func (FuncData.mk z33 z96 (fnA (clR 22 0)) (FuncBody.stmts (fnB (clR 22 0))) (fnS (clR 22 0)) 3 [] (Value.ref 159) Value.none Value.none (Value.str z60 365) Option.none (Value.ref 165) Value.none 0)) (List.toArray []))
noncomputable def o_354 (P : Params) : Obj := (Obj.mk (Value.type PySem.W.SL.s2766695959194262286x5) Option.none (Data.seq (List.toArray [(Value.int 0 398)]) 0) (List.toArray []))
noncomputable def o_355 (P : Params) : Obj := (Obj.mk (Value.type PySem.W.SL.s2766695959194262286x5) Option.none (Data.seq (List.toArray []) 0) (List.toArray []))
noncomputable def o_356 (P : Params) : Obj := (Obj.mk Value.none Option.none (Data.fields (List.toArray [])) (List.toArray []))
noncomputable def o_357 (P : Params) : Obj := (Obj.mk (Value.type PySem.W.SL.s2766695959194262286x5) Option.none (Data.seq (List.toArray [(Value.str z36 402), (Value.str z71 403)]) 0) (List.toArray []))
noncomputable def o_358 (P : Params) : Obj := (Obj.mk (Value.type PySem.W.SL.s2766695959194262286x5) Option.none (Data.seq (List.toArray []) 0) (List.toArray []))
noncomputable def o_359 (P : Params) : Obj := (Obj.mk Value.none Option.none (Data.func (FuncData.mk z76 z97 (fnA (clR 22 1)) (FuncBody.stmts (fnB (clR 22 1))) (fnS (clR 22 1)) 0 [] Value.none Value.none Value.none Value.none Option.none Value.none Value.none 0)) (List.toArray []))
noncomputable def o_360 (P : Params) : Obj := (Obj.mk (Value.type PySem.W.SL.s5856160107412720595x4) Option.none (Data.fields (List.toArray [(Value.str z76 399), (Value.str z97 400), (Value.str z1 401), (Value.int 96 0), (Value.int 2 0), (Value.int 0 0), (Value.int 0 0), (Value.int 3 0), (Value.ref 168), (Value.bool Bool.true), (Value.int 181 0), (Value.ref 169), Value.none, (Value.ref 170), (Value.ref 171), (Value.ref 172), (Value.int 404 0), (Value.int 96 0), (Value.str z1 405)])) (List.toArray []))
noncomputable def o_361 (P : Params) : Obj := (Obj.mk (Value.type PySem.W.SL.s7174869446012820540x8) Option.none (Data.func (FuncData.mk z76 z97 (fnA (clR 22 1)) (FuncBody.stmts (fnB (clR 22 1))) (fnS (clR 22 1)) 3 [] (Value.ref 167) Value.none Value.none (Value.str z60 365) Option.none (Value.ref 173) Value.none 0)) (List.toArray []))
noncomputable def o_362 (P : Params) : Obj := (Obj.mk (Value.type PySem.W.SL.s2766695959194262286x5) Option.none (Data.seq (List.toArray []) 0) (List.toArray []))
noncomputable def o_363 (P : Params) : Obj := (Obj.mk Value.none Option.none (Data.fields (List.toArray [])) (List.toArray []))
noncomputable def o_364 (P : Params) : Obj := (Obj.mk (Value.type PySem.W.SL.s2766695959194262286x5) Option.none (Data.seq (List.toArray [(Value.str z36 410)]) 0) (List.toArray []))
noncomputable def o_365 (P : Params) : Obj := (Obj.mk (Value.type PySem.W.SL.s2766695959194262286x5) Option.none (Data.seq (List.toArray []) 0) (List.toArray []))
noncomputable def o_366 (P : Params) : Obj := (Obj.mk Value.none Option.none (Data.func (FuncData.mk z77 z98 (fnA (clR 22 2)) (FuncBody.stmts (fnB (clR 22 2))) (fnS (clR 22 2)) 0 [] Value.none Value.none Value.none Value.none Option.none Value.none Value.none 0)) (List.toArray []))
noncomputable def o_367 (P : Params) : Obj := (Obj.mk (Value.type PySem.W.SL.s5856160107412720595x4) Option.none (Data.fields (List.toArray [(Value.str z77 407), (Value.str z98 408), (Value.str z1 409), (Value.int 101 0), (Value.int 1 0), (Value.int 0 0), (Value.int 0 0), (Value.int 3 0), (Value.ref 175), (Value.bool Bool.true), (Value.int 181 0), (Value.ref 176), Value.none, (Value.ref 177), (Value.ref 178), (Value.ref 179), (Value.int 411 0), (Value.int 101 0), (Value.str z1 412)])) (List.toArray []))
noncomputable def o_368 (P : Params) : Obj := (Obj.mk (Value.type PySem.W.SL.s7174869446012820540x8) Option.none (Data.func (FuncData.mk z77 z98 (fnA (clR 22 2)) (FuncBody.stmts (fnB (clR 22 2))) (fnS (clR 22 2)) 3 [] Value.none Value.none Value.none (Value.str z60 365) Option.none (Value.ref 180) Value.none 0)) (List.toArray []))
noncomputable def o_369 (P : Params) : Obj := (Obj.mk (Value.type PySem.W.SL.s2766695959194262286x5) Option.none (Data.seq (List.toArray []) 0) (List.toArray []))
noncomputable def o_370 (P : Params) : Obj := (Obj.mk Value.none Option.none (Data.fields (List.toArray [])) (List.toArray []))
noncomputable def o_371 (P : Params) : Obj := (Obj.mk (Value.type PySem.W.SL.s2766695959194262286x5) Option.none (Data.seq (List.toArray [(Value.str z36 417), (Value.str z37 418)]) 0) (List.toArray []))
noncomputable def o_372 (P : Params) : Obj := (Obj.mk (Value.type PySem.W.SL.s2766695959194262286x5) Option.none (Data.seq (List.toArray []) 0) (List.toArray []))
noncomputable def o_373 (P : Params) : Obj := (Obj.mk Value.none Option.none (Data.func (FuncData.mk z78 z99 (fnA (clR 22 3)) (FuncBody.stmts (fnB (clR 22 3))) (fnS (clR 22 3)) 0 [] Value.none Value.none Value.none Value.none Option.none Value.none Value.none 0)) (List.toArray []))
noncomputable def o_374 (P : Params) : Obj := (Obj.mk (Value.type PySem.W.SL.s5856160107412720595x4) Option.none (Data.fields (List.toArray [(Value.str z78 414), (Value.str z99 415), (Value.str z1 416), (Value.int 104 0), (Value.int 2 0), (Value.int 0 0), (Value.int 0 0), (Value.int 3 0), (Value.ref 182), (Value.bool Bool.true), (Value.int 181 0), (Value.ref 183), Value.none, (Value.ref 184), (Value.ref 185), (Value.ref 186), (Value.int 419 0), (Value.int 104 0), (Value.str z1 420)])) (List.toArray []))
noncomputable def o_375 (P : Params) : Obj := (Obj.mk (Value.type PySem.W.SL.s7174869446012820540x8) Option.none (Data.func (FuncData.mk z78 z99 (fnA (clR 22 3)) (FuncBody.stmts (fnB (clR 22 3))) (fnS (clR 22 3)) 3 [] Value.none Value.none Value.none (Value.str z60 365) Option.none (Value.ref 187) Value.none 0)) (List.toArray []))
noncomputable def o_376 (P : Params) : Obj := (Obj.mk (Value.type PySem.W.SL.s2766695959194262286x5) Option.none (Data.seq (List.toArray []) 0) (List.toArray []))
noncomputable def o_377 (P : Params) : Obj := (Obj.mk Value.none Option.none (Data.fields (List.toArray [])) (List.toArray []))
noncomputable def o_378 (P : Params) : Obj := (Obj.mk (Value.type PySem.W.SL.s2766695959194262286x5) Option.none (Data.seq (List.toArray [(Value.str z36 425), (Value.str z100 426)]) 0) (List.toArray []))
noncomputable def o_379 (P : Params) : Obj := (Obj.mk (Value.type PySem.W.SL.s2766695959194262286x5) Option.none (Data.seq (List.toArray []) 0) (List.toArray []))
noncomputable def o_380 (P : Params) : Obj := (Obj.mk Value.none Option.none (Data.func (FuncData.mk z79 z101 (fnA (clR 22 4)) (FuncBody.stmts (fnB (clR 22 4))) (fnS (clR 22 4)) 0 [] Value.none Value.none Value.none Value.none Option.none Value.none Value.none 0)) (List.toArray []))
noncomputable def o_381 (P : Params) : Obj := (Obj.mk (Value.type PySem.W.SL.s5856160107412720595x4) Option.none (Data.fields (List.toArray [(Value.str z79 422), (Value.str z101 423), (Value.str z1 424), (Value.int 109 0), (Value.int 1 0), (Value.int 0 0), (Value.int 0 0), (Value.int 3 0), (Value.ref 189), (Value.bool Bool.true), (Value.int 181 0), (Value.ref 190), Value.none, (Value.ref 191), (Value.ref 192), (Value.ref 193), (Value.int 427 0), (Value.int 109 0), (Value.str z1 428)])) (List.toArray []))
noncomputable def o_382 (P : Params) : Obj := (Obj.mk (Value.type PySem.W.SL.s7174869446012820540x8) Option.none (Data.func (FuncData.mk z79 z101 (fnA (clR 22 4)) (FuncBody.stmts (fnB (clR 22 4))) (fnS (clR 22 4)) 3 [] Value.none Value.none Value.none (Value.str z60 365) Option.none (Value.ref 194) Value.none 0)) (List.toArray []))
noncomputable def o_383 (P : Params) : Obj := (Obj.mk (Value.type PySem.W.SL.s2766695959194262286x5) Option.none (Data.seq (List.toArray [(Value.int 0 430)]) 0) (List.toArray []))
noncomputable def o_384 (P : Params) : Obj := (Obj.mk (Value.type PySem.W.SL.s2766695959194262286x5) Option.none (Data.seq (List.toArray []) 0) (List.toArray []))
noncomputable def o_385 (P : Params) : Obj := (Obj.mk Value.none Option.none (Data.fields (List.toArray [])) (List.toArray []))
noncomputable def o_386 (P : Params) : Obj := (Obj.mk (Value.type PySem.W.SL.s2766695959194262286x5) Option.none (Data.seq (List.toArray [(Value.str z36 434), (Value.str z102 435), (Value.str z71 436), (Value.str z100 437)]) 0) (List.toArray []))
noncomputable def o_387 (P : Params) : Obj := (Obj.mk (Value.type PySem.W.SL.s2766695959194262286x5) Option.none (Data.seq (List.toArray []) 0) (List.toArray []))
noncomputable def o_388 (P : Params) : Obj := (Obj.mk Value.none Option.none (Data.func (FuncData.mk z80 z103 (fnA (clR 22 5)) (FuncBody.stmts (fnB (clR 22 5))) (fnS (clR 22 5)) 0 [] Value.none Value.none Value.none Value.none Option.none Value.none Value.none 0)) (List.toArray []))
noncomputable def o_389 (P : Params) : Obj := (Obj.mk (Value.type PySem.W.SL.s5856160107412720595x4) Option.none (Data.fields (List.toArray [(Value.str z80 431), (Value.str z103 432), (Value.str z1 433), (Value.int 116 0), (Value.int 3 0), (Value.int 0 0), (Value.int 0 0), (Value.int 3 0), (Value.ref 197), (Value.bool Bool.true), (Value.int 181 0), (Value.ref 198), Value.none, (Value.ref 199), (Value.ref 200), (Value.ref 201), (Value.int 438 0), (Value.int 116 0), (Value.str z1 439)])) (List.toArray []))
noncomputable def o_390 (P : Params) : Obj := (Obj.mk (Value.type PySem.W.SL.s7174869446012820540x8) Option.none (Data.func (FuncData.mk z80 z103 (fnA (clR 22 5)) (FuncBody.stmts (fnB (clR 22 5))) (fnS (clR 22 5)) 3 [] (Value.ref 196) Value.none Value.none (Value.str z60 365) Option.none (Value.ref 202) Value.none 0)) (List.toArray []))
noncomputable def o_391 (P : Params) : Obj := (Obj.mk (Value.type PySem.W.SL.s2766695959194262286x5) Option.none (Data.seq (List.toArray []) 0) (List.toArray []))
noncomputable def o_392 (P : Params) : Obj := (Obj.mk Value.none Option.none (Data.fields (List.toArray [])) (List.toArray []))
noncomputable def o_393 (P : Params) : Obj := (Obj.mk (Value.type PySem.W.SL.s2766695959194262286x5) Option.none (Data.seq (List.toArray [(Value.str z36 444), (Value.str z104 445), (Value.str z71 446), (Value.str z74 447)]) 0) (List.toArray []))
noncomputable def o_394 (P : Params) : Obj := (Obj.mk (Value.type PySem.W.SL.s2766695959194262286x5) Option.none (Data.seq (List.toArray []) 0) (List.toArray []))
noncomputable def o_395 (P : Params) : Obj := (Obj.mk Value.none Option.none (Data.func (FuncData.mk z81 z105 (fnA (clR 22 6)) (FuncBody.stmts (fnB (clR 22 6))) (fnS (clR 22 6)) 0 [] Value.none Value.none Value.none Value.none Option.none Value.none Value.none 0)) (List.toArray []))
noncomputable def o_396 (P : Params) : Obj := (Obj.mk (Value.type PySem.W.SL.s5856160107412720595x4) Option.none (Data.fields (List.toArray [(Value.str z81 441), (Value.str z105 442), (Value.str z1 443), (Value.int 120 0), (Value.int 2 0), (Value.int 0 0), (Value.int 0 0), (Value.int 3 0), (Value.ref 204), (Value.bool Bool.true), (Value.int 181 0), (Value.ref 205), Value.none, (Value.ref 206), (Value.ref 207), (Value.ref 208), (Value.int 448 0), (Value.int 120 0), (Value.str z1 449)])) (List.toArray []))
noncomputable def o_397 (P : Params) : Obj := (Obj.mk (Value.type PySem.W.SL.s7174869446012820540x8) Option.none (Data.func (FuncData.mk z81 z105 (fnA (clR 22 6)) (FuncBody.stmts (fnB (clR 22 6))) (fnS (clR 22 6)) 3 [] Value.none Value.none Value.none (Value.str z60 365) Option.none (Value.ref 209) Value.none 0)) (List.toArray []))
noncomputable def o_398 (P : Params) : Obj := (Obj.mk (Value.type PySem.W.SL.s2766695959194262286x5) Option.none (Data.seq (List.toArray []) 0) (List.toArray []))
noncomputable def o_399 (P : Params) : Obj := (Obj.mk Value.none Option.none (Data.fields (List.toArray [])) (List.toArray []))
noncomputable def o_400 (P : Params) : Obj := (Obj.mk (Value.type PySem.W.SL.s2766695959194262286x5) Option.none (Data.seq (List.toArray [(Value.str z36 454), (Value.str z104 455)]) 0) (List.toArray []))
noncomputable def o_401 (P : Params) : Obj := (Obj.mk (Value.type PySem.W.SL.s2766695959194262286x5) Option.none (Data.seq (List.toArray []) 0) (List.toArray []))
noncomputable def o_402 (P : Params) : Obj := (Obj.mk Value.none Option.none (Data.func (FuncData.mk z82 z106 (fnA (clR 22 7)) (FuncBody.stmts (fnB (clR 22 7))) (fnS (clR 22 7)) 0 [] Value.none Value.none Value.none Value.none Option.none Value.none Value.none 0)) (List.toArray []))
noncomputable def o_403 (P : Params) : Obj := (Obj.mk (Value.type PySem.W.SL.s5856160107412720595x4) Option.none (Data.fields (List.toArray [(Value.str z82 451), (Value.str z106 452), (Value.str z1 453), (Value.int 128 0), (Value.int 2 0), (Value.int 0 0), (Value.int 0 0), (Value.int 3 0), (Value.ref 211), (Value.bool Bool.true), (Value.int 181 0), (Value.ref 212), Value.none, (Value.ref 213), (Value.ref 214), (Value.ref 215), (Value.int 456 0), (Value.int 128 0), (Value.str z1 457)])) (List.toArray []))
noncomputable def o_404 (P : Params) : Obj := (Obj.mk (Value.type PySem.W.SL.s7174869446012820540x8) Option.none (Data.func (FuncData.mk z82 z106 (fnA (clR 22 7)) (FuncBody.stmts (fnB (clR 22 7))) (fnS (clR 22 7)) 3 [] Value.none Value.none Value.none (Value.str z60 365) Option.none (Value.ref 216) Value.none 0)) (List.toArray []))
noncomputable def o_405 (P : Params) : Obj := (Obj.mk (Value.type PySem.W.SL.s2766695959194262286x5) Option.none (Data.seq (List.toArray []) 0) (List.toArray []))
noncomputable def o_406 (P : Params) : Obj := (Obj.mk Value.none Option.none (Data.fields (List.toArray [])) (List.toArray []))
noncomputable def o_407 (P : Params) : Obj := (Obj.mk (Value.type PySem.W.SL.s2766695959194262286x5) Option.none (Data.seq (List.toArray [(Value.str z36 462), (Value.str z104 463)]) 0) (List.toArray []))
noncomputable def o_408 (P : Params) : Obj := (Obj.mk (Value.type PySem.W.SL.s2766695959194262286x5) Option.none (Data.seq (List.toArray []) 0) (List.toArray []))
noncomputable def o_409 (P : Params) : Obj := (Obj.mk Value.none Option.none (Data.func (FuncData.mk z83 z107 (fnA (clR 22 8)) (FuncBody.stmts (fnB (clR 22 8))) (fnS (clR 22 8)) 0 [] Value.none Value.none Value.none Value.none Option.none Value.none Value.none 0)) (List.toArray []))
noncomputable def o_410 (P : Params) : Obj := (Obj.mk (Value.type PySem.W.SL.s5856160107412720595x4) Option.none (Data.fields (List.toArray [(Value.str z83 459), (Value.str z107 460), (Value.str z1 461), (Value.int 134 0), (Value.int 2 0), (Value.int 0 0), (Value.int 0 0), (Value.int 3 0), (Value.ref 218), (Value.bool Bool.true), (Value.int 181 0), (Value.ref 219), Value.none, (Value.ref 220), (Value.ref 221), (Value.ref 222), (Value.int 464 0), (Value.int 134 0), (Value.str z1 465)])) (List.toArray []))
noncomputable def o_411 (P : Params) : Obj := (Obj.mk (Value.type PySem.W.SL.s7174869446012820540x8) Option.none (Data.func (FuncData.mk z83 z107 (fnA (clR 22 8)) (FuncBody.stmts (fnB (clR 22 8))) (fnS (clR 22 8)) 3 [] Value.none Value.none Value.none (Value.str z60 365) Option.none (Value.ref 223) Value.none 0)) (List.toArray []))
noncomputable def o_412 (P : Params) : Obj := (Obj.mk (Value.type PySem.W.SL.s2766695959194262286x5) Option.none (Data.seq (List.toArray []) 0) (List.toArray []))
noncomputable def o_413 (P : Params) : Obj := (Obj.mk Value.none Option.none (Data.fields (List.toArray [])) (List.toArray []))
noncomputable def o_414 (P : Params) : Obj := (Obj.mk (Value.type PySem.W.SL.s2766695959194262286x5) Option.none (Data.seq (List.toArray [(Value.str z36 470), (Value.str z104 471)]) 0) (List.toArray []))
noncomputable def o_415 (P : Params) : Obj := (Obj.mk (Value.type PySem.W.SL.s2766695959194262286x5) Option.none (Data.seq (List.toArray []) 0) (List.toArray []))
noncomputable def o_416 (P : Params) : Obj := (Obj.mk Value.none Option.none (Data.func (FuncData.mk z84 z108 (fnA (clR 22 9)) (FuncBody.stmts (fnB (clR 22 9))) (fnS (clR 22 9)) 0 [] Value.none Value.none Value.none Value.none Option.none Value.none Value.none 0)) (List.toArray []))
noncomputable def o_417 (P : Params) : Obj := (Obj.mk (Value.type PySem.W.SL.s5856160107412720595x4) Option.none (Data.fields (List.toArray [(Value.str z84 467), (Value.str z108 468), (Value.str z1 469), (Value.int 138 0), (Value.int 2 0), (Value.int 0 0), (Value.int 0 0), (Value.int 3 0), (Value.ref 225), (Value.bool Bool.true), (Value.int 181 0), (Value.ref 226), Value.none, (Value.ref 227), (Value.ref 228), (Value.ref 229), (Value.int 472 0), (Value.int 138 0), (Value.str z1 473)])) (List.toArray []))
noncomputable def o_418 (P : Params) : Obj := (Obj.mk (Value.type PySem.W.SL.s7174869446012820540x8) Option.none (Data.func (FuncData.mk z84 z108 (fnA (clR 22 9)) (FuncBody.stmts (fnB (clR 22 9))) (fnS (clR 22 9)) 3 [] Value.none Value.none Value.none (Value.str z60 365) Option.none (Value.ref 230) Value.none 0)) (List.toArray []))
noncomputable def o_419 (P : Params) : Obj := (Obj.mk (Value.type PySem.W.SL.s2766695959194262286x5) Option.none (Data.seq (List.toArray []) 0) (List.toArray []))
noncomputable def o_420 (P : Params) : Obj := (Obj.mk Value.none Option.none (Data.fields (List.toArray [])) (List.toArray []))
noncomputable def o_421 (P : Params) : Obj := (Obj.mk (Value.type PySem.W.SL.s2766695959194262286x5) Option.none (Data.seq (List.toArray [(Value.str z36 478)]) 0) (List.toArray []))
noncomputable def o_422 (P : Params) : Obj := (Obj.mk (Value.type PySem.W.SL.s2766695959194262286x5) Option.none (Data.seq (List.toArray []) 0) (List.toArray []))
noncomputable def o_423 (P : Params) : Obj := (Obj.mk Value.none Option.none (Data.func (FuncData.mk z74 z109 (fnA (clR 22 10)) (FuncBody.stmts (fnB (clR 22 10))) (fnS (clR 22 20)) 0 [] Value.none Value.none Value.none Value.none Option.none Value.none Value.none 0)) (List.toArray []))
noncomputable def o_424 (P : Params) : Obj := (Obj.mk (Value.type PySem.W.SL.s5856160107412720595x4) Option.none (Data.fields (List.toArray [(Value.str z74 475), (Value.str z109 476), (Value.str z1 477), (Value.int 141 0), (Value.int 1 0), (Value.int 0 0), (Value.int 0 0), (Value.int 3 0), (Value.ref 232), (Value.bool Bool.true), (Value.int 181 0), (Value.ref 233), Value.none, (Value.ref 234), (Value.ref 235), (Value.ref 236), (Value.int 479 0), (Value.int 141 0), (Value.str z1 480)])) (List.toArray []))
noncomputable def tree_424 (P : Params) : PySem.W.BT := (PySem.W.BT.node (PySem.W.boot_o_0 P) (PySem.W.BT.node (PySem.W.boot_o_1 P) (PySem.W.BT.node (o_140 P) (PySem.W.BT.node (PySem.W.boot_o_7 P) (PySem.W.BT.node (o_15 P) (PySem.W.BT.node (o_31 P) (PySem.W.BT.node (o_66 P) (PySem.W.BT.node (o_136 P) PySem.W.BT.nil PySem.W.BT.nil) (PySem.W.BT.node (o_378 P) PySem.W.BT.nil PySem.W.BT.nil)) (PySem.W.BT.node (o_104 P) (PySem.W.BT.node (o_346 P) PySem.W.BT.nil PySem.W.BT.nil) (PySem.W.BT.node (o_410 P) PySem.W.BT.nil PySem.W.BT.nil))) (PySem.W.BT.node (o_50 P) (PySem.W.BT.node (o_85 P) (PySem.W.BT.node (o_154 P) PySem.W.BT.nil PySem.W.BT.nil) (PySem.W.BT.node (o_394 P) PySem.W.BT.nil PySem.W.BT.nil)) (PySem.W.BT.node (o_120 P) (PySem.W.BT.node (o_362 P) PySem.W.BT.nil PySem.W.BT.nil) PySem.W.BT.nil))) (PySem.W.BT.node (o_23 P) (PySem.W.BT.node (o_39 P) (PySem.W.BT.node (o_77 P) (PySem.W.BT.node (o_146 P) PySem.W.BT.nil PySem.W.BT.nil) (PySem.W.BT.node (o_386 P) PySem.W.BT.nil PySem.W.BT.nil)) (PySem.W.BT.node (o_112 P) (PySem.W.BT.node (o_354 P) PySem.W.BT.nil PySem.W.BT.nil) (PySem.W.BT.node (o_418 P) PySem.W.BT.nil PySem.W.BT.nil))) (PySem.W.BT.node (o_58 P) (PySem.W.BT.node (o_96 P) (PySem.W.BT.node (o_162 P) PySem.W.BT.nil PySem.W.BT.nil) (PySem.W.BT.node (o_402 P) PySem.W.BT.nil PySem.W.BT.nil)) (PySem.W.BT.node (o_128 P) (PySem.W.BT.node (o_370 P) PySem.W.BT.nil PySem.W.BT.nil) PySem.W.BT.nil)))) (PySem.W.BT.node (o_7 P) (PySem.W.BT.node (o_19 P) (PySem.W.BT.node (o_35 P) (PySem.W.BT.node (o_91 P) (PySem.W.BT.node (o_142 P) PySem.W.BT.nil PySem.W.BT.nil) (PySem.W.BT.node (o_382 P) PySem.W.BT.nil PySem.W.BT.nil)) (PySem.W.BT.node (o_108 P) (PySem.W.BT.node (o_350 P) PySem.W.BT.nil PySem.W.BT.nil) (PySem.W.BT.node (o_414 P) PySem.W.BT.nil PySem.W.BT.nil))) (PySem.W.BT.node (o_54 P) (PySem.W.BT.node (o_92 P) (PySem.W.BT.node (o_158 P) PySem.W.BT.nil PySem.W.BT.nil) (PySem.W.BT.node (o_398 P) PySem.W.BT.nil PySem.W.BT.nil)) (PySem.W.BT.node (o_124 P) (PySem.W.BT.node (o_366 P) PySem.W.BT.nil PySem.W.BT.nil) PySem.W.BT.nil))) (PySem.W.BT.node (o_27 P) (PySem.W.BT.node (o_46 P) (PySem.W.BT.node (o_81 P) (PySem.W.BT.node (o_150 P) PySem.W.BT.nil PySem.W.BT.nil) (PySem.W.BT.node (o_390 P) PySem.W.BT.nil PySem.W.BT.nil)) (PySem.W.BT.node (o_116 P) (PySem.W.BT.node (o_358 P) PySem.W.BT.nil PySem.W.BT.nil) (PySem.W.BT.node (o_422 P) PySem.W.BT.nil PySem.W.BT.nil))) (PySem.W.BT.node (o_62 P) (PySem.W.BT.node (o_100 P) (PySem.W.BT.node (o_342 P) PySem.W.BT.nil PySem.W.BT.nil) (PySem.W.BT.node (o_406 P) PySem.W.BT.nil PySem.W.BT.nil)) (PySem.W.BT.node (o_132 P) (PySem.W.BT.node (o_374 P) PySem.W.BT.nil PySem.W.BT.nil) PySem.W.BT.nil))))) (PySem.W.BT.node (PySem.W.boot_o_5 P) (PySem.W.BT.node (PySem.W.boot_o_9 P) (PySem.W.BT.node (o_17 P) (PySem.W.BT.node (o_33 P) (PySem.W.BT.node (o_68 P) (PySem.W.BT.node (o_138 P) PySem.W.BT.nil PySem.W.BT.nil) (PySem.W.BT.node (o_380 P) PySem.W.BT.nil PySem.W.BT.nil)) (PySem.W.BT.node (o_106 P) (PySem.W.BT.node (o_348 P) PySem.W.BT.nil PySem.W.BT.nil) (PySem.W.BT.node (o_412 P) PySem.W.BT.nil PySem.W.BT.nil))) (PySem.W.BT.node (o_52 P) (PySem.W.BT.node (o_87 P) (PySem.W.BT.node (o_156 P) PySem.W.BT.nil PySem.W.BT.nil) (PySem.W.BT.node (o_396 P) PySem.W.BT.nil PySem.W.BT.nil)) (PySem.W.BT.node (o_122 P) (PySem.W.BT.node (o_364 P) PySem.W.BT.nil PySem.W.BT.nil) PySem.W.BT.nil))) (PySem.W.BT.node (o_25 P) (PySem.W.BT.node (o_41 P) (PySem.W.BT.node (o_79 P) (PySem.W.BT.node (o_148 P) PySem.W.BT.nil PySem.W.BT.nil) (PySem.W.BT.node (o_388 P) PySem.W.BT.nil PySem.W.BT.nil)) (PySem.W.BT.node (o_114 P) (PySem.W.BT.node (o_356 P) PySem.W.BT.nil PySem.W.BT.nil) (PySem.W.BT.node (o_420 P) PySem.W.BT.nil PySem.W.BT.nil))) (PySem.W.BT.node (o_60 P) (PySem.W.BT.node (o_98 P) (PySem.W.BT.node (o_340 P) PySem.W.BT.nil PySem.W.BT.nil) (PySem.W.BT.node (o_404 P) PySem.W.BT.nil PySem.W.BT.nil)) (PySem.W.BT.node (o_130 P) (PySem.W.BT.node (o_372 P) PySem.W.BT.nil PySem.W.BT.nil) PySem.W.BT.nil)))) (PySem.W.BT.node (o_9 P) (PySem.W.BT.node (o_21 P) (PySem.W.BT.node (o_37 P) (PySem.W.BT.node (o_72 P) (PySem.W.BT.node (o_144 P) PySem.W.BT.nil PySem.W.BT.nil) (PySem.W.BT.node (o_384 P) PySem.W.BT.nil PySem.W.BT.nil)) (PySem.W.BT.node (o_110 P) (PySem.W.BT.node (o_352 P) PySem.W.BT.nil PySem.W.BT.nil) (PySem.W.BT.node (o_416 P) PySem.W.BT.nil PySem.W.BT.nil))) (PySem.W.BT.node (o_56 P) (PySem.W.BT.node (o_94 P) (PySem.W.BT.node (o_160 P) PySem.W.BT.nil PySem.W.BT.nil) (PySem.W.BT.node (o_400 P) PySem.W.BT.nil PySem.W.BT.nil)) (PySem.W.BT.node (o_126 P) (PySem.W.BT.node (o_368 P) PySem.W.BT.nil PySem.W.BT.nil) PySem.W.BT.nil))) (PySem.W.BT.node (o_29 P) (PySem.W.BT.node (o_48 P) (PySem.W.BT.node (o_83 P) (PySem.W.BT.node (o_152 P) PySem.W.BT.nil PySem.W.BT.nil) (PySem.W.BT.node (o_392 P) PySem.W.BT.nil PySem.W.BT.nil)) (PySem.W.BT.node (o_118 P) (PySem.W.BT.node (o_360 P) PySem.W.BT.nil PySem.W.BT.nil) (PySem.W.BT.node (o_424 P) PySem.W.BT.nil PySem.W.BT.nil))) (PySem.W.BT.node (o_64 P) (PySem.W.BT.node (o_102 P) (PySem.W.BT.node (o_344 P) PySem.W.BT.nil PySem.W.BT.nil) (PySem.W.BT.node (o_408 P) PySem.W.BT.nil PySem.W.BT.nil)) (PySem.W.BT.node (o_134 P) (PySem.W.BT.node (o_376 P) PySem.W.BT.nil PySem.W.BT.nil) PySem.W.BT.nil)))))) (PySem.W.BT.node (o_42 P) (PySem.W.BT.node (PySem.W.boot_o_4 P) (PySem.W.BT.node (PySem.W.boot_o_8 P) (PySem.W.BT.node (o_16 P) (PySem.W.BT.node (o_32 P) (PySem.W.BT.node (o_67 P) (PySem.W.BT.node (o_137 P) PySem.W.BT.nil PySem.W.BT.nil) (PySem.W.BT.node (o_379 P) PySem.W.BT.nil PySem.W.BT.nil)) (PySem.W.BT.node (o_105 P) (PySem.W.BT.node (o_347 P) PySem.W.BT.nil PySem.W.BT.nil) (PySem.W.BT.node (o_411 P) PySem.W.BT.nil PySem.W.BT.nil))) (PySem.W.BT.node (o_51 P) (PySem.W.BT.node (o_86 P) (PySem.W.BT.node (o_155 P) PySem.W.BT.nil PySem.W.BT.nil) (PySem.W.BT.node (o_395 P) PySem.W.BT.nil PySem.W.BT.nil)) (PySem.W.BT.node (o_121 P) (PySem.W.BT.node (o_363 P) PySem.W.BT.nil PySem.W.BT.nil) PySem.W.BT.nil))) (PySem.W.BT.node (o_24 P) (PySem.W.BT.node (o_40 P) (PySem.W.BT.node (o_78 P) (PySem.W.BT.node (o_147 P) PySem.W.BT.nil PySem.W.BT.nil) (PySem.W.BT.node (o_387 P) PySem.W.BT.nil PySem.W.BT.nil)) (PySem.W.BT.node (o_113 P) (PySem.W.BT.node (o_355 P) PySem.W.BT.nil PySem.W.BT.nil) (PySem.W.BT.node (o_419 P) PySem.W.BT.nil PySem.W.BT.nil))) (PySem.W.BT.node (o_59 P) (PySem.W.BT.node (o_97 P) (PySem.W.BT.node (o_339 P) PySem.W.BT.nil PySem.W.BT.nil) (PySem.W.BT.node (o_403 P) PySem.W.BT.nil PySem.W.BT.nil)) (PySem.W.BT.node (o_129 P) (PySem.W.BT.node (o_371 P) PySem.W.BT.nil PySem.W.BT.nil) PySem.W.BT.nil)))) (PySem.W.BT.node (o_338 P) (PySem.W.BT.node (o_20 P) (PySem.W.BT.node (o_36 P) (PySem.W.BT.node (o_71 P) (PySem.W.BT.node (o_143 P) PySem.W.BT.nil PySem.W.BT.nil) (PySem.W.BT.node (o_383 P) PySem.W.BT.nil PySem.W.BT.nil)) (PySem.W.BT.node (o_109 P) (PySem.W.BT.node (o_351 P) PySem.W.BT.nil PySem.W.BT.nil) (PySem.W.BT.node (o_415 P) PySem.W.BT.nil PySem.W.BT.nil))) (PySem.W.BT.node (o_55 P) (PySem.W.BT.node (o_93 P) (PySem.W.BT.node (o_159 P) PySem.W.BT.nil PySem.W.BT.nil) (PySem.W.BT.node (o_399 P) PySem.W.BT.nil PySem.W.BT.nil)) (PySem.W.BT.node (o_125 P) (PySem.W.BT.node (o_367 P) PySem.W.BT.nil PySem.W.BT.nil) PySem.W.BT.nil))) (PySem.W.BT.node (o_28 P) (PySem.W.BT.node (o_47 P) (PySem.W.BT.node (o_82 P) (PySem.W.BT.node (o_151 P) PySem.W.BT.nil PySem.W.BT.nil) (PySem.W.BT.node (o_391 P) PySem.W.BT.nil PySem.W.BT.nil)) (PySem.W.BT.node (o_117 P) (PySem.W.BT.node (o_359 P) PySem.W.BT.nil PySem.W.BT.nil) (PySem.W.BT.node (o_423 P) PySem.W.BT.nil PySem.W.BT.nil))) (PySem.W.BT.node (o_63 P) (PySem.W.BT.node (o_101 P) (PySem.W.BT.node (o_343 P) PySem.W.BT.nil PySem.W.BT.nil) (PySem.W.BT.node (o_407 P) PySem.W.BT.nil PySem.W.BT.nil)) (PySem.W.BT.node (o_133 P) (PySem.W.BT.node (o_375 P) PySem.W.BT.nil PySem.W.BT.nil) PySem.W.BT.nil))))) (PySem.W.BT.node (PySem.W.boot_o_6 P) (PySem.W.BT.node (PySem.W.boot_o_10 P) (PySem.W.BT.node (o_18 P) (PySem.W.BT.node (o_34 P) (PySem.W.BT.node (o_69 P) (PySem.W.BT.node (o_139 P) PySem.W.BT.nil PySem.W.BT.nil) (PySem.W.BT.node (o_381 P) PySem.W.BT.nil PySem.W.BT.nil)) (PySem.W.BT.node (o_107 P) (PySem.W.BT.node (o_349 P) PySem.W.BT.nil PySem.W.BT.nil) (PySem.W.BT.node (o_413 P) PySem.W.BT.nil PySem.W.BT.nil))) (PySem.W.BT.node (o_53 P) (PySem.W.BT.node (o_88 P) (PySem.W.BT.node (o_157 P) PySem.W.BT.nil PySem.W.BT.nil) (PySem.W.BT.node (o_397 P) PySem.W.BT.nil PySem.W.BT.nil)) (PySem.W.BT.node (o_123 P) (PySem.W.BT.node (o_365 P) PySem.W.BT.nil PySem.W.BT.nil) PySem.W.BT.nil))) (PySem.W.BT.node (o_26 P) (PySem.W.BT.node (o_45 P) (PySem.W.BT.node (o_80 P) (PySem.W.BT.node (o_149 P) PySem.W.BT.nil PySem.W.BT.nil) (PySem.W.BT.node (o_389 P) PySem.W.BT.nil PySem.W.BT.nil)) (PySem.W.BT.node (o_115 P) (PySem.W.BT.node (o_357 P) PySem.W.BT.nil PySem.W.BT.nil) (PySem.W.BT.node (o_421 P) PySem.W.BT.nil PySem.W.BT.nil))) (PySem.W.BT.node (o_61 P) (PySem.W.BT.node (o_99 P) (PySem.W.BT.node (o_341 P) PySem.W.BT.nil PySem.W.BT.nil) (PySem.W.BT.node (o_405 P) PySem.W.BT.nil PySem.W.BT.nil)) (PySem.W.BT.node (o_131 P) (PySem.W.BT.node (o_373 P) PySem.W.BT.nil PySem.W.BT.nil) PySem.W.BT.nil)))) (PySem.W.BT.node (o_10 P) (PySem.W.BT.node (o_22 P) (PySem.W.BT.node (o_38 P) (PySem.W.BT.node (o_73 P) (PySem.W.BT.node (o_145 P) PySem.W.BT.nil PySem.W.BT.nil) (PySem.W.BT.node (o_385 P) PySem.W.BT.nil PySem.W.BT.nil)) (PySem.W.BT.node (o_111 P) (PySem.W.BT.node (o_353 P) PySem.W.BT.nil PySem.W.BT.nil) (PySem.W.BT.node (o_417 P) PySem.W.BT.nil PySem.W.BT.nil))) (PySem.W.BT.node (o_57 P) (PySem.W.BT.node (o_95 P) (PySem.W.BT.node (o_161 P) PySem.W.BT.nil PySem.W.BT.nil) (PySem.W.BT.node (o_401 P) PySem.W.BT.nil PySem.W.BT.nil)) (PySem.W.BT.node (o_127 P) (PySem.W.BT.node (o_369 P) PySem.W.BT.nil PySem.W.BT.nil) PySem.W.BT.nil))) (PySem.W.BT.node (o_30 P) (PySem.W.BT.node (o_49 P) (PySem.W.BT.node (o_84 P) (PySem.W.BT.node (o_153 P) PySem.W.BT.nil PySem.W.BT.nil) (PySem.W.BT.node (o_393 P) PySem.W.BT.nil PySem.W.BT.nil)) (PySem.W.BT.node (o_119 P) (PySem.W.BT.node (o_361 P) PySem.W.BT.nil PySem.W.BT.nil) PySem.W.BT.nil)) (PySem.W.BT.node (o_65 P) (PySem.W.BT.node (o_103 P) (PySem.W.BT.node (o_345 P) PySem.W.BT.nil PySem.W.BT.nil) (PySem.W.BT.node (o_409 P) PySem.W.BT.nil PySem.W.BT.nil)) (PySem.W.BT.node (o_135 P) (PySem.W.BT.node (o_377 P) PySem.W.BT.nil PySem.W.BT.nil) PySem.W.BT.nil)))))))
noncomputable def o_428 (P : Params) : Obj := (Obj.mk (Value.type PySem.W.SL.s14018661285674007319x4) Option.none (Data.dict (List.toArray [(DictEntry.mk (PyData.keyHash P z3) (Value.str z3 165) (Value.str z125 624)), (DictEntry.mk (PyData.keyHash P z5) (Value.str z5 166) Value.none), (DictEntry.mk (PyData.keyHash P z6) (Value.str z6 167) Value.none), (DictEntry.mk (PyData.keyHash P z7) (Value.str z7 168) (Value.builtin PySem.W.SL.s7097527257260152453x26)), (DictEntry.mk (PyData.keyHash P z8) (Value.str z8 169) Value.none), (DictEntry.mk (PyData.keyHash P z9) (Value.str z9 170) (Value.ref 6)), (DictEntry.mk (PyData.keyHash P z10) (Value.str z10 171) (Value.ref 4)), (DictEntry.mk (PyData.keyHash P z11) (Value.str z11 173) (Value.str z1 172)), (DictEntry.mk (PyData.keyHash P z12) (Value.str z12 174) Value.none), (DictEntry.mk (PyData.keyHash P z13) (Value.str z13 193) (Value.ref 21)), (DictEntry.mk (PyData.keyHash P z14) (Value.str z14 201) (Value.ref 22)), (DictEntry.mk (PyData.keyHash P z15) (Value.str z15 208) (Value.ref 29)), (DictEntry.mk (PyData.keyHash P z16) (Value.str z16 214) (Value.ref 34)), (DictEntry.mk (PyData.keyHash P z17) (Value.str z17 222) (Value.ref 41)), (DictEntry.mk (PyData.keyHash P z29) (Value.str z29 264) (Value.ref 67)), (DictEntry.mk (PyData.keyHash P z42) (Value.str z42 280) (Value.ref 80)), (DictEntry.mk (PyData.keyHash P z44) (Value.str z44 296) (Value.ref 92)), (DictEntry.mk (PyData.keyHash P z45) (Value.str z45 300) (Value.str z46 299)), (DictEntry.mk (PyData.keyHash P z47) (Value.str z47 308) (Value.ref 101)), (DictEntry.mk (PyData.keyHash P z48) (Value.str z48 317) (Value.ref 109)), (DictEntry.mk (PyData.keyHash P z49) (Value.str z49 328) (Value.ref 116)), (DictEntry.mk (PyData.keyHash P z50) (Value.str z50 335) (Value.ref 123)), (DictEntry.mk (PyData.keyHash P z51) (Value.str z51 342) (Value.ref 130)), (DictEntry.mk (PyData.keyHash P z61) (Value.str z61 351) (Value.ref 137)), (DictEntry.mk (PyData.keyHash P z62) (Value.str z62 364) (Value.ref 144)), (DictEntry.mk (PyData.keyHash P z63) (Value.str z63 368) (Value.str z64 367)), (DictEntry.mk (PyData.keyHash P z65) (Value.str z65 375) (Value.ref 151)), (DictEntry.mk (PyData.keyHash P z75) (Value.str z75 577) (Value.ref 320)), (DictEntry.mk (PyData.keyHash P z126) (Value.str z126 623) (Value.ref 350)), (DictEntry.mk (PyData.keyHash P z127) (Value.str z127 631) (Value.ref 355)), (DictEntry.mk (PyData.keyHash P z128) (Value.str z128 641) (Value.ref 362)), (DictEntry.mk (PyData.keyHash P z129) (Value.str z129 647) (Value.ref 367)), (DictEntry.mk (PyData.keyHash P z130) (Value.str z130 654) (Value.ref 374))]) 33) (List.toArray []))
noncomputable def o_429 (P : Params) : Obj := (Obj.mk Value.none Option.none (Data.fields (List.toArray [(Value.int 1 0), (Value.int 0 0), (Value.ref 20), (Value.int 6 0), (Value.int 0 0), (Value.ref 28), (Value.int 10 0), (Value.int 0 0), (Value.ref 33), (Value.int 12 0), (Value.int 0 0), (Value.ref 40), (Value.int 27 0), (Value.int 0 0), (Value.ref 47), (Value.int 36 0), (Value.int 0 0), (Value.ref 76), (Value.int 38 0), (Value.int 0 0), (Value.ref 88), (Value.int 42 0), (Value.int 0 0), (Value.ref 100), (Value.int 46 0), (Value.int 0 0), (Value.ref 108), (Value.int 53 0), (Value.int 0 0), (Value.ref 115), (Value.int 61 0), (Value.int 0 0), (Value.ref 122), (Value.int 63 0), (Value.int 0 0), (Value.ref 129), (Value.int 65 0), (Value.int 0 0), (Value.ref 136), (Value.int 70 0), (Value.int 0 0), (Value.ref 143), (Value.int 87 0), (Value.int 0 0), (Value.ref 150), (Value.int 89 0), (Value.int 0 0), (Value.ref 157), (Value.int 193 0), (Value.int 0 0), (Value.ref 330), (Value.int 205 0), (Value.int 0 0), (Value.ref 361), (Value.int 209 0), (Value.int 0 0), (Value.ref 366), (Value.int 211 0), (Value.int 0 0), (Value.ref 373)])) (List.toArray []))
noncomputable def o_430 (P : Params) : Obj := (Obj.mk (Value.type PySem.W.SL.s2766695959194262286x5) Option.none (Data.seq (List.toArray []) 0) (List.toArray []))
noncomputable def o_431 (P : Params) : Obj := (Obj.mk (Value.type PySem.W.SL.s11030030927630378310x26) Option.none (Data.fields (List.toArray [(Value.builtin PySem.W.SL.s10062305145149207511x16), (Value.type PySem.W.SL.s17162191345867700912x4)])) (List.toArray []))
noncomputable def o_432 (P : Params) : Obj := (Obj.mk (Value.type PySem.W.SL.s14018661285674007319x4) Option.none (Data.dict (List.toArray [(DictEntry.mk (PyData.keyHash P z30) (Value.str z30 587) (Value.str z131 578)), (DictEntry.mk (PyData.keyHash P z31) (Value.str z31 589) (Value.str z126 588)), (DictEntry.mk (PyData.keyHash P z32) (Value.str z32 591) (Value.int 193 590)), (DictEntry.mk (PyData.keyHash P z33) (Value.str z33 604) (Value.ref 340)), (DictEntry.mk (PyData.keyHash P z34) (Value.str z34 611) (Value.ref 347)), (DictEntry.mk (PyData.keyHash P z35) (Value.str z35 616) (Value.ref 348))]) 6) (List.toArray []))
noncomputable def o_433 (P : Params) : Obj := (Obj.mk (Value.type PySem.W.SL.s2766695959194262286x5) Option.none (Data.seq (List.toArray []) 0) (List.toArray []))
noncomputable def o_434 (P : Params) : Obj := (Obj.mk Value.none Option.none (Data.fields (List.toArray [(Value.int 195 0), (Value.int 4 0), (Value.ref 339), (Value.int 201 0), (Value.int 4 0), (Value.ref 346)])) (List.toArray []))
noncomputable def o_435 (P : Params) : Obj := (Obj.mk (Value.type PySem.W.SL.s5856160107412720595x4) Option.none (Data.fields (List.toArray [(Value.str z126 582), (Value.str z126 583), (Value.str z1 584), (Value.int 193 0), (Value.int 0 0), (Value.int 0 0), (Value.int 0 0), (Value.int 0 0), (Value.ref 328), (Value.bool Bool.false), (Value.int 181 0), (Value.ref 329), Value.none, Value.none, Value.none, Value.none, (Value.int 585 0), (Value.int 193 0), (Value.str z1 586)])) (List.toArray []))
noncomputable def o_436 (P : Params) : Obj := (Obj.mk (Value.type PySem.W.SL.s658472552662922059x5) Option.none Data.plain (List.toArray [(Option.some (Value.ref 330)), (Option.some (Value.ref 3)), (Option.some (Value.ref 327)), Option.none, (Option.some (Value.str z131 578)), Option.none, (Option.some (Value.ref 0))]))
noncomputable def o_437 (P : Params) : Obj := (Obj.mk (Value.type PySem.W.SL.s2766695959194262286x5) Option.none (Data.seq (List.toArray [(Value.int 0 592), (Value.int 0 593)]) 0) (List.toArray []))
noncomputable def o_438 (P : Params) : Obj := (Obj.mk (Value.type PySem.W.SL.s2766695959194262286x5) Option.none (Data.seq (List.toArray [(Value.ref 332), (Value.bool Bool.false)]) 0) (List.toArray []))
noncomputable def o_439 (P : Params) : Obj := (Obj.mk (Value.type PySem.W.SL.s2766695959194262286x5) Option.none (Data.seq (List.toArray []) 0) (List.toArray []))
noncomputable def o_440 (P : Params) : Obj := (Obj.mk Value.none Option.none (Data.fields (List.toArray [])) (List.toArray []))
noncomputable def o_441 (P : Params) : Obj := (Obj.mk (Value.type PySem.W.SL.s2766695959194262286x5) Option.none (Data.seq (List.toArray [(Value.str z36 597), (Value.str z102 598), (Value.str z132 599), (Value.str z38 600), (Value.str z133 601)]) 0) (List.toArray []))
noncomputable def o_442 (P : Params) : Obj := (Obj.mk (Value.type PySem.W.SL.s2766695959194262286x5) Option.none (Data.seq (List.toArray []) 0) (List.toArray []))
noncomputable def o_443 (P : Params) : Obj := (Obj.mk Value.none Option.none (Data.func (FuncData.mk z33 z134 (fnA (clR 24 0)) (FuncBody.stmts (fnB (clR 24 0))) (fnS (clR 24 0)) 0 [] Value.none Value.none Value.none Value.none Option.none Value.none Value.none 0)) (List.toArray []))
noncomputable def o_444 (P : Params) : Obj := (Obj.mk (Value.type PySem.W.SL.s5856160107412720595x4) Option.none (Data.fields (List.toArray [(Value.str z33 594), (Value.str z134 595), (Value.str z1 596), (Value.int 195 0), (Value.int 5 0), (Value.int 0 0), (Value.int 0 0), (Value.int 3 0), (Value.ref 334), (Value.bool Bool.true), (Value.int 181 0), (Value.ref 335), Value.none, (Value.ref 336), (Value.ref 337), (Value.ref 338), (Value.int 602 0), (Value.int 195 0), (Value.str z1 603)])) (List.toArray []))
noncomputable def o_445 (P : Params) : Obj := (Obj.mk (Value.type PySem.W.SL.s7174869446012820540x8) Option.none (Data.func (FuncData.mk z33 z134 (fnA (clR 24 0)) (FuncBody.stmts (fnB (clR 24 0))) (fnS (clR 24 0)) 3 [] (Value.ref 333) Value.none Value.none (Value.str z131 578) Option.none (Value.ref 339) Value.none 0)) (List.toArray []))
noncomputable def o_446 (P : Params) : Obj := (Obj.mk (Value.type PySem.W.SL.s2766695959194262286x5) Option.none (Data.seq (List.toArray []) 0) (List.toArray []))
noncomputable def o_447 (P : Params) : Obj := (Obj.mk Value.none Option.none (Data.fields (List.toArray [])) (List.toArray []))
noncomputable def o_448 (P : Params) : Obj := (Obj.mk (Value.type PySem.W.SL.s2766695959194262286x5) Option.none (Data.seq (List.toArray [(Value.str z36 608)]) 0) (List.toArray []))
noncomputable def o_449 (P : Params) : Obj := (Obj.mk (Value.type PySem.W.SL.s2766695959194262286x5) Option.none (Data.seq (List.toArray []) 0) (List.toArray []))
noncomputable def o_450 (P : Params) : Obj := (Obj.mk Value.none Option.none (Data.func (FuncData.mk z34 z135 (fnA (clR 24 1)) (FuncBody.stmts (fnB (clR 24 1))) (fnS (clR 24 1)) 0 [] Value.none Value.none Value.none Value.none Option.none Value.none Value.none 0)) (List.toArray []))
noncomputable def o_451 (P : Params) : Obj := (Obj.mk (Value.type PySem.W.SL.s5856160107412720595x4) Option.none (Data.fields (List.toArray [(Value.str z34 605), (Value.str z135 606), (Value.str z1 607), (Value.int 201 0), (Value.int 1 0), (Value.int 0 0), (Value.int 0 0), (Value.int 3 0), (Value.ref 341), (Value.bool Bool.true), (Value.int 181 0), (Value.ref 342), Value.none, (Value.ref 343), (Value.ref 344), (Value.ref 345), (Value.int 609 0), (Value.int 201 0), (Value.str z1 610)])) (List.toArray []))
noncomputable def o_452 (P : Params) : Obj := (Obj.mk (Value.type PySem.W.SL.s7174869446012820540x8) Option.none (Data.func (FuncData.mk z34 z135 (fnA (clR 24 1)) (FuncBody.stmts (fnB (clR 24 1))) (fnS (clR 24 1)) 3 [] Value.none Value.none Value.none (Value.str z131 578) Option.none (Value.ref 346) Value.none 0)) (List.toArray []))
noncomputable def o_453 (P : Params) : Obj := (Obj.mk (Value.type PySem.W.SL.s2766695959194262286x5) Option.none (Data.seq (List.toArray [(Value.str z38 612), (Value.str z133 613), (Value.str z102 614), (Value.str z132 615)]) 0) (List.toArray []))
noncomputable def o_454 (P : Params) : Obj := (Obj.mk (Value.type PySem.W.SL.s14018661285674007319x4) Option.none (Data.dict (List.toArray [(DictEntry.mk (PyData.keyHash P z30) (Value.str z30 587) (Value.str z131 578)), (DictEntry.mk (PyData.keyHash P z32) (Value.str z32 591) (Value.int 193 590)), (DictEntry.mk (PyData.keyHash P z33) (Value.str z33 604) (Value.ref 340)), (DictEntry.mk (PyData.keyHash P z34) (Value.str z34 611) (Value.ref 347)), (DictEntry.mk (PyData.keyHash P z35) (Value.str z35 616) (Value.ref 348)), (DictEntry.mk (PyData.keyHash P z124) (Value.str z124 618) (Value.ref 351)), (DictEntry.mk (PyData.keyHash P z41) (Value.str z41 620) (Value.ref 352)), (DictEntry.mk (PyData.keyHash P z5) (Value.str z5 621) Value.none)]) 4) (List.toArray []))
noncomputable def o_455 (P : Params) : Obj := (Obj.mk (Value.type PySem.W.SL.s17162191345867700912x4) Option.none (Data.cls (ClassData.mk z126 [(Value.type PySem.W.SL.s2742458400755230247x6)] [(Value.ref 350), (Value.type PySem.W.SL.s2742458400755230247x6)] 349 z126 Bool.true [] [] Bool.false Option.none Bool.false)) (List.toArray [Option.none, Option.none, (Option.some (Value.str z126 580)), (Option.some (Value.str z126 588)), (Option.some (Value.builtin PySem.W.SL.s11443829558043349243x14)), (Option.some (Value.bool Bool.true))]))
noncomputable def o_456 (P : Params) : Obj := (Obj.mk (Value.type PySem.W.SL.s14755015743595814543x17) Option.none (Data.fields (List.toArray [(Value.str z124 617), (Value.ref 350), (Value.builtin PySem.W.SL.s6511155373996960695x17), (Value.builtin PySem.W.SL.s12411053484034534018x21)])) (List.toArray []))
noncomputable def o_457 (P : Params) : Obj := (Obj.mk (Value.type PySem.W.SL.s14755015743595814543x17) Option.none (Data.fields (List.toArray [(Value.str z41 619), (Value.ref 350), (Value.builtin PySem.W.SL.s10220274742760427390x26), Value.none])) (List.toArray []))
noncomputable def o_458 (P : Params) : Obj := (Obj.mk (Value.type PySem.W.SL.s4290257624100764138x5) Option.none (Data.fields (List.toArray [(Value.ref 350), (Value.ref 350), (Value.ref 350)])) (List.toArray []))
noncomputable def o_459 (P : Params) : Obj := (Obj.mk (Value.type PySem.W.SL.s11030030927630378310x26) Option.none (Data.fields (List.toArray [(Value.builtin PySem.W.SL.s4860613602091757760x24), (Value.ref 350)])) (List.toArray []))
noncomputable def o_460 (P : Params) : Obj := (Obj.mk (Value.type PySem.W.SL.s2766695959194262286x5) Option.none (Data.seq (List.toArray [(Value.str z19 626), (Value.str z21 627), (Value.str z23 628), (Value.str z20 629), (Value.str z22 630)]) 0) (List.toArray []))
noncomputable def o_461 (P : Params) : Obj := (Obj.mk (Value.type PySem.W.SL.s2766695959194262286x5) Option.none (Data.seq (List.toArray []) 0) (List.toArray []))
noncomputable def o_462 (P : Params) : Obj := (Obj.mk Value.none Option.none (Data.fields (List.toArray [])) (List.toArray []))
noncomputable def o_463 (P : Params) : Obj := (Obj.mk (Value.type PySem.W.SL.s2766695959194262286x5) Option.none (Data.seq (List.toArray [(Value.str z136 635), (Value.str z137 636), (Value.str z138 637), (Value.str z38 638)]) 0) (List.toArray []))
noncomputable def o_464 (P : Params) : Obj := (Obj.mk (Value.type PySem.W.SL.s2766695959194262286x5) Option.none (Data.seq (List.toArray []) 0) (List.toArray []))
noncomputable def o_465 (P : Params) : Obj := (Obj.mk Value.none Option.none (Data.func (FuncData.mk z128 z128 (fnA (stR 27)) (FuncBody.stmts (fnB (stR 27))) (fnS (stR 27)) 0 [] Value.none Value.none Value.none Value.none Option.none Value.none Value.none 0)) (List.toArray []))
noncomputable def o_466 (P : Params) : Obj := (Obj.mk (Value.type PySem.W.SL.s5856160107412720595x4) Option.none (Data.fields (List.toArray [(Value.str z128 632), (Value.str z128 633), (Value.str z1 634), (Value.int 205 0), (Value.int 2 0), (Value.int 0 0), (Value.int 0 0), (Value.int 3 0), (Value.ref 356), (Value.bool Bool.true), (Value.int 181 0), (Value.ref 357), Value.none, (Value.ref 358), (Value.ref 359), (Value.ref 360), (Value.int 639 0), (Value.int 205 0), (Value.str z1 640)])) (List.toArray []))
noncomputable def o_467 (P : Params) : Obj := (Obj.mk (Value.type PySem.W.SL.s7174869446012820540x8) Option.none (Data.func (FuncData.mk z128 z128 (fnA (stR 27)) (FuncBody.stmts (fnB (stR 27))) (fnS (stR 27)) 3 [] Value.none Value.none Value.none (Value.str z125 624) Option.none (Value.ref 361) Value.none 0)) (List.toArray []))
noncomputable def o_468 (P : Params) : Obj := (Obj.mk (Value.type PySem.W.SL.s2766695959194262286x5) Option.none (Data.seq (List.toArray []) 0) (List.toArray []))
noncomputable def o_469 (P : Params) : Obj := (Obj.mk Value.none Option.none (Data.fields (List.toArray [])) (List.toArray []))
noncomputable def o_470 (P : Params) : Obj := (Obj.mk Value.none Option.none (Data.func (FuncData.mk z129 z129 (fnA (stR 28)) (FuncBody.stmts (fnB (stR 28))) (fnS (stR 28)) 0 [] Value.none Value.none Value.none Value.none Option.none Value.none Value.none 0)) (List.toArray []))
noncomputable def o_471 (P : Params) : Obj := (Obj.mk (Value.type PySem.W.SL.s5856160107412720595x4) Option.none (Data.fields (List.toArray [(Value.str z129 642), (Value.str z129 643), (Value.str z1 644), (Value.int 209 0), (Value.int 1 0), (Value.int 0 0), (Value.int 0 0), (Value.int 3 0), (Value.ref 363), (Value.bool Bool.true), (Value.int 181 0), (Value.ref 364), Value.none, Value.none, Value.none, (Value.ref 365), (Value.int 645 0), (Value.int 209 0), (Value.str z1 646)])) (List.toArray []))
noncomputable def o_472 (P : Params) : Obj := (Obj.mk (Value.type PySem.W.SL.s7174869446012820540x8) Option.none (Data.func (FuncData.mk z129 z129 (fnA (stR 28)) (FuncBody.stmts (fnB (stR 28))) (fnS (stR 28)) 3 [] Value.none Value.none Value.none (Value.str z125 624) Option.none (Value.ref 366) Value.none 0)) (List.toArray []))
noncomputable def o_473 (P : Params) : Obj := (Obj.mk (Value.type PySem.W.SL.s2766695959194262286x5) Option.none (Data.seq (List.toArray []) 0) (List.toArray []))
noncomputable def o_474 (P : Params) : Obj := (Obj.mk Value.none Option.none (Data.fields (List.toArray [])) (List.toArray []))
noncomputable def o_475 (P : Params) : Obj := (Obj.mk (Value.type PySem.W.SL.s2766695959194262286x5) Option.none (Data.seq (List.toArray [(Value.str z95 651)]) 0) (List.toArray []))
noncomputable def o_476 (P : Params) : Obj := (Obj.mk (Value.type PySem.W.SL.s2766695959194262286x5) Option.none (Data.seq (List.toArray []) 0) (List.toArray []))
noncomputable def o_477 (P : Params) : Obj := (Obj.mk Value.none Option.none (Data.func (FuncData.mk z130 z130 (fnA (stR 29)) (FuncBody.stmts (fnB (stR 29))) (fnS (stR 29)) 0 [] Value.none Value.none Value.none Value.none Option.none Value.none Value.none 0)) (List.toArray []))
noncomputable def o_478 (P : Params) : Obj := (Obj.mk (Value.type PySem.W.SL.s5856160107412720595x4) Option.none (Data.fields (List.toArray [(Value.str z130 648), (Value.str z130 649), (Value.str z1 650), (Value.int 211 0), (Value.int 1 0), (Value.int 0 0), (Value.int 0 0), (Value.int 3 0), (Value.ref 368), (Value.bool Bool.true), (Value.int 181 0), (Value.ref 369), Value.none, (Value.ref 370), (Value.ref 371), (Value.ref 372), (Value.int 652 0), (Value.int 211 0), (Value.str z1 653)])) (List.toArray []))
noncomputable def o_479 (P : Params) : Obj := (Obj.mk (Value.type PySem.W.SL.s7174869446012820540x8) Option.none (Data.func (FuncData.mk z130 z130 (fnA (stR 29)) (FuncBody.stmts (fnB (stR 29))) (fnS (stR 29)) 3 [] Value.none Value.none Value.none (Value.str z125 624) Option.none (Value.ref 373) Value.none 0)) (List.toArray []))
noncomputable def tree_479 (P : Params) : PySem.W.BT := (PySem.W.BT.node (PySem.W.boot_o_0 P) (PySem.W.BT.node (PySem.W.boot_o_1 P) (PySem.W.BT.node (o_428 P) (PySem.W.BT.node (PySem.W.boot_o_7 P) (PySem.W.BT.node (o_15 P) (PySem.W.BT.node (o_31 P) (PySem.W.BT.node (o_66 P) (PySem.W.BT.node (o_136 P) (PySem.W.BT.node (o_268 P) PySem.W.BT.nil PySem.W.BT.nil) PySem.W.BT.nil) (PySem.W.BT.node (o_204 P) (PySem.W.BT.node (o_332 P) PySem.W.BT.nil PySem.W.BT.nil) PySem.W.BT.nil)) (PySem.W.BT.node (o_104 P) (PySem.W.BT.node (o_172 P) (PySem.W.BT.node (o_300 P) PySem.W.BT.nil PySem.W.BT.nil) PySem.W.BT.nil) (PySem.W.BT.node (o_236 P) (PySem.W.BT.node (o_456 P) PySem.W.BT.nil PySem.W.BT.nil) PySem.W.BT.nil))) (PySem.W.BT.node (o_50 P) (PySem.W.BT.node (o_85 P) (PySem.W.BT.node (o_154 P) (PySem.W.BT.node (o_284 P) PySem.W.BT.nil PySem.W.BT.nil) PySem.W.BT.nil) (PySem.W.BT.node (o_220 P) (PySem.W.BT.node (o_440 P) PySem.W.BT.nil PySem.W.BT.nil) PySem.W.BT.nil)) (PySem.W.BT.node (o_120 P) (PySem.W.BT.node (o_188 P) (PySem.W.BT.node (o_316 P) PySem.W.BT.nil PySem.W.BT.nil) PySem.W.BT.nil) (PySem.W.BT.node (o_252 P) (PySem.W.BT.node (o_472 P) PySem.W.BT.nil PySem.W.BT.nil) PySem.W.BT.nil)))) (PySem.W.BT.node (o_23 P) (PySem.W.BT.node (o_39 P) (PySem.W.BT.node (o_77 P) (PySem.W.BT.node (o_146 P) (PySem.W.BT.node (o_276 P) PySem.W.BT.nil PySem.W.BT.nil) PySem.W.BT.nil) (PySem.W.BT.node (o_212 P) (PySem.W.BT.node (o_432 P) PySem.W.BT.nil PySem.W.BT.nil) PySem.W.BT.nil)) (PySem.W.BT.node (o_112 P) (PySem.W.BT.node (o_180 P) (PySem.W.BT.node (o_308 P) PySem.W.BT.nil PySem.W.BT.nil) PySem.W.BT.nil) (PySem.W.BT.node (o_244 P) (PySem.W.BT.node (o_464 P) PySem.W.BT.nil PySem.W.BT.nil) PySem.W.BT.nil))) (PySem.W.BT.node (o_58 P) (PySem.W.BT.node (o_96 P) (PySem.W.BT.node (o_162 P) (PySem.W.BT.node (o_292 P) PySem.W.BT.nil PySem.W.BT.nil) PySem.W.BT.nil) (PySem.W.BT.node (o_228 P) (PySem.W.BT.node (o_448 P) PySem.W.BT.nil PySem.W.BT.nil) PySem.W.BT.nil)) (PySem.W.BT.node (o_128 P) (PySem.W.BT.node (o_196 P) (PySem.W.BT.node (o_324 P) PySem.W.BT.nil PySem.W.BT.nil) PySem.W.BT.nil) (PySem.W.BT.node (o_260 P) PySem.W.BT.nil PySem.W.BT.nil))))) (PySem.W.BT.node (o_7 P) (PySem.W.BT.node (o_19 P) (PySem.W.BT.node (o_35 P) (PySem.W.BT.node (o_91 P) (PySem.W.BT.node (o_142 P) (PySem.W.BT.node (o_272 P) PySem.W.BT.nil PySem.W.BT.nil) PySem.W.BT.nil) (PySem.W.BT.node (o_208 P) (PySem.W.BT.node (o_336 P) PySem.W.BT.nil PySem.W.BT.nil) PySem.W.BT.nil)) (PySem.W.BT.node (o_108 P) (PySem.W.BT.node (o_176 P) (PySem.W.BT.node (o_304 P) PySem.W.BT.nil PySem.W.BT.nil) PySem.W.BT.nil) (PySem.W.BT.node (o_240 P) (PySem.W.BT.node (o_460 P) PySem.W.BT.nil PySem.W.BT.nil) PySem.W.BT.nil))) (PySem.W.BT.node (o_54 P) (PySem.W.BT.node (o_92 P) (PySem.W.BT.node (o_158 P) (PySem.W.BT.node (o_288 P) PySem.W.BT.nil PySem.W.BT.nil) PySem.W.BT.nil) (PySem.W.BT.node (o_224 P) (PySem.W.BT.node (o_444 P) PySem.W.BT.nil PySem.W.BT.nil) PySem.W.BT.nil)) (PySem.W.BT.node (o_124 P) (PySem.W.BT.node (o_192 P) (PySem.W.BT.node (o_320 P) PySem.W.BT.nil PySem.W.BT.nil) PySem.W.BT.nil) (PySem.W.BT.node (o_256 P) (PySem.W.BT.node (o_476 P) PySem.W.BT.nil PySem.W.BT.nil) PySem.W.BT.nil)))) (PySem.W.BT.node (o_27 P) (PySem.W.BT.node (o_46 P) (PySem.W.BT.node (o_81 P) (PySem.W.BT.node (o_150 P) (PySem.W.BT.node (o_280 P) PySem.W.BT.nil PySem.W.BT.nil) PySem.W.BT.nil) (PySem.W.BT.node (o_216 P) (PySem.W.BT.node (o_436 P) PySem.W.BT.nil PySem.W.BT.nil) PySem.W.BT.nil)) (PySem.W.BT.node (o_116 P) (PySem.W.BT.node (o_184 P) (PySem.W.BT.node (o_312 P) PySem.W.BT.nil PySem.W.BT.nil) PySem.W.BT.nil) (PySem.W.BT.node (o_248 P) (PySem.W.BT.node (o_468 P) PySem.W.BT.nil PySem.W.BT.nil) PySem.W.BT.nil))) (PySem.W.BT.node (o_62 P) (PySem.W.BT.node (o_100 P) (PySem.W.BT.node (o_168 P) (PySem.W.BT.node (o_296 P) PySem.W.BT.nil PySem.W.BT.nil) PySem.W.BT.nil) (PySem.W.BT.node (o_232 P) (PySem.W.BT.node (o_452 P) PySem.W.BT.nil PySem.W.BT.nil) PySem.W.BT.nil)) (PySem.W.BT.node (o_132 P) (PySem.W.BT.node (o_200 P) (PySem.W.BT.node (o_328 P) PySem.W.BT.nil PySem.W.BT.nil) PySem.W.BT.nil) (PySem.W.BT.node (o_264 P) PySem.W.BT.nil PySem.W.BT.nil)))))) (PySem.W.BT.node (PySem.W.boot_o_5 P) (PySem.W.BT.node (PySem.W.boot_o_9 P) (PySem.W.BT.node (o_17 P) (PySem.W.BT.node (o_33 P) (PySem.W.BT.node (o_68 P) (PySem.W.BT.node (o_138 P) (PySem.W.BT.node (o_270 P) PySem.W.BT.nil PySem.W.BT.nil) PySem.W.BT.nil) (PySem.W.BT.node (o_206 P) (PySem.W.BT.node (o_334 P) PySem.W.BT.nil PySem.W.BT.nil) PySem.W.BT.nil)) (PySem.W.BT.node (o_106 P) (PySem.W.BT.node (o_174 P) (PySem.W.BT.node (o_302 P) PySem.W.BT.nil PySem.W.BT.nil) PySem.W.BT.nil) (PySem.W.BT.node (o_238 P) (PySem.W.BT.node (o_458 P) PySem.W.BT.nil PySem.W.BT.nil) PySem.W.BT.nil))) (PySem.W.BT.node (o_52 P) (PySem.W.BT.node (o_87 P) (PySem.W.BT.node (o_156 P) (PySem.W.BT.node (o_286 P) PySem.W.BT.nil PySem.W.BT.nil) PySem.W.BT.nil) (PySem.W.BT.node (o_222 P) (PySem.W.BT.node (o_442 P) PySem.W.BT.nil PySem.W.BT.nil) PySem.W.BT.nil)) (PySem.W.BT.node (o_122 P) (PySem.W.BT.node (o_190 P) (PySem.W.BT.node (o_318 P) PySem.W.BT.nil PySem.W.BT.nil) PySem.W.BT.nil) (PySem.W.BT.node (o_254 P) (PySem.W.BT.node (o_474 P) PySem.W.BT.nil PySem.W.BT.nil) PySem.W.BT.nil)))) (PySem.W.BT.node (o_25 P) (PySem.W.BT.node (o_41 P) (PySem.W.BT.node (o_79 P) (PySem.W.BT.node (o_148 P) (PySem.W.BT.node (o_278 P) PySem.W.BT.nil PySem.W.BT.nil) PySem.W.BT.nil) (PySem.W.BT.node (o_214 P) (PySem.W.BT.node (o_434 P) PySem.W.BT.nil PySem.W.BT.nil) PySem.W.BT.nil)) (PySem.W.BT.node (o_114 P) (PySem.W.BT.node (o_182 P) (PySem.W.BT.node (o_310 P) PySem.W.BT.nil PySem.W.BT.nil) PySem.W.BT.nil) (PySem.W.BT.node (o_246 P) (PySem.W.BT.node (o_466 P) PySem.W.BT.nil PySem.W.BT.nil) PySem.W.BT.nil))) (PySem.W.BT.node (o_60 P) (PySem.W.BT.node (o_98 P) (PySem.W.BT.node (o_166 P) (PySem.W.BT.node (o_294 P) PySem.W.BT.nil PySem.W.BT.nil) PySem.W.BT.nil) (PySem.W.BT.node (o_230 P) (PySem.W.BT.node (o_450 P) PySem.W.BT.nil PySem.W.BT.nil) PySem.W.BT.nil)) (PySem.W.BT.node (o_130 P) (PySem.W.BT.node (o_198 P) (PySem.W.BT.node (o_326 P) PySem.W.BT.nil PySem.W.BT.nil) PySem.W.BT.nil) (PySem.W.BT.node (o_262 P) PySem.W.BT.nil PySem.W.BT.nil))))) (PySem.W.BT.node (o_9 P) (PySem.W.BT.node (o_21 P) (PySem.W.BT.node (o_37 P) (PySem.W.BT.node (o_72 P) (PySem.W.BT.node (o_144 P) (PySem.W.BT.node (o_274 P) PySem.W.BT.nil PySem.W.BT.nil) PySem.W.BT.nil) (PySem.W.BT.node (o_210 P) (PySem.W.BT.node (o_430 P) PySem.W.BT.nil PySem.W.BT.nil) PySem.W.BT.nil)) (PySem.W.BT.node (o_110 P) (PySem.W.BT.node (o_178 P) (PySem.W.BT.node (o_306 P) PySem.W.BT.nil PySem.W.BT.nil) PySem.W.BT.nil) (PySem.W.BT.node (o_242 P) (PySem.W.BT.node (o_462 P) PySem.W.BT.nil PySem.W.BT.nil) PySem.W.BT.nil))) (PySem.W.BT.node (o_56 P) (PySem.W.BT.node (o_94 P) (PySem.W.BT.node (o_160 P) (PySem.W.BT.node (o_290 P) PySem.W.BT.nil PySem.W.BT.nil) PySem.W.BT.nil) (PySem.W.BT.node (o_226 P) (PySem.W.BT.node (o_446 P) PySem.W.BT.nil PySem.W.BT.nil) PySem.W.BT.nil)) (PySem.W.BT.node (o_126 P) (PySem.W.BT.node (o_194 P) (PySem.W.BT.node (o_322 P) PySem.W.BT.nil PySem.W.BT.nil) PySem.W.BT.nil) (PySem.W.BT.node (o_258 P) (PySem.W.BT.node (o_478 P) PySem.W.BT.nil PySem.W.BT.nil) PySem.W.BT.nil)))) (PySem.W.BT.node (o_29 P) (PySem.W.BT.node (o_48 P) (PySem.W.BT.node (o_83 P) (PySem.W.BT.node (o_152 P) (PySem.W.BT.node (o_282 P) PySem.W.BT.nil PySem.W.BT.nil) PySem.W.BT.nil) (PySem.W.BT.node (o_218 P) (PySem.W.BT.node (o_438 P) PySem.W.BT.nil PySem.W.BT.nil) PySem.W.BT.nil)) (PySem.W.BT.node (o_118 P) (PySem.W.BT.node (o_186 P) (PySem.W.BT.node (o_314 P) PySem.W.BT.nil PySem.W.BT.nil) PySem.W.BT.nil) (PySem.W.BT.node (o_250 P) (PySem.W.BT.node (o_470 P) PySem.W.BT.nil PySem.W.BT.nil) PySem.W.BT.nil))) (PySem.W.BT.node (o_64 P) (PySem.W.BT.node (o_102 P) (PySem.W.BT.node (o_170 P) (PySem.W.BT.node (o_298 P) PySem.W.BT.nil PySem.W.BT.nil) PySem.W.BT.nil) (PySem.W.BT.node (o_234 P) (PySem.W.BT.node (o_454 P) PySem.W.BT.nil PySem.W.BT.nil) PySem.W.BT.nil)) (PySem.W.BT.node (o_134 P) (PySem.W.BT.node (o_202 P) (PySem.W.BT.node (o_330 P) PySem.W.BT.nil PySem.W.BT.nil) PySem.W.BT.nil) (PySem.W.BT.node (o_266 P) PySem.W.BT.nil PySem.W.BT.nil))))))) (PySem.W.BT.node (o_42 P) (PySem.W.BT.node (PySem.W.boot_o_4 P) (PySem.W.BT.node (PySem.W.boot_o_8 P) (PySem.W.BT.node (o_16 P) (PySem.W.BT.node (o_32 P) (PySem.W.BT.node (o_67 P) (PySem.W.BT.node (o_137 P) (PySem.W.BT.node (o_269 P) PySem.W.BT.nil PySem.W.BT.nil) PySem.W.BT.nil) (PySem.W.BT.node (o_205 P) (PySem.W.BT.node (o_333 P) PySem.W.BT.nil PySem.W.BT.nil) PySem.W.BT.nil)) (PySem.W.BT.node (o_105 P) (PySem.W.BT.node (o_173 P) (PySem.W.BT.node (o_301 P) PySem.W.BT.nil PySem.W.BT.nil) PySem.W.BT.nil) (PySem.W.BT.node (o_237 P) (PySem.W.BT.node (o_457 P) PySem.W.BT.nil PySem.W.BT.nil) PySem.W.BT.nil))) (PySem.W.BT.node (o_51 P) (PySem.W.BT.node (o_86 P) (PySem.W.BT.node (o_155 P) (PySem.W.BT.node (o_285 P) PySem.W.BT.nil PySem.W.BT.nil) PySem.W.BT.nil) (PySem.W.BT.node (o_221 P) (PySem.W.BT.node (o_441 P) PySem.W.BT.nil PySem.W.BT.nil) PySem.W.BT.nil)) (PySem.W.BT.node (o_121 P) (PySem.W.BT.node (o_189 P) (PySem.W.BT.node (o_317 P) PySem.W.BT.nil PySem.W.BT.nil) PySem.W.BT.nil) (PySem.W.BT.node (o_253 P) (PySem.W.BT.node (o_473 P) PySem.W.BT.nil PySem.W.BT.nil) PySem.W.BT.nil)))) (PySem.W.BT.node (o_24 P) (PySem.W.BT.node (o_40 P) (PySem.W.BT.node (o_78 P) (PySem.W.BT.node (o_147 P) (PySem.W.BT.node (o_277 P) PySem.W.BT.nil PySem.W.BT.nil) PySem.W.BT.nil) (PySem.W.BT.node (o_213 P) (PySem.W.BT.node (o_433 P) PySem.W.BT.nil PySem.W.BT.nil) PySem.W.BT.nil)) (PySem.W.BT.node (o_113 P) (PySem.W.BT.node (o_181 P) (PySem.W.BT.node (o_309 P) PySem.W.BT.nil PySem.W.BT.nil) PySem.W.BT.nil) (PySem.W.BT.node (o_245 P) (PySem.W.BT.node (o_465 P) PySem.W.BT.nil PySem.W.BT.nil) PySem.W.BT.nil))) (PySem.W.BT.node (o_59 P) (PySem.W.BT.node (o_97 P) (PySem.W.BT.node (o_165 P) (PySem.W.BT.node (o_293 P) PySem.W.BT.nil PySem.W.BT.nil) PySem.W.BT.nil) (PySem.W.BT.node (o_229 P) (PySem.W.BT.node (o_449 P) PySem.W.BT.nil PySem.W.BT.nil) PySem.W.BT.nil)) (PySem.W.BT.node (o_129 P) (PySem.W.BT.node (o_197 P) (PySem.W.BT.node (o_325 P) PySem.W.BT.nil PySem.W.BT.nil) PySem.W.BT.nil) (PySem.W.BT.node (o_261 P) PySem.W.BT.nil PySem.W.BT.nil))))) (PySem.W.BT.node (o_429 P) (PySem.W.BT.node (o_20 P) (PySem.W.BT.node (o_36 P) (PySem.W.BT.node (o_71 P) (PySem.W.BT.node (o_143 P) (PySem.W.BT.node (o_273 P) PySem.W.BT.nil PySem.W.BT.nil) PySem.W.BT.nil) (PySem.W.BT.node (o_209 P) (PySem.W.BT.node (o_337 P) PySem.W.BT.nil PySem.W.BT.nil) PySem.W.BT.nil)) (PySem.W.BT.node (o_109 P) (PySem.W.BT.node (o_177 P) (PySem.W.BT.node (o_305 P) PySem.W.BT.nil PySem.W.BT.nil) PySem.W.BT.nil) (PySem.W.BT.node (o_241 P) (PySem.W.BT.node (o_461 P) PySem.W.BT.nil PySem.W.BT.nil) PySem.W.BT.nil))) (PySem.W.BT.node (o_55 P) (PySem.W.BT.node (o_93 P) (PySem.W.BT.node (o_159 P) (PySem.W.BT.node (o_289 P) PySem.W.BT.nil PySem.W.BT.nil) PySem.W.BT.nil) (PySem.W.BT.node (o_225 P) (PySem.W.BT.node (o_445 P) PySem.W.BT.nil PySem.W.BT.nil) PySem.W.BT.nil)) (PySem.W.BT.node (o_125 P) (PySem.W.BT.node (o_193 P) (PySem.W.BT.node (o_321 P) PySem.W.BT.nil PySem.W.BT.nil) PySem.W.BT.nil) (PySem.W.BT.node (o_257 P) (PySem.W.BT.node (o_477 P) PySem.W.BT.nil PySem.W.BT.nil) PySem.W.BT.nil)))) (PySem.W.BT.node (o_28 P) (PySem.W.BT.node (o_47 P) (PySem.W.BT.node (o_82 P) (PySem.W.BT.node (o_151 P) (PySem.W.BT.node (o_281 P) PySem.W.BT.nil PySem.W.BT.nil) PySem.W.BT.nil) (PySem.W.BT.node (o_217 P) (PySem.W.BT.node (o_437 P) PySem.W.BT.nil PySem.W.BT.nil) PySem.W.BT.nil)) (PySem.W.BT.node (o_117 P) (PySem.W.BT.node (o_185 P) (PySem.W.BT.node (o_313 P) PySem.W.BT.nil PySem.W.BT.nil) PySem.W.BT.nil) (PySem.W.BT.node (o_249 P) (PySem.W.BT.node (o_469 P) PySem.W.BT.nil PySem.W.BT.nil) PySem.W.BT.nil))) (PySem.W.BT.node (o_63 P) (PySem.W.BT.node (o_101 P) (PySem.W.BT.node (o_169 P) (PySem.W.BT.node (o_297 P) PySem.W.BT.nil PySem.W.BT.nil) PySem.W.BT.nil) (PySem.W.BT.node (o_233 P) (PySem.W.BT.node (o_453 P) PySem.W.BT.nil PySem.W.BT.nil) PySem.W.BT.nil)) (PySem.W.BT.node (o_133 P) (PySem.W.BT.node (o_201 P) (PySem.W.BT.node (o_329 P) PySem.W.BT.nil PySem.W.BT.nil) PySem.W.BT.nil) (PySem.W.BT.node (o_265 P) PySem.W.BT.nil PySem.W.BT.nil)))))) (PySem.W.BT.node (PySem.W.boot_o_6 P) (PySem.W.BT.node (PySem.W.boot_o_10 P) (PySem.W.BT.node (o_18 P) (PySem.W.BT.node (o_34 P) (PySem.W.BT.node (o_69 P) (PySem.W.BT.node (o_139 P) (PySem.W.BT.node (o_271 P) PySem.W.BT.nil PySem.W.BT.nil) PySem.W.BT.nil) (PySem.W.BT.node (o_207 P) (PySem.W.BT.node (o_335 P) PySem.W.BT.nil PySem.W.BT.nil) PySem.W.BT.nil)) (PySem.W.BT.node (o_107 P) (PySem.W.BT.node (o_175 P) (PySem.W.BT.node (o_303 P) PySem.W.BT.nil PySem.W.BT.nil) PySem.W.BT.nil) (PySem.W.BT.node (o_239 P) (PySem.W.BT.node (o_459 P) PySem.W.BT.nil PySem.W.BT.nil) PySem.W.BT.nil))) (PySem.W.BT.node (o_53 P) (PySem.W.BT.node (o_88 P) (PySem.W.BT.node (o_157 P) (PySem.W.BT.node (o_287 P) PySem.W.BT.nil PySem.W.BT.nil) PySem.W.BT.nil) (PySem.W.BT.node (o_223 P) (PySem.W.BT.node (o_443 P) PySem.W.BT.nil PySem.W.BT.nil) PySem.W.BT.nil)) (PySem.W.BT.node (o_123 P) (PySem.W.BT.node (o_191 P) (PySem.W.BT.node (o_319 P) PySem.W.BT.nil PySem.W.BT.nil) PySem.W.BT.nil) (PySem.W.BT.node (o_255 P) (PySem.W.BT.node (o_475 P) PySem.W.BT.nil PySem.W.BT.nil) PySem.W.BT.nil)))) (PySem.W.BT.node (o_26 P) (PySem.W.BT.node (o_45 P) (PySem.W.BT.node (o_80 P) (PySem.W.BT.node (o_149 P) (PySem.W.BT.node (o_279 P) PySem.W.BT.nil PySem.W.BT.nil) PySem.W.BT.nil) (PySem.W.BT.node (o_215 P) (PySem.W.BT.node (o_435 P) PySem.W.BT.nil PySem.W.BT.nil) PySem.W.BT.nil)) (PySem.W.BT.node (o_115 P) (PySem.W.BT.node (o_183 P) (PySem.W.BT.node (o_311 P) PySem.W.BT.nil PySem.W.BT.nil) PySem.W.BT.nil) (PySem.W.BT.node (o_247 P) (PySem.W.BT.node (o_467 P) PySem.W.BT.nil PySem.W.BT.nil) PySem.W.BT.nil))) (PySem.W.BT.node (o_61 P) (PySem.W.BT.node (o_99 P) (PySem.W.BT.node (o_167 P) (PySem.W.BT.node (o_295 P) PySem.W.BT.nil PySem.W.BT.nil) PySem.W.BT.nil) (PySem.W.BT.node (o_231 P) (PySem.W.BT.node (o_451 P) PySem.W.BT.nil PySem.W.BT.nil) PySem.W.BT.nil)) (PySem.W.BT.node (o_131 P) (PySem.W.BT.node (o_199 P) (PySem.W.BT.node (o_327 P) PySem.W.BT.nil PySem.W.BT.nil) PySem.W.BT.nil) (PySem.W.BT.node (o_263 P) PySem.W.BT.nil PySem.W.BT.nil))))) (PySem.W.BT.node (o_10 P) (PySem.W.BT.node (o_22 P) (PySem.W.BT.node (o_38 P) (PySem.W.BT.node (o_73 P) (PySem.W.BT.node (o_145 P) (PySem.W.BT.node (o_275 P) PySem.W.BT.nil PySem.W.BT.nil) PySem.W.BT.nil) (PySem.W.BT.node (o_211 P) (PySem.W.BT.node (o_431 P) PySem.W.BT.nil PySem.W.BT.nil) PySem.W.BT.nil)) (PySem.W.BT.node (o_111 P) (PySem.W.BT.node (o_179 P) (PySem.W.BT.node (o_307 P) PySem.W.BT.nil PySem.W.BT.nil) PySem.W.BT.nil) (PySem.W.BT.node (o_243 P) (PySem.W.BT.node (o_463 P) PySem.W.BT.nil PySem.W.BT.nil) PySem.W.BT.nil))) (PySem.W.BT.node (o_57 P) (PySem.W.BT.node (o_95 P) (PySem.W.BT.node (o_161 P) (PySem.W.BT.node (o_291 P) PySem.W.BT.nil PySem.W.BT.nil) PySem.W.BT.nil) (PySem.W.BT.node (o_227 P) (PySem.W.BT.node (o_447 P) PySem.W.BT.nil PySem.W.BT.nil) PySem.W.BT.nil)) (PySem.W.BT.node (o_127 P) (PySem.W.BT.node (o_195 P) (PySem.W.BT.node (o_323 P) PySem.W.BT.nil PySem.W.BT.nil) PySem.W.BT.nil) (PySem.W.BT.node (o_259 P) (PySem.W.BT.node (o_479 P) PySem.W.BT.nil PySem.W.BT.nil) PySem.W.BT.nil)))) (PySem.W.BT.node (o_30 P) (PySem.W.BT.node (o_49 P) (PySem.W.BT.node (o_84 P) (PySem.W.BT.node (o_153 P) (PySem.W.BT.node (o_283 P) PySem.W.BT.nil PySem.W.BT.nil) PySem.W.BT.nil) (PySem.W.BT.node (o_219 P) (PySem.W.BT.node (o_439 P) PySem.W.BT.nil PySem.W.BT.nil) PySem.W.BT.nil)) (PySem.W.BT.node (o_119 P) (PySem.W.BT.node (o_187 P) (PySem.W.BT.node (o_315 P) PySem.W.BT.nil PySem.W.BT.nil) PySem.W.BT.nil) (PySem.W.BT.node (o_251 P) (PySem.W.BT.node (o_471 P) PySem.W.BT.nil PySem.W.BT.nil) PySem.W.BT.nil))) (PySem.W.BT.node (o_65 P) (PySem.W.BT.node (o_103 P) (PySem.W.BT.node (o_171 P) (PySem.W.BT.node (o_299 P) PySem.W.BT.nil PySem.W.BT.nil) PySem.W.BT.nil) (PySem.W.BT.node (o_235 P) (PySem.W.BT.node (o_455 P) PySem.W.BT.nil PySem.W.BT.nil) PySem.W.BT.nil)) (PySem.W.BT.node (o_135 P) (PySem.W.BT.node (o_203 P) (PySem.W.BT.node (o_331 P) PySem.W.BT.nil PySem.W.BT.nil) PySem.W.BT.nil) (PySem.W.BT.node (o_267 P) PySem.W.BT.nil PySem.W.BT.nil))))))))
noncomputable def o_480 (P : Params) : Obj := (Obj.mk (Value.type PySem.W.SL.s14018661285674007319x4) Option.none (Data.dict (List.toArray [(DictEntry.mk (PyData.keyHash P z3) (Value.str z3 165) (Value.str z125 624)), (DictEntry.mk (PyData.keyHash P z5) (Value.str z5 166) Value.none), (DictEntry.mk (PyData.keyHash P z6) (Value.str z6 167) Value.none), (DictEntry.mk (PyData.keyHash P z7) (Value.str z7 168) (Value.builtin PySem.W.SL.s7097527257260152453x26)), (DictEntry.mk (PyData.keyHash P z8) (Value.str z8 169) Value.none), (DictEntry.mk (PyData.keyHash P z9) (Value.str z9 170) (Value.ref 6)), (DictEntry.mk (PyData.keyHash P z10) (Value.str z10 171) (Value.ref 4)), (DictEntry.mk (PyData.keyHash P z11) (Value.str z11 173) (Value.str z1 172)), (DictEntry.mk (PyData.keyHash P z12) (Value.str z12 174) Value.none), (DictEntry.mk (PyData.keyHash P z13) (Value.str z13 193) (Value.ref 21)), (DictEntry.mk (PyData.keyHash P z14) (Value.str z14 201) (Value.ref 22)), (DictEntry.mk (PyData.keyHash P z15) (Value.str z15 208) (Value.ref 29)), (DictEntry.mk (PyData.keyHash P z16) (Value.str z16 214) (Value.ref 34)), (DictEntry.mk (PyData.keyHash P z17) (Value.str z17 222) (Value.ref 41)), (DictEntry.mk (PyData.keyHash P z29) (Value.str z29 264) (Value.ref 67)), (DictEntry.mk (PyData.keyHash P z42) (Value.str z42 280) (Value.ref 80)), (DictEntry.mk (PyData.keyHash P z44) (Value.str z44 296) (Value.ref 92)), (DictEntry.mk (PyData.keyHash P z45) (Value.str z45 300) (Value.str z46 299)), (DictEntry.mk (PyData.keyHash P z47) (Value.str z47 308) (Value.ref 101)), (DictEntry.mk (PyData.keyHash P z48) (Value.str z48 317) (Value.ref 109)), (DictEntry.mk (PyData.keyHash P z49) (Value.str z49 328) (Value.ref 116)), (DictEntry.mk (PyData.keyHash P z50) (Value.str z50 335) (Value.ref 123)), (DictEntry.mk (PyData.keyHash P z51) (Value.str z51 342) (Value.ref 130)), (DictEntry.mk (PyData.keyHash P z61) (Value.str z61 351) (Value.ref 137)), (DictEntry.mk (PyData.keyHash P z62) (Value.str z62 364) (Value.ref 144)), (DictEntry.mk (PyData.keyHash P z63) (Value.str z63 368) (Value.str z64 367)), (DictEntry.mk (PyData.keyHash P z65) (Value.str z65 375) (Value.ref 151)), (DictEntry.mk (PyData.keyHash P z75) (Value.str z75 577) (Value.ref 320)), (DictEntry.mk (PyData.keyHash P z126) (Value.str z126 623) (Value.ref 350)), (DictEntry.mk (PyData.keyHash P z127) (Value.str z127 631) (Value.ref 355)), (DictEntry.mk (PyData.keyHash P z128) (Value.str z128 641) (Value.ref 362)), (DictEntry.mk (PyData.keyHash P z129) (Value.str z129 647) (Value.ref 367)), (DictEntry.mk (PyData.keyHash P z130) (Value.str z130 654) (Value.ref 374)), (DictEntry.mk (PyData.keyHash P z139) (Value.str z139 671) (Value.ref 381))]) 34) (List.toArray []))
noncomputable def o_481 (P : Params) : Obj := (Obj.mk Value.none Option.none (Data.fields (List.toArray [(Value.int 1 0), (Value.int 0 0), (Value.ref 20), (Value.int 6 0), (Value.int 0 0), (Value.ref 28), (Value.int 10 0), (Value.int 0 0), (Value.ref 33), (Value.int 12 0), (Value.int 0 0), (Value.ref 40), (Value.int 27 0), (Value.int 0 0), (Value.ref 47), (Value.int 36 0), (Value.int 0 0), (Value.ref 76), (Value.int 38 0), (Value.int 0 0), (Value.ref 88), (Value.int 42 0), (Value.int 0 0), (Value.ref 100), (Value.int 46 0), (Value.int 0 0), (Value.ref 108), (Value.int 53 0), (Value.int 0 0), (Value.ref 115), (Value.int 61 0), (Value.int 0 0), (Value.ref 122), (Value.int 63 0), (Value.int 0 0), (Value.ref 129), (Value.int 65 0), (Value.int 0 0), (Value.ref 136), (Value.int 70 0), (Value.int 0 0), (Value.ref 143), (Value.int 87 0), (Value.int 0 0), (Value.ref 150), (Value.int 89 0), (Value.int 0 0), (Value.ref 157), (Value.int 193 0), (Value.int 0 0), (Value.ref 330), (Value.int 205 0), (Value.int 0 0), (Value.ref 361), (Value.int 209 0), (Value.int 0 0), (Value.ref 366), (Value.int 211 0), (Value.int 0 0), (Value.ref 373), (Value.int 217 0), (Value.int 0 0), (Value.ref 380)])) (List.toArray []))
noncomputable def o_482 (P : Params) : Obj := (Obj.mk (Value.type PySem.W.SL.s2766695959194262286x5) Option.none (Data.seq (List.toArray []) 0) (List.toArray []))
noncomputable def o_483 (P : Params) : Obj := (Obj.mk Value.none Option.none (Data.fields (List.toArray [])) (List.toArray []))
noncomputable def o_484 (P : Params) : Obj := (Obj.mk (Value.type PySem.W.SL.s2766695959194262286x5) Option.none (Data.seq (List.toArray [(Value.str z140 658), (Value.str z136 659), (Value.str z95 660), (Value.str z100 661), (Value.str z26 662), (Value.str z92 663), (Value.str z141 664), (Value.str z142 665), (Value.str z143 666), (Value.str z24 667), (Value.str z144 668)]) 0) (List.toArray []))
noncomputable def o_485 (P : Params) : Obj := (Obj.mk (Value.type PySem.W.SL.s2766695959194262286x5) Option.none (Data.seq (List.toArray []) 0) (List.toArray []))
noncomputable def o_486 (P : Params) : Obj := (Obj.mk Value.none Option.none (Data.func (FuncData.mk z139 z139 (fnA (stR 30)) (FuncBody.stmts (fnB (stR 30))) (fnS (stR 30)) 0 [] Value.none Value.none Value.none Value.none Option.none Value.none Value.none 0)) (List.toArray []))
noncomputable def o_487 (P : Params) : Obj := (Obj.mk (Value.type PySem.W.SL.s5856160107412720595x4) Option.none (Data.fields (List.toArray [(Value.str z139 655), (Value.str z139 656), (Value.str z1 657), (Value.int 217 0), (Value.int 1 0), (Value.int 0 0), (Value.int 0 0), (Value.int 3 0), (Value.ref 375), (Value.bool Bool.true), (Value.int 181 0), (Value.ref 376), Value.none, (Value.ref 377), (Value.ref 378), (Value.ref 379), (Value.int 669 0), (Value.int 217 0), (Value.str z1 670)])) (List.toArray []))
noncomputable def o_488 (P : Params) : Obj := (Obj.mk (Value.type PySem.W.SL.s7174869446012820540x8) Option.none (Data.func (FuncData.mk z139 z139 (fnA (stR 30)) (FuncBody.stmts (fnB (stR 30))) (fnS (stR 30)) 3 [] Value.none Value.none Value.none (Value.str z125 624) Option.none (Value.ref 380) Value.none 0)) (List.toArray []))
noncomputable def tree_488 (P : Params) : PySem.W.BT := (PySem.W.BT.node (PySem.W.boot_o_0 P) (PySem.W.BT.node (PySem.W.boot_o_1 P) (PySem.W.BT.node (o_480 P) (PySem.W.BT.node (PySem.W.boot_o_7 P) (PySem.W.BT.node (o_15 P) (PySem.W.BT.node (o_31 P) (PySem.W.BT.node (o_66 P) (PySem.W.BT.node (o_136 P) (PySem.W.BT.node (o_268 P) PySem.W.BT.nil PySem.W.BT.nil) PySem.W.BT.nil) (PySem.W.BT.node (o_204 P) (PySem.W.BT.node (o_332 P) PySem.W.BT.nil PySem.W.BT.nil) PySem.W.BT.nil)) (PySem.W.BT.node (o_104 P) (PySem.W.BT.node (o_172 P) (PySem.W.BT.node (o_300 P) PySem.W.BT.nil PySem.W.BT.nil) PySem.W.BT.nil) (PySem.W.BT.node (o_236 P) (PySem.W.BT.node (o_456 P) PySem.W.BT.nil PySem.W.BT.nil) PySem.W.BT.nil))) (PySem.W.BT.node (o_50 P) (PySem.W.BT.node (o_85 P) (PySem.W.BT.node (o_154 P) (PySem.W.BT.node (o_284 P) PySem.W.BT.nil PySem.W.BT.nil) PySem.W.BT.nil) (PySem.W.BT.node (o_220 P) (PySem.W.BT.node (o_440 P) PySem.W.BT.nil PySem.W.BT.nil) PySem.W.BT.nil)) (PySem.W.BT.node (o_120 P) (PySem.W.BT.node (o_188 P) (PySem.W.BT.node (o_316 P) PySem.W.BT.nil PySem.W.BT.nil) PySem.W.BT.nil) (PySem.W.BT.node (o_252 P) (PySem.W.BT.node (o_472 P) PySem.W.BT.nil PySem.W.BT.nil) PySem.W.BT.nil)))) (PySem.W.BT.node (o_23 P) (PySem.W.BT.node (o_39 P) (PySem.W.BT.node (o_77 P) (PySem.W.BT.node (o_146 P) (PySem.W.BT.node (o_276 P) PySem.W.BT.nil PySem.W.BT.nil) PySem.W.BT.nil) (PySem.W.BT.node (o_212 P) (PySem.W.BT.node (o_432 P) PySem.W.BT.nil PySem.W.BT.nil) PySem.W.BT.nil)) (PySem.W.BT.node (o_112 P) (PySem.W.BT.node (o_180 P) (PySem.W.BT.node (o_308 P) PySem.W.BT.nil PySem.W.BT.nil) PySem.W.BT.nil) (PySem.W.BT.node (o_244 P) (PySem.W.BT.node (o_464 P) PySem.W.BT.nil PySem.W.BT.nil) PySem.W.BT.nil))) (PySem.W.BT.node (o_58 P) (PySem.W.BT.node (o_96 P) (PySem.W.BT.node (o_162 P) (PySem.W.BT.node (o_292 P) PySem.W.BT.nil PySem.W.BT.nil) PySem.W.BT.nil) (PySem.W.BT.node (o_228 P) (PySem.W.BT.node (o_448 P) PySem.W.BT.nil PySem.W.BT.nil) PySem.W.BT.nil)) (PySem.W.BT.node (o_128 P) (PySem.W.BT.node (o_196 P) (PySem.W.BT.node (o_324 P) PySem.W.BT.nil PySem.W.BT.nil) PySem.W.BT.nil) (PySem.W.BT.node (o_260 P) (PySem.W.BT.node (o_482 P) PySem.W.BT.nil PySem.W.BT.nil) PySem.W.BT.nil))))) (PySem.W.BT.node (o_7 P) (PySem.W.BT.node (o_19 P) (PySem.W.BT.node (o_35 P) (PySem.W.BT.node (o_91 P) (PySem.W.BT.node (o_142 P) (PySem.W.BT.node (o_272 P) PySem.W.BT.nil PySem.W.BT.nil) PySem.W.BT.nil) (PySem.W.BT.node (o_208 P) (PySem.W.BT.node (o_336 P) PySem.W.BT.nil PySem.W.BT.nil) PySem.W.BT.nil)) (PySem.W.BT.node (o_108 P) (PySem.W.BT.node (o_176 P) (PySem.W.BT.node (o_304 P) PySem.W.BT.nil PySem.W.BT.nil) PySem.W.BT.nil) (PySem.W.BT.node (o_240 P) (PySem.W.BT.node (o_460 P) PySem.W.BT.nil PySem.W.BT.nil) PySem.W.BT.nil))) (PySem.W.BT.node (o_54 P) (PySem.W.BT.node (o_92 P) (PySem.W.BT.node (o_158 P) (PySem.W.BT.node (o_288 P) PySem.W.BT.nil PySem.W.BT.nil) PySem.W.BT.nil) (PySem.W.BT.node (o_224 P) (PySem.W.BT.node (o_444 P) PySem.W.BT.nil PySem.W.BT.nil) PySem.W.BT.nil)) (PySem.W.BT.node (o_124 P) (PySem.W.BT.node (o_192 P) (PySem.W.BT.node (o_320 P) PySem.W.BT.nil PySem.W.BT.nil) PySem.W.BT.nil) (PySem.W.BT.node (o_256 P) (PySem.W.BT.node (o_476 P) PySem.W.BT.nil PySem.W.BT.nil) PySem.W.BT.nil)))) (PySem.W.BT.node (o_27 P) (PySem.W.BT.node (o_46 P) (PySem.W.BT.node (o_81 P) (PySem.W.BT.node (o_150 P) (PySem.W.BT.node (o_280 P) PySem.W.BT.nil PySem.W.BT.nil) PySem.W.BT.nil) (PySem.W.BT.node (o_216 P) (PySem.W.BT.node (o_436 P) PySem.W.BT.nil PySem.W.BT.nil) PySem.W.BT.nil)) (PySem.W.BT.node (o_116 P) (PySem.W.BT.node (o_184 P) (PySem.W.BT.node (o_312 P) PySem.W.BT.nil PySem.W.BT.nil) PySem.W.BT.nil) (PySem.W.BT.node (o_248 P) (PySem.W.BT.node (o_468 P) PySem.W.BT.nil PySem.W.BT.nil) PySem.W.BT.nil))) (PySem.W.BT.node (o_62 P) (PySem.W.BT.node (o_100 P) (PySem.W.BT.node (o_168 P) (PySem.W.BT.node (o_296 P) PySem.W.BT.nil PySem.W.BT.nil) PySem.W.BT.nil) (PySem.W.BT.node (o_232 P) (PySem.W.BT.node (o_452 P) PySem.W.BT.nil PySem.W.BT.nil) PySem.W.BT.nil)) (PySem.W.BT.node (o_132 P) (PySem.W.BT.node (o_200 P) (PySem.W.BT.node (o_328 P) PySem.W.BT.nil PySem.W.BT.nil) PySem.W.BT.nil) (PySem.W.BT.node (o_264 P) (PySem.W.BT.node (o_486 P) PySem.W.BT.nil PySem.W.BT.nil) PySem.W.BT.nil)))))) (PySem.W.BT.node (PySem.W.boot_o_5 P) (PySem.W.BT.node (PySem.W.boot_o_9 P) (PySem.W.BT.node (o_17 P) (PySem.W.BT.node (o_33 P) (PySem.W.BT.node (o_68 P) (PySem.W.BT.node (o_138 P) (PySem.W.BT.node (o_270 P) PySem.W.BT.nil PySem.W.BT.nil) PySem.W.BT.nil) (PySem.W.BT.node (o_206 P) (PySem.W.BT.node (o_334 P) PySem.W.BT.nil PySem.W.BT.nil) PySem.W.BT.nil)) (PySem.W.BT.node (o_106 P) (PySem.W.BT.node (o_174 P) (PySem.W.BT.node (o_302 P) PySem.W.BT.nil PySem.W.BT.nil) PySem.W.BT.nil) (PySem.W.BT.node (o_238 P) (PySem.W.BT.node (o_458 P) PySem.W.BT.nil PySem.W.BT.nil) PySem.W.BT.nil))) (PySem.W.BT.node (o_52 P) (PySem.W.BT.node (o_87 P) (PySem.W.BT.node (o_156 P) (PySem.W.BT.node (o_286 P) PySem.W.BT.nil PySem.W.BT.nil) PySem.W.BT.nil) (PySem.W.BT.node (o_222 P) (PySem.W.BT.node (o_442 P) PySem.W.BT.nil PySem.W.BT.nil) PySem.W.BT.nil)) (PySem.W.BT.node (o_122 P) (PySem.W.BT.node (o_190 P) (PySem.W.BT.node (o_318 P) PySem.W.BT.nil PySem.W.BT.nil) PySem.W.BT.nil) (PySem.W.BT.node (o_254 P) (PySem.W.BT.node (o_474 P) PySem.W.BT.nil PySem.W.BT.nil) PySem.W.BT.nil)))) (PySem.W.BT.node (o_25 P) (PySem.W.BT.node (o_41 P) (PySem.W.BT.node (o_79 P) (PySem.W.BT.node (o_148 P) (PySem.W.BT.node (o_278 P) PySem.W.BT.nil PySem.W.BT.nil) PySem.W.BT.nil) (PySem.W.BT.node (o_214 P) (PySem.W.BT.node (o_434 P) PySem.W.BT.nil PySem.W.BT.nil) PySem.W.BT.nil)) (PySem.W.BT.node (o_114 P) (PySem.W.BT.node (o_182 P) (PySem.W.BT.node (o_310 P) PySem.W.BT.nil PySem.W.BT.nil) PySem.W.BT.nil) (PySem.W.BT.node (o_246 P) (PySem.W.BT.node (o_466 P) PySem.W.BT.nil PySem.W.BT.nil) PySem.W.BT.nil))) (PySem.W.BT.node (o_60 P) (PySem.W.BT.node (o_98 P) (PySem.W.BT.node (o_166 P) (PySem.W.BT.node (o_294 P) PySem.W.BT.nil PySem.W.BT.nil) PySem.W.BT.nil) (PySem.W.BT.node (o_230 P) (PySem.W.BT.node (o_450 P) PySem.W.BT.nil PySem.W.BT.nil) PySem.W.BT.nil)) (PySem.W.BT.node (o_130 P) (PySem.W.BT.node (o_198 P) (PySem.W.BT.node (o_326 P) PySem.W.BT.nil PySem.W.BT.nil) PySem.W.BT.nil) (PySem.W.BT.node (o_262 P) (PySem.W.BT.node (o_484 P) PySem.W.BT.nil PySem.W.BT.nil) PySem.W.BT.nil))))) (PySem.W.BT.node (o_9 P) (PySem.W.BT.node (o_21 P) (PySem.W.BT.node (o_37 P) (PySem.W.BT.node (o_72 P) (PySem.W.BT.node (o_144 P) (PySem.W.BT.node (o_274 P) PySem.W.BT.nil PySem.W.BT.nil) PySem.W.BT.nil) (PySem.W.BT.node (o_210 P) (PySem.W.BT.node (o_430 P) PySem.W.BT.nil PySem.W.BT.nil) PySem.W.BT.nil)) (PySem.W.BT.node (o_110 P) (PySem.W.BT.node (o_178 P) (PySem.W.BT.node (o_306 P) PySem.W.BT.nil PySem.W.BT.nil) PySem.W.BT.nil) (PySem.W.BT.node (o_242 P) (PySem.W.BT.node (o_462 P) PySem.W.BT.nil PySem.W.BT.nil) PySem.W.BT.nil))) (PySem.W.BT.node (o_56 P) (PySem.W.BT.node (o_94 P) (PySem.W.BT.node (o_160 P) (PySem.W.BT.node (o_290 P) PySem.W.BT.nil PySem.W.BT.nil) PySem.W.BT.nil) (PySem.W.BT.node (o_226 P) (PySem.W.BT.node (o_446 P) PySem.W.BT.nil PySem.W.BT.nil) PySem.W.BT.nil)) (PySem.W.BT.node (o_126 P) (PySem.W.BT.node (o_194 P) (PySem.W.BT.node (o_322 P) PySem.W.BT.nil PySem.W.BT.nil) PySem.W.BT.nil) (PySem.W.BT.node (o_258 P) (PySem.W.BT.node (o_478 P) PySem.W.BT.nil PySem.W.BT.nil) PySem.W.BT.nil)))) (PySem.W.BT.node (o_29 P) (PySem.W.BT.node (o_48 P) (PySem.W.BT.node (o_83 P) (PySem.W.BT.node (o_152 P) (PySem.W.BT.node (o_282 P) PySem.W.BT.nil PySem.W.BT.nil) PySem.W.BT.nil) (PySem.W.BT.node (o_218 P) (PySem.W.BT.node (o_438 P) PySem.W.BT.nil PySem.W.BT.nil) PySem.W.BT.nil)) (PySem.W.BT.node (o_118 P) (PySem.W.BT.node (o_186 P) (PySem.W.BT.node (o_314 P) PySem.W.BT.nil PySem.W.BT.nil) PySem.W.BT.nil) (PySem.W.BT.node (o_250 P) (PySem.W.BT.node (o_470 P) PySem.W.BT.nil PySem.W.BT.nil) PySem.W.BT.nil))) (PySem.W.BT.node (o_64 P) (PySem.W.BT.node (o_102 P) (PySem.W.BT.node (o_170 P) (PySem.W.BT.node (o_298 P) PySem.W.BT.nil PySem.W.BT.nil) PySem.W.BT.nil) (PySem.W.BT.node (o_234 P) (PySem.W.BT.node (o_454 P) PySem.W.BT.nil PySem.W.BT.nil) PySem.W.BT.nil)) (PySem.W.BT.node (o_134 P) (PySem.W.BT.node (o_202 P) (PySem.W.BT.node (o_330 P) PySem.W.BT.nil PySem.W.BT.nil) PySem.W.BT.nil) (PySem.W.BT.node (o_266 P) (PySem.W.BT.node (o_488 P) PySem.W.BT.nil PySem.W.BT.nil) PySem.W.BT.nil))))))) (PySem.W.BT.node (o_42 P) (PySem.W.BT.node (PySem.W.boot_o_4 P) (PySem.W.BT.node (PySem.W.boot_o_8 P) (PySem.W.BT.node (o_16 P) (PySem.W.BT.node (o_32 P) (PySem.W.BT.node (o_67 P) (PySem.W.BT.node (o_137 P) (PySem.W.BT.node (o_269 P) PySem.W.BT.nil PySem.W.BT.nil) PySem.W.BT.nil) (PySem.W.BT.node (o_205 P) (PySem.W.BT.node (o_333 P) PySem.W.BT.nil PySem.W.BT.nil) PySem.W.BT.nil)) (PySem.W.BT.node (o_105 P) (PySem.W.BT.node (o_173 P) (PySem.W.BT.node (o_301 P) PySem.W.BT.nil PySem.W.BT.nil) PySem.W.BT.nil) (PySem.W.BT.node (o_237 P) (PySem.W.BT.node (o_457 P) PySem.W.BT.nil PySem.W.BT.nil) PySem.W.BT.nil))) (PySem.W.BT.node (o_51 P) (PySem.W.BT.node (o_86 P) (PySem.W.BT.node (o_155 P) (PySem.W.BT.node (o_285 P) PySem.W.BT.nil PySem.W.BT.nil) PySem.W.BT.nil) (PySem.W.BT.node (o_221 P) (PySem.W.BT.node (o_441 P) PySem.W.BT.nil PySem.W.BT.nil) PySem.W.BT.nil)) (PySem.W.BT.node (o_121 P) (PySem.W.BT.node (o_189 P) (PySem.W.BT.node (o_317 P) PySem.W.BT.nil PySem.W.BT.nil) PySem.W.BT.nil) (PySem.W.BT.node (o_253 P) (PySem.W.BT.node (o_473 P) PySem.W.BT.nil PySem.W.BT.nil) PySem.W.BT.nil)))) (PySem.W.BT.node (o_24 P) (PySem.W.BT.node (o_40 P) (PySem.W.BT.node (o_78 P) (PySem.W.BT.node (o_147 P) (PySem.W.BT.node (o_277 P) PySem.W.BT.nil PySem.W.BT.nil) PySem.W.BT.nil) (PySem.W.BT.node (o_213 P) (PySem.W.BT.node (o_433 P) PySem.W.BT.nil PySem.W.BT.nil) PySem.W.BT.nil)) (PySem.W.BT.node (o_113 P) (PySem.W.BT.node (o_181 P) (PySem.W.BT.node (o_309 P) PySem.W.BT.nil PySem.W.BT.nil) PySem.W.BT.nil) (PySem.W.BT.node (o_245 P) (PySem.W.BT.node (o_465 P) PySem.W.BT.nil PySem.W.BT.nil) PySem.W.BT.nil))) (PySem.W.BT.node (o_59 P) (PySem.W.BT.node (o_97 P) (PySem.W.BT.node (o_165 P) (PySem.W.BT.node (o_293 P) PySem.W.BT.nil PySem.W.BT.nil) PySem.W.BT.nil) (PySem.W.BT.node (o_229 P) (PySem.W.BT.node (o_449 P) PySem.W.BT.nil PySem.W.BT.nil) PySem.W.BT.nil)) (PySem.W.BT.node (o_129 P) (PySem.W.BT.node (o_197 P) (PySem.W.BT.node (o_325 P) PySem.W.BT.nil PySem.W.BT.nil) PySem.W.BT.nil) (PySem.W.BT.node (o_261 P) (PySem.W.BT.node (o_483 P) PySem.W.BT.nil PySem.W.BT.nil) PySem.W.BT.nil))))) (PySem.W.BT.node (o_481 P) (PySem.W.BT.node (o_20 P) (PySem.W.BT.node (o_36 P) (PySem.W.BT.node (o_71 P) (PySem.W.BT.node (o_143 P) (PySem.W.BT.node (o_273 P) PySem.W.BT.nil PySem.W.BT.nil) PySem.W.BT.nil) (PySem.W.BT.node (o_209 P) (PySem.W.BT.node (o_337 P) PySem.W.BT.nil PySem.W.BT.nil) PySem.W.BT.nil)) (PySem.W.BT.node (o_109 P) (PySem.W.BT.node (o_177 P) (PySem.W.BT.node (o_305 P) PySem.W.BT.nil PySem.W.BT.nil) PySem.W.BT.nil) (PySem.W.BT.node (o_241 P) (PySem.W.BT.node (o_461 P) PySem.W.BT.nil PySem.W.BT.nil) PySem.W.BT.nil))) (PySem.W.BT.node (o_55 P) (PySem.W.BT.node (o_93 P) (PySem.W.BT.node (o_159 P) (PySem.W.BT.node (o_289 P) PySem.W.BT.nil PySem.W.BT.nil) PySem.W.BT.nil) (PySem.W.BT.node (o_225 P) (PySem.W.BT.node (o_445 P) PySem.W.BT.nil PySem.W.BT.nil) PySem.W.BT.nil)) (PySem.W.BT.node (o_125 P) (PySem.W.BT.node (o_193 P) (PySem.W.BT.node (o_321 P) PySem.W.BT.nil PySem.W.BT.nil) PySem.W.BT.nil) (PySem.W.BT.node (o_257 P) (PySem.W.BT.node (o_477 P) PySem.W.BT.nil PySem.W.BT.nil) PySem.W.BT.nil)))) (PySem.W.BT.node (o_28 P) (PySem.W.BT.node (o_47 P) (PySem.W.BT.node (o_82 P) (PySem.W.BT.node (o_151 P) (PySem.W.BT.node (o_281 P) PySem.W.BT.nil PySem.W.BT.nil) PySem.W.BT.nil) (PySem.W.BT.node (o_217 P) (PySem.W.BT.node (o_437 P) PySem.W.BT.nil PySem.W.BT.nil) PySem.W.BT.nil)) (PySem.W.BT.node (o_117 P) (PySem.W.BT.node (o_185 P) (PySem.W.BT.node (o_313 P) PySem.W.BT.nil PySem.W.BT.nil) PySem.W.BT.nil) (PySem.W.BT.node (o_249 P) (PySem.W.BT.node (o_469 P) PySem.W.BT.nil PySem.W.BT.nil) PySem.W.BT.nil))) (PySem.W.BT.node (o_63 P) (PySem.W.BT.node (o_101 P) (PySem.W.BT.node (o_169 P) (PySem.W.BT.node (o_297 P) PySem.W.BT.nil PySem.W.BT.nil) PySem.W.BT.nil) (PySem.W.BT.node (o_233 P) (PySem.W.BT.node (o_453 P) PySem.W.BT.nil PySem.W.BT.nil) PySem.W.BT.nil)) (PySem.W.BT.node (o_133 P) (PySem.W.BT.node (o_201 P) (PySem.W.BT.node (o_329 P) PySem.W.BT.nil PySem.W.BT.nil) PySem.W.BT.nil) (PySem.W.BT.node (o_265 P) (PySem.W.BT.node (o_487 P) PySem.W.BT.nil PySem.W.BT.nil) PySem.W.BT.nil)))))) (PySem.W.BT.node (PySem.W.boot_o_6 P) (PySem.W.BT.node (PySem.W.boot_o_10 P) (PySem.W.BT.node (o_18 P) (PySem.W.BT.node (o_34 P) (PySem.W.BT.node (o_69 P) (PySem.W.BT.node (o_139 P) (PySem.W.BT.node (o_271 P) PySem.W.BT.nil PySem.W.BT.nil) PySem.W.BT.nil) (PySem.W.BT.node (o_207 P) (PySem.W.BT.node (o_335 P) PySem.W.BT.nil PySem.W.BT.nil) PySem.W.BT.nil)) (PySem.W.BT.node (o_107 P) (PySem.W.BT.node (o_175 P) (PySem.W.BT.node (o_303 P) PySem.W.BT.nil PySem.W.BT.nil) PySem.W.BT.nil) (PySem.W.BT.node (o_239 P) (PySem.W.BT.node (o_459 P) PySem.W.BT.nil PySem.W.BT.nil) PySem.W.BT.nil))) (PySem.W.BT.node (o_53 P) (PySem.W.BT.node (o_88 P) (PySem.W.BT.node (o_157 P) (PySem.W.BT.node (o_287 P) PySem.W.BT.nil PySem.W.BT.nil) PySem.W.BT.nil) (PySem.W.BT.node (o_223 P) (PySem.W.BT.node (o_443 P) PySem.W.BT.nil PySem.W.BT.nil) PySem.W.BT.nil)) (PySem.W.BT.node (o_123 P) (PySem.W.BT.node (o_191 P) (PySem.W.BT.node (o_319 P) PySem.W.BT.nil PySem.W.BT.nil) PySem.W.BT.nil) (PySem.W.BT.node (o_255 P) (PySem.W.BT.node (o_475 P) PySem.W.BT.nil PySem.W.BT.nil) PySem.W.BT.nil)))) (PySem.W.BT.node (o_26 P) (PySem.W.BT.node (o_45 P) (PySem.W.BT.node (o_80 P) (PySem.W.BT.node (o_149 P) (PySem.W.BT.node (o_279 P) PySem.W.BT.nil PySem.W.BT.nil) PySem.W.BT.nil) (PySem.W.BT.node (o_215 P) (PySem.W.BT.node (o_435 P) PySem.W.BT.nil PySem.W.BT.nil) PySem.W.BT.nil)) (PySem.W.BT.node (o_115 P) (PySem.W.BT.node (o_183 P) (PySem.W.BT.node (o_311 P) PySem.W.BT.nil PySem.W.BT.nil) PySem.W.BT.nil) (PySem.W.BT.node (o_247 P) (PySem.W.BT.node (o_467 P) PySem.W.BT.nil PySem.W.BT.nil) PySem.W.BT.nil))) (PySem.W.BT.node (o_61 P) (PySem.W.BT.node (o_99 P) (PySem.W.BT.node (o_167 P) (PySem.W.BT.node (o_295 P) PySem.W.BT.nil PySem.W.BT.nil) PySem.W.BT.nil) (PySem.W.BT.node (o_231 P) (PySem.W.BT.node (o_451 P) PySem.W.BT.nil PySem.W.BT.nil) PySem.W.BT.nil)) (PySem.W.BT.node (o_131 P) (PySem.W.BT.node (o_199 P) (PySem.W.BT.node (o_327 P) PySem.W.BT.nil PySem.W.BT.nil) PySem.W.BT.nil) (PySem.W.BT.node (o_263 P) (PySem.W.BT.node (o_485 P) PySem.W.BT.nil PySem.W.BT.nil) PySem.W.BT.nil))))) (PySem.W.BT.node (o_10 P) (PySem.W.BT.node (o_22 P) (PySem.W.BT.node (o_38 P) (PySem.W.BT.node (o_73 P) (PySem.W.BT.node (o_145 P) (PySem.W.BT.node (o_275 P) PySem.W.BT.nil PySem.W.BT.nil) PySem.W.BT.nil) (PySem.W.BT.node (o_211 P) (PySem.W.BT.node (o_431 P) PySem.W.BT.nil PySem.W.BT.nil) PySem.W.BT.nil)) (PySem.W.BT.node (o_111 P) (PySem.W.BT.node (o_179 P) (PySem.W.BT.node (o_307 P) PySem.W.BT.nil PySem.W.BT.nil) PySem.W.BT.nil) (PySem.W.BT.node (o_243 P) (PySem.W.BT.node (o_463 P) PySem.W.BT.nil PySem.W.BT.nil) PySem.W.BT.nil))) (PySem.W.BT.node (o_57 P) (PySem.W.BT.node (o_95 P) (PySem.W.BT.node (o_161 P) (PySem.W.BT.node (o_291 P) PySem.W.BT.nil PySem.W.BT.nil) PySem.W.BT.nil) (PySem.W.BT.node (o_227 P) (PySem.W.BT.node (o_447 P) PySem.W.BT.nil PySem.W.BT.nil) PySem.W.BT.nil)) (PySem.W.BT.node (o_127 P) (PySem.W.BT.node (o_195 P) (PySem.W.BT.node (o_323 P) PySem.W.BT.nil PySem.W.BT.nil) PySem.W.BT.nil) (PySem.W.BT.node (o_259 P) (PySem.W.BT.node (o_479 P) PySem.W.BT.nil PySem.W.BT.nil) PySem.W.BT.nil)))) (PySem.W.BT.node (o_30 P) (PySem.W.BT.node (o_49 P) (PySem.W.BT.node (o_84 P) (PySem.W.BT.node (o_153 P) (PySem.W.BT.node (o_283 P) PySem.W.BT.nil PySem.W.BT.nil) PySem.W.BT.nil) (PySem.W.BT.node (o_219 P) (PySem.W.BT.node (o_439 P) PySem.W.BT.nil PySem.W.BT.nil) PySem.W.BT.nil)) (PySem.W.BT.node (o_119 P) (PySem.W.BT.node (o_187 P) (PySem.W.BT.node (o_315 P) PySem.W.BT.nil PySem.W.BT.nil) PySem.W.BT.nil) (PySem.W.BT.node (o_251 P) (PySem.W.BT.node (o_471 P) PySem.W.BT.nil PySem.W.BT.nil) PySem.W.BT.nil))) (PySem.W.BT.node (o_65 P) (PySem.W.BT.node (o_103 P) (PySem.W.BT.node (o_171 P) (PySem.W.BT.node (o_299 P) PySem.W.BT.nil PySem.W.BT.nil) PySem.W.BT.nil) (PySem.W.BT.node (o_235 P) (PySem.W.BT.node (o_455 P) PySem.W.BT.nil PySem.W.BT.nil) PySem.W.BT.nil)) (PySem.W.BT.node (o_135 P) (PySem.W.BT.node (o_203 P) (PySem.W.BT.node (o_331 P) PySem.W.BT.nil PySem.W.BT.nil) PySem.W.BT.nil) (PySem.W.BT.node (o_267 P) PySem.W.BT.nil PySem.W.BT.nil))))))))
noncomputable def heap_489 (P : Params) : Heap := (Heap.mk (Array.mk [(PySem.W.boot_o_0 P), (PySem.W.boot_o_1 P), (o_42 P), (o_480 P), (PySem.W.boot_o_4 P), (PySem.W.boot_o_5 P), (PySem.W.boot_o_6 P), (PySem.W.boot_o_7 P), (PySem.W.boot_o_8 P), (PySem.W.boot_o_9 P), (PySem.W.boot_o_10 P), (o_7 P), (o_481 P), (o_9 P), (o_10 P), (o_15 P), (o_16 P), (o_17 P), (o_18 P), (o_19 P), (o_20 P), (o_21 P), (o_22 P), (o_23 P), (o_24 P), (o_25 P), (o_26 P), (o_27 P), (o_28 P), (o_29 P), (o_30 P), (o_31 P), (o_32 P), (o_33 P), (o_34 P), (o_35 P), (o_36 P), (o_37 P), (o_38 P), (o_39 P), (o_40 P), (o_41 P), (o_45 P), (o_46 P), (o_47 P), (o_48 P), (o_49 P), (o_50 P), (o_51 P), (o_52 P), (o_53 P), (o_54 P), (o_55 P), (o_56 P), (o_57 P), (o_58 P), (o_59 P), (o_60 P), (o_61 P), (o_62 P), (o_63 P), (o_64 P), (o_65 P), (o_66 P), (o_67 P), (o_68 P), (o_69 P), (o_91 P), (o_71 P), (o_72 P), (o_73 P), (o_77 P), (o_78 P), (o_79 P), (o_80 P), (o_81 P), (o_82 P), (o_83 P), (o_84 P), (o_85 P), (o_86 P), (o_87 P), (o_88 P), (o_92 P), (o_93 P), (o_94 P), (o_95 P), (o_96 P), (o_97 P), (o_98 P), (o_99 P), (o_100 P), (o_101 P), (o_102 P), (o_103 P), (o_104 P), (o_105 P), (o_106 P), (o_107 P), (o_108 P), (o_109 P), (o_110 P), (o_111 P), (o_112 P), (o_113 P), (o_114 P), (o_115 P), (o_116 P), (o_117 P), (o_118 P), (o_119 P), (o_120 P), (o_121 P), (o_122 P), (o_123 P), (o_124 P), (o_125 P), (o_126 P), (o_127 P), (o_128 P), (o_129 P), (o_130 P), (o_131 P), (o_132 P), (o_133 P), (o_134 P), (o_135 P), (o_136 P), (o_137 P), (o_138 P), (o_139 P), (o_142 P), (o_143 P), (o_144 P), (o_145 P), (o_146 P), (o_147 P), (o_148 P), (o_149 P), (o_150 P), (o_151 P), (o_152 P), (o_153 P), (o_154 P), (o_155 P), (o_156 P), (o_157 P), (o_158 P), (o_159 P), (o_160 P), (o_161 P), (o_162 P), (o_165 P), (o_166 P), (o_167 P), (o_168 P), (o_169 P), (o_170 P), (o_171 P), (o_172 P), (o_173 P), (o_174 P), (o_175 P), (o_176 P), (o_177 P), (o_178 P), (o_179 P), (o_180 P), (o_181 P), (o_182 P), (o_183 P), (o_184 P), (o_185 P), (o_186 P), (o_187 P), (o_188 P), (o_189 P), (o_190 P), (o_191 P), (o_192 P), (o_193 P), (o_194 P), (o_195 P), (o_196 P), (o_197 P), (o_198 P), (o_199 P), (o_200 P), (o_201 P), (o_202 P), (o_203 P), (o_204 P), (o_205 P), (o_206 P), (o_207 P), (o_208 P), (o_209 P), (o_210 P), (o_211 P), (o_212 P), (o_213 P), (o_214 P), (o_215 P), (o_216 P), (o_217 P), (o_218 P), (o_219 P), (o_220 P), (o_221 P), (o_222 P), (o_223 P), (o_224 P), (o_225 P), (o_226 P), (o_227 P), (o_228 P), (o_229 P), (o_230 P), (o_231 P), (o_232 P), (o_233 P), (o_234 P), (o_235 P), (o_236 P), (o_237 P), (o_238 P), (o_239 P), (o_240 P), (o_241 P), (o_242 P), (o_243 P), (o_244 P), (o_245 P), (o_246 P), (o_247 P), (o_248 P), (o_249 P), (o_250 P), (o_251 P), (o_252 P), (o_253 P), (o_254 P), (o_255 P), (o_256 P), (o_257 P), (o_258 P), (o_259 P), (o_260 P), (o_261 P), (o_262 P), (o_263 P), (o_264 P), (o_265 P), (o_266 P), (o_267 P), (o_268 P), (o_269 P), (o_270 P), (o_271 P), (o_272 P), (o_273 P), (o_274 P), (o_275 P), (o_276 P), (o_277 P), (o_278 P), (o_279 P), (o_280 P), (o_281 P), (o_282 P), (o_283 P), (o_284 P), (o_285 P), (o_286 P), (o_287 P), (o_288 P), (o_289 P), (o_290 P), (o_291 P), (o_292 P), (o_293 P), (o_294 P), (o_295 P), (o_296 P), (o_297 P), (o_298 P), (o_299 P), (o_300 P), (o_301 P), (o_302 P), (o_303 P), (o_304 P), (o_305 P), (o_306 P), (o_307 P), (o_308 P), (o_309 P), (o_310 P), (o_311 P), (o_312 P), (o_313 P), (o_314 P), (o_315 P), (o_316 P), (o_317 P), (o_318 P), (o_319 P), (o_320 P), (o_321 P), (o_322 P), (o_323 P), (o_324 P), (o_325 P), (o_326 P), (o_327 P), (o_328 P), (o_329 P), (o_330 P), (o_331 P), (o_332 P), (o_333 P), (o_334 P), (o_335 P), (o_336 P), (o_337 P), (o_430 P), (o_431 P), (o_432 P), (o_433 P), (o_434 P), (o_435 P), (o_436 P), (o_437 P), (o_438 P), (o_439 P), (o_440 P), (o_441 P), (o_442 P), (o_443 P), (o_444 P), (o_445 P), (o_446 P), (o_447 P), (o_448 P), (o_449 P), (o_450 P), (o_451 P), (o_452 P), (o_453 P), (o_454 P), (o_455 P), (o_456 P), (o_457 P), (o_458 P), (o_459 P), (o_460 P), (o_461 P), (o_462 P), (o_463 P), (o_464 P), (o_465 P), (o_466 P), (o_467 P), (o_468 P), (o_469 P), (o_470 P), (o_471 P), (o_472 P), (o_473 P), (o_474 P), (o_475 P), (o_476 P), (o_477 P), (o_478 P), (o_479 P), (o_482 P), (o_483 P), (o_484 P), (o_485 P), (o_486 P), (o_487 P), (o_488 P)]) (Life.mk [] [] [] 0 [] [] Bool.false (List.toArray []) [] 0 Bool.false Bool.false Bool.false 0 [2000, 10, 10] Bool.false 0 Bool.true [] [] 0 Bool.false))

set_option maxHeartbeats 0 in
theorem p11 : ∀ (w : PySem.World), (fun os => PySem.W.topGo PySem.treeTable pR w 11 (Option.some (PySem.Value.ref 6)) 12 { heap := PySem.W.boot_heap w.params, drawn := PySem.W.boot_drawn, toks := PySem.W.boot_toks, os := os } (PySem.W.topStub pR)) = fun os => Option.some ({ heap := heap_10 w.params, toks := 187, os := os }, { cur := PySem.denote PySem.treeTable (PySem.Code.body (PySem.W.behindTheImports pR) env_5), code := PySem.Code.body (PySem.W.behindTheImports pR) env_5, pos := { line := 0, col := 0, endLine := 0, endCol := 0 }, stack := [PySem.W.topFrame { line := 0, col := 0, endLine := 0, endCol := 0 }] }) := by
  intro w
  rewrite [PySem.W.Fast.te15667345088766844465, PySem.W.Fast.te14364793385576792824, PySem.W.Fast.te11892475500146522536]
  kernel_rfl
set_option maxHeartbeats 0 in
theorem p13 : ∀ (w : PySem.World), (fun os => PySem.W.segRun PySem.treeTable pR w 11 (Option.some (PySem.Value.ref 6)) 1 1 { heap := heap_10 w.params, toks := 187, os := os } (PySem.W.blockOf (PySem.W.behindTheImports pR) env_5 (PySem.Code.body (PySem.W.behindTheImports pR) env_5) { line := 0, col := 0, endLine := 0, endCol := 0 } [PySem.W.topFrame { line := 0, col := 0, endLine := 0, endCol := 0 }])) = fun os => Option.some (PySem.Flow.next, (PySem.W.SharedT.abs { tree := tree_11 w.params, n := 15, life := { }, gens := { toList := [] }, drawn := { }, toks := 187, os := os }), PySem.Code.body (PySem.W.behindTheImports pR) env_5, { line := 0, col := 0, endLine := 0, endCol := 0 }) := by
  intro w
  rewrite [PySem.W.Fast.te14374325043358763698, PySem.W.Fast.te14364793385576792824]
  kernel_rfl

set_option maxHeartbeats 0 in
theorem p42 : ∀ (w : PySem.World), (fun os => PySem.W.segRunT PySem.treeTable pR w 11 (Option.some (PySem.Value.ref 6)) 1 148 { tree := tree_11 w.params, n := 15, life := { }, gens := { toList := [] }, drawn := { }, toks := 187, os := os } (PySem.W.piecesOf (stsR 0 7) env_5 (PySem.Code.body (PySem.W.behindTheImports pR) env_5) { line := 0, col := 0, endLine := 0, endCol := 0 } [PySem.W.topFrame { line := 0, col := 0, endLine := 0, endCol := 0 }])) = fun os => Option.some (PySem.Flow.next, { tree := tree_41 w.params, n := 42, life := { }, gens := { toList := [] }, drawn := { }, toks := 225, os := os }, PySem.Code.body (PySem.W.behindTheImports pR) env_5, { line := 26, col := 0, endLine := 26, endCol := 8 }) := by
  intro w
  rewrite [PySem.W.Fast.te10110043849684766642, PySem.W.Fast.te14364793385576792824]
  kernel_rfl

set_option maxHeartbeats 0 in
theorem p74 : ∀ (w : PySem.World), (fun os => PySem.W.segRunT PySem.treeTable pR w 11 (Option.some (PySem.Value.ref 6)) 1 267 { tree := tree_41 w.params, n := 42, life := { }, gens := { toList := [] }, drawn := { }, toks := 225, os := os } (PySem.W.piecesOf (stsR 7 1) env_5 (PySem.Code.body (PySem.W.behindTheImports pR) env_5) { line := 26, col := 0, endLine := 26, endCol := 8 } [PySem.W.topFrame { line := 0, col := 0, endLine := 0, endCol := 0 }])) = fun os => Option.some (PySem.Flow.next, { tree := tree_73 w.params, n := 71, life := { }, gens := { toList := [] }, drawn := { }, toks := 265, os := os }, PySem.Code.body (PySem.W.behindTheImports pR) env_5, { line := 27, col := 0, endLine := 35, endCol := 16 }) := by
  intro w
  rewrite [PySem.W.Fast.te10110043849684766642, PySem.W.Fast.te14364793385576792824]
  kernel_rfl

set_option maxHeartbeats 0 in
theorem p89 : ∀ (w : PySem.World), (fun os => PySem.W.segRunT PySem.treeTable pR w 11 (Option.some (PySem.Value.ref 6)) 1 214 { tree := tree_73 w.params, n := 71, life := { }, gens := { toList := [] }, drawn := { }, toks := 265, os := os } (PySem.W.piecesOf (stsR 8 1) env_5 (PySem.Code.body (PySem.W.behindTheImports pR) env_5) { line := 27, col := 0, endLine := 35, endCol := 16 } [PySem.W.topFrame { line := 0, col := 0, endLine := 0, endCol := 0 }])) = fun os => Option.some (PySem.Flow.next, { tree := tree_88 w.params, n := 83, life := { }, gens := { toList := [] }, drawn := { }, toks := 281, os := os }, PySem.Code.body (PySem.W.behindTheImports pR) env_5, { line := 36, col := 0, endLine := 37, endCol := 8 }) := by
  intro w
  rewrite [PySem.W.Fast.te10110043849684766642, PySem.W.Fast.te14364793385576792824]
  kernel_rfl

set_option maxHeartbeats 0 in
theorem p140 : ∀ (w : PySem.World), (fun os => PySem.W.segRunT PySem.treeTable pR w 11 (Option.some (PySem.Value.ref 6)) 1 385 { tree := tree_88 w.params, n := 83, life := { }, gens := { toList := [] }, drawn := { }, toks := 281, os := os } (PySem.W.piecesOf (stsR 9 8) env_5 (PySem.Code.body (PySem.W.behindTheImports pR) env_5) { line := 36, col := 0, endLine := 37, endCol := 8 } [PySem.W.topFrame { line := 0, col := 0, endLine := 0, endCol := 0 }])) = fun os => Option.some (PySem.Flow.next, { tree := tree_139 w.params, n := 131, life := { }, gens := { toList := [] }, drawn := { }, toks := 343, os := os }, PySem.Code.body (PySem.W.behindTheImports pR) env_5, { line := 63, col := 0, endLine := 64, endCol := 32 }) := by
  intro w
  rewrite [PySem.W.Fast.te10110043849684766642, PySem.W.Fast.te14364793385576792824]
  kernel_rfl

set_option maxHeartbeats 0 in
theorem p163 : ∀ (w : PySem.World), (fun os => PySem.W.segRunT PySem.treeTable pR w 11 (Option.some (PySem.Value.ref 6)) 1 114 { tree := tree_139 w.params, n := 131, life := { }, gens := { toList := [] }, drawn := { }, toks := 343, os := os } (PySem.W.piecesOf (stsR 17 5) env_5 (PySem.Code.body (PySem.W.behindTheImports pR) env_5) { line := 63, col := 0, endLine := 64, endCol := 32 } [PySem.W.topFrame { line := 0, col := 0, endLine := 0, endCol := 0 }])) = fun os => Option.some (PySem.Flow.next, { tree := tree_162 w.params, n := 152, life := { }, gens := { toList := [] }, drawn := { }, toks := 376, os := os }, PySem.Code.body (PySem.W.behindTheImports pR) env_5, { line := 87, col := 0, endLine := 88, endCol := 39 }) := by
  intro w
  rewrite [PySem.W.Fast.te10110043849684766642, PySem.W.Fast.te14364793385576792824]
  kernel_rfl

set_option maxHeartbeats 0 in
theorem p428 : ∀ (w : PySem.World), (fun os => PySem.W.segRunT PySem.treeTable pR w 11 (Option.some (PySem.Value.ref 6)) 1 905 (id { tree := tree_162 w.params, n := 152, life := { }, gens := { toList := [] }, drawn := { }, toks := 376, os := os }) (PySem.W.piecesOf (stsR 22 1) env_5 (PySem.Code.body (PySem.W.behindTheImports pR) env_5) { line := 87, col := 0, endLine := 88, endCol := 39 } [PySem.W.topFrame { line := 0, col := 0, endLine := 0, endCol := 0 }])) = fun os => Option.some (PySem.Flow.next, (id { tree := tree_337 w.params, n := 325, life := { }, gens := { toList := [] }, drawn := { }, toks := 578, os := os }), PySem.Code.body (PySem.W.behindTheImports pR) env_5, { line := 89, col := 0, endLine := 191, endCol := 16 }) := by
  intro w
  rewrite [PySem.W.Fast.te10110043849684766642, PySem.W.Fast.te14364793385576792824]
  kernel_rfl

set_option maxHeartbeats 0 in
theorem p480 : ∀ (w : PySem.World), (fun os => PySem.W.segRunT PySem.treeTable pR w 11 (Option.some (PySem.Value.ref 6)) 1 385 { tree := tree_337 w.params, n := 325, life := { }, gens := { toList := [] }, drawn := { }, toks := 578, os := os } (PySem.W.piecesOf (stsR 23 7) env_5 (PySem.Code.body (PySem.W.behindTheImports pR) env_5) { line := 89, col := 0, endLine := 191, endCol := 16 } [PySem.W.topFrame { line := 0, col := 0, endLine := 0, endCol := 0 }])) = fun os => Option.some (PySem.Flow.next, { tree := tree_479 w.params, n := 375, life := { }, gens := { toList := [] }, drawn := { }, toks := 655, os := os }, PySem.Code.body (PySem.W.behindTheImports pR) env_5, { line := 211, col := 0, endLine := 216, endCol := 16 }) := by
  intro w
  rewrite [PySem.W.Fast.te10110043849684766642, PySem.W.Fast.te14364793385576792824]
  kernel_rfl

set_option maxHeartbeats 0 in
theorem p489 : ∀ (w : PySem.World), (fun os => PySem.W.segRunT PySem.treeTable pR w 11 (Option.some (PySem.Value.ref 6)) 1 40 { tree := tree_479 w.params, n := 375, life := { }, gens := { toList := [] }, drawn := { }, toks := 655, os := os } (PySem.W.piecesOf (stsR 30 1) env_5 (PySem.Code.body (PySem.W.behindTheImports pR) env_5) { line := 211, col := 0, endLine := 216, endCol := 16 } [PySem.W.topFrame { line := 0, col := 0, endLine := 0, endCol := 0 }])) = fun os => Option.some (PySem.Flow.next, { tree := tree_488 w.params, n := 382, life := { }, gens := { toList := [] }, drawn := { }, toks := 672, os := os }, PySem.Code.body (PySem.W.behindTheImports pR) env_5, { line := 217, col := 0, endLine := 235, endCol := 82 }) := by
  intro w
  rewrite [PySem.W.Fast.te10110043849684766642, PySem.W.Fast.te14364793385576792824]
  kernel_rfl

set_option maxHeartbeats 0 in
theorem p491 : ∀ (w : PySem.World), (fun os => PySem.W.topRun PySem.treeTable pR w 11 (Option.some (PySem.Value.ref 6)) 2 (PySem.W.SharedT.abs { tree := tree_488 w.params, n := 382, life := { }, gens := { toList := [] }, drawn := { }, toks := 672, os := os }) { cur := PySem.W.doneF PySem.Flow.next, code := PySem.Code.body (PySem.W.behindTheImports pR) env_5, pos := { line := 217, col := 0, endLine := 235, endCol := 82 }, stack := [PySem.W.topFrame { line := 0, col := 0, endLine := 0, endCol := 0 }] }) = fun os => Option.some { heap := heap_489 w.params, toks := 672, os := os } := by
  intro w
  rewrite [PySem.W.Fast.te14082659384304107361, PySem.W.Fast.te14364793385576792824]
  kernel_rfl

set_option maxHeartbeats 0 in
theorem runR : ∀ (w : PySem.World) (os : PySem.OsState), PySem.W.topRun PySem.treeTable pR w 11 (Option.some (PySem.Value.ref 6)) (Nat.add 12 (Nat.add 1 (Nat.add 148 (Nat.add 267 (Nat.add 214 (Nat.add 385 (Nat.add 114 (Nat.add 905 (Nat.add 385 (Nat.add 40 2)))))))))) { heap := PySem.W.boot_heap w.params, drawn := PySem.W.boot_drawn, toks := PySem.W.boot_toks, os := os } (PySem.W.topStub pR) = Option.some { heap := heap_489 w.params, toks := 672, os := os } := fun w os =>
  PySem.W.go_top (congrFun (p11 w) os) (PySem.W.piece_block (congrFun (p13 w) os) (PySem.W.piece_app (l := stsR 0 7) (PySem.W.segRun_of (congrFun (p42 w) os)) (PySem.W.piece_app (l := stsR 7 1) (PySem.W.segRun_of (congrFun (p74 w) os)) (PySem.W.piece_app (l := stsR 8 1) (PySem.W.segRun_of (congrFun (p89 w) os)) (PySem.W.piece_app (l := stsR 9 8) (PySem.W.segRun_of (congrFun (p140 w) os)) (PySem.W.piece_app (l := stsR 17 5) (PySem.W.segRun_of (congrFun (p163 w) os)) (PySem.W.piece_app (l := stsR 22 1) (PySem.W.segRun_of (congrFun (p428 w) os)) (PySem.W.piece_app (l := stsR 23 7) (PySem.W.segRun_of (congrFun (p480 w) os)) (PySem.W.piece_app (l := stsR 30 1) (PySem.W.segRun_of (congrFun (p489 w) os)) (congrFun (p491 w) os))))))))))

noncomputable def keepAt (is : List Nat) (b : List Stmt) : List Stmt := is.filterMap fun i => b[i]?
noncomputable def viewOf (p : Program) : Program := { p with main := { p.main with body := keepAt [0, 2, 3, 4, 5, 7, 8, 9, 11, 12, 14, 15, 16, 17, 18, 20, 21, 22, 24, 26, 27, 28, 29, 30] p.main.body } }
noncomputable def view_1 : Program := viewOf PySem.Challenge.pw_og0095_01
theorem view_eq : view_1 = viewOf pR := congrArg viewOf pR_eq

set_option maxHeartbeats 0 in
theorem sizeR : ∀ (w : PySem.World), ((PySem.W.boot_heap w.params).isNs PySem.mainGlobals && (Array.mk [] : Array GenState).size == 0, (PySem.W.boot_heap w.params).objs.size, (PySem.W.boot_heap w.params).nsMap PySem.mainGlobals (PySem.Str.ofString "__annotations__")) = (Bool.true, 11, Option.some (PySem.Value.ref 6)) := by
  intro w
  rewrite [PySem.W.Fast.te8920871248978507458]
  kernel_rfl

noncomputable def endR (w : World) (os : OsState) : Shared := { heap := heap_489 w.params, toks := 672, os := os }

set_option maxHeartbeats 0 in
theorem q496 : ∀ (w : PySem.World), (fun os => PySem.W.staticsOk (PySem.importedModules pR.main.body) (PySem.W.boot_heap w.params) (heap_489 w.params) && PySem.W.namesBound pR (heap_489 w.params) && PySem.W.gensDone (endR w os) && PySem.W.laidKept (PySem.W.boot_heap w.params) (heap_489 w.params)) = fun os => Bool.true := by
  intro w
  rewrite [PySem.W.Fast.te5923862056798008813]
  kernel_rfl

set_option maxHeartbeats 0 in
theorem q498 : ∀ (w : PySem.World), (fun os => PyProof.Rows.seen (List.map (fun x => x.name) (PyProof.Rows.recsOf view_1)) (PyProof.Rows.ownsOf view_1) [] (endR w os)) = fun os => PyProof.Rows.expectedOf view_1 := by
  intro w
  rewrite [view_eq, PySem.W.Fast.te5160383126252970620, PySem.W.Fast.te3399658132070893891, PySem.W.Fast.te5991557255702980513]
  kernel_rfl

set_option maxHeartbeats 0 in
theorem q500 : ∀ (w : PySem.World), (fun os => (endR w os).heap.bltView) = fun os => PySem.bltViewBooted := by
  intro w
  kernel_rfl

set_option maxHeartbeats 0 in
theorem q502 : ∀ (w : PySem.World), (fun os => (endR w os).heap.keysOk (PySem.W.looseW view_1 [PySem.Str.ofString "LedgerError", PySem.Str.ofString "decimal", PySem.Str.ofString "Token"]) (List.map (fun x => x.name) (PyProof.Rows.recsOf view_1)) (List.map (fun x => x.fst) (PyProof.Rows.litsOf view_1)) (List.map (fun x => x.name) (PyProof.Rows.clssOf view_1 (PySem.W.looseW view_1 [PySem.Str.ofString "LedgerError", PySem.Str.ofString "decimal", PySem.Str.ofString "Token"]))) && (endR w os).heap.accountedOkI (PySem.importedModules pR.main.body) && (endR w os).heap.isNs PySem.mainGlobals && (endR w os).heap.isNs PySem.builtinsNs && PyProof.Rows.tablesOk view_1 (endR w os).heap && (fun s => PySem.W.xlAt view_1 [] s && PySem.W.recOk PySem.Challenge.rw_og0095_01.row.records s) (endR w os) && if Bool.true = Bool.true then (endR w os).gens.size == 0 else !PySem.leftWithCleanup (endR w os).gens) = fun os => Bool.true := by
  intro w
  rewrite [view_eq, PySem.W.Fast.te10880121769531294198, PySem.W.Fast.te821141287760084731, PySem.W.Fast.te3399658132070893891, PySem.W.Fast.te7409074990110511671, PySem.W.Fast.te13664370479719496447, PySem.W.Fast.te14722251495701143533, PySem.W.Fast.te5923862056798008813, PySem.W.Fast.te10994771534591457954]
  kernel_rfl

set_option maxHeartbeats 0 in
theorem q504 : ∀ (w : PySem.World), (fun os => PyProof.Rows.tabsOk view_1 (endR w os)) = fun os => Bool.true := by
  intro w
  rewrite [view_eq, PySem.W.Fast.te479339242167458305]
  kernel_rfl

set_option maxHeartbeats 0 in
theorem q506 : ∀ (w : PySem.World), (fun os => PySem.pinSeenD view_1 (PyProof.Rows.drecsOf view_1) (endR w os)) = fun os => PySem.pinGoodD (PyProof.Rows.drecsOf view_1) := by
  intro w
  rewrite [view_eq, PySem.W.Fast.te16090120013241838585, PySem.W.Fast.te3247288618530077131]
  kernel_rfl

set_option maxHeartbeats 0 in
theorem q508 : ∀ (w : PySem.World), (fun os => PyProof.Rows.plainSeenE view_1 (PySem.W.looseW view_1 [PySem.Str.ofString "LedgerError", PySem.Str.ofString "decimal", PySem.Str.ofString "Token"]) (endR w os)) = fun os => PyProof.Rows.plainGoodE view_1 (PySem.W.looseW view_1 [PySem.Str.ofString "LedgerError", PySem.Str.ofString "decimal", PySem.Str.ofString "Token"]) := by
  intro w
  rewrite [view_eq, PySem.W.Fast.te2386780881361962483, PySem.W.Fast.te821141287760084731]
  kernel_rfl

set_option maxHeartbeats 0 in
theorem q510 : ∀ (w : PySem.World), (fun os => PyProof.Rows.plainSeenD view_1 [PySem.Str.ofString "LedgerError", PySem.Str.ofString "decimal", PySem.Str.ofString "Token"] (endR w os)) = fun os => PyProof.Rows.plainGoodD view_1 [PySem.Str.ofString "LedgerError", PySem.Str.ofString "decimal", PySem.Str.ofString "Token"] := by
  intro w
  rewrite [view_eq, PySem.W.Fast.te11698064438423848299]
  kernel_rfl

set_option maxHeartbeats 0 in
theorem q512 : ∀ (w : PySem.World), (fun os => PySem.W.wideSeen view_1 (endR w os)) = fun os => PySem.W.wideGood view_1 := by
  intro w
  rewrite [view_eq, PySem.W.Fast.te7317090234206586261]
  kernel_rfl

set_option maxHeartbeats 0 in
theorem q514 : ∀ (w : PySem.World), (fun os => PySem.W.clsSeenW view_1 [PySem.Str.ofString "LedgerError", PySem.Str.ofString "decimal", PySem.Str.ofString "Token"] (endR w os)) = fun os => PySem.W.clsGoodW view_1 [PySem.Str.ofString "LedgerError", PySem.Str.ofString "decimal", PySem.Str.ofString "Token"] := by
  intro w
  rewrite [view_eq, PySem.W.Fast.te7369524293546568484]
  kernel_rfl

theorem q515 : ∀ (w : PySem.World) (os : PySem.OsState), (PySem.W.wideSeen view_1 (endR w os), PySem.W.clsSeenW view_1 [PySem.Str.ofString "LedgerError", PySem.Str.ofString "decimal", PySem.Str.ofString "Token"] (endR w os)) = (PySem.W.wideGood view_1, PySem.W.clsGoodW view_1 [PySem.Str.ofString "LedgerError", PySem.Str.ofString "decimal", PySem.Str.ofString "Token"]) := fun w os => PySem.W.looks_pair ((fun w os => congrFun (q512 w) os) w os) ((fun w os => congrFun (q514 w) os) w os) 

theorem q516 : ∀ (w : PySem.World) (os : PySem.OsState), (PyProof.Rows.plainSeenD view_1 [PySem.Str.ofString "LedgerError", PySem.Str.ofString "decimal", PySem.Str.ofString "Token"] (endR w os), PySem.W.wideSeen view_1 (endR w os), PySem.W.clsSeenW view_1 [PySem.Str.ofString "LedgerError", PySem.Str.ofString "decimal", PySem.Str.ofString "Token"] (endR w os)) = (PyProof.Rows.plainGoodD view_1 [PySem.Str.ofString "LedgerError", PySem.Str.ofString "decimal", PySem.Str.ofString "Token"], PySem.W.wideGood view_1, PySem.W.clsGoodW view_1 [PySem.Str.ofString "LedgerError", PySem.Str.ofString "decimal", PySem.Str.ofString "Token"]) := fun w os => PySem.W.looks_pair ((fun w os => congrFun (q510 w) os) w os) (q515 w os) 

theorem q517 : ∀ (w : PySem.World) (os : PySem.OsState), (PyProof.Rows.plainSeenE view_1 (PySem.W.looseW view_1 [PySem.Str.ofString "LedgerError", PySem.Str.ofString "decimal", PySem.Str.ofString "Token"]) (endR w os), PyProof.Rows.plainSeenD view_1 [PySem.Str.ofString "LedgerError", PySem.Str.ofString "decimal", PySem.Str.ofString "Token"] (endR w os), PySem.W.wideSeen view_1 (endR w os), PySem.W.clsSeenW view_1 [PySem.Str.ofString "LedgerError", PySem.Str.ofString "decimal", PySem.Str.ofString "Token"] (endR w os)) = (PyProof.Rows.plainGoodE view_1 (PySem.W.looseW view_1 [PySem.Str.ofString "LedgerError", PySem.Str.ofString "decimal", PySem.Str.ofString "Token"]), PyProof.Rows.plainGoodD view_1 [PySem.Str.ofString "LedgerError", PySem.Str.ofString "decimal", PySem.Str.ofString "Token"], PySem.W.wideGood view_1, PySem.W.clsGoodW view_1 [PySem.Str.ofString "LedgerError", PySem.Str.ofString "decimal", PySem.Str.ofString "Token"]) := fun w os => PySem.W.looks_pair ((fun w os => congrFun (q508 w) os) w os) (q516 w os) 

theorem q518 : ∀ (w : PySem.World) (os : PySem.OsState), (PySem.pinSeenD view_1 (PyProof.Rows.drecsOf view_1) (endR w os), PyProof.Rows.plainSeenE view_1 (PySem.W.looseW view_1 [PySem.Str.ofString "LedgerError", PySem.Str.ofString "decimal", PySem.Str.ofString "Token"]) (endR w os), PyProof.Rows.plainSeenD view_1 [PySem.Str.ofString "LedgerError", PySem.Str.ofString "decimal", PySem.Str.ofString "Token"] (endR w os), PySem.W.wideSeen view_1 (endR w os), PySem.W.clsSeenW view_1 [PySem.Str.ofString "LedgerError", PySem.Str.ofString "decimal", PySem.Str.ofString "Token"] (endR w os)) = (PySem.pinGoodD (PyProof.Rows.drecsOf view_1), PyProof.Rows.plainGoodE view_1 (PySem.W.looseW view_1 [PySem.Str.ofString "LedgerError", PySem.Str.ofString "decimal", PySem.Str.ofString "Token"]), PyProof.Rows.plainGoodD view_1 [PySem.Str.ofString "LedgerError", PySem.Str.ofString "decimal", PySem.Str.ofString "Token"], PySem.W.wideGood view_1, PySem.W.clsGoodW view_1 [PySem.Str.ofString "LedgerError", PySem.Str.ofString "decimal", PySem.Str.ofString "Token"]) := fun w os => PySem.W.looks_pair ((fun w os => congrFun (q506 w) os) w os) (q517 w os) 

theorem q519 : ∀ (w : PySem.World) (os : PySem.OsState), (PyProof.Rows.tabsOk view_1 (endR w os), PySem.pinSeenD view_1 (PyProof.Rows.drecsOf view_1) (endR w os), PyProof.Rows.plainSeenE view_1 (PySem.W.looseW view_1 [PySem.Str.ofString "LedgerError", PySem.Str.ofString "decimal", PySem.Str.ofString "Token"]) (endR w os), PyProof.Rows.plainSeenD view_1 [PySem.Str.ofString "LedgerError", PySem.Str.ofString "decimal", PySem.Str.ofString "Token"] (endR w os), PySem.W.wideSeen view_1 (endR w os), PySem.W.clsSeenW view_1 [PySem.Str.ofString "LedgerError", PySem.Str.ofString "decimal", PySem.Str.ofString "Token"] (endR w os)) = (Bool.true, PySem.pinGoodD (PyProof.Rows.drecsOf view_1), PyProof.Rows.plainGoodE view_1 (PySem.W.looseW view_1 [PySem.Str.ofString "LedgerError", PySem.Str.ofString "decimal", PySem.Str.ofString "Token"]), PyProof.Rows.plainGoodD view_1 [PySem.Str.ofString "LedgerError", PySem.Str.ofString "decimal", PySem.Str.ofString "Token"], PySem.W.wideGood view_1, PySem.W.clsGoodW view_1 [PySem.Str.ofString "LedgerError", PySem.Str.ofString "decimal", PySem.Str.ofString "Token"]) := fun w os => PySem.W.looks_pair ((fun w os => congrFun (q504 w) os) w os) (q518 w os) 

theorem q520 : ∀ (w : PySem.World) (os : PySem.OsState), ((endR w os).heap.keysOk (PySem.W.looseW view_1 [PySem.Str.ofString "LedgerError", PySem.Str.ofString "decimal", PySem.Str.ofString "Token"]) (List.map (fun x => x.name) (PyProof.Rows.recsOf view_1)) (List.map (fun x => x.fst) (PyProof.Rows.litsOf view_1)) (List.map (fun x => x.name) (PyProof.Rows.clssOf view_1 (PySem.W.looseW view_1 [PySem.Str.ofString "LedgerError", PySem.Str.ofString "decimal", PySem.Str.ofString "Token"]))) && (endR w os).heap.accountedOkI (PySem.importedModules pR.main.body) && (endR w os).heap.isNs PySem.mainGlobals && (endR w os).heap.isNs PySem.builtinsNs && PyProof.Rows.tablesOk view_1 (endR w os).heap && (fun s => PySem.W.xlAt view_1 [] s && PySem.W.recOk PySem.Challenge.rw_og0095_01.row.records s) (endR w os) && if Bool.true = Bool.true then (endR w os).gens.size == 0 else !PySem.leftWithCleanup (endR w os).gens, PyProof.Rows.tabsOk view_1 (endR w os), PySem.pinSeenD view_1 (PyProof.Rows.drecsOf view_1) (endR w os), PyProof.Rows.plainSeenE view_1 (PySem.W.looseW view_1 [PySem.Str.ofString "LedgerError", PySem.Str.ofString "decimal", PySem.Str.ofString "Token"]) (endR w os), PyProof.Rows.plainSeenD view_1 [PySem.Str.ofString "LedgerError", PySem.Str.ofString "decimal", PySem.Str.ofString "Token"] (endR w os), PySem.W.wideSeen view_1 (endR w os), PySem.W.clsSeenW view_1 [PySem.Str.ofString "LedgerError", PySem.Str.ofString "decimal", PySem.Str.ofString "Token"] (endR w os)) = (Bool.true, Bool.true, PySem.pinGoodD (PyProof.Rows.drecsOf view_1), PyProof.Rows.plainGoodE view_1 (PySem.W.looseW view_1 [PySem.Str.ofString "LedgerError", PySem.Str.ofString "decimal", PySem.Str.ofString "Token"]), PyProof.Rows.plainGoodD view_1 [PySem.Str.ofString "LedgerError", PySem.Str.ofString "decimal", PySem.Str.ofString "Token"], PySem.W.wideGood view_1, PySem.W.clsGoodW view_1 [PySem.Str.ofString "LedgerError", PySem.Str.ofString "decimal", PySem.Str.ofString "Token"]) := fun w os => PySem.W.looks_pair ((fun w os => congrFun (q502 w) os) w os) (q519 w os) 

theorem q521 : ∀ (w : PySem.World) (os : PySem.OsState), ((endR w os).heap.bltView, (endR w os).heap.keysOk (PySem.W.looseW view_1 [PySem.Str.ofString "LedgerError", PySem.Str.ofString "decimal", PySem.Str.ofString "Token"]) (List.map (fun x => x.name) (PyProof.Rows.recsOf view_1)) (List.map (fun x => x.fst) (PyProof.Rows.litsOf view_1)) (List.map (fun x => x.name) (PyProof.Rows.clssOf view_1 (PySem.W.looseW view_1 [PySem.Str.ofString "LedgerError", PySem.Str.ofString "decimal", PySem.Str.ofString "Token"]))) && (endR w os).heap.accountedOkI (PySem.importedModules pR.main.body) && (endR w os).heap.isNs PySem.mainGlobals && (endR w os).heap.isNs PySem.builtinsNs && PyProof.Rows.tablesOk view_1 (endR w os).heap && (fun s => PySem.W.xlAt view_1 [] s && PySem.W.recOk PySem.Challenge.rw_og0095_01.row.records s) (endR w os) && if Bool.true = Bool.true then (endR w os).gens.size == 0 else !PySem.leftWithCleanup (endR w os).gens, PyProof.Rows.tabsOk view_1 (endR w os), PySem.pinSeenD view_1 (PyProof.Rows.drecsOf view_1) (endR w os), PyProof.Rows.plainSeenE view_1 (PySem.W.looseW view_1 [PySem.Str.ofString "LedgerError", PySem.Str.ofString "decimal", PySem.Str.ofString "Token"]) (endR w os), PyProof.Rows.plainSeenD view_1 [PySem.Str.ofString "LedgerError", PySem.Str.ofString "decimal", PySem.Str.ofString "Token"] (endR w os), PySem.W.wideSeen view_1 (endR w os), PySem.W.clsSeenW view_1 [PySem.Str.ofString "LedgerError", PySem.Str.ofString "decimal", PySem.Str.ofString "Token"] (endR w os)) = (PySem.bltViewBooted, Bool.true, Bool.true, PySem.pinGoodD (PyProof.Rows.drecsOf view_1), PyProof.Rows.plainGoodE view_1 (PySem.W.looseW view_1 [PySem.Str.ofString "LedgerError", PySem.Str.ofString "decimal", PySem.Str.ofString "Token"]), PyProof.Rows.plainGoodD view_1 [PySem.Str.ofString "LedgerError", PySem.Str.ofString "decimal", PySem.Str.ofString "Token"], PySem.W.wideGood view_1, PySem.W.clsGoodW view_1 [PySem.Str.ofString "LedgerError", PySem.Str.ofString "decimal", PySem.Str.ofString "Token"]) := fun w os => PySem.W.looks_pair ((fun w os => congrFun (q500 w) os) w os) (q520 w os) 

theorem q522 : ∀ (w : PySem.World) (os : PySem.OsState), PySem.W.openSeen view_1 [PySem.Str.ofString "LedgerError", PySem.Str.ofString "decimal", PySem.Str.ofString "Token"] (PySem.importedModules pR.main.body) (fun s => PySem.W.xlAt view_1 [] s && PySem.W.recOk PySem.Challenge.rw_og0095_01.row.records s) Bool.true (endR w os) = PySem.W.openGood view_1 [PySem.Str.ofString "LedgerError", PySem.Str.ofString "decimal", PySem.Str.ofString "Token"] := fun w os => PySem.W.looks_pair ((fun w os => congrFun (q498 w) os) w os) (q521 w os) 

set_option maxHeartbeats 0 in
theorem openR : opening pR = plainProg pR.main.scope.names := by kernel_rfl
theorem left_of {al : Type} {Yf : Shared → al} {Ya : World → al} (hK : ∀ w : World, (fun os => Yf (endR w os)) = fun _ => Ya w) :
    LeftO PySem.Challenge.pw_og0095_01 view_1 [Str.ofString "LedgerError", Str.ofString "decimal", Str.ofString "Token"] (fun s => xlAt view_1 [] s && recOk PySem.Challenge.rw_og0095_01.row.records s) Yf Ya 5026 := by
  rewrite [pR_eq]
  exact LeftO.of_pieces (H₀ := boot_heap) (H₁ := heap_489) (boot_open openR (by rfl) (fun _ => rfl)) sizeR runR (by rfl) (fun w => funext fun os => looks_pair (congrFun (q496 w) os) (looks_pair (q522 w os) (congrFun (hK w) os)))
set_option maxHeartbeats 0 in
theorem hd_of {K : Params → Frag} {as : List Addr} {d : DefRec} {kwd : List (Str × PySem.Expr)} (e : ∀ P, as = (K P).map (·.1)) (e1 : onceIn 3 as = true) (e2 : ∀ P, valIn 3 25 (K P) = some (Value.str resT.1 367))
    (hK : ∀ w : World, (fun os => (theHook K as e e1 e2).obs (endR w os)) = fun _ => (theHook K as e e1 e2).val w)
    (hdef : defOf view_1 PySem.Challenge.rw_og0095_01.row.name = some (d, kwd)) (hp : PySem.Challenge.rw_og0095_01.row.prog.theDef PySem.Challenge.rw_og0095_01.row.name = some (d.params, d.body, d.scope)) (hk : kwWritten? d.params.kwonlyargs d.params.kw_defaults = some kwd)
    (hw : PySem.Challenge.rw_og0095_01.row.toRowW.promised)
    (call : WalkO view_1 [Str.ofString "LedgerError", Str.ofString "decimal", Str.ofString "Token"] (XL view_1 []) (theHook K as e e1 e2).says PySem.Challenge.rw_og0095_01.row.toRowW d kwd fun f vs => PySem.call f vs) : PySem.Challenge.rw_og0095_01.row.Holds :=
  holds_open (q := view_1) (loose := [Str.ofString "LedgerError", Str.ofString "decimal", Str.ofString "Token"]) (Xt := fun s => xlAt view_1 [] s && recOk PySem.Challenge.rw_og0095_01.row.records s) (XP := XL view_1 []) (Yf := (theHook K as e e1 e2).obs) (Ya := (theHook K as e e1 e2).val) (YP := (theHook K as e e1 e2).says) (N := 5026)
    (left_of hK) (theHook K as e e1 e2).of (theHook K as e e1 e2).keeps (fun s e => xl_of s (Bool.and_eq_true_iff.mp e).1) XL.keeps hdef hp hk (fun s e => recFacts_of (Bool.and_eq_true_iff.mp e).2) (by rfl) (row_said said) (by decide +kernel) ⟨rfl, rfl, rfl, rfl, rfl, by decide +kernel⟩ hw call
section
local macro_rules | `(tactic| o_law) => `(tactic| refine holds_law Mine.said fun _ => ?_)
local macro_rules | `(tactic| k_head) => `(tactic| x_head)
local macro_rules | `(tactic| o_head ($_ $K $as $e)) => `(tactic| refine hd_of (K := $K) (as := $as) (by as_aux_lemma => exact $e) (by as_aux_lemma => kernel_rfl) (by as_aux_lemma => exact fun _ => res_val (by kernel_rfl)) (by as_aux_lemma => (intro w; kernel_rfl)) (by rfl) (by rfl) (by rfl) ?hw ?hc)
set_option maxHeartbeats 8000000 in
open_top hd for PySem.Challenge.rw_og0095_01
end
section
open PySem.W.X

theorem wp_weaken {α : Type} {M : Model} {A A' : Around} {t : Sem α} {Q : α → Shared → Prop} {E : Value → Shared → Prop} {s : Shared} (h : wpAny M A t Q E s)
    (e1 : A'.handled = A.handled) (e2 : A'.depth ≤ A.depth) (e3 : A.frames = none ∨ A.frames = A'.frames) (e4 : A.guards = none ∨ A.guards = A'.guards) (e5 : A'.units ≤ A.units) : wpAny M A' t Q E s := by
  intro Γ p hΓ
  refine h Γ p ⟨hΓ.1.trans e1, Nat.le_trans hΓ.2.1 e2, fun l hl => hΓ.2.2.1 l ?_, fun g hg => hΓ.2.2.2.1 g ?_, Nat.le_trans hΓ.2.2.2.2 e5⟩
  · rcases e3 with e | e
    · rw [e] at hl; cases hl
    · exact e ▸ hl
  · rcases e4 with e | e
    · rw [e] at hg; cases hg
    · exact e ▸ hg

theorem mem_keeps {h h' : Heap} {news : List (Addr × Obj)} (D : Mem h h' [] news) : ∀ b o, h.get? b = some o → h'.get? b = some o := fun b o e => D.keep b o e (by simp [away])
theorem mem_fr {h₀ h h' : Heap} {L : Addr} {m : Str → Option Value} {news : List (Addr × Obj)} (D : Mem h h' [] news) (F : Fr h₀ L h m) : Fr h₀ L h' m := F.keeps (mem_keeps D)
theorem mem_news {h₀ h h' : Heap} {L : Addr} {m : Str → Option Value} {news old : List (Addr × Obj)} (D : Mem h h' [] news) (F : Fr h₀ L h m) (N : News h₀ L h old) : News h₀ L h' (news ++ old) := by
  intro p hp
  rcases List.mem_append.mp hp with hp | hp
  · have z := D.nw p hp
    refine ⟨z.1, ?_, ?_⟩
    · intro e
      obtain ⟨o, _, _, ho, _⟩ := F.ns
      rw [e, ho] at z
      cases z.2
    · cases q : h₀.get? p.1 with
      | none => rfl
      | some o => have := F.keep p.1 o q; rw [z.2] at this; cases this
  · exact ⟨mem_keeps D _ _ (N p hp).1, (N p hp).2⟩

theorem news_sub {h₀ h : Heap} {L : Addr} {a b : List (Addr × Obj)} (N : News h₀ L h a) (hs : ∀ p ∈ b, p ∈ a) : News h₀ L h b := fun p hp => N p (hs p hp)

section
variable {prog : Program} {w : World} {A : Around} {E : Value → Shared → Prop} {s : Shared} {K : Frag} {env : Env} {C : Addr}

theorem isType_inst {M : Model} {a : Addr} {o : Obj} {Q : Bool → Shared → Prop} (ha : s.heap.get? a = some o) (hn : notCls o = true) (h : Q false s) : wpAny M A (isType (.ref a)) Q E s := by
  simp only [isType, loadHead]
  refine wpAny_bind (wpAny_loadPart ha ?_)
  unfold notCls at hn
  cases hd : o.data <;> rw [hd] at hn <;> first | exact wpAny_pure h | (exact absurd hn (by simp))

/-- raise with an own exception -/
theorem Raise_obj {e : Expr} {pos : Pos} {Q : Flow → Shared → Prop} (hh : A.handled = none) (hsub : mroIn K C (.type "BaseException") = some true) (hmt : typeIn K (.ref C) = some (.type "type"))
    (h : wpAny (model prog w) A (eval e env) (fun v s₁ => ∃ a ob vs od, v = .ref a ∧ K.In s₁.heap ∧ W.InstAt s₁.heap a ob C od ∧ ob.data = .fields vs ∧ vs[1]? = some .none ∧ E (.ref a) s₁) E s) :
    wpAny (model prog w) A (exec (.Raise (some e) none pos) env) Q E s := by
  show wpAny _ A (do standAt pos; raiseStmt env (some (do let v ← eval e env; standAt pos; pure v)) none) Q E s
  refine wpAny_bind (wpAny_standAt ?_)
  unfold raiseStmt
  dsimp only
  refine wpAny_bind (wpAny_bind (wpAny_mono h (fun v s₁ h₁ => wpAny_bind (wpAny_standAt (wpAny_pure ?_))) fun _ _ x => x))
  obtain ⟨a, ob, vs, od, rfl, X, I, hd, h1, hE⟩ := h₁
  have ha := I.at_
  refine wpAny_bind (wpAny_pure ?_)
  dsimp only
  refine wpAny_bind (wpAny_holding ?_)
  unfold excFromValue isExcClass
  refine wpAny_bind (wpAny_bind (isType_inst ha I.no ?_))
  simp only [Bool.false_eq_true, if_false]
  refine wpAny_pure ?_
  simp only [Bool.false_eq_true, if_false]
  have sub : Looks (model prog w) s₁.heap (isInstance (.ref a) (.type "BaseException")) true := I.type.andThen (looks_mroIn X hsub)
  refine wpAny_bind (sub.here ?_)
  simp only [if_true]
  refine wpAny_pure ?_
  refine wpAny_bind (isType_inst ha I.no ?_)
  simp only [Bool.false_eq_true, if_false]
  unfold raisedInstance
  refine wpAny_bind (wpAny_bind (I.type.here (wpAny_bind ((looks_typeIn X hmt).here ?_))))
  rw [if_pos (by decide)]
  refine wpAny_pure ?_
  unfold setFlight raiseNew
  refine wpAny_bind (wpAny_bind (wpAny_field ha hd h1 ?_))
  rw [if_neg (by decide)]
  refine wpAny_pure (wpAny_bind (wpAny_handled ?_))
  rw [hh]
  first
    | exact wpAny_throw hE
    | exact wpAny_bind (wpAny_pure (wpAny_throw hE))
end

/-- the facts of an own exception that was made and not yet raised -/
structure Fresh (h₀ : Heap) (L : Addr) (h : Heap) (C e t d : Addr) (x : Value) (od : Obj) (news : List (Addr × Obj)) : Prop where
  N : News h₀ L h ((e, ⟨.ref C, some d, .fields #[.ref t, .none, .none, .none, .bool false, .none], #[]⟩) :: (t, ⟨.type "tuple", none, .seq #[x] 0, #[]⟩) :: (d, od) :: news)
  off : ∀ p ∈ news, p.1 ≠ e ∧ p.1 ≠ t

section
variable {M : Model} {A : Around} {E : Value → Shared → Prop} {s' : Shared} {base g h : Heap} {outer : List Env} {L a e t d C : Addr} {m : Str → Option Value} {name : Str} {scope : Scope} {cd x : Value} {od : Obj} {Q : Unit → Shared → Prop} {news : List (Addr × Obj)}
/-- its first frame is left -/
theorem leave_first (K : Below A base outer g) (F : Fr g L s'.heap m) (X : Fresh g L s'.heap C e t d x od news)
    (hQ : ∀ h' t, RaisedK base outer e (.ref C) t [x] news h' → g.UpToSlots h' → Q () { s' with heap := h' }) (hk : scope.kind = .function := by rfl) :
    wpAny M (A.deeper (envOf name scope L a cd)) (leaving (envOf name scope L a cd) (.ref e)) Q E s' := by
  have K' := K.push (name := name) (a := a) (cd := cd) F hk
  have hin : ∀ env ∈ (envOf name scope L a cd :: outer), ∀ b, env.frame = some b → b ∈ (envOf name scope L a cd :: outer).filterMap (·.frame) := fun env he b hb => List.mem_filterMap.mpr ⟨env, he, hb⟩
  let as := (envOf name scope L a cd :: outer).filterMap (·.frame)
  have notin : ∀ q ∈ ((e, (⟨.ref C, some d, .fields #[.ref t, .none, .none, .none, .bool false, .none], #[]⟩ : Obj)) :: (t, ⟨.type "tuple", none, .seq #[x] 0, #[]⟩) :: (d, od) :: news), q.1 ∉ as := fun q hq hm => by
    obtain ⟨env, he, hf⟩ := List.mem_filterMap.mp hm
    rcases List.mem_cons.mp he with rfl | he
    · exact (X.N q hq).2.1 (Option.some.inj hf).symm
    · obtain ⟨o, ho, _⟩ := (K.frames.mem (List.mem_filterMap.mpr ⟨env, he, hf⟩)).2
      rw [(X.N q hq).2.2] at ho; cases ho
  -- the base for the flight: all but the frames, the exception and its tuple
  have st : base.StaysIn (hideAll s'.heap (e :: t :: as)) := fun b o q => hideAll_get _ (K'.stays b o q) fun hm => by
    rcases List.mem_cons.mp hm with rfl | hm
    · have := (X.N _ (.head _)).2.2; rw [K.stays _ _ q] at this; cases this
    · rcases List.mem_cons.mp hm with rfl | hm
      · have := (X.N _ (.tail _ (.head _))).2.2; rw [K.stays _ _ q] at this; cases this
      · rw [(K'.frames.mem hm).1] at q; cases q
  have hl : ∀ q ∈ news, (hideAll s'.heap (e :: t :: as)).get? q.1 = some q.2 ∧ base.get? q.1 = none := fun q hq => by
    refine ⟨hideAll_get _ (X.N q (.tail _ (.tail _ (.tail _ hq)))).1 fun hm => ?_, fresh_of_stays K.stays (X.N q (.tail _ (.tail _ (.tail _ hq)))).2.2⟩
    rcases List.mem_cons.mp hm with z | hm
    · exact (X.off q hq).1 z
    · rcases List.mem_cons.mp hm with z | hm
      · exact (X.off q hq).2 z
      · exact notin q (.tail _ (.tail _ (.tail _ hq))) hm
  have he := (X.N _ (.head _)).1
  have ht := (X.N _ (.tail _ (.head _))).1
  have FF : s'.heap.FunFrames (hideAll s'.heap (e :: t :: as)) (envOf name scope L a cd :: outer) := by
    have z := funFrames_hide K'.frames (as := e :: t :: as) fun env q b hb => .tail _ (.tail _ (hin env q b hb))
    exact z
  refine wpAny_leaving_firstW (base := hideAll s'.heap (e :: t :: as)) K'.stack FF rfl he (fun b o q => of_hideAll _ q) (hideAll_none _ (.head _)) rfl rfl rfl fun h' hL => ?_
  obtain ⟨x1, x2, x3, x4⟩ := hL
  refine hQ h' t ⟨⟨_, st, hl, ⟨x1, hideAll_none _ (.head _), ?_, x3⟩, hideAll_none _ (.tail _ (.head _))⟩, ?_⟩ ?_
  · exact x2.2.2
  · obtain ⟨sl, q⟩ := x4 t _ ht (by intro vs z; cases z)
    exact ⟨_, _, q, rfl, rfl⟩
  · exact (Heap.UpToSlots.of_keeps F.keep).trans x4
end
noncomputable def gf0 (P : Params) : Obj := (Obj.mk (Value.type "dict") Option.none (Data.dict (List.toArray [(DictEntry.mk (PyData.keyHash P (Str.mk (Array.mk [95, 95, 110, 97, 109, 101, 95, 95]))) (Value.str (Str.mk (Array.mk [95, 95, 110, 97, 109, 101, 95, 95])) 1) (Value.str (Str.mk (Array.mk [98, 117, 105, 108, 116, 105, 110, 115])) 160)), (DictEntry.mk (PyData.keyHash P (Str.mk (Array.mk [95, 95, 100, 111, 99, 95, 95]))) (Value.str (Str.mk (Array.mk [95, 95, 100, 111, 99, 95, 95])) 2) (Value.builtin "builtins.__doc__:str#opaque")), (DictEntry.mk (PyData.keyHash P (Str.mk (Array.mk [95, 95, 112, 97, 99, 107, 97, 103, 101, 95, 95]))) (Value.str (Str.mk (Array.mk [95, 95, 112, 97, 99, 107, 97, 103, 101, 95, 95])) 3) (Value.builtin "builtins.__package__:str#opaque")), (DictEntry.mk (PyData.keyHash P (Str.mk (Array.mk [95, 95, 108, 111, 97, 100, 101, 114, 95, 95]))) (Value.str (Str.mk (Array.mk [95, 95, 108, 111, 97, 100, 101, 114, 95, 95])) 4) (Value.builtin "builtins.__loader__:shared#opaque")), (DictEntry.mk (PyData.keyHash P (Str.mk (Array.mk [95, 95, 115, 112, 101, 99, 95, 95]))) (Value.str (Str.mk (Array.mk [95, 95, 115, 112, 101, 99, 95, 95])) 5) (Value.builtin "builtins.__spec__#opaque")), (DictEntry.mk (PyData.keyHash P (Str.mk (Array.mk [95, 95, 98, 117, 105, 108, 100, 95, 99, 108, 97, 115, 115, 95, 95]))) (Value.str (Str.mk (Array.mk [95, 95, 98, 117, 105, 108, 100, 95, 99, 108, 97, 115, 115, 95, 95])) 6) (Value.builtin "__build_class__")), (DictEntry.mk (PyData.keyHash P (Str.mk (Array.mk [95, 95, 105, 109, 112, 111, 114, 116, 95, 95]))) (Value.str (Str.mk (Array.mk [95, 95, 105, 109, 112, 111, 114, 116, 95, 95])) 7) (Value.builtin "__import__")), (DictEntry.mk (PyData.keyHash P (Str.mk (Array.mk [97, 98, 115]))) (Value.str (Str.mk (Array.mk [97, 98, 115])) 8) (Value.builtin "abs")), (DictEntry.mk (PyData.keyHash P (Str.mk (Array.mk [97, 108, 108]))) (Value.str (Str.mk (Array.mk [97, 108, 108])) 9) (Value.builtin "all")), (DictEntry.mk (PyData.keyHash P (Str.mk (Array.mk [97, 110, 121]))) (Value.str (Str.mk (Array.mk [97, 110, 121])) 10) (Value.builtin "any")), (DictEntry.mk (PyData.keyHash P (Str.mk (Array.mk [97, 115, 99, 105, 105]))) (Value.str (Str.mk (Array.mk [97, 115, 99, 105, 105])) 11) (Value.builtin "ascii")), (DictEntry.mk (PyData.keyHash P (Str.mk (Array.mk [98, 105, 110]))) (Value.str (Str.mk (Array.mk [98, 105, 110])) 12) (Value.builtin "bin")), (DictEntry.mk (PyData.keyHash P (Str.mk (Array.mk [98, 114, 101, 97, 107, 112, 111, 105, 110, 116]))) (Value.str (Str.mk (Array.mk [98, 114, 101, 97, 107, 112, 111, 105, 110, 116])) 13) (Value.builtin "breakpoint")), (DictEntry.mk (PyData.keyHash P (Str.mk (Array.mk [99, 97, 108, 108, 97, 98, 108, 101]))) (Value.str (Str.mk (Array.mk [99, 97, 108, 108, 97, 98, 108, 101])) 14) (Value.builtin "callable")), (DictEntry.mk (PyData.keyHash P (Str.mk (Array.mk [99, 104, 114]))) (Value.str (Str.mk (Array.mk [99, 104, 114])) 15) (Value.builtin "chr")), (DictEntry.mk (PyData.keyHash P (Str.mk (Array.mk [99, 111, 109, 112, 105, 108, 101]))) (Value.str (Str.mk (Array.mk [99, 111, 109, 112, 105, 108, 101])) 16) (Value.builtin "compile")), (DictEntry.mk (PyData.keyHash P (Str.mk (Array.mk [100, 101, 108, 97, 116, 116, 114]))) (Value.str (Str.mk (Array.mk [100, 101, 108, 97, 116, 116, 114])) 17) (Value.builtin "delattr")), (DictEntry.mk (PyData.keyHash P (Str.mk (Array.mk [100, 105, 114]))) (Value.str (Str.mk (Array.mk [100, 105, 114])) 18) (Value.builtin "dir")), (DictEntry.mk (PyData.keyHash P (Str.mk (Array.mk [100, 105, 118, 109, 111, 100]))) (Value.str (Str.mk (Array.mk [100, 105, 118, 109, 111, 100])) 19) (Value.builtin "divmod")), (DictEntry.mk (PyData.keyHash P (Str.mk (Array.mk [101, 118, 97, 108]))) (Value.str (Str.mk (Array.mk [101, 118, 97, 108])) 20) (Value.builtin "eval")), (DictEntry.mk (PyData.keyHash P (Str.mk (Array.mk [101, 120, 101, 99]))) (Value.str (Str.mk (Array.mk [101, 120, 101, 99])) 21) (Value.builtin "exec")), (DictEntry.mk (PyData.keyHash P (Str.mk (Array.mk [102, 111, 114, 109, 97, 116]))) (Value.str (Str.mk (Array.mk [102, 111, 114, 109, 97, 116])) 22) (Value.builtin "format")), (DictEntry.mk (PyData.keyHash P (Str.mk (Array.mk [103, 101, 116, 97, 116, 116, 114]))) (Value.str (Str.mk (Array.mk [103, 101, 116, 97, 116, 116, 114])) 23) (Value.builtin "getattr")), (DictEntry.mk (PyData.keyHash P (Str.mk (Array.mk [103, 108, 111, 98, 97, 108, 115]))) (Value.str (Str.mk (Array.mk [103, 108, 111, 98, 97, 108, 115])) 24) (Value.builtin "globals")), (DictEntry.mk (PyData.keyHash P (Str.mk (Array.mk [104, 97, 115, 97, 116, 116, 114]))) (Value.str (Str.mk (Array.mk [104, 97, 115, 97, 116, 116, 114])) 25) (Value.builtin "hasattr")), (DictEntry.mk (PyData.keyHash P (Str.mk (Array.mk [104, 97, 115, 104]))) (Value.str (Str.mk (Array.mk [104, 97, 115, 104])) 26) (Value.builtin "hash")), (DictEntry.mk (PyData.keyHash P (Str.mk (Array.mk [104, 101, 120]))) (Value.str (Str.mk (Array.mk [104, 101, 120])) 27) (Value.builtin "hex")), (DictEntry.mk (PyData.keyHash P (Str.mk (Array.mk [105, 100]))) (Value.str (Str.mk (Array.mk [105, 100])) 28) (Value.builtin "id")), (DictEntry.mk (PyData.keyHash P (Str.mk (Array.mk [105, 110, 112, 117, 116]))) (Value.str (Str.mk (Array.mk [105, 110, 112, 117, 116])) 29) (Value.builtin "input")), (DictEntry.mk (PyData.keyHash P (Str.mk (Array.mk [105, 115, 105, 110, 115, 116, 97, 110, 99, 101]))) (Value.str (Str.mk (Array.mk [105, 115, 105, 110, 115, 116, 97, 110, 99, 101])) 30) (Value.builtin "isinstance")), (DictEntry.mk (PyData.keyHash P (Str.mk (Array.mk [105, 115, 115, 117, 98, 99, 108, 97, 115, 115]))) (Value.str (Str.mk (Array.mk [105, 115, 115, 117, 98, 99, 108, 97, 115, 115])) 31) (Value.builtin "issubclass")), (DictEntry.mk (PyData.keyHash P (Str.mk (Array.mk [105, 116, 101, 114]))) (Value.str (Str.mk (Array.mk [105, 116, 101, 114])) 32) (Value.builtin "iter")), (DictEntry.mk (PyData.keyHash P (Str.mk (Array.mk [97, 105, 116, 101, 114]))) (Value.str (Str.mk (Array.mk [97, 105, 116, 101, 114])) 33) (Value.builtin "aiter")), (DictEntry.mk (PyData.keyHash P (Str.mk (Array.mk [108, 101, 110]))) (Value.str (Str.mk (Array.mk [108, 101, 110])) 34) (Value.builtin "len")), (DictEntry.mk (PyData.keyHash P (Str.mk (Array.mk [108, 111, 99, 97, 108, 115]))) (Value.str (Str.mk (Array.mk [108, 111, 99, 97, 108, 115])) 35) (Value.builtin "locals")), (DictEntry.mk (PyData.keyHash P (Str.mk (Array.mk [109, 97, 120]))) (Value.str (Str.mk (Array.mk [109, 97, 120])) 36) (Value.builtin "max")), (DictEntry.mk (PyData.keyHash P (Str.mk (Array.mk [109, 105, 110]))) (Value.str (Str.mk (Array.mk [109, 105, 110])) 37) (Value.builtin "min")), (DictEntry.mk (PyData.keyHash P (Str.mk (Array.mk [110, 101, 120, 116]))) (Value.str (Str.mk (Array.mk [110, 101, 120, 116])) 38) (Value.builtin "next")), (DictEntry.mk (PyData.keyHash P (Str.mk (Array.mk [97, 110, 101, 120, 116]))) (Value.str (Str.mk (Array.mk [97, 110, 101, 120, 116])) 39) (Value.builtin "anext")), (DictEntry.mk (PyData.keyHash P (Str.mk (Array.mk [111, 99, 116]))) (Value.str (Str.mk (Array.mk [111, 99, 116])) 40) (Value.builtin "oct")), (DictEntry.mk (PyData.keyHash P (Str.mk (Array.mk [111, 114, 100]))) (Value.str (Str.mk (Array.mk [111, 114, 100])) 41) (Value.builtin "ord")), (DictEntry.mk (PyData.keyHash P (Str.mk (Array.mk [112, 111, 119]))) (Value.str (Str.mk (Array.mk [112, 111, 119])) 42) (Value.builtin "pow")), (DictEntry.mk (PyData.keyHash P (Str.mk (Array.mk [112, 114, 105, 110, 116]))) (Value.str (Str.mk (Array.mk [112, 114, 105, 110, 116])) 43) (Value.builtin "print")), (DictEntry.mk (PyData.keyHash P (Str.mk (Array.mk [114, 101, 112, 114]))) (Value.str (Str.mk (Array.mk [114, 101, 112, 114])) 44) (Value.builtin "repr")), (DictEntry.mk (PyData.keyHash P (Str.mk (Array.mk [114, 111, 117, 110, 100]))) (Value.str (Str.mk (Array.mk [114, 111, 117, 110, 100])) 45) (Value.builtin "round")), (DictEntry.mk (PyData.keyHash P (Str.mk (Array.mk [115, 101, 116, 97, 116, 116, 114]))) (Value.str (Str.mk (Array.mk [115, 101, 116, 97, 116, 116, 114])) 46) (Value.builtin "setattr")), (DictEntry.mk (PyData.keyHash P (Str.mk (Array.mk [115, 111, 114, 116, 101, 100]))) (Value.str (Str.mk (Array.mk [115, 111, 114, 116, 101, 100])) 47) (Value.builtin "sorted")), (DictEntry.mk (PyData.keyHash P (Str.mk (Array.mk [115, 117, 109]))) (Value.str (Str.mk (Array.mk [115, 117, 109])) 48) (Value.builtin "sum")), (DictEntry.mk (PyData.keyHash P (Str.mk (Array.mk [118, 97, 114, 115]))) (Value.str (Str.mk (Array.mk [118, 97, 114, 115])) 49) (Value.builtin "vars")), (DictEntry.mk (PyData.keyHash P (Str.mk (Array.mk [78, 111, 110, 101]))) (Value.str (Str.mk (Array.mk [78, 111, 110, 101])) 50) Value.none), (DictEntry.mk (PyData.keyHash P (Str.mk (Array.mk [69, 108, 108, 105, 112, 115, 105, 115]))) (Value.str (Str.mk (Array.mk [69, 108, 108, 105, 112, 115, 105, 115])) 51) Value.ellipsis), (DictEntry.mk (PyData.keyHash P (Str.mk (Array.mk [78, 111, 116, 73, 109, 112, 108, 101, 109, 101, 110, 116, 101, 100]))) (Value.str (Str.mk (Array.mk [78, 111, 116, 73, 109, 112, 108, 101, 109, 101, 110, 116, 101, 100])) 52) Value.notImplemented), (DictEntry.mk (PyData.keyHash P (Str.mk (Array.mk [70, 97, 108, 115, 101]))) (Value.str (Str.mk (Array.mk [70, 97, 108, 115, 101])) 53) (Value.bool Bool.false)), (DictEntry.mk (PyData.keyHash P (Str.mk (Array.mk [84, 114, 117, 101]))) (Value.str (Str.mk (Array.mk [84, 114, 117, 101])) 54) (Value.bool Bool.true)), (DictEntry.mk (PyData.keyHash P (Str.mk (Array.mk [98, 111, 111, 108]))) (Value.str (Str.mk (Array.mk [98, 111, 111, 108])) 55) (Value.type "bool")), (DictEntry.mk (PyData.keyHash P (Str.mk (Array.mk [109, 101, 109, 111, 114, 121, 118, 105, 101, 119]))) (Value.str (Str.mk (Array.mk [109, 101, 109, 111, 114, 121, 118, 105, 101, 119])) 56) (Value.type "memoryview")), (DictEntry.mk (PyData.keyHash P (Str.mk (Array.mk [98, 121, 116, 101, 97, 114, 114, 97, 121]))) (Value.str (Str.mk (Array.mk [98, 121, 116, 101, 97, 114, 114, 97, 121])) 57) (Value.type "bytearray")), (DictEntry.mk (PyData.keyHash P (Str.mk (Array.mk [98, 121, 116, 101, 115]))) (Value.str (Str.mk (Array.mk [98, 121, 116, 101, 115])) 58) (Value.type "bytes")), (DictEntry.mk (PyData.keyHash P (Str.mk (Array.mk [99, 108, 97, 115, 115, 109, 101, 116, 104, 111, 100]))) (Value.str (Str.mk (Array.mk [99, 108, 97, 115, 115, 109, 101, 116, 104, 111, 100])) 59) (Value.type "classmethod")), (DictEntry.mk (PyData.keyHash P (Str.mk (Array.mk [99, 111, 109, 112, 108, 101, 120]))) (Value.str (Str.mk (Array.mk [99, 111, 109, 112, 108, 101, 120])) 60) (Value.type "complex")), (DictEntry.mk (PyData.keyHash P (Str.mk (Array.mk [100, 105, 99, 116]))) (Value.str (Str.mk (Array.mk [100, 105, 99, 116])) 61) (Value.type "dict")), (DictEntry.mk (PyData.keyHash P (Str.mk (Array.mk [101, 110, 117, 109, 101, 114, 97, 116, 101]))) (Value.str (Str.mk (Array.mk [101, 110, 117, 109, 101, 114, 97, 116, 101])) 62) (Value.type "enumerate")), (DictEntry.mk (PyData.keyHash P (Str.mk (Array.mk [102, 105, 108, 116, 101, 114]))) (Value.str (Str.mk (Array.mk [102, 105, 108, 116, 101, 114])) 63) (Value.type "filter")), (DictEntry.mk (PyData.keyHash P (Str.mk (Array.mk [102, 108, 111, 97, 116]))) (Value.str (Str.mk (Array.mk [102, 108, 111, 97, 116])) 64) (Value.type "float")), (DictEntry.mk (PyData.keyHash P (Str.mk (Array.mk [102, 114, 111, 122, 101, 110, 115, 101, 116]))) (Value.str (Str.mk (Array.mk [102, 114, 111, 122, 101, 110, 115, 101, 116])) 65) (Value.type "frozenset")), (DictEntry.mk (PyData.keyHash P (Str.mk (Array.mk [112, 114, 111, 112, 101, 114, 116, 121]))) (Value.str (Str.mk (Array.mk [112, 114, 111, 112, 101, 114, 116, 121])) 66) (Value.type "property")), (DictEntry.mk (PyData.keyHash P (Str.mk (Array.mk [105, 110, 116]))) (Value.str (Str.mk (Array.mk [105, 110, 116])) 67) (Value.type "int")), (DictEntry.mk (PyData.keyHash P (Str.mk (Array.mk [108, 105, 115, 116]))) (Value.str (Str.mk (Array.mk [108, 105, 115, 116])) 68) (Value.type "list")), (DictEntry.mk (PyData.keyHash P (Str.mk (Array.mk [109, 97, 112]))) (Value.str (Str.mk (Array.mk [109, 97, 112])) 69) (Value.type "map")), (DictEntry.mk (PyData.keyHash P (Str.mk (Array.mk [111, 98, 106, 101, 99, 116]))) (Value.str (Str.mk (Array.mk [111, 98, 106, 101, 99, 116])) 70) (Value.type "object")), (DictEntry.mk (PyData.keyHash P (Str.mk (Array.mk [114, 97, 110, 103, 101]))) (Value.str (Str.mk (Array.mk [114, 97, 110, 103, 101])) 71) (Value.type "range")), (DictEntry.mk (PyData.keyHash P (Str.mk (Array.mk [114, 101, 118, 101, 114, 115, 101, 100]))) (Value.str (Str.mk (Array.mk [114, 101, 118, 101, 114, 115, 101, 100])) 72) (Value.type "reversed")), (DictEntry.mk (PyData.keyHash P (Str.mk (Array.mk [115, 101, 116]))) (Value.str (Str.mk (Array.mk [115, 101, 116])) 73) (Value.type "set")), (DictEntry.mk (PyData.keyHash P (Str.mk (Array.mk [115, 108, 105, 99, 101]))) (Value.str (Str.mk (Array.mk [115, 108, 105, 99, 101])) 74) (Value.type "slice")), (DictEntry.mk (PyData.keyHash P (Str.mk (Array.mk [115, 116, 97, 116, 105, 99, 109, 101, 116, 104, 111, 100]))) (Value.str (Str.mk (Array.mk [115, 116, 97, 116, 105, 99, 109, 101, 116, 104, 111, 100])) 75) (Value.type "staticmethod")), (DictEntry.mk (PyData.keyHash P (Str.mk (Array.mk [115, 116, 114]))) (Value.str (Str.mk (Array.mk [115, 116, 114])) 76) (Value.type "str")), (DictEntry.mk (PyData.keyHash P (Str.mk (Array.mk [115, 117, 112, 101, 114]))) (Value.str (Str.mk (Array.mk [115, 117, 112, 101, 114])) 77) (Value.type "super")), (DictEntry.mk (PyData.keyHash P (Str.mk (Array.mk [116, 117, 112, 108, 101]))) (Value.str (Str.mk (Array.mk [116, 117, 112, 108, 101])) 78) (Value.type "tuple")), (DictEntry.mk (PyData.keyHash P (Str.mk (Array.mk [116, 121, 112, 101]))) (Value.str (Str.mk (Array.mk [116, 121, 112, 101])) 79) (Value.type "type")), (DictEntry.mk (PyData.keyHash P (Str.mk (Array.mk [122, 105, 112]))) (Value.str (Str.mk (Array.mk [122, 105, 112])) 80) (Value.type "zip")), (DictEntry.mk (PyData.keyHash P (Str.mk (Array.mk [95, 95, 100, 101, 98, 117, 103, 95, 95]))) (Value.str (Str.mk (Array.mk [95, 95, 100, 101, 98, 117, 103, 95, 95])) 81) (Value.bool Bool.true)), (DictEntry.mk (PyData.keyHash P (Str.mk (Array.mk [66, 97, 115, 101, 69, 120, 99, 101, 112, 116, 105, 111, 110]))) (Value.str (Str.mk (Array.mk [66, 97, 115, 101, 69, 120, 99, 101, 112, 116, 105, 111, 110])) 82) (Value.type "BaseException")), (DictEntry.mk (PyData.keyHash P (Str.mk (Array.mk [66, 97, 115, 101, 69, 120, 99, 101, 112, 116, 105, 111, 110, 71, 114, 111, 117, 112]))) (Value.str (Str.mk (Array.mk [66, 97, 115, 101, 69, 120, 99, 101, 112, 116, 105, 111, 110, 71, 114, 111, 117, 112])) 83) (Value.type "BaseExceptionGroup")), (DictEntry.mk (PyData.keyHash P (Str.mk (Array.mk [69, 120, 99, 101, 112, 116, 105, 111, 110]))) (Value.str (Str.mk (Array.mk [69, 120, 99, 101, 112, 116, 105, 111, 110])) 84) (Value.type "Exception")), (DictEntry.mk (PyData.keyHash P (Str.mk (Array.mk [71, 101, 110, 101, 114, 97, 116, 111, 114, 69, 120, 105, 116]))) (Value.str (Str.mk (Array.mk [71, 101, 110, 101, 114, 97, 116, 111, 114, 69, 120, 105, 116])) 85) (Value.type "GeneratorExit")), (DictEntry.mk (PyData.keyHash P (Str.mk (Array.mk [75, 101, 121, 98, 111, 97, 114, 100, 73, 110, 116, 101, 114, 114, 117, 112, 116]))) (Value.str (Str.mk (Array.mk [75, 101, 121, 98, 111, 97, 114, 100, 73, 110, 116, 101, 114, 114, 117, 112, 116])) 86) (Value.type "KeyboardInterrupt")), (DictEntry.mk (PyData.keyHash P (Str.mk (Array.mk [83, 121, 115, 116, 101, 109, 69, 120, 105, 116]))) (Value.str (Str.mk (Array.mk [83, 121, 115, 116, 101, 109, 69, 120, 105, 116])) 87) (Value.type "SystemExit")), (DictEntry.mk (PyData.keyHash P (Str.mk (Array.mk [65, 114, 105, 116, 104, 109, 101, 116, 105, 99, 69, 114, 114, 111, 114]))) (Value.str (Str.mk (Array.mk [65, 114, 105, 116, 104, 109, 101, 116, 105, 99, 69, 114, 114, 111, 114])) 88) (Value.type "ArithmeticError")), (DictEntry.mk (PyData.keyHash P (Str.mk (Array.mk [65, 115, 115, 101, 114, 116, 105, 111, 110, 69, 114, 114, 111, 114]))) (Value.str (Str.mk (Array.mk [65, 115, 115, 101, 114, 116, 105, 111, 110, 69, 114, 114, 111, 114])) 89) (Value.type "AssertionError")), (DictEntry.mk (PyData.keyHash P (Str.mk (Array.mk [65, 116, 116, 114, 105, 98, 117, 116, 101, 69, 114, 114, 111, 114]))) (Value.str (Str.mk (Array.mk [65, 116, 116, 114, 105, 98, 117, 116, 101, 69, 114, 114, 111, 114])) 90) (Value.type "AttributeError")), (DictEntry.mk (PyData.keyHash P (Str.mk (Array.mk [66, 117, 102, 102, 101, 114, 69, 114, 114, 111, 114]))) (Value.str (Str.mk (Array.mk [66, 117, 102, 102, 101, 114, 69, 114, 114, 111, 114])) 91) (Value.type "BufferError")), (DictEntry.mk (PyData.keyHash P (Str.mk (Array.mk [69, 79, 70, 69, 114, 114, 111, 114]))) (Value.str (Str.mk (Array.mk [69, 79, 70, 69, 114, 114, 111, 114])) 92) (Value.type "EOFError")), (DictEntry.mk (PyData.keyHash P (Str.mk (Array.mk [73, 109, 112, 111, 114, 116, 69, 114, 114, 111, 114]))) (Value.str (Str.mk (Array.mk [73, 109, 112, 111, 114, 116, 69, 114, 114, 111, 114])) 93) (Value.type "ImportError")), (DictEntry.mk (PyData.keyHash P (Str.mk (Array.mk [76, 111, 111, 107, 117, 112, 69, 114, 114, 111, 114]))) (Value.str (Str.mk (Array.mk [76, 111, 111, 107, 117, 112, 69, 114, 114, 111, 114])) 94) (Value.type "LookupError")), (DictEntry.mk (PyData.keyHash P (Str.mk (Array.mk [77, 101, 109, 111, 114, 121, 69, 114, 114, 111, 114]))) (Value.str (Str.mk (Array.mk [77, 101, 109, 111, 114, 121, 69, 114, 114, 111, 114])) 95) (Value.type "MemoryError")), (DictEntry.mk (PyData.keyHash P (Str.mk (Array.mk [78, 97, 109, 101, 69, 114, 114, 111, 114]))) (Value.str (Str.mk (Array.mk [78, 97, 109, 101, 69, 114, 114, 111, 114])) 96) (Value.type "NameError")), (DictEntry.mk (PyData.keyHash P (Str.mk (Array.mk [79, 83, 69, 114, 114, 111, 114]))) (Value.str (Str.mk (Array.mk [79, 83, 69, 114, 114, 111, 114])) 97) (Value.type "OSError")), (DictEntry.mk (PyData.keyHash P (Str.mk (Array.mk [82, 101, 102, 101, 114, 101, 110, 99, 101, 69, 114, 114, 111, 114]))) (Value.str (Str.mk (Array.mk [82, 101, 102, 101, 114, 101, 110, 99, 101, 69, 114, 114, 111, 114])) 98) (Value.type "ReferenceError")), (DictEntry.mk (PyData.keyHash P (Str.mk (Array.mk [82, 117, 110, 116, 105, 109, 101, 69, 114, 114, 111, 114]))) (Value.str (Str.mk (Array.mk [82, 117, 110, 116, 105, 109, 101, 69, 114, 114, 111, 114])) 99) (Value.type "RuntimeError")), (DictEntry.mk (PyData.keyHash P (Str.mk (Array.mk [83, 116, 111, 112, 65, 115, 121, 110, 99, 73, 116, 101, 114, 97, 116, 105, 111, 110]))) (Value.str (Str.mk (Array.mk [83, 116, 111, 112, 65, 115, 121, 110, 99, 73, 116, 101, 114, 97, 116, 105, 111, 110])) 100) (Value.type "StopAsyncIteration")), (DictEntry.mk (PyData.keyHash P (Str.mk (Array.mk [83, 116, 111, 112, 73, 116, 101, 114, 97, 116, 105, 111, 110]))) (Value.str (Str.mk (Array.mk [83, 116, 111, 112, 73, 116, 101, 114, 97, 116, 105, 111, 110])) 101) (Value.type "StopIteration")), (DictEntry.mk (PyData.keyHash P (Str.mk (Array.mk [83, 121, 110, 116, 97, 120, 69, 114, 114, 111, 114]))) (Value.str (Str.mk (Array.mk [83, 121, 110, 116, 97, 120, 69, 114, 114, 111, 114])) 102) (Value.type "SyntaxError")), (DictEntry.mk (PyData.keyHash P (Str.mk (Array.mk [83, 121, 115, 116, 101, 109, 69, 114, 114, 111, 114]))) (Value.str (Str.mk (Array.mk [83, 121, 115, 116, 101, 109, 69, 114, 114, 111, 114])) 103) (Value.type "SystemError")), (DictEntry.mk (PyData.keyHash P (Str.mk (Array.mk [84, 121, 112, 101, 69, 114, 114, 111, 114]))) (Value.str (Str.mk (Array.mk [84, 121, 112, 101, 69, 114, 114, 111, 114])) 104) (Value.type "TypeError")), (DictEntry.mk (PyData.keyHash P (Str.mk (Array.mk [86, 97, 108, 117, 101, 69, 114, 114, 111, 114]))) (Value.str (Str.mk (Array.mk [86, 97, 108, 117, 101, 69, 114, 114, 111, 114])) 105) (Value.type "ValueError")), (DictEntry.mk (PyData.keyHash P (Str.mk (Array.mk [87, 97, 114, 110, 105, 110, 103]))) (Value.str (Str.mk (Array.mk [87, 97, 114, 110, 105, 110, 103])) 106) (Value.type "Warning")), (DictEntry.mk (PyData.keyHash P (Str.mk (Array.mk [70, 108, 111, 97, 116, 105, 110, 103, 80, 111, 105, 110, 116, 69, 114, 114, 111, 114]))) (Value.str (Str.mk (Array.mk [70, 108, 111, 97, 116, 105, 110, 103, 80, 111, 105, 110, 116, 69, 114, 114, 111, 114])) 107) (Value.type "FloatingPointError")), (DictEntry.mk (PyData.keyHash P (Str.mk (Array.mk [79, 118, 101, 114, 102, 108, 111, 119, 69, 114, 114, 111, 114]))) (Value.str (Str.mk (Array.mk [79, 118, 101, 114, 102, 108, 111, 119, 69, 114, 114, 111, 114])) 108) (Value.type "OverflowError")), (DictEntry.mk (PyData.keyHash P (Str.mk (Array.mk [90, 101, 114, 111, 68, 105, 118, 105, 115, 105, 111, 110, 69, 114, 114, 111, 114]))) (Value.str (Str.mk (Array.mk [90, 101, 114, 111, 68, 105, 118, 105, 115, 105, 111, 110, 69, 114, 114, 111, 114])) 109) (Value.type "ZeroDivisionError")), (DictEntry.mk (PyData.keyHash P (Str.mk (Array.mk [66, 121, 116, 101, 115, 87, 97, 114, 110, 105, 110, 103]))) (Value.str (Str.mk (Array.mk [66, 121, 116, 101, 115, 87, 97, 114, 110, 105, 110, 103])) 110) (Value.type "BytesWarning")), (DictEntry.mk (PyData.keyHash P (Str.mk (Array.mk [68, 101, 112, 114, 101, 99, 97, 116, 105, 111, 110, 87, 97, 114, 110, 105, 110, 103]))) (Value.str (Str.mk (Array.mk [68, 101, 112, 114, 101, 99, 97, 116, 105, 111, 110, 87, 97, 114, 110, 105, 110, 103])) 111) (Value.type "DeprecationWarning")), (DictEntry.mk (PyData.keyHash P (Str.mk (Array.mk [69, 110, 99, 111, 100, 105, 110, 103, 87, 97, 114, 110, 105, 110, 103]))) (Value.str (Str.mk (Array.mk [69, 110, 99, 111, 100, 105, 110, 103, 87, 97, 114, 110, 105, 110, 103])) 112) (Value.type "EncodingWarning")), (DictEntry.mk (PyData.keyHash P (Str.mk (Array.mk [70, 117, 116, 117, 114, 101, 87, 97, 114, 110, 105, 110, 103]))) (Value.str (Str.mk (Array.mk [70, 117, 116, 117, 114, 101, 87, 97, 114, 110, 105, 110, 103])) 113) (Value.type "FutureWarning")), (DictEntry.mk (PyData.keyHash P (Str.mk (Array.mk [73, 109, 112, 111, 114, 116, 87, 97, 114, 110, 105, 110, 103]))) (Value.str (Str.mk (Array.mk [73, 109, 112, 111, 114, 116, 87, 97, 114, 110, 105, 110, 103])) 114) (Value.type "ImportWarning")), (DictEntry.mk (PyData.keyHash P (Str.mk (Array.mk [80, 101, 110, 100, 105, 110, 103, 68, 101, 112, 114, 101, 99, 97, 116, 105, 111, 110, 87, 97, 114, 110, 105, 110, 103]))) (Value.str (Str.mk (Array.mk [80, 101, 110, 100, 105, 110, 103, 68, 101, 112, 114, 101, 99, 97, 116, 105, 111, 110, 87, 97, 114, 110, 105, 110, 103])) 115) (Value.type "PendingDeprecationWarning")), (DictEntry.mk (PyData.keyHash P (Str.mk (Array.mk [82, 101, 115, 111, 117, 114, 99, 101, 87, 97, 114, 110, 105, 110, 103]))) (Value.str (Str.mk (Array.mk [82, 101, 115, 111, 117, 114, 99, 101, 87, 97, 114, 110, 105, 110, 103])) 116) (Value.type "ResourceWarning")), (DictEntry.mk (PyData.keyHash P (Str.mk (Array.mk [82, 117, 110, 116, 105, 109, 101, 87, 97, 114, 110, 105, 110, 103]))) (Value.str (Str.mk (Array.mk [82, 117, 110, 116, 105, 109, 101, 87, 97, 114, 110, 105, 110, 103])) 117) (Value.type "RuntimeWarning")), (DictEntry.mk (PyData.keyHash P (Str.mk (Array.mk [83, 121, 110, 116, 97, 120, 87, 97, 114, 110, 105, 110, 103]))) (Value.str (Str.mk (Array.mk [83, 121, 110, 116, 97, 120, 87, 97, 114, 110, 105, 110, 103])) 118) (Value.type "SyntaxWarning")), (DictEntry.mk (PyData.keyHash P (Str.mk (Array.mk [85, 110, 105, 99, 111, 100, 101, 87, 97, 114, 110, 105, 110, 103]))) (Value.str (Str.mk (Array.mk [85, 110, 105, 99, 111, 100, 101, 87, 97, 114, 110, 105, 110, 103])) 119) (Value.type "UnicodeWarning")), (DictEntry.mk (PyData.keyHash P (Str.mk (Array.mk [85, 115, 101, 114, 87, 97, 114, 110, 105, 110, 103]))) (Value.str (Str.mk (Array.mk [85, 115, 101, 114, 87, 97, 114, 110, 105, 110, 103])) 120) (Value.type "UserWarning")), (DictEntry.mk (PyData.keyHash P (Str.mk (Array.mk [66, 108, 111, 99, 107, 105, 110, 103, 73, 79, 69, 114, 114, 111, 114]))) (Value.str (Str.mk (Array.mk [66, 108, 111, 99, 107, 105, 110, 103, 73, 79, 69, 114, 114, 111, 114])) 121) (Value.type "BlockingIOError")), (DictEntry.mk (PyData.keyHash P (Str.mk (Array.mk [67, 104, 105, 108, 100, 80, 114, 111, 99, 101, 115, 115, 69, 114, 114, 111, 114]))) (Value.str (Str.mk (Array.mk [67, 104, 105, 108, 100, 80, 114, 111, 99, 101, 115, 115, 69, 114, 114, 111, 114])) 122) (Value.type "ChildProcessError")), (DictEntry.mk (PyData.keyHash P (Str.mk (Array.mk [67, 111, 110, 110, 101, 99, 116, 105, 111, 110, 69, 114, 114, 111, 114]))) (Value.str (Str.mk (Array.mk [67, 111, 110, 110, 101, 99, 116, 105, 111, 110, 69, 114, 114, 111, 114])) 123) (Value.type "ConnectionError")), (DictEntry.mk (PyData.keyHash P (Str.mk (Array.mk [70, 105, 108, 101, 69, 120, 105, 115, 116, 115, 69, 114, 114, 111, 114]))) (Value.str (Str.mk (Array.mk [70, 105, 108, 101, 69, 120, 105, 115, 116, 115, 69, 114, 114, 111, 114])) 124) (Value.type "FileExistsError")), (DictEntry.mk (PyData.keyHash P (Str.mk (Array.mk [70, 105, 108, 101, 78, 111, 116, 70, 111, 117, 110, 100, 69, 114, 114, 111, 114]))) (Value.str (Str.mk (Array.mk [70, 105, 108, 101, 78, 111, 116, 70, 111, 117, 110, 100, 69, 114, 114, 111, 114])) 125) (Value.type "FileNotFoundError")), (DictEntry.mk (PyData.keyHash P (Str.mk (Array.mk [73, 110, 116, 101, 114, 114, 117, 112, 116, 101, 100, 69, 114, 114, 111, 114]))) (Value.str (Str.mk (Array.mk [73, 110, 116, 101, 114, 114, 117, 112, 116, 101, 100, 69, 114, 114, 111, 114])) 126) (Value.type "InterruptedError")), (DictEntry.mk (PyData.keyHash P (Str.mk (Array.mk [73, 115, 65, 68, 105, 114, 101, 99, 116, 111, 114, 121, 69, 114, 114, 111, 114]))) (Value.str (Str.mk (Array.mk [73, 115, 65, 68, 105, 114, 101, 99, 116, 111, 114, 121, 69, 114, 114, 111, 114])) 127) (Value.type "IsADirectoryError")), (DictEntry.mk (PyData.keyHash P (Str.mk (Array.mk [78, 111, 116, 65, 68, 105, 114, 101, 99, 116, 111, 114, 121, 69, 114, 114, 111, 114]))) (Value.str (Str.mk (Array.mk [78, 111, 116, 65, 68, 105, 114, 101, 99, 116, 111, 114, 121, 69, 114, 114, 111, 114])) 128) (Value.type "NotADirectoryError")), (DictEntry.mk (PyData.keyHash P (Str.mk (Array.mk [80, 101, 114, 109, 105, 115, 115, 105, 111, 110, 69, 114, 114, 111, 114]))) (Value.str (Str.mk (Array.mk [80, 101, 114, 109, 105, 115, 115, 105, 111, 110, 69, 114, 114, 111, 114])) 129) (Value.type "PermissionError")), (DictEntry.mk (PyData.keyHash P (Str.mk (Array.mk [80, 114, 111, 99, 101, 115, 115, 76, 111, 111, 107, 117, 112, 69, 114, 114, 111, 114]))) (Value.str (Str.mk (Array.mk [80, 114, 111, 99, 101, 115, 115, 76, 111, 111, 107, 117, 112, 69, 114, 114, 111, 114])) 130) (Value.type "ProcessLookupError")), (DictEntry.mk (PyData.keyHash P (Str.mk (Array.mk [84, 105, 109, 101, 111, 117, 116, 69, 114, 114, 111, 114]))) (Value.str (Str.mk (Array.mk [84, 105, 109, 101, 111, 117, 116, 69, 114, 114, 111, 114])) 131) (Value.type "TimeoutError")), (DictEntry.mk (PyData.keyHash P (Str.mk (Array.mk [73, 110, 100, 101, 110, 116, 97, 116, 105, 111, 110, 69, 114, 114, 111, 114]))) (Value.str (Str.mk (Array.mk [73, 110, 100, 101, 110, 116, 97, 116, 105, 111, 110, 69, 114, 114, 111, 114])) 132) (Value.type "IndentationError")), (DictEntry.mk (PyData.keyHash P (Str.mk (Array.mk [95, 73, 110, 99, 111, 109, 112, 108, 101, 116, 101, 73, 110, 112, 117, 116, 69, 114, 114, 111, 114]))) (Value.str (Str.mk (Array.mk [95, 73, 110, 99, 111, 109, 112, 108, 101, 116, 101, 73, 110, 112, 117, 116, 69, 114, 114, 111, 114])) 133) (Value.type "_IncompleteInputError")), (DictEntry.mk (PyData.keyHash P (Str.mk (Array.mk [73, 110, 100, 101, 120, 69, 114, 114, 111, 114]))) (Value.str (Str.mk (Array.mk [73, 110, 100, 101, 120, 69, 114, 114, 111, 114])) 134) (Value.type "IndexError")), (DictEntry.mk (PyData.keyHash P (Str.mk (Array.mk [75, 101, 121, 69, 114, 114, 111, 114]))) (Value.str (Str.mk (Array.mk [75, 101, 121, 69, 114, 114, 111, 114])) 135) (Value.type "KeyError")), (DictEntry.mk (PyData.keyHash P (Str.mk (Array.mk [77, 111, 100, 117, 108, 101, 78, 111, 116, 70, 111, 117, 110, 100, 69, 114, 114, 111, 114]))) (Value.str (Str.mk (Array.mk [77, 111, 100, 117, 108, 101, 78, 111, 116, 70, 111, 117, 110, 100, 69, 114, 114, 111, 114])) 136) (Value.type "ModuleNotFoundError")), (DictEntry.mk (PyData.keyHash P (Str.mk (Array.mk [78, 111, 116, 73, 109, 112, 108, 101, 109, 101, 110, 116, 101, 100, 69, 114, 114, 111, 114]))) (Value.str (Str.mk (Array.mk [78, 111, 116, 73, 109, 112, 108, 101, 109, 101, 110, 116, 101, 100, 69, 114, 114, 111, 114])) 137) (Value.type "NotImplementedError")), (DictEntry.mk (PyData.keyHash P (Str.mk (Array.mk [80, 121, 116, 104, 111, 110, 70, 105, 110, 97, 108, 105, 122, 97, 116, 105, 111, 110, 69, 114, 114, 111, 114]))) (Value.str (Str.mk (Array.mk [80, 121, 116, 104, 111, 110, 70, 105, 110, 97, 108, 105, 122, 97, 116, 105, 111, 110, 69, 114, 114, 111, 114])) 138) (Value.type "PythonFinalizationError")), (DictEntry.mk (PyData.keyHash P (Str.mk (Array.mk [82, 101, 99, 117, 114, 115, 105, 111, 110, 69, 114, 114, 111, 114]))) (Value.str (Str.mk (Array.mk [82, 101, 99, 117, 114, 115, 105, 111, 110, 69, 114, 114, 111, 114])) 139) (Value.type "RecursionError")), (DictEntry.mk (PyData.keyHash P (Str.mk (Array.mk [85, 110, 98, 111, 117, 110, 100, 76, 111, 99, 97, 108, 69, 114, 114, 111, 114]))) (Value.str (Str.mk (Array.mk [85, 110, 98, 111, 117, 110, 100, 76, 111, 99, 97, 108, 69, 114, 114, 111, 114])) 140) (Value.type "UnboundLocalError")), (DictEntry.mk (PyData.keyHash P (Str.mk (Array.mk [85, 110, 105, 99, 111, 100, 101, 69, 114, 114, 111, 114]))) (Value.str (Str.mk (Array.mk [85, 110, 105, 99, 111, 100, 101, 69, 114, 114, 111, 114])) 141) (Value.type "UnicodeError")), (DictEntry.mk (PyData.keyHash P (Str.mk (Array.mk [66, 114, 111, 107, 101, 110, 80, 105, 112, 101, 69, 114, 114, 111, 114]))) (Value.str (Str.mk (Array.mk [66, 114, 111, 107, 101, 110, 80, 105, 112, 101, 69, 114, 114, 111, 114])) 142) (Value.type "BrokenPipeError")), (DictEntry.mk (PyData.keyHash P (Str.mk (Array.mk [67, 111, 110, 110, 101, 99, 116, 105, 111, 110, 65, 98, 111, 114, 116, 101, 100, 69, 114, 114, 111, 114]))) (Value.str (Str.mk (Array.mk [67, 111, 110, 110, 101, 99, 116, 105, 111, 110, 65, 98, 111, 114, 116, 101, 100, 69, 114, 114, 111, 114])) 143) (Value.type "ConnectionAbortedError")), (DictEntry.mk (PyData.keyHash P (Str.mk (Array.mk [67, 111, 110, 110, 101, 99, 116, 105, 111, 110, 82, 101, 102, 117, 115, 101, 100, 69, 114, 114, 111, 114]))) (Value.str (Str.mk (Array.mk [67, 111, 110, 110, 101, 99, 116, 105, 111, 110, 82, 101, 102, 117, 115, 101, 100, 69, 114, 114, 111, 114])) 144) (Value.type "ConnectionRefusedError")), (DictEntry.mk (PyData.keyHash P (Str.mk (Array.mk [67, 111, 110, 110, 101, 99, 116, 105, 111, 110, 82, 101, 115, 101, 116, 69, 114, 114, 111, 114]))) (Value.str (Str.mk (Array.mk [67, 111, 110, 110, 101, 99, 116, 105, 111, 110, 82, 101, 115, 101, 116, 69, 114, 114, 111, 114])) 145) (Value.type "ConnectionResetError")), (DictEntry.mk (PyData.keyHash P (Str.mk (Array.mk [84, 97, 98, 69, 114, 114, 111, 114]))) (Value.str (Str.mk (Array.mk [84, 97, 98, 69, 114, 114, 111, 114])) 146) (Value.type "TabError")), (DictEntry.mk (PyData.keyHash P (Str.mk (Array.mk [85, 110, 105, 99, 111, 100, 101, 68, 101, 99, 111, 100, 101, 69, 114, 114, 111, 114]))) (Value.str (Str.mk (Array.mk [85, 110, 105, 99, 111, 100, 101, 68, 101, 99, 111, 100, 101, 69, 114, 114, 111, 114])) 147) (Value.type "UnicodeDecodeError")), (DictEntry.mk (PyData.keyHash P (Str.mk (Array.mk [85, 110, 105, 99, 111, 100, 101, 69, 110, 99, 111, 100, 101, 69, 114, 114, 111, 114]))) (Value.str (Str.mk (Array.mk [85, 110, 105, 99, 111, 100, 101, 69, 110, 99, 111, 100, 101, 69, 114, 114, 111, 114])) 148) (Value.type "UnicodeEncodeError")), (DictEntry.mk (PyData.keyHash P (Str.mk (Array.mk [85, 110, 105, 99, 111, 100, 101, 84, 114, 97, 110, 115, 108, 97, 116, 101, 69, 114, 114, 111, 114]))) (Value.str (Str.mk (Array.mk [85, 110, 105, 99, 111, 100, 101, 84, 114, 97, 110, 115, 108, 97, 116, 101, 69, 114, 114, 111, 114])) 149) (Value.type "UnicodeTranslateError")), (DictEntry.mk (PyData.keyHash P (Str.mk (Array.mk [69, 120, 99, 101, 112, 116, 105, 111, 110, 71, 114, 111, 117, 112]))) (Value.str (Str.mk (Array.mk [69, 120, 99, 101, 112, 116, 105, 111, 110, 71, 114, 111, 117, 112])) 150) (Value.type "ExceptionGroup")), (DictEntry.mk (PyData.keyHash P (Str.mk (Array.mk [69, 110, 118, 105, 114, 111, 110, 109, 101, 110, 116, 69, 114, 114, 111, 114]))) (Value.str (Str.mk (Array.mk [69, 110, 118, 105, 114, 111, 110, 109, 101, 110, 116, 69, 114, 114, 111, 114])) 151) (Value.type "OSError")), (DictEntry.mk (PyData.keyHash P (Str.mk (Array.mk [73, 79, 69, 114, 114, 111, 114]))) (Value.str (Str.mk (Array.mk [73, 79, 69, 114, 114, 111, 114])) 152) (Value.type "OSError")), (DictEntry.mk (PyData.keyHash P (Str.mk (Array.mk [111, 112, 101, 110]))) (Value.str (Str.mk (Array.mk [111, 112, 101, 110])) 153) (Value.builtin "open")), (DictEntry.mk (PyData.keyHash P (Str.mk (Array.mk [113, 117, 105, 116]))) (Value.str (Str.mk (Array.mk [113, 117, 105, 116])) 154) (Value.builtin "builtins.quit#opaque")), (DictEntry.mk (PyData.keyHash P (Str.mk (Array.mk [101, 120, 105, 116]))) (Value.str (Str.mk (Array.mk [101, 120, 105, 116])) 155) (Value.builtin "builtins.exit#opaque")), (DictEntry.mk (PyData.keyHash P (Str.mk (Array.mk [99, 111, 112, 121, 114, 105, 103, 104, 116]))) (Value.str (Str.mk (Array.mk [99, 111, 112, 121, 114, 105, 103, 104, 116])) 156) (Value.builtin "builtins.copyright#opaque")), (DictEntry.mk (PyData.keyHash P (Str.mk (Array.mk [99, 114, 101, 100, 105, 116, 115]))) (Value.str (Str.mk (Array.mk [99, 114, 101, 100, 105, 116, 115])) 157) (Value.builtin "builtins.credits#opaque")), (DictEntry.mk (PyData.keyHash P (Str.mk (Array.mk [108, 105, 99, 101, 110, 115, 101]))) (Value.str (Str.mk (Array.mk [108, 105, 99, 101, 110, 115, 101])) 158) (Value.builtin "builtins.license#opaque")), (DictEntry.mk (PyData.keyHash P (Str.mk (Array.mk [104, 101, 108, 112]))) (Value.str (Str.mk (Array.mk [104, 101, 108, 112])) 159) (Value.builtin "builtins.help#opaque"))]) 159) (List.toArray []))
noncomputable def gfK (P : Params) : Frag := [(0, gf0 P), (2, o_42 P), (3, o_480 P), (42, o_45 P), (49, o_52 P), (50, o_53 P), (56, o_59 P), (57, o_60 P), (66, o_69 P), (67, o_91 P), (91, o_100 P), (92, o_101 P)]
set_option maxHeartbeats 0 in
theorem gf_3 {P : Params} {h : Heap} (X : (hd.heap_1 P).In h) : h.get? 3 = some (o_480 P) := by
  have h1 : ((hd.heap_1 P).lookup 3).map (bareObj 3 25 3) = some (bareObj' 3 25 3 (o_480 P)) := by kernel_rfl
  have h2 : ((hd.heap_1 P).lookup 3).bind (valObj 25) = some (Value.str resT.1 367) := res_val (by kernel_rfl)
  have h3 : valObj 25 (o_480 P) = some (Value.str resT.1 367) := by kernel_rfl
  cases e : (hd.heap_1 P).lookup 3 with
  | none => rw [e] at h1; simp at h1
  | some o =>
    rw [e] at h1 h2
    rw [bareObj_same] at h1
    have z : o = o_480 P := obj_of (Option.some.inj h1) fun _ => (show valObj 25 o = _ from h2).trans h3.symm
    subst z
    exact X 3 _ e
set_option maxHeartbeats 0 in
theorem gf_sub {P : Params} {h : Heap} (X : (hd.heap_1 P).In h) : (gfK P).In h := by
  refine Frag.in_of (as := [0, 2, 3, 42, 49, 50, 56, 57, 66, 67, 91, 92]) rfl ?_
  show [h.get? 0, h.get? 2, h.get? 3, h.get? 42, h.get? 49, h.get? 50, h.get? 56, h.get? 57, h.get? 66, h.get? 67, h.get? 91, h.get? 92] = _
  rw [X 0 (gf0 P) (by kernel_rfl), X 2 (o_42 P) (by kernel_rfl), gf_3 X, X 42 (o_45 P) (by kernel_rfl), X 49 (o_52 P) (by kernel_rfl), X 50 (o_53 P) (by kernel_rfl), X 56 (o_59 P) (by kernel_rfl), X 57 (o_60 P) (by kernel_rfl), X 66 (o_69 P) (by kernel_rfl), X 67 (o_91 P) (by kernel_rfl), X 91 (o_100 P) (by kernel_rfl), X 92 (o_101 P) (by kernel_rfl)]
  rfl
/-- what the making of a GrammarFault hands on -/
noncomputable def GFB (s : Shared) (x : Value) (Q : Value → Shared → Prop) : Prop := ∀ h' tk e t d od news, Mem s.heap h' [] news →
  (e, (⟨.ref 92, some d, .fields #[.ref t, .none, .none, .none, .bool false, .none], #[]⟩ : Obj)) ∈ news → (t, (⟨.type "tuple", none, .seq #[x] 0, #[]⟩ : Obj)) ∈ news → (d, od) ∈ news → Q (.ref e) ⟨h', s.gens, s.drawn, tk, s.os⟩
theorem GFB.use {s : Shared} {x : Value} {Q : Value → Shared → Prop} {h' : Heap} {tk : Nat} {e t d : Addr} {od : Obj} {news : List (Addr × Obj)} (b : GFB s x Q) (D : Mem s.heap h' [] news)
  (h1 : (e, (⟨.ref 92, some d, .fields #[.ref t, .none, .none, .none, .bool false, .none], #[]⟩ : Obj)) ∈ news) (h2 : (t, (⟨.type "tuple", none, .seq #[x] 0, #[]⟩ : Obj)) ∈ news) (h3 : (d, od) ∈ news) : Q (.ref e) ⟨h', s.gens, s.drawn, tk, s.os⟩ := b _ _ _ _ _ _ _ D h1 h2 h3
local macro_rules | `(tactic| x_close) => `(tactic| exact GFB.use (by assumption) (by assumption) (List.Mem.tail _ (.tail _ (.tail _ (.head _)))) (List.Mem.tail _ (.head _)) (List.Mem.head _))
set_option maxHeartbeats 0 in
theorem gf_x {prog : Program} {w : World} {s : Shared} {Q E : Value → Shared → Prop} {x : Str} {t : Tok} {a : Addr} {fr : List Env} (hp : PySem.Challenge.rw_og0095_01 = PySem.Challenge.rw_og0095_01) (X : (gfK w.params).In s.heap) (hB : GFB s (.str x t) Q) :
    wpAny (model prog w) { handled := none, depth := 700, frames := some fr, guards := none, units := 4000 } (call (.ref 92) [.str x t, .ref a]) Q E s := by
  revert hp X; k_fill; intro hp X; clear hp
  x_run
/-- a GrammarFault is made: over a frame and a ledger -/
theorem gf_call {w : World} {s : Shared} {Q E : Value → Shared → Prop} {A : Around} {x : Str} {tx : Tok} {a : Addr} {h₀ : Heap} {L : Addr} {m : Str → Option Value} {fr : List Env} {news : List (Addr × Obj)}
    (F : Fr h₀ L s.heap m) (X : (hd.heap_1 w.params).In h₀) (N : News h₀ L s.heap news) (hh : A.handled = none) (hd' : A.depth ≤ 700) (hf : A.frames = some fr) (hu : A.units ≤ 4000)
    (h : ∀ h' tk e t d od, Fr h₀ L h' m → Fresh h₀ L h' 92 e t d (.str x tx) od news → W.InstAt h' e ⟨.ref 92, some d, .fields #[.ref t, .none, .none, .none, .bool false, .none], #[]⟩ 92 (some od) → Q (.ref e) { s with heap := h', toks := tk }) :
    wpAny (model PySem.Challenge.rw_og0095_01.row.prog w) A (call (.ref 92) [.str x tx, .ref a]) Q E s := by
  refine wp_weaken (gf_x (Q := Q) (fr := fr) rfl (gf_sub (X.keeps F.keep)) ?_) hh hd' (.inr hf.symm) (.inl rfl) hu
  intro h' tk e t d od nw D h1 h2 h3
  have N' := mem_news D F N
  refine h h' tk e t d od (mem_fr D F) ⟨news_sub N' ?_, ?_⟩ ⟨(D.nw _ h1).1, rfl, rfl, (D.nw _ h3).1⟩
  · intro p hp
    rcases List.mem_cons.mp hp with rfl | hp
    · exact List.mem_append.mpr (.inl h1)
    · rcases List.mem_cons.mp hp with rfl | hp
      · exact List.mem_append.mpr (.inl h2)
      · rcases List.mem_cons.mp hp with rfl | hp
        · exact List.mem_append.mpr (.inl h3)
        · exact List.mem_append.mpr (.inr hp)
  · intro p hp
    have z := (N p hp).1
    exact ⟨fun q => (by have := (D.nw _ h1).2; rw [← q, z] at this; cases this), fun q => (by have := (D.nw _ h2).2; rw [← q, z] at this; cases this)⟩
end
/-- what a token says -/
structure TokD where
  kind : Str
  worth : Str
  inA : Bool

/-- a reader: where it lies -/
structure Rd where
  (r dx l : Addr) (h1 h2 h3 : Int) (k1 k2 k3 : Tok) (nd : Value) (n' : Nat) (vs : List Value)
abbrev Rd.obj (R : Rd) (k : Nat) (tk : Tok) : Obj :=
  dictOf [⟨R.h1, .str (Str.ofString "tokens") R.k1, .ref R.l⟩, ⟨R.h2, .str (Str.ofString "at") R.k2, .int (k : Int) tk⟩, ⟨R.h3, .str (Str.ofString "named") R.k3, R.nd⟩] 3

/-- a token's dict -/
abbrev TD (h1 h2 h3 h4 : Int) (k1 k2 k3 k4 j1 j2 : Tok) (ta : Addr) (n : Nat) (d : TokD) : Obj :=
  dictOf [⟨h1, .str (Str.ofString "kind") k1, .str d.kind j1⟩, ⟨h2, .str (Str.ofString "worth") k2, .str d.worth j2⟩, ⟨h3, .str (Str.ofString "at") k3, .ref ta⟩, ⟨h4, .str (Str.ofString "is_in_a") k4, .bool d.inA⟩] n
inductive TkAt (rest : List (Addr × Obj)) (t : Addr) (d : TokD) : Prop
  | mk : ∀ (dt : Addr) (h1 : Int) (h2 : Int) (h3 : Int) (h4 : Int) (k1 : Tok) (k2 : Tok) (k3 : Tok) (k4 : Tok) (j1 : Tok) (j2 : Tok) (ta : Addr) (n : Nat), (t, instObj 350 dt) ∈ rest → (dt, TD h1 h2 h3 h4 k1 k2 k3 k4 j1 j2 ta n d) ∈ rest → d.worth.length ≤ 100 → TkAt rest t d
inductive ToksIn (rest : List (Addr × Obj)) : List Value → List TokD → Prop
  | nil : ToksIn rest [] []
  | cons {t d vs ds} : TkAt rest t d → ToksIn rest vs ds → ToksIn rest (.ref t :: vs) (d :: ds)
theorem ToksIn.length {rest : List (Addr × Obj)} {vs : List Value} {ds : List TokD} (T : ToksIn rest vs ds) : vs.length = ds.length := by
  induction T with
  | nil => rfl
  | cons _ _ ih => simp [ih]
theorem ToksIn.get {rest : List (Addr × Obj)} {vs : List Value} {ds : List TokD} (T : ToksIn rest vs ds) : ∀ {i : Nat}, i < ds.length → ∃ t d, vs[i]? = some (.ref t) ∧ ds[i]? = some d ∧ TkAt rest t d := by
  induction T with
  | nil => intro i h; exact absurd h (Nat.not_lt_zero _)
  | cons h _ ih =>
    intro i hi
    cases i with
    | zero => exact ⟨_, _, rfl, rfl, h⟩
    | succ i => exact ih (by simpa using hi)

theorem TkAt.mono {a b : List (Addr × Obj)} {t : Addr} {d : TokD} (h : TkAt a t d) (hs : ∀ p ∈ a, p ∈ b) : TkAt b t d := by
  obtain ⟨dt, h1, h2, h3, h4, k1, k2, k3, k4, j1, j2, ta, n, m1, m2, hw⟩ := h
  exact ⟨dt, h1, h2, h3, h4, k1, k2, k3, k4, j1, j2, ta, n, hs _ m1, hs _ m2, hw⟩
theorem ToksIn.mono {a b : List (Addr × Obj)} {vs : List Value} {ds : List TokD} (h : ToksIn a vs ds) (hs : ∀ p ∈ a, p ∈ b) : ToksIn b vs ds := by
  induction h with
  | nil => exact .nil
  | cons h _ ih => exact .cons (h.mono hs) ih
theorem ToksIn.at {rest : List (Addr × Obj)} {vs : List Value} {ds : List TokD} (T : ToksIn rest vs ds) : ∀ {i : Nat} {t : Addr} {d : TokD}, vs[i]? = some (.ref t) → ds[i]? = some d → TkAt rest t d := by
  induction T with
  | nil => intro i t d h; simp at h
  | cons h _ ih =>
    intro i t' d' h1 h2
    cases i with
    | zero =>
      simp only [List.getElem?_cons_zero, Option.some.injEq, Value.ref.injEq] at h1 h2
      subst h1 h2; exact h
    | succ i => exact ih (by simpa using h1) (by simpa using h2)

/-- the reader's things in a ledger -/
structure Rd.At (R : Rd) (news : List (Addr × Obj)) (ds : List TokD) : Prop where
  inst : (R.r, instObj 320 R.dx) ∈ news
  list : (R.l, W.listOf R.vs.toArray R.n') ∈ news
  sz : R.vs.length < 1000
  toks : ToksIn news R.vs ds
theorem Rd.At.len {R : Rd} {news : List (Addr × Obj)} {ds : List TokD} (I : R.At news ds) : R.vs.length = ds.length := I.toks.length
theorem Rd.At.mono {R : Rd} {a b : List (Addr × Obj)} {ds : List TokD} (I : R.At a ds) (hs : ∀ p ∈ a, p ∈ b) : R.At b ds := ⟨hs _ I.inst, hs _ I.list, I.sz, I.toks.mono hs⟩
/-- the reader's ledger behind its dict -/
structure Rd.In (R : Rd) (rest : List (Addr × Obj)) (ds : List TokD) : Prop extends Rd.At R rest ds where
  off : ∀ p ∈ rest, p.1 ≠ R.dx

theorem news_tail {h₀ h : Heap} {L : Addr} {p : Addr × Obj} {q : List (Addr × Obj)} (N : News h₀ L h (p :: q)) : News h₀ L h q := fun x hx => N x (.tail _ hx)
theorem raised_tail {base h : Heap} {l : List Env} {e t : Addr} {c : Value} {vs : List Value} {p : Addr × Obj} {q : List (Addr × Obj)} (R : RaisedK base l e c t vs (p :: q) h) : RaisedK base l e c t vs q h := by
  obtain ⟨⟨B, h1, h2, h3⟩, h4⟩ := R
  exact ⟨⟨B, h1, fun x hx => h2 x (.tail _ hx), h3⟩, h4⟩
theorem fresh_tail {h₀ h : Heap} {L C e t d : Addr} {x : Value} {od : Obj} {p : Addr × Obj} {q : List (Addr × Obj)} (X : Fresh h₀ L h C e t d x od (p :: q)) : Fresh h₀ L h C e t d x od q := by
  refine ⟨news_sub X.N fun y hy => ?_, fun y hy => X.off y (.tail _ hy)⟩
  rcases List.mem_cons.mp hy with rfl | hy
  · exact .head _
  · rcases List.mem_cons.mp hy with rfl | hy
    · exact .tail _ (.head _)
    · rcases List.mem_cons.mp hy with rfl | hy
      · exact .tail _ (.tail _ (.head _))
      · exact .tail _ (.tail _ (.tail _ (.tail _ hy)))
/-- Fr and News of the callee's heap that was left -/
theorem up_trans {h₀ g' h' : Heap} {L : Addr} {m : Str → Option Value} (_F : Fr h₀ L g' m) (u : g'.UpToSlots h') : g'.UpToSlots h' := u

/-- what peek hands on -/
noncomputable def PeekRes (news : List (Addr × Obj)) (R : Rd) (ds : List TokD) (j : Nat) (v : Value) : Prop :=
  (∃ t d, v = .ref t ∧ ds[j]? = some d ∧ R.vs[j]? = some (.ref t) ∧ TkAt news t d) ∨ (v = .none ∧ ds.length ≤ j)

/-- around a call out of a def of the text -/
abbrev ar (d u : Nat) (cn : Str) (nms : List (Str × NameKind)) (mo : List (Str × Const)) (L a : Addr) (ccd : Value) (cl : List (Str × Addr)) (outer : List Env) : Around :=
  { handled := none, depth := d, frames := some (envX cn { kind := .function, names := nms, isGenerator := false, isCoroutine := false, more := mo } L a ccd cl :: outer), guards := none, units := u }

/-- raise with an own exception: what its expression must hand on -/
noncomputable def RObj (K : Frag) (C : Addr) (E : Value → Shared → Prop) (v : Value) (s₁ : Shared) : Prop :=
  ∃ a ob vs od, v = .ref a ∧ K.In s₁.heap ∧ W.InstAt s₁.heap a ob C od ∧ ob.data = .fields vs ∧ vs[1]? = some .none ∧ E (.ref a) s₁
theorem RObj.intro {K : Frag} {C e d t : Addr} {E : Value → Shared → Prop} {s₁ : Shared} {od : Option Obj} (X : K.In s₁.heap) (I : W.InstAt s₁.heap e ⟨.ref C, some d, .fields #[.ref t, .none, .none, .none, .bool false, .none], #[]⟩ C od) (h : E (.ref e) s₁) : RObj K C E (.ref e) s₁ :=
  ⟨e, _, _, od, rfl, X, I, rfl, rfl, h⟩
section
variable {prog : Program} {w : World} {A : Around} {E : Value → Shared → Prop} {s : Shared} {K : Frag} {env : Env} {C : Addr} {h₀ : Heap} {L : Addr} {news rest : List (Addr × Obj)} {R : Rd} {ds : List TokD}
theorem Raise_m {e : PySem.Expr} {pos : Pos} {Q : Flow → Shared → Prop} (hh : A.handled = none) (_X : K.In h₀) (hsub : mroIn K C (.type "BaseException") = some true) (hmt : typeIn K (.ref C) = some (.type "type"))
    (h : wpAny (model prog w) A (eval e env) (RObj K C E) E s) : wpAny (model prog w) A (exec (.Raise (some e) none pos) env) Q E s := Raise_obj hh hsub hmt h
theorem len_m {Q : Value → Shared → Prop} (N : News h₀ L s.heap news) (I : R.At news ds) (h : Q (.int (ds.length : Int) (s.toks + 1)) { s with toks := s.toks + 1 + 1 }) :
    wpAny (model prog w) A (call (.builtin "len") [.ref R.l]) Q E s := by
  have e : R.vs.toArray.size = ds.length := by rw [List.size_toArray]; exact I.len
  refine call_len_list (News.isList N I.list) (by have := I.sz; rw [List.size_toArray]; omega) ?_
  rw [e]; exact h
theorem truthy_m {Q : Bool → Shared → Prop} (N : News h₀ L s.heap news) (I : R.At news ds) (h : Q (decide (0 < ds.length)) { s with toks := s.toks + 1 + 1 }) :
    wpAny (model prog w) A (truthy (.ref R.l)) Q E s := by
  refine wpAny_truthy_list (News.isList N I.list) (by have := I.sz; rw [List.size_toArray]; omega) ?_
  have e : (!R.vs.toArray.isEmpty) = decide (0 < ds.length) := by
    rw [← I.len]
    cases R.vs <;> simp
  rw [e]; exact h
theorem item_m {value slice : PySem.Expr} {k : Int} {u : Tok} {Q : Value → Shared → Prop} (N : News h₀ L s.heap news) (I : R.At news ds) (h0 : 0 ≤ k) (hlt : k < ds.length)
    (h : ∀ t d, ds[k.toNat]? = some d → R.vs[k.toNat]? = some (.ref t) → TkAt news t d → Q (.ref t) s)
    (hs : subscripted slice false (.ref R.l) (.int k u) = operate [.ref R.l, .int k u] (getItem (.ref R.l) (.int k u)) := by with_unfolding_all rfl) (hg : ∀ r, letTemporaryGo value (.ref R.l) r = pure () := by intro _; with_unfolding_all rfl) :
    wpAny (model prog w) A (subscriptTail value slice (.ref R.l) (.int k u)) Q E s := by
  obtain ⟨t, d, hv, hd, hT⟩ := I.toks.get (i := k.toNat) (by omega)
  exact item_list (News.isList N I.list) h0 (by have := I.sz; have := I.len; omega) (by simpa using hv) (h t d hd hv hT) hs hg
end
theorem lt_of_some {ds : List TokD} {j : Nat} {d : TokD} (h : ds[j]? = some d) : j < ds.length := by
  rcases Nat.lt_or_ge j ds.length with z | z
  · exact z
  · rw [List.getElem?_eq_none z] at h; cases h
theorem ds_at {ds : List TokD} {i j : Nat} {d : TokD} (h : ds[i]? = some d) (e : i = j) : ds[j]? = some d := e ▸ h
theorem vs_at {vs : List Value} {i j : Nat} {d : Value} (h : vs[i]? = some d) (e : i = j) : vs[j]? = some d := e ▸ h
noncomputable def kindIs (ds : List TokD) (j : Nat) (x : Str) : Bool := match ds[j]? with
  | some d => d.kind == x
  | none => false
noncomputable def worthIs (ds : List TokD) (j : Nat) (x : Str) : Bool := match ds[j]? with
  | some d => d.worth == x
  | none => false
theorem kindIs_some {ds : List TokD} {j i : Nat} {d : TokD} {x : Str} {b : Bool} (h : ds[i]? = some d) (e : i = j) (hb : b = (d.kind == x)) : b = kindIs ds j x := by
  subst e; unfold kindIs; rw [h]; exact hb
theorem kindIs_none {ds : List TokD} {j : Nat} {x : Str} (h : ds.length ≤ j) : false = kindIs ds j x := by
  unfold kindIs; rw [List.getElem?_eq_none h]
theorem worthIs_some {ds : List TokD} {j i : Nat} {d : TokD} {x : Str} {b : Bool} (h : ds[i]? = some d) (e : i = j) (hb : b = (d.worth == x)) : b = worthIs ds j x := by
  subst e; unfold worthIs; rw [h]; exact hb
theorem kind_or {ds : List TokD} {j : Nat} {x : Str} {b : Bool} (h : b = kindIs ds j x) : (b = true ∧ kindIs ds j x = true ∧ j < ds.length) ∨ (b = false ∧ kindIs ds j x = false) := by
  cases b with
  | true =>
    refine .inl ⟨rfl, h.symm, ?_⟩
    rcases Nat.lt_or_ge j ds.length with z | z
    · exact z
    · rw [← kindIs_none (x := x) z] at h; cases h
  | false => exact .inr ⟨rfl, h.symm⟩
/-- a token of that kind and worth -/
noncomputable def tokIs (ds : List TokD) (j : Nat) (k x : Str) : Bool := kindIs ds j k && worthIs ds j x
theorem tokIs_tt {ds : List TokD} {i j : Nat} {k x : Str} {d : TokD} {b : Bool} (h1 : kindIs ds j k = true) (h2 : ds[i]? = some d) (e : i = j) (hb : b = (d.worth == x)) : b = tokIs ds j k x := by
  unfold tokIs; rw [h1, Bool.true_and]; exact worthIs_some h2 e hb
theorem tokIs_ff {ds : List TokD} {j : Nat} {k x : Str} (h1 : kindIs ds j k = false) : false = tokIs ds j k x := by
  unfold tokIs; rw [h1]; rfl
theorem tok_or {ds : List TokD} {j : Nat} {k x : Str} {b : Bool} (h : b = tokIs ds j k x) : (b = true ∧ tokIs ds j k x = true ∧ j < ds.length) ∨ (b = false ∧ tokIs ds j k x = false) := by
  cases b with
  | true =>
    refine .inl ⟨rfl, h.symm, ?_⟩
    have : kindIs ds j k = true := (Bool.and_eq_true_iff.mp h.symm).1
    rcases kind_or (rfl : kindIs ds j k = kindIs ds j k) with z | z
    · exact z.2.2
    · rw [this] at z; cases z.1
  | false => exact .inr ⟨rfl, h.symm⟩
/-- words one behind the other -/
noncomputable def wordsAt (ds : List TokD) : Nat → List Str → Bool
  | _, [] => true
  | j, x :: r => tokIs ds j (Str.ofString "word") x && wordsAt ds (j + 1) r
theorem words_or {ds : List TokD} {j : Nat} {ws : List Str} {b : Bool} (h : b = wordsAt ds j ws) (hn : j ≤ ds.length) : (b = true ∧ wordsAt ds j ws = true ∧ j + ws.length ≤ ds.length) ∨ (b = false ∧ wordsAt ds j ws = false) := by
  cases b with
  | false => exact .inr ⟨rfl, h.symm⟩
  | true =>
    refine .inl ⟨rfl, h.symm, ?_⟩
    have key : ∀ (ws : List Str) (j : Nat), j ≤ ds.length → wordsAt ds j ws = true → j + ws.length ≤ ds.length := by
      intro ws
      induction ws with
      | nil => intro j hj _; simpa using hj
      | cons x r ih =>
        intro j _ h
        obtain ⟨h1, h2⟩ := Bool.and_eq_true_iff.mp h
        rcases tok_or (rfl : tokIs ds j (Str.ofString "word") x = _) with z | z
        · have := ih (j + 1) z.2.2 h2
          simp only [List.length_cons]; omega
        · rw [h1] at z; cases z.1
    exact key ws j hn h.symm
theorem sp_len : (Str.ofString " ").length = 1 := by decide +kernel
theorem res_name (P : Params) : nsIn (hd.heap_1 P) mainGlobals (Str.ofString "RESERVED") = some (some (.str (resOf 20 PySem.Challenge.pw_og0095_01) 367)) := by kernel_rfl
/-- a word stands in the list of the reserved ones -/
noncomputable def resB (x : Str) : Bool := !(Builtin.Str.occurrences (resOf 20 PySem.Challenge.pw_og0095_01) (Str.ofString " " ++ x ++ Str.ofString " ") 0 (resOf 20 PySem.Challenge.pw_og0095_01).length 1).isEmpty
noncomputable def nameIs (ds : List TokD) (j : Nat) : Bool := kindIs ds j (Str.ofString "word") && (match ds[j]? with | some d => !resB d.worth | none => false)
theorem nameIs_tt {ds : List TokD} {i j : Nat} {d : TokD} {b : Bool} (h1 : kindIs ds j (Str.ofString "word") = true) (h2 : ds[i]? = some d) (e : i = j) (hb : b = !resB d.worth) : b = nameIs ds j := by
  subst e; unfold nameIs; rw [h1, h2, Bool.true_and]; exact hb
theorem nameIs_ff {ds : List TokD} {j : Nat} (h1 : kindIs ds j (Str.ofString "word") = false) : false = nameIs ds j := by
  unfold nameIs; rw [h1]; rfl
theorem name_or {ds : List TokD} {j : Nat} {b : Bool} (h : b = nameIs ds j) : (b = true ∧ nameIs ds j = true ∧ j < ds.length) ∨ (b = false ∧ nameIs ds j = false) := by
  cases b with
  | true =>
    refine .inl ⟨rfl, h.symm, ?_⟩
    have : kindIs ds j (Str.ofString "word") = true := (Bool.and_eq_true_iff.mp h.symm).1
    rcases kind_or (rfl : kindIs ds j (Str.ofString "word") = kindIs ds j (Str.ofString "word")) with z | z
    · exact z.2.2
    · rw [this] at z; cases z.1
  | false => exact .inr ⟨rfl, h.symm⟩
theorem w_tt {ds : List TokD} {j : Nat} {x : Str} {r : List Str} {d : TokD} {b : Bool} (h1 : kindIs ds j (Str.ofString "word") = true) (h2 : ds[j]? = some d) (h3 : (d.worth != x) = false) (h4 : b = wordsAt ds (j + 1) r) : b = wordsAt ds j (x :: r) := by
  unfold wordsAt tokIs worthIs
  rw [h1, h2]
  have : (d.worth == x) = true := by simpa [bne] using h3
  dsimp only
  rw [this]
  exact h4
theorem w_fk {ds : List TokD} {j : Nat} {x : Str} {r : List Str} (h1 : kindIs ds j (Str.ofString "word") = false) : false = wordsAt ds j (x :: r) := by
  unfold wordsAt tokIs; rw [h1]; rfl
theorem w_fw {ds : List TokD} {j : Nat} {x : Str} {r : List Str} {d : TokD} (h2 : ds[j]? = some d) (h3 : (d.worth != x) = true) : false = wordsAt ds j (x :: r) := by
  unfold wordsAt tokIs worthIs
  rw [h2]
  have : (d.worth == x) = false := by simpa [bne] using h3
  dsimp only
  rw [this]; simp
theorem bool_ab {b : Bool} (h : b = false) (h' : b = true) : False := by rw [h] at h'; cases h'
local macro_rules | `(tactic| kds_road) => `(tactic| first | assumption | exact Rd.At.mono (by assumption) (by first | exact fun _ h => h | exact fun _ h => .tail _ h | exact fun _ h => .tail _ (.tail _ h) | exact fun _ h => .tail _ (.tail _ (.tail _ h)) | exact fun _ h => .tail _ (.tail _ (.tail _ (.tail _ h)))) | exact Rd.At.mono (Rd.In.toAt (by assumption)) (by first | exact fun _ h => h | exact fun _ h => .tail _ h | exact fun _ h => .tail _ (.tail _ h) | exact fun _ h => .tail _ (.tail _ (.tail _ h)) | exact fun _ h => .tail _ (.tail _ (.tail _ (.tail _ h)))))
local macro_rules | `(tactic| kbd_text) => `(tactic| first | assumption | exact news_tail (by assumption) | exact news_tail (news_tail (by assumption)) | exact news_tail (news_tail (news_tail (by assumption))))
local macro_rules | `(tactic| walk_at $s:str) => `(tactic| k_extra $s)
local macro_rules | `(tactic| k_mem) => `(tactic| first | exact List.Mem.head _ | assumption | exact List.Mem.tail _ (by assumption) | (refine' List.Mem.tail _ ?_; k_mem))
local macro_rules | `(tactic| k_all) => `(tactic| assumption)
theorem row1 : True := by
  k_with "call builtin:len" => (k_here; (with_reducible show wpAny _ _ (call (Value.builtin "len") [Value.ref (Rd.l _)]) _ _ _); k_dflt (refine' len_m (by k_asm) (by kds_road) ?_; k_whole))
  k_with "truthy ref" => (k_here; (with_reducible show wpAny _ _ (truthy (Value.ref (Rd.l _))) _ _ _); k_dflt (refine' truthy_m (by k_asm) (by kds_road) ?_; k_whole))
  k_with "subscriptTail" => (k_here; (with_reducible show wpAny _ _ (subscriptTail _ _ (Value.ref (Rd.l _)) (Value.int _ _)) _ _ _); (with_unfolding_all refine' item_m (by k_asm) (by kds_road) (by omega) (by omega) ?_ (by with_unfolding_all rfl); k_whole); intro t9q d9q e9q v9q T9q; have T9q' := T9q; obtain ⟨dt9q, h19q, h29q, h39q, h49q, k19q, k29q, k39q, k49q, j19q, j29q, ta9q, n9q, m19q, m29q, w9q⟩ := T9q')
  k_with "leaving ref" => (k_here; (with_reducible show wpAny _ _ (leaving _ _) _ _ _); k_dflt (refine' leave_first (by assumption) (by assumption) (by assumption) ?_; k_whole); intro h' t' R' U'; (try dsimp only at R' U' ⊢))
  k_with "exec Raise some none" => (k_here; (with_reducible show wpAny _ _ (exec (Stmt.Raise (some (PySem.Expr.Call (PySem.Expr.Attribute _ _ _) _ _ _)) none _) _) _ _ _); k_dflt (refine' Raise_m (C := 92) (by exact rfl) (by assumption) (by k_is) (by k_is) ?_; k_whole))
  k_with "RObj" => (k_here; refine RObj.intro (by k_in) (by assumption) ?_)
  trivial
/-! a comprehension over enumerate(list), its target two names, by what an element makes -/
noncomputable def EnEnd (h₀ : Heap) (L : Addr) (m : Str → Option Value) (s₁ : Shared) (old : List (Addr × Obj)) (Rel : Value → List (Addr × Obj) → Prop) (y : Value) (s₂ : Shared) : Prop :=
  ∃ h' tk' nw, s₂ = { s₁ with heap := h', toks := tk' } ∧ Fr h₀ L h' m ∧ News h₀ L h' (nw ++ old) ∧ (∀ p ∈ nw, ∀ q ∈ old, p.1 ≠ q.1) ∧ Rel y nw
noncomputable def EnEl (prog : Program) (w : World) (A : Around) (h₀ : Heap) (L : Addr) (m : Str → Option Value) (env : Env) (elt : PySem.Expr) (a b : Str) (scope : Scope) (cl : List (Str × Addr)) (s₁ : Shared) (vs : List Value) (Rel : Nat → Value → List (Addr × Obj) → Prop) : Prop :=
  ∀ (i : Nat) (x : Value) (t : Tok) (C : Addr) (oC : Obj) (m₂ : Str → Option Value) (keep : List (Addr × Obj)) (h : Heap) (tk : Nat) (E' : Value → Shared → Prop),
    vs[i]? = some x → LCg.NsObj oC m₂ → m₂ a = some (.int (i : Int) t) → m₂ b = some x → Fr h₀ L h m → News h₀ L h ((C, oC) :: keep) →
    wpAny (model prog w) A (eval elt (compEnvC scope cl C env)) (EnEnd h₀ L m s₁ ((C, oC) :: keep) (Rel i)) E' { s₁ with heap := h, toks := tk }
noncomputable def EnAll (Rel : Nat → Value → List (Addr × Obj) → Prop) (n : Nat) (ys : List Value) (nw : List (Addr × Obj)) : Prop := ys.length = n ∧ ∀ i y, ys[i]? = some y → ∃ own, (∀ p ∈ own, p ∈ nw) ∧ Rel i y own
noncomputable def EnSrc (prog : Program) (w : World) (A : Around) (h₀ : Heap) (L : Addr) (m : Str → Option Value) (env : Env) (elt : PySem.Expr) (a b : Str) (scope : Scope) (cl : List (Str × Addr)) (Q : Value → Shared → Prop) (xv : Value) (s₁ : Shared) : Prop :=
  ∃ (e it l : Addr) (lo : Obj) (vs : List Value) (n : Nat) (news : List (Addr × Obj)) (Rel : Nat → Value → List (Addr × Obj) → Prop), xv = .ref e ∧ A.handled = none ∧ Fr h₀ L s₁.heap m ∧ News h₀ L s₁.heap news ∧ (l, lo) ∈ news ∧ lo.cls = .type "list" ∧ lo.data = .seq vs.toArray n ∧
    IsEnum s₁.heap e it 0 .none ∧ s₁.heap.IsListIter it l 0 ∧ e ≠ it ∧ (∀ p ∈ news, p.1 ≠ e ∧ p.1 ≠ it) ∧ e ≠ L ∧ it ≠ L ∧ h₀.get? e = none ∧ h₀.get? it = none ∧ vs.length ≤ sizeLine ∧
    EnEl prog w A h₀ L m env elt a b scope cl s₁ vs Rel ∧
    (∀ D h tk ys nw, Fr h₀ L h m → News h₀ L h ((D, LCg.lst ys) :: (nw ++ news)) → (∀ p ∈ nw, p.1 ≠ D ∧ ∀ q ∈ news, p.1 ≠ q.1) → (∀ q ∈ news, q.1 ≠ D) → EnAll Rel vs.length ys nw → Q (.ref D) { s₁ with heap := h, toks := tk })
section
variable {prog : Program} {w : World} {A : Around} {E : Value → Shared → Prop} {s : Shared} {h₀ : Heap} {L : Addr} {m : Str → Option Value} {env : Env}
set_option maxHeartbeats 2000000 in
theorem LC_en {elt iter : PySem.Expr} {a b : Str} {pa pb tp : Pos} {kk : Nat} {scope : Scope} {cl : List (Str × Addr)} {pos : Pos} {Q : Value → Shared → Prop} (_F₀ : Fr h₀ L s.heap m)
    (hclos : closureFor scope env = pure cl) (hcell : ∀ y ∈ scope.names, y.2 ≠ .cell) (hkind : scope.kind = .function)
    (hnames : ∀ y ∈ scope.names, y.2 = .local → scope.names.lookup y.1 = some .local) (hxa : scope.names.lookup a = some .local) (hxb : scope.names.lookup b = some .local) (hab : ¬ a = b)
    (h : wpAny (model prog w) A (eval iter env) (EnSrc prog w A h₀ L m env elt a b scope cl Q) E s)
    (hs : ∀ x, foldedSetIterable iter env x = pure x := by intro _; rfl) :
    wpAny (model prog w) A (eval (.ListComp elt [⟨.Tuple [.Name a pa, .Name b pb] kk tp, iter, [], 0⟩] scope pos) env) Q E s := by
  rw [eval_ListComp]
  refine wpAny_comprehension_free (use := none) rfl hs hclos hkind hnames (wpAny_mono h (fun xv s₁ h₁ => ?_) fun _ _ e => e)
  obtain ⟨e, it, l, lo, vs, n, news, Rel, rfl, hh, F, N, hm, hc, hd, he, hi, hei, off, heL, hiL, he₀, hi₀, hsz, EL, fin⟩ := h₁
  refine wpAny_pyIter_enum he ?_
  refine wpAny_newObj_type (wpAny_newFunctionEnv hcell (by intro y hy; simp at hy) (fun h₁ hns₁ hsb₁ => ?_) hkind)
  dsimp only at hns₁ hsb₁ ⊢
  generalize hH2 : s₁.heap.push { cls := .type "list", dict := none, data := .seq ([] : List Value).toArray } = H2 at hns₁ hsb₁ ⊢
  have hC : H2.objs.size = s₁.heap.objs.size + 1 := by rw [← hH2, Heap.size_push]
  generalize hCe : H2.objs.size = C at *
  generalize hDe : s₁.heap.objs.size = D at *
  have hDC : D ≠ C := by rw [hC]; exact Nat.ne_of_lt (Nat.lt_succ_self _)
  have below : ∀ b, b < D → b ≠ C ∧ b ≠ D := fun b hb => ⟨by rw [hC]; exact Nat.ne_of_lt (Nat.lt_succ_of_lt hb), Nat.ne_of_lt hb⟩
  have blw : ∀ b o, s₁.heap.get? b = some o → b ≠ C ∧ b ≠ D := fun b o q => below b (hDe ▸ Heap.lt_size q)
  have old : ∀ b o, s₁.heap.get? b = some o → h₁.get? b = some o := fun b o q => hsb₁.extBut b o (blw b o q).1 (Heap.get?_push_of_some _ (hH2 ▸ Heap.get?_push_of_some _ q))
  have hacc : h₁.get? D = some (LCg.lst []) := hsb₁.extBut _ _ hDC (Heap.get?_push_of_some _ (hH2 ▸ hDe ▸ Heap.get?_push_size _ rfl))
  have fresh₀ : ∀ a, D ≤ a → h₀.get? a = none := fun a ha => by
    cases q : h₀.get? a with
    | none => rfl
    | some o' => exact absurd (hDe ▸ Heap.lt_size (F.keep a o' q)) (Nat.not_lt.mpr ha)
  have hD₀ : h₀.get? D = none := fresh₀ _ (Nat.le_refl _)
  have hC₀ : h₀.get? C = none := fresh₀ _ (by rw [hC]; exact Nat.le_succ _)
  have hLlt : L < D := hDe ▸ F.ns.lt
  have hDL : D ≠ L := Ne.symm (below L hLlt).2
  have hCL : C ≠ L := Ne.symm (below L hLlt).1
  have heC := blw e _ he
  obtain ⟨oi, hoi, hir⟩ := id hi
  have hiC := blw it _ hoi
  have newC : ∀ q ∈ news, q.1 ≠ C ∧ q.1 ≠ D := fun q hq => blw _ _ (N q hq).1
  have hlC := newC _ hm
  have W := WalksT.enumerate (prog := prog) (w := w) hh e it l hei (off _ hm).1 (off _ hm).2 vs.toArray
  refine codeAny_compStart_list (it := .ref e) (acc := .ref D) ?loop (wpAny_pyIter_enum (old _ _ he) ?loop)
  refine kcp_loop
      (fun k s' => ∃ h' tk i ys m' nw, s' = { s₁ with heap := h', toks := tk } ∧ i ≤ vs.length ∧ k = vs.length + 1 - i ∧ (∃ o, IsEnum h' e it (i : Nat) o) ∧ h'.IsListIter it l i ∧ Fr h₀ L h' m ∧ h'.Ns C m' ∧
        News h₀ L h' ((D, LCg.lst ys) :: (nw ++ news)) ∧ (∀ p ∈ nw, (p.1 ≠ e ∧ p.1 ≠ it ∧ p.1 ≠ C ∧ p.1 ≠ D) ∧ ∀ q ∈ news, p.1 ≠ q.1) ∧ EnAll Rel i ys nw) ?_ (vs.length + 1)
      ⟨h₁, _, 0, [], _, [], rfl, Nat.zero_le _, rfl, ⟨_, old _ _ he⟩, hi.at fun o q => old _ o q, F.keeps old, hns₁, fun p hp => ?_, (fun _ hp => nomatch hp), rfl, fun i y q => by simp at q⟩
  · rintro k s' ⟨h', tk, i, ys, m', nw, rfl, hile, rfl, ⟨oe, he'⟩, hi', F', hn', N', off', RA⟩
    have hl' : h'.IsList l vs.toArray := ⟨lo, (N' _ (.tail _ (List.mem_append_right _ hm))).1, hc, n, hd⟩
    by_cases hlt : i < vs.length
    · refine W.item i _ _ _ (by simpa using hlt) ⟨⟨oe, he'⟩, hi', hl'⟩ fun T vals h₂ tk₂ hP hTs hT hMd hk₂ => ?_
      obtain ⟨t, x, hx, rfl⟩ := hP
      have hx' : vs[i]? = some x := by simpa using hx
      refine W.go _ _ _ i T _ _ _ hMd fun h₃ hst₃ hk₃ => ?_
      have hTe := W.apart _ _ _ hMd
      have hT₃ : h₃.IsTuple T #[.int i t, x] := by
        obtain ⟨o, q1, q2⟩ := hT
        exact ⟨o, hk₃ _ _ hTe q1, q2⟩
      have up₃ : ∀ c o, c ≠ e → c ≠ it → h'.get? c = some o → h₃.get? c = some o := fun c o h1 h2 q => hk₃ c o (by simp [h1, h2]) (hk₂ c o (by simp [h1, h2]) q)
      have nCe : C ≠ e := Ne.symm heC.1
      have nCi : C ≠ it := Ne.symm hiC.1
      refine kcp_assign (env := compEnvC scope cl C env) hh hT₃ (lookup_relabel_local hxa) (lookup_relabel_local hxb) (by simp [compEnvC, relabel, hkind]) (hn'.at' fun o q => up₃ _ o nCe nCi q) fun h₄ tk₄ hn₄ hs₄ => ?_
      have up : ∀ c o, c ≠ e → c ≠ it → c ≠ C → h'.get? c = some o → h₄.get? c = some o := fun c o h1 h2 h3 q => hs₄ c o h3 (up₃ c o h1 h2 q)
      obtain ⟨⟨oe₃, he₃⟩, hi₃, _⟩ := hst₃
      have he₄ : IsEnum h₄ e it ((i + 1 : Nat) : Int) oe₃ := hs₄ e _ heC.1 he₃
      have hi₄ : h₄.IsListIter it l (i + 1) := hi₃.at fun o q => hs₄ it o hiC.1 q
      obtain ⟨oE, hoE, goE⟩ : ∃ oE : Obj, h₄.get? e = some oE ∧ ∀ h : Heap, h.get? e = some oE → IsEnum h e it ((i + 1 : Nat) : Int) oe₃ := ⟨_, he₄, fun _ q => q⟩
      obtain ⟨oI, hoI, goI⟩ : ∃ oI : Obj, h₄.get? it = some oI ∧ ∀ h : Heap, h.get? it = some oI → h.IsListIter it l (i + 1) := by
        obtain ⟨o, q, r⟩ := hi₄
        exact ⟨o, q, fun _ q' => ⟨o, q', r⟩⟩
      obtain ⟨oC, hoC, gC⟩ := LCg.ns_obj hn₄
      have F₄ : Fr h₀ L h₄ m := ⟨F'.ns.at' fun o q => up _ o (Ne.symm heL) (Ne.symm hiL) (Ne.symm hCL) q, fun c o q => up c o (fun z => by rw [z, he₀] at q; cases q) (fun z => by rw [z, hi₀] at q; cases q) (fun z => by rw [z, hC₀] at q; cases q) (F'.keep c o q), F'.above⟩
      have N₄ : News h₀ L h₄ ((D, LCg.lst ys) :: (nw ++ news)) := fun q hq => by
        have z := N' q hq
        refine ⟨up _ _ ?_ ?_ ?_ z.1, z.2⟩
        all_goals rcases List.mem_cons.mp hq with rfl | hq
        · exact Ne.symm heC.2
        · rcases List.mem_append.mp hq with hq | hq
          · exact (off' q hq).1.1
          · exact (off q hq).1
        · exact Ne.symm hiC.2
        · rcases List.mem_append.mp hq with hq | hq
          · exact (off' q hq).1.2.1
          · exact (off q hq).2
        · exact hDC
        · rcases List.mem_append.mp hq with hq | hq
          · exact (off' q hq).1.2.2.1
          · exact (newC q hq).1
      have NN : News h₀ L h₄ ((C, oC) :: (e, oE) :: (it, oI) :: (D, LCg.lst ys) :: (nw ++ news)) := fun q hq => by
        rcases List.mem_cons.mp hq with rfl | hq
        · exact ⟨hoC, hCL, hC₀⟩
        · rcases List.mem_cons.mp hq with rfl | hq
          · exact ⟨hoE, heL, he₀⟩
          · rcases List.mem_cons.mp hq with rfl | hq
            · exact ⟨hoI, hiL, hi₀⟩
            · exact N₄ q hq
      refine wpAny_mono (EL i x t C oC _ _ h₄ _ _ hx' gC (by simp [hab]) (by simp) F₄ NN) (fun y s₅ h₅ => ?_) fun _ _ q => q
      obtain ⟨h₅, tk₅, nw₅, rfl, F₅, N₅, ap₅, R₅⟩ := h₅
      have M : ∀ q ∈ (C, oC) :: (e, oE) :: (it, oI) :: (D, LCg.lst ys) :: (nw ++ news), q ∈ nw₅ ++ (C, oC) :: (e, oE) :: (it, oI) :: (D, LCg.lst ys) :: (nw ++ news) := fun q hq => List.mem_append_right _ hq
      have zC := N₅ _ (M _ (.head _))
      have zE := N₅ _ (M _ (.tail _ (.head _)))
      have zI := N₅ _ (M _ (.tail _ (.tail _ (.head _))))
      have zD := N₅ _ (M _ (.tail _ (.tail _ (.tail _ (.head _)))))
      have hyl : ys.length ≤ sizeLine := by rw [RA.1]; omega
      refine append_at (hsz := by show ys.toArray.size ≤ sizeLine; rw [List.size_toArray]; exact hyl) zD.1 fun h₆ hs₆ hD₆ => ?_
      refine ⟨vs.length + 1 - (i + 1), by omega, h₆, tk₅, i + 1, ys ++ [y], _, nw₅ ++ nw, rfl, hlt, rfl, ⟨_, goE _ (hs₆.extBut e oE heC.2 zE.1)⟩, goI _ (hs₆.extBut it oI hiC.2 zI.1), F₅.change hs₆ hDL hD₀,
        (gC.ns zC.1).sameBut hs₆ (Ne.symm hDC), fun q hq => ?_, fun q hq => ?_, by simp [RA.1], fun j z q => ?_⟩
      · rcases List.mem_cons.mp hq with rfl | hq
        · exact ⟨hD₆.trans (congrArg some (LCg.lst_snoc ys y)), hDL, hD₀⟩
        · rcases List.mem_append.mp hq with hq | hq
          · rcases List.mem_append.mp hq with hq | hq
            · have z := N₅ q (List.mem_append_left _ hq)
              exact ⟨hs₆.extBut _ _ (ap₅ q hq _ (.tail _ (.tail _ (.tail _ (.head _))))) z.1, z.2⟩
            · have z := N₅ q (M _ (.tail _ (.tail _ (.tail _ (.tail _ (List.mem_append_left _ hq))))))
              exact ⟨hs₆.extBut _ _ (off' q hq).1.2.2.2 z.1, z.2⟩
          · have z := N₅ q (M _ (.tail _ (.tail _ (.tail _ (.tail _ (List.mem_append_right _ hq))))))
            exact ⟨hs₆.extBut _ _ (newC q hq).2 z.1, z.2⟩
      · rcases List.mem_append.mp hq with hq | hq
        · exact ⟨⟨ap₅ q hq _ (.tail _ (.head _)), ap₅ q hq _ (.tail _ (.tail _ (.head _))), ap₅ q hq _ (.head _), ap₅ q hq _ (.tail _ (.tail _ (.tail _ (.head _))))⟩,
            fun r hr => ap₅ q hq _ (.tail _ (.tail _ (.tail _ (.tail _ (List.mem_append_right _ hr)))))⟩
        · exact off' q hq
      · rcases Nat.lt_trichotomy j i with hj | hj | hj
        · rw [List.getElem?_append_left (by rw [RA.1]; exact hj)] at q
          obtain ⟨own, g1, g2⟩ := RA.2 j z q
          exact ⟨own, fun p hp => List.mem_append_right _ (g1 p hp), g2⟩
        · subst hj
          rw [List.getElem?_append_right (by rw [RA.1]; exact Nat.le_refl _), RA.1, Nat.sub_self] at q
          have q' : y = z := by simpa using q
          subst q'
          exact ⟨nw₅, fun p hp => List.mem_append_left _ hp, R₅⟩
        · rw [List.getElem?_eq_none (by rw [List.length_append, RA.1, List.length_singleton]; exact hj)] at q
          cases q
    · have hin : i = vs.length := Nat.le_antisymm hile (Nat.not_lt.mp hlt)
      subst hin
      refine W.done _ _ _ ⟨⟨oe, by simpa using he'⟩, by simpa using hi', hl'⟩ fun h₂ tk₂ hk₂ => ?_
      have up : ∀ c o, c ≠ e → c ≠ it → h'.get? c = some o → h₂.get? c = some o := fun c o h1 h2 q => hk₂ c o (by simp [h1, h2]) q
      have F₂ : Fr h₀ L h₂ m := ⟨F'.ns.at' fun o q => up _ o (Ne.symm heL) (Ne.symm hiL) q, fun c o q => up c o (fun z => by rw [z, he₀] at q; cases q) (fun z => by rw [z, hi₀] at q; cases q) (F'.keep c o q), F'.above⟩
      refine ⟨m', hn'.at' fun o q => up _ o (Ne.symm heC.1) (Ne.symm hiC.1) q, fun h'' hs'' => fin D h'' _ ys nw (F₂.change hs'' hCL hC₀) (fun p hp => ?_) (fun p hp => ⟨(off' p hp).1.2.2.2, (off' p hp).2⟩) (fun q hq => (newC q hq).2) RA⟩
      have z := N' p hp
      refine ⟨hs''.extBut _ _ ?_ (up _ _ ?_ ?_ z.1), z.2⟩
      all_goals rcases List.mem_cons.mp hp with rfl | hp
      · exact hDC
      · rcases List.mem_append.mp hp with hp | hp
        · exact (off' p hp).1.2.2.1
        · exact (newC p hp).1
      · exact Ne.symm heC.2
      · rcases List.mem_append.mp hp with hp | hp
        · exact (off' p hp).1.1
        · exact (off p hp).1
      · exact Ne.symm hiC.2
      · rcases List.mem_append.mp hp with hp | hp
        · exact (off' p hp).1.2.1
        · exact (off p hp).2
  · rcases List.mem_cons.mp hp with rfl | hp
    · exact ⟨hacc, hDL, hD₀⟩
    · exact ⟨old _ _ (N p hp).1, (N p hp).2⟩
end
theorem strValues_get : ∀ {l : List (Str × Tok)} {i : Nat} {v : Value}, (strValues l)[i]? = some v → ∃ y t, v = Value.str y t ∧ (l.map (·.1))[i]? = some y
  | [], i, v, h => by simp [strValues] at h
  | (y, t) :: r, 0, v, h => by
    have e : Value.str y t = v := by simpa [strValues] using h
    exact ⟨y, t, e.symm, rfl⟩
  | (y, t) :: r, i + 1, v, h => by
    obtain ⟨y', t', h1, h2⟩ := strValues_get (l := r) (i := i) (v := v) (by simpa [strValues] using h)
    exact ⟨y', t', h1, by simpa using h2⟩
noncomputable def tokD (i : Nat) (x : Str) : TokD := ⟨if x == Str.ofString "." then Str.ofString "sign" else Str.ofString "word", x, i == 0⟩
noncomputable def wToks (ws : List Str) : List TokD := ws.mapIdx tokD
noncomputable def tokRel (ws : List Str) (i : Nat) (y : Value) (nw : List (Addr × Obj)) : Prop := ∃ t x, y = Value.ref t ∧ ws[i]? = some x ∧ TkAt nw t (tokD i x)
theorem toksIn_of {nw : List (Addr × Obj)} : ∀ {ys : List Value} {ds : List TokD}, ys.length = ds.length → (∀ (i : Nat) (y : Value), ys[i]? = some y → ∃ t d, y = Value.ref t ∧ ds[i]? = some d ∧ TkAt nw t d) → ToksIn nw ys ds
  | [], [], _, _ => .nil
  | [], _ :: _, h, _ => by simp at h
  | _ :: _, [], h, _ => by simp at h
  | y :: ys, d :: ds, h, f => by
    obtain ⟨t, d', rfl, e, T⟩ := f 0 y rfl
    have e' : d = d' := by simpa using e
    subst e'
    exact .cons T (toksIn_of (by simpa using h) fun i z q => by simpa using f (i + 1) z (by simpa using q))
theorem wToks_in {ws : List Str} {nw : List (Addr × Obj)} {ys : List Value} (h : EnAll (tokRel ws) ws.length ys nw) : ToksIn nw ys (wToks ws) := by
  refine toksIn_of (by rw [h.1]; simp [wToks]) fun i y q => ?_
  obtain ⟨own, h1, t, x, rfl, hx, T⟩ := h.2 i y q
  exact ⟨t, _, rfl, by simp [wToks, hx], T.mono h1⟩
section
variable {prog : Program} {w : World} {A : Around} {E : Value → Shared → Prop} {s : Shared} {h₀ : Heap} {L : Addr} {m : Str → Option Value} {env : Env}
theorem enum_src {elt : PySem.Expr} {a b : Str} {scope : Scope} {cl : List (Str × Addr)} {Q : Value → Shared → Prop} {l : Addr} {lo : Obj} {vs : List Value} {n : Nat} {news : List (Addr × Obj)} (Rel : Nat → Value → List (Addr × Obj) → Prop)
    (hh : A.handled = none) (F : Fr h₀ L s.heap m) (N : News h₀ L s.heap news) (hm : (l, lo) ∈ news) (hc : lo.cls = .type "list") (hd : lo.data = .seq vs.toArray n) (hsz : vs.length ≤ sizeLine)
    (EL : EnEl prog w A h₀ L m env elt a b scope cl s vs Rel)
    (fin : ∀ D h tk ys nw, Fr h₀ L h m → News h₀ L h ((D, LCg.lst ys) :: (nw ++ news)) → (∀ p ∈ nw, p.1 ≠ D ∧ ∀ q ∈ news, p.1 ≠ q.1) → (∀ q ∈ news, q.1 ≠ D) → EnAll Rel vs.length ys nw → Q (.ref D) { s with heap := h, toks := tk }) :
    wpAny (model prog w) A (call (.type "enumerate") [.ref l]) (EnSrc prog w A h₀ L m env elt a b scope cl Q) E s := by
  have hl : s.heap.IsList l vs.toArray := ⟨lo, (N _ hm).1, hc, n, hd⟩
  refine call_enumerate_list hl fun h' hE hI hsz' hk => ?_
  have fresh : ∀ a, s.heap.objs.size ≤ a → h₀.get? a = none := fun a ha => by
    cases q : h₀.get? a with
    | none => rfl
    | some o' => exact absurd (Heap.lt_size (F.keep a o' q)) (Nat.not_lt.mpr ha)
  have lt : ∀ q ∈ news, q.1 < s.heap.objs.size := fun q hq => Heap.lt_size (N q hq).1
  have hL : L < s.heap.objs.size := F.ns.lt
  exact ⟨s.heap.objs.size + 1, s.heap.objs.size, l, lo, vs, n, news, Rel, rfl, hh, F.keeps hk, N.grown hk, hm, hc, hd, hE, hI, Nat.succ_ne_self _, fun q hq => ⟨Nat.ne_of_lt (Nat.lt_succ_of_lt (lt q hq)), Nat.ne_of_lt (lt q hq)⟩,
    Nat.ne_of_gt (Nat.lt_succ_of_lt hL), Nat.ne_of_gt hL, fresh _ (Nat.le_succ _), fresh _ (Nat.le_refl _), hsz, EL, fin⟩
theorem enum_srcW {elt : PySem.Expr} {a b : Str} {scope : Scope} {cl : List (Str × Addr)} {Q : Value → Shared → Prop} {l : Addr} {l' : List (Str × Tok)} {ws : List Str} {news : List (Addr × Obj)} (hl : l'.map (·.1) = ws)
    (hh : A.handled = none) (F : Fr h₀ L s.heap m) (N : News h₀ L s.heap news) (hm : (l, W.listOf (strValues l').toArray 0) ∈ news) (hsz : ws.length ≤ sizeLine)
    (EL : EnEl prog w A h₀ L m env elt a b scope cl s (strValues l') (tokRel ws))
    (fin : ∀ D h tk ys nw, Fr h₀ L h m → News h₀ L h ((D, LCg.lst ys) :: (nw ++ news)) → (∀ p ∈ nw, p.1 ≠ D ∧ ∀ q ∈ news, p.1 ≠ q.1) → (∀ q ∈ news, q.1 ≠ D) → EnAll (tokRel ws) ws.length ys nw → Q (.ref D) { s with heap := h, toks := tk }) :
    wpAny (model prog w) A (call (.type "enumerate") [.ref l]) (EnSrc prog w A h₀ L m env elt a b scope cl Q) E s := by
  have hn : (strValues l').length = ws.length := by rw [← hl]; simp [strValues]
  refine enum_src (tokRel ws) hh F N hm rfl rfl (by rw [hn]; exact hsz) EL fun D h tk ys nw F N a b R => fin D h tk ys nw F N a b (by rw [← hn]; exact R)
theorem EnEnd.intro {s₁ : Shared} {old : List (Addr × Obj)} {Rel : Value → List (Addr × Obj) → Prop} {y : Value} {h' : Heap} {tk' : Nat} (nw : List (Addr × Obj)) (F : Fr h₀ L h' m) (N : News h₀ L h' (nw ++ old)) (ap : ∀ p ∈ nw, ∀ q ∈ old, p.1 ≠ q.1) (R : Rel y nw) :
    EnEnd h₀ L m s₁ old Rel y { s₁ with heap := h', toks := tk' } := ⟨h', tk', nw, rfl, F, N, ap, R⟩
end
theorem allLt_mem {D : Addr} : ∀ {l : List (Addr × Obj)}, AllLt D l → ∀ q ∈ l, q.1 < D
  | [], _, _, h => nomatch h
  | _ :: _, x, q, h => by
    rcases List.mem_cons.mp h with rfl | h
    · exact x.1
    · exact allLt_mem x.2 q h
theorem ap3 {x d D C : Addr} {ox od oD oC : Obj} {keep : List (Addr × Obj)} (h1 : C < D ∧ AllLt D keep) (h2 : D < d ∧ C < d ∧ AllLt d keep) (h3 : d < x) :
    ∀ p ∈ [(x, ox), (d, od), (D, oD)], ∀ q ∈ (C, oC) :: keep, p.1 ≠ q.1 := by
  have k : ∀ q ∈ (C, oC) :: keep, q.1 < D := fun q hq => by
    rcases List.mem_cons.mp hq with rfl | hq
    · exact h1.1
    · exact allLt_mem h1.2 q hq
  intro p hp q hq
  have z : q.1 < D := k q hq
  have z2 : D < d := h2.1
  have z3 : d < x := h3
  have : D ≤ p.1 := by
    rcases List.mem_cons.mp hp with rfl | hp
    · exact Nat.le_of_lt (Nat.lt_trans z2 z3)
    · rcases List.mem_cons.mp hp with rfl | hp
      · exact Nat.le_of_lt z2
      · rw [List.mem_singleton.mp hp]; exact Nat.le_refl _
  exact Nat.ne_of_gt (Nat.lt_of_lt_of_le z this)
theorem tokRel_mk {ws : List Str} {i : Nat} {y kd : Str} {t dt ta ta' : Addr} {h1 h2 h3 h4 : Int} {k1 k2 k3 k4 j1 j2 : Tok} {n : Nat} {b : Bool} {ot : Obj} (hy : ws[i]? = some y) (hl : ∀ z ∈ ws, z.length ≤ 100) (hk : (if (y == Str.ofString ".") = true then Str.ofString "sign" else Str.ofString "word") = kd) (hb : ((i : Int) == 0) = b) :
    tokRel ws i (.ref t) [(t, instObj 350 dt), (dt, dictOf [⟨h1, .str (Str.ofString "kind") k1, .str kd j1⟩, ⟨h2, .str (Str.ofString "worth") k2, .str y j2⟩, ⟨h3, .str (Str.ofString "at") k3, .ref ta⟩, ⟨h4, .str (Str.ofString "is_in_a") k4, .bool b⟩] n), (ta', ot)] := by
  subst hk
  have e : b = (i == 0) := by
    subst hb
    cases i with
    | zero => rfl
    | succ i => rfl
  subst e
  exact ⟨t, y, rfl, hy, dt, h1, h2, h3, h4, k1, k2, k3, k4, j1, j2, ta, n, .head _, .tail _ (.head _), hl y (List.mem_of_getElem? hy)⟩
theorem news_mid {h₀ h : Heap} {L : Addr} {p : Addr × Obj} {a : List (Addr × Obj)} {q : Addr × Obj} {b : List (Addr × Obj)} (N : News h₀ L h (p :: (a ++ q :: b))) : News h₀ L h (p :: (a ++ b)) := fun x hx => N x (by
  rcases List.mem_cons.mp hx with rfl | hx
  · exact .head _
  · rcases List.mem_append.mp hx with hx | hx
    · exact .tail _ (List.mem_append_left _ hx)
    · exact .tail _ (List.mem_append_right _ (.tail _ hx)))
theorem mid_off {nw rest : List (Addr × Obj)} {q0 : Addr × Obj} {D : Addr} (ap : ∀ p ∈ nw, p.1 ≠ D ∧ ∀ q ∈ q0 :: rest, p.1 ≠ q.1) : ∀ p ∈ nw, p.1 ≠ D ∧ ∀ q ∈ rest, p.1 ≠ q.1 := fun p hp => ⟨(ap p hp).1, fun q hq => (ap p hp).2 q (.tail _ hq)⟩
theorem tail_off {rest : List (Addr × Obj)} {q0 : Addr × Obj} {D : Addr} (aq : ∀ q ∈ q0 :: rest, q.1 ≠ D) : ∀ q ∈ rest, q.1 ≠ D := fun q hq => aq q (.tail _ hq)
section
variable {w : World} {p : Program} {loose : List Str} {mean : ExcName → Option Value} {mg mb : Str → Option Value} {A A₀ : Around}
    {cn : Str} {nms : List (Str × NameKind)} {mo : List (Str × Const)} {a : Addr} {ccd : Value} {cl : List (Str × Addr)} {outer : List Env} {base h₀ : Heap} {L : Addr} {m : Str → Option Value} {s : Shared} {Q E : Value → Shared → Prop}
    {news : List (Addr × Obj)}
theorem row2 : True := by
  k_with "eval ListComp" => (k_here; lcp_look; k_dflt (refine LC_en (by k_asm) (by with_unfolding_all rfl) (by decide) (by rfl) (by decide) (by rfl) (by rfl) (by decide) ?_))
  k_with "call builtin:str.split" => (k_here; (with_reducible show wpAny _ _ (call (Value.builtin "str.split") _) _ _ _); (rename Txt.split _ _ = _ => hw9q); (refine KSpl.split1 (by k_asm) (by k_asm) (by decide) ?_ (by rw [sizeLine_eq]; omega)); (intro D' l' h' k' e' a' F' N' l1); (have hl' := e'.trans hw9q); (try k_lt l1))
  k_with "call type:enumerate" => (k_here; (with_reducible show wpAny _ _ (call (Value.type _) [Value.ref _]) _ _ _); (rename List.map _ _ = _ => hl9q); k_dflt (refine' enum_srcW hl9q (by exact rfl) (by k_asm) (by k_asm) (by exact List.Mem.head _) (by rw [sizeLine_eq]; omega) ?EL ?fin); (case' EL => unfold EnEl; intro i9q x9q t9q C9q oC9q m9q keep9q h9q tk9q E9q hx9q hC9q ha9q hb9q F9q N9q; obtain ⟨y9q, ty9q, hxe9q, hy9q⟩ := strValues_get hx9q; subst hxe9q; rw [hl9q] at hy9q; clear hx9q); (case' fin => intro D9q h9q tk9q ys9q nw9q F9q N9q ap9q aq9q RA9q))
  trivial
set_option maxHeartbeats 4000000 in
theorem words_c {x : Str} {tx : Tok} {ws : List Str} (hA : A.handled = none) (hD : A.depth ≤ 400) (hf : A.frames = some (envX cn { kind := .function, names := nms, isGenerator := false, isCoroutine := false, more := mo } L a ccd cl :: outer)) (hu : A.units ≤ 1000)
    (B : Below A₀ base outer h₀) (F : Fr h₀ L s.heap m) (X : (hd.heap_1 w.params).In h₀) (N : News h₀ L s.heap news) (T : Top p loose mean mg mb h₀)
    (hw : Txt.split x (Str.ofString " ") = ws) (hxl : x.length ≤ 1000) (hwl : ws.length ≤ 100) (hyl : ∀ y ∈ ws, y.length ≤ 100)
    (ret : ∀ l vs nw h' tk', Fr h₀ L h' m → News h₀ L h' ((l, LCg.lst vs) :: (nw ++ news)) → (∀ p ∈ nw, p.1 ≠ l ∧ ∀ q ∈ news, p.1 ≠ q.1) → (∀ q ∈ news, q.1 ≠ l) → ToksIn nw vs (wToks ws) → Q (.ref l) { s with heap := h', toks := tk' }) :
    wpAny (model PySem.Challenge.rw_og0095_01.row.prog w) A (call (.ref 367) [.str x tx]) Q E s := by
  refine wp_weaken (A := ar 400 1000 cn nms mo L a ccd cl outer) ?_ hA hD (.inr hf.symm) (.inl rfl) hu
  revert X; k_fill; intro X
  refine wpAny_call ?_
  k_dflt k_enter
  k_steps
  all_goals first
    | exact ret _ _ _ _ _ (by assumption) (news_mid (by assumption)) (mid_off (by assumption)) (tail_off (by assumption)) (wToks_in (by assumption))
    | (refine EnEnd.intro [_, _, _] (by assumption) (by assumption) (ap3 (by assumption) (by assumption) (by assumption)) (tokRel_mk (by assumption) (by assumption) ?_ rfl); simp [*])
end
/-! the law's tokens as plain lists, and what read_identification finds in them -/
noncomputable def wsA : Nat → List Str
  | 0 => [Str.ofString "IDENTIFICATION", Str.ofString "DIVISION", Str.ofString "."]
  | _ => [Str.ofString "ID", Str.ofString "DIVISION", Str.ofString "."]
noncomputable def wsP : List Str := [Str.ofString "PROGRAM-ID", Str.ofString "."]
noncomputable def tokN : Nat → TokD
  | 0 => ⟨Str.ofString "word", Str.ofString "ABC", false⟩
  | _ => ⟨Str.ofString "literal", Str.ofString "a-b", false⟩
noncomputable def nameN : Nat → Str
  | 0 => Str.ofString "ABC"
  | _ => Str.ofString "A-B"
noncomputable def wsK : Nat → List Str
  | 0 => [Str.ofString "x", Str.ofString "."]
  | 1 => [Str.ofString "x", Str.ofString "IS", Str.ofString "INITIAL", Str.ofString "."]
  | 2 => [Str.ofString "x", Str.ofString "INITIAL", Str.ofString "PROGRAM", Str.ofString "."]
  | _ => [Str.ofString "x", Str.ofString "IS", Str.ofString "INITIAL", Str.ofString "PROGRAM", Str.ofString "."]
noncomputable def pre2 (i : Nat) : List TokD := wToks (wsA i) ++ wToks wsP
noncomputable def pre (i j k : Nat) : List TokD := pre2 i ++ [tokN j] ++ (wToks (wsK k)).drop 1
noncomputable def isMenu (d : TokD) : Prop := d = ⟨Str.ofString "word", Str.ofString "DATA", false⟩ ∨ d = ⟨Str.ofString "sign", Str.ofString ".", false⟩ ∨ d = ⟨Str.ofString "number", Str.ofString "5", false⟩ ∨ d = ⟨Str.ofString "literal", Str.ofString "x", true⟩
noncomputable def wsT : Nat → List Str
  | 0 => [Str.ofString "DATA", Str.ofString "DIVISION", Str.ofString "."]
  | _ => [Str.ofString "ODD"]
noncomputable def tailT : Nat → List TokD
  | 0 => wToks (wsT 0)
  | 1 => wToks (wsT 1)
  | _ => []
noncomputable def remT (x : Str) : List TokD := wToks [x, Str.ofString "."]
section
variable {w : World} {p : Program} {loose : List Str} {mean : ExcName → Option Value} {mg mb : Str → Option Value} {A A₀ : Around}
    {cn : Str} {nms : List (Str × NameKind)} {mo : List (Str × Const)} {a : Addr} {ccd : Value} {cl : List (Str × Addr)} {outer : List Env} {base h₀ : Heap} {L : Addr} {m : Str → Option Value} {s : Shared} {Q E : Value → Shared → Prop}
    {news : List (Addr × Obj)}
section
variable {prog : Program} {w : World} {A : Around} {E : Value → Shared → Prop} {s : Shared} {h₀ : Heap} {L : Addr} {news : List (Addr × Obj)} {c : Addr} {cs : List Value} {ns : List Int} {n2 : Nat}
theorem len_c {Q : Value → Shared → Prop} (N : News h₀ L s.heap news) (hm : (c, W.listOf cs.toArray n2) ∈ news) (hi : IntsAre cs ns) (hn : ns.length ≤ 64) (h : Q (.int (ns.length : Int) (s.toks + 1)) { s with toks := s.toks + 1 + 1 }) :
    wpAny (model prog w) A (call (.builtin "len") [.ref c]) Q E s := by
  have e : cs.toArray.size = ns.length := by rw [List.size_toArray]; exact hi.length
  refine call_len_list (News.isList N hm) (by rw [e]; omega) ?_
  rw [e]; exact h
theorem item_c {value slice : PySem.Expr} {k : Int} {u : Tok} {Q : Value → Shared → Prop} (N : News h₀ L s.heap news) (hm : (c, W.listOf cs.toArray n2) ∈ news) (hi : IntsAre cs ns) (hn : ns.length ≤ 64) (h0 : 0 ≤ k) (hlt : k < ns.length)
    (h : ∀ x t, Q (.int x t) s)
    (hs : subscripted slice false (.ref c) (.int k u) = operate [.ref c, .int k u] (getItem (.ref c) (.int k u)) := by with_unfolding_all rfl) (hg : ∀ r, letTemporaryGo value (.ref c) r = pure () := by intro _; with_unfolding_all rfl) :
    wpAny (model prog w) A (subscriptTail value slice (.ref c) (.int k u)) Q E s := by
  obtain ⟨t, hx⟩ := hi.get k.toNat (ns[k.toNat]'(by omega)) (by rw [List.getElem?_eq_getElem])
  exact item_list (News.isList N hm) h0 (by omega) (by simpa using hx) (h _ t) hs hg
end
theorem row3 : True := by
  k_with "call builtin:len" => (k_here; (with_reducible show wpAny _ _ (call (Value.builtin "len") [Value.ref _]) _ _ _); k_dflt (refine' len_c (by k_asm) (by k_mem) (by assumption) (by assumption) ?_))
  k_with "subscriptTail" => (k_here; (with_reducible show wpAny _ _ (subscriptTail _ _ (Value.ref _) (Value.int _ _)) _ _ _); (with_unfolding_all refine' item_c (by k_asm) (by k_mem) (by assumption) (by assumption) (by first | omega | exact Int.emod_nonneg _ (by omega) | exact fmod_lo (by omega) (by omega)) (by first | omega | exact Int.emod_lt_of_pos _ (by omega) | exact fmod_hi (by omega)) ?_ (by with_unfolding_all rfl)); intro x9q t9q)
  trivial
set_option maxHeartbeats 4000000 in
theorem draw_c {T c : Addr} {at' : Nat} {ta tm : Tok} {cs : List Value} {ns : List Int} {n n2 : Nat} {rest : List (Addr × Obj)} {many : Int} (hA : A.handled = none) (hD : A.depth ≤ 350) (hf : A.frames = some (envX cn { kind := .function, names := nms, isGenerator := false, isCoroutine := false, more := mo } L a ccd cl :: outer)) (hu : A.units ≤ 500)
    (B : Below A₀ base outer h₀) (F : Fr h₀ L s.heap m) (X : (hd.heap_1 w.params).In h₀) (N : News h₀ L s.heap ((T, W.listOf #[.ref c, .int (at' : Int) ta] n) :: rest)) (TT : Top p loose mean mg mb h₀)
    (off : ∀ p ∈ rest, p.1 ≠ T) (hc : (c, W.listOf cs.toArray n2) ∈ rest) (hi : IntsAre cs ns) (hn1 : 0 < ns.length) (hn2 : ns.length ≤ 64) (hat : at' ≤ 100) (hm1 : 2 ≤ many) (hm2 : many ≤ 5)
    (ret : ∀ r t h' tk' ta', 0 ≤ r → r < many → Fr h₀ L h' m → News h₀ L h' ((T, W.listOf #[.ref c, .int ((at' + 1 : Nat) : Int) ta'] n) :: rest) → Q (.int r t) { s with heap := h', toks := tk' }) :
    wpAny (model PySem.Challenge.rw_og0095_01.row.prog w) A (call (.ref 362) [.ref T, .int many tm]) Q E s := by
  refine wp_weaken (A := ar 350 500 cn nms mo L a ccd cl outer) ?_ hA hD (.inr hf.symm) (.inl rfl) hu
  revert X; k_fill; intro X
  have hlen := hi.length
  refine wpAny_call ?_
  k_dflt k_enter
  k_steps
  exact ret _ _ _ _ _ (Int.fmod_nonneg_of_pos _ (by omega)) (Int.fmod_lt_of_pos _ (by omega)) (by assumption) (by assumption)
end
/-! the law's state between its statements -/
noncomputable def AllAt (m : Str → Option Value) : List (Str × Value) → Prop
  | [] => True
  | p :: r => m p.1 = some p.2 ∧ AllAt m r
noncomputable def lm (ps : List (Str × Value)) (u : Str → Option Value) : Str → Option Value := fun y => match ps.lookup y with
  | some v => some v
  | none => u y
theorem lm_of : ∀ {ps : List (Str × Value)} {m : Str → Option Value}, AllAt m ps → ∀ y v, ps.lookup y = some v → m y = some v
  | [], _, _, y, v, h => by simp at h
  | p :: r, m, a, y, v, h => by
    rw [List.lookup_cons] at h
    split at h
    · rename_i z
      have e : y = p.1 := by simpa using z
      cases h
      rw [e]; exact a.1
    · exact lm_of a.2 y v h
theorem lm_eq {ps : List (Str × Value)} {m : Str → Option Value} (a : AllAt m ps) : lm ps m = m := by
  funext y
  unfold lm
  cases q : ps.lookup y with
  | none => rfl
  | some v => exact (lm_of a y v q).symm
theorem fr_lm {h₀ h : Heap} {L : Addr} {m : Str → Option Value} (F : Fr h₀ L h m) (ps : List (Str × Value)) (a : AllAt m ps) : Fr h₀ L h (lm ps m) := by rw [lm_eq a]; exact F
noncomputable def Sub (a b : List (Addr × Obj)) : Prop := ∀ p ∈ a, p ∈ b
theorem Sub.use {a b : List (Addr × Obj)} (h : Sub a b) {p : Addr × Obj} (hp : p ∈ a) : p ∈ b := h p hp
abbrev tapeO (c : Addr) (k : Nat) (ta : Tok) (n : Nat) : Obj := W.listOf #[.ref c, .int (k : Int) ta] n
/-- the tape ahead, all else behind -/
inductive Led (h₀ : Heap) (L : Addr) (h : Heap) (T : Addr) (k : Nat) (rest : List (Addr × Obj)) : Prop
  | mk : ∀ (c : Addr) (ta : Tok) (n : Nat) (cs : List Value) (n2 : Nat) (ns : List Int), News h₀ L h ((T, tapeO c k ta n) :: rest) → (∀ p ∈ rest, p.1 ≠ T) → (c, W.listOf (List.toArray cs) n2) ∈ rest → IntsAre cs ns → 0 < ns.length → ns.length ≤ 64 → Led h₀ L h T k rest
/-- without one address -/
noncomputable def butA (T : Addr) (l : List (Addr × Obj)) : List (Addr × Obj) := l.filter fun p => p.1 != T
theorem butA_off {T : Addr} {l : List (Addr × Obj)} : ∀ p ∈ butA T l, p.1 ≠ T := fun p hp => by simpa using (List.mem_filter.mp hp).2
theorem butA_mem {T : Addr} {l : List (Addr × Obj)} {p : Addr × Obj} (h : p ∈ l) (n : p.1 ≠ T) : p ∈ butA T l := List.mem_filter.mpr ⟨h, by simpa using n⟩
theorem butA_sub {T : Addr} {l : List (Addr × Obj)} : Sub (butA T l) l := fun _ hp => (List.mem_filter.mp hp).1
theorem news_one {h₀ h : Heap} {L a : Addr} {o o' : Obj} {news : List (Addr × Obj)} (N : News h₀ L h news) (h1 : (a, o) ∈ news) (h2 : (a, o') ∈ news) : o = o' := by
  have z := (N _ h1).1
  rw [(N _ h2).1] at z
  exact (Option.some.inj z).symm
theorem tkAt_but {h₀ h : Heap} {L T : Addr} {o : Obj} {news : List (Addr × Obj)} {t : Addr} {d : TokD} (N : News h₀ L h news) (hT : (T, o) ∈ news) (ho : o.cls = .type "list" ∨ o.cls = .type "range_iterator") (h : TkAt news t d) : TkAt (butA T news) t d := by
  obtain ⟨dt, h1, h2, h3, h4, k1, k2, k3, k4, j1, j2, ta, n, m1, m2, hw⟩ := h
  refine ⟨dt, h1, h2, h3, h4, k1, k2, k3, k4, j1, j2, ta, n, butA_mem m1 fun e => ?_, butA_mem m2 fun e => ?_, hw⟩
  · have e' : t = T := e
    subst e'
    have := news_one N hT m1
    subst this
    rcases ho with q | q <;> cases q
  · have e' : dt = T := e
    subst e'
    have := news_one N hT m2
    subst this
    rcases ho with q | q
    · have : ("dict" : String) = "list" := by injection q
      exact absurd this (by decide)
    · have : ("dict" : String) = "range_iterator" := by injection q
      exact absurd this (by decide)
theorem toks_but {h₀ h : Heap} {L T : Addr} {o : Obj} {news : List (Addr × Obj)} {vs : List Value} {ds : List TokD} (N : News h₀ L h news) (hT : (T, o) ∈ news) (ho : o.cls = .type "list" ∨ o.cls = .type "range_iterator") (h : ToksIn news vs ds) : ToksIn (butA T news) vs ds := by
  induction h with
  | nil => exact .nil
  | cons h _ ih => exact .cons (tkAt_but N hT ho h) ih
theorem led_pack {h₀ h : Heap} {L T c : Addr} {k n n2 : Nat} {ta : Tok} {cs : List Value} {ns : List Int} {news : List (Addr × Obj)} (N : News h₀ L h news) (hT : (T, tapeO c k ta n) ∈ news) (hc : (c, W.listOf cs.toArray n2) ∈ news) (ne : c ≠ T) (hi : IntsAre cs ns) (h1 : 0 < ns.length) (h2 : ns.length ≤ 64) :
    Led h₀ L h T k (butA T news) := ⟨c, ta, n, cs, n2, ns, fun p hp => by
      rcases List.mem_cons.mp hp with rfl | hp
      · exact N _ hT
      · exact N p (butA_sub p hp), butA_off, butA_mem hc ne, hi, h1, h2⟩
theorem ToksIn.append {news : List (Addr × Obj)} {a b : List Value} {ds es : List TokD} (h : ToksIn news a ds) (g : ToksIn news b es) : ToksIn news (a ++ b) (ds ++ es) := by
  induction h with
  | nil => exact g
  | cons h _ ih => exact .cons h ih
theorem ToksIn.drop {news : List (Addr × Obj)} {a : List Value} {ds : List TokD} (h : ToksIn news a ds) : ∀ n : Nat, ToksIn news (a.drop n) (ds.drop n) := by
  induction h with
  | nil => intro n; simpa using ToksIn.nil
  | cons h t ih =>
    intro n
    cases n with
    | zero => exact .cons h t
    | succ n => exact ih n
theorem ToksIn.take {news : List (Addr × Obj)} {a : List Value} {ds : List TokD} (h : ToksIn news a ds) : ∀ n : Nat, ToksIn news (a.take n) (ds.take n) := by
  induction h with
  | nil => intro n; simpa using ToksIn.nil
  | cons h t ih =>
    intro n
    cases n with
    | zero => exact .nil
    | succ n => exact .cons h (ih n)
theorem ToksIn.one {news : List (Addr × Obj)} {t : Addr} {d : TokD} (h : TkAt news t d) : ToksIn news [.ref t] [d] := .cons h .nil
theorem toks_ws {news : List (Addr × Obj)} {vs : List Value} {ws ws' : List Str} (h : ToksIn news vs (wToks ws)) (e : ws = ws') : ToksIn news vs (wToks ws') := e ▸ h
theorem toks_long {news : List (Addr × Obj)} {vs : List Value} {ds : List TokD} (h : ToksIn news vs ds) {n : Nat} (e : ds.length ≤ n) : vs.length ≤ n := by rw [h.length]; exact e
theorem tkAt_mk {news : List (Addr × Obj)} {t dt ta : Addr} {h1 h2 h3 h4 : Int} {k1 k2 k3 k4 j1 j2 : Tok} {n : Nat} {kd wt : Str} {b : Bool} {d : TokD} (m1 : (t, instObj 350 dt) ∈ news)
    (m2 : (dt, dictOf [⟨h1, .str (Str.ofString "kind") k1, .str kd j1⟩, ⟨h2, .str (Str.ofString "worth") k2, .str wt j2⟩, ⟨h3, .str (Str.ofString "at") k3, .ref ta⟩, ⟨h4, .str (Str.ofString "is_in_a") k4, .bool b⟩] n) ∈ news) (e : d = ⟨kd, wt, b⟩) (hl : wt.length ≤ 100) : TkAt news t d := by
  subst e
  exact ⟨dt, h1, h2, h3, h4, k1, k2, k3, k4, j1, j2, ta, n, m1, m2, hl⟩
theorem Sub.refl (a : List (Addr × Obj)) : Sub a a := fun _ h => h
section
variable {prog : Program} {w : World} {A : Around} {E : Value → Shared → Prop} {s : Shared} {env : Env} {h₀ : Heap} {L : Addr} {m : Str → Option Value} {news : List (Addr × Obj)}
noncomputable def NextJ (J : Shared → Prop) (f : Flow) (s' : Shared) : Prop := f = .next ∧ J s'
theorem seq_cut {st : Stmt} {rest : List Stmt} {Q : Flow → Shared → Prop} (J : Shared → Prop) (h1 : wpAny (model prog w) A (exec st env) (NextJ J) E s) (h2 : ∀ s', J s' → wpAny (model prog w) A (execs rest env) Q E s') :
    wpAny (model prog w) A (execs (st :: rest) env) Q E s := by
  refine wpAny_execs_cons (wpAny_mono h1 (fun f s' h => ?_) fun _ _ e => e)
  obtain ⟨rfl, h⟩ := h
  exact h2 s' h
theorem add_l {l1 l2 : Addr} {vs ws : List Value} {n1 n2 : Nat} {Q : Value → Shared → Prop} (F : Fr h₀ L s.heap m) (N : News h₀ L s.heap news) (m1 : (l1, W.listOf vs.toArray n1) ∈ news) (m2 : (l2, W.listOf ws.toArray n2) ∈ news) (hsz : vs.length + ws.length ≤ 2000)
    (h : ∀ D h', Fr h₀ L h' m → News h₀ L h' ((D, W.listOf (vs ++ ws).toArray 0) :: news) → (∀ p ∈ news, p.1 < D) → Q (.ref D) { s with heap := h' }) :
    wpAny (model prog w) A (binaryOp .Add (.ref l1) (.ref l2)) Q E s :=
  add_lists F N (News.isList N m1) (News.isList N m2) (fun h' F' N' => h _ h' F' N' fun p hp => Heap.lt_size (N p hp).1) (by rw [sizeLine_eq]; omega)
theorem pick_from (vs : List Value) (a : Nat) : kms_pick vs (some (a : Int)) none = vs.drop a := by
  unfold kms_pick kms_lo kms_hi
  dsimp only
  rw [if_neg (by omega), Int.toNat_natCast, kmk_drop_min]
  exact List.take_of_length_le (by rw [List.length_drop]; omega)
theorem pick_to (vs : List Value) (b : Nat) : kms_pick vs none (some (b : Int)) = vs.take b := by
  unfold kms_pick kms_lo kms_hi
  dsimp only
  rw [if_neg (by omega), Int.toNat_natCast, List.drop_zero, Nat.sub_zero, kmk_take_min]
theorem pick_mid (vs : List Value) (a b : Nat) (h : b ≤ vs.length) : kms_pick vs (some (a : Int)) (some (b : Int)) = (vs.drop a).take (b - a) := by
  unfold kms_pick kms_lo kms_hi
  dsimp only
  rw [if_neg (by omega), if_neg (by omega), Int.toNat_natCast, Int.toNat_natCast, kmk_drop_min, Nat.min_eq_left h]
  by_cases ha : a ≤ vs.length
  · rw [Nat.min_eq_left ha]
  · have e : vs.drop a = [] := List.drop_eq_nil_of_le (by omega)
    rw [e]; simp
theorem slice_l {value slice : PySem.Expr} {l : Addr} {vs : List Value} {n : Nat} {vl vu : Value} {lo hi : Option Int} {Q : Value → Shared → Prop} (F : Fr h₀ L s.heap m) (N : News h₀ L s.heap news) (m1 : (l, W.listOf vs.toArray n) ∈ news) (hsz : vs.length ≤ 2000) (pl : IsPart vl lo) (pu : IsPart vu hi) {zs : List Value} (e : kms_pick vs lo hi = zs)
    (h : ∀ D h', Fr h₀ L h' m → News h₀ L h' ((D, W.listOf zs.toArray 0) :: news) → (∀ p ∈ news, p.1 < D) → Q (.ref D) { s with heap := h' })
    (hs : subscripted slice false (.ref l) (.ref s.heap.objs.size) = operate [.ref s.heap.objs.size, .ref l] (getItem (.ref l) (.ref s.heap.objs.size))) :
    wpAny (model prog w) A (subscriptTail value slice (.ref l) (.ref s.heap.objs.size)) Q E { s with heap := s.heap.push { cls := .type "slice", data := .fields #[vl, vu, .none] } } := by
  have hl := News.isList N m1
  refine tail_any (Heap.IsList.typeIs (s := { s with heap := s.heap.push { cls := .type "slice", data := .fields #[vl, vu, .none] } }) (hl.push _)) list_getitem_lookup
    (wpAny_getItem_list_slice (hl.push _) (Heap.IsSliceOf.new ..) pl pu .none (by simp) ?_ (by rw [List.size_toArray, sizeLine_eq]; omega)) hs
  have N1 := News.push (F.push { cls := .type "slice", data := .fields #[vl, vu, .none] }) (N.grown fun _ _ e => Heap.get?_push_of_some _ e) { cls := .type "list", data := .seq (slicePick vs.toArray lo hi none) }
  rw [Heap.size_push, kms_pick_eq, List.toList_toArray, e] at N1
  rw [kms_pick_eq, List.toList_toArray, e]
  show Q (.ref (s.heap.push _).objs.size) _
  rw [Heap.size_push]
  exact h _ _ ((F.push _).push _) N1 fun p hp => Nat.lt_succ_of_lt (Heap.lt_size (N p hp).1)
noncomputable def AllQ (P : Value → Prop) : List Value → Prop
  | [] => True
  | [v] => P v
  | v :: r => P v ∧ AllQ P r
theorem allQ_at {P : Value → Prop} : ∀ {vs : List Value} {j : Nat} {v : Value}, AllQ P vs → vs[j]? = some v → P v
  | [], j, v, _, h => by simp at h
  | [x], 0, v, a, h => by
    have e : x = v := by simpa using h
    subst e; exact a
  | [x], j + 1, v, _, h => by simp at h
  | x :: y :: r, 0, v, a, h => by
    have e : x = v := by simpa using h
    subst e; exact a.1
  | x :: y :: r, j + 1, v, a, h => allQ_at (vs := y :: r) a.2 (by simpa using h)
theorem seqIdx {k : Int} {n : Nat} (h0 : 0 ≤ k) (h1 : k < n) : seqIndex? k n = some k.toNat := by
  unfold seqIndex?
  have z : ¬ (k < 0) := by omega
  simp [z, h0, h1]
theorem menu_t {value slice : PySem.Expr} {t : Addr} {l : List Value} {n : Nat} {k : Int} {u : Tok} {Q : Value → Shared → Prop} (N : News h₀ L s.heap news) (hm : (t, ({ cls := .type "tuple", data := .seq l.toArray n } : Obj)) ∈ news) (h0 : 0 ≤ k) (h1 : k < l.length) (hl : l.length ≤ 100)
    (h : AllQ (fun v => Q v s) l)
    (hs : subscripted slice false (.ref t) (.int k u) = operate [.ref t, .int k u] (getItem (.ref t) (.int k u)) := by with_unfolding_all rfl) :
    wpAny (model prog w) A (subscriptTail value slice (.ref t) (.int k u)) Q E s := by
  have hx : l[k.toNat]? = some (l[k.toNat]'(by omega)) := List.getElem?_eq_getElem _
  exact item_tupleT (News.isTup N hm) (by omega) (by omega) (seqIdx h0 h1) hx (allQ_at h hx) hs
theorem menu_k {value slice : PySem.Expr} {t : Addr} {l : List Value} {n : Nat} {k : Int} {u : Tok} {Q : Value → Shared → Prop} {K : Frag} {o : Obj} (F : Fr h₀ L s.heap m) (X : K.In h₀) (hm : K.lookup t = some o) (hc : o.cls = .type "tuple") (hd : o.data = .seq l.toArray n) (h0 : 0 ≤ k) (h1 : k < l.length) (hl : l.length ≤ 100)
    (h : AllQ (fun v => Q v s) l)
    (hs : subscripted slice false (.ref t) (.int k u) = operate [.ref t, .int k u] (getItem (.ref t) (.int k u)) := by with_unfolding_all rfl) :
    wpAny (model prog w) A (subscriptTail value slice (.ref t) (.int k u)) Q E s := by
  have hx : l[k.toNat]? = some (l[k.toNat]'(by omega)) := List.getElem?_eq_getElem _
  have ht : IsTup s.heap t l.toArray := ⟨o, F.keep _ _ (X _ _ hm), hc, n, hd⟩
  exact item_tupleT ht (by omega) (by omega) (seqIdx h0 h1) hx (allQ_at h hx) hs
theorem len_l {l : Addr} {vs : List Value} {n : Nat} {Q : Value → Shared → Prop} (N : News h₀ L s.heap news) (m1 : (l, W.listOf vs.toArray n) ∈ news) (hsz : vs.length ≤ 2000) (h : Q (.int (vs.length : Int) (s.toks + 1)) { s with toks := s.toks + 1 + 1 }) :
    wpAny (model prog w) A (call (.builtin "len") [.ref l]) Q E s := by
  have e : vs.toArray.size = vs.length := List.size_toArray ..
  refine call_len_list (News.isList N m1) (by rw [e]; omega) ?_
  rw [e]; exact h
end
section
variable {w : World} {p : Program} {loose : List Str} {mean : ExcName → Option Value} {mg mb : Str → Option Value} {A A₀ : Around}
    {cn : Str} {nms : List (Str × NameKind)} {mo : List (Str × Const)} {a : Addr} {ccd : Value} {cl : List (Str × Addr)} {outer : List Env} {base h₀ : Heap} {L : Addr} {m : Str → Option Value} {s : Shared} {Q E : Value → Shared → Prop}
    {news : List (Addr × Obj)}
theorem draw_cU {T c : Addr} {k : Nat} {ta tm : Tok} {cs : List Value} {ns : List Int} {n n2 : Nat} {g : Obj → List (Addr × Obj)} {many : Int} (hA : A.handled = none) (hD : A.depth ≤ 350) (hf : A.frames = some (envX cn { kind := .function, names := nms, isGenerator := false, isCoroutine := false, more := mo } L a ccd cl :: outer)) (hu : A.units ≤ 500)
    (B : Below A₀ base outer h₀) (F : Fr h₀ L s.heap m) (X : (hd.heap_1 w.params).In h₀) (N : News h₀ L s.heap news) (U : UpdF T (tapeO c k ta n) news g) (TT : Top p loose mean mg mb h₀)
    (hc : (c, W.listOf cs.toArray n2) ∈ news) (hi : IntsAre cs ns) (hn1 : 0 < ns.length) (hn2 : ns.length ≤ 64) (hat : k ≤ 100) (hm1 : 2 ≤ many) (hm2 : many ≤ 5)
    (ret : ∀ r t h' tk' ta', 0 ≤ r → r < many → Fr h₀ L h' m → News h₀ L h' (g (tapeO c (k + 1) ta' n)) → Q (.int r t) { s with heap := h', toks := tk' }) :
    wpAny (model PySem.Challenge.rw_og0095_01.row.prog w) A (call (.ref 362) [.ref T, .int many tm]) Q E s := by
  obtain ⟨pr, po, e, hg, h1, h2⟩ := U.split
  have ne : c ≠ T := fun q => by
    subst q
    have z := news_one N hc (e ▸ List.mem_append_right _ (.head _))
    have z2 : cs.toArray = #[.ref c, .int (k : Int) ta] := by injection z with _ _ z _; injection z
    have z3 : cs = [.ref c, .int (k : Int) ta] := by simpa using congrArg Array.toList z2
    rw [z3] at hi
    have hlen := hi.length
    obtain ⟨t', hx⟩ := hi.get 0 (ns[0]'hn1) (by rw [List.getElem?_eq_getElem])
    simp at hx
  have hc' : (c, W.listOf cs.toArray n2) ∈ pr ++ po := by
    rw [e] at hc
    rcases List.mem_append.mp hc with z | z
    · exact List.mem_append_left _ z
    · rcases List.mem_cons.mp z with z | z
      · exact absurd (congrArg Prod.fst z) ne
      · exact List.mem_append_right _ z
  have mv : ∀ o : Obj, ∀ q ∈ (T, o) :: (pr ++ po), q ∈ pr ++ (T, o) :: po := fun o q hq => by
    rcases List.mem_cons.mp hq with rfl | hq
    · exact List.mem_append_right _ (.head _)
    · rcases List.mem_append.mp hq with hq | hq
      · exact List.mem_append_left _ hq
      · exact List.mem_append_right _ (.tail _ hq)
  have vm : ∀ o : Obj, ∀ q ∈ pr ++ (T, o) :: po, q ∈ (T, o) :: (pr ++ po) := fun o q hq => by
    rcases List.mem_append.mp hq with hq | hq
    · exact .tail _ (List.mem_append_left _ hq)
    · rcases List.mem_cons.mp hq with rfl | hq
      · exact .head _
      · exact .tail _ (List.mem_append_right _ hq)
  refine draw_c (rest := pr ++ po) hA hD hf hu B F X (fun q hq => N q (e ▸ mv _ q hq)) TT (fun q hq => (List.mem_append.mp hq).elim (h1 q) (h2 q)) hc' hi hn1 hn2 hat hm1 hm2 ?_
  intro r t h' tk' ta' r0 r1 F' N'
  exact ret r t h' tk' ta' r0 r1 F' (fun q hq => N' q (vm _ q (hg _ ▸ hq)))
theorem words_cP {x : Str} {tx : Tok} {ws : List Str} {pr rest : List (Addr × Obj)} {T : Addr} {oT : Obj} (hA : A.handled = none) (hD : A.depth ≤ 400) (hf : A.frames = some (envX cn { kind := .function, names := nms, isGenerator := false, isCoroutine := false, more := mo } L a ccd cl :: outer)) (hu : A.units ≤ 1000)
    (B : Below A₀ base outer h₀) (F : Fr h₀ L s.heap m) (X : (hd.heap_1 w.params).In h₀) (N : News h₀ L s.heap (pr ++ rest)) (TT : Top p loose mean mg mb h₀) (hT : (T, oT) ∈ pr) (offT : ∀ p ∈ rest, p.1 ≠ T)
    (hw : Txt.split x (Str.ofString " ") = ws) (hxl : x.length ≤ 1000) (hwl : ws.length ≤ 100) (hyl : ∀ y ∈ ws, y.length ≤ 100)
    (ret : ∀ l vs rest' h' tk', Fr h₀ L h' m → News h₀ L h' ((l, W.listOf (List.toArray vs) vs.length) :: (pr ++ rest')) → Sub rest rest' → (∀ p ∈ rest', p.1 ≠ T) → (∀ q ∈ pr ++ rest, q.1 ≠ l) → l ≠ T → vs.length ≤ 100 → ToksIn rest' vs (wToks ws) → Q (.ref l) { s with heap := h', toks := tk' }) :
    wpAny (model PySem.Challenge.rw_og0095_01.row.prog w) A (call (.ref 367) [.str x tx]) Q E s := by
  refine words_c hA hD hf hu B F X N TT hw hxl hwl hyl ?_
  intro l vs nw h' tk' F' N' ap aq TK
  refine ret l vs (nw ++ rest) h' tk' F' (fun q hq => N' q ?_) (fun q hq => List.mem_append_right _ hq) (fun q hq => ?_) aq (fun e => aq _ (List.mem_append_left _ hT) e.symm) (by rw [TK.length]; simpa [wToks] using hwl) (TK.mono fun q hq => List.mem_append_left _ hq)
  · rcases List.mem_cons.mp hq with rfl | hq
    · exact .head _
    · rcases List.mem_append.mp hq with hq | hq
      · exact .tail _ (List.mem_append_right _ (List.mem_append_left _ hq))
      · rcases List.mem_append.mp hq with hq | hq
        · exact .tail _ (List.mem_append_left _ hq)
        · exact .tail _ (List.mem_append_right _ (List.mem_append_right _ hq))
  · rcases List.mem_append.mp hq with hq | hq
    · exact (ap q hq).2 _ (List.mem_append_left _ hT)
    · exact offT q hq
end
/-- the tape and the tokens' list ahead, all else behind -/
inductive LSt (h₀ : Heap) (L : Addr) (h : Heap) (T l : Addr) (k : Nat) (ds : List TokD) (rest : List (Addr × Obj)) : Prop
  | mk : ∀ (c : Addr) (ta : Tok) (n : Nat) (cs : List Value) (n2 : Nat) (ns : List Int) (vs : List Value) (nl : Nat), News h₀ L h ((T, tapeO c k ta n) :: (l, W.listOf (List.toArray vs) nl) :: rest) → T ≠ l → (∀ p ∈ rest, p.1 ≠ T) → (∀ p ∈ rest, p.1 ≠ l) → (c, W.listOf (List.toArray cs) n2) ∈ rest → IntsAre cs ns → 0 < ns.length → ns.length ≤ 64 → ToksIn rest vs ds → vs.length ≤ 900 → LSt h₀ L h T l k ds rest
theorem lst_pack {h₀ h : Heap} {L T l c : Addr} {k n n2 nl : Nat} {ta : Tok} {cs vs : List Value} {ns : List Int} {ds : List TokD} {news : List (Addr × Obj)} (N : News h₀ L h news) (hT : (T, tapeO c k ta n) ∈ news) (hl : (l, W.listOf vs.toArray nl) ∈ news) (hc : (c, W.listOf cs.toArray n2) ∈ news)
    (ne : T ≠ l) (ne1 : c ≠ T) (ne2 : c ≠ l) (hi : IntsAre cs ns) (h1 : 0 < ns.length) (h2 : ns.length ≤ 64) (TK : ToksIn news vs ds) (hv : vs.length ≤ 900) : LSt h₀ L h T l k ds (butA l (butA T news)) := by
  have N' : News h₀ L h (butA T news) := fun p hp => N p (butA_sub p hp)
  refine ⟨c, ta, n, cs, n2, ns, vs, nl, fun p hp => ?_, ne, fun p hp => butA_off p (butA_sub p hp), butA_off, butA_mem (butA_mem hc ne1) ne2, hi, h1, h2, toks_but N' (butA_mem hl (Ne.symm ne)) (.inl rfl) (toks_but N hT (.inl rfl) TK), hv⟩
  rcases List.mem_cons.mp hp with rfl | hp
  · exact N _ hT
  · rcases List.mem_cons.mp hp with rfl | hp
    · exact N _ hl
    · exact N p (butA_sub p (butA_sub p hp))
theorem lst_sub {T l : Addr} {news rest : List (Addr × Obj)} (h : Sub rest news) (h1 : ∀ p ∈ rest, p.1 ≠ T) (h2 : ∀ p ∈ rest, p.1 ≠ l) : Sub rest (butA l (butA T news)) := fun p hp => butA_mem (butA_mem (h p hp) (h1 p hp)) (h2 p hp)
/-- a turn's end -/
inductive TurnQ (h₀ : Heap) (L : Addr) (T : Addr) (ps : List (Str × Value)) (old : List (Addr × Obj)) (Inv : Nat → List TokD → Prop) (s : Shared) (f : Flow) (s' : Shared) : Prop
  | mk : f = .next → ∀ (h' : Heap) (tk' : Nat) (u' : Str → Option Value) (l' : Addr) (k' : Nat) (ds' : List TokD) (rest' : List (Addr × Obj)), s' = { s with heap := h', toks := tk' } → Fr h₀ L h' (lm ((Str.ofString "tape", .ref T) :: (Str.ofString "tokens", .ref l') :: ps) u') → LSt h₀ L h' T l' k' ds' rest' → Sub old rest' → Inv k' ds' → TurnQ h₀ L T ps old Inv s f s'
section
variable {prog : Program} {w : World} {A : Around} {E : Value → Shared → Prop} {s : Shared} {env : Env} {h₀ : Heap} {x : Str} {body : List Stmt} {Q : Flow → Shared → Prop}
theorem iter_LS {r T l : Addr} {k n : Nat} {b : Int} {t u v : Tok} {ds : List TokD} {rest₀ : List (Addr × Obj)} {ps : List (Str × Value)} {uu : Str → Option Value} (Inv : Nat → Nat → List TokD → Prop)
    (hh : A.handled = none) (F : Fr h₀ env.locals s.heap (lm ((Str.ofString "tape", .ref T) :: (Str.ofString "tokens", .ref l) :: ps) uu)) (S : LSt h₀ env.locals s.heap T l k ds rest₀) (hr : IsRange s.heap r 0 b 1 t u v) (hb : b = (n : Int)) (hn64 : n ≤ 1000) (h0 : Inv 0 k ds)
    (hx : ∀ p ∈ ((Str.ofString "tape", Value.none) :: (Str.ofString "tokens", Value.none) :: ps), (p.1 == x) = false)
    (turn : ∀ i tt l' k' ds' rest u' h tk, i < n → Inv i k' ds' → Sub rest₀ rest → Fr h₀ env.locals h (fun y => if y = x then some (.int (i : Int) tt) else lm ((Str.ofString "tape", .ref T) :: (Str.ofString "tokens", .ref l') :: ps) u' y) → LSt h₀ env.locals h T l' k' ds' rest →
      wpAny (model prog w) A (execs body env) (TurnQ h₀ env.locals T ps rest (Inv (i + 1)) { s with heap := h, toks := tk }) E { s with heap := h, toks := tk })
    (done : ∀ h' tk l' k' ds' rest u', Fr h₀ env.locals h' (lm ((Str.ofString "tape", .ref T) :: (Str.ofString "tokens", .ref l') :: ps) u') → LSt h₀ env.locals h' T l' k' ds' rest → Sub rest₀ rest → Inv n k' ds' → Q .next { s with heap := h', toks := tk }) :
    wpAny (model prog w) A (pyIter (.ref r)) (fun it s₂ => LoopAtV prog w A h₀ env x body Q E it s₂) E s := by
  subst hb
  have hsm : Builtin.Range.small 0 (n : Int) 1 = true := small_one (by omega) (by omega) (by omega) (by omega)
  have hsz : Builtin.Range.rangeSize 0 (n : Int) 1 = (n : Int) := by rw [rangeSize_nat]; simp
  obtain ⟨c, ta, nn, cs, n2, ns, vs, nl, N, neTl, offT, offl, hc, hi, hn1, hn2, TK, hv⟩ := S
  refine wpAny_pyIter_range hr hsm ?_
  have fr : ∀ p ∈ (T, tapeO c k ta nn) :: (l, W.listOf vs.toArray nl) :: rest₀, p.1 ≠ s.heap.objs.size := fun p hp => Nat.ne_of_lt (Heap.lt_size (N p hp).1)
  have off₀ : ∀ p ∈ rest₀, p.1 ≠ s.heap.objs.size := fun p hp => fr p (.tail _ (.tail _ hp))
  generalize hI : s.heap.objs.size = I at *
  let J : Nat → (Str → Option Value) → List (Addr × Obj) → Prop := fun i m₁ news₁ => ∃ l' k' ds' rest u' c ta n cs n2 ns vs nl, m₁ = lm ((Str.ofString "tape", .ref T) :: (Str.ofString "tokens", .ref l') :: ps) u' ∧ news₁ = (T, tapeO c k' ta n) :: (l', W.listOf (List.toArray vs) nl) :: rest ∧ T ≠ l' ∧ (∀ p ∈ rest, p.1 ≠ T) ∧ (∀ p ∈ rest, p.1 ≠ l') ∧
    (c, W.listOf (List.toArray cs) n2) ∈ rest ∧ IntsAre cs ns ∧ 0 < ns.length ∧ ns.length ≤ 64 ∧ ToksIn rest vs ds' ∧ vs.length ≤ 900 ∧ Sub rest₀ rest ∧ Inv i k' ds'
  have hLI : env.locals ≠ I := by rw [← hI]; exact Nat.ne_of_lt F.ns.lt
  have hI₀ : h₀.get? I = none := by rw [← hI]; exact next_is_new F
  refine ⟨I, [I], [I], n, _, _, _, (T, tapeO c k ta nn) :: (l, W.listOf vs.toArray nl) :: rest₀, J, rfl, LCg.range_walks hh 0 n, by simpa using hLI, fun b hb => by rw [List.mem_singleton.mp hb]; exact hI₀, fun p hp => by simpa using fr p hp, ?_, F.push _, (fun p hp => ⟨Heap.get?_push_of_some _ (N p hp).1, (N p hp).2⟩),
    ⟨l, k, ds, rest₀, uu, c, ta, nn, cs, n2, ns, vs, nl, rfl, rfl, neTl, offT, offl, hc, hi, hn1, hn2, TK, hv, fun _ h => h, h0⟩, ?_, ?_⟩
  · show IsRangeIter _ _ _ _ _
    rw [← hI, hsz]
    simpa using Heap.get?_push_size _ rfl
  · rintro i v m₁ news₁ s₁ own ⟨hh', tk', rfl⟩ hin ⟨tt, rfl⟩ ⟨l', k', ds', rest, u', c, ta, nn, cs, n2, ns, vs, nl, rfl, rfl, neTl, offT, offl, hc, hi, hn1, hn2, TK, hv, sb, hInv⟩ hoff hown hownh hbown st F₁ N₁
    have hoI : ∃ oI : Obj, (I, oI) ∈ own ∧ oI.cls = .type "range_iterator" := by
      have st' : Heap.get? hh' I = some _ := st
      exact ⟨_, hbown I (by simp) hI₀ _ st', rfl⟩
    obtain ⟨oI, hoI, hoc⟩ := hoI
    have neTI : T ≠ I := fun e => hoff _ (.head _) (by simp [e])
    have nelI : l' ≠ I := fun e => hoff _ (.tail _ (.head _)) (by simp [e])
    have ownI : ∀ p ∈ own, p.1 = I := fun p hp => by simpa using hown p hp
    have S₁ : LSt h₀ env.locals hh' T l' k' ds' (own ++ rest) := by
      refine ⟨c, ta, nn, cs, n2, ns, vs, nl, fun p hp => N₁ p ?_, neTl, fun p hp => ?_, fun p hp => ?_, List.mem_append_right _ hc, hi, hn1, hn2, TK.mono fun p hp => List.mem_append_right _ hp, hv⟩
      · rcases List.mem_cons.mp hp with rfl | hp
        · exact List.mem_append_right _ (.head _)
        · rcases List.mem_cons.mp hp with rfl | hp
          · exact List.mem_append_right _ (.tail _ (.head _))
          · rcases List.mem_append.mp hp with hp | hp
            · exact List.mem_append_left _ hp
            · exact List.mem_append_right _ (.tail _ (.tail _ hp))
      · rcases List.mem_append.mp hp with hp | hp
        · rw [ownI p hp]; exact Ne.symm neTI
        · exact offT p hp
      · rcases List.mem_append.mp hp with hp | hp
        · rw [ownI p hp]; exact Ne.symm nelI
        · exact offl p hp
    have F₂ := F₁
    rw [show ((0 : Int) + (i : Int)) = (i : Int) from Int.zero_add _] at F₂
    refine wpAny_mono (turn i tt l' k' ds' (own ++ rest) u' hh' tk' hin hInv (fun p hp => List.mem_append_right _ (sb p hp)) F₂ S₁) (fun f s₂ q => ?_) fun _ _ e => e
    obtain ⟨rfl, h', tk2, u2, l2, k2, ds2, rest2, rfl, F', S', sb', hInv'⟩ := q
    obtain ⟨c, ta, nn, cs, n2, ns, vs, nl, N', neTl', offT', offl', hc', hi', hn1', hn2', TK', hv'⟩ := S'
    have mI : (I, oI) ∈ rest2 := sb' _ (List.mem_append_left _ hoI)
    have NI := N' _ (.tail _ (.tail _ mI))
    have N2 : News h₀ env.locals h' rest2 := fun p hp => N' p (.tail _ (.tail _ hp))
    refine .next ⟨rfl, h', tk2, _, (T, tapeO c k2 ta nn) :: (l2, W.listOf vs.toArray nl) :: butA I rest2, rfl, F', fun p hp => ?_, fun p hp => ?_, l2, k2, ds2, butA I rest2, u2, c, ta, nn, cs, n2, ns, vs, nl, rfl, rfl, neTl', fun p hp => offT' p (butA_sub p hp), fun p hp => offl' p (butA_sub p hp), butA_mem hc' fun e => ?_, hi', hn1', hn2', toks_but N2 mI (.inr hoc) TK', hv',
      fun p hp => butA_mem (sb' p (List.mem_append_right _ (sb p hp))) (off₀ p hp), hInv'⟩
    · rcases List.mem_append.mp hp with hp | hp
      · exact N' p (.tail _ (.tail _ (sb' p (List.mem_append_left _ hp))))
      · rcases List.mem_cons.mp hp with rfl | hp
        · exact N' _ (.head _)
        · rcases List.mem_cons.mp hp with rfl | hp
          · exact N' _ (.tail _ (.head _))
          · exact N' p (.tail _ (.tail _ (butA_sub p hp)))
    · rcases List.mem_cons.mp hp with rfl | hp
      · simpa using neTI
      · rcases List.mem_cons.mp hp with rfl | hp
        · have := offl' _ mI
          simpa using Ne.symm this
        · simpa using butA_off p hp
    · have e' : c = I := e
      subst e'
      have := news_one N2 hc' mI
      subst this
      exact absurd (Value.type.inj hoc) (by decide)
  · rintro h' tk' m' news' F' N' _ ⟨l', k', ds', rest, u', c, ta, nn, cs, n2, ns, vs, nl, rfl, rfl, neTl, offT, offl, hc, hi, hn1, hn2, TK, hv, sb, hInv⟩
    exact done h' tk' l' k' ds' rest u' F' ⟨c, ta, nn, cs, n2, ns, vs, nl, N', neTl, offT, offl, hc, hi, hn1, hn2, TK, hv⟩ sb hInv
end
/-- a turn's end: the names kept, the ledger grown -/
inductive TurnK (h₀ : Heap) (L : Addr) (ps : List (Str × Value)) (old : List (Addr × Obj)) (s : Shared) (f : Flow) (s' : Shared) : Prop
  | mk : f = .next → ∀ (h' : Heap) (tk' : Nat) (u' : Str → Option Value) (rest' : List (Addr × Obj)), s' = { s with heap := h', toks := tk' } → Fr h₀ L h' (lm ps u') → News h₀ L h' rest' → Sub old rest' → TurnK h₀ L ps old s f s'
section
variable {prog : Program} {w : World} {A : Around} {E : Value → Shared → Prop} {s : Shared} {env : Env} {h₀ : Heap} {x : Str} {body : List Stmt} {Q : Flow → Shared → Prop}
theorem iter_K {r : Addr} {n : Nat} {b : Int} {t u v : Tok} {rest₀ : List (Addr × Obj)} {ps : List (Str × Value)} {uu : Str → Option Value}
    (hh : A.handled = none) (F : Fr h₀ env.locals s.heap (lm ps uu)) (N : News h₀ env.locals s.heap rest₀) (hr : IsRange s.heap r 0 b 1 t u v) (hb : b = (n : Int)) (hn64 : n ≤ 1000)
    (turn : ∀ i tt rest u' h tk, i < n → Sub rest₀ rest → Fr h₀ env.locals h (fun y => if y = x then some (.int (i : Int) tt) else lm ps u' y) → News h₀ env.locals h rest →
      wpAny (model prog w) A (execs body env) (TurnK h₀ env.locals ps rest { s with heap := h, toks := tk }) E { s with heap := h, toks := tk })
    (done : ∀ h' tk rest u', Fr h₀ env.locals h' (lm ps u') → News h₀ env.locals h' rest → Sub rest₀ rest → Q .next { s with heap := h', toks := tk }) :
    wpAny (model prog w) A (pyIter (.ref r)) (fun it s₂ => LoopAtV prog w A h₀ env x body Q E it s₂) E s := by
  subst hb
  have hsm : Builtin.Range.small 0 (n : Int) 1 = true := small_one (by omega) (by omega) (by omega) (by omega)
  have hsz : Builtin.Range.rangeSize 0 (n : Int) 1 = (n : Int) := by rw [rangeSize_nat]; simp
  refine wpAny_pyIter_range hr hsm ?_
  have off₀ : ∀ p ∈ rest₀, p.1 ≠ s.heap.objs.size := fun p hp => Nat.ne_of_lt (Heap.lt_size (N p hp).1)
  generalize hI : s.heap.objs.size = I at *
  let J : Nat → (Str → Option Value) → List (Addr × Obj) → Prop := fun _ m₁ news₁ => ∃ u', m₁ = lm ps u' ∧ Sub rest₀ news₁
  have hLI : env.locals ≠ I := by rw [← hI]; exact Nat.ne_of_lt F.ns.lt
  have hI₀ : h₀.get? I = none := by rw [← hI]; exact next_is_new F
  refine ⟨I, [I], [I], n, _, _, _, rest₀, J, rfl, LCg.range_walks hh 0 n, by simpa using hLI, fun b hb => by rw [List.mem_singleton.mp hb]; exact hI₀, fun p hp => by simpa using off₀ p hp, ?_, F.push _, (fun p hp => ⟨Heap.get?_push_of_some _ (N p hp).1, (N p hp).2⟩),
    ⟨uu, rfl, fun _ h => h⟩, ?_, ?_⟩
  · show IsRangeIter _ _ _ _ _
    rw [← hI, hsz]
    simpa using Heap.get?_push_size _ rfl
  · rintro i v m₁ news₁ s₁ own ⟨hh', tk', rfl⟩ hin ⟨tt, rfl⟩ ⟨u', rfl, sb⟩ hoff hown hownh hbown st F₁ N₁
    have hoI : ∃ oI : Obj, (I, oI) ∈ own := by
      have st' : Heap.get? hh' I = some _ := st
      exact ⟨_, hbown I (by simp) hI₀ _ st'⟩
    obtain ⟨oI, hoI⟩ := hoI
    have ownI : ∀ p ∈ own, p.1 = I := fun p hp => by simpa using hown p hp
    have F₂ := F₁
    rw [show ((0 : Int) + (i : Int)) = (i : Int) from Int.zero_add _] at F₂
    refine wpAny_mono (turn i tt (own ++ news₁) u' hh' tk' hin (fun p hp => List.mem_append_right _ (sb p hp)) F₂ N₁) (fun f s₂ q => ?_) fun _ _ e => e
    obtain ⟨rfl, h', tk2, u2, rest2, rfl, F', N', sb'⟩ := q
    refine .next ⟨rfl, h', tk2, _, butA I rest2, rfl, F', fun p hp => ?_, fun p hp => ?_, u2, rfl, fun p hp => butA_mem (sb' p (List.mem_append_right _ (sb p hp))) (off₀ p hp)⟩
    · rcases List.mem_append.mp hp with hp | hp
      · exact N' p (sb' p (List.mem_append_left _ hp))
      · exact N' p (butA_sub p hp)
    · simpa using butA_off p hp
  · rintro h' tk' m' news' F' N' _ ⟨u', rfl, sb⟩
    exact done h' tk' news' u' F' N' sb
end
theorem tk_led2 {h₀ h : Heap} {L : Addr} {a b c d : Addr × Obj} {rest : List (Addr × Obj)} (N : News h₀ L h (a :: b :: c :: d :: rest)) : News h₀ L h (c :: d :: a :: b :: rest) := news_sub N fun p hp => by
  simp only [List.mem_cons] at hp ⊢
  rcases hp with e | e | e | e | e <;> simp [e]
theorem tk_led3 {h₀ h : Heap} {L : Addr} {a b c d e : Addr × Obj} {rest : List (Addr × Obj)} (N : News h₀ L h (a :: b :: e :: c :: d :: rest)) : News h₀ L h (c :: d :: a :: b :: e :: rest) := news_sub N fun p hp => by
  simp only [List.mem_cons] at hp ⊢
  rcases hp with e | e | e | e | e | e <;> simp [e]
theorem tk_off2 {x d T : Addr} {o1 o2 : Obj} {rest : List (Addr × Obj)} (h1 : T < d) (h2 : d < x) (off : ∀ p ∈ rest, p.1 ≠ T) : ∀ p ∈ (x, o1) :: (d, o2) :: rest, p.1 ≠ T := fun p hp => by
  rcases List.mem_cons.mp hp with rfl | hp
  · exact Nat.ne_of_gt (Nat.lt_trans h1 h2)
  · rcases List.mem_cons.mp hp with rfl | hp
    · exact Nat.ne_of_gt h1
    · exact off p hp
theorem off_cons {t T : Addr} {o : Obj} {rest : List (Addr × Obj)} (h : t ≠ T) (off : ∀ p ∈ rest, p.1 ≠ T) : ∀ p ∈ (t, o) :: rest, p.1 ≠ T := fun p hp => by
  rcases List.mem_cons.mp hp with rfl | hp
  · exact h
  · exact off p hp
section
variable {w : World} {p : Program} {loose : List Str} {mean : ExcName → Option Value} {mg mb : Str → Option Value} {A A₀ : Around}
    {cn : Str} {nms : List (Str × NameKind)} {mo : List (Str × Const)} {a : Addr} {ccd : Value} {cl : List (Str × Addr)} {outer : List Env} {base h₀ : Heap} {L : Addr} {m : Str → Option Value} {s : Shared} {Q E : Value → Shared → Prop}
    {news : List (Addr × Obj)}

set_option maxHeartbeats 4000000 in
theorem token_c2 {kd wt : Str} {t1 t2 : Tok} {T l : Addr} {oT ol : Obj} {rest : List (Addr × Obj)} (hA : A.handled = none) (hD : A.depth ≤ 400) (hf : A.frames = some (envX cn { kind := .function, names := nms, isGenerator := false, isCoroutine := false, more := mo } L a ccd cl :: outer)) (hu : A.units ≤ 1000)
    (B : Below A₀ base outer h₀) (F : Fr h₀ L s.heap m) (X : (hd.heap_1 w.params).In h₀) (N : News h₀ L s.heap ((T, oT) :: (l, ol) :: rest)) (TT : Top p loose mean mg mb h₀) (offT : ∀ p ∈ rest, p.1 ≠ T) (offl : ∀ p ∈ rest, p.1 ≠ l) (hwt : wt.length ≤ 100)
    (ret : ∀ x rest' h' tk', Fr h₀ L h' m → News h₀ L h' ((T, oT) :: (l, ol) :: rest') → Sub rest rest' → (∀ p ∈ rest', p.1 ≠ T) → (∀ p ∈ rest', p.1 ≠ l) → TkAt rest' x ⟨kd, wt, false⟩ → Q (.ref x) { s with heap := h', toks := tk' }) :
    wpAny (model PySem.Challenge.rw_og0095_01.row.prog w) A (call (.ref 350) [.str kd t1, .str wt t2]) Q E s := by
  refine wp_weaken (A := ar 400 1000 cn nms mo L a ccd cl outer) ?_ hA hD (.inr hf.symm) (.inl rfl) hu
  revert X; k_fill; intro X
  k_steps
  exact ret _ ((_, _) :: (_, _) :: rest) _ _ (by assumption) (tk_led2 (by assumption)) (fun _ h => .tail _ (.tail _ h)) (tk_off2 (And.left (by assumption)) (by assumption) offT) (tk_off2 (And.left (And.right (by assumption))) (by assumption) offl) (tkAt_mk (.head _) (.tail _ (.head _)) rfl hwt)

set_option maxHeartbeats 4000000 in
theorem token_c4 {kd wt : Str} {t1 t2 : Tok} {T l tp : Addr} {oT ol ot : Obj} {rest : List (Addr × Obj)} (hA : A.handled = none) (hD : A.depth ≤ 400) (hf : A.frames = some (envX cn { kind := .function, names := nms, isGenerator := false, isCoroutine := false, more := mo } L a ccd cl :: outer)) (hu : A.units ≤ 1000)
    (B : Below A₀ base outer h₀) (F : Fr h₀ L s.heap m) (X : (hd.heap_1 w.params).In h₀) (N : News h₀ L s.heap ((tp, ot) :: (T, oT) :: (l, ol) :: rest)) (TT : Top p loose mean mg mb h₀) (offT : ∀ p ∈ rest, p.1 ≠ T) (offl : ∀ p ∈ rest, p.1 ≠ l) (ne1 : tp ≠ T) (ne2 : tp ≠ l) (hwt : wt.length ≤ 100)
    (ret : ∀ x rest' h' tk', Fr h₀ L h' m → News h₀ L h' ((T, oT) :: (l, ol) :: rest') → Sub rest rest' → (∀ p ∈ rest', p.1 ≠ T) → (∀ p ∈ rest', p.1 ≠ l) → TkAt rest' x ⟨kd, wt, true⟩ → Q (.ref x) { s with heap := h', toks := tk' }) :
    wpAny (model PySem.Challenge.rw_og0095_01.row.prog w) A (call (.ref 350) [.str kd t1, .str wt t2, .ref tp, .bool true]) Q E s := by
  refine wp_weaken (A := ar 400 1000 cn nms mo L a ccd cl outer) ?_ hA hD (.inr hf.symm) (.inl rfl) hu
  revert X; k_fill; intro X
  k_steps
  exact ret _ ((_, _) :: (_, _) :: (tp, ot) :: rest) _ _ (by assumption) (tk_led3 (by assumption)) (fun _ h => .tail _ (.tail _ (.tail _ h))) (tk_off2 (And.left (And.right (by assumption))) (by assumption) (off_cons ne1 offT)) (tk_off2 (And.left (And.right (And.right (by assumption)))) (by assumption) (off_cons ne2 offl)) (tkAt_mk (.head _) (.tail _ (.head _)) rfl hwt)
end
section
variable {w : World} {p : Program} {loose : List Str} {mean : ExcName → Option Value} {mg mb : Str → Option Value} {A A₀ : Around}
    {cn : Str} {nms : List (Str × NameKind)} {mo : List (Str × Const)} {a : Addr} {ccd : Value} {cl : List (Str × Addr)} {outer : List Env} {base h₀ : Heap} {L : Addr} {m : Str → Option Value} {s : Shared} {Q E : Value → Shared → Prop}
    {R : Rd} {rest news : List (Addr × Obj)} {ds : List TokD} {k : Nat} {tk : Tok}

set_option maxHeartbeats 4000000 in
theorem peek1 {i : Int} {ta : Tok} (hA : A.handled = none) (hD : A.depth ≤ 650) (hf : A.frames = some (envX cn { kind := .function, names := nms, isGenerator := false, isCoroutine := false, more := mo } L a ccd cl :: outer)) (hu : A.units ≤ 3500)
    (B : Below A₀ base outer h₀) (F : Fr h₀ L s.heap m) (X : (hd.heap_1 w.params).In h₀) (N : News h₀ L s.heap news) (hdx : (R.dx, R.obj k tk) ∈ news) (T : Top p loose mean mg mb h₀) (I : R.At news ds) (hkl : k ≤ ds.length) (hi : 0 ≤ i) (hi2 : i < 100)
    (ret : ∀ v h' tk', PeekRes news R ds (k + i.toNat) v → Fr h₀ L h' m → News h₀ L h' news → Q (v) { s with heap := h', toks := tk' })
     :
    wpAny (model PySem.Challenge.rw_og0095_01.row.prog w) A (call (.ref 174) [.ref R.r, .int i ta]) Q E s := by
  refine wp_weaken (A := ar 650 3500 cn nms mo L a ccd cl outer) ?_ hA hD (.inr hf.symm) (.inl rfl) hu
  revert X; k_fill; intro X
  have hinst := I.inst; have hlist := I.list; have hsz := I.sz; have hlen := I.len
  by_cases hc : k + i.toNat < ds.length
  · refine wpAny_call ?_
    k_dflt k_enter
    k_steps
    exact ret _ _ _ (.inl ⟨_, _, rfl, ds_at (by assumption) (by omega), vs_at (by assumption) (by omega), by assumption⟩) (by assumption) (by assumption)
  · refine wpAny_call ?_
    k_dflt k_enter
    k_steps
    exact ret _ _ _ (.inr ⟨rfl, by omega⟩) (by assumption) (by assumption)


set_option maxHeartbeats 4000000 in
theorem peek0  (hA : A.handled = none) (hD : A.depth ≤ 650) (hf : A.frames = some (envX cn { kind := .function, names := nms, isGenerator := false, isCoroutine := false, more := mo } L a ccd cl :: outer)) (hu : A.units ≤ 3500)
    (B : Below A₀ base outer h₀) (F : Fr h₀ L s.heap m) (X : (hd.heap_1 w.params).In h₀) (N : News h₀ L s.heap news) (hdx : (R.dx, R.obj k tk) ∈ news) (T : Top p loose mean mg mb h₀) (I : R.At news ds) (hkl : k ≤ ds.length) 
    (ret : ∀ v h' tk', PeekRes news R ds (k) v → Fr h₀ L h' m → News h₀ L h' news → Q (v) { s with heap := h', toks := tk' })
     :
    wpAny (model PySem.Challenge.rw_og0095_01.row.prog w) A (call (.ref 174) [.ref R.r]) Q E s := by
  refine wp_weaken (A := ar 650 3500 cn nms mo L a ccd cl outer) ?_ hA hD (.inr hf.symm) (.inl rfl) hu
  revert X; k_fill; intro X
  have hinst := I.inst; have hlist := I.list; have hsz := I.sz; have hlen := I.len
  by_cases hc : k < ds.length
  · refine wpAny_call ?_
    k_dflt k_enter
    k_steps
    exact ret _ _ _ (.inl ⟨_, _, rfl, ds_at (by assumption) (by omega), vs_at (by assumption) (by omega), by assumption⟩) (by assumption) (by assumption)
  · refine wpAny_call ?_
    k_dflt k_enter
    k_steps
    exact ret _ _ _ (.inr ⟨rfl, by omega⟩) (by assumption) (by assumption)


set_option maxHeartbeats 4000000 in
theorem is_done  (hA : A.handled = none) (hD : A.depth ≤ 650) (hf : A.frames = some (envX cn { kind := .function, names := nms, isGenerator := false, isCoroutine := false, more := mo } L a ccd cl :: outer)) (hu : A.units ≤ 3500)
    (B : Below A₀ base outer h₀) (F : Fr h₀ L s.heap m) (X : (hd.heap_1 w.params).In h₀) (N : News h₀ L s.heap news) (hdx : (R.dx, R.obj k tk) ∈ news) (T : Top p loose mean mg mb h₀) (I : R.At news ds) (hkl : k ≤ ds.length) 
    (ret : ∀ (b : Bool) h' tk', (b = true ↔ ds.length ≤ k) → Fr h₀ L h' m → News h₀ L h' news → Q (.bool b) { s with heap := h', toks := tk' })
     :
    wpAny (model PySem.Challenge.rw_og0095_01.row.prog w) A (call (.ref 181) [.ref R.r]) Q E s := by
  refine wp_weaken (A := ar 650 3500 cn nms mo L a ccd cl outer) ?_ hA hD (.inr hf.symm) (.inl rfl) hu
  revert X; k_fill; intro X
  have hinst := I.inst; have hlist := I.list; have hsz := I.sz; have hlen := I.len
  refine wpAny_call ?_
  k_dflt k_enter
  k_steps
  exact ret _ _ _ (by simp) (by assumption) (by assumption)

end
theorem row4 : True := by
  k_with "call ref" => (k_here; (with_reducible show wpAny _ _ (call (Value.ref 174) _) _ _ _); k_dflt (refine' peek1 (by exact rfl) (by k_units) (by exact rfl) (by k_units) (by assumption) (by assumption) (by assumption) (by k_asm) (by k_mem) (by assumption) (by kds_road) (by omega) (by omega) (by omega) ?_ ; (intro v9q h9q tk9q P9q F9q N9q; rcases P9q with ⟨t9q, d9q, v9eq, e9q, f9q, T9q⟩ | ⟨v9eq, e9q⟩; (all_goals subst v9eq); (all_goals first | (exfalso; have b9q := lt_of_some e9q; omega) | (exfalso; omega) | (have T9q' := T9q; obtain ⟨dt9q, h19q, h29q, h39q, h49q, k19q, k29q, k39q, k49q, j19q, j29q, ta9q, n9q, m19q, m29q, w9q⟩ := T9q'; have b9q := lt_of_some e9q; (try k_sweep)) | (try k_sweep)))))
  k_with "call ref" => (k_here; (with_reducible show wpAny _ _ (call (Value.ref 174) _) _ _ _); k_dflt (refine' peek0 (by exact rfl) (by k_units) (by exact rfl) (by k_units) (by assumption) (by assumption) (by assumption) (by k_asm) (by k_mem) (by assumption) (by kds_road) (by omega)  ?_ ;  (intro v9q h9q tk9q P9q F9q N9q; rcases P9q with ⟨t9q, d9q, v9eq, e9q, f9q, T9q⟩ | ⟨v9eq, e9q⟩; (all_goals subst v9eq); (all_goals first | (exfalso; have b9q := lt_of_some e9q; omega) | (exfalso; omega) | (have T9q' := T9q; obtain ⟨dt9q, h19q, h29q, h39q, h49q, k19q, k29q, k39q, k49q, j19q, j29q, ta9q, n9q, m19q, m29q, w9q⟩ := T9q'; have b9q := lt_of_some e9q; (try k_sweep)) | (try k_sweep)))))
  k_with "call ref" => (k_here; (with_reducible show wpAny _ _ (call (Value.ref 181) _) _ _ _); k_dflt (refine' is_done (by exact rfl) (by k_units) (by exact rfl) (by k_units) (by assumption) (by assumption) (by assumption) (by k_asm) (by k_mem) (by assumption) (by kds_road) (by omega)  ?_ ;  (intro b9q h9q tk9q e9q F9q N9q; (try k_sweep))))
  k_with "call ref" => (k_here; (with_reducible show wpAny _ _ (call (Value.ref 92) [Value.str _ _, Value.ref _]) _ _ _); k_dflt (refine' gf_call (by assumption) (by assumption) (by k_asm) (by exact rfl) (by k_units) (by exact rfl) (by k_units) ?_); intro h9q tk9q e9q t9q d9q od9q F9q X9q I9q; have N9q := X9q.N; have o9q := X9q.off; clear X9q; (try k_sweep))
  trivial
section
variable {w : World} {p : Program} {loose : List Str} {mean : ExcName → Option Value} {mg mb : Str → Option Value} {A A₀ : Around}
    {cn : Str} {nms : List (Str × NameKind)} {mo : List (Str × Const)} {a : Addr} {ccd : Value} {cl : List (Str × Addr)} {outer : List Env} {base h₀ : Heap} {L : Addr} {m : Str → Option Value} {s : Shared} {Q E : Value → Shared → Prop}
    {R : Rd} {rest news : List (Addr × Obj)} {ds : List TokD} {k : Nat} {tk : Tok}

set_option maxHeartbeats 4000000 in
theorem fault {what : Str} {tw : Tok} (hA : A.handled = none) (hD : A.depth ≤ 650) (hf : A.frames = some (envX cn { kind := .function, names := nms, isGenerator := false, isCoroutine := false, more := mo } L a ccd cl :: outer)) (hu : A.units ≤ 3500)
    (B : Below A₀ base outer h₀) (F : Fr h₀ L s.heap m) (X : (hd.heap_1 w.params).In h₀) (N : News h₀ L s.heap news) (hdx : (R.dx, R.obj k tk) ∈ news) (T : Top p loose mean mg mb h₀) (I : R.At news ds) (hkl : k ≤ ds.length) 
    (ret : ∀ e t d od x h' tk', Fr h₀ L h' m → Fresh h₀ L h' 92 e t d x od news → W.InstAt h' e ⟨.ref 92, some d, .fields #[.ref t, .none, .none, .none, .bool false, .none], #[]⟩ 92 (some od) → Q (.ref e) { s with heap := h', toks := tk' })
     :
    wpAny (model PySem.Challenge.rw_og0095_01.row.prog w) A (call (.ref 188) [.ref R.r, .str what tw]) Q E s := by
  refine wp_weaken (A := ar 650 3500 cn nms mo L a ccd cl outer) ?_ hA hD (.inr hf.symm) (.inl rfl) hu
  revert X; k_fill; intro X
  have hinst := I.inst; have hlist := I.list; have hsz := I.sz; have hlen := I.len
  by_cases hc : 0 < ds.length
  · refine wpAny_call ?_
    k_dflt k_enter
    k_steps
    exact ret _ _ _ _ _ _ _ (by assumption) ⟨by assumption, by assumption⟩ (by assumption)
  · refine wpAny_call ?_
    k_dflt k_enter
    k_steps
    exact ret _ _ _ _ _ _ _ (by assumption) (fresh_tail ⟨by assumption, by assumption⟩) (by assumption)

end
theorem row5 : True := by
  k_with "call ref" => (k_here; (with_reducible show wpAny _ _ (call (Value.ref 188) _) _ _ _); k_dflt (refine' fault (by exact rfl) (by k_units) (by exact rfl) (by k_units) (by assumption) (by assumption) (by assumption) (by k_asm) (by k_mem) (by assumption) (by kds_road) (by omega)  ?_ ;  (intro e9q t9q d9q od9q x9q h9q tk9q F9q X9q I9q; have N9q := news_tail (news_tail (news_tail X9q.N)); (try k_sweep))))
  trivial
section
variable {w : World} {p : Program} {loose : List Str} {mean : ExcName → Option Value} {mg mb : Str → Option Value} {A A₀ : Around}
    {cn : Str} {nms : List (Str × NameKind)} {mo : List (Str × Const)} {a : Addr} {ccd : Value} {cl : List (Str × Addr)} {outer : List Env} {base h₀ : Heap} {L : Addr} {m : Str → Option Value} {s : Shared} {Q E : Value → Shared → Prop}
    {R : Rd} {rest news : List (Addr × Obj)} {ds : List TokD} {k : Nat} {tk : Tok}

set_option maxHeartbeats 4000000 in
theorem take  (hA : A.handled = none) (hD : A.depth ≤ 600) (hf : A.frames = some (envX cn { kind := .function, names := nms, isGenerator := false, isCoroutine := false, more := mo } L a ccd cl :: outer)) (hu : A.units ≤ 3000)
    (B : Below A₀ base outer h₀) (F : Fr h₀ L s.heap m) (X : (hd.heap_1 w.params).In h₀) (N : News h₀ L s.heap ((R.dx, R.obj (k) tk) :: rest)) (T : Top p loose mean mg mb h₀) (I : R.In rest ds) (hkl : k ≤ ds.length) 
    (ret : ∀ t d h' tk' tk2, ds[k]? = some d → TkAt rest t d → Fr h₀ L h' m → News h₀ L h' ((R.dx, R.obj (k+1) tk2) :: rest) → Q (.ref t) { s with heap := h', toks := tk' })
    (hE : ∀ e x h' tk' t g, ds.length ≤ k → Fr h₀ L g m → g.UpToSlots h' → RaisedK base (envX cn { kind := .function, names := nms, isGenerator := false, isCoroutine := false, more := mo } L a ccd cl :: outer) e (.ref 92) t [x] rest h' → E (.ref e) { s with heap := h', toks := tk' }) :
    wpAny (model PySem.Challenge.rw_og0095_01.row.prog w) A (call (.ref 195) [.ref R.r]) Q E s := by
  refine wp_weaken (A := ar 600 3000 cn nms mo L a ccd cl outer) ?_ hA hD (.inr hf.symm) (.inl rfl) hu
  revert X; k_fill; intro X
  have hoff := I.off
  have hinst := I.inst; have hlist := I.list; have hsz := I.sz; have hlen := I.len
  by_cases hc : k < ds.length
  · refine wpAny_call ?_
    k_dflt k_enter
    k_steps
    exact ret _ _ _ _ _ (ds_at (by assumption) (by omega)) (I.toks.at (by assumption) (by assumption)) (by assumption) (by assumption)
  · refine wpAny_call ?_
    k_dflt k_enter
    k_steps
    exact hE _ _ _ _ _ _ (by omega) (by assumption) (by assumption) (raised_tail (by assumption))


set_option maxHeartbeats 4000000 in
theorem is_kind1 {x : Str} {tx : Tok} (hA : A.handled = none) (hD : A.depth ≤ 600) (hf : A.frames = some (envX cn { kind := .function, names := nms, isGenerator := false, isCoroutine := false, more := mo } L a ccd cl :: outer)) (hu : A.units ≤ 3000)
    (B : Below A₀ base outer h₀) (F : Fr h₀ L s.heap m) (X : (hd.heap_1 w.params).In h₀) (N : News h₀ L s.heap news) (hdx : (R.dx, R.obj k tk) ∈ news) (T : Top p loose mean mg mb h₀) (I : R.At news ds) (hkl : k ≤ ds.length) 
    (ret : ∀ (b : Bool) h' tk', b = kindIs ds (k) x → Fr h₀ L h' m → News h₀ L h' news → Q (.bool b) { s with heap := h', toks := tk' })
     :
    wpAny (model PySem.Challenge.rw_og0095_01.row.prog w) A (call (.ref 203) [.ref R.r, .str x tx]) Q E s := by
  refine wp_weaken (A := ar 600 3000 cn nms mo L a ccd cl outer) ?_ hA hD (.inr hf.symm) (.inl rfl) hu
  revert X; k_fill; intro X
  have hinst := I.inst; have hlist := I.list; have hsz := I.sz; have hlen := I.len
  refine wpAny_call ?_
  k_dflt k_enter
  k_steps
  all_goals first | exact ret _ _ _ (kindIs_some (by assumption) (by omega) rfl) (by assumption) (by assumption) | exact ret _ _ _ (kindIs_none (by omega)) (by assumption) (by assumption)


set_option maxHeartbeats 4000000 in
theorem is_kind2 {x : Str} {tx : Tok} {i : Int} {ta : Tok} (hA : A.handled = none) (hD : A.depth ≤ 600) (hf : A.frames = some (envX cn { kind := .function, names := nms, isGenerator := false, isCoroutine := false, more := mo } L a ccd cl :: outer)) (hu : A.units ≤ 3000)
    (B : Below A₀ base outer h₀) (F : Fr h₀ L s.heap m) (X : (hd.heap_1 w.params).In h₀) (N : News h₀ L s.heap news) (hdx : (R.dx, R.obj k tk) ∈ news) (T : Top p loose mean mg mb h₀) (I : R.At news ds) (hkl : k ≤ ds.length) (hi : 0 ≤ i) (hi2 : i < 100)
    (ret : ∀ (b : Bool) h' tk', b = kindIs ds (k + i.toNat) x → Fr h₀ L h' m → News h₀ L h' news → Q (.bool b) { s with heap := h', toks := tk' })
     :
    wpAny (model PySem.Challenge.rw_og0095_01.row.prog w) A (call (.ref 203) [.ref R.r, .str x tx, .int i ta]) Q E s := by
  refine wp_weaken (A := ar 600 3000 cn nms mo L a ccd cl outer) ?_ hA hD (.inr hf.symm) (.inl rfl) hu
  revert X; k_fill; intro X
  have hinst := I.inst; have hlist := I.list; have hsz := I.sz; have hlen := I.len
  refine wpAny_call ?_
  k_dflt k_enter
  k_steps
  all_goals first | exact ret _ _ _ (kindIs_some (by assumption) (by omega) rfl) (by assumption) (by assumption) | exact ret _ _ _ (kindIs_none (by omega)) (by assumption) (by assumption)

end
theorem row6 : True := by
  k_with "call ref" => (k_here; (with_reducible show wpAny _ _ (call (Value.ref 195) _) _ _ _); k_dflt (refine' take (by exact rfl) (by k_units) (by exact rfl) (by k_units) (by assumption) (by assumption) (by assumption) (by kbd_text) (by assumption) (by assumption) (by omega)  ?_ ?_;  (all_goals first | (intro e8 x8 h8 tk8 t8 g8 c8 F8 U8 R8; have U9q : Heap.UpToSlots _ _ := U8; clear U9q; first | (exfalso; omega) | (exfalso; exact bool_ab c8 (by assumption)) | (try k_sweep)) | (intro t9q d9q h9q tk9q tk92q e9q T9q F9q N9q; have T9q' := T9q; obtain ⟨dt9q, h19q, h29q, h39q, h49q, k19q, k29q, k39q, k49q, j19q, j29q, ta9q, n9q, m19q, m29q, w9q⟩ := T9q'; have b9q := lt_of_some e9q; (try k_sweep)))))
  k_with "call ref" => (k_here; (with_reducible show wpAny _ _ (call (Value.ref 203) _) _ _ _); k_dflt (refine' is_kind1 (by exact rfl) (by k_units) (by exact rfl) (by k_units) (by assumption) (by assumption) (by assumption) (by k_asm) (by k_mem) (by assumption) (by kds_road) (by omega)  ?_ ;  (intro b9q h9q tk9q e9q F9q N9q; rcases kind_or e9q with ⟨b9eq, k9q, l9q⟩ | ⟨b9eq, k9q⟩; (all_goals subst b9eq); (all_goals (clear e9q; (try k_sweep))))))
  k_with "call ref" => (k_here; (with_reducible show wpAny _ _ (call (Value.ref 203) _) _ _ _); k_dflt (refine' is_kind2 (by exact rfl) (by k_units) (by exact rfl) (by k_units) (by assumption) (by assumption) (by assumption) (by k_asm) (by k_mem) (by assumption) (by kds_road) (by omega) (by omega) (by omega) ?_ ; (intro b9q h9q tk9q e9q F9q N9q; rcases kind_or e9q with ⟨b9eq, k9q, l9q⟩ | ⟨b9eq, k9q⟩; (all_goals subst b9eq); (all_goals (clear e9q; (try k_sweep))))))
  trivial
section
variable {w : World} {p : Program} {loose : List Str} {mean : ExcName → Option Value} {mg mb : Str → Option Value} {A A₀ : Around}
    {cn : Str} {nms : List (Str × NameKind)} {mo : List (Str × Const)} {a : Addr} {ccd : Value} {cl : List (Str × Addr)} {outer : List Env} {base h₀ : Heap} {L : Addr} {m : Str → Option Value} {s : Shared} {Q E : Value → Shared → Prop}
    {R : Rd} {rest news : List (Addr × Obj)} {ds : List TokD} {k : Nat} {tk : Tok}
theorem row7 : True := by
  k_with "binaryOp Add str str" => (k_here; (with_reducible show wpAny _ _ (binaryOp Operator.Add (Value.str _ _) (Value.str _ _)) _ _ _); (refine PyProof.Rows.add_str (fun t9q tk9q => ?_) ?_; rotate_left); (simp only [Str.length_append, sp_len]; rw [sizeLine_eq]; omega))
  k_with "eval Name" => (k_here; (with_reducible show wpAny _ _ (eval (PySem.Expr.Name (Str.ofString "RESERVED") _) _) _ _ _); (with_reducible rename Fr _ _ _ _ => kF); k_dflt (refine' name_K kF (by k_asm) (by k_asm) (by exact res_name _) ?_; k_whole))
  k_with "pyIter ref" => (k_here; (with_reducible show wpAny _ _ (pyIter (Value.ref _)) (fun it s₂ => LoopAtV _ _ _ _ _ _ _ _ _ it s₂) _ _); (rename Fr _ _ _ _ => lF'); (rename News _ _ _ _ => lN'); (with_unfolding_all refine' iter_listUnr (by rfl) lF' lN' (by k_mem) (by rfl) (by rfl) ?_); intro i9q l9q)
  k_with "UnrEnd" => (k_here; (rename Fr _ _ _ _ => lF'); (rename News _ _ _ _ => lN'); (refine UnrEnd.intro lF' lN' _ (fun p hp => hp) (fun p hp => Nat.ne_of_lt (by first | exact (by assumption : ∀ p ∈ _, p.1 < _) p hp)) ⟨by k_mem, ?_⟩))
  k_with "compareOp In str str" => (k_here; (with_reducible show wpAny _ _ (compareOp CmpOp.In (Value.str _ _) (Value.str _ _)) _ _ _); refine PyProof.Rows.in_str ?_)
  trivial
set_option maxHeartbeats 4000000 in
theorem is_sign {x : Str} {tx : Tok} (hA : A.handled = none) (hD : A.depth ≤ 550) (hf : A.frames = some (envX cn { kind := .function, names := nms, isGenerator := false, isCoroutine := false, more := mo } L a ccd cl :: outer)) (hu : A.units ≤ 2500)
    (B : Below A₀ base outer h₀) (F : Fr h₀ L s.heap m) (X : (hd.heap_1 w.params).In h₀) (N : News h₀ L s.heap news) (hdx : (R.dx, R.obj k tk) ∈ news) (T : Top p loose mean mg mb h₀) (I : R.At news ds) (hkl : k ≤ ds.length) 
    (ret : ∀ (b : Bool) h' tk', b = tokIs ds k (Str.ofString "sign") x → Fr h₀ L h' m → News h₀ L h' news → Q (.bool b) { s with heap := h', toks := tk' })
     :
    wpAny (model PySem.Challenge.rw_og0095_01.row.prog w) A (call (.ref 268) [.ref R.r, .str x tx]) Q E s := by
  refine wp_weaken (A := ar 550 2500 cn nms mo L a ccd cl outer) ?_ hA hD (.inr hf.symm) (.inl rfl) hu
  revert X; k_fill; intro X
  have hinst := I.inst; have hlist := I.list; have hsz := I.sz; have hlen := I.len
  refine wpAny_call ?_
  k_dflt k_enter
  k_steps
  all_goals first | exact ret _ _ _ (tokIs_tt (by assumption) (by assumption) (by omega) rfl) (by assumption) (by assumption) | exact ret _ _ _ (tokIs_ff (by assumption)) (by assumption) (by assumption)


set_option maxHeartbeats 4000000 in
theorem is_name  (hA : A.handled = none) (hD : A.depth ≤ 550) (hf : A.frames = some (envX cn { kind := .function, names := nms, isGenerator := false, isCoroutine := false, more := mo } L a ccd cl :: outer)) (hu : A.units ≤ 2500)
    (B : Below A₀ base outer h₀) (F : Fr h₀ L s.heap m) (X : (hd.heap_1 w.params).In h₀) (N : News h₀ L s.heap news) (hdx : (R.dx, R.obj k tk) ∈ news) (T : Top p loose mean mg mb h₀) (I : R.At news ds) (hkl : k ≤ ds.length) 
    (ret : ∀ (b : Bool) h' tk', b = nameIs ds k → Fr h₀ L h' m → News h₀ L h' news → Q (.bool b) { s with heap := h', toks := tk' })
     :
    wpAny (model PySem.Challenge.rw_og0095_01.row.prog w) A (call (.ref 246) [.ref R.r]) Q E s := by
  refine wp_weaken (A := ar 550 2500 cn nms mo L a ccd cl outer) ?_ hA hD (.inr hf.symm) (.inl rfl) hu
  revert X; k_fill; intro X
  have hinst := I.inst; have hlist := I.list; have hsz := I.sz; have hlen := I.len
  refine wpAny_call ?_
  k_dflt k_enter
  k_steps
  all_goals first | exact ret _ _ _ (nameIs_tt (by assumption) (by assumption) (by omega) rfl) (by assumption) (by assumption) | exact ret _ _ _ (nameIs_ff (by assumption)) (by assumption) (by assumption)

end
theorem row8 : True := by
  k_with "call ref" => (k_here; (with_reducible show wpAny _ _ (call (Value.ref 268) _) _ _ _); k_dflt (refine' is_sign (by exact rfl) (by k_units) (by exact rfl) (by k_units) (by assumption) (by assumption) (by assumption) (by k_asm) (by k_mem) (by assumption) (by kds_road) (by omega)  ?_ ;  (intro b9q h9q tk9q e9q F9q N9q; rcases tok_or e9q with ⟨b9eq, k9q, l9q⟩ | ⟨b9eq, k9q⟩; (all_goals subst b9eq); (all_goals (clear e9q; (try k_sweep))))))
  k_with "call ref" => (k_here; (with_reducible show wpAny _ _ (call (Value.ref 246) _) _ _ _); k_dflt (refine' is_name (by exact rfl) (by k_units) (by exact rfl) (by k_units) (by assumption) (by assumption) (by assumption) (by k_asm) (by k_mem) (by assumption) (by kds_road) (by omega)  ?_ ;  (intro b9q h9q tk9q e9q F9q N9q; rcases name_or e9q with ⟨b9eq, k9q, l9q⟩ | ⟨b9eq, k9q⟩; (all_goals subst b9eq); (all_goals (clear e9q; (try k_sweep))))))
  trivial
section
variable {prog : Program} {w : World} {A : Around} {E : Value → Shared → Prop} {s : Shared} {env : Env} {h₀ : Heap} {x : Str} {body : List Stmt} {Q : Flow → Shared → Prop}
/-- a turn over a text's words -/
noncomputable def WTurn (sv : Value) (ds : List TokD) (k i : Nat) (y : Str) (news : List (Addr × Obj)) (m' : Str → Option Value) (n' : List (Addr × Obj)) : Prop :=
  ∃ u' ta', m' = lm [(Str.ofString "self", sv), (Str.ofString "ahead", .int ((i + 1 : Nat) : Int) ta')] u' ∧ n' = news ∧ tokIs ds (k + i) (Str.ofString "word") y = true
theorem words_iter {ax : Addr} {n k : Nat} {l' : List (Str × Tok)} {ws : List Str} {m₀ : Str → Option Value} {news : List (Addr × Obj)} {ds : List TokD} {sv : Value} {ta : Tok} (hl : l'.map (·.1) = ws)
    (hh : A.handled = none) (F : Fr h₀ env.locals s.heap m₀) (N : News h₀ env.locals s.heap news) (hm : (ax, W.listOf (strValues l').toArray n) ∈ news)
    (h0 : AllAt m₀ [(Str.ofString "self", sv), (Str.ofString "ahead", .int ((0 : Nat) : Int) ta)])
    (turn : ∀ i y t ta it I u h tk, i < ws.length → it.cls = .type "list_iterator" → (∀ p ∈ news, p.1 < I) → wordsAt ds k ws = (tokIs ds (k + i) (Str.ofString "word") y && wordsAt ds (k + i + 1) (ws.drop (i + 1))) →
      Fr h₀ env.locals h (fun z => if z = x then some (.str y t) else lm [(Str.ofString "self", sv), (Str.ofString "ahead", .int (i : Int) ta)] u z) → News h₀ env.locals h ((I, it) :: news) →
      wpAny (model prog w) A (execs body env) (UnrPost h₀ env.locals { s with heap := h, toks := tk } I it (WTurn sv ds k i y news) Q) E { s with heap := h, toks := tk })
    (done : ∀ h tk m', wordsAt ds k ws = true → Fr h₀ env.locals h m' → News h₀ env.locals h news → Q .next { s with heap := h, toks := tk }) :
    wpAny (model prog w) A (pyIter (.ref ax)) (fun it s₂ => LoopAtV prog w A h₀ env x body Q E it s₂) E s := by
  refine iter_listUnr (lo := W.listOf (strValues l').toArray n) (vs := strValues l') (n := n) hh F N hm rfl rfl fun I hI => ?_
  have key : ∀ (r : List (Str × Tok)) (i : Nat) (ta : Tok) (u : Str → Option Value), l'.drop i = r → wordsAt ds k ws = wordsAt ds (k + i) (ws.drop i) →
      ListRest prog w A E h₀ env x body Q s I (ax, W.listOf (strValues l').toArray n) (strValues r) (lm [(Str.ofString "self", sv), (Str.ofString "ahead", .int (i : Int) ta)] u) news := by
    intro r
    induction r with
    | nil =>
      intro i ta u hr hW
      refine ListRest.zero fun h tk F N => done h tk _ ?_ F N
      have e : ws.drop i = [] := by rw [← hl, ← List.map_drop, hr]; rfl
      rw [hW, e]; rfl
    | cons p r ih =>
      intro i ta u hr hW
      obtain ⟨y, t⟩ := p
      have hi : i < l'.length := by
        rcases Nat.lt_or_ge i l'.length with z | z
        · exact z
        · rw [List.drop_eq_nil_of_le z] at hr; cases hr
      have hr' : l'.drop (i + 1) = r := by
        rw [List.drop_eq_getElem_cons hi] at hr
        exact (List.cons.inj hr).2
      have e : ws.drop i = y :: ws.drop (i + 1) := by
        rw [← hl, ← List.map_drop, ← List.map_drop, hr, hr']; rfl
      rw [e] at hW
      refine ListRest.succ fun it h tk hc F N => wpAny_mono (turn i y t ta it I u h tk (by rw [← hl, List.length_map]; exact hi) hc hI hW F N) (fun f s₂ q => ?_) fun _ _ e => e
      have fin : UnrEnd h₀ env.locals { s with heap := h, toks := tk } I it (WTurn sv ds k i y news) s₂ → UnrEnd h₀ env.locals { s with heap := h, toks := tk } I it (fun m' n' => (ax, W.listOf (strValues l').toArray n) ∈ n' ∧ ListRest prog w A E h₀ env x body Q s I (ax, W.listOf (strValues l').toArray n) (strValues r) m' n') s₂ := by
        rintro ⟨h', tk', m', n', e', F', N', off, u', ta', rfl, rfl, ht⟩
        refine ⟨h', tk', _, _, e', F', N', off, hm, ih (i + 1) ta' u' hr' ?_⟩
        rw [hW]
        show (tokIs ds (k + i) (Str.ofString "word") y && wordsAt ds (k + i + 1) (ws.drop (i + 1))) = _
        rw [ht, Bool.true_and]; rfl
      cases f with
      | ret v => exact q
      | brk => exact q
      | next => exact fin q
      | cont => exact fin q
  have z := key l' 0 ta m₀ rfl rfl
  rw [lm_eq h0] at z
  exact z
end
theorem wg_k {ds : List TokD} {k i j : Nat} {ws r : List Str} {y : Str} (hW : wordsAt ds k ws = (tokIs ds (k + i) (Str.ofString "word") y && wordsAt ds (k + i + 1) r)) (h : kindIs ds j (Str.ofString "word") = false) (e : j = k + i) : false = wordsAt ds k ws := by
  subst e; rw [hW]; unfold tokIs; rw [h]; rfl
theorem wg_w {ds : List TokD} {k i j : Nat} {ws r : List Str} {y : Str} {d : TokD} (hW : wordsAt ds k ws = (tokIs ds (k + i) (Str.ofString "word") y && wordsAt ds (k + i + 1) r)) (h2 : ds[j]? = some d) (h3 : (d.worth != y) = true) (e : j = k + i) : false = wordsAt ds k ws := by
  subst e; rw [hW]; unfold tokIs worthIs; rw [h2]
  have : (d.worth == y) = false := by simpa [bne] using h3
  dsimp only
  rw [this]; simp
theorem wg_t {ds : List TokD} {k i j j' : Nat} {y : Str} {d : TokD} (h1 : kindIs ds j (Str.ofString "word") = true) (h2 : ds[j']? = some d) (h3 : (d.worth != y) = false) (e : j = k + i) (e' : j' = k + i) : tokIs ds (k + i) (Str.ofString "word") y = true := by
  subst e e'
  have : (d.worth == y) = true := by simpa [bne] using h3
  exact (tokIs_tt h1 h2 rfl this.symm).symm
theorem len_ws {prog : Program} {w : World} {A : Around} {E : Value → Shared → Prop} {s : Shared} {h₀ : Heap} {L l : Addr} {news : List (Addr × Obj)} {l' : List (Str × Tok)} {ws : List Str} {k n : Nat} {Q : Value → Shared → Prop} (N : News h₀ L s.heap news) (m1 : (l, W.listOf (strValues l').toArray n) ∈ news) (hl : l'.map (·.1) = ws) (hn : ws.length = k) (hk : ws.length ≤ 50)
    (h : Q (.int (k : Int) (s.toks + 1)) { s with toks := s.toks + 1 + 1 }) : wpAny (model prog w) A (call (.builtin "len") [.ref l]) Q E s := by
  have e : (strValues l').length = k := by rw [← hn, ← hl]; simp [strValues]
  refine len_l N m1 (by omega) ?_
  rw [e]; exact h
theorem ask_len : (Str.ofString " is asked here").length = 14 := by decide +kernel
theorem WTurn.mk {sv : Value} {ds : List TokD} {k i : Nat} {y : Str} {news : List (Addr × Obj)} {m' : Str → Option Value} {ta' : Tok} (h1 : m' (Str.ofString "self") = some sv) (h2 : m' (Str.ofString "ahead") = some (.int ((i : Int) + 1) ta')) (ht : tokIs ds (k + i) (Str.ofString "word") y = true) : WTurn sv ds k i y news m' news := by
  have e : ((i + 1 : Nat) : Int) = (i : Int) + 1 := by omega
  exact ⟨m', ta', (lm_eq (ps := [(Str.ofString "self", sv), (Str.ofString "ahead", .int ((i + 1 : Nat) : Int) ta')]) ⟨h1, by rw [e]; exact h2, trivial⟩).symm, rfl, ht⟩
theorem ws_ID : Txt.split (Str.ofString "ID DIVISION") (Str.ofString " ") = [(Str.mk #[73, 68]), (Str.mk #[68, 73, 86, 73, 83, 73, 79, 78])] := by decide +kernel
theorem ws_IDN : Txt.split (Str.ofString "IDENTIFICATION DIVISION") (Str.ofString " ") = [(Str.mk #[73, 68, 69, 78, 84, 73, 70, 73, 67, 65, 84, 73, 79, 78]), (Str.mk #[68, 73, 86, 73, 83, 73, 79, 78])] := by decide +kernel
theorem ws_PID : Txt.split (Str.ofString "PROGRAM-ID") (Str.ofString " ") = [(Str.mk #[80, 82, 79, 71, 82, 65, 77, 45, 73, 68])] := by decide +kernel
theorem ws_IS : Txt.split (Str.ofString "IS") (Str.ofString " ") = [(Str.mk #[73, 83])] := by decide +kernel
theorem ws_INI : Txt.split (Str.ofString "INITIAL") (Str.ofString " ") = [(Str.mk #[73, 78, 73, 84, 73, 65, 76])] := by decide +kernel
theorem ws_PRO : Txt.split (Str.ofString "PROGRAM") (Str.ofString " ") = [(Str.mk #[80, 82, 79, 71, 82, 65, 77])] := by decide +kernel
theorem ws_AUT : Txt.split (Str.ofString "AUTHOR") (Str.ofString " ") = [(Str.mk #[65, 85, 84, 72, 79, 82])] := by decide +kernel
theorem ws_INS : Txt.split (Str.ofString "INSTALLATION") (Str.ofString " ") = [(Str.mk #[73, 78, 83, 84, 65, 76, 76, 65, 84, 73, 79, 78])] := by decide +kernel
theorem ws_DWR : Txt.split (Str.ofString "DATE-WRITTEN") (Str.ofString " ") = [(Str.mk #[68, 65, 84, 69, 45, 87, 82, 73, 84, 84, 69, 78])] := by decide +kernel
theorem ws_DCO : Txt.split (Str.ofString "DATE-COMPILED") (Str.ofString " ") = [(Str.mk #[68, 65, 84, 69, 45, 67, 79, 77, 80, 73, 76, 69, 68])] := by decide +kernel
theorem ws_SEC : Txt.split (Str.ofString "SECURITY") (Str.ofString " ") = [(Str.mk #[83, 69, 67, 85, 82, 73, 84, 89])] := by decide +kernel
section
variable {w : World} {p : Program} {loose : List Str} {mean : ExcName → Option Value} {mg mb : Str → Option Value} {A A₀ : Around}
    {cn : Str} {nms : List (Str × NameKind)} {mo : List (Str × Const)} {a : Addr} {ccd : Value} {cl : List (Str × Addr)} {outer : List Env} {base h₀ : Heap} {L : Addr} {m : Str → Option Value} {s : Shared} {Q E : Value → Shared → Prop}
    {R : Rd} {rest news : List (Addr × Obj)} {ds : List TokD} {k : Nat} {tk : Tok}
theorem row9 : True := by
  k_with "call builtin:str.split" => (k_here; (with_reducible show wpAny _ _ (call (Value.builtin "str.split") _) _ _ _); (rename Txt.split _ _ = _ => hw9q); (refine KSpl.split1 (by k_asm) (by k_asm) (by decide) ?_ (by rw [sizeLine_eq]; omega)); (intro D' l' h' k' e' a' F' N' l1); (have hl' := e'.trans hw9q); (try k_lt l1))
  k_with "pyIter ref" => (k_here; (with_reducible show wpAny _ _ (pyIter (Value.ref _)) (fun it s₂ => LoopAtV _ _ _ _ _ _ _ _ _ it s₂) _ _); (rename Fr _ _ _ _ => lF'); (rename News _ _ _ _ => lN'); (rename List.map _ _ = _ => hl9q); k_dflt (refine' words_iter (ds := ds) (k := k) hl9q (by exact rfl) lF' lN' (by exact List.Mem.head _) (by exact ⟨rfl, rfl, trivial⟩) ?wit ?wid); (case' wit => intro i9q y9q t9q ta9q it9q I9q u9q h9q tk9q li9q hc9q hI9q hW9q F9q N9q); (case' wid => intro h9q tk9q m9q hW9q F9q N9q))
  k_with "UnrEnd" => (k_here; (rename Fr _ _ _ _ => lF'); (rename News _ _ _ _ => lN'); (refine UnrEnd.intro lF' lN' _ (fun p hp => hp) (fun p hp => Nat.ne_of_lt ((by assumption : ∀ p ∈ _, p.1 < _) p hp)) (WTurn.mk rfl rfl (wg_t (by assumption) (by assumption) (by assumption) (by omega) (by omega)))))
  trivial
set_option maxHeartbeats 4000000 in
theorem is_word {x : Str} {tx : Tok} {ws : List Str} (hA : A.handled = none) (hD : A.depth ≤ 550) (hf : A.frames = some (envX cn { kind := .function, names := nms, isGenerator := false, isCoroutine := false, more := mo } L a ccd cl :: outer)) (hu : A.units ≤ 2500)
    (B : Below A₀ base outer h₀) (F : Fr h₀ L s.heap m) (X : (hd.heap_1 w.params).In h₀) (N : News h₀ L s.heap news) (hdx : (R.dx, R.obj k tk) ∈ news) (T : Top p loose mean mg mb h₀) (I : R.At news ds) (hkl : k ≤ ds.length) (hw : Txt.split x (Str.ofString " ") = ws) (hwl : ws.length ≤ 50) (hxl : x.length ≤ 1000)
    (ret : ∀ (b : Bool) h' tk', b = wordsAt ds k ws → Fr h₀ L h' m → News h₀ L h' news → Q (.bool b) { s with heap := h', toks := tk' })
     :
    wpAny (model PySem.Challenge.rw_og0095_01.row.prog w) A (call (.ref 210) [.ref R.r, .str x tx]) Q E s := by
  refine wp_weaken (A := ar 550 2500 cn nms mo L a ccd cl outer) ?_ hA hD (.inr hf.symm) (.inl rfl) hu
  revert X; k_fill; intro X
  have hinst := I.inst; have hlist := I.list; have hsz := I.sz; have hlen := I.len
  refine wpAny_call ?_
  k_dflt k_enter
  k_steps
  all_goals first
    | exact ret _ _ _ (wg_k (by assumption) (by assumption) (by omega)) (by assumption) (news_tail (news_tail (by assumption)))
    | exact ret _ _ _ (wg_w (by assumption) (by assumption) (by assumption) (by omega)) (by assumption) (news_tail (news_tail (by assumption)))
    | exact ret _ _ _ (Eq.symm (by assumption)) (by assumption) (news_tail (by assumption))

end
theorem row10 : True := by
  k_with "call ref" => (k_here; (with_reducible show wpAny _ _ (call (Value.ref 210) _) _ _ _); k_dflt (refine' is_word (by exact rfl) (by k_units) (by exact rfl) (by k_units) (by assumption) (by assumption) (by assumption) (by k_asm) (by k_mem) (by assumption) (by kds_road) (by omega) (by first | assumption | (with_reducible first | exact ws_ID | exact ws_IDN | exact ws_PID | exact ws_IS | exact ws_INI | exact ws_PRO | exact ws_AUT | exact ws_INS | exact ws_DWR | exact ws_DCO | exact ws_SEC)) (by first | assumption | k_units) (by first | assumption | decide +kernel) ?_ ; (intro b9q h9q tk9q e9q F9q N9q; rcases words_or e9q (by omega) with ⟨b9eq, k9q, l9q⟩ | ⟨b9eq, k9q⟩; (all_goals subst b9eq); (all_goals (clear e9q; (try k_sweep))))))
  trivial
section
variable {w : World} {p : Program} {loose : List Str} {mean : ExcName → Option Value} {mg mb : Str → Option Value} {A A₀ : Around}
    {cn : Str} {nms : List (Str × NameKind)} {mo : List (Str × Const)} {a : Addr} {ccd : Value} {cl : List (Str × Addr)} {outer : List Env} {base h₀ : Heap} {L : Addr} {m : Str → Option Value} {s : Shared} {Q E : Value → Shared → Prop}
    {R : Rd} {rest news : List (Addr × Obj)} {ds : List TokD} {k : Nat} {tk : Tok}
theorem row11 : True := by
  k_with "call builtin:str.split" => (k_here; (with_reducible show wpAny _ _ (call (Value.builtin "str.split") _) _ _ _); (rename Txt.split _ _ = _ => hw9q); (refine KSpl.split1 (by k_asm) (by k_asm) (by decide) ?_ (by rw [sizeLine_eq]; omega)); (intro D' l' h' k' e' a' F' N' l1); (have hl' := e'.trans hw9q); (try k_lt l1))
  k_with "pyIter ref" => (k_here; (with_reducible show wpAny _ _ (pyIter (Value.ref _)) (fun it s₂ => LoopAtV _ _ _ _ _ _ _ _ _ it s₂) _ _); (rename Fr _ _ _ _ => lF'); (rename News _ _ _ _ => lN'); (rename List.map _ _ = _ => hl9q); k_dflt (refine' words_iter (ds := ds) (k := k) hl9q (by exact rfl) lF' lN' (by exact List.Mem.head _) (by exact ⟨rfl, rfl, trivial⟩) ?wit ?wid); (case' wit => intro i9q y9q t9q ta9q it9q I9q u9q h9q tk9q li9q hc9q hI9q hW9q F9q N9q); (case' wid => intro h9q tk9q m9q hW9q F9q N9q))
  k_with "UnrEnd" => (k_here; (rename Fr _ _ _ _ => lF'); (rename News _ _ _ _ => lN'); (refine UnrEnd.intro lF' lN' _ (fun p hp => hp) (fun p hp => Nat.ne_of_lt ((by assumption : ∀ p ∈ _, p.1 < _) p hp)) (WTurn.mk rfl rfl (wg_t (by assumption) (by assumption) (by assumption) (by omega) (by omega)))))
  k_with "call builtin:len" => (k_here; (with_reducible show wpAny _ _ (call (Value.builtin "len") [Value.ref _]) _ _ _); (rename List.map _ _ = _ => hl9q); k_dflt (refine' len_ws (by k_asm) (by exact List.Mem.head _) hl9q (by assumption) (by assumption) ?_))
  trivial
set_option maxHeartbeats 4000000 in
theorem skip_w {x : Str} {tx : Tok} {ws : List Str} {n : Nat} (hA : A.handled = none) (hD : A.depth ≤ 500) (hf : A.frames = some (envX cn { kind := .function, names := nms, isGenerator := false, isCoroutine := false, more := mo } L a ccd cl :: outer)) (hu : A.units ≤ 2000)
    (B : Below A₀ base outer h₀) (F : Fr h₀ L s.heap m) (X : (hd.heap_1 w.params).In h₀) (N : News h₀ L s.heap ((R.dx, R.obj (k) tk) :: rest)) (T : Top p loose mean mg mb h₀) (I : R.In rest ds) (hkl : k ≤ ds.length) (hw : Txt.split x (Str.ofString " ") = ws) (hwl : ws.length ≤ 50) (hxl : x.length ≤ 1000) (hn : ws.length = n)
    (ret : ∀ (b : Bool) k' h' tk' tk2, ((b = true ∧ wordsAt ds k ws = true ∧ k' = k + n ∧ k' ≤ ds.length) ∨ (b = false ∧ wordsAt ds k ws = false ∧ k' = k)) → Fr h₀ L h' m → News h₀ L h' ((R.dx, R.obj (k') tk2) :: rest) → Q (.bool b) { s with heap := h', toks := tk' })
     :
    wpAny (model PySem.Challenge.rw_og0095_01.row.prog w) A (call (.ref 217) [.ref R.r, .str x tx]) Q E s := by
  refine wp_weaken (A := ar 500 2000 cn nms mo L a ccd cl outer) ?_ hA hD (.inr hf.symm) (.inl rfl) hu
  revert X; k_fill; intro X
  have hoff := I.off
  have hinst := I.inst; have hlist := I.list; have hsz := I.sz; have hlen := I.len
  refine wpAny_call ?_
  k_dflt k_enter
  k_steps
  all_goals first | exact ret _ _ _ _ _ (.inl ⟨rfl, (by assumption), rfl, by omega⟩) (by assumption) (by assumption) | exact ret _ _ _ _ _ (.inr ⟨rfl, (by assumption), rfl⟩) (by assumption) (by assumption) | exact ret _ _ _ _ _ (.inl ⟨rfl, (by assumption), rfl, by omega⟩) (by assumption) (news_tail (by assumption)) | exact ret _ _ _ _ _ (.inr ⟨rfl, (by assumption), rfl⟩) (by assumption) (news_tail (by assumption))


set_option maxHeartbeats 4000000 in
theorem skip_sign {x : Str} {tx : Tok} (hA : A.handled = none) (hD : A.depth ≤ 500) (hf : A.frames = some (envX cn { kind := .function, names := nms, isGenerator := false, isCoroutine := false, more := mo } L a ccd cl :: outer)) (hu : A.units ≤ 2000)
    (B : Below A₀ base outer h₀) (F : Fr h₀ L s.heap m) (X : (hd.heap_1 w.params).In h₀) (N : News h₀ L s.heap ((R.dx, R.obj (k) tk) :: rest)) (T : Top p loose mean mg mb h₀) (I : R.In rest ds) (hkl : k ≤ ds.length) 
    (ret : ∀ (b : Bool) k' h' tk' tk2, ((b = true ∧ tokIs ds k (Str.ofString "sign") x = true ∧ k' = k + 1 ∧ k' ≤ ds.length) ∨ (b = false ∧ tokIs ds k (Str.ofString "sign") x = false ∧ k' = k)) → Fr h₀ L h' m → News h₀ L h' ((R.dx, R.obj (k') tk2) :: rest) → Q (.bool b) { s with heap := h', toks := tk' })
     :
    wpAny (model PySem.Challenge.rw_og0095_01.row.prog w) A (call (.ref 275) [.ref R.r, .str x tx]) Q E s := by
  refine wp_weaken (A := ar 500 2000 cn nms mo L a ccd cl outer) ?_ hA hD (.inr hf.symm) (.inl rfl) hu
  revert X; k_fill; intro X
  have hoff := I.off
  have hinst := I.inst; have hlist := I.list; have hsz := I.sz; have hlen := I.len
  refine wpAny_call ?_
  k_dflt k_enter
  k_steps
  all_goals first | exact ret _ _ _ _ _ (.inl ⟨rfl, (by assumption), rfl, by omega⟩) (by assumption) (by assumption) | exact ret _ _ _ _ _ (.inr ⟨rfl, (by assumption), rfl⟩) (by assumption) (by assumption) | exact ret _ _ _ _ _ (.inl ⟨rfl, (by assumption), rfl, by omega⟩) (by assumption) (news_tail (by assumption)) | exact ret _ _ _ _ _ (.inr ⟨rfl, (by assumption), rfl⟩) (by assumption) (news_tail (by assumption))


set_option maxHeartbeats 4000000 in
theorem literal  (hA : A.handled = none) (hD : A.depth ≤ 500) (hf : A.frames = some (envX cn { kind := .function, names := nms, isGenerator := false, isCoroutine := false, more := mo } L a ccd cl :: outer)) (hu : A.units ≤ 2000)
    (B : Below A₀ base outer h₀) (F : Fr h₀ L s.heap m) (X : (hd.heap_1 w.params).In h₀) (N : News h₀ L s.heap ((R.dx, R.obj (k) tk) :: rest)) (T : Top p loose mean mg mb h₀) (I : R.In rest ds) (hkl : k ≤ ds.length) 
    (ret : ∀ d j h' tk' tk2, ds[k]? = some d → kindIs ds k (Str.ofString "literal") = true → Fr h₀ L h' m → News h₀ L h' ((R.dx, R.obj (k+1) tk2) :: rest) → Q (.str d.worth j) { s with heap := h', toks := tk' })
    (hE : ∀ e x h' tk' t g, kindIs ds k (Str.ofString "literal") = false → Fr h₀ L g m → g.UpToSlots h' → RaisedK base (envX cn { kind := .function, names := nms, isGenerator := false, isCoroutine := false, more := mo } L a ccd cl :: outer) e (.ref 92) t [x] rest h' → E (.ref e) { s with heap := h', toks := tk' }) :
    wpAny (model PySem.Challenge.rw_og0095_01.row.prog w) A (call (.ref 310) [.ref R.r]) Q E s := by
  refine wp_weaken (A := ar 500 2000 cn nms mo L a ccd cl outer) ?_ hA hD (.inr hf.symm) (.inl rfl) hu
  revert X; k_fill; intro X
  have hoff := I.off
  have hinst := I.inst; have hlist := I.list; have hsz := I.sz; have hlen := I.len
  refine wpAny_call ?_
  k_dflt k_enter
  k_steps
  all_goals first | exact ret _ _ _ _ _ (by assumption) (by assumption) (by assumption) (by assumption) | exact hE _ _ _ _ _ _ (by assumption) (by assumption) (by assumption) (raised_tail (by assumption)) | exact hE _ _ _ _ _ _ (by assumption) (by assumption) (by assumption) (by assumption)


set_option maxHeartbeats 4000000 in
theorem name  (hA : A.handled = none) (hD : A.depth ≤ 500) (hf : A.frames = some (envX cn { kind := .function, names := nms, isGenerator := false, isCoroutine := false, more := mo } L a ccd cl :: outer)) (hu : A.units ≤ 2000)
    (B : Below A₀ base outer h₀) (F : Fr h₀ L s.heap m) (X : (hd.heap_1 w.params).In h₀) (N : News h₀ L s.heap ((R.dx, R.obj (k) tk) :: rest)) (T : Top p loose mean mg mb h₀) (I : R.In rest ds) (hkl : k ≤ ds.length) 
    (ret : ∀ d j h' tk' tk2, ds[k]? = some d → nameIs ds k = true → Fr h₀ L h' m → News h₀ L h' ((R.dx, R.obj (k+1) tk2) :: rest) → Q (.str d.worth j) { s with heap := h', toks := tk' })
    (hE : ∀ e x h' tk' t g, nameIs ds k = false → Fr h₀ L g m → g.UpToSlots h' → RaisedK base (envX cn { kind := .function, names := nms, isGenerator := false, isCoroutine := false, more := mo } L a ccd cl :: outer) e (.ref 92) t [x] rest h' → E (.ref e) { s with heap := h', toks := tk' }) :
    wpAny (model PySem.Challenge.rw_og0095_01.row.prog w) A (call (.ref 253) [.ref R.r]) Q E s := by
  refine wp_weaken (A := ar 500 2000 cn nms mo L a ccd cl outer) ?_ hA hD (.inr hf.symm) (.inl rfl) hu
  revert X; k_fill; intro X
  have hoff := I.off
  have hinst := I.inst; have hlist := I.list; have hsz := I.sz; have hlen := I.len
  refine wpAny_call ?_
  k_dflt k_enter
  k_steps
  all_goals first | exact ret _ _ _ _ _ (by assumption) (by assumption) (by assumption) (by assumption) | exact hE _ _ _ _ _ _ (by assumption) (by assumption) (by assumption) (raised_tail (by assumption)) | exact hE _ _ _ _ _ _ (by assumption) (by assumption) (by assumption) (by assumption)

end
theorem row12 : True := by
  k_with "call ref" => (k_here; (with_reducible show wpAny _ _ (call (Value.ref 217) _) _ _ _); k_dflt (refine' skip_w (by exact rfl) (by k_units) (by exact rfl) (by k_units) (by assumption) (by assumption) (by assumption) (by kbd_text) (by assumption) (by assumption) (by omega) (by first | assumption | (with_reducible first | exact ws_ID | exact ws_IDN | exact ws_PID | exact ws_IS | exact ws_INI | exact ws_PRO | exact ws_AUT | exact ws_INS | exact ws_DWR | exact ws_DCO | exact ws_SEC)) (by first | assumption | k_units) (by first | assumption | decide +kernel) (by first | assumption | exact (rfl : _ = 1) | exact (rfl : _ = 2)) ?_ ; (intro b9q k9q h9q tk9q tk92q e9q F9q N9q; rcases e9q with ⟨b9eq, q9q, k9eq, l9q⟩ | ⟨b9eq, q9q, k9eq⟩; (all_goals subst b9eq); (all_goals subst k9eq); (all_goals (try k_sweep)))))
  k_with "call ref" => (k_here; (with_reducible show wpAny _ _ (call (Value.ref 275) _) _ _ _); k_dflt (refine' skip_sign (by exact rfl) (by k_units) (by exact rfl) (by k_units) (by assumption) (by assumption) (by assumption) (by kbd_text) (by assumption) (by assumption) (by omega)  ?_ ;  (intro b9q k9q h9q tk9q tk92q e9q F9q N9q; rcases e9q with ⟨b9eq, q9q, k9eq, l9q⟩ | ⟨b9eq, q9q, k9eq⟩; (all_goals subst b9eq); (all_goals subst k9eq); (all_goals (try k_sweep)))))
  k_with "call ref" => (k_here; (with_reducible show wpAny _ _ (call (Value.ref 310) _) _ _ _); k_dflt (refine' literal (by exact rfl) (by k_units) (by exact rfl) (by k_units) (by assumption) (by assumption) (by assumption) (by kbd_text) (by assumption) (by assumption) (by omega)  ?_ ?_;  (all_goals first | (intro e8 x8 h8 tk8 t8 g8 c8 F8 U8 R8; have U9q : Heap.UpToSlots _ _ := U8; clear U9q; first | (exfalso; omega) | (exfalso; exact bool_ab c8 (by assumption)) | (try k_sweep)) | (intro d9q j9q h9q tk9q tk92q e9q q9q F9q N9q; have b9q := lt_of_some e9q; (try k_sweep)))))
  k_with "call ref" => (k_here; (with_reducible show wpAny _ _ (call (Value.ref 253) _) _ _ _); k_dflt (refine' name (by exact rfl) (by k_units) (by exact rfl) (by k_units) (by assumption) (by assumption) (by assumption) (by kbd_text) (by assumption) (by assumption) (by omega)  ?_ ?_;  (all_goals first | (intro e8 x8 h8 tk8 t8 g8 c8 F8 U8 R8; have U9q : Heap.UpToSlots _ _ := U8; clear U9q; first | (exfalso; omega) | (exfalso; exact bool_ab c8 (by assumption)) | (try k_sweep)) | (intro d9q j9q h9q tk9q tk92q e9q q9q F9q N9q; have b9q := lt_of_some e9q; (try k_sweep)))))
  trivial
section
variable {w : World} {p : Program} {loose : List Str} {mean : ExcName → Option Value} {mg mb : Str → Option Value} {A A₀ : Around}
    {cn : Str} {nms : List (Str × NameKind)} {mo : List (Str × Const)} {a : Addr} {ccd : Value} {cl : List (Str × Addr)} {outer : List Env} {base h₀ : Heap} {L : Addr} {m : Str → Option Value} {s : Shared} {Q E : Value → Shared → Prop}
    {R : Rd} {rest news : List (Addr × Obj)} {ds : List TokD} {k : Nat} {tk : Tok}
theorem row13 : True := by
  k_with "binaryOp Add str str" => (k_here; (with_reducible show wpAny _ _ (binaryOp Operator.Add (Value.str _ _) (Value.str _ _)) _ _ _); (refine PyProof.Rows.add_str (fun t9q tk9q => ?_) ?_; rotate_left); (simp only [Str.length_append, ask_len]; rw [sizeLine_eq]; omega))
  trivial
set_option maxHeartbeats 4000000 in
theorem need_w {x : Str} {tx : Tok} {ws : List Str} {n : Nat} (hA : A.handled = none) (hD : A.depth ≤ 450) (hf : A.frames = some (envX cn { kind := .function, names := nms, isGenerator := false, isCoroutine := false, more := mo } L a ccd cl :: outer)) (hu : A.units ≤ 1500)
    (B : Below A₀ base outer h₀) (F : Fr h₀ L s.heap m) (X : (hd.heap_1 w.params).In h₀) (N : News h₀ L s.heap ((R.dx, R.obj (k) tk) :: rest)) (T : Top p loose mean mg mb h₀) (I : R.In rest ds) (hkl : k ≤ ds.length) (hw : Txt.split x (Str.ofString " ") = ws) (hwl : ws.length ≤ 50) (hxl : x.length ≤ 1000) (hn : ws.length = n)
    (ret : ∀ h' tk' tk2, wordsAt ds k ws = true → k + n ≤ ds.length → Fr h₀ L h' m → News h₀ L h' ((R.dx, R.obj (k + n) tk2) :: rest) → Q (.none) { s with heap := h', toks := tk' })
    (hE : ∀ e x h' tk' t g, wordsAt ds k ws = false → Fr h₀ L g m → g.UpToSlots h' → RaisedK base (envX cn { kind := .function, names := nms, isGenerator := false, isCoroutine := false, more := mo } L a ccd cl :: outer) e (.ref 92) t [x] rest h' → E (.ref e) { s with heap := h', toks := tk' }) :
    wpAny (model PySem.Challenge.rw_og0095_01.row.prog w) A (call (.ref 224) [.ref R.r, .str x tx]) Q E s := by
  refine wp_weaken (A := ar 450 1500 cn nms mo L a ccd cl outer) ?_ hA hD (.inr hf.symm) (.inl rfl) hu
  revert X; k_fill; intro X
  have hoff := I.off
  have hinst := I.inst; have hlist := I.list; have hsz := I.sz; have hlen := I.len
  refine wpAny_call ?_
  k_dflt k_enter
  k_steps
  all_goals first | exact ret _ _ _ (by assumption) (by omega) (by assumption) (by assumption) | exact hE _ _ _ _ _ _ (by assumption) (by assumption) (by assumption) (raised_tail (by assumption)) | exact hE _ _ _ _ _ _ (by assumption) (by assumption) (by assumption) (by assumption)


set_option maxHeartbeats 4000000 in
theorem need_sign {tx : Tok} (hA : A.handled = none) (hD : A.depth ≤ 450) (hf : A.frames = some (envX cn { kind := .function, names := nms, isGenerator := false, isCoroutine := false, more := mo } L a ccd cl :: outer)) (hu : A.units ≤ 1500)
    (B : Below A₀ base outer h₀) (F : Fr h₀ L s.heap m) (X : (hd.heap_1 w.params).In h₀) (N : News h₀ L s.heap ((R.dx, R.obj (k) tk) :: rest)) (T : Top p loose mean mg mb h₀) (I : R.In rest ds) (hkl : k ≤ ds.length) 
    (ret : ∀ h' tk' tk2, tokIs ds k (Str.ofString "sign") (Str.ofString ".") = true → k + 1 ≤ ds.length → Fr h₀ L h' m → News h₀ L h' ((R.dx, R.obj (k + 1) tk2) :: rest) → Q (.none) { s with heap := h', toks := tk' })
    (hE : ∀ e x h' tk' t g, tokIs ds k (Str.ofString "sign") (Str.ofString ".") = false → Fr h₀ L g m → g.UpToSlots h' → RaisedK base (envX cn { kind := .function, names := nms, isGenerator := false, isCoroutine := false, more := mo } L a ccd cl :: outer) e (.ref 92) t [x] rest h' → E (.ref e) { s with heap := h', toks := tk' }) :
    wpAny (model PySem.Challenge.rw_og0095_01.row.prog w) A (call (.ref 282) [.ref R.r, .str (Str.ofString ".") tx]) Q E s := by
  refine wp_weaken (A := ar 450 1500 cn nms mo L a ccd cl outer) ?_ hA hD (.inr hf.symm) (.inl rfl) hu
  revert X; k_fill; intro X
  have hoff := I.off
  have hinst := I.inst; have hlist := I.list; have hsz := I.sz; have hlen := I.len
  refine wpAny_call ?_
  k_dflt k_enter
  k_steps
  all_goals first | exact ret _ _ _ (by assumption) (by omega) (by assumption) (by assumption) | exact hE _ _ _ _ _ _ (by assumption) (by assumption) (by assumption) (raised_tail (by assumption)) | exact hE _ _ _ _ _ _ (by assumption) (by assumption) (by assumption) (by assumption)

end
theorem row14 : True := by
  k_with "call ref" => (k_here; (with_reducible show wpAny _ _ (call (Value.ref 224) _) _ _ _); k_dflt (refine' need_w (by exact rfl) (by k_units) (by exact rfl) (by k_units) (by assumption) (by assumption) (by assumption) (by kbd_text) (by assumption) (by assumption) (by omega) (by first | assumption | (with_reducible first | exact ws_ID | exact ws_IDN | exact ws_PID | exact ws_IS | exact ws_INI | exact ws_PRO | exact ws_AUT | exact ws_INS | exact ws_DWR | exact ws_DCO | exact ws_SEC)) (by first | assumption | k_units) (by first | assumption | decide +kernel) (by first | assumption | exact (rfl : _ = 1) | exact (rfl : _ = 2)) ?_ ?_; (all_goals first | (intro e8 x8 h8 tk8 t8 g8 c8 F8 U8 R8; have U9q : Heap.UpToSlots _ _ := U8; clear U9q; first | (exfalso; omega) | (exfalso; exact bool_ab c8 (by assumption)) | (try k_sweep)) | (intro h9q tk9q tk92q q9q l9q F9q N9q; (try k_sweep)))))
  k_with "call ref" => (k_here; (with_reducible show wpAny _ _ (call (Value.ref 282) _) _ _ _); k_dflt (refine' need_sign (by exact rfl) (by k_units) (by exact rfl) (by k_units) (by assumption) (by assumption) (by assumption) (by kbd_text) (by assumption) (by assumption) (by omega)  ?_ ?_;  (all_goals first | (intro e8 x8 h8 tk8 t8 g8 c8 F8 U8 R8; have U9q : Heap.UpToSlots _ _ := U8; clear U9q; first | (exfalso; omega) | (exfalso; exact bool_ab c8 (by assumption)) | (try k_sweep)) | (intro h9q tk9q tk92q q9q l9q F9q N9q; (try k_sweep)))))
  trivial
/-- what the source of a comprehension over a written tuple of the base must hand on -/
noncomputable def TupSrc (prog : Program) (w : World) (A : Around) (h₀ : Heap) (L : Addr) (m : Str → Option Value) (env : Env) (ct elt : PySem.Expr) (x : Str) (scope : Scope) (cl : List (Str × Addr)) (Fin : Shared → List Value → List (Addr × Obj) → Prop) (xv : Value) (s₁ : Shared) : Prop :=
  ∃ ax its news, xv = .ref ax ∧ A.handled = none ∧ Fr h₀ L s₁.heap m ∧ News h₀ L s₁.heap news ∧ h₀.IsTuple ax its ∧ its.size ≤ sizeLine ∧
    ∀ s₂ : Shared, (∃ h, s₂ = { s₁ with heap := h }) → LCt.CompRestT prog w A h₀ L m env ct elt x scope cl s₂ (fun _ => True) (fun i v => its[i]? = some v) (Fin s₂) its.size 0 [] news
section
variable {prog : Program} {w : World} {A : Around} {E : Value → Shared → Prop} {s : Shared} {h₀ : Heap} {L : Addr} {m : Str → Option Value} {env : Env}
theorem isTuple_keeps {h h' : Heap} {a : Addr} {its : Array Value} (x : h.IsTuple a its) (k : ∀ b o, h.get? b = some o → h'.get? b = some o) : h'.IsTuple a its := let ⟨o, e, r⟩ := x; ⟨o, k _ _ e, r⟩
theorem LC_tup {ct elt iter : PySem.Expr} {x : Str} {px : Pos} {scope : Scope} {cl : List (Str × Addr)} {pos : Pos} {Q : Value → Shared → Prop} (_F₀ : Fr h₀ L s.heap m)
    (hclos : closureFor scope env = pure cl) (hcell : ∀ y ∈ scope.names, y.2 ≠ .cell) (hkind : scope.kind = .function)
    (hnames : ∀ y ∈ scope.names, y.2 = .local → scope.names.lookup y.1 = some .local) (hx : scope.names.lookup x = some .local)
    (h : wpAny (model prog w) A (eval iter env) (TupSrc prog w A h₀ L m env ct elt x scope cl (fun s₂ => LCg.FinE h₀ L m s₂ Q)) E s)
    (hs : ∀ x, foldedSetIterable iter env x = pure x := by intro _; rfl) :
    wpAny (model prog w) A (eval (.ListComp elt [⟨.Name x px, iter, [ct], 0⟩] scope pos) env) Q E s := by
  rw [eval_ListComp]
  refine wpAny_comprehension_free (use := none) rfl hs hclos hkind hnames (wpAny_mono h (fun xv s₁ h₁ => ?_) fun _ _ e => e)
  obtain ⟨ax, its, news, rfl, hh, F, N, T, hsz, R⟩ := h₁
  have hl : s₁.heap.IsTuple ax its := isTuple_keeps T F.keep
  have hlt : ax < s₁.heap.objs.size := by obtain ⟨_, e, _⟩ := hl; exact Heap.lt_size e
  refine wpAny_pyIter_tuple hl ?_
  have up : ∀ b o, s₁.heap.get? b = some o → (s₁.heap.push { cls := .type "tuple_iterator", data := .fields #[.ref ax, .int 0 0] }).get? b = some o := fun b o e => Heap.get?_push_of_some _ e
  refine LCt.block_T (Walks.tuple hh s₁.heap.objs.size ax (Nat.ne_of_lt hlt) its) hsz (fun i h st => by obtain ⟨o, e, _⟩ := st.1; exact ⟨o, e⟩) ?_ hcell hkind hx ⟨⟨_, Heap.get?_push_size _ rfl, rfl, rfl⟩, hl.push _⟩ (fun b hb => ?_)
    (F.keeps up) (N.grown up) (Nat.ne_of_lt F.ns.lt) (next_is_new F) (fun p hp => Nat.ne_of_lt (Heap.lt_size (N p hp).1)) trivial (R _ ⟨_, rfl⟩) ?_
  · intro i h h' o nw st e e' k _ _
    obtain ⟨⟨o', q, r⟩, _⟩ := st
    rw [e] at q; cases q
    exact ⟨⟨o, e', r⟩, isTuple_keeps T k⟩
  · show b < (s₁.heap.push _).objs.size
    rw [Heap.size_push]
    rcases List.mem_cons.mp hb with rfl | hb
    · exact Nat.lt_succ_self _
    · rw [List.mem_singleton.mp hb]; exact Nat.lt_succ_of_lt hlt
  · intro D C h tk m' ys news' F' N' o1 hn hC₀ hD₀ hCL hDL hCD offC fin
    refine ⟨m', hn, fun h'' hs'' => fin D h'' tk (F'.change hs'' hCL hC₀) (fun p hp => ?_) o1⟩
    refine ⟨hs''.extBut _ _ ?_ (N' p hp).1, (N' p hp).2⟩
    rcases List.mem_cons.mp hp with rfl | hp
    · exact Ne.symm hCD
    · exact offC p hp
theorem TupSrc.intro {ct elt : PySem.Expr} {x : Str} {scope : Scope} {cl : List (Str × Addr)} {Fin : Shared → List Value → List (Addr × Obj) → Prop} {K : Frag} {ax : Addr} {vs : List Value} {o : Obj} {n : Nat} {news : List (Addr × Obj)} {s₁ : Shared}
    (hh : A.handled = none) (F : Fr h₀ L s₁.heap m) (N : News h₀ L s₁.heap news) (X : K.In h₀) (hl : K.lookup ax = some o) (hc : o.cls = .type "tuple") (hd : o.data = .seq vs.toArray n) (hsz : vs.length ≤ 1000)
    (h : ∀ g, LCt.CompRestT prog w A h₀ L m env ct elt x scope cl { s₁ with heap := g } (fun _ => True) (fun i v => vs.toArray[i]? = some v) (Fin { s₁ with heap := g }) vs.toArray.size 0 [] news) :
    TupSrc prog w A h₀ L m env ct elt x scope cl Fin (.ref ax) s₁ :=
  ⟨ax, _, news, rfl, hh, F, N, ⟨o, X _ _ hl, hc, n, hd⟩, by rw [List.size_toArray, sizeLine_eq]; omega, fun _ ⟨g, e⟩ => e ▸ h g⟩
end
noncomputable def REMS : List Str := [(Str.mk #[65, 85, 84, 72, 79, 82]), (Str.mk #[73, 78, 83, 84, 65, 76, 76, 65, 84, 73, 79, 78]), (Str.mk #[68, 65, 84, 69, 45, 87, 82, 73, 84, 84, 69, 78]), (Str.mk #[68, 65, 84, 69, 45, 67, 79, 77, 80, 73, 76, 69, 68]), (Str.mk #[83, 69, 67, 85, 82, 73, 84, 89])]
/-- one of the remark words stands here -/
noncomputable def remB (ds : List TokD) (k : Nat) : Bool := REMS.any fun x => tokIs ds k (Str.ofString "word") x
theorem words_ex {ds : List TokD} {k : Nat} {x y : Str} (h : wordsAt ds k [x] = true) (hne : (x == y) = false) : wordsAt ds k [y] = false := by
  simp only [wordsAt, tokIs, worthIs, Bool.and_true] at h ⊢
  cases q : ds[k]? with
  | none => rw [q] at h; simp at h
  | some d =>
    rw [q] at h
    have h2 := (Bool.and_eq_true_iff.mp h).2
    have e : d.worth = x := by simpa using h2
    dsimp only
    rw [e, hne, Bool.and_false]
theorem rem_tt {ds : List TokD} {k : Nat} {x : Str} {b : Bool} (hb : b = true) (h : wordsAt ds k [x] = true) (hx : REMS.contains x = true) : b = remB ds k := by
  subst hb
  refine (List.any_eq_true.mpr ⟨x, by simpa using hx, ?_⟩).symm
  simpa [wordsAt] using h
theorem rem_ff {ds : List TokD} {k : Nat} {b : Bool} (hb : b = false) (h : ∀ x ∈ REMS, wordsAt ds k [x] = false) : b = remB ds k := by
  subst hb
  refine (List.any_eq_false.mpr fun x hx => ?_).symm
  have := h x hx
  simp only [wordsAt, Bool.and_true] at this
  simp [this]
theorem rem_ff5 {ds : List TokD} {k : Nat} (h0 : wordsAt ds k [(Str.mk #[65, 85, 84, 72, 79, 82])] = false) (h1 : wordsAt ds k [(Str.mk #[73, 78, 83, 84, 65, 76, 76, 65, 84, 73, 79, 78])] = false) (h2 : wordsAt ds k [(Str.mk #[68, 65, 84, 69, 45, 87, 82, 73, 84, 84, 69, 78])] = false) (h3 : wordsAt ds k [(Str.mk #[68, 65, 84, 69, 45, 67, 79, 77, 80, 73, 76, 69, 68])] = false) (h4 : wordsAt ds k [(Str.mk #[83, 69, 67, 85, 82, 73, 84, 89])] = false) : false = remB ds k := by
  refine rem_ff rfl fun x hx => ?_
  simp only [REMS, List.mem_cons, List.not_mem_nil, or_false] at hx
  rcases hx with rfl | rfl | rfl | rfl | rfl <;> assumption
theorem rem_or {ds : List TokD} {k : Nat} {b : Bool} (h : b = remB ds k) : (b = true ∧ remB ds k = true ∧ k < ds.length) ∨ (b = false ∧ remB ds k = false) := by
  cases b with
  | false => exact .inr ⟨rfl, h.symm⟩
  | true =>
    refine .inl ⟨rfl, h.symm, ?_⟩
    obtain ⟨x, _, hx⟩ := List.any_eq_true.mp h.symm
    rcases tok_or (rfl : tokIs ds k (Str.ofString "word") x = _) with z | z
    · exact z.2.2
    · rw [hx] at z; cases z.1
section
variable {w : World} {p : Program} {loose : List Str} {mean : ExcName → Option Value} {mg mb : Str → Option Value} {A A₀ : Around}
    {cn : Str} {nms : List (Str × NameKind)} {mo : List (Str × Const)} {a : Addr} {ccd : Value} {cl : List (Str × Addr)} {outer : List Env} {base h₀ : Heap} {L : Addr} {m : Str → Option Value} {s : Shared} {Q E : Value → Shared → Prop}
    {R : Rd} {rest news : List (Addr × Obj)} {ds : List TokD} {k : Nat} {tk : Tok}
theorem row15 : True := by
  k_with "eval ListComp" => (k_here; lct_look; k_dflt (refine LC_tup (by k_asm) (by with_unfolding_all rfl) (by decide) (by rfl) (by decide) (by rfl) ?_))
  k_with "TupSrc" => (k_here; k_dflt (refine TupSrc.intro (by rfl) (by k_asm) (by k_asm) (by assumption) (by k_is) (by rfl) (by rfl) (by k_units) ?_; intro g'))
  k_with "CompRestT" => (with_unfolding_all first | (refine LCt.CompRestT.succ ?_; intro v' I' oI' C' oC' D' m' h' tk' E' hv' hC' hx' F' N' off' ne'; (lcg_open hv')) | refine LCt.CompRestT.zero ?_)
  k_with "CompEnd" => (refine LCg.CompEnd.intro (by assumption) (by assumption) _ (fun _ h => h) (by assumption) trivial ?_)
  k_with "FinE" => ((unfold LCg.FinE); intro D' h' tk' F' N' o1'; (try simp only [List.nil_append, List.cons_append] at N'); (try dsimp only))
  k_with "call ref" => (k_here; (with_reducible show wpAny _ _ (call (Value.ref 210) _) _ _ _); k_dflt (refine' is_word (by exact rfl) (by k_units) (by exact rfl) (by k_units) (by assumption) (by assumption) (by assumption) (by k_asm) (by k_mem) (by assumption) (by kds_road) (by omega) (by first | assumption | (with_reducible first | exact ws_ID | exact ws_IDN | exact ws_PID | exact ws_IS | exact ws_INI | exact ws_PRO | exact ws_AUT | exact ws_INS | exact ws_DWR | exact ws_DCO | exact ws_SEC)) (by first | assumption | k_units) (by first | assumption | decide +kernel) ?_ ; (intro b9q h9q tk9q e9q F9q N9q; first | (have e0 := e9q.trans (words_ex (ds := ds) (k := k) (by assumption) (by decide +kernel)); clear e9q; subst e0; (try k_sweep)) | (rcases words_or e9q (by omega) with ⟨b9eq, k9q, l9q⟩ | ⟨b9eq, k9q⟩; (all_goals subst b9eq); (all_goals (clear e9q; (try k_sweep)))))))
  trivial
set_option maxHeartbeats 4000000 in
theorem is_remark  (hA : A.handled = none) (hD : A.depth ≤ 500) (hf : A.frames = some (envX cn { kind := .function, names := nms, isGenerator := false, isCoroutine := false, more := mo } L a ccd cl :: outer)) (hu : A.units ≤ 2000)
    (B : Below A₀ base outer h₀) (F : Fr h₀ L s.heap m) (X : (hd.heap_1 w.params).In h₀) (N : News h₀ L s.heap news) (hdx : (R.dx, R.obj k tk) ∈ news) (T : Top p loose mean mg mb h₀) (I : R.At news ds) (hkl : k ≤ ds.length) 
    (ret : ∀ (b : Bool) h' tk', b = remB ds k → Fr h₀ L h' m → News h₀ L h' news → Q (.bool b) { s with heap := h', toks := tk' })
     :
    wpAny (model PySem.Challenge.rw_og0095_01.row.prog w) A (call (.ref 34) [.ref R.r]) Q E s := by
  refine wp_weaken (A := ar 500 2000 cn nms mo L a ccd cl outer) ?_ hA hD (.inr hf.symm) (.inl rfl) hu
  revert X; k_fill; intro X
  have hinst := I.inst; have hlist := I.list; have hsz := I.sz; have hlen := I.len
  refine wpAny_call ?_
  k_dflt k_enter
  k_steps
  all_goals first | exact ret _ _ _ (rem_tt rfl (by assumption) (by decide +kernel)) (by assumption) (by first | assumption | exact news_tail (by assumption) | exact news_tail (news_tail (by assumption)) | exact news_tail (news_tail (news_tail (by assumption)))) | exact ret _ _ _ (rem_ff5 (by assumption) (by assumption) (by assumption) (by assumption) (by assumption)) (by assumption) (by first | assumption | exact news_tail (by assumption) | exact news_tail (news_tail (by assumption)) | exact news_tail (news_tail (news_tail (by assumption))))

end
theorem row16 : True := by
  k_with "call ref" => (k_here; (with_reducible show wpAny _ _ (call (Value.ref 34) _) _ _ _); k_dflt (refine' is_remark (by exact rfl) (by k_units) (by exact rfl) (by k_units) (by assumption) (by assumption) (by assumption) (by k_asm) (by k_mem) (by assumption) (by kds_road) (by omega)  ?_ ;  (intro b9q h9q tk9q e9q F9q N9q; rcases rem_or e9q with ⟨b9eq, k9q, l9q⟩ | ⟨b9eq, k9q⟩; (all_goals subst b9eq); (all_goals (clear e9q; (try k_sweep))))))
  trivial
/-- the first place from j on where a word stands in area A, or the end -/
noncomputable def stops (d : TokD) : Bool := d.inA && d.kind == Str.ofString "word"
noncomputable def past (ds : List TokD) (j : Nat) : Nat := j + ((ds.drop j).takeWhile fun d => !stops d).length
theorem past_end {ds : List TokD} {j : Nat} (h : ds.length ≤ j) : past ds j = j := by
  unfold past
  rw [List.drop_eq_nil_of_le h]; rfl
theorem past_stop {ds : List TokD} {j : Nat} {d : TokD} (h : ds[j]? = some d) (hs : stops d = true) : past ds j = j := by
  unfold past
  have hl := lt_of_some h
  rw [List.drop_eq_getElem_cons hl]
  have e : ds[j] = d := by rw [List.getElem?_eq_getElem hl] at h; exact Option.some.inj h
  rw [e, List.takeWhile_cons_of_neg (by simp [hs])]
  rfl
theorem past_go {ds : List TokD} {j : Nat} {d : TokD} (h : ds[j]? = some d) (hs : stops d = false) : past ds j = past ds (j + 1) := by
  unfold past
  have hl := lt_of_some h
  rw [List.drop_eq_getElem_cons hl]
  have e : ds[j] = d := by rw [List.getElem?_eq_getElem hl] at h; exact Option.some.inj h
  rw [e, List.takeWhile_cons_of_pos (by simp [hs]), List.length_cons]
  omega
theorem past_le {ds : List TokD} {j : Nat} (h : j ≤ ds.length) : past ds j ≤ ds.length := by
  unfold past
  have := (List.takeWhile_sublist (fun d => !stops d) (l := ds.drop j)).length_le
  rw [List.length_drop] at this
  omega
theorem past_ge {ds : List TokD} {j : Nat} : j ≤ past ds j := Nat.le_add_right _ _
noncomputable def RdStep (h₀ : Heap) (L : Addr) (m : Str → Option Value) (s : Shared) (R : Rd) (rest : List (Addr × Obj)) (P : Nat → Prop) (j : Nat) (f : Flow) (s₃ : Shared) : Prop :=
  f = .next ∧ ∃ h' tk' j' t', s₃ = { s with heap := h', toks := tk' } ∧ Fr h₀ L h' m ∧ News h₀ L h' ((R.dx, R.obj j' t') :: rest) ∧ j < j' ∧ P j'
theorem RdStep.intro {h₀ : Heap} {L : Addr} {m : Str → Option Value} {s : Shared} {R : Rd} {rest : List (Addr × Obj)} {P : Nat → Prop} {j j' tk' : Nat} {h' : Heap} {t' : Tok} (F : Fr h₀ L h' m) (N : News h₀ L h' ((R.dx, R.obj j' t') :: rest)) (hj : j < j') (hP : P j') :
    RdStep h₀ L m s R rest P j .next { s with heap := h', toks := tk' } := ⟨rfl, h', tk', j', t', rfl, F, N, hj, hP⟩
section
variable {prog : Program} {w : World} {A : Around} {E : Value → Shared → Prop} {Q : Flow → Shared → Prop} {s : Shared} {env : Env} {h₀ : Heap} {L : Addr}
theorem while_rd {test : PySem.Expr} {body : List Stmt} {pos : Pos} {m : Str → Option Value} {R : Rd} {rest : List (Addr × Obj)} {k n : Nat} {tk : Tok} (P : Nat → Prop) (F : Fr h₀ L s.heap m) (N : News h₀ L s.heap ((R.dx, R.obj k tk) :: rest)) (hk : P k) (hn : ∀ j, P j → j ≤ n)
    (turn : ∀ j t h₁ tk₁, P j → Fr h₀ L h₁ m → News h₀ L h₁ ((R.dx, R.obj j t) :: rest) →
      wpAny (model prog w) A (isTrue test env (eval test env)) (fun b s₂ => if b = true then wpAny (model prog w) A (execs body env) (RdStep h₀ L m s R rest P j) E s₂ else Q .next s₂) E { s with heap := h₁, toks := tk₁ })
    (hE : PassesOwn (model prog w) A env E := by passes_own) :
    wpAny (model prog w) A (exec (.While test body [] pos) env) Q E s := by
  refine While_inv (n₀ := n - k) (fun u m₁ nx => ∃ j t, m₁ = m ∧ nx = (R.dx, R.obj j t) :: rest ∧ u = n - j ∧ P j) F N ⟨k, tk, rfl, rfl, rfl, hk⟩ ?_ hE
  rintro u m₁ nx h tk F₁ N₁ ⟨j, t, rfl, rfl, rfl, hP⟩
  refine wpAny_mono (turn j t h tk hP F₁ N₁) (fun b s₂ p => ?_) fun _ _ x => x
  cases b with
  | false => simpa using p
  | true =>
    simp only [if_true] at p ⊢
    refine wpAny_mono p (fun f s₃ q => ?_) fun _ _ x => x
    obtain ⟨rfl, h', tk', j', t', rfl, F', N', hj, hP'⟩ := q
    have := hn j' hP'
    exact ⟨rfl, h', tk', _, _, n - j', rfl, F', N', by omega, j', t', rfl, rfl, rfl, hP'⟩
/-- over the remarks' tokens -/
noncomputable def PassInv (ds : List TokD) (k j : Nat) : Prop := past ds j = past ds k ∧ j ≤ ds.length
theorem while_pass {test : PySem.Expr} {body : List Stmt} {pos : Pos} {m : Str → Option Value} {R : Rd} {rest : List (Addr × Obj)} {ds : List TokD} {k : Nat} {tk : Tok} (_I : R.In rest ds) (F : Fr h₀ L s.heap m) (N : News h₀ L s.heap ((R.dx, R.obj k tk) :: rest)) (hk : k ≤ ds.length)
    (turn : ∀ j t h₁ tk₁, past ds j = past ds k → j ≤ ds.length → Fr h₀ L h₁ m → News h₀ L h₁ ((R.dx, R.obj j t) :: rest) →
      wpAny (model prog w) A (isTrue test env (eval test env)) (fun b s₂ => if b = true then wpAny (model prog w) A (execs body env) (RdStep h₀ L m s R rest (PassInv ds k) j) E s₂ else Q .next s₂) E { s with heap := h₁, toks := tk₁ })
    (hE : PassesOwn (model prog w) A env E := by passes_own) :
    wpAny (model prog w) A (exec (.While test body [] pos) env) Q E s :=
  while_rd (PassInv ds k) F N ⟨rfl, hk⟩ (fun _ h => h.2) (fun j t h₁ tk₁ hP F N => turn j t h₁ tk₁ hP.1 hP.2 F N) hE
/-- over the remarks -/
inductive Rems (ds : List TokD) : Nat → Nat → Prop
  | stop {k} : remB ds k = false → Rems ds k k
  | step {k j} : remB ds k = true → Rems ds (past ds (k + 1)) j → Rems ds k j
noncomputable def RemInv (ds : List TokD) (k j : Nat) : Prop := (∀ z, Rems ds j z → Rems ds k z) ∧ j ≤ ds.length
theorem while_rems {test : PySem.Expr} {body : List Stmt} {pos : Pos} {m : Str → Option Value} {R : Rd} {rest : List (Addr × Obj)} {ds : List TokD} {k : Nat} {tk : Tok} (_I : R.In rest ds) (F : Fr h₀ L s.heap m) (N : News h₀ L s.heap ((R.dx, R.obj k tk) :: rest)) (hk : k ≤ ds.length)
    (turn : ∀ j t h₁ tk₁, (∀ z, Rems ds j z → Rems ds k z) → j ≤ ds.length → Fr h₀ L h₁ m → News h₀ L h₁ ((R.dx, R.obj j t) :: rest) →
      wpAny (model prog w) A (isTrue test env (eval test env)) (fun b s₂ => if b = true then wpAny (model prog w) A (execs body env) (RdStep h₀ L m s R rest (RemInv ds k) j) E s₂ else Q .next s₂) E { s with heap := h₁, toks := tk₁ })
    (hE : PassesOwn (model prog w) A env E := by passes_own) :
    wpAny (model prog w) A (exec (.While test body [] pos) env) Q E s :=
  while_rd (RemInv ds k) F N ⟨fun _ h => h, hk⟩ (fun _ h => h.2) (fun j t h₁ tk₁ hP F N => turn j t h₁ tk₁ hP.1 hP.2 F N) hE
theorem rems_step {ds : List TokD} {k j : Nat} (hk : ∀ z, Rems ds j z → Rems ds k z) (hr : remB ds j = true) (hl : past ds (j + 1) ≤ ds.length) : RemInv ds k (past ds (j + 1)) := ⟨fun _ h => hk _ (.step hr h), hl⟩
theorem pass_step {ds : List TokD} {k j : Nat} {d : TokD} (hk : past ds j = past ds k) (h : ds[j]? = some d) (hs : stops d = false) (hl : j + 1 ≤ ds.length) : PassInv ds k (j + 1) := ⟨(past_go h hs).symm.trans hk, hl⟩
end
theorem done_or {ds : List TokD} {k : Nat} {b : Bool} (h : b = true ↔ ds.length ≤ k) : (b = true ∧ ds.length ≤ k) ∨ (b = false ∧ k < ds.length) := by
  cases b with
  | true => exact .inl ⟨rfl, h.mp rfl⟩
  | false =>
    refine .inr ⟨rfl, ?_⟩
    rcases Nat.lt_or_ge k ds.length with z | z
    · exact z
    · exact absurd (h.mpr z) (by decide)
theorem pass_f1 {ds : List TokD} {j k : Nat} (e : past ds j = past ds k) (h : ds.length ≤ j) : past ds k = j := by rw [← e, past_end h]
theorem pass_f2 {ds : List TokD} {j k : Nat} {d d' : TokD} (e : past ds j = past ds k) (h1 : d.inA = true) (h2 : (d'.kind == Str.ofString "word") = true) (h : ds[j]? = some d) (h' : ds[j]? = some d') : past ds k = j := by
  rw [h] at h'; cases h'
  rw [← e, past_stop h (by simp [stops, h1, h2])]
theorem pass_s1 {ds : List TokD} {j k : Nat} {d : TokD} (e : past ds j = past ds k) (h1 : d.inA = false) (h : ds[j]? = some d) : PassInv ds k (j + 1) := pass_step e h (by simp [stops, h1]) (lt_of_some h)
theorem pass_s2 {ds : List TokD} {j k : Nat} {d : TokD} (e : past ds j = past ds k) (h1 : (d.kind == Str.ofString "word") = false) (h : ds[j]? = some d) : PassInv ds k (j + 1) := pass_step e h (by simp [stops, h1]) (lt_of_some h)
section
variable {w : World} {p : Program} {loose : List Str} {mean : ExcName → Option Value} {mg mb : Str → Option Value} {A A₀ : Around}
    {cn : Str} {nms : List (Str × NameKind)} {mo : List (Str × Const)} {a : Addr} {ccd : Value} {cl : List (Str × Addr)} {outer : List Env} {base h₀ : Heap} {L : Addr} {m : Str → Option Value} {s : Shared} {Q E : Value → Shared → Prop}
    {R : Rd} {rest news : List (Addr × Obj)} {ds : List TokD} {k : Nat} {tk : Tok}
theorem row17 : True := by
  k_with "exec While BoolOp cons nil" => (k_here; (rename Rd.In _ _ _ => rI9q); (rename Fr _ _ _ _ => lF9q); (rename News _ _ _ _ => lN9q); k_dflt (refine' while_pass rI9q lF9q lN9q (by omega) ?_ (by first | passes_own | with_unfolding_all passes_own)); intro j9q t9q h9q tk9q e9q l9q F9q N9q)
  k_with "call ref" => (k_here; (with_reducible show wpAny _ _ (call (Value.ref 181) _) _ _ _); k_dflt (refine' is_done (by exact rfl) (by k_units) (by exact rfl) (by k_units) (by assumption) (by assumption) (by assumption) (by k_asm) (by k_mem) (by assumption) (by kds_road) (by omega)  ?_ ;  (intro b9q h9q tk9q e9q F9q N9q; rcases done_or e9q with ⟨b9eq, l9q⟩ | ⟨b9eq, l9q⟩; (all_goals subst b9eq); (all_goals (clear e9q; (try k_sweep))))))
  k_with "RdStep" => (refine RdStep.intro (by assumption) (by assumption) (by omega) ?_)
  trivial
set_option maxHeartbeats 4000000 in
theorem pass  (hA : A.handled = none) (hD : A.depth ≤ 500) (hf : A.frames = some (envX cn { kind := .function, names := nms, isGenerator := false, isCoroutine := false, more := mo } L a ccd cl :: outer)) (hu : A.units ≤ 2000)
    (B : Below A₀ base outer h₀) (F : Fr h₀ L s.heap m) (X : (hd.heap_1 w.params).In h₀) (N : News h₀ L s.heap ((R.dx, R.obj (k) tk) :: rest)) (T : Top p loose mean mg mb h₀) (I : R.In rest ds) (hkl : k ≤ ds.length) (hlt : k < ds.length)
    (ret : ∀ h' tk' tk2, past ds (k + 1) ≤ ds.length → Fr h₀ L h' m → News h₀ L h' ((R.dx, R.obj (past ds (k + 1)) tk2) :: rest) → Q (.none) { s with heap := h', toks := tk' })
     :
    wpAny (model PySem.Challenge.rw_og0095_01.row.prog w) A (call (.ref 29) [.ref R.r]) Q E s := by
  refine wp_weaken (A := ar 500 2000 cn nms mo L a ccd cl outer) ?_ hA hD (.inr hf.symm) (.inl rfl) hu
  revert X; k_fill; intro X
  have hoff := I.off
  have hinst := I.inst; have hlist := I.list; have hsz := I.sz; have hlen := I.len
  refine wpAny_call ?_
  k_dflt k_enter
  k_steps
  all_goals first
    | exact pass_s1 (by assumption) (by assumption) (by assumption)
    | exact pass_s2 (by assumption) (by assumption) (by assumption)
    | (have z := pass_f2 (ds := ds) (k := k + 1) (by assumption) (by assumption) (by assumption) (by assumption) (by assumption); rw [z] at ret; exact ret _ _ _ (by omega) (by assumption) (by assumption))
    | (have z := pass_f1 (ds := ds) (k := k + 1) (by assumption) (by assumption); rw [z] at ret; exact ret _ _ _ (by omega) (by assumption) (by assumption))

end
theorem row18 : True := by
  k_with "call ref" => (k_here; (with_reducible show wpAny _ _ (call (Value.ref 29) _) _ _ _); k_dflt (refine' pass (by exact rfl) (by k_units) (by exact rfl) (by k_units) (by assumption) (by assumption) (by assumption) (by kbd_text) (by assumption) (by assumption) (by omega) (by omega) ?_ ; (intro h9q tk9q tk92q l9q F9q N9q; (try k_sweep))))
  trivial
/-! what read_identification reads, as plain functions -/
noncomputable def sg (ds : List TokD) (k : Nat) : Option Nat := if tokIs ds k (Str.ofString "sign") (Str.ofString ".") = true then some (k + 1) else none
noncomputable def wd (ds : List TokD) (k : Nat) (ws : List Str) (n : Nat) : Option Nat := if wordsAt ds k ws = true then some (k + n) else none
noncomputable def hd1 (ds : List TokD) : Option Nat := if wordsAt ds 0 [(Str.mk #[73, 68]), (Str.mk #[68, 73, 86, 73, 83, 73, 79, 78])] = true then some (0 + 2) else wd ds 0 [(Str.mk #[73, 68, 69, 78, 84, 73, 70, 73, 67, 65, 84, 73, 79, 78]), (Str.mk #[68, 73, 86, 73, 83, 73, 79, 78])] 2
noncomputable def nmAt (ds : List TokD) (k : Nat) : Option (Str × Nat) := match ds[k]? with
  | some d => if kindIs ds k (Str.ofString "literal") = true then some (d.worth, k + 1) else if nameIs ds k = true then some (d.worth, k + 1) else none
  | none => none
noncomputable def prg (ds : List TokD) (k : Nat) : Nat := if wordsAt ds k [(Str.mk #[80, 82, 79, 71, 82, 65, 77])] = true then k + 1 else k
noncomputable def opt (ds : List TokD) (k : Nat) : Option Nat := if wordsAt ds k [(Str.mk #[73, 83])] = true then (if wordsAt ds (k + 1) [(Str.mk #[73, 78, 73, 84, 73, 65, 76])] = true then some (prg ds (k + 1 + 1)) else none) else if wordsAt ds k [(Str.mk #[73, 78, 73, 84, 73, 65, 76])] = true then some (prg ds (k + 1)) else some k
noncomputable def headOf (ds : List TokD) : Option (Str × Nat) := (hd1 ds).bind fun k1 => (sg ds k1).bind fun k2 => (wd ds k2 [(Str.mk #[80, 82, 79, 71, 82, 65, 77, 45, 73, 68])] 1).bind fun k3 => (sg ds k3).bind fun k4 => (nmAt ds k4).bind fun p => (opt ds p.2).bind fun k6 => (sg ds k6).bind fun k7 => some (p.1, k7)
theorem head_1 {ds : List TokD} (h : hd1 ds = none) : headOf ds = none := by unfold headOf; rw [h]; rfl
theorem head_2 {ds : List TokD} {k : Nat} (h : hd1 ds = some k) (h2 : sg ds k = none) : headOf ds = none := by unfold headOf; rw [h]; dsimp only [Option.bind_some]; rw [h2]; rfl
theorem head_3 {ds : List TokD} {k k2 : Nat} (h : hd1 ds = some k) (h2 : sg ds k = some k2) (h3 : wd ds k2 [(Str.mk #[80, 82, 79, 71, 82, 65, 77, 45, 73, 68])] 1 = none) : headOf ds = none := by unfold headOf; rw [h]; dsimp only [Option.bind_some]; rw [h2]; dsimp only [Option.bind_some]; rw [h3]; rfl
theorem head_4 {ds : List TokD} {k k2 k3 : Nat} (h : hd1 ds = some k) (h2 : sg ds k = some k2) (h3 : wd ds k2 [(Str.mk #[80, 82, 79, 71, 82, 65, 77, 45, 73, 68])] 1 = some k3) (h4 : sg ds k3 = none) : headOf ds = none := by unfold headOf; rw [h]; dsimp only [Option.bind_some]; rw [h2]; dsimp only [Option.bind_some]; rw [h3]; dsimp only [Option.bind_some]; rw [h4]; rfl
theorem head_5 {ds : List TokD} {k k2 k3 k4 : Nat} (h : hd1 ds = some k) (h2 : sg ds k = some k2) (h3 : wd ds k2 [(Str.mk #[80, 82, 79, 71, 82, 65, 77, 45, 73, 68])] 1 = some k3) (h4 : sg ds k3 = some k4) (h5 : nmAt ds k4 = none) : headOf ds = none := by unfold headOf; rw [h]; dsimp only [Option.bind_some]; rw [h2]; dsimp only [Option.bind_some]; rw [h3]; dsimp only [Option.bind_some]; rw [h4]; dsimp only [Option.bind_some]; rw [h5]; rfl
theorem head_6 {ds : List TokD} {k k2 k3 k4 : Nat} {p : Str × Nat} (h : hd1 ds = some k) (h2 : sg ds k = some k2) (h3 : wd ds k2 [(Str.mk #[80, 82, 79, 71, 82, 65, 77, 45, 73, 68])] 1 = some k3) (h4 : sg ds k3 = some k4) (h5 : nmAt ds k4 = some p) : headOf ds = ((opt ds p.2).bind fun k6 => (sg ds k6).bind fun k7 => some (p.1, k7)) := by unfold headOf; rw [h]; dsimp only [Option.bind_some]; rw [h2]; dsimp only [Option.bind_some]; rw [h3]; dsimp only [Option.bind_some]; rw [h4]; dsimp only [Option.bind_some]; rw [h5]; rfl
theorem sg_y {ds : List TokD} {k : Nat} (h : tokIs ds k (Str.ofString "sign") (Str.ofString ".") = true) : sg ds k = some (k + 1) := by unfold sg; rw [if_pos h]
theorem sg_n {ds : List TokD} {k : Nat} (h : tokIs ds k (Str.ofString "sign") (Str.ofString ".") = false) : sg ds k = none := by unfold sg; rw [if_neg (by rw [h]; decide)]
theorem wd_y {ds : List TokD} {k n : Nat} {ws : List Str} (h : wordsAt ds k ws = true) : wd ds k ws n = some (k + n) := by unfold wd; rw [if_pos h]
theorem wd_n {ds : List TokD} {k n : Nat} {ws : List Str} (h : wordsAt ds k ws = false) : wd ds k ws n = none := by unfold wd; rw [if_neg (by rw [h]; decide)]
theorem wd_2 {ds : List TokD} {k : Nat} {ws : List Str} (h : wordsAt ds k ws = true) : wd ds k ws 2 = some (k + 2) := wd_y h
theorem hd1_y {ds : List TokD} (h : wordsAt ds 0 [(Str.mk #[73, 68]), (Str.mk #[68, 73, 86, 73, 83, 73, 79, 78])] = true) : hd1 ds = some (0 + 2) := by unfold hd1; rw [if_pos h]
theorem hd1_n {ds : List TokD} {o : Option Nat} (h : wordsAt ds 0 [(Str.mk #[73, 68]), (Str.mk #[68, 73, 86, 73, 83, 73, 79, 78])] = false) (h2 : wd ds 0 [(Str.mk #[73, 68, 69, 78, 84, 73, 70, 73, 67, 65, 84, 73, 79, 78]), (Str.mk #[68, 73, 86, 73, 83, 73, 79, 78])] 2 = o) : hd1 ds = o := by unfold hd1; rw [if_neg (by rw [h]; decide), h2]
theorem nm_l {ds : List TokD} {k : Nat} {d : TokD} (h : ds[k]? = some d) (hk : kindIs ds k (Str.ofString "literal") = true) : nmAt ds k = some (d.worth, k + 1) := by unfold nmAt; rw [h]; dsimp only; rw [if_pos hk]
theorem nm_w {ds : List TokD} {k : Nat} {d : TokD} (h : ds[k]? = some d) (hk : kindIs ds k (Str.ofString "literal") = false) (hn : nameIs ds k = true) : nmAt ds k = some (d.worth, k + 1) := by unfold nmAt; rw [h]; dsimp only; rw [if_neg (by rw [hk]; decide), if_pos hn]
theorem nm_n {ds : List TokD} {k : Nat} (hk : kindIs ds k (Str.ofString "literal") = false) (hn : nameIs ds k = false) : nmAt ds k = none := by
  unfold nmAt
  cases ds[k]? with
  | none => rfl
  | some d => dsimp only; rw [if_neg (by rw [hk]; decide), if_neg (by rw [hn]; decide)]
theorem nm_x {ds : List TokD} {k : Nat} {P : Prop} (hk : kindIs ds k (Str.ofString "literal") = true) (hn : kindIs ds k (Str.ofString "literal") = false) : P := by rw [hk] at hn; cases hn
theorem prg_y {ds : List TokD} {k : Nat} (h : wordsAt ds k [(Str.mk #[80, 82, 79, 71, 82, 65, 77])] = true) : prg ds k = k + 1 := by unfold prg; rw [if_pos h]
theorem prg_n {ds : List TokD} {k : Nat} (h : wordsAt ds k [(Str.mk #[80, 82, 79, 71, 82, 65, 77])] = false) : prg ds k = k := by unfold prg; rw [if_neg (by rw [h]; decide)]
theorem opt_i {ds : List TokD} {k z : Nat} (h : wordsAt ds k [(Str.mk #[73, 83])] = true) (h2 : wordsAt ds (k + 1) [(Str.mk #[73, 78, 73, 84, 73, 65, 76])] = true) (hp : prg ds (k + 1 + 1) = z) : opt ds k = some z := by unfold opt; rw [if_pos h, if_pos h2, hp]
theorem opt_x {ds : List TokD} {k : Nat} (h : wordsAt ds k [(Str.mk #[73, 83])] = true) (h2 : wordsAt ds (k + 1) [(Str.mk #[73, 78, 73, 84, 73, 65, 76])] = false) : opt ds k = none := by unfold opt; rw [if_pos h, if_neg (by rw [h2]; decide)]
theorem opt_w {ds : List TokD} {k z : Nat} (h : wordsAt ds k [(Str.mk #[73, 83])] = false) (h2 : wordsAt ds k [(Str.mk #[73, 78, 73, 84, 73, 65, 76])] = true) (hp : prg ds (k + 1) = z) : opt ds k = some z := by unfold opt; rw [if_neg (by rw [h]; decide), if_pos h2, hp]
theorem opt_n {ds : List TokD} {k : Nat} (h : wordsAt ds k [(Str.mk #[73, 83])] = false) (h2 : wordsAt ds k [(Str.mk #[73, 78, 73, 84, 73, 65, 76])] = false) : opt ds k = some k := by unfold opt; rw [if_neg (by rw [h]; decide), if_neg (by rw [h2]; decide)]
/-- the state behind a statement that moves the reader alone -/
noncomputable def RdJ (h₀ : Heap) (L : Addr) (m : Str → Option Value) (s : Shared) (R : Rd) (rest : List (Addr × Obj)) (P : Nat → Prop) (f : Flow) (s' : Shared) : Prop :=
  f = .next ∧ ∃ h' tk j t, s' = { s with heap := h', toks := tk } ∧ Fr h₀ L h' m ∧ News h₀ L h' ((R.dx, R.obj j t) :: rest) ∧ P j
theorem RdJ.intro {h₀ : Heap} {L : Addr} {m : Str → Option Value} {s : Shared} {R : Rd} {rest : List (Addr × Obj)} {P : Nat → Prop} {j tk' : Nat} {h' : Heap} {t' : Tok} (F : Fr h₀ L h' m) (N : News h₀ L h' ((R.dx, R.obj j t') :: rest)) (hP : P j) :
    RdJ h₀ L m s R rest P .next { s with heap := h', toks := tk' } := ⟨rfl, h', tk', j, t', rfl, F, N, hP⟩
noncomputable def RdV (h₀ : Heap) (L : Addr) (m : Str → Option Value) (s : Shared) (R : Rd) (rest : List (Addr × Obj)) (P : Str → Nat → Prop) (v : Value) (s' : Shared) : Prop :=
  ∃ h' tk j t x tx, v = .str x tx ∧ s' = { s with heap := h', toks := tk } ∧ Fr h₀ L h' m ∧ News h₀ L h' ((R.dx, R.obj j t) :: rest) ∧ P x j
theorem RdV.intro {h₀ : Heap} {L : Addr} {m : Str → Option Value} {s : Shared} {R : Rd} {rest : List (Addr × Obj)} {P : Str → Nat → Prop} {j tk' : Nat} {h' : Heap} {t' tx : Tok} {x : Str} (F : Fr h₀ L h' m) (N : News h₀ L h' ((R.dx, R.obj j t') :: rest)) (hP : P x j) :
    RdV h₀ L m s R rest P (.str x tx) { s with heap := h', toks := tk' } := ⟨h', tk', j, t', x, tx, rfl, rfl, F, N, hP⟩
noncomputable def CutA (ds : List TokD) (j : Nat) : Prop := hd1 ds = some j ∧ j ≤ ds.length
noncomputable def CutB (ds : List TokD) (k : Nat) (x : Str) (j : Nat) : Prop := nmAt ds k = some (x, j) ∧ j ≤ ds.length ∧ x.length ≤ 100
noncomputable def CutC (ds : List TokD) (k j : Nat) : Prop := opt ds k = some j ∧ j ≤ ds.length
theorem toks_len {R : Rd} {news : List (Addr × Obj)} {ds : List TokD} {k : Nat} {d : TokD} (I : R.At news ds) (h : ds[k]? = some d) : d.worth.length ≤ 100 := by
  obtain ⟨t, d', h1, h2, T⟩ := I.toks.get (lt_of_some h)
  rw [h] at h2; cases h2
  obtain ⟨_, _, _, _, _, _, _, _, _, _, _, _, _, _, _, hl⟩ := T
  exact hl
section
variable {prog : Program} {w : World} {A : Around} {E : Value → Shared → Prop} {s : Shared} {env : Env} {h₀ : Heap} {L : Addr} {m : Str → Option Value} {R : Rd} {rest : List (Addr × Obj)} {ds : List TokD} {k : Nat} {tk : Tok}
theorem cut_if {st : Stmt} {Q : Flow → Shared → Prop} (P : List TokD → Nat → Nat → Prop) (_I : R.In rest ds) (_F : Fr h₀ L s.heap m) (_N : News h₀ L s.heap ((R.dx, R.obj k tk) :: rest))
    (h1 : wpAny (model prog w) A (exec st env) (RdJ h₀ L m s R rest (P ds k)) E s) (h2 : ∀ h' tk j t, P ds k j → Fr h₀ L h' m → News h₀ L h' ((R.dx, R.obj j t) :: rest) → Q .next { s with heap := h', toks := tk }) :
    wpAny (model prog w) A (exec st env) Q E s := by
  refine wpAny_mono h1 (fun f s' p => ?_) fun _ _ e => e
  obtain ⟨rfl, h', tk, j, t, rfl, F, N, hP⟩ := p
  exact h2 _ _ _ _ hP F N
theorem cut_val {e : PySem.Expr} {Q : Value → Shared → Prop} (P : List TokD → Nat → Str → Nat → Prop) (_I : R.In rest ds) (_F : Fr h₀ L s.heap m) (_N : News h₀ L s.heap ((R.dx, R.obj k tk) :: rest))
    (h1 : wpAny (model prog w) A (eval e env) (RdV h₀ L m s R rest (P ds k)) E s) (h2 : ∀ h' tk j t x tx, P ds k x j → Fr h₀ L h' m → News h₀ L h' ((R.dx, R.obj j t) :: rest) → Q (.str x tx) { s with heap := h', toks := tk }) :
    wpAny (model prog w) A (eval e env) Q E s := by
  refine wpAny_mono h1 (fun v s' p => ?_) fun _ _ e => e
  obtain ⟨h', tk, j, t, x, tx, rfl, rfl, F, N, hP⟩ := p
  exact h2 _ _ _ _ _ _ hP F N
end
section
variable {ds : List TokD} {k k5 k6 : Nat} {x : Str}
theorem hy (h : hd1 ds = some k) (h2 : tokIs ds k (Str.ofString "sign") (Str.ofString ".") = true) (h3 : wordsAt ds (k + 1) [(Str.mk #[80, 82, 79, 71, 82, 65, 77, 45, 73, 68])] = true) (h4 : tokIs ds (k + 1 + 1) (Str.ofString "sign") (Str.ofString ".") = true) (h5 : nmAt ds (k + 1 + 1 + 1) = some (x, k5)) (h6 : opt ds k5 = some k6) (h7 : tokIs ds k6 (Str.ofString "sign") (Str.ofString ".") = true) :
    headOf ds = some (x, k6 + 1) := by
  rw [head_6 h (sg_y h2) (wd_y h3) (sg_y h4) h5]
  dsimp only
  rw [h6]
  dsimp only [Option.bind_some]
  rw [sg_y h7]; rfl
theorem hn1 (h : wordsAt ds 0 [(Str.mk #[73, 68]), (Str.mk #[68, 73, 86, 73, 83, 73, 79, 78])] = false) (h2 : wordsAt ds 0 [(Str.mk #[73, 68, 69, 78, 84, 73, 70, 73, 67, 65, 84, 73, 79, 78]), (Str.mk #[68, 73, 86, 73, 83, 73, 79, 78])] = false) : headOf ds = none := head_1 (hd1_n h (wd_n h2))
theorem hn2 (h : hd1 ds = some k) (h2 : tokIs ds k (Str.ofString "sign") (Str.ofString ".") = false) : headOf ds = none := head_2 h (sg_n h2)
theorem hn3 (h : hd1 ds = some k) (h2 : tokIs ds k (Str.ofString "sign") (Str.ofString ".") = true) (h3 : wordsAt ds (k + 1) [(Str.mk #[80, 82, 79, 71, 82, 65, 77, 45, 73, 68])] = false) : headOf ds = none := head_3 h (sg_y h2) (wd_n h3)
theorem hn4 (h : hd1 ds = some k) (h2 : tokIs ds k (Str.ofString "sign") (Str.ofString ".") = true) (h3 : wordsAt ds (k + 1) [(Str.mk #[80, 82, 79, 71, 82, 65, 77, 45, 73, 68])] = true) (h4 : tokIs ds (k + 1 + 1) (Str.ofString "sign") (Str.ofString ".") = false) : headOf ds = none := head_4 h (sg_y h2) (wd_y h3) (sg_n h4)
theorem hn5 (h : hd1 ds = some k) (h2 : tokIs ds k (Str.ofString "sign") (Str.ofString ".") = true) (h3 : wordsAt ds (k + 1) [(Str.mk #[80, 82, 79, 71, 82, 65, 77, 45, 73, 68])] = true) (h4 : tokIs ds (k + 1 + 1) (Str.ofString "sign") (Str.ofString ".") = true)
    (h5 : kindIs ds (k + 1 + 1 + 1) (Str.ofString "literal") = false) (h6 : nameIs ds (k + 1 + 1 + 1) = false) : headOf ds = none := head_5 h (sg_y h2) (wd_y h3) (sg_y h4) (nm_n h5 h6)
theorem hn6 (h : hd1 ds = some k) (h2 : tokIs ds k (Str.ofString "sign") (Str.ofString ".") = true) (h3 : wordsAt ds (k + 1) [(Str.mk #[80, 82, 79, 71, 82, 65, 77, 45, 73, 68])] = true) (h4 : tokIs ds (k + 1 + 1) (Str.ofString "sign") (Str.ofString ".") = true) (h5 : nmAt ds (k + 1 + 1 + 1) = some (x, k5))
    (h6 : wordsAt ds k5 [(Str.mk #[73, 83])] = true) (h7 : wordsAt ds (k5 + 1) [(Str.mk #[73, 78, 73, 84, 73, 65, 76])] = false) : headOf ds = none := by
  rw [head_6 h (sg_y h2) (wd_y h3) (sg_y h4) h5]
  dsimp only
  rw [opt_x h6 h7]; rfl
theorem hn7 (h : hd1 ds = some k) (h2 : tokIs ds k (Str.ofString "sign") (Str.ofString ".") = true) (h3 : wordsAt ds (k + 1) [(Str.mk #[80, 82, 79, 71, 82, 65, 77, 45, 73, 68])] = true) (h4 : tokIs ds (k + 1 + 1) (Str.ofString "sign") (Str.ofString ".") = true) (h5 : nmAt ds (k + 1 + 1 + 1) = some (x, k5))
    (h6 : opt ds k5 = some k6) (h7 : tokIs ds k6 (Str.ofString "sign") (Str.ofString ".") = false) : headOf ds = none := by
  rw [head_6 h (sg_y h2) (wd_y h3) (sg_y h4) h5]
  dsimp only
  rw [h6]
  dsimp only [Option.bind_some]
  rw [sg_n h7]; rfl
end
theorem rem_fin {ds : List TokD} {k j : Nat} (h : ∀ z, Rems ds j z → Rems ds k z) (hr : remB ds j = false) : Rems ds k j := h _ (.stop hr)
section
variable {w : World} {p : Program} {loose : List Str} {mean : ExcName → Option Value} {mg mb : Str → Option Value} {A A₀ : Around}
    {cn : Str} {nms : List (Str × NameKind)} {mo : List (Str × Const)} {a : Addr} {ccd : Value} {cl : List (Str × Addr)} {outer : List Env} {base h₀ : Heap} {L : Addr} {m : Str → Option Value} {s : Shared} {Q E : Value → Shared → Prop}
    {R : Rd} {rest news : List (Addr × Obj)} {ds : List TokD} {k : Nat} {tk : Tok}
theorem row19 : True := by
  k_with "exec While Call cons nil" => (k_here; (rename Rd.In _ _ _ => rI9q); (rename Fr _ _ _ _ => lF9q); (rename News _ _ _ _ => lN9q); k_dflt (refine' while_rems rI9q lF9q lN9q (by omega) ?_ (by first | passes_own | with_unfolding_all passes_own)); intro j9q t9q h9q tk9q e9q l9q F9q N9q)
  k_with "exec If" => (k_here; (with_reducible show wpAny _ _ (exec (Stmt.If (PySem.Expr.UnaryOp _ _ _) _ _ _) _) _ _ _); (rename Rd.In _ _ _ => rI9q); (rename Fr _ _ _ _ => lF9q); (rename News _ _ _ _ => lN9q); k_dflt (refine' cut_if (fun ds _ j => CutA ds j) rI9q lF9q lN9q ?cut1a ?cut1b; (case' cut1a => refine wpAny_If ?_)); (case' cut1b => intro h9q tk9q j9q t9q p9q F9q N9q; k_dflt (obtain ⟨q9q, l9q⟩ := p9q)))
  k_with "exec If" => (k_here; (with_reducible show wpAny _ _ (exec (Stmt.If (PySem.Expr.BoolOp _ _ _) _ _ _) _) _ _ _); (rename Rd.In _ _ _ => rI9q); (rename Fr _ _ _ _ => lF9q); (rename News _ _ _ _ => lN9q); k_dflt (refine' cut_if CutC rI9q lF9q lN9q ?cut2a ?cut2b; (case' cut2a => refine wpAny_If ?_)); (case' cut2b => intro h9q tk9q j9q t9q p9q F9q N9q; k_dflt (obtain ⟨q9q, l9q⟩ := p9q)))
  k_with "eval IfExp" => (k_here; (rename Rd.In _ _ _ => rI9q); (rename Fr _ _ _ _ => lF9q); (rename News _ _ _ _ => lN9q); k_dflt (refine' cut_val CutB rI9q lF9q lN9q ?cut3a ?cut3b; (case' cut3a => refine IfExp_ ?_)); (case' cut3b => intro h9q tk9q j9q t9q x9q tx9q p9q F9q N9q; k_dflt (obtain ⟨q9q, l9q, z9q⟩ := p9q)))
  k_with "RdStep" => (refine RdStep.intro (by assumption) (by assumption) (by first | omega | exact Nat.lt_of_lt_of_le (Nat.lt_succ_self _) past_ge) ?_)
  k_with "RdJ" => (refine RdJ.intro (by assumption) (by assumption) ?_)
  k_with "RdV" => (refine RdV.intro (by assumption) (by assumption) ?_)
  trivial
set_option maxHeartbeats 4000000 in
theorem read_id  (hA : A.handled = none) (hD : A.depth ≤ 400) (hf : A.frames = some (envX cn { kind := .function, names := nms, isGenerator := false, isCoroutine := false, more := mo } L a ccd cl :: outer)) (hu : A.units ≤ 1000)
    (B : Below A₀ base outer h₀) (F : Fr h₀ L s.heap m) (X : (hd.heap_1 w.params).In h₀) (N : News h₀ L s.heap ((R.dx, R.obj (k) tk) :: rest)) (T : Top p loose mean mg mb h₀) (I : R.In rest ds) (hkl : k ≤ ds.length) (hk0 : k = 0)
    (ret : ∀ x z j t h' tk' tk2, headOf ds = some (x, z) → Rems ds z j → j ≤ ds.length → Fr h₀ L h' m → News h₀ L h' ((R.dx, R.obj (j) tk2) :: rest) → Q (.str (Txt.upper x) t) { s with heap := h', toks := tk' })
    (hE : ∀ e x h' tk' t g, headOf ds = none → Fr h₀ L g m → g.UpToSlots h' → RaisedK base (envX cn { kind := .function, names := nms, isGenerator := false, isCoroutine := false, more := mo } L a ccd cl :: outer) e (.ref 92) t [x] rest h' → E (.ref e) { s with heap := h', toks := tk' }) :
    wpAny (model PySem.Challenge.rw_og0095_01.row.prog w) A (call (.ref 41) [.ref R.r]) Q E s := by
  refine wp_weaken (A := ar 400 1000 cn nms mo L a ccd cl outer) ?_ hA hD (.inr hf.symm) (.inl rfl) hu
  revert X; k_fill; intro X
  have hoff := I.off
  have hinst := I.inst; have hlist := I.list; have hsz := I.sz; have hlen := I.len
  subst hk0
  refine wpAny_call ?_
  k_dflt k_enter
  k_steps
  all_goals first
    | exact rems_step (by assumption) (by assumption) (by assumption)
    | exact ret _ _ _ _ _ _ _ (hy (by assumption) (by assumption) (by assumption) (by assumption) (by assumption) (by assumption) (by assumption)) (rem_fin (by assumption) (by assumption)) (by assumption) (by assumption) (by assumption)
    | exact ⟨opt_i (by assumption) (by assumption) (prg_y (by assumption)), by omega⟩
    | exact ⟨opt_i (by assumption) (by assumption) (prg_n (by assumption)), by omega⟩
    | exact ⟨opt_w (by assumption) (by assumption) (prg_y (by assumption)), by omega⟩
    | exact ⟨opt_w (by assumption) (by assumption) (prg_n (by assumption)), by omega⟩
    | exact ⟨opt_n (by assumption) (by assumption), by omega⟩
    | exact ⟨nm_l (by assumption) (by assumption), lt_of_some (by assumption), toks_len (Rd.In.toAt (by assumption)) (by assumption)⟩
    | exact ⟨nm_w (by assumption) (by assumption) (by assumption), lt_of_some (by assumption), toks_len (Rd.In.toAt (by assumption)) (by assumption)⟩
    | exact ⟨hd1_y (by assumption), by omega⟩
    | exact ⟨hd1_n (by assumption) (wd_2 (by assumption)), by omega⟩
    | exact hE _ _ _ _ _ _ (hn1 (by assumption) (by assumption)) (by assumption) (by assumption) (by assumption)
    | exact hE _ _ _ _ _ _ (hn1 (by assumption) (by assumption)) (by assumption) (by assumption) (raised_tail (by assumption))
    | exact hE _ _ _ _ _ _ (hn2 (by assumption) (by assumption)) (by assumption) (by assumption) (by assumption)
    | exact hE _ _ _ _ _ _ (hn2 (by assumption) (by assumption)) (by assumption) (by assumption) (raised_tail (by assumption))
    | exact hE _ _ _ _ _ _ (hn3 (by assumption) (by assumption) (by assumption)) (by assumption) (by assumption) (by assumption)
    | exact hE _ _ _ _ _ _ (hn3 (by assumption) (by assumption) (by assumption)) (by assumption) (by assumption) (raised_tail (by assumption))
    | exact hE _ _ _ _ _ _ (hn4 (by assumption) (by assumption) (by assumption) (by assumption)) (by assumption) (by assumption) (by assumption)
    | exact hE _ _ _ _ _ _ (hn4 (by assumption) (by assumption) (by assumption) (by assumption)) (by assumption) (by assumption) (raised_tail (by assumption))
    | exact hE _ _ _ _ _ _ (hn5 (by assumption) (by assumption) (by assumption) (by assumption) (by assumption) (by assumption)) (by assumption) (by assumption) (by assumption)
    | exact hE _ _ _ _ _ _ (hn5 (by assumption) (by assumption) (by assumption) (by assumption) (by assumption) (by assumption)) (by assumption) (by assumption) (raised_tail (by assumption))
    | exact hE _ _ _ _ _ _ (hn6 (by assumption) (by assumption) (by assumption) (by assumption) (by assumption) (by assumption) (by assumption)) (by assumption) (by assumption) (by assumption)
    | exact hE _ _ _ _ _ _ (hn6 (by assumption) (by assumption) (by assumption) (by assumption) (by assumption) (by assumption) (by assumption)) (by assumption) (by assumption) (raised_tail (by assumption))
    | exact hE _ _ _ _ _ _ (hn7 (by assumption) (by assumption) (by assumption) (by assumption) (by assumption) (by assumption) (by assumption)) (by assumption) (by assumption) (by assumption)
    | exact hE _ _ _ _ _ _ (hn7 (by assumption) (by assumption) (by assumption) (by assumption) (by assumption) (by assumption) (by assumption)) (by assumption) (by assumption) (raised_tail (by assumption))

end
theorem row20 : True := by
  k_with "call ref" => (k_here; (with_reducible show wpAny _ _ (call (Value.ref 41) _) _ _ _); k_dflt (refine' read_id (by exact rfl) (by k_units) (by exact rfl) (by k_units) (by assumption) (by assumption) (by assumption) (by kbd_text) (by assumption) (by assumption) (by omega) (by rfl) ?_ ?_; (all_goals first | (intro e8 x8 h8 tk8 t8 g8 c8 F8 U8 R8; have U9q : Heap.UpToSlots _ _ := U8; clear U9q; first | (exfalso; omega) | (exfalso; exact bool_ab c8 (by assumption)) | (try k_sweep)) | (intro x9q z9q j9q t9q h9q tk9q tk92q q9q r9q l9q F9q N9q; (try k_sweep)))))
  trivial
theorem funFrames_rebase {h base base' : Heap} : ∀ {l : List Env}, (∀ env ∈ l, ∀ b, env.frame = some b → base'.get? b = none) → h.FunFrames base l → h.FunFrames base' l
  | [], _, _ => trivial
  | env :: r, k, ⟨hk, ⟨L, o, hf, _, ho, hd⟩, hr⟩ => ⟨hk, ⟨L, o, hf, k env (.head _) L hf, ho, hd⟩, funFrames_rebase (fun e he => k e (.tail _ he)) hr⟩
/-- the part of a heap that a base and one frame make -/
noncomputable def partOf (h₀ : Heap) (L : Addr) (h : Heap) : Heap := hideAll h ((List.range h.objs.size).filter fun b => (h₀.get? b).isNone && b != L)
theorem partOf_get {h₀ h : Heap} {L b : Addr} {o : Obj} (e : h.get? b = some o) (hb : (∃ o', h₀.get? b = some o') ∨ b = L) : (partOf h₀ L h).get? b = some o := by
  refine hideAll_get _ e fun hm => ?_
  have z := (List.mem_filter.mp hm).2
  rcases hb with ⟨o', q⟩ | q
  · rw [q] at z; simp at z
  · rw [q] at z; simp at z
theorem partOf_in {h₀ h : Heap} {L b : Addr} {o : Obj} (e : (partOf h₀ L h).get? b = some o) : (∃ o', h₀.get? b = some o') ∨ b = L := by
  have hlt : b < h.objs.size := Heap.lt_size (of_hideAll _ e)
  cases q : h₀.get? b with
  | some o' => exact .inl ⟨o', rfl⟩
  | none =>
    refine .inr ?_
    by_cases z : b = L
    · exact z
    · have hm : b ∈ (List.range h.objs.size).filter fun b => (h₀.get? b).isNone && b != L := List.mem_filter.mpr ⟨List.mem_range.mpr hlt, by rw [q]; simpa using z⟩
      have := hideAll_none (h := h) _ hm
      unfold partOf at e
      rw [this] at e; cases e
theorem partOf_fr {h₀ h : Heap} {L : Addr} {m : Str → Option Value} (F : Fr h₀ L h m) : Fr h₀ L (partOf h₀ L h) m := by
  obtain ⟨o, es, ep, ho, r⟩ := F.ns
  exact ⟨⟨o, es, ep, partOf_get ho (.inr rfl), r⟩, fun b o' e => partOf_get (F.keep b o' e) (.inl ⟨o', e⟩), F.above⟩
theorem partOf_up {h₀ h h' : Heap} {L : Addr} (u : h.UpToSlots h') : (partOf h₀ L h).UpToSlots h' := fun b o e => u b o (of_hideAll _ e)
section
variable {w : World} {p : Program} {loose : List Str} {mean : ExcName → Option Value} {mg mb : Str → Option Value} {A A₀ : Around}
    {cn : Str} {nms : List (Str × NameKind)} {mo : List (Str × Const)} {a : Addr} {ccd : Value} {cl : List (Str × Addr)} {outer : List Env} {base h₀ : Heap} {L : Addr} {m : Str → Option Value} {s : Shared} {Q E : Value → Shared → Prop}
    {news : List (Addr × Obj)} {r dx nd l : Addr} {o : Obj} {h1 h2 h3 : Int} {k1 k2 k3 tk0 : Tok} {vs : List Value} {n : Nat} {ds : List TokD}
abbrev rdObj (l nd : Addr) (h1 h2 h3 : Int) (k1 k2 k3 : Tok) (k : Nat) (tk : Tok) : Obj := dictOf [⟨h1, .str (Str.ofString "tokens") k1, .ref l⟩, ⟨h2, .str (Str.ofString "at") k2, .int (k : Int) tk⟩, ⟨h3, .str (Str.ofString "named") k3, .ref nd⟩] 3
theorem rd_in (ne1 : nd ≠ dx) (ne2 : r ≠ dx) (ne3 : ∀ p ∈ news, p.1 ≠ dx) (hl : (l, W.listOf vs.toArray n) ∈ news) (hsz : vs.length < 1000) (hds : ToksIn news vs ds) :
    Rd.In ⟨r, dx, l, h1, h2, h3, k1, k2, k3, .ref nd, n, vs⟩ ((nd, o) :: (r, instObj 320 dx) :: news) ds :=
  ⟨⟨.tail _ (.head _), .tail _ (.tail _ hl), hsz, hds.mono fun _ h => .tail _ (.tail _ h)⟩, fun p hp => by
    rcases List.mem_cons.mp hp with rfl | hp
    · exact ne1
    · rcases List.mem_cons.mp hp with rfl | hp
      · exact ne2
      · exact ne3 p hp⟩
theorem rd_news {h : Heap} {x y z : Addr × Obj} (N : News h₀ L h (x :: y :: z :: news)) : News h₀ L h (z :: x :: y :: news) := fun p hp => N p (by
  rcases List.mem_cons.mp hp with rfl | hp
  · exact .tail _ (.tail _ (.head _))
  · rcases List.mem_cons.mp hp with rfl | hp
    · exact .head _
    · rcases List.mem_cons.mp hp with rfl | hp
      · exact .tail _ (.head _)
      · exact .tail _ (.tail _ (.tail _ hp)))
theorem read_id_bad (hA : A.handled = none) (hD : A.depth ≤ 400) (hf : A.frames = some (envX cn { kind := .function, names := nms, isGenerator := false, isCoroutine := false, more := mo } L a ccd cl :: outer)) (hu : A.units ≤ 1000)
    (B : Below A₀ base outer h₀) (F : Fr h₀ L s.heap m) (X : (hd.heap_1 w.params).In h₀) (N : News h₀ L s.heap ((nd, o) :: (r, instObj 320 dx) :: (dx, rdObj l nd h1 h2 h3 k1 k2 k3 0 tk0) :: news)) (T : Top p loose mean mg mb h₀)
    (ne1 : nd ≠ dx) (ne2 : r ≠ dx) (ne3 : ∀ p ∈ news, p.1 ≠ dx) (hl : (l, W.listOf vs.toArray n) ∈ news) (hsz : vs.length < 1000) (hds : ToksIn news vs ds) (hbad : headOf ds = none)
    (hE : ∀ e x h' tk' t G, Fr h₀ L G m → G.UpToSlots h' → RaisedS base G (envX cn { kind := .function, names := nms, isGenerator := false, isCoroutine := false, more := mo } L a ccd cl :: outer) e (.ref 92) t [x] news h' → E (.ref e) { s with heap := h', toks := tk' }) :
    wpAny (model PySem.Challenge.rw_og0095_01.row.prog w) A (call (.ref 41) [.ref r]) Q E s := by
  have nfr : ∀ b o, base.get? b = some o → b ∉ outer.filterMap (·.frame) := fun b o e hm => by
    rw [(B.frames.mem hm).1] at e; cases e
  refine read_id (R := ⟨r, dx, l, h1, h2, h3, k1, k2, k3, .ref nd, n, vs⟩) (base := hideAll h₀ (outer.filterMap (·.frame))) (rest := (nd, o) :: (r, instObj 320 dx) :: news) (ds := ds) (k := 0) (tk := tk0) hA hD hf hu
    ⟨B.stack, fun b o e => of_hideAll _ e, funFrames_rebase (fun env he b hb => hideAll_none _ (List.mem_filterMap.mpr ⟨env, he, hb⟩)) B.frames⟩ F X (rd_news N) T (rd_in ne1 ne2 ne3 hl hsz hds) (Nat.zero_le _) rfl ?_ ?_
  · intro x z j t h' tk' tk2 q
    rw [hbad] at q; cases q
  · intro e x h' tk' t gc _ Fc Uc R
    obtain ⟨⟨Bh, hB, hn, hfl, hnew⟩, htup⟩ := R
    refine hE e x h' tk' t (partOf h₀ L gc) (partOf_fr Fc) (partOf_up Uc) ⟨⟨Bh, fun b o e => hB b o (hideAll_get _ (B.stays b o e) (nfr b o e)), fun b o e hm => ?_, fun q hq => ?_, hfl, hnew⟩, htup⟩
    · rcases partOf_in e with ⟨o', q⟩ | q
      · have e' := Fc.keep b o' q
        rw [of_hideAll _ e] at e'
        cases e'
        exact hB b o (hideAll_get _ q fun hm' => hm (by
          obtain ⟨env, he, hf'⟩ := List.mem_filterMap.mp hm'
          exact List.mem_filterMap.mpr ⟨env, .tail _ he, hf'⟩))
      · exact absurd (List.mem_filterMap.mpr ⟨_, .head _, by rw [q]⟩) hm
    · have z := hn q (.tail _ (.tail _ hq))
      have zN := N q (.tail _ (.tail _ (.tail _ hq)))
      refine ⟨z.1, ?_, ?_⟩
      · cases y : (partOf h₀ L gc).get? q.1 with
        | none => rfl
        | some o' =>
          rcases partOf_in y with ⟨o'', e'⟩ | e'
          · rw [zN.2.2] at e'; cases e'
          · exact absurd e' zN.2.1
      · exact fresh_of_stays B.stays zN.2.2
theorem read_id_new (hA : A.handled = none) (hD : A.depth ≤ 400) (hf : A.frames = some (envX cn { kind := .function, names := nms, isGenerator := false, isCoroutine := false, more := mo } L a ccd cl :: outer)) (hu : A.units ≤ 1000)
    (B : Below A₀ base outer h₀) (F : Fr h₀ L s.heap m) (X : (hd.heap_1 w.params).In h₀) (N : News h₀ L s.heap ((nd, o) :: (r, instObj 320 dx) :: (dx, rdObj l nd h1 h2 h3 k1 k2 k3 0 tk0) :: news)) (T : Top p loose mean mg mb h₀)
    (ne1 : nd ≠ dx) (ne2 : r ≠ dx) (ne3 : ∀ p ∈ news, p.1 ≠ dx) (hl : (l, W.listOf vs.toArray n) ∈ news) (hsz : vs.length < 1000) (hds : ToksIn news vs ds) {x : Str} {z j : Nat} (hgood : headOf ds = some (x, z)) (hrem : ∀ j', Rems ds z j' → j' = j)
    (ret : ∀ t h' tk' tk2, Fr h₀ L h' m → News h₀ L h' ((nd, o) :: (r, instObj 320 dx) :: (dx, rdObj l nd h1 h2 h3 k1 k2 k3 j tk2) :: news) → Q (.str (Txt.upper x) t) { s with heap := h', toks := tk' }) :
    wpAny (model PySem.Challenge.rw_og0095_01.row.prog w) A (call (.ref 41) [.ref r]) Q E s := by
  refine read_id (R := ⟨r, dx, l, h1, h2, h3, k1, k2, k3, .ref nd, n, vs⟩) (rest := (nd, o) :: (r, instObj 320 dx) :: news) (ds := ds) (k := 0) (tk := tk0) hA hD hf hu
    B F X (rd_news N) T (rd_in ne1 ne2 ne3 hl hsz hds) (Nat.zero_le _) rfl ?_ ?_
  · intro x' z' j' t h' tk' tk2 q R _ F' N'
    rw [hgood] at q; cases q
    have e := hrem j' R
    subst e
    exact ret t h' tk' tk2 F' (fun p hp => N' p (by
      rcases List.mem_cons.mp hp with rfl | hp
      · exact .tail _ (.head _)
      · rcases List.mem_cons.mp hp with rfl | hp
        · exact .tail _ (.tail _ (.head _))
        · rcases List.mem_cons.mp hp with rfl | hp
          · exact .head _
          · exact .tail _ (.tail _ (.tail _ hp))))
  · intro e x' h' tk' t gc q
    rw [hgood] at q; cases q
end
section
variable {w : World} {p : Program} {loose : List Str} {mean : ExcName → Option Value} {mg mb : Str → Option Value} {A A₀ : Around}
    {cn : Str} {nms : List (Str × NameKind)} {mo : List (Str × Const)} {a : Addr} {ccd : Value} {cl : List (Str × Addr)} {outer : List Env} {base h₀ : Heap} {L : Addr} {m : Str → Option Value} {s : Shared} {Q E : Value → Shared → Prop}
    {news : List (Addr × Obj)}
theorem row21 : True := by
  k_with "call ref" => (k_here; (with_reducible show wpAny _ _ (call (Value.ref 41) [Value.ref _]) _ _ _); k_dflt (refine' read_id_bad (by exact rfl) (by k_units) (by exact rfl) (by k_units) (by assumption) (by assumption) (by assumption) (by assumption) (by assumption) ?b1 ?b2 ?b3 ?b4 ?b5 ?b6 ?b7 ?_; (case b1 => k_ne); (case b2 => k_ne); (case b3 => exact fun p hp => Nat.ne_of_lt ((by assumption : ∀ p ∈ _, p.1 < _) p hp)); (case b4 => assumption); (case b5 => assumption); (case b6 => assumption); (case b7 => assumption)); intro e9q x9q h9q tk9q t9q G9q F9q U9q R9q)
  trivial
set_option maxHeartbeats 4000000 in
theorem refused_c {l : Addr} {vs : List Value} {n : Nat} {ds : List TokD} (hA : A.handled = none) (hD : A.depth ≤ 350) (hf : A.frames = some [envX cn { kind := .function, names := nms, isGenerator := false, isCoroutine := false, more := mo } L a ccd []]) (hu : A.units ≤ 500)
    (B : Below A₀ base [] h₀) (F : Fr h₀ L s.heap m) (X : (hd.heap_1 w.params).In h₀) (XB : (hd.heap_1 w.params).In base) (N : News h₀ L s.heap news) (T : Top p loose mean mg mb h₀) (TB : Top p loose mean mg mb base)
    (hl : (l, W.listOf vs.toArray n) ∈ news) (hsz : vs.length < 1000) (hds : ToksIn news vs ds) (hbad : headOf ds = none)
    (ret : ∀ h' tk', Fr h₀ L h' m → News h₀ L h' news → Q (.bool true) { s with heap := h', toks := tk' }) :
    wpAny (model PySem.Challenge.rw_og0095_01.row.prog w) A (call (.ref 374) [.ref l]) Q E s := by
  refine wp_weaken (A := ar 350 500 cn nms mo L a ccd [] []) ?_ hA hD (.inr hf.symm) (.inl rfl) hu
  revert X XB; k_fill; intro X XB
  refine wpAny_call ?_
  k_dflt kts_go
  k_steps
  exact ret _ _ (by assumption) (by first | assumption | exact news_tail (by assumption) | exact news_tail (news_tail (by assumption)) | exact news_tail (news_tail (news_tail (by assumption))))
end
inductive RemF : List TokD → Prop
  | nil : RemF []
  | cons {x : Str} {body r : List TokD} : x ∈ REMS → (∀ d ∈ body, isMenu d) → RemF r → RemF (remT x ++ body ++ r)
theorem RemF.append {a b : List TokD} (h : RemF a) (g : RemF b) : RemF (a ++ b) := by
  induction h with
  | nil => exact g
  | cons hx hb _ ih =>
    rw [List.append_assoc]
    exact .cons hx hb ih
theorem RemF.snoc {a body : List TokD} {x : Str} (h : RemF a) (hx : x ∈ REMS) (hb : ∀ d ∈ body, isMenu d) : RemF (a ++ (remT x ++ body)) := by
  have := RemF.append h (RemF.cons hx hb .nil)
  simpa using this
theorem remT_is (x : Str) : remT x = [⟨if x == Str.ofString "." then Str.ofString "sign" else Str.ofString "word", x, true⟩, ⟨Str.ofString "sign", Str.ofString ".", false⟩] := rfl
theorem rems_words : REMS.all (fun x => !(x == Str.ofString ".")) = true := by decide +kernel
theorem rem_word {x : Str} (h : x ∈ REMS) : (x == Str.ofString ".") = false := by simpa using List.all_eq_true.mp rems_words x h
theorem remT_of {x : Str} (h : x ∈ REMS) : remT x = [⟨Str.ofString "word", x, true⟩, ⟨Str.ofString "sign", Str.ofString ".", false⟩] := by rw [remT_is, rem_word h]; rfl
theorem menu_go {d : TokD} (h : isMenu d) : stops d = false := by
  rcases h with rfl | rfl | rfl | rfl <;> decide +kernel
theorem dot_go : stops ⟨Str.ofString "sign", Str.ofString ".", false⟩ = false := by decide +kernel
/-- nothing, or a stop ahead -/
noncomputable def HeadStops (l : List TokD) : Prop := ∀ d l', l = d :: l' → stops d = true
theorem word_stops (x : Str) : stops ⟨Str.ofString "word", x, true⟩ = true := by
  have : ((Str.ofString "word") == Str.ofString "word") = true := by decide +kernel
  simp [stops, this]
theorem tail_stops (t : Nat) : HeadStops (tailT t) := by
  intro d l' e
  match t with
  | 0 => simp only [tailT] at e; have := (List.cons.inj (show (⟨if Str.ofString "DATA" == Str.ofString "." then Str.ofString "sign" else Str.ofString "word", Str.ofString "DATA", true⟩ : TokD) :: _ = d :: l' from e)).1; rw [← this]; decide +kernel
  | 1 => simp only [tailT] at e; have := (List.cons.inj (show (⟨if Str.ofString "ODD" == Str.ofString "." then Str.ofString "sign" else Str.ofString "word", Str.ofString "ODD", true⟩ : TokD) :: _ = d :: l' from e)).1; rw [← this]; decide +kernel
  | t + 2 => simp [tailT] at e
theorem rem_stops {r : List TokD} (h : RemF r) {t : Nat} : HeadStops (r ++ tailT t) := by
  cases h with
  | nil => exact tail_stops t
  | cons hx _ _ =>
    rw [remT_of hx]
    intro d l' e
    rw [← (List.cons.inj e).1]
    exact word_stops _
theorem takeWhile_stops {l : List TokD} (h : HeadStops l) : l.takeWhile (fun d => !stops d) = [] := by
  cases l with
  | nil => rfl
  | cons d l' => rw [List.takeWhile_cons_of_neg (by simp [h d l' rfl])]
theorem past_of {p b r : List TokD} (hb : ∀ d ∈ b, stops d = false) (hr : HeadStops r) : past (p ++ (b ++ r)) p.length = p.length + b.length := by
  unfold past
  rw [List.drop_left, List.takeWhile_append_of_pos (fun d hd => by simp [hb d hd]), takeWhile_stops hr]
  simp
theorem worth_at {p r : List TokD} {d : TokD} {x : Str} : tokIs (p ++ d :: r) p.length (Str.ofString "word") x = (d.kind == Str.ofString "word" && d.worth == x) := by
  simp [tokIs, kindIs, worthIs]
theorem rem_yes {p r : List TokD} {x : Str} (h : x ∈ REMS) : remB (p ++ (⟨Str.ofString "word", x, true⟩ :: r)) p.length = true := by
  refine List.any_eq_true.mpr ⟨x, h, ?_⟩
  have : ((Str.ofString "word") == Str.ofString "word") = true := by decide +kernel
  rw [worth_at]; simp [this]
theorem rem_none {p : List TokD} : remB p p.length = false := by
  refine List.any_eq_false.mpr fun x _ => ?_
  simp [tokIs, kindIs]
theorem data_no : REMS.all (fun x => !(Str.ofString "DATA" == x) && !(Str.ofString "ODD" == x)) = true := by decide +kernel
theorem rem_no {p : List TokD} {t : Nat} : remB (p ++ tailT t) p.length = false := by
  match t with
  | 0 =>
    refine List.any_eq_false.mpr fun x hx => ?_
    have e : tailT 0 = ⟨if Str.ofString "DATA" == Str.ofString "." then Str.ofString "sign" else Str.ofString "word", Str.ofString "DATA", true⟩ :: (tailT 0).tail := rfl
    have z := (Bool.and_eq_true_iff.mp (List.all_eq_true.mp data_no x hx)).1
    rw [e, worth_at]
    simp only [Bool.not_eq_true'] at z
    simp [z]
  | 1 =>
    refine List.any_eq_false.mpr fun x hx => ?_
    have e : tailT 1 = ⟨if Str.ofString "ODD" == Str.ofString "." then Str.ofString "sign" else Str.ofString "word", Str.ofString "ODD", true⟩ :: (tailT 1).tail := rfl
    have z := (Bool.and_eq_true_iff.mp (List.all_eq_true.mp data_no x hx)).2
    rw [e, worth_at]
    simp only [Bool.not_eq_true'] at z
    simp [z]
  | t + 2 => show remB (p ++ []) p.length = false; rw [List.append_nil]; exact rem_none
theorem rems_front {r : List TokD} (h : RemF r) : ∀ {p : List TokD} {t j : Nat}, Rems (p ++ (r ++ tailT t)) p.length j → j = p.length + r.length := by
  induction h with
  | nil =>
    intro p t j R
    cases R with
    | stop _ => rfl
    | step hb _ => rw [List.nil_append, rem_no] at hb; cases hb
  | @cons x body r hx hb hr ih =>
    intro p t j R
    have e : p ++ (remT x ++ body ++ r ++ tailT t) = p ++ (⟨Str.ofString "word", x, true⟩ :: (⟨Str.ofString "sign", Str.ofString ".", false⟩ :: (body ++ (r ++ tailT t)))) := by
      rw [remT_of hx]; simp [List.append_assoc]
    rw [e] at R
    cases R with
    | stop hf => rw [rem_yes hx] at hf; cases hf
    | step _ R =>
      have e2 : p ++ (⟨Str.ofString "word", x, true⟩ :: (⟨Str.ofString "sign", Str.ofString ".", false⟩ :: (body ++ (r ++ tailT t)))) = (p ++ [⟨Str.ofString "word", x, true⟩]) ++ ((⟨Str.ofString "sign", Str.ofString ".", false⟩ :: body) ++ (r ++ tailT t)) := by simp
      have hl : p.length + 1 = (p ++ [(⟨Str.ofString "word", x, true⟩ : TokD)]).length := by simp
      rw [e2, hl, past_of (fun d hd => by
        rcases List.mem_cons.mp hd with rfl | hd
        · exact dot_go
        · exact menu_go (hb d hd)) (rem_stops hr)] at R
      have e3 : (p ++ [⟨Str.ofString "word", x, true⟩]) ++ ((⟨Str.ofString "sign", Str.ofString ".", false⟩ :: body) ++ (r ++ tailT t)) = (p ++ [⟨Str.ofString "word", x, true⟩] ++ (⟨Str.ofString "sign", Str.ofString ".", false⟩ :: body)) ++ (r ++ tailT t) := by simp
      have hl2 : (p ++ [(⟨Str.ofString "word", x, true⟩ : TokD)]).length + ((⟨Str.ofString "sign", Str.ofString ".", false⟩ : TokD) :: body).length = (p ++ [(⟨Str.ofString "word", x, true⟩ : TokD)] ++ ((⟨Str.ofString "sign", Str.ofString ".", false⟩ : TokD) :: body)).length := by simp only [List.length_append]
      rw [e3, hl2] at R
      have := ih R
      rw [this, remT_of hx]
      simp
      omega
noncomputable def hasSub : List Nat → List Nat → Bool
  | [], y => y.isEmpty
  | a :: r, y => y.isPrefixOf (a :: r) || hasSub r y
theorem hasSub_of : ∀ (x y : List Nat) (i : Nat), (x.drop i).take y.length = y → hasSub x y = true
  | [], y, i, h => by
    have : y = [] := by rw [← h]; simp
    rw [this]; rfl
  | a :: r, y, 0, h => by
    unfold hasSub
    have : y.isPrefixOf (a :: r) = true := by
      rw [List.isPrefixOf_iff_prefix, ← h, List.drop_zero]
      exact List.take_prefix _ _
    rw [this, Bool.true_or]
  | a :: r, y, i + 1, h => by
    unfold hasSub
    rw [hasSub_of r y i (by simpa using h), Bool.or_true]
theorem no_sub {x y : Str} (h : hasSub x.cps.toList y.cps.toList = false) : (!(Builtin.Str.occurrences x y 0 x.length 1).isEmpty) = false := by
  rw [Bool.eq_false_iff]
  intro e
  obtain ⟨i, hi, hs⟩ := (StrLaws.found_iff x y).mp e
  have := hasSub_of x.cps.toList y.cps.toList i (by
    have z := StrLaws.subAt_eq x y i
    rw [hs] at z
    exact by simpa [Str.length] using (beq_iff_eq.mp z.symm))
  rw [h] at this; cases this
theorem sub_ABC : hasSub resT.1.cps.toList (Str.ofString " " ++ Str.ofString "ABC" ++ Str.ofString " ").cps.toList = false := by decide +kernel
theorem resB_ABC : resB (Str.ofString "ABC") = false := by
  unfold resB
  refine no_sub ?_
  rw [resT.2]
  exact sub_ABC
theorem name_tok {d : TokD} {ds : List TokD} {k : Nat} (h : ds[k]? = some d) (hk : (d.kind == Str.ofString "word") = true) (hr : resB d.worth = false) : nameIs ds k = true := by
  simp [nameIs, kindIs, h, hk, hr]
noncomputable def lenK : Nat → Nat
  | 0 => 7
  | 1 => 9
  | 2 => 9
  | _ => 10
set_option maxHeartbeats 4000000 in
theorem len_pre (i j k : Nat) : (pre i j k).length = lenK k := by
  match i, k with
  | 0, 0 => rfl
  | 0, 1 => rfl
  | 0, 2 => rfl
  | 0, _ + 3 => rfl
  | _ + 1, 0 => rfl
  | _ + 1, 1 => rfl
  | _ + 1, 2 => rfl
  | _ + 1, _ + 3 => rfl
set_option maxHeartbeats 4000000 in
theorem head_pre (i j k : Nat) (r : List TokD) : headOf (pre i j k ++ r) = some ((tokN j).worth, (pre i j k).length) := by
  have e0 : hd1 (pre i j k ++ r) = some 2 := by
    match i with
    | 0 => kernel_rfl
    | _ + 1 => kernel_rfl
  have e1 : tokIs (pre i j k ++ r) 2 (Str.ofString "sign") (Str.ofString ".") = true := by
    match i with
    | 0 => kernel_rfl
    | _ + 1 => kernel_rfl
  have e2 : wordsAt (pre i j k ++ r) (2 + 1) [(Str.mk #[80, 82, 79, 71, 82, 65, 77, 45, 73, 68])] = true := by
    match i with
    | 0 => kernel_rfl
    | _ + 1 => kernel_rfl
  have e3 : tokIs (pre i j k ++ r) (2 + 1 + 1) (Str.ofString "sign") (Str.ofString ".") = true := by
    match i with
    | 0 => kernel_rfl
    | _ + 1 => kernel_rfl
  have e4 : (pre i j k ++ r)[2 + 1 + 1 + 1]? = some (tokN j) := by
    match i with
    | 0 => rfl
    | _ + 1 => rfl
  have e5 : nmAt (pre i j k ++ r) (2 + 1 + 1 + 1) = some ((tokN j).worth, 2 + 1 + 1 + 1 + 1) := by
    match j with
    | 0 => exact nm_w e4 (by unfold kindIs; rw [e4]; decide +kernel) (name_tok e4 (by decide +kernel) resB_ABC)
    | _ + 1 => exact nm_l e4 (by unfold kindIs; rw [e4]; kernel_rfl)
  have e6 : opt (pre i j k ++ r) (2 + 1 + 1 + 1 + 1) = some (lenK k - 1) := by
    match i, k with
    | 0, 0 => kernel_rfl
    | 0, 1 => kernel_rfl
    | 0, 2 => kernel_rfl
    | 0, _ + 3 => kernel_rfl
    | _ + 1, 0 => kernel_rfl
    | _ + 1, 1 => kernel_rfl
    | _ + 1, 2 => kernel_rfl
    | _ + 1, _ + 3 => kernel_rfl
  have e7 : tokIs (pre i j k ++ r) (lenK k - 1) (Str.ofString "sign") (Str.ofString ".") = true := by
    match i, k with
    | 0, 0 => kernel_rfl
    | 0, 1 => kernel_rfl
    | 0, 2 => kernel_rfl
    | 0, _ + 3 => kernel_rfl
    | _ + 1, 0 => kernel_rfl
    | _ + 1, 1 => kernel_rfl
    | _ + 1, 2 => kernel_rfl
    | _ + 1, _ + 3 => kernel_rfl
  rw [hy e0 e1 e2 e3 e5 e6 e7, len_pre]
  match k with
  | 0 => rfl
  | 1 => rfl
  | 2 => rfl
  | _ + 3 => rfl
theorem head_drop (i j k : Nat) (r : List TokD) : headOf ((pre i j k ++ r).drop 1) = none := by
  match i with
  | 0 => exact hn1 (by kernel_rfl) (by kernel_rfl)
  | _ + 1 => exact hn1 (by kernel_rfl) (by kernel_rfl)
theorem upper_name (j : Nat) : Txt.upper (tokN j).worth = nameN j := by
  match j with
  | 0 => decide +kernel
  | _ + 1 => show Txt.upper (tokN 1).worth = nameN 1; decide +kernel
/-- what cannot be a head, the name apart -/
noncomputable def qOf (ds : List TokD) : Option Nat := (hd1 ds).bind fun k1 => (sg ds k1).bind fun k2 => (wd ds k2 [(Str.mk #[80, 82, 79, 71, 82, 65, 77, 45, 73, 68])] 1).bind fun k3 => sg ds k3
noncomputable def badB (ds : List TokD) : Bool := match qOf ds with
  | none => true
  | some k => ((opt ds (k + 1)).bind fun z => sg ds z).isNone
theorem nmAt_next {ds : List TokD} {k : Nat} {q : Str × Nat} (h : nmAt ds k = some q) : q.2 = k + 1 := by
  unfold nmAt at h
  split at h
  · split at h
    · cases h; rfl
    · split at h
      · cases h; rfl
      · cases h
  · cases h
theorem bad_head {ds : List TokD} (h : badB ds = true) : headOf ds = none := by
  have e : headOf ds = (qOf ds).bind fun k4 => (nmAt ds k4).bind fun p => (opt ds p.2).bind fun k6 => (sg ds k6).bind fun k7 => some (p.1, k7) := by
    unfold headOf qOf
    simp only [Option.bind_assoc]
  rw [e]
  unfold badB at h
  cases q : qOf ds with
  | none => rfl
  | some k =>
    rw [q] at h
    dsimp only [Option.bind_some] at h ⊢
    cases z : nmAt ds k with
    | none => rfl
    | some p =>
      dsimp only [Option.bind_some]
      rw [nmAt_next z]
      cases y : opt ds (k + 1) with
      | none => rfl
      | some k6 =>
        rw [y] at h
        dsimp only [Option.bind_some] at h ⊢
        cases x : sg ds k6 with
        | none => rfl
        | some k7 => rw [x] at h; cases h
theorem cuts : ∀ i < 2, ∀ j < 2, ∀ k < 4, ∀ c < lenK k, badB ((pre i j k).take c) = true := by decide +kernel
theorem holes : ∀ i < 2, ∀ j < 2, ∀ k < 4, badB ((pre i j k).take 4 ++ (pre i j k).drop 5) = true := by decide +kernel
theorem head_cut {i j k c : Nat} (hi : i < 2) (hj : j < 2) (hk : k < 4) (hc : c < (pre i j k).length) (r : List TokD) : headOf ((pre i j k ++ r).take c) = none := by
  rw [List.take_append_of_le_length (Nat.le_of_lt hc)]
  rw [len_pre] at hc
  exact bad_head (cuts i hi j hj k hk c hc)
theorem head_hole {i j k : Nat} (hi : i < 2) (hj : j < 2) (hk : k < 4) (r : List TokD) : headOf ((pre i j k ++ r).take 4 ++ ((pre i j k ++ r).drop 5).take ((pre i j k).length - 5)) = none := by
  have h7 : 7 ≤ (pre i j k).length := by
    rw [len_pre]
    match k with
    | 0 => decide
    | 1 => decide
    | 2 => decide
    | _ + 3 => show 7 ≤ 10; decide
  rw [List.take_append_of_le_length (by omega), List.drop_append_of_le_length (by omega), List.take_append_of_le_length (by rw [List.length_drop]; omega), List.take_of_length_le (l := (pre i j k).drop 5) (by rw [List.length_drop]; omega)]
  exact bad_head (holes i hi j hj k hk)
inductive J1 (h₀ : Heap) (L : Addr) (s s' : Shared) : Prop
  | mk : ∀ (h' : Heap) (tk : Nat) (u : Str → Option Value) (T : Addr) (rest : List (Addr × Obj)), s' = { s with heap := h', toks := tk } → Fr h₀ L h' (lm [(Str.ofString "tape", .ref T)] u) → Led h₀ L h' T 0 rest → J1 h₀ L s s'
inductive J2 (h₀ : Heap) (L : Addr) (s s' : Shared) : Prop
  | mk : ∀ (h' : Heap) (tk : Nat) (u : Str → Option Value) (T : Addr) (rest : List (Addr × Obj)) (l : Addr) (vs : List Value) (nl : Nat) (i : Nat), s' = { s with heap := h', toks := tk } → Fr h₀ L h' (lm [(Str.ofString "tape", .ref T), (Str.ofString "tokens", .ref l)] u) → Led h₀ L h' T 1 rest → (l, W.listOf (List.toArray vs) nl) ∈ rest → vs.length ≤ 300 → ToksIn rest vs (pre2 i) → i < 2 → J2 h₀ L s s'
inductive J3 (h₀ : Heap) (L : Addr) (s s' : Shared) : Prop
  | mk : ∀ (h' : Heap) (tk : Nat) (u : Str → Option Value) (T : Addr) (rest : List (Addr × Obj)) (l : Addr) (vs : List Value) (nl : Nat) (i : Nat) (t : Addr) (x : Str) (tx : Tok) (j : Nat), s' = { s with heap := h', toks := tk } → Fr h₀ L h' (lm [(Str.ofString "tape", .ref T), (Str.ofString "tokens", .ref l), (Str.ofString "token", .ref t), (Str.ofString "name", .str x tx)] u) → Led h₀ L h' T 2 rest → (l, W.listOf (List.toArray vs) nl) ∈ rest → vs.length ≤ 300 → ToksIn rest vs (pre2 i) → i < 2 → TkAt rest t (tokN j) → x = nameN j → j < 2 → J3 h₀ L s s'
inductive J4 (h₀ : Heap) (L : Addr) (s s' : Shared) : Prop
  | mk : ∀ (h' : Heap) (tk : Nat) (u : Str → Option Value) (T : Addr) (rest : List (Addr × Obj)) (l : Addr) (vs : List Value) (nl : Nat) (i : Nat) (j : Nat) (k : Nat) (x : Str) (tx : Tok), s' = { s with heap := h', toks := tk } → Fr h₀ L h' (lm [(Str.ofString "tape", .ref T), (Str.ofString "tokens", .ref l), (Str.ofString "name", .str x tx)] u) → Led h₀ L h' T 3 rest → (l, W.listOf (List.toArray vs) nl) ∈ rest → vs.length ≤ 600 → ToksIn rest vs (pre i j k) → i < 2 → j < 2 → k < 4 → x = nameN j → J4 h₀ L s s'
inductive J5 (h₀ : Heap) (L : Addr) (s s' : Shared) : Prop
  | mk : ∀ (h' : Heap) (tk : Nat) (u : Str → Option Value) (T : Addr) (rest : List (Addr × Obj)) (l : Addr) (i : Nat) (j : Nat) (k : Nat) (x : Str) (tx : Tok) (tw : Tok), s' = { s with heap := h', toks := tk } → Fr h₀ L h' (lm [(Str.ofString "tape", .ref T), (Str.ofString "tokens", .ref l), (Str.ofString "name", .str x tx), (Str.ofString "whole", .int ((pre i j k).length : Int) tw)] u) → LSt h₀ L h' T l 3 (pre i j k) rest → i < 2 → j < 2 → k < 4 → x = nameN j → J5 h₀ L s s'
theorem ne_cl {h₀ h : Heap} {L c l : Addr} {n2 nl : Nat} {cs vs : List Value} {ns : List Int} {ds : List TokD} {news news' : List (Addr × Obj)} (N : News h₀ L h news) (hc : (c, W.listOf cs.toArray n2) ∈ news) (hl : (l, W.listOf vs.toArray nl) ∈ news) (hi : IntsAre cs ns) (hn : 0 < ns.length) (TK : ToksIn news' vs ds) : c ≠ l := fun q => by
  subst q
  have z := news_one N hc hl
  have z2 : cs.toArray = vs.toArray := by injection z with _ _ z _; injection z
  have z3 : cs = vs := by simpa using congrArg Array.toList z2
  subst z3
  cases TK with
  | nil => have := hi.length; simp at this; omega
  | cons h _ => cases hi
inductive J6 (h₀ : Heap) (L : Addr) (s s' : Shared) : Prop
  | mk : ∀ (h' : Heap) (tk : Nat) (u : Str → Option Value) (T : Addr) (rest : List (Addr × Obj)) (l : Addr) (i : Nat) (j : Nat) (k : Nat) (n : Nat) (r : List TokD) (x : Str) (tx : Tok) (tw : Tok), s' = { s with heap := h', toks := tk } → Fr h₀ L h' (lm [(Str.ofString "tape", .ref T), (Str.ofString "tokens", .ref l), (Str.ofString "name", .str x tx), (Str.ofString "whole", .int ((pre i j k).length : Int) tw)] u) → LSt h₀ L h' T l n (pre i j k ++ r) rest → i < 2 → j < 2 → k < 4 → x = nameN j → n ≤ 19 → RemF r → r.length ≤ 15 → J6 h₀ L s s'
noncomputable def Stop (P : Prop) : Prop := P
theorem Stop.mk {P : Prop} (h : Stop P) : P := h
noncomputable def InvO (D : List TokD) (i k : Nat) (ds : List TokD) : Prop := k ≤ 4 + 5 * i ∧ ∃ r, ds = D ++ r ∧ RemF r ∧ r.length ≤ 5 * i
noncomputable def InvI (k₀ : Nat) (D : List TokD) (i k : Nat) (ds : List TokD) : Prop := k ≤ k₀ + i ∧ ∃ b, ds = D ++ b ∧ (∀ d ∈ b, isMenu d) ∧ b.length ≤ i
noncomputable def AddR (k₀ : Nat) (D : List TokD) (k : Nat) (ds : List TokD) : Prop := k = k₀ + 1 ∧ ∃ x, x ∈ REMS ∧ ds = D ++ remT x
theorem lenK_le (k : Nat) : lenK k ≤ 10 := by
  match k with
  | 0 => decide
  | 1 => decide
  | 2 => decide
  | _ + 3 => exact Nat.le_refl _
theorem invO_len {i j k n m : Nat} {ds : List TokD} (h : InvO (pre i j k) n m ds) (hn : n ≤ 3) : ds.length ≤ 25 ∧ m ≤ 19 := by
  obtain ⟨h1, r, rfl, _, h2⟩ := h
  have := lenK_le k
  rw [List.length_append, len_pre]
  omega
theorem remT_len (x : Str) : (remT x).length = 2 := rfl
theorem invO_step {D ds ds1 ds2 : List TokD} {i k k1 k2 n : Nat} (h : InvO D i k ds) (h1 : AddR k ds k1 ds1) (h2 : InvI (k1 + 1) ds1 n k2 ds2) (hn : n ≤ 3) : InvO D (i + 1) k2 ds2 := by
  obtain ⟨a1, r, rfl, hr, a2⟩ := h
  obtain ⟨rfl, x, hx, rfl⟩ := h1
  obtain ⟨b1, b, rfl, hb, b2⟩ := h2
  refine ⟨by omega, r ++ (remT x ++ b), by simp only [List.append_assoc], hr.snoc hx hb, ?_⟩
  rw [List.length_append, List.length_append, remT_len]
  omega
theorem lt4 {a b c D : Addr} {r old : List (Addr × Obj)} (h : a < D ∧ b < D ∧ c < D ∧ AllLt D r) (sb : Sub old r) : ∀ p ∈ old, p.1 ≠ D := fun p hp => Nat.ne_of_lt (allLt_mem h.2.2.2 p (sb p hp))
theorem push_mem {l : Addr} {vs : List Value} {v : Value} {n : Nat} {news : List (Addr × Obj)} (h : (l, W.listOf (vs.toArray.push v) n) ∈ news) : (l, W.listOf (List.toArray (vs ++ [v])) n) ∈ news := by
  rw [← List.push_toArray]; exact h
theorem invI_len {k k' k1 k2 i : Nat} {ds ds1 ds2 : List TokD} (h1 : AddR k ds k1 ds1) (h2 : InvI k' ds1 i k2 ds2) : ds2.length ≤ ds.length + 2 + i := by
  obtain ⟨_, x, _, rfl⟩ := h1
  obtain ⟨_, b, rfl, _, hb⟩ := h2
  rw [List.length_append, List.length_append, remT_len]
  omega
theorem invI_step {k₀ i k : Nat} {D ds : List TokD} {d : TokD} (h : InvI k₀ D i k ds) (hd : isMenu d) : InvI k₀ D (i + 1) (k + 1) (ds ++ [d]) := by
  obtain ⟨h1, b, rfl, hb, h2⟩ := h
  refine ⟨by omega, b ++ [d], by rw [List.append_assoc], fun e he => ?_, by rw [List.length_append, List.length_singleton]; omega⟩
  rcases List.mem_append.mp he with he | he
  · exact hb e he
  · rw [List.mem_singleton.mp he]; exact hd
inductive J7 (h₀ : Heap) (L : Addr) (s s' : Shared) : Prop
  | mk : ∀ (h' : Heap) (tk : Nat) (u : Str → Option Value) (T : Addr) (rest : List (Addr × Obj)) (l : Addr) (i : Nat) (j : Nat) (k : Nat) (n : Nat) (r : List TokD) (x : Str) (tx : Tok) (tw : Tok) (tp : Tok), s' = { s with heap := h', toks := tk } → Fr h₀ L h' (lm [(Str.ofString "tape", .ref T), (Str.ofString "tokens", .ref l), (Str.ofString "name", .str x tx), (Str.ofString "whole", .int ((pre i j k).length : Int) tw), (Str.ofString "place", .int ((pre i j k ++ r).length : Int) tp)] u) → LSt h₀ L h' T l n (pre i j k ++ r) rest → i < 2 → j < 2 → k < 4 → x = nameN j → n ≤ 19 → RemF r → r.length ≤ 15 → J7 h₀ L s s'
inductive J8 (h₀ : Heap) (L : Addr) (s s' : Shared) : Prop
  | mk : ∀ (h' : Heap) (tk : Nat) (u : Str → Option Value) (news : List (Addr × Obj)) (l : Addr) (vs : List Value) (nl : Nat) (i : Nat) (j : Nat) (k : Nat) (r : List TokD) (t : Nat) (x : Str) (tx : Tok) (tw : Tok) (tp : Tok), s' = { s with heap := h', toks := tk } → Fr h₀ L h' (lm [(Str.ofString "tokens", .ref l), (Str.ofString "name", .str x tx), (Str.ofString "whole", .int ((pre i j k).length : Int) tw), (Str.ofString "place", .int ((pre i j k ++ r).length : Int) tp)] u) → News h₀ L h' news → (l, W.listOf (List.toArray vs) nl) ∈ news → ToksIn news vs (pre i j k ++ (r ++ tailT t)) → vs.length ≤ 200 → i < 2 → j < 2 → k < 4 → x = nameN j → RemF r → r.length ≤ 15 → J8 h₀ L s s'
theorem toks_app {news : List (Addr × Obj)} {a b : List Value} {p r t : List TokD} (h : ToksIn news a (p ++ r)) (g : ToksIn news b t) : ToksIn news (a ++ b) (p ++ (r ++ t)) := by
  rw [← List.append_assoc]; exact h.append g
theorem pre_len (i j k : Nat) : (pre i j k).length ≤ 10 := by rw [len_pre]; exact lenK_le k
inductive J9 (h₀ : Heap) (L : Addr) (s s' : Shared) : Prop
  | mk : ∀ (h' : Heap) (tk : Nat) (u : Str → Option Value) (news : List (Addr × Obj)) (l : Addr) (vs : List Value) (nl : Nat) (i : Nat) (j : Nat) (k : Nat) (r : List TokD) (t : Nat) (x : Str) (tx : Tok) (tw : Tok) (tp : Tok) (nd : Addr) (o : Obj) (rr : Addr) (dx : Addr) (h1 : Int) (h2 : Int) (h3 : Int) (k1 : Tok) (k2 : Tok) (k3 : Tok) (tk0 : Tok), s' = { s with heap := h', toks := tk } → Fr h₀ L h' (lm [(Str.ofString "tokens", .ref l), (Str.ofString "name", .str x tx), (Str.ofString "whole", .int ((pre i j k).length : Int) tw), (Str.ofString "place", .int ((pre i j k ++ r).length : Int) tp), (Str.ofString "reader", .ref rr)] u) → News h₀ L h' ((nd, o) :: (rr, instObj 320 dx) :: (dx, rdObj l nd h1 h2 h3 k1 k2 k3 0 tk0) :: news) → nd ≠ dx → rr ≠ dx → (∀ p ∈ news, p.1 ≠ dx) → (l, W.listOf (List.toArray vs) nl) ∈ news → ToksIn news vs (pre i j k ++ (r ++ tailT t)) → vs.length ≤ 200 → i < 2 → j < 2 → k < 4 → x = nameN j → RemF r → r.length ≤ 15 → J9 h₀ L s s'
inductive J10 (h₀ : Heap) (L : Addr) (s s' : Shared) : Prop
  | mk : ∀ (h' : Heap) (tk : Nat) (u : Str → Option Value) (news : List (Addr × Obj)) (l : Addr) (vs : List Value) (nl : Nat) (i : Nat) (j : Nat) (k : Nat) (r : List TokD) (tw : Tok), s' = { s with heap := h', toks := tk } → Fr h₀ L h' (lm [(Str.ofString "tokens", .ref l), (Str.ofString "whole", .int ((pre i j k).length : Int) tw)] u) → News h₀ L h' news → (l, W.listOf (List.toArray vs) nl) ∈ news → ToksIn news vs (pre i j k ++ r) → vs.length ≤ 200 → i < 2 → j < 2 → k < 4 → J10 h₀ L s s'
section
variable {w : World} {p : Program} {loose : List Str} {mean : ExcName → Option Value} {mg mb : Str → Option Value} {A A₀ : Around}
    {cn : Str} {nms : List (Str × NameKind)} {mo : List (Str × Const)} {a : Addr} {ccd : Value} {cl : List (Str × Addr)} {outer : List Env} {base h₀ : Heap} {L : Addr} {m : Str → Option Value} {s : Shared} {Q E : Value → Shared → Prop}
    {news : List (Addr × Obj)} {r dx nd l : Addr} {o : Obj} {h1 h2 h3 : Int} {k1 k2 k3 tk0 : Tok} {vs : List Value} {n : Nat}
theorem read_ok {i j k t : Nat} {rr : List TokD} {x : Str} (hA : A.handled = none) (hD : A.depth ≤ 400) (hf : A.frames = some (envX cn { kind := .function, names := nms, isGenerator := false, isCoroutine := false, more := mo } L a ccd cl :: outer)) (hu : A.units ≤ 1000)
    (B : Below A₀ base outer h₀) (F : Fr h₀ L s.heap m) (X : (hd.heap_1 w.params).In h₀) (N : News h₀ L s.heap ((nd, o) :: (r, instObj 320 dx) :: (dx, rdObj l nd h1 h2 h3 k1 k2 k3 0 tk0) :: news)) (T : Top p loose mean mg mb h₀)
    (ne1 : nd ≠ dx) (ne2 : r ≠ dx) (ne3 : ∀ p ∈ news, p.1 ≠ dx) (hl : (l, W.listOf vs.toArray n) ∈ news) (hsz : vs.length ≤ 200) (hds : ToksIn news vs (pre i j k ++ (rr ++ tailT t))) (hr : RemF rr) (hx : x = nameN j)
    (ret : ∀ t h' tk' tk2, Fr h₀ L h' m → News h₀ L h' ((nd, o) :: (r, instObj 320 dx) :: (dx, rdObj l nd h1 h2 h3 k1 k2 k3 (pre i j k ++ rr).length tk2) :: news) → Q (.str x t) { s with heap := h', toks := tk' }) :
    wpAny (model PySem.Challenge.rw_og0095_01.row.prog w) A (call (.ref 41) [.ref r]) Q E s := by
  refine read_id_new hA hD hf hu B F X N T ne1 ne2 ne3 hl (by omega) hds (head_pre i j k _) (fun j' R => (rems_front hr R).trans List.length_append.symm) ?_
  intro tt h' tk' tk2 F' N'
  rw [upper_name, ← hx]
  exact ret tt h' tk' tk2 F' N'
end
theorem pyIter_here {M : Model} {A : Around} {t : Sem Value} {Q : Value → Shared → Prop} {E : Value → Shared → Prop} {s : Shared} (h : wpAny M A t Q E s) : wpAny M A t Q E s := h
local macro_rules | `(tactic| k_mem) => `(tactic| first | assumption | exact List.Mem.head _ | (refine List.Mem.tail _ ?_; k_mem) | (refine Sub.use (by assumption) ?_; k_mem))
local macro_rules | `(tactic| k_all) => `(tactic| first | assumption | exact fun p hp => (by assumption : ∀ p ∈ _, p.1 ≠ _) p hp)
local macro_rules | `(tactic| ktr_rel) => `(tactic| first | assumption | exact ToksIn.mono (by assumption) (by assumption) | exact ToksIn.mono (ToksIn.mono (by assumption) (by assumption)) (by assumption) | exact ToksIn.mono (ToksIn.mono (ToksIn.mono (by assumption) (by assumption)) (by assumption)) (by assumption))
theorem row22 : True := by
  k_with "call ref" => (k_here; (with_reducible show wpAny _ _ (call (Value.ref 362) [Value.ref _, Value.int _ _]) _ _ _); k_dflt (refine' draw_cU (by exact rfl) (by k_units) (by exact rfl) (by k_units) (by assumption) (by assumption) (by assumption) (by assumption) ?dwU ?dwT ?dwc ?dwi ?dw1 ?dw2 ?dw3 ?dw4 ?dw5 ?_; (case dwU => k_updF); (case dwT => assumption); (case dwc => k_mem); (case dwi => assumption); (case dw1 => assumption); (case dw2 => assumption); (case dw3 => omega); (case dw4 => decide); (case dw5 => decide)); intro r9q t9q h9q tk9q ta9q r0 r1 F9q N9q; (try dsimp only at N9q); (try dsimp only); (try k_sweep))
  k_with "call ref" => (k_here; (with_reducible show wpAny _ _ (call (Value.ref 367) [Value.str _ _]) _ _ _); k_dflt (first | (refine' words_cP (pr := [_]) (by exact rfl) (by k_units) (by exact rfl) (by k_units) (by assumption) (by assumption) (by assumption) (by assumption) (by assumption) ?ww1 ?ww2 rfl ?ww3 ?ww4 ?ww5 ?_; (case ww2 => assumption); (case ww1 => k_mem); (case ww3 => decide +kernel); (case ww4 => decide +kernel); (case ww5 => decide +kernel)) | (refine' words_cP (pr := [_, _]) (by exact rfl) (by k_units) (by exact rfl) (by k_units) (by assumption) (by assumption) (by assumption) (by assumption) (by assumption) ?ww1 ?ww2 rfl ?ww3 ?ww4 ?ww5 ?_; (case ww2 => assumption); (case ww1 => k_mem); (case ww3 => decide +kernel); (case ww4 => decide +kernel); (case ww5 => decide +kernel)) | (refine' words_cP (pr := [_, _, _]) (by exact rfl) (by k_units) (by exact rfl) (by k_units) (by assumption) (by assumption) (by assumption) (by assumption) (by assumption) ?ww1 ?ww2 rfl ?ww3 ?ww4 ?ww5 ?_; (case ww2 => assumption); (case ww1 => k_mem); (case ww3 => decide +kernel); (case ww4 => decide +kernel); (case ww5 => decide +kernel)) | (refine' words_cP (pr := [_, _, _, _]) (by exact rfl) (by k_units) (by exact rfl) (by k_units) (by assumption) (by assumption) (by assumption) (by assumption) (by assumption) ?ww1 ?ww2 rfl ?ww3 ?ww4 ?ww5 ?_; (case ww2 => assumption); (case ww1 => k_mem); (case ww3 => decide +kernel); (case ww4 => decide +kernel); (case ww5 => decide +kernel))); intro l9q vs9q rest9q h9q tk9q F9q N9q sub9q off9q aq9q ne9q len9q TK9q; (try dsimp only [List.cons_append, List.nil_append] at N9q aq9q); (try simp only [List.forall_mem_cons] at aq9q); (try dsimp only); (try k_sweep))
  k_with "binaryOp Add ref ref" => (k_here; (with_reducible show wpAny _ _ (binaryOp Operator.Add (Value.ref _) (Value.ref _)) _ _ _); k_dflt (refine' add_l (by k_asm) (by k_asm) (by k_mem) (by k_mem) (by (try simp only [List.length_append, List.length_cons, List.length_nil, List.length_drop, List.length_take]); omega) ?_); intro D9q h9q F9q N9q l1; (try k_lt l1); (try dsimp only); (try k_sweep))
  k_with "subscriptTail" => (k_here; (with_reducible show wpAny _ _ (subscriptTail _ _ (Value.ref _) (Value.int _ _)) _ _ _); k_dflt (refine' menu_t (by k_asm) (by k_mem) (by assumption) (by assumption) (by k_units) ?_ (by with_unfolding_all rfl)); (simp only [AllQ]); (repeat' (first | refine And.intro ?_ ?_)))
  k_with "subscriptTail Tuple Call ref int" => (k_here; (with_reducible show wpAny _ _ (subscriptTail _ _ (Value.ref _) (Value.int _ _)) _ _ _); k_dflt (refine' menu_t (by k_asm) (by k_mem) (by assumption) (by assumption) (by k_units) ?_ (by with_unfolding_all rfl)); (simp only [AllQ]); (repeat' (first | refine And.intro ?_ ?_)))
  k_with "subscriptTail" => (k_here; (with_reducible show wpAny _ _ (subscriptTail _ (PySem.Expr.Slice _ _ none _) (Value.ref _) (Value.ref _)) _ _ _); k_dflt (refine' slice_l (by k_asm) (by k_asm) (by k_mem) (by omega) (by kmk_part) (by kmk_part) (by first | exact pick_from _ 1 | exact pick_to _ 4 | exact pick_to _ _ | exact pick_mid _ 5 _ (by omega)) ?_ (by with_unfolding_all rfl)); intro D9q h9q F9q N9q l1; (try k_lt l1); (try dsimp only); (try k_sweep))
  k_with "subscriptTail Name Slice ref ref" => (k_here; (with_reducible show wpAny _ _ (subscriptTail _ (PySem.Expr.Slice _ _ none _) (Value.ref _) (Value.ref _)) _ _ _); k_dflt (refine' slice_l (by k_asm) (by k_asm) (by k_mem) (by omega) (by kmk_part) (by kmk_part) (by first | exact pick_from _ 1 | exact pick_to _ 4 | exact pick_to _ _ | exact pick_mid _ 5 _ (by omega)) ?_ (by with_unfolding_all rfl)); intro D9q h9q F9q N9q l1; (try k_lt l1); (try dsimp only); (try k_sweep))
  k_with "subscriptTail Call Slice ref ref" => (k_here; (with_reducible show wpAny _ _ (subscriptTail _ (PySem.Expr.Slice _ _ none _) (Value.ref _) (Value.ref _)) _ _ _); k_dflt (refine' slice_l (by k_asm) (by k_asm) (by k_mem) (by omega) (by kmk_part) (by kmk_part) (by first | exact pick_from _ 1 | exact pick_to _ 4 | exact pick_to _ _ | exact pick_mid _ 5 _ (by omega)) ?_ (by with_unfolding_all rfl)); intro D9q h9q F9q N9q l1; (try k_lt l1); (try dsimp only); (try k_sweep))
  k_with "call builtin:len" => (k_here; (with_reducible show wpAny _ _ (call (Value.builtin "len") [Value.ref _]) _ _ _); k_dflt (refine' len_l (by k_asm) (by k_mem) (by omega) ?_))
  k_with "call type:range" => (k_here; (with_reducible show wpAny _ _ (call (Value.type "range") [Value.int _ _]) _ _ _); k_dflt (refine' range1_rows (by k_asm) (by k_asm) ?_); intro h9q tk9q t91q u91q v91q R9q F9q N9q K9q; clear K9q; (try dsimp only); (try k_sweep))
  k_with "pyIter ref" => (k_here; (with_reducible show wpAny _ _ (pyIter (Value.ref _)) (fun it s₂ => LoopAtV _ _ _ _ _ _ _ _ _ it s₂) _ _); refine Stop.mk ?_)
  k_with "subscriptTail" => (k_here; (with_reducible show wpAny _ _ (subscriptTail (PySem.Expr.Name (Str.ofString "_law_remarks") _) _ (Value.ref _) (Value.int _ _)) _ _ _); k_dflt (refine' menu_k (by k_asm) (by k_asm) (by k_is) (by rfl) (by rfl) (by assumption) (by assumption) (by k_units) ?_ (by with_unfolding_all rfl)); (simp only [AllQ]); (repeat' (first | refine And.intro ?_ ?_)))
  k_with "call ref" => (k_here; (with_reducible show wpAny _ _ (call (Value.ref 350) [Value.str _ _, Value.str _ _]) _ _ _); k_dflt (refine' token_c2 (by exact rfl) (by k_units) (by exact rfl) (by k_units) (by assumption) (by assumption) (by assumption) (by assumption) (by assumption) (by assumption) (by assumption) (by decide +kernel) ?_); intro x9q rest9q h9q tk9q F9q N9q sub9q offT9q offl9q TK9q; (try dsimp only); (try k_sweep))
  k_with "call ref" => (k_here; (with_reducible show wpAny _ _ (call (Value.ref 350) [Value.str _ _, Value.str _ _, Value.ref _, Value.bool _]) _ _ _); k_dflt (refine' token_c4 (by exact rfl) (by k_units) (by exact rfl) (by k_units) (by assumption) (by assumption) (by assumption) (by assumption) (by assumption) (by assumption) (by assumption) ?tk4 ?tk5 ?tk3 ?_; (case tk4 => k_ne); (case tk5 => k_ne); (case tk3 => decide +kernel)); intro x9q rest9q h9q tk9q F9q N9q sub9q offT9q offl9q TK9q; (try dsimp only); (try k_sweep))
  k_with "call ref" => (k_here; (with_reducible show wpAny _ _ (call (Value.ref 41) [Value.ref _]) _ _ _); k_dflt (refine' read_ok (by exact rfl) (by k_units) (by exact rfl) (by k_units) (by assumption) (by assumption) (by assumption) (by assumption) (by assumption) (by assumption) (by assumption) (by assumption) (by assumption) (by assumption) (by assumption) (by assumption) (by assumption) ?_); intro t9q h9q tk9q tk92q F9q N9q; (try dsimp only); (try k_sweep))
  k_with "call ref" => (k_here; (with_reducible show wpAny _ _ (call (Value.ref 374) [Value.ref _]) _ _ _); refine Stop.mk ?_)
  trivial
set_option maxHeartbeats 8000000 in
theorem fin : PySem.Challenge.rw_og0095_01.Holds := hd (by
  k_fill
  intro w s₀ s₁ mg mb G Y fa o pm cd doc dV kV ho hdt hcd hD hmg hg args vals as hpre hlay hrd hwl hlo
  have KX : (hd.heap_1 w.params).In s₁.heap := Y
  k_behind G ho hdt hcd hD hmg hpre hlay hrd hwl hlo cd
  all_goals (try k_fold)
  rename Below _ _ _ _ => K0'
  have K1 : Below callerA s₁.heap [] s₁.heap := K0'
  clear K0'
  refine seq_cut (J1 s₁.heap s₁.heap.objs.size s₁) ?_ ?_
  · k_steps
    · exact ⟨rfl, _, _, _, _, _, rfl, fr_lm (by assumption) [(Str.ofString "tape", _)] ⟨rfl, trivial⟩, led_pack (by assumption) (.head _) (.tail _ (.head _)) (by k_ne) (by assumption) (by assumption) (by rw [List.length_take]; omega)⟩
    · exact ⟨rfl, _, _, _, _, _, rfl, fr_lm (by assumption) [(Str.ofString "tape", _)] ⟨rfl, trivial⟩, led_pack (by assumption) (.head _) (.tail _ (.head _)) (by k_ne) (.cons 3 _ .nil) (by decide) (by decide)⟩
  intro s9 j9
  obtain ⟨h9, tk9, u9, T, rest, rfl, F9, c9, ta9, n9, cs9, n29, ns9, N9, off9, hc9, hi9, hn9, hm9⟩ := j9
  have hcT : c9 ≠ T := off9 _ hc9
  refine seq_cut (J2 s₁.heap s₁.heap.objs.size s₁) ?_ ?_
  · k_steps
    · exact ⟨rfl, _, _, _, T, _, _, _, _, 0, rfl, fr_lm (by assumption) [(Str.ofString "tape", _), (Str.ofString "tokens", _)] ⟨rfl, rfl, trivial⟩, led_pack (by assumption) (by k_mem) (by k_mem) hcT (by assumption) (by assumption) (by assumption), butA_mem (.head _) (by k_ne), (by rw [List.length_append]; omega), toks_but (by assumption) (by k_mem : (T, tapeO c9 (0 + 1) _ _) ∈ _) (.inl rfl) (ToksIn.append (toks_ws (ToksIn.mono (by assumption) (fun p hp => by k_mem)) (by decide +kernel : _ = wsA 0)) (toks_ws (ToksIn.mono (by assumption) (fun p hp => by k_mem)) (by decide +kernel : _ = wsP))), by decide⟩
    · exact ⟨rfl, _, _, _, T, _, _, _, _, 1, rfl, fr_lm (by assumption) [(Str.ofString "tape", _), (Str.ofString "tokens", _)] ⟨rfl, rfl, trivial⟩, led_pack (by assumption) (by k_mem) (by k_mem) hcT (by assumption) (by assumption) (by assumption), butA_mem (.head _) (by k_ne), (by rw [List.length_append]; omega), toks_but (by assumption) (by k_mem : (T, tapeO c9 (0 + 1) _ _) ∈ _) (.inl rfl) (ToksIn.append (toks_ws (ToksIn.mono (by assumption) (fun p hp => by k_mem)) (by decide +kernel : _ = wsA 1)) (toks_ws (ToksIn.mono (by assumption) (fun p hp => by k_mem)) (by decide +kernel : _ = wsP))), by decide⟩
  intro s9 j9
  obtain ⟨h9, tk9, u9, T, rest, l, vs, nl, i, rfl, F9, ⟨c9, ta9, n9, cs9, n29, ns9, N9, off9, hc9, hi9, hn9, hm9⟩, ml, lv, TK, hi⟩ := j9
  have hcT : c9 ≠ T := off9 _ hc9
  have hlT : l ≠ T := off9 _ ml
  refine seq_cut (J3 s₁.heap s₁.heap.objs.size s₁) ?_ ?_
  · k_steps
    · exact ⟨rfl, _, _, _, T, _, l, vs, nl, i, _, _, _, 0, rfl, fr_lm (by assumption) [(Str.ofString "tape", _), (Str.ofString "tokens", _), (Str.ofString "token", _), (Str.ofString "name", _)] ⟨rfl, rfl, rfl, rfl, trivial⟩, led_pack (by assumption) (by k_mem) (by k_mem) hcT (by assumption) (by assumption) (by assumption), butA_mem (by k_mem) hlT, lv, toks_but (by assumption) (by k_mem : (T, tapeO c9 (1 + 1) _ _) ∈ _) (.inl rfl) (ToksIn.mono TK (fun p hp => by k_mem)), hi, tkAt_but (by assumption) (by k_mem : (T, tapeO c9 (1 + 1) _ _) ∈ _) (.inl rfl) (tkAt_mk (by k_mem) (by k_mem) rfl (by decide +kernel)), rfl, by decide⟩
    · exact ⟨rfl, _, _, _, T, _, l, vs, nl, i, _, _, _, 1, rfl, fr_lm (by assumption) [(Str.ofString "tape", _), (Str.ofString "tokens", _), (Str.ofString "token", _), (Str.ofString "name", _)] ⟨rfl, rfl, rfl, rfl, trivial⟩, led_pack (by assumption) (by k_mem) (by k_mem) hcT (by assumption) (by assumption) (by assumption), butA_mem (by k_mem) hlT, lv, toks_but (by assumption) (by k_mem : (T, tapeO c9 (1 + 1) _ _) ∈ _) (.inl rfl) (ToksIn.mono TK (fun p hp => by k_mem)), hi, tkAt_but (by assumption) (by k_mem : (T, tapeO c9 (1 + 1) _ _) ∈ _) (.inl rfl) (tkAt_mk (by k_mem) (by k_mem) rfl (by decide +kernel)), rfl, by decide⟩
  intro s9 j9
  obtain ⟨h9, tk9, u9, T, rest, l, vs, nl, i, t, x, tx, j, rfl, F9, ⟨c9, ta9, n9, cs9, n29, ns9, N9, off9, hc9, hi9, hn9, hm9⟩, ml, lv, TK, hi, TN, hx, hj⟩ := j9
  have hcT : c9 ≠ T := off9 _ hc9
  have hlT : l ≠ T := off9 _ ml
  refine seq_cut (J4 s₁.heap s₁.heap.objs.size s₁) ?_ ?_
  · k_steps
    · exact ⟨rfl, _, _, _, T, _, _, _, _, i, j, 0, x, tx, rfl, fr_lm (by assumption) [(Str.ofString "tape", _), (Str.ofString "tokens", _), (Str.ofString "name", _)] ⟨rfl, rfl, rfl, trivial⟩, led_pack (by assumption) (by k_mem) (by k_mem) hcT (by assumption) (by assumption) (by assumption), butA_mem (.head _) (by k_ne), (by simp only [List.length_append, List.length_drop, List.length_cons, List.length_nil]; omega), toks_but (by assumption) (by k_mem : (T, tapeO c9 (2 + 1) _ _) ∈ _) (.inl rfl) (ToksIn.append (ToksIn.append (ToksIn.mono TK (fun p hp => by k_mem)) (ToksIn.one (TkAt.mono TN (fun p hp => by k_mem)))) (ToksIn.drop (toks_ws (ToksIn.mono (by assumption) (fun p hp => by k_mem)) (by decide +kernel : _ = wsK 0)) 1)), hi, hj, by decide, hx⟩
    · exact ⟨rfl, _, _, _, T, _, _, _, _, i, j, 1, x, tx, rfl, fr_lm (by assumption) [(Str.ofString "tape", _), (Str.ofString "tokens", _), (Str.ofString "name", _)] ⟨rfl, rfl, rfl, trivial⟩, led_pack (by assumption) (by k_mem) (by k_mem) hcT (by assumption) (by assumption) (by assumption), butA_mem (.head _) (by k_ne), (by simp only [List.length_append, List.length_drop, List.length_cons, List.length_nil]; omega), toks_but (by assumption) (by k_mem : (T, tapeO c9 (2 + 1) _ _) ∈ _) (.inl rfl) (ToksIn.append (ToksIn.append (ToksIn.mono TK (fun p hp => by k_mem)) (ToksIn.one (TkAt.mono TN (fun p hp => by k_mem)))) (ToksIn.drop (toks_ws (ToksIn.mono (by assumption) (fun p hp => by k_mem)) (by decide +kernel : _ = wsK 1)) 1)), hi, hj, by decide, hx⟩
    · exact ⟨rfl, _, _, _, T, _, _, _, _, i, j, 2, x, tx, rfl, fr_lm (by assumption) [(Str.ofString "tape", _), (Str.ofString "tokens", _), (Str.ofString "name", _)] ⟨rfl, rfl, rfl, trivial⟩, led_pack (by assumption) (by k_mem) (by k_mem) hcT (by assumption) (by assumption) (by assumption), butA_mem (.head _) (by k_ne), (by simp only [List.length_append, List.length_drop, List.length_cons, List.length_nil]; omega), toks_but (by assumption) (by k_mem : (T, tapeO c9 (2 + 1) _ _) ∈ _) (.inl rfl) (ToksIn.append (ToksIn.append (ToksIn.mono TK (fun p hp => by k_mem)) (ToksIn.one (TkAt.mono TN (fun p hp => by k_mem)))) (ToksIn.drop (toks_ws (ToksIn.mono (by assumption) (fun p hp => by k_mem)) (by decide +kernel : _ = wsK 2)) 1)), hi, hj, by decide, hx⟩
    · exact ⟨rfl, _, _, _, T, _, _, _, _, i, j, 3, x, tx, rfl, fr_lm (by assumption) [(Str.ofString "tape", _), (Str.ofString "tokens", _), (Str.ofString "name", _)] ⟨rfl, rfl, rfl, trivial⟩, led_pack (by assumption) (by k_mem) (by k_mem) hcT (by assumption) (by assumption) (by assumption), butA_mem (.head _) (by k_ne), (by simp only [List.length_append, List.length_drop, List.length_cons, List.length_nil]; omega), toks_but (by assumption) (by k_mem : (T, tapeO c9 (2 + 1) _ _) ∈ _) (.inl rfl) (ToksIn.append (ToksIn.append (ToksIn.mono TK (fun p hp => by k_mem)) (ToksIn.one (TkAt.mono TN (fun p hp => by k_mem)))) (ToksIn.drop (toks_ws (ToksIn.mono (by assumption) (fun p hp => by k_mem)) (by decide +kernel : _ = wsK 3)) 1)), hi, hj, by decide, hx⟩
  intro s9 j9
  obtain ⟨h9, tk9, u9, T, rest, l, vs, nl, i, j, k, x, tx, rfl, F9, ⟨c9, ta9, n9, cs9, n29, ns9, N9, off9, hc9, hi9, hn9, hm9⟩, ml, lv, TK, hi, hj, hk, hx⟩ := j9
  have hcT : c9 ≠ T := off9 _ hc9
  have hlT : l ≠ T := off9 _ ml
  refine seq_cut (J5 s₁.heap s₁.heap.objs.size s₁) ?_ ?_
  · k_steps
    exact ⟨rfl, _, _, _, T, _, l, i, j, k, x, tx, _, rfl, fr_lm (by assumption) [(Str.ofString "tape", _), (Str.ofString "tokens", _), (Str.ofString "name", _), (Str.ofString "whole", _)] ⟨rfl, rfl, rfl, (by rw [← TK.length]; rfl), trivial⟩, lst_pack (by assumption) (by k_mem) (.tail _ ml) (.tail _ hc9) hlT.symm hcT (ne_cl (by assumption) (.tail _ hc9) (.tail _ ml) hi9 hn9 TK) hi9 hn9 hm9 (ToksIn.mono TK (fun p hp => by k_mem)) (by omega), hi, hj, hk, hx⟩
  intro s9 j9
  obtain ⟨h9, tk9, u9, T, rest, l, i, j, k, x, tx, tw, rfl, F9, ⟨c9, ta9, n9, cs9, n29, ns9, vs, nl, N9, hTl, offT9, offl9, hc9, hi9, hn9, hm9, TK, lv⟩, hi, hj, hk, hx⟩ := j9
  have hlT : l ≠ T := hTl.symm
  have hcT : c9 ≠ T := offT9 _ hc9
  refine seq_cut (J6 s₁.heap s₁.heap.objs.size s₁) ?_ ?_
  · k_steps
    unfold Stop
    k_dflt (refine' iter_LS (InvO (pre i j k)) rfl (by assumption) ⟨c9, _, n9, cs9, n29, ns9, vs, nl, by assumption, hTl, offT9, offl9, hc9, hi9, hn9, hm9, TK, lv⟩ (by assumption) (Int.toNat_of_nonneg (by assumption)).symm (by omega) ⟨by omega, [], (List.append_nil _).symm, .nil, by simp⟩ ?hx ?turn ?done)
    case hx => exact (List.forall_mem_cons.mpr ⟨(by decide +kernel : (Str.ofString "tape" == Str.ofString "turn") = false), (List.forall_mem_cons.mpr ⟨(by decide +kernel : (Str.ofString "tokens" == Str.ofString "turn") = false), (List.forall_mem_cons.mpr ⟨(by decide +kernel : (Str.ofString "name" == Str.ofString "turn") = false), (List.forall_mem_cons.mpr ⟨(by decide +kernel : (Str.ofString "whole" == Str.ofString "turn") = false), List.forall_mem_nil _⟩)⟩)⟩)⟩)
    case turn =>
      clear hTl offT9 offl9 hc9 hi9 hn9 hm9 TK lv hlT hcT
      intro i9 tt9 l k9 ds9 rest9 u9 h9 tk9 hlt hInv sb9 F9 S9
      obtain ⟨c9, ta9, n9, cs9, n29, ns9, vs, nl, N9, hTl, offT9, offl9, hc9, hi9, hn9, hm9, TK, lv⟩ := S9
      have hlT : l ≠ T := hTl.symm
      have hcT : c9 ≠ T := offT9 _ hc9
      have hln := invO_len hInv (by omega)
      refine seq_cut (fun s' => TurnQ s₁.heap s₁.heap.objs.size T [(Str.ofString "name", Value.str x tx), (Str.ofString "whole", Value.int ((pre i j k).length : Int) tw), (Str.ofString "turn", Value.int (i9 : Int) tt9)] rest9 (AddR k9 ds9) s₁ .next s') ?_ ?_
      · k_steps
        · exact ⟨rfl, rfl, _, _, _, _, _, _, _, rfl, fr_lm (by assumption) [(Str.ofString "tape", _), (Str.ofString "tokens", _), (Str.ofString "name", _), (Str.ofString "whole", _), (Str.ofString "turn", _)] ⟨rfl, rfl, rfl, rfl, rfl, trivial⟩, lst_pack (by assumption) (by k_mem : (T, tapeO c9 (k9 + 1) _ _) ∈ _) (.head _) (by k_mem) (by k_ne) hcT (lt4 (by assumption) (by assumption) _ hc9) hi9 hn9 hm9 (ToksIn.append (ToksIn.mono TK (fun p hp => by k_mem)) (toks_ws (ToksIn.mono (by assumption) (fun p hp => by k_mem)) (by decide +kernel : _ = [Str.ofString "AUTHOR", Str.ofString "."]))) (by have := TK.length; rw [List.length_append]; omega), lst_sub (fun p hp => by k_mem) offT9 (lt4 (by assumption) (by assumption)), rfl, Str.ofString "AUTHOR", by decide +kernel, rfl⟩
        · exact ⟨rfl, rfl, _, _, _, _, _, _, _, rfl, fr_lm (by assumption) [(Str.ofString "tape", _), (Str.ofString "tokens", _), (Str.ofString "name", _), (Str.ofString "whole", _), (Str.ofString "turn", _)] ⟨rfl, rfl, rfl, rfl, rfl, trivial⟩, lst_pack (by assumption) (by k_mem : (T, tapeO c9 (k9 + 1) _ _) ∈ _) (.head _) (by k_mem) (by k_ne) hcT (lt4 (by assumption) (by assumption) _ hc9) hi9 hn9 hm9 (ToksIn.append (ToksIn.mono TK (fun p hp => by k_mem)) (toks_ws (ToksIn.mono (by assumption) (fun p hp => by k_mem)) (by decide +kernel : _ = [Str.ofString "DATE-WRITTEN", Str.ofString "."]))) (by have := TK.length; rw [List.length_append]; omega), lst_sub (fun p hp => by k_mem) offT9 (lt4 (by assumption) (by assumption)), rfl, Str.ofString "DATE-WRITTEN", by decide +kernel, rfl⟩
        · exact ⟨rfl, rfl, _, _, _, _, _, _, _, rfl, fr_lm (by assumption) [(Str.ofString "tape", _), (Str.ofString "tokens", _), (Str.ofString "name", _), (Str.ofString "whole", _), (Str.ofString "turn", _)] ⟨rfl, rfl, rfl, rfl, rfl, trivial⟩, lst_pack (by assumption) (by k_mem : (T, tapeO c9 (k9 + 1) _ _) ∈ _) (.head _) (by k_mem) (by k_ne) hcT (lt4 (by assumption) (by assumption) _ hc9) hi9 hn9 hm9 (ToksIn.append (ToksIn.mono TK (fun p hp => by k_mem)) (toks_ws (ToksIn.mono (by assumption) (fun p hp => by k_mem)) (by decide +kernel : _ = [Str.ofString "SECURITY", Str.ofString "."]))) (by have := TK.length; rw [List.length_append]; omega), lst_sub (fun p hp => by k_mem) offT9 (lt4 (by assumption) (by assumption)), rfl, Str.ofString "SECURITY", by decide +kernel, rfl⟩
        · exact ⟨rfl, rfl, _, _, _, _, _, _, _, rfl, fr_lm (by assumption) [(Str.ofString "tape", _), (Str.ofString "tokens", _), (Str.ofString "name", _), (Str.ofString "whole", _), (Str.ofString "turn", _)] ⟨rfl, rfl, rfl, rfl, rfl, trivial⟩, lst_pack (by assumption) (by k_mem : (T, tapeO c9 (k9 + 1) _ _) ∈ _) (.head _) (by k_mem) (by k_ne) hcT (lt4 (by assumption) (by assumption) _ hc9) hi9 hn9 hm9 (ToksIn.append (ToksIn.mono TK (fun p hp => by k_mem)) (toks_ws (ToksIn.mono (by assumption) (fun p hp => by k_mem)) (by decide +kernel : _ = [Str.ofString "INSTALLATION", Str.ofString "."]))) (by have := TK.length; rw [List.length_append]; omega), lst_sub (fun p hp => by k_mem) offT9 (lt4 (by assumption) (by assumption)), rfl, Str.ofString "INSTALLATION", by decide +kernel, rfl⟩
        · exact ⟨rfl, rfl, _, _, _, _, _, _, _, rfl, fr_lm (by assumption) [(Str.ofString "tape", _), (Str.ofString "tokens", _), (Str.ofString "name", _), (Str.ofString "whole", _), (Str.ofString "turn", _)] ⟨rfl, rfl, rfl, rfl, rfl, trivial⟩, lst_pack (by assumption) (by k_mem : (T, tapeO c9 (k9 + 1) _ _) ∈ _) (.head _) (by k_mem) (by k_ne) hcT (lt4 (by assumption) (by assumption) _ hc9) hi9 hn9 hm9 (ToksIn.append (ToksIn.mono TK (fun p hp => by k_mem)) (toks_ws (ToksIn.mono (by assumption) (fun p hp => by k_mem)) (by decide +kernel : _ = [Str.ofString "DATE-COMPILED", Str.ofString "."]))) (by have := TK.length; rw [List.length_append]; omega), lst_sub (fun p hp => by k_mem) offT9 (lt4 (by assumption) (by assumption)), rfl, Str.ofString "DATE-COMPILED", by decide +kernel, rfl⟩
      clear hTl offT9 offl9 hc9 hi9 hn9 hm9 TK lv hlT hcT F9 N9
      intro s8 j8
      obtain ⟨_, h8, tk8, u8, l, k8, ds8, rest8, rfl, F9, ⟨c9, ta9, n9, cs9, n29, ns9, vs, nl, N9, hTl, offT9, offl9, hc9, hi9, hn9, hm9, TK, lv⟩, sb8, hAdd⟩ := j8
      have hlT : l ≠ T := hTl.symm
      have hcT : c9 ≠ T := offT9 _ hc9
      have hk8 : k8 ≤ 20 := by have := hAdd.1; omega
      k_steps
      unfold Stop
      k_dflt (refine' iter_LS (InvI (k8 + 1) ds8) rfl (by assumption) ⟨c9, _, n9, cs9, n29, ns9, vs, nl, by assumption, hTl, offT9, offl9, hc9, hi9, hn9, hm9, TK, lv⟩ (by assumption) (Int.toNat_of_nonneg (by assumption)).symm (by omega) ⟨by omega, [], (List.append_nil _).symm, (fun _ h => nomatch h), by simp⟩ ?hx2 ?turn2 ?done2)
      case hx2 => exact (List.forall_mem_cons.mpr ⟨(by decide +kernel : (Str.ofString "tape" == Str.ofString "spot") = false), (List.forall_mem_cons.mpr ⟨(by decide +kernel : (Str.ofString "tokens" == Str.ofString "spot") = false), (List.forall_mem_cons.mpr ⟨(by decide +kernel : (Str.ofString "name" == Str.ofString "spot") = false), (List.forall_mem_cons.mpr ⟨(by decide +kernel : (Str.ofString "whole" == Str.ofString "spot") = false), (List.forall_mem_cons.mpr ⟨(by decide +kernel : (Str.ofString "turn" == Str.ofString "spot") = false), List.forall_mem_nil _⟩)⟩)⟩)⟩)⟩)
      case turn2 =>
        clear hTl offT9 offl9 hc9 hi9 hn9 hm9 TK lv hlT hcT
        intro i8 tt8 l k7 ds7 rest7 u7 h7 tk7 hlt7 hInv7 sb7 F7 S7
        obtain ⟨c9, ta9, n9, cs9, n29, ns9, vs, nl, N9, hTl, offT9, offl9, hc9, hi9, hn9, hm9, TK, lv⟩ := S7
        have hlT : l ≠ T := hTl.symm
        have hcT : c9 ≠ T := offT9 _ hc9
        have hk7 : k7 ≤ 60 := by have := hInv7.1; omega
        have hl7 := invI_len hAdd hInv7
        k_steps
        · exact ⟨rfl, _, _, _, l, _, ds7 ++ [⟨Str.ofString "word", Str.ofString "DATA", false⟩], _, rfl, fr_lm (by assumption) [(Str.ofString "tape", _), (Str.ofString "tokens", _), (Str.ofString "name", _), (Str.ofString "whole", _), (Str.ofString "turn", _)] ⟨rfl, rfl, rfl, rfl, rfl, trivial⟩, lst_pack (by assumption) (by k_mem : (T, tapeO c9 (k7 + 1) _ _) ∈ _) (push_mem (by k_mem)) (by k_mem) hTl hcT (offl9 _ hc9) hi9 hn9 hm9 (ToksIn.append (ToksIn.mono TK (fun p hp => by k_mem)) (ToksIn.one (TkAt.mono (by assumption) (fun p hp => by k_mem)))) (by have := TK.length; rw [List.length_append, List.length_singleton]; omega), lst_sub (fun p hp => by k_mem) offT9 offl9, invI_step hInv7 (.inl rfl)⟩
        · exact ⟨rfl, _, _, _, l, _, ds7 ++ [⟨Str.ofString "sign", Str.ofString ".", false⟩], _, rfl, fr_lm (by assumption) [(Str.ofString "tape", _), (Str.ofString "tokens", _), (Str.ofString "name", _), (Str.ofString "whole", _), (Str.ofString "turn", _)] ⟨rfl, rfl, rfl, rfl, rfl, trivial⟩, lst_pack (by assumption) (by k_mem : (T, tapeO c9 (k7 + 1) _ _) ∈ _) (push_mem (by k_mem)) (by k_mem) hTl hcT (offl9 _ hc9) hi9 hn9 hm9 (ToksIn.append (ToksIn.mono TK (fun p hp => by k_mem)) (ToksIn.one (TkAt.mono (by assumption) (fun p hp => by k_mem)))) (by have := TK.length; rw [List.length_append, List.length_singleton]; omega), lst_sub (fun p hp => by k_mem) offT9 offl9, invI_step hInv7 (.inr (.inl rfl))⟩
        · exact ⟨rfl, _, _, _, l, _, ds7 ++ [⟨Str.ofString "number", Str.ofString "5", false⟩], _, rfl, fr_lm (by assumption) [(Str.ofString "tape", _), (Str.ofString "tokens", _), (Str.ofString "name", _), (Str.ofString "whole", _), (Str.ofString "turn", _)] ⟨rfl, rfl, rfl, rfl, rfl, trivial⟩, lst_pack (by assumption) (by k_mem : (T, tapeO c9 (k7 + 1) _ _) ∈ _) (push_mem (by k_mem)) (by k_mem) hTl hcT (offl9 _ hc9) hi9 hn9 hm9 (ToksIn.append (ToksIn.mono TK (fun p hp => by k_mem)) (ToksIn.one (TkAt.mono (by assumption) (fun p hp => by k_mem)))) (by have := TK.length; rw [List.length_append, List.length_singleton]; omega), lst_sub (fun p hp => by k_mem) offT9 offl9, invI_step hInv7 (.inr (.inr (.inl rfl)))⟩
        · exact ⟨rfl, _, _, _, l, _, ds7 ++ [⟨Str.ofString "literal", Str.ofString "x", true⟩], _, rfl, fr_lm (by assumption) [(Str.ofString "tape", _), (Str.ofString "tokens", _), (Str.ofString "name", _), (Str.ofString "whole", _), (Str.ofString "turn", _)] ⟨rfl, rfl, rfl, rfl, rfl, trivial⟩, lst_pack (by assumption) (by k_mem : (T, tapeO c9 (k7 + 1) _ _) ∈ _) (push_mem (by k_mem)) (by k_mem) hTl hcT (offl9 _ hc9) hi9 hn9 hm9 (ToksIn.append (ToksIn.mono TK (fun p hp => by k_mem)) (ToksIn.one (TkAt.mono (by assumption) (fun p hp => by k_mem)))) (by have := TK.length; rw [List.length_append, List.length_singleton]; omega), lst_sub (fun p hp => by k_mem) offT9 offl9, invI_step hInv7 (.inr (.inr (.inr rfl)))⟩
      case done2 =>
        intro h7 tk7 l7 k7 ds7 rest7 u7 F7 S7 sb7 hI7
        k_steps
        exact ⟨rfl, _, _, _, l7, k7, ds7, rest7, rfl, fr_lm F7 [(Str.ofString "tape", _), (Str.ofString "tokens", _), (Str.ofString "name", _), (Str.ofString "whole", _)] ⟨rfl, rfl, rfl, rfl, trivial⟩, S7, fun p hp => sb7 p (sb8 p hp), invO_step hInv hAdd hI7 (by omega)⟩
    case done =>
      intro h7 tk7 l7 k7 ds7 rest7 u7 F7 S7 sb7 hI7
      obtain ⟨hb7, r, rfl, hr, hrl⟩ := hI7
      k_steps
      exact ⟨rfl, _, _, _, T, rest7, l7, i, j, k, k7, r, x, tx, tw, rfl, fr_lm F7 [(Str.ofString "tape", _), (Str.ofString "tokens", _), (Str.ofString "name", _), (Str.ofString "whole", _)] ⟨rfl, rfl, rfl, rfl, trivial⟩, S7, hi, hj, hk, hx, by omega, hr, by omega⟩
  intro s9 j9
  obtain ⟨h9, tk9, u9, T, rest, l, i, j, k, n, r, x, tx, tw, rfl, F9, ⟨c9, ta9, n9, cs9, n29, ns9, vs, nl, N9, hTl, offT9, offl9, hc9, hi9, hn9, hm9, TK, lv⟩, hi, hj, hk, hx, hn, hr, hrl⟩ := j9
  have hlT : l ≠ T := hTl.symm
  have hcT : c9 ≠ T := offT9 _ hc9
  refine seq_cut (J7 s₁.heap s₁.heap.objs.size s₁) ?_ ?_
  · k_steps
    exact ⟨rfl, _, _, _, T, _, l, i, j, k, n, r, x, tx, tw, _, rfl, fr_lm (by assumption) [(Str.ofString "tape", _), (Str.ofString "tokens", _), (Str.ofString "name", _), (Str.ofString "whole", _), (Str.ofString "place", _)] ⟨rfl, rfl, rfl, rfl, (by rw [← TK.length]; rfl), trivial⟩, ⟨c9, _, n9, cs9, n29, ns9, vs, nl, (by assumption), hTl, offT9, offl9, hc9, hi9, hn9, hm9, TK, lv⟩, hi, hj, hk, hx, hn, hr, hrl⟩
  clear hTl offT9 offl9 hc9 hi9 hn9 hm9 TK lv hlT hcT hi hj hk hx hn hr hrl F9 N9
  intro s9 j9
  obtain ⟨h9, tk9, u9, T, rest, l, i, j, k, n, r, x, tx, tw, tp, rfl, F9, ⟨c9, ta9, n9, cs9, n29, ns9, vs, nl, N9, hTl, offT9, offl9, hc9, hi9, hn9, hm9, TK, lv⟩, hi, hj, hk, hx, hn, hr, hrl⟩ := j9
  have hlT : l ≠ T := hTl.symm
  have hcT : c9 ≠ T := offT9 _ hc9
  refine seq_cut (J8 s₁.heap s₁.heap.objs.size s₁) ?_ ?_
  · clear offl9
    k_steps
    · exact ⟨rfl, _, _, _, _, _, _, _, i, j, k, r, 0, x, tx, tw, tp, rfl, fr_lm (by assumption) [(Str.ofString "tokens", _), (Str.ofString "name", _), (Str.ofString "whole", _), (Str.ofString "place", _)] ⟨rfl, rfl, rfl, rfl, trivial⟩, (by assumption), .head _, toks_app (ToksIn.mono TK (fun p hp => by k_mem)) ((toks_ws (ToksIn.mono (by assumption) (fun p hp => by k_mem)) (by decide +kernel : _ = wsT 0))), (by have := TK.length; have := pre_len i j k; rw [List.length_append] at *; (try simp only [List.length_nil]); omega), hi, hj, hk, hx, hr, hrl⟩
    · exact ⟨rfl, _, _, _, _, _, _, _, i, j, k, r, 1, x, tx, tw, tp, rfl, fr_lm (by assumption) [(Str.ofString "tokens", _), (Str.ofString "name", _), (Str.ofString "whole", _), (Str.ofString "place", _)] ⟨rfl, rfl, rfl, rfl, trivial⟩, (by assumption), .head _, toks_app (ToksIn.mono TK (fun p hp => by k_mem)) ((toks_ws (ToksIn.mono (by assumption) (fun p hp => by k_mem)) (by decide +kernel : _ = wsT 1))), (by have := TK.length; have := pre_len i j k; rw [List.length_append] at *; (try simp only [List.length_nil]); omega), hi, hj, hk, hx, hr, hrl⟩
    · exact ⟨rfl, _, _, _, _, _, _, _, i, j, k, r, 2, x, tx, tw, tp, rfl, fr_lm (by assumption) [(Str.ofString "tokens", _), (Str.ofString "name", _), (Str.ofString "whole", _), (Str.ofString "place", _)] ⟨rfl, rfl, rfl, rfl, trivial⟩, (by assumption), .head _, toks_app (ToksIn.mono TK (fun p hp => by k_mem)) (ToksIn.nil), (by have := TK.length; have := pre_len i j k; rw [List.length_append] at *; (try simp only [List.length_nil]); omega), hi, hj, hk, hx, hr, hrl⟩
  clear hTl offT9 hc9 hi9 hn9 hm9 TK lv hlT hcT hi hj hk hx hn hr hrl F9 N9 offl9
  intro s9 j9
  obtain ⟨h9, tk9, u9, news, l, vs, nl, i, j, k, r, t, x, tx, tw, tp, rfl, F9, N9, ml, TK, lv, hi, hj, hk, hx, hr, hrl⟩ := j9
  refine seq_cut (J9 s₁.heap s₁.heap.objs.size s₁) ?_ ?_
  · k_steps
    exact ⟨rfl, _, _, _, news, l, vs, nl, i, j, k, r, t, x, tx, tw, tp, _, _, _, _, _, _, _, _, _, _, _, rfl, fr_lm (by assumption) [(Str.ofString "tokens", _), (Str.ofString "name", _), (Str.ofString "whole", _), (Str.ofString "place", _), (Str.ofString "reader", _)] ⟨rfl, rfl, rfl, rfl, rfl, trivial⟩, (by assumption), by k_ne, by k_ne, (fun p hp => Nat.ne_of_lt ((by assumption : ∀ p ∈ _, p.1 < _) p hp)), ml, TK, lv, hi, hj, hk, hx, hr, hrl⟩
  clear ml TK lv hi hj hk hx hr hrl F9 N9
  intro s9 j9
  obtain ⟨h9, tk9, u9, news, l, vs, nl, i, j, k, r, t, x, tx, tw, tp, nd, o9, rr, dx, h1, h2, h3, k1, k2, k3, tk0, rfl, F9, N9, ne1, ne2, ne3, ml, TK, lv, hi, hj, hk, hx, hr, hrl⟩ := j9
  refine seq_cut (J10 s₁.heap s₁.heap.objs.size s₁) ?_ ?_
  · k_steps
    · exact absurd (by assumption : (x != x) = true) (by simp)
    · exact absurd (rfl : (((pre i j k ++ r).length : Nat) : Int) = _) (by assumption)
    · exact ⟨rfl, _, _, _, _, l, vs, nl, i, j, k, r ++ tailT t, tw, rfl, fr_lm (by assumption) [(Str.ofString "tokens", _), (Str.ofString "whole", _)] ⟨rfl, rfl, trivial⟩, (by assumption), (by k_mem), ToksIn.mono TK (fun p hp => by k_mem), lv, hi, hj, hk⟩
  clear ml TK lv hi hj hk hx hr hrl F9 N9 ne1 ne2 ne3
  intro s9 j9
  obtain ⟨h9, tk9, u9, news, l, vs, nl, i, j, k, r, tw, rfl, F9, N9, ml, TK, lv, hi, hj, hk⟩ := j9
  have hpl := pre_len i j k
  refine seq_cut (J10 s₁.heap s₁.heap.objs.size s₁) ?_ ?_
  · k_steps
    unfold Stop
    k_dflt (refine' iter_K (ps := [(Str.ofString "tokens", .ref l), (Str.ofString "whole", .int ((pre i j k).length : Int) tw)]) (n := (pre i j k).length) rfl (by assumption) (by assumption) (by assumption) rfl (by omega) ?turn ?done)
    case turn =>
      intro i9 tt9 rest9 u9 h9 tk9 hlt sb9 F9 N9
      have ml9 := sb9 _ ml
      have TK9 := TK.mono sb9
      k_steps
      unfold Stop
      k_dflt (refine' refused_c rfl (Nat.le_of_ble_eq_true rfl) rfl (Nat.le_of_ble_eq_true rfl) (by assumption) (by assumption) KX KX (by assumption) (by assumption) (by assumption) (.head _) (by rw [List.length_take]; omega) (ToksIn.take (ToksIn.mono TK9 (fun p hp => .tail _ hp)) i9) (head_cut hi hj hk hlt r) ?_)
      intro h8 tk8 F8 N8
      k_steps
      exact ⟨rfl, _, _, _, _, rfl, fr_lm (by assumption) [(Str.ofString "tokens", _), (Str.ofString "whole", _)] ⟨rfl, rfl, trivial⟩, (by assumption), (fun p hp => by k_mem)⟩
    case done =>
      intro h9 tk9 rest9 u9 F9 N9 sb9
      k_steps
      exact ⟨rfl, _, _, _, _, l, vs, nl, i, j, k, r, tw, rfl, fr_lm (by assumption) [(Str.ofString "tokens", _), (Str.ofString "whole", _)] ⟨rfl, rfl, trivial⟩, N9, sb9 _ ml, TK.mono sb9, lv, hi, hj, hk⟩
  clear ml TK lv hi hj hk F9 N9 hpl
  intro s9 j9
  obtain ⟨h9, tk9, u9, news, l, vs, nl, i, j, k, r, tw, rfl, F9, N9, ml, TK, lv, hi, hj, hk⟩ := j9
  have hpl : (pre i j k).length ≤ vs.length := by rw [TK.length, List.length_append]; omega
  · k_steps
    unfold Stop
    k_dflt (refine' refused_c rfl (Nat.le_of_ble_eq_true rfl) rfl (Nat.le_of_ble_eq_true rfl) (by assumption) (by assumption) KX KX (by assumption) (by assumption) (by assumption) (.head _) (by rw [List.length_drop]; omega) (ToksIn.drop (ToksIn.mono TK (fun p hp => by k_mem)) 1) (head_drop i j k r) ?_)
    intro h8 tk8 F8 N8
    k_steps
    unfold Stop
    k_dflt (refine' refused_c rfl (Nat.le_of_ble_eq_true rfl) rfl (Nat.le_of_ble_eq_true rfl) (by assumption) (by assumption) KX KX (by assumption) (by assumption) (by assumption) (.head _) (by rw [List.length_append, List.length_take, List.length_take, List.length_drop]; omega) (ToksIn.append (ToksIn.take (ToksIn.mono TK (fun p hp => by k_mem)) 4) (ToksIn.take (ToksIn.drop (ToksIn.mono TK (fun p hp => by k_mem)) 5) ((pre i j k).length - 5))) (head_hole hi hj hk r) ?_)
    intro h7 tk7 F7 N7
    k_steps
  )
end Mine
set_option maxRecDepth 100000 in
theorem PySem.Challenge.cw_og0095_01_holds : PySem.Challenge.rw_og0095_01.Holds :=
  Mine.fin
