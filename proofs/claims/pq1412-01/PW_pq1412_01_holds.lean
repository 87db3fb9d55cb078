import PyProof.Rows.All
import Wide.All
import OpenK.AllK
import Wide.FinOn
import PySem.Challenge.RW_pq1412_01
set_option Elab.async false
set_option bootstrap.genMatcherCode false
set_option genSizeOf false
section EvA_text
open PySem PySem.W PyProof.Rows PySem.Calls PySem.Spec
set_option Elab.async false
set_option maxRecDepth 100000
set_option maxHeartbeats 4000000
namespace Mine

/-! interned texts: their signs' numbers, by the first sign (printed by table.py) -/
noncomputable def bks : List (Nat × List (Nat × List Nat)) := [(115, [(0, [115, 101, 108, 102]), (1, [115, 121, 109, 98, 111, 108]), (2, [115, 112, 101, 99, 105, 97, 108]), (3, [115, 119, 105, 116, 99, 104]), (4, [115, 116, 101, 112, 115]), (5, [115, 97, 118, 101, 100]), (6, [115, 117, 98, 106, 101, 99, 116]), (7, [115]), (8, [115, 116, 97, 116, 101]), (9, [115, 99, 114, 105, 112, 116]), (10, [115, 97, 105, 100]), (11, [115, 105, 103, 110, 97, 108, 108, 101, 114]), (12, [115, 52]), (13, [115, 104, 97, 114, 101, 100]), (14, [115, 97, 112, 112, 108, 121]), (15, [115, 104, 97, 114, 101]), (16, [115, 95, 115, 119, 105, 116, 99, 104]), (17, [115, 119, 105, 116, 99, 104, 95, 114, 111, 119, 115]), (18, [115, 117, 98, 106, 101, 99, 116, 95, 112, 108, 97, 99, 101]), (19, [115, 119, 105, 116, 99, 104, 95, 110, 111, 116, 101, 115])]),
  (99, [(20, [99, 97, 108, 108]), (21, [99, 104, 97, 114, 97, 99, 116, 101, 114]), (22, [99, 108, 97, 115, 115]), (23, [99]), (24, [99, 117, 114, 114, 101, 110, 116]), (25, [99, 111, 117, 110, 116]), (26, [99, 97, 108, 108, 95, 105, 110]), (27, [99, 111, 100, 101]), (28, [99, 108, 111, 115, 117, 114, 101]), (29, [99, 97, 108, 108, 95, 115, 112, 101, 99, 105, 97, 108]), (30, [99, 97, 108, 108, 95, 98, 117, 105, 108, 116, 105, 110]), (31, [99, 97, 108, 108, 95, 111, 102]), (32, [99, 97, 108, 108, 95, 116, 97, 103, 103, 101, 100]), (33, [99, 108, 97, 115, 115, 95, 97, 116, 116, 114])]),
  (108, [(34, [108, 97, 110, 103, 117, 97, 103, 101]), (35, [108, 101, 118, 101, 108, 115]), (36, [108, 105, 109, 105, 116]), (37, [108, 97, 116, 101, 114]), (38, [108, 111, 99, 107, 101, 100]), (39, [108, 111, 99, 107, 115]), (40, [108, 111, 111, 115, 101]), (41, [108, 111, 103, 105, 99, 97, 108]), (42, [108, 97, 112, 112, 108, 121]), (43, [108, 101, 110]), (44, [108, 105, 115, 116]), (45, [108, 97, 119])]),
  (102, [(46, [102, 114, 97, 109, 101]), (47, [102, 110]), (48, [102, 97, 99, 116, 111, 114]), (49, [102]), (50, [102, 111, 117, 110, 100]), (51, [102, 97, 99, 116, 111, 114, 95, 119, 111, 114, 100]), (52, [102, 105, 103, 117, 114, 101]), (53, [102, 114, 97, 109, 101, 115]), (54, [102, 111, 114, 99, 101]), (55, [102, 105, 110, 100, 95, 102, 117, 110, 99, 116, 105, 111, 110]), (56, [102, 117, 110, 99, 116, 105, 111, 110, 95, 111, 102])]),
  (105, [(57, [105, 116, 101, 109, 115]), (58, [105, 110, 116, 101, 114, 112]), (59, [105, 116, 101, 109]), (60, [105, 110, 116, 101, 103, 101, 114]), (61, [105, 110, 100, 101, 120]), (62, [105, 115, 95, 102, 117, 110, 99, 116, 105, 111, 110]), (63, [105, 115, 95, 97, 116, 111, 109, 105, 99]), (64, [105, 110, 118, 105, 115, 105, 98, 108, 101, 95, 110, 117, 108, 108]), (65, [105, 115, 105, 110, 115, 116, 97, 110, 99, 101])]),
  (97, [(66, [97, 116, 116, 114, 115]), (67, [97]), (68, [97, 98, 99]), (69, [97, 114, 103, 115]), (70, [97, 116]), (71, [97, 112, 112, 108, 121]), (72, [97, 112, 112, 101, 110, 100]), (73, [97, 98, 115])]),
  (110, [(74, [110, 97, 109, 101]), (75, [110, 111, 116, 101]), (76, [110, 111, 116, 101, 115]), (77, [110]), (78, [110, 117, 109, 98, 101, 114]), (79, [110, 101, 120, 116, 95, 110, 117, 109, 98, 101, 114]), (80, [110, 101, 119, 95, 101, 110, 118]), (81, [110, 117, 108, 108])]),
  (100, [(82, [100, 101, 102, 97, 117, 108, 116]), (83, [100, 117, 101]), (84, [100, 105, 115, 112, 97, 116, 99, 104, 101, 114]), (85, [100, 101, 112, 97, 114, 115, 101, 114]), (86, [100, 111, 116, 115]), (87, [100, 111, 117, 98, 108, 101]), (88, [100, 101, 102, 105, 110, 101])]),
  (112, [(89, [112, 108, 97, 99, 101]), (90, [112, 97, 114, 101, 110, 116]), (91, [112, 114, 111, 103, 114, 97, 109]), (92, [112, 105, 99, 107, 101, 100]), (93, [112, 114, 111, 109, 105, 115, 101]), (94, [112, 108, 97, 105, 110, 95, 99, 97, 108, 108]), (95, [112, 105, 99, 107, 101, 100, 95, 112, 108, 97, 99, 101])]),
  (114, [(96, [114, 111, 119, 115]), (97, [114, 111, 119]), (98, [114, 101, 115, 116, 97, 114, 116, 115]), (99, [114, 117, 110]), (100, [114, 111, 119, 95, 98, 121, 95, 110, 97, 109, 101]), (101, [114, 111, 119, 95, 98, 121, 95, 110, 117, 109, 98, 101, 114]), (102, [114, 97, 110, 103, 101])]),
  (101, [(103, [101, 110, 118]), (104, [101]), (105, [101, 118, 97, 108]), (106, [101, 97, 103, 101, 114, 95, 97, 114, 103, 115]), (107, [101, 120, 116, 101, 110, 100]), (108, [101, 110, 118, 105, 114, 111, 110, 109, 101, 110, 116])]),
  (109, [(109, [109, 111, 115, 116]), (110, [109, 97, 100, 101]), (111, [109, 111, 115, 116, 95, 102, 114, 97, 109, 101, 115]), (112, [109, 105, 115, 115, 105, 110, 103]), (113, [109, 97, 112, 112, 108, 121]), (114, [109, 101, 115, 115, 97, 103, 101])]),
  (116, [(115, [116, 97, 103, 115]), (116, [116, 97, 103]), (117, [116, 111, 108, 100]), (118, [116, 97, 114, 103, 101, 116, 115]), (119, [116, 105, 99, 107]), (120, [116, 101, 120, 116])]),
  (103, [(121, [103, 114, 111, 117, 112]), (122, [103, 108, 111, 98, 97, 108, 115]), (123, [103, 111, 95, 111, 102]), (124, [103, 101, 116]), (125, [103, 101, 116, 95, 97, 116, 116, 114])]),
  (118, [(126, [118, 97, 108, 117, 101]), (127, [118, 105, 115, 105, 98, 108, 101]), (128, [118]), (129, [118, 97, 112, 112, 108, 121]), (130, [118, 97, 114, 105, 97, 98, 108, 101])]),
  (69, [(131, [69, 88, 80, 82]), (132, [69, 88, 80, 82, 32, 105, 115, 32, 97, 32, 34, 102, 97, 99, 116, 111, 114, 34, 44, 32, 116, 114, 101, 97, 116, 101, 100, 32, 97, 115, 32, 105, 110, 116, 101, 103, 101, 114, 46, 10, 32, 67, 111, 110, 115, 105, 100, 101, 114, 32, 117, 115, 105, 110, 103, 32, 39, 115, 119, 105, 116, 99, 104, 40, 97, 115, 46, 99, 104, 97, 114, 97, 99, 116, 101, 114, 40, 32, 42, 32, 41, 44, 32, 46, 46, 46, 41, 39, 32, 105, 110, 115, 116, 101, 97, 100, 46]), (133, [69, 110, 118, 105, 114, 111, 110, 109, 101, 110, 116]), (134, [69, 118, 97, 108, 117, 97, 116, 111, 114])]),
  (119, [(135, [119, 97, 114, 110, 105, 110, 103, 115]), (136, [119, 97, 114, 110, 101, 114]), (137, [119, 97, 114, 110, 95, 97, 108, 108]), (138, [119, 104, 111, 108, 101])]),
  (78, [(139, [78, 85, 76, 76]), (140, [78, 65]), (141, [78, 117, 108, 108])]),
  (98, [(142, [98, 117, 105, 108, 116, 105, 110]), (143, [98]), (144, [98, 97, 115, 101])]),
  (104, [(145, [104, 101, 97, 100]), (146, [104, 97, 110, 100, 108, 101, 114, 115]), (147, [104, 97, 110, 100, 115, 95, 111, 110])]),
  (46, [(148, [46, 46, 46]), (149, [46, 48])]),
  (77, [(150, [77, 97, 112]), (151, [77, 97, 116, 104])]),
  (83, [(152, [83, 117, 109, 109, 97, 114, 121]), (153, [83, 121, 109, 98, 111, 108])]),
  (95, [(154, [95, 108, 97, 119, 95, 116, 97, 107, 101]), (155, [95, 108, 97, 119, 95, 110, 111, 116, 101])]),
  (107, [(156, [107, 105, 110, 100]), (157, [107, 101, 101, 112])]),
  (111, [(158, [111, 117, 116]), (159, [111, 117, 116, 101, 114])]),
  (0, [(160, [])]),
  (39, [(161, [39, 115, 119, 105, 116, 99, 104, 39, 32, 119, 105, 116, 104, 32, 110, 111, 32, 97, 108, 116, 101, 114, 110, 97, 116, 105, 118, 101, 115])]),
  (66, [(162, [66, 117, 105, 108, 116, 105, 110])]),
  (67, [(163, [67, 97, 108, 108])]),
  (79, [(164, [79, 112, 115])]),
  (86, [(165, [86, 101, 99, 116, 111, 114])])]
noncomputable def tblLen : Nat := 166
noncomputable def tbl : List Str := bks.flatMap fun b => b.2.map fun p => ⟨p.2.toArray⟩
noncomputable def sidB (x : List Nat) (es : List (Nat × List Nat)) : Nat := @List.rec (Nat × List Nat) (fun _ => Nat) tblLen (fun p _ ih => @Bool.rec (fun _ => Nat) ih p.1 (Fast.lEq x p.2)) es
noncomputable def sidF (x : List Nat) (c : Nat) (bs : List (Nat × List (Nat × List Nat))) : Nat := @List.rec (Nat × List (Nat × List Nat)) (fun _ => Nat) tblLen (fun b _ ih => @Bool.rec (fun _ => Nat) ih (sidB x b.2) (Nat.beq c b.1)) bs
noncomputable def sidC (x : List Nat) : Nat := @List.rec Nat (fun _ => Nat) (sidF x 0 bks) (fun c _ _ => sidF x c bks) x
noncomputable def sid (x : Str) : Nat := sidC x.cps.toList
theorem sidB_get {x : List Nat} : ∀ {es : List (Nat × List Nat)}, sidB x es < tblLen → (sidB x es, x) ∈ es
  | [], h => absurd h (Nat.lt_irrefl _)
  | p :: t, h => by
    have e0 : sidB x (p :: t) = @Bool.rec (fun _ => Nat) (sidB x t) p.1 (Fast.lEq x p.2) := rfl
    cases e : Fast.lEq x p.2 with
    | true =>
      rw [e0, e, Fast.lEq_iff.mp e]
      exact List.mem_cons_self
    | false =>
      have e1 : sidB x (p :: t) = sidB x t := by rw [e0, e]
      rw [e1] at h ⊢
      exact List.mem_cons_of_mem _ (sidB_get h)
theorem sidF_get {x : List Nat} {c : Nat} : ∀ {bs : List (Nat × List (Nat × List Nat))}, sidF x c bs < tblLen → ∃ b ∈ bs, (sidF x c bs, x) ∈ b.2
  | [], h => absurd h (Nat.lt_irrefl _)
  | b :: t, h => by
    have e0 : sidF x c (b :: t) = @Bool.rec (fun _ => Nat) (sidF x c t) (sidB x b.2) (Nat.beq c b.1) := rfl
    cases e : Nat.beq c b.1 with
    | true =>
      have e1 : sidF x c (b :: t) = sidB x b.2 := by rw [e0, e]
      rw [e1] at h ⊢
      exact ⟨b, List.mem_cons_self, sidB_get h⟩
    | false =>
      have e1 : sidF x c (b :: t) = sidF x c t := by rw [e0, e]
      rw [e1] at h ⊢
      obtain ⟨b', h1, h2⟩ := sidF_get h
      exact ⟨b', List.mem_cons_of_mem _ h1, h2⟩
theorem bks_ok : (bks.all fun b => b.2.all fun p => decide (tbl[p.1]? = some ⟨p.2.toArray⟩)) = true := by decide +kernel
theorem sid_get {x : Str} (h : sid x < tblLen) : tbl[sid x]? = some x := by
  have g : ∃ b ∈ bks, (sid x, x.cps.toList) ∈ b.2 := by
    unfold sid sidC at h ⊢
    generalize x.cps.toList = l at h ⊢
    cases l with
    | nil => exact sidF_get h
    | cons c t => exact sidF_get h
  obtain ⟨b, h1, h2⟩ := g
  have := of_decide_eq_true (List.all_eq_true.mp (List.all_eq_true.mp bks_ok b h1) _ h2)
  rw [this]
end Mine
end EvA_text
section EvB_text
open PySem PySem.W PyProof.Rows PySem.Calls PySem.Spec
set_option Elab.async false
set_option maxRecDepth 100000
set_option maxHeartbeats 4000000
namespace Mine

noncomputable def tblOk : List Str → Nat → Bool
  | [], _ => true
  | s :: t, n => match Nat.beq (sid s) n with
    | true => tblOk t (Nat.succ n)
    | false => false
theorem tblOk_get : ∀ {l : List Str} {n i : Nat} {x : Str}, tblOk l n = true → l[i]? = some x → sid x = n + i
  | s :: t, n, 0, x, h, e => by
    cases e
    unfold tblOk at h
    split at h
    · rename_i q; exact Nat.eq_of_beq_eq_true q
    · cases h
  | s :: t, n, i + 1, x, h, e => by
    unfold tblOk at h
    split at h
    · have := tblOk_get (l := t) (n := n + 1) (i := i) h (by simpa using e)
      omega
    · cases h
theorem tbl_ok : tblOk tbl 0 = true := by decide +kernel
theorem sid_of_get {i : Nat} {x : Str} (h : tbl[i]? = some x) : sid x = i := by
  have := tblOk_get tbl_ok h
  omega
theorem tbl_inj {i j : Nat} {x : Str} (h : tbl[i]? = some x) (h' : tbl[j]? = some x) : i = j := (sid_of_get h).symm.trans (sid_of_get h')

inductive All2 {α β : Type} (R : α → β → Prop) : List α → List β → Prop
  | nil : All2 R [] []
  | cons {a : α} {b : β} {l : List α} {l' : List β} : R a b → All2 R l l' → All2 R (a :: l) (b :: l')
theorem All2.imp {α β : Type} {R R' : α → β → Prop} {l : List α} {l' : List β} (h : All2 R l l') (f : ∀ a b, R a b → R' a b) : All2 R' l l' := by
  induction h with
  | nil => exact .nil
  | cons a _ ih => exact .cons (f _ _ a) ih
theorem All2.length {α β : Type} {R : α → β → Prop} {l : List α} {l' : List β} (h : All2 R l l') : l.length = l'.length := by
  induction h with
  | nil => rfl
  | cons a _ ih => simp [ih]
/-! abstract values -/
structure Lin where
  g : Int
  s : Int
  t : Int
  c : Int
structure Vars where
  g : Int
  s : Int
  t : Int
  arch : List (Addr × Obj)
  pre : Nat → List Value
  obj : Nat → Obj
  low : ∃ q ∈ arch, sysModules ≤ q.1
noncomputable def Lin.val (V : Vars) (l : Lin) : Int := l.g * V.g + l.s * V.s + l.t * V.t + l.c
noncomputable def Lin.lit (i : Int) : Lin := ⟨0, 0, 0, i⟩
inductive BI where
  | len | abs | isinstance | list | range
noncomputable def BI.val : BI → Value
  | .len => .builtin "len"
  | .abs => .builtin "abs"
  | .isinstance => .builtin "isinstance"
  | .list => .type "list"
  | .range => .type "range"
inductive AV where
  | none
  | bool (b : Bool)
  | int (l : Lin)
  | str (k : Nat)
  | ref (i : Nat)
  | kref (a : Nat)
  | bi (b : BI)
  | any
noncomputable def VR (V : Vars) (adr : List Addr) : AV → Value → Prop
  | .none, v => v = .none
  | .bool b, v => v = .bool b
  | .int l, v => ∃ t, v = .int (l.val V) t
  | .str k, v => ∃ x t, tbl[k]? = some x ∧ v = .str x t
  | .ref i, v => ∃ a, adr[i]? = some a ∧ v = .ref a
  | .kref a, v => v = .ref a
  | .bi b, v => v = b.val
  | .any, v => handedIn v = true
theorem VR.mono {V : Vars} {adr adr' : List Addr} (hp : adr <+: adr') {a : AV} {v : Value} (h : VR V adr a v) : VR V adr' a v := by
  cases a with
  | ref i =>
    obtain ⟨x, h1, h2⟩ := h
    obtain ⟨r, rfl⟩ := hp
    refine ⟨x, ?_, h2⟩
    have hl : i < adr.length := (List.getElem?_eq_some_iff.mp h1).1
    rw [List.getElem?_append_left hl]; exact h1
  | _ => exact h

noncomputable abbrev VRs (V : Vars) (adr : List Addr) : List AV → List Value → Prop := All2 (VR V adr)
theorem VRs.mono {V : Vars} {adr adr' : List Addr} (hp : adr <+: adr') {as : List AV} {vs : List Value} (h : VRs V adr as vs) : VRs V adr' as vs := All2.imp h fun _ _ => VR.mono hp

/-! association lists -/
noncomputable abbrev Lo := List (Nat × AV)
noncomputable def lk : Lo → Nat → Option AV
  | [], _ => none
  | (k, v) :: t, x => match Nat.beq k x with
    | true => some v
    | false => lk t x
noncomputable def put : Lo → Nat → AV → Lo
  | [], x, v => [(x, v)]
  | (k, u) :: t, x, v => match Nat.beq k x with
    | true => (k, v) :: t
    | false => (k, u) :: put t x v
theorem lk_put (l : Lo) (x y : Nat) (v : AV) : lk (put l x v) y = if y = x then some v else lk l y := by
  induction l with
  | nil =>
    unfold put lk
    split
    · rename_i e
      rw [if_pos (Nat.eq_of_beq_eq_true e).symm]
    · rename_i e
      have : ¬ y = x := fun q => by subst q; rw [Nat.beq_refl] at e; cases e
      rw [if_neg this]
      rfl
  | cons p t ih =>
    obtain ⟨k, u⟩ := p
    unfold put
    split
    · rename_i e
      have hk := Nat.eq_of_beq_eq_true e
      subst hk
      unfold lk
      by_cases q : y = k
      · subst q; rw [Nat.beq_refl, if_pos rfl]
      · have : Nat.beq k y = false := by
          cases z : Nat.beq k y with
          | false => rfl
          | true => exact absurd (Nat.eq_of_beq_eq_true z).symm q
        rw [this, if_neg q]
    · rename_i e
      unfold lk
      cases z : Nat.beq k y with
      | true =>
        have hk := Nat.eq_of_beq_eq_true z
        subst hk
        have : ¬ k = x := fun q => by subst q; rw [Nat.beq_refl] at e; cases e
        rw [if_neg this]
      | false => exact ih

noncomputable def LR (V : Vars) (adr : List Addr) (F : Lo) (m : Str → Option Value) : Prop :=
  ∀ k a, lk F k = some a → ∃ x v, tbl[k]? = some x ∧ m x = some v ∧ VR V adr a v
theorem LR.mono {V : Vars} {adr adr' : List Addr} (hp : adr <+: adr') {F : Lo} {m : Str → Option Value} (h : LR V adr F m) : LR V adr' F m := fun k a e =>
  let ⟨x, v, h1, h2, h3⟩ := h k a e
  ⟨x, v, h1, h2, h3.mono hp⟩
theorem LR.put {V : Vars} {adr : List Addr} {F : Lo} {m : Str → Option Value} (h : LR V adr F m) {k : Nat} {x : Str} (hk : tbl[k]? = some x) {a : AV} {v : Value} (hv : VR V adr a v) :
    LR V adr (Mine.put F k a) (fun y => if y = x then some v else m y) := fun j b e => by
  rw [lk_put] at e
  by_cases q : j = k
  · subst q
    rw [if_pos rfl] at e
    cases e
    exact ⟨x, v, hk, if_pos rfl, hv⟩
  · rw [if_neg q] at e
    obtain ⟨y, u, h1, h2, h3⟩ := h j b e
    refine ⟨y, u, h1, ?_, h3⟩
    have : ¬ y = x := fun z => q (tbl_inj h1 (z ▸ hk))
    exact (if_neg this).trans h2

/-! abstract objects -/
inductive AO where
  | inst (C : Nat) (d : Nat)
  | dict (es : Lo)
  | list (vs : List AV)
  | tup (vs : List AV)
  | cell (v : Option AV)
  | ns (F : Lo)
  | rng (a b : Int)
  | liter (l : Nat) (i : Nat)
  | riter (a : Int) (n : Nat)
  | junk
  | plist (j : Nat) (l : Option Lin) (vs : List AV)
  | opq (j : Nat)
noncomputable abbrev He := List AO

noncomputable def ER (V : Vars) (adr : List Addr) (P : Params) (p : Nat × AV) (e : DictEntry) : Prop :=
  ∃ x t, tbl[p.1]? = some x ∧ e.key = .str x t ∧ e.hash = PyData.keyHash P x ∧ VR V adr p.2 e.val
noncomputable def OR (V : Vars) (adr : List Addr) (P : Params) : AO → Obj → Prop
  | .inst C d, o => ∃ dx, adr[d]? = some dx ∧ o = instObj C dx
  | .dict es, o => ∃ des n, o = dictOf des n ∧ All2 (ER V adr P) es des
  | .list vs, o => ∃ xs n, o = listOf (List.toArray xs) n ∧ VRs V adr vs xs
  | .tup vs, o => ∃ xs n, o = { cls := .type "tuple", data := .seq (List.toArray xs) n } ∧ VRs V adr vs xs
  | .cell v, o => ∃ w, o.data = .cell w ∧ (match v, w with | some a, some u => VR V adr a u | none, none => True | _, _ => False)
  | .ns F, o => ∃ es ep m, o.data = .dict es ep ∧ StrKeys es ∧ (∀ name : Str, nsFind es name = m name) ∧ LR V adr F m
  | .rng a b, o => ∃ t u v, o = { cls := .type "range", data := .fields #[.int a t, .int b u, .int 1 v] }
  | .liter l i, o => ∃ a, adr[l]? = some a ∧ o.cls = .type "list_iterator" ∧ o.data = .fields #[.ref a, .int (i : Int) 0]
  | .riter a n, o => o = { cls := .type "range_iterator", data := .fields #[rawInt a, rawInt (n : Int), rawInt 1] }
  | .junk, _ => True
  | .plist j l vs, o => ∃ xs n, o = listOf (List.toArray (V.pre j ++ xs)) n ∧ VRs V adr vs xs ∧ (∀ u, l = some u → ((V.pre j).length : Int) = u.val V) ∧ (V.pre j).length ≤ 100
  | .opq j, o => o = V.obj j
theorem get_mono {adr adr' : List Addr} (hp : adr <+: adr') {i : Nat} {a : Addr} (h : adr[i]? = some a) : adr'[i]? = some a := by
  obtain ⟨r, rfl⟩ := hp
  rw [List.getElem?_append_left (List.getElem?_eq_some_iff.mp h).1]; exact h
theorem OR.mono {V : Vars} {adr adr' : List Addr} {P : Params} (hp : adr <+: adr') {a : AO} {o : Obj} (h : OR V adr P a o) : OR V adr' P a o := by
  cases a with
  | inst C d => obtain ⟨dx, h1, h2⟩ := h; exact ⟨dx, get_mono hp h1, h2⟩
  | dict es => obtain ⟨des, n, h1, h2⟩ := h; exact ⟨des, n, h1, h2.imp fun _ _ ⟨x, t, a, b, c, d⟩ => ⟨x, t, a, b, c, d.mono hp⟩⟩
  | list vs => obtain ⟨xs, n, h1, h2⟩ := h; exact ⟨xs, n, h1, h2.mono hp⟩
  | tup vs => obtain ⟨xs, n, h1, h2⟩ := h; exact ⟨xs, n, h1, h2.mono hp⟩
  | cell v =>
    obtain ⟨w, h1, h2⟩ := h
    refine ⟨w, h1, ?_⟩
    cases v <;> cases w <;> first | exact h2 | exact h2.mono hp
  | ns F => obtain ⟨es, ep, m, h1, h2, h3, h4⟩ := h; exact ⟨es, ep, m, h1, h2, h3, h4.mono hp⟩
  | rng a b => exact h
  | liter l i => obtain ⟨a, h1, h2⟩ := h; exact ⟨a, get_mono hp h1, h2⟩
  | riter a n => exact h
  | junk => exact h
  | plist j l vs => obtain ⟨xs, n, h1, h2, h3⟩ := h; exact ⟨xs, n, h1, h2.mono hp, h3⟩
  | opq j => exact h

noncomputable abbrev adrs (news : List (Addr × Obj)) : List Addr := news.map (·.1)
noncomputable def isJunk : AO → Bool
  | .junk => true
  | _ => false
/-- what of the ledger is still told, and behind it what is told for good -/
noncomputable def live (R : List (Addr × Obj)) : He → List (Addr × Obj) → List (Addr × Obj)
  | a :: H, p :: n => if isJunk a = true then live R H n else p :: live R H n
  | [], _ => R
  | _ :: _, [] => R
structure SR (V : Vars) (P : Params) (h₀ : Heap) (L : Addr) (h : Heap) (m : Str → Option Value) (news : List (Addr × Obj)) (F : Lo) (H : He) : Prop where
  fr : Fr h₀ L h m
  nw : News h₀ L h (live V.arch H news)
  al : All2 (fun a (p : Addr × Obj) => OR V (adrs news) P a p.2) H news
  nds : (sysModules :: adrs (live V.arch H news)).Nodup
  lo : LR V (adrs news) F m

theorem SR.nd {V : Vars} {P : Params} {h₀ : Heap} {L : Addr} {h : Heap} {m : Str → Option Value} {news : List (Addr × Obj)} {F : Lo} {H : He} (S : SR V P h₀ L h m news F H) : (adrs (live V.arch H news)).Nodup := (List.nodup_cons.mp S.nds).2
theorem SR.nm {V : Vars} {P : Params} {h₀ : Heap} {L : Addr} {h : Heap} {m : Str → Option Value} {news : List (Addr × Obj)} {F : Lo} {H : He} (S : SR V P h₀ L h m news F H) : sysModules ∉ adrs (live V.arch H news) := (List.nodup_cons.mp S.nds).1
theorem all2_get {α β : Type} {R : α → β → Prop} {l : List α} {l' : List β} {i : Nat} {a : α} (h : All2 R l l') (e : l[i]? = some a) : ∃ b, l'[i]? = some b ∧ R a b := by
  induction h generalizing i with
  | nil => cases e
  | cons h _ ih =>
    cases i with
    | zero => cases e; exact ⟨_, rfl, h⟩
    | succ i =>
      obtain ⟨b, h1, h2⟩ := ih (i := i) (by simpa using e)
      exact ⟨b, by simpa using h1, h2⟩
theorem all2_set {α β : Type} {R : α → β → Prop} {l : List α} {l' : List β} {i : Nat} {a : α} {b : β} (h : All2 R l l') (hr : R a b) : All2 R (l.set i a) (l'.set i b) := by
  induction h generalizing i with
  | nil => exact .nil
  | cons h t ih =>
    cases i with
    | zero => exact .cons hr t
    | succ i => exact .cons h ih
theorem all2_append {α β : Type} {R : α → β → Prop} {l r : List α} {l' r' : List β} (h : All2 R l l') (hr : All2 R r r') : All2 R (l ++ r) (l' ++ r') := by
  induction h with
  | nil => exact hr
  | cons a _ ih => exact .cons a ih

section
variable {R : List (Addr × Obj)}
theorem live_cons_j {a : AO} (ha : isJunk a = true) (H : He) (p : Addr × Obj) (n : List (Addr × Obj)) : live R (a :: H) (p :: n) = live R H n := by
  show (if isJunk a = true then live R H n else p :: live R H n) = _
  rw [if_pos ha]
theorem live_cons_n {a : AO} (ha : isJunk a = false) (H : He) (p : Addr × Obj) (n : List (Addr × Obj)) : live R (a :: H) (p :: n) = p :: live R H n := by
  show (if isJunk a = true then live R H n else p :: live R H n) = _
  rw [if_neg (by rw [ha]; decide)]
theorem mem_live : ∀ {H : He} {news : List (Addr × Obj)} {i : Nat} {a : AO} {p : Addr × Obj}, H[i]? = some a → news[i]? = some p → isJunk a = false → p ∈ live R H news
  | b :: H, q :: n, 0, a, p, e, e', hj => by
    cases e; cases e'
    rw [live_cons_n hj]
    exact .head _
  | b :: H, q :: n, i + 1, a, p, e, e', hj => by
    have := mem_live (H := H) (news := n) (i := i) (by simpa using e) (by simpa using e') hj
    cases hb : isJunk b with
    | true => rw [live_cons_j hb]; exact this
    | false => rw [live_cons_n hb]; exact .tail _ this
  | [], _, _, _, _, e, _, _ => by simp at e
  | _ :: _, [], _, _, _, _, e', _ => by simp at e'
theorem live_nil (n : List (Addr × Obj)) : live R [] n = R := by cases n <;> rfl
theorem live_nil' (H : He) : live R H [] = R := by cases H <;> rfl
theorem live_arch : ∀ {H : He} {news : List (Addr × Obj)}, ∀ p ∈ R, p ∈ live R H news
  | [], n, p, hp => by rw [live_nil]; exact hp
  | a :: H, [], p, hp => by rw [live_nil']; exact hp
  | a :: H, q :: n, p, hp => by
    have := live_arch (H := H) (news := n) p hp
    cases hb : isJunk a with
    | true => rw [live_cons_j hb]; exact this
    | false => rw [live_cons_n hb]; exact .tail _ this
theorem live_snoc {a : AO} {p : Addr × Obj} (hj : isJunk a = false) : ∀ {H : He} {news : List (Addr × Obj)}, H.length = news.length → live R (H ++ [a]) (news ++ [p]) = live (p :: R) H news
  | [], [], _ => by show live R [a] [p] = live (p :: R) [] []; rw [live_cons_n hj, live_nil]; rfl
  | b :: H, q :: n, hl => by
    have ih := live_snoc (p := p) hj (H := H) (news := n) (by simpa using hl)
    show live R (b :: (H ++ [a])) (q :: (n ++ [p])) = _
    cases hb : isJunk b with
    | true => rw [live_cons_j hb, live_cons_j hb]; exact ih
    | false => rw [live_cons_n hb, live_cons_n hb, ih]
  | [], _ :: _, hl => by simp at hl
  | _ :: _, [], hl => by simp at hl
theorem live_in {p : Addr × Obj} : ∀ {H : He} {news : List (Addr × Obj)} {q : Addr × Obj}, q ∈ live (p :: R) H news ↔ q = p ∨ q ∈ live R H news
  | [], n, q => by rw [live_nil, live_nil]; exact List.mem_cons
  | a :: H, [], q => by rw [live_nil', live_nil']; exact List.mem_cons
  | a :: H, z :: n, q => by
    have ih := live_in (p := p) (H := H) (news := n) (q := q)
    cases hb : isJunk a with
    | true => rw [live_cons_j hb, live_cons_j hb]; exact ih
    | false =>
      rw [live_cons_n hb, live_cons_n hb, List.mem_cons, ih, List.mem_cons]
      constructor
      · rintro (h | h | h)
        · exact .inr (.inl h)
        · exact .inl h
        · exact .inr (.inr h)
      · rintro (h | h | h)
        · exact .inr (.inl h)
        · exact .inl h
        · exact .inr (.inr h)
theorem live_nodup {p : Addr × Obj} : ∀ {H : He} {news : List (Addr × Obj)}, p.1 ∉ adrs (live R H news) → (adrs (live R H news)).Nodup → (adrs (live (p :: R) H news)).Nodup
  | [], n, hn, nd => by rw [live_nil] at hn nd ⊢; exact List.nodup_cons.mpr ⟨hn, nd⟩
  | a :: H, [], hn, nd => by rw [live_nil'] at hn nd ⊢; exact List.nodup_cons.mpr ⟨hn, nd⟩
  | a :: H, z :: n, hn, nd => by
    cases hb : isJunk a with
    | true =>
      rw [live_cons_j hb] at hn nd ⊢
      exact live_nodup hn nd
    | false =>
      rw [live_cons_n hb] at hn nd ⊢
      have nd' := List.nodup_cons.mp nd
      refine List.nodup_cons.mpr ⟨fun hm => ?_, live_nodup (fun h => hn (List.mem_cons_of_mem _ h)) nd'.2⟩
      obtain ⟨q, hq, e⟩ := List.mem_map.mp hm
      rcases live_in.mp hq with rfl | hq
      · exact hn (by rw [e]; exact List.mem_cons_self)
      · have e' : q.1 = z.1 := e
        exact nd'.1 (by show z.1 ∈ _; rw [← e']; exact List.mem_map_of_mem (f := (·.1)) hq)
theorem adrs_live_set {d : Addr} {o o' : Obj} {a b : AO} (ha : isJunk a = false) (hb : isJunk b = false) : ∀ {H : He} {news : List (Addr × Obj)} {i : Nat}, H[i]? = some a → news[i]? = some (d, o) → adrs (live R (H.set i b) (news.set i (d, o'))) = adrs (live R H news)
  | c :: H, q :: n, 0, e, e' => by
    cases e; cases e'
    show adrs (live R (b :: H) ((d, o') :: n)) = adrs (live R (a :: H) ((d, o) :: n))
    rw [live_cons_n hb, live_cons_n ha]
    rfl
  | c :: H, q :: n, i + 1, e, e' => by
    have ih := adrs_live_set (o' := o') ha hb (H := H) (news := n) (i := i) (by simpa using e) (by simpa using e')
    show adrs (live R (c :: H.set i b) (q :: n.set i (d, o'))) = adrs (live R (c :: H) (q :: n))
    cases hc : isJunk c with
    | true => rw [live_cons_j hc, live_cons_j hc]; exact ih
    | false =>
      rw [live_cons_n hc, live_cons_n hc]
      show q.1 :: adrs (live R (H.set i b) (n.set i (d, o'))) = q.1 :: adrs (live R H n)
      rw [ih]
  | [], _, _, e, _ => by simp at e
  | _ :: _, [], _, _, e' => by simp at e'
theorem upd_of {d : Addr} {o o' : Obj} {a b : AO} (ha : isJunk a = false) (hb : isJunk b = false) : ∀ {H : He} {news : List (Addr × Obj)} {i : Nat}, (adrs (live R H news)).Nodup → H[i]? = some a → news[i]? = some (d, o) →
    Upd d o o' (live R H news) (live R (H.set i b) (news.set i (d, o')))
  | c :: H, q :: n, 0, nd, e, e' => by
    cases e; cases e'
    show Upd d o o' (live R (a :: H) ((d, o) :: n)) (live R (b :: H) ((d, o') :: n))
    rw [live_cons_n ha] at nd ⊢
    rw [live_cons_n hb]
    refine .head fun p hp => ?_
    have := (List.nodup_cons.mp nd).1
    rintro rfl
    exact this (List.mem_map_of_mem (f := (·.1)) hp)
  | c :: H, q :: n, i + 1, nd, e, e' => by
    have e1 : H[i]? = some a := by simpa using e
    have e2 : n[i]? = some (d, o) := by simpa using e'
    show Upd d o o' (live R (c :: H) (q :: n)) (live R (c :: H.set i b) (q :: n.set i (d, o')))
    cases hc : isJunk c with
    | true =>
      rw [live_cons_j hc] at nd
      rw [live_cons_j hc, live_cons_j hc]
      exact upd_of ha hb nd e1 e2
    | false =>
      rw [live_cons_n hc] at nd
      rw [live_cons_n hc, live_cons_n hc]
      have nd' := List.nodup_cons.mp nd
      refine .tail (fun z => nd'.1 ?_) (upd_of ha hb nd'.2 e1 e2)
      have := List.mem_map_of_mem (f := (·.1)) (mem_live (R := R) e1 e2 ha)
      show q.1 ∈ _
      rw [z]; exact this
  | [], _, _, _, e, _ => by simp at e
  | _ :: _, [], _, _, _, e' => by simp at e'
/-- what is told no more leaves the others' ledger a part -/
theorem live_junk : ∀ {H : He} {news : List (Addr × Obj)} {i : Nat}, ∀ p ∈ live R (H.set i .junk) news, p ∈ live R H news
  | [], n, i, p, hp => by rw [List.set_nil] at hp; exact hp
  | H, [], i, p, hp => by rw [live_nil'] at hp ⊢; exact hp
  | c :: H, q :: n, 0, p, hp => by
    have hp' : p ∈ live R (.junk :: H) (q :: n) := hp
    rw [live_cons_j rfl] at hp'
    cases hc : isJunk c with
    | true => rw [live_cons_j hc]; exact hp'
    | false => rw [live_cons_n hc]; exact .tail _ hp'
  | c :: H, q :: n, i + 1, p, hp => by
    have hp' : p ∈ live R (c :: H.set i .junk) (q :: n) := hp
    cases hc : isJunk c with
    | true => rw [live_cons_j hc] at hp' ⊢; exact live_junk p hp'
    | false =>
      rw [live_cons_n hc] at hp' ⊢
      rcases List.mem_cons.mp hp' with rfl | h
      · exact .head _
      · exact .tail _ (live_junk p h)
theorem live_junk_nodup : ∀ {H : He} {news : List (Addr × Obj)} {i : Nat}, (adrs (live R H news)).Nodup → (adrs (live R (H.set i .junk) news)).Nodup
  | [], n, i, nd => by rw [List.set_nil]; exact nd
  | H, [], i, nd => by rw [live_nil'] at nd ⊢; exact nd
  | c :: H, q :: n, 0, nd => by
    show (adrs (live R (.junk :: H) (q :: n))).Nodup
    rw [live_cons_j rfl]
    cases hc : isJunk c with
    | true => rw [live_cons_j hc] at nd; exact nd
    | false => rw [live_cons_n hc] at nd; exact (List.nodup_cons.mp nd).2
  | c :: H, q :: n, i + 1, nd => by
    show (adrs (live R (c :: H.set i .junk) (q :: n))).Nodup
    cases hc : isJunk c with
    | true => rw [live_cons_j hc] at nd ⊢; exact live_junk_nodup nd
    | false =>
      rw [live_cons_n hc] at nd ⊢
      have nd' := List.nodup_cons.mp nd
      refine List.nodup_cons.mpr ⟨fun hm => nd'.1 ?_, live_junk_nodup nd'.2⟩
      obtain ⟨r, hr, e⟩ := List.mem_map.mp hm
      have := List.mem_map_of_mem (f := (·.1)) (live_junk r hr)
      rw [e] at this; exact this
/-- the one that is told no more is not among the others -/
theorem live_junk_ne {d : Addr} {o : Obj} {a : AO} (ha : isJunk a = false) : ∀ {H : He} {news : List (Addr × Obj)} {i : Nat}, (adrs (live R H news)).Nodup → H[i]? = some a → news[i]? = some (d, o) → ∀ p ∈ live R (H.set i .junk) news, p.1 ≠ d
  | c :: H, q :: n, 0, nd, e, e', p, hp => by
    cases e; cases e'
    have hp' : p ∈ live R (.junk :: H) ((d, o) :: n) := hp
    rw [live_cons_j rfl] at hp'
    rw [live_cons_n ha] at nd
    rintro rfl
    exact (List.nodup_cons.mp nd).1 (List.mem_map_of_mem (f := (·.1)) hp')
  | c :: H, q :: n, i + 1, nd, e, e', p, hp => by
    have e1 : H[i]? = some a := by simpa using e
    have e2 : n[i]? = some (d, o) := by simpa using e'
    have hp' : p ∈ live R (c :: H.set i .junk) (q :: n) := hp
    cases hc : isJunk c with
    | true => rw [live_cons_j hc] at hp' nd; exact live_junk_ne ha nd e1 e2 p hp'
    | false =>
      rw [live_cons_n hc] at hp' nd
      have nd' := List.nodup_cons.mp nd
      rcases List.mem_cons.mp hp' with rfl | h
      · intro z
        have := List.mem_map_of_mem (f := (·.1)) (mem_live (R := R) e1 e2 ha)
        exact nd'.1 (by show p.1 ∈ _; rw [z]; exact this)
      · exact live_junk_ne ha nd'.2 e1 e2 p h
  | [], _, _, _, e, _, _, _ => by simp at e
  | _ :: _, [], _, _, _, e', _, _ => by simp at e'
end
theorem adrs_set {news : List (Addr × Obj)} {i : Nat} {d : Addr} {o o' : Obj} (e : news[i]? = some (d, o)) : adrs (news.set i (d, o')) = adrs news := by
  unfold adrs
  rw [List.map_set]
  have : (news.map (·.1))[i]? = some d := by rw [List.getElem?_map, e]; rfl
  exact PySem.W.X.set_same this

section
variable {V : Vars} {P : Params} {h₀ : Heap} {L : Addr} {h : Heap} {m : Str → Option Value} {news : List (Addr × Obj)} {F : Lo} {H : He}
theorem SR.get (S : SR V P h₀ L h m news F H) {i : Nat} {a : AO} (e : H[i]? = some a) (hj : isJunk a = false) : ∃ x o, (adrs news)[i]? = some x ∧ news[i]? = some (x, o) ∧ h.get? x = some o ∧ OR V (adrs news) P a o := by
  obtain ⟨⟨x, o⟩, h1, h2⟩ := all2_get S.al e
  exact ⟨x, o, by rw [List.getElem?_map, h1]; rfl, h1, (S.nw _ (mem_live e h1 hj)).1, h2⟩
theorem SR.at (S : SR V P h₀ L h m news F H) {i : Nat} {a : AO} (e : H[i]? = some a) {x : Addr} (hx : (adrs news)[i]? = some x) (hj : isJunk a = false := by rfl) : ∃ o, news[i]? = some (x, o) ∧ h.get? x = some o ∧ OR V (adrs news) P a o := by
  obtain ⟨x', o, h1, h2, h3, h4⟩ := S.get e hj
  rw [hx] at h1; cases h1
  exact ⟨o, h2, h3, h4⟩
theorem SR.len (S : SR V P h₀ L h m news F H) : H.length = news.length := S.al.length

/-- a new object goes onto the ledger's end -/
theorem SR.alloc (S : SR V P h₀ L h m news F H) {h' : Heap} {x : Addr} {o : Obj} {a : AO} (F' : Fr h₀ L h' m) (N' : News h₀ L h' ((x, o) :: live V.arch H news)) (hx : x ∉ adrs (live V.arch H news)) (hx0 : x ≠ sysModules) (ho : OR V (adrs (news ++ [(x, o)])) P a o) (hj : isJunk a = false) :
    SR V P h₀ L h' m (news ++ [(x, o)]) F (H ++ [a]) := by
  have hp : adrs news <+: adrs (news ++ [(x, o)]) := by unfold adrs; rw [List.map_append]; exact List.prefix_append _ _
  have el := live_snoc (R := V.arch) (p := (x, o)) hj S.len
  refine ⟨F', fun p hp => ?_, ?_, ?_, S.lo.mono hp⟩
  · rw [el] at hp
    rcases live_in.mp hp with q | q
    · rw [q]; exact N' _ (List.mem_cons_self)
    · exact N' p (List.mem_cons_of_mem _ q)
  · exact all2_append (S.al.imp fun _ _ q => q.mono hp) (.cons ho .nil)
  · rw [el]
    refine List.nodup_cons.mpr ⟨fun hm => ?_, live_nodup hx S.nd⟩
    obtain ⟨q, hq, e⟩ := List.mem_map.mp hm
    rcases live_in.mp hq with rfl | hq
    · exact hx0 e
    · exact S.nm (by rw [← e]; exact List.mem_map_of_mem (f := (·.1)) hq)

/-- an object of the ledger is changed -/
theorem SR.set (S : SR V P h₀ L h m news F H) {h' : Heap} {i : Nat} {x : Addr} {o o' : Obj} {a b : AO} (e : news[i]? = some (x, o)) (eH : H[i]? = some b) (F' : Fr h₀ L h' m) (N' : News h₀ L h' (live V.arch (H.set i a) (news.set i (x, o')))) (ho : OR V (adrs news) P a o')
    (hb : isJunk b = false := by rfl) (ha : isJunk a = false := by rfl) :
    SR V P h₀ L h' m (news.set i (x, o')) F (H.set i a) := by
  have ea := adrs_set (o' := o') e
  refine ⟨F', N', ?_, ?_, by rw [ea]; exact S.lo⟩
  · rw [ea]
    exact all2_set S.al ho
  · rw [adrs_live_set (o' := o') hb ha eH e]; exact S.nds
/-- an object of the ledger is told no more -/
theorem SR.drop (S : SR V P h₀ L h m news F H) {h' : Heap} {i : Nat} {x : Addr} {o : Obj} {b : AO} (e : news[i]? = some (x, o)) (eH : H[i]? = some b) (F' : Fr h₀ L h' m) (hk : ∀ y u, y ≠ x → h.get? y = some u → h'.get? y = some u) (hb : isJunk b = false := by rfl) :
    SR V P h₀ L h' m news F (H.set i .junk) := by
  refine ⟨F', fun p hp => ?_, ?_, List.nodup_cons.mpr ⟨fun hm => S.nm (by
    obtain ⟨q, hq, e⟩ := List.mem_map.mp hm
    rw [← e]
    exact List.mem_map_of_mem (f := (·.1)) (live_junk q hq)), live_junk_nodup S.nd⟩, S.lo⟩
  · have q := S.nw p (live_junk p hp)
    exact ⟨hk _ _ (live_junk_ne hb S.nd eH e p hp) q.1, q.2⟩
  · have := all2_set (a := AO.junk) (b := (x, o)) (i := i) S.al (show OR V (adrs news) P .junk o from trivial)
    rwa [PySem.W.X.set_same e] at this
end
end Mine
end EvB_text
section EvBa_text
open PySem PySem.W PyProof.Rows PySem.Calls PySem.Spec
set_option Elab.async false
set_option maxRecDepth 100000
set_option maxHeartbeats 4000000
namespace Mine
/-! small readers, so that no pattern is deep -/
theorem no_some {α : Type} {a : α} (h : (none : Option α) = some a) : False := nomatch h
noncomputable def bnd {α β : Type} (x : Option α) (f : α → Option β) : Option β := @Option.rec α (fun _ => Option β) none f x
theorem bnd_is {α β : Type} {x : Option α} {f : α → Option β} {b : β} (h : bnd x f = some b) : ∃ a, x = some a ∧ f a = some b := by
  cases x with
  | some a => exact ⟨a, rfl, h⟩
  | none => exact (no_some h).elim
noncomputable def grd {β : Type} (c : Bool) (x : Option β) : Option β := @Bool.rec (fun _ => Option β) none x c
theorem grd_is {β : Type} {c : Bool} {x : Option β} {b : β} (h : grd c x = some b) : c = true ∧ x = some b := by
  cases c with
  | true => exact ⟨rfl, h⟩
  | false => exact (no_some h).elim
noncomputable def tst {α : Type} (x : Option α) (f : α → Bool) : Bool := @Option.rec α (fun _ => Bool) false f x
theorem tst_is {α : Type} {x : Option α} {f : α → Bool} (h : tst x f = true) : ∃ a, x = some a ∧ f a = true := by
  cases x with
  | some a => exact ⟨a, rfl, h⟩
  | none => exact (Bool.noConfusion (show false = true from h))
theorem and_is {a b : Bool} (h : (a && b) = true) : a = true ∧ b = true := Bool.and_eq_true_iff.mp h
theorem not_is {a : Bool} (h : (!a) = true) : a = false := by
  cases a with
  | false => rfl
  | true => exact (Bool.noConfusion (show false = true from h))
noncomputable def asRef : AV → Option Nat
  | .ref i => some i
  | _ => none
theorem asRef_is {a : AV} {i : Nat} (h : asRef a = some i) : a = .ref i := by cases a <;> first | (exact (no_some h).elim) | (cases h; rfl)
noncomputable def asInt : AV → Option Lin
  | .int l => some l
  | _ => none
theorem asInt_is {a : AV} {i : Lin} (h : asInt a = some i) : a = .int i := by cases a <;> first | (exact (no_some h).elim) | (cases h; rfl)
noncomputable def asStr : AV → Option Nat
  | .str k => some k
  | _ => none
theorem asStr_is {a : AV} {i : Nat} (h : asStr a = some i) : a = .str i := by cases a <;> first | (exact (no_some h).elim) | (cases h; rfl)
noncomputable def instO : AO → Option (Nat × Nat)
  | .inst C d => some (C, d)
  | _ => none
noncomputable def dictO : AO → Option Lo
  | .dict es => some es
  | _ => none
noncomputable def listO : AO → Option (List AV)
  | .list vs => some vs
  | _ => none
noncomputable def tupO : AO → Option (List AV)
  | .tup vs => some vs
  | _ => none
noncomputable def plO : AO → Option (Nat × Option Lin × List AV)
  | .plist j l vs => some (j, l, vs)
  | _ => none
theorem instO_is {a : AO} {C d : Nat} (h : instO a = some (C, d)) : a = .inst C d := by cases a <;> first | (exact (no_some h).elim) | (cases h; rfl)
theorem dictO_is {a : AO} {es : Lo} (h : dictO a = some es) : a = .dict es := by cases a <;> first | (exact (no_some h).elim) | (cases h; rfl)
theorem listO_is {a : AO} {es : List AV} (h : listO a = some es) : a = .list es := by cases a <;> first | (exact (no_some h).elim) | (cases h; rfl)
theorem tupO_is {a : AO} {es : List AV} (h : tupO a = some es) : a = .tup es := by cases a <;> first | (exact (no_some h).elim) | (cases h; rfl)
theorem plO_is {a : AO} {j : Nat} {l : Option Lin} {vs : List AV} (h : plO a = some (j, l, vs)) : a = .plist j l vs := by cases a <;> first | (exact (no_some h).elim) | (cases h; rfl)
/-- reading the heap by the recursors themselves: short in the kernel -/
noncomputable def getH (H : He) (i : Nat) : Option AO := @List.rec AO (fun _ => Nat → Option AO) (fun _ => none) (fun a _ ih i => @Nat.rec (fun _ => Option AO) (some a) (fun j _ => ih j) i) H i
theorem getH_eq (H : He) (i : Nat) : getH H i = H[i]? := by
  induction H generalizing i with
  | nil => rfl
  | cons a t ih =>
    cases i with
    | zero => rfl
    | succ j => exact (ih j).trans (List.getElem?_cons_succ).symm
/-- the heap's object of a kind -/
noncomputable def instAt (H : He) (i : Nat) : Option (Nat × Nat) := bnd (getH H i) instO
noncomputable def dictAt (H : He) (i : Nat) : Option Lo := bnd (getH H i) dictO
noncomputable def tupAt' (H : He) (i : Nat) : Option (List AV) := bnd (getH H i) tupO
noncomputable def listAt' (H : He) (i : Nat) : Option (List AV) := bnd (getH H i) listO
noncomputable def plAt (H : He) (i : Nat) : Option (Nat × Option Lin × List AV) := bnd (getH H i) plO
theorem instAt_is {H : He} {i C d : Nat} (h : instAt H i = some (C, d)) : H[i]? = some (.inst C d) := by
  obtain ⟨a, h1, h2⟩ := bnd_is h
  rw [← getH_eq, h1, instO_is h2]
theorem dictAt_is {H : He} {i : Nat} {es : Lo} (h : dictAt H i = some es) : H[i]? = some (.dict es) := by
  obtain ⟨a, h1, h2⟩ := bnd_is h
  rw [← getH_eq, h1, dictO_is h2]
theorem tupAt_is {H : He} {i : Nat} {es : List AV} (h : tupAt' H i = some es) : H[i]? = some (.tup es) := by
  obtain ⟨a, h1, h2⟩ := bnd_is h
  rw [← getH_eq, h1, tupO_is h2]
theorem listAt_is {H : He} {i : Nat} {es : List AV} (h : listAt' H i = some es) : H[i]? = some (.list es) := by
  obtain ⟨a, h1, h2⟩ := bnd_is h
  rw [← getH_eq, h1, listO_is h2]
theorem plAt_is {H : He} {i j : Nat} {l : Option Lin} {es : List AV} (h : plAt H i = some (j, l, es)) : H[i]? = some (.plist j l es) := by
  obtain ⟨a, h1, h2⟩ := bnd_is h
  rw [← getH_eq, h1, plO_is h2]
noncomputable def hd1 {α : Type} : List α → Option (α × List α)
  | [] => none
  | a :: t => some (a, t)
theorem hd1_is {α : Type} : ∀ {l : List α} {a : α} {t : List α}, hd1 l = some (a, t) → l = a :: t
  | [], _, _, h => (no_some h).elim
  | _ :: _, _, _, h => by cases h; rfl
noncomputable def pair2 {α : Type} (l : List α) : Option (α × α) := bnd (hd1 l) fun p => bnd (hd1 p.2) fun q => grd q.2.isEmpty (some (p.1, q.1))
theorem pair2_is {α : Type} {l : List α} {a b : α} (h : pair2 l = some (a, b)) : l = [a, b] := by
  obtain ⟨⟨x, t⟩, h1, h⟩ := bnd_is h
  obtain ⟨⟨y, u⟩, h2, h⟩ := bnd_is h
  obtain ⟨h3, h⟩ := grd_is h
  rw [hd1_is h1, hd1_is (l := t) h2, show u = [] from List.isEmpty_iff.mp h3]
  cases h
  rfl
end Mine
end EvBa_text
section EvC_text
open PySem PySem.W PyProof.Rows PySem.Calls PySem.Spec
set_option Elab.async false
set_option maxRecDepth 100000
set_option maxHeartbeats 4000000
namespace Mine

/-! the evaluator -/
structure EI where
  cs : Scope
  cells : List (Nat × Nat)
  mode : Option Nat
  dp : Nat
  un : Nat
inductive AF where
  | next
  | ret (v : AV)

noncomputable def isE {α : Type} (x : Option α) : Bool := match x with | some _ => true | none => false
noncomputable def okStr (x : Str) : Bool := Nat.blt (sid x) tblLen
noncomputable def kf : List (Str × NameKind) → Nat → Option NameKind
  | [], _ => none
  | (x, nk) :: t, k => match Nat.beq (sid x) k with
    | true => some nk
    | false => kf t k
noncomputable def lkN : List (Nat × Nat) → Nat → Option Nat
  | [], _ => none
  | (k, v) :: t, x => match Nat.beq k x with
    | true => some v
    | false => lkN t x

noncomputable def builtinOf (K : Frag) (x : Str) : Option AV :=
  match nsIn K mainGlobals x == some none with
  | true => match Nat.beq (sid x) (sid "len") with
    | true => some (.bi .len)
    | false => match Nat.beq (sid x) (sid "range") with
      | true => some (.bi .range)
      | false => match Nat.beq (sid x) (sid "list") with
        | true => some (.bi .list)
        | false => match Nat.beq (sid x) (sid "isinstance") with
          | true => some (.bi .isinstance)
          | false => none
  | false => none
noncomputable def globOf (K : Frag) (x : Str) : Option AV := match nsIn K mainGlobals x with
  | some (some (.ref a)) => some (.kref a)
  | _ => builtinOf K x
noncomputable def nameOf (K : Frag) (ei : EI) (F : Lo) (H : He) (x : Str) : Option AV :=
  match okStr x with
  | false => none
  | true => match kf ei.cs.names (sid x) with
    | some .local => (match ei.mode with
      | none => lk F (sid x)
      | some i => match getH H i with
        | some (.ns F') => lk F' (sid x)
        | _ => none)
    | some .cell => (match lkN ei.cells (sid x) with
      | some i => match getH H i with
        | some (.cell (some v)) => some v
        | _ => none
      | none => none)
    | some .globalImplicit => globOf K x
    | _ => none

noncomputable def baseOk : Expr → Bool
  | .Name .. => true
  | .Attribute .. => true
  | .Subscript .. => true
  | _ => false
noncomputable def notSet : Expr → Bool
  | .Set .. => false
  | _ => true
noncomputable def argOk : Expr → Bool
  | .Starred .. => false
  | _ => true
noncomputable def valOk : Expr → Bool
  | .ListComp .. => false
  | .SetComp .. => false
  | .DictComp .. => false
  | _ => true
noncomputable def notSlice : Expr → Bool
  | .Slice .. => false
  | _ => true

noncomputable def fieldOk (K : Frag) (C : Addr) (a : Str) : Bool := plainGet K C a && hasDictIn K C && (findIn K (.ref C) a == some none)
noncomputable def storeOk' (K : Frag) (C : Addr) (a : Str) : Bool :=
  (findIn K (.ref C) "__setattr__" == some (some (.builtin "object.__setattr__"))) && plainOver K C && (takerIn K C a == some none) && hasDictIn K C
noncomputable def methIn (K : Frag) (C : Addr) (a : Str) : Option Addr :=
  match plainGet K C a with
  | false => none
  | true => match findIn K (.ref C) a with
    | some (some (.ref f)) => (match isFn K (.ref f) with | true => some f | false => none)
    | _ => none

noncomputable def getA (K : Frag) (H : He) (o : AV) (a : Str) : Option AV := match o with
  | .ref i => match getH H i with
    | some (.inst C d) => match fieldOk K C a with
      | true => match getH H d with
        | some (.dict es) => match okStr a with
          | true => lk es (sid a)
          | false => none
        | _ => none
      | false => none
    | _ => none
  | _ => none
/-- forcing: the spine of the heap is rebuilt to the place -/
noncomputable def setH (H : He) (i : Nat) (o : AO) : Option He := @List.rec AO (fun _ => Nat → Option He) (fun _ => none) (fun a t ih i => @Nat.rec (fun _ => Option He) (some (o :: t)) (fun j _ => bnd (ih j) fun t' => some (a :: t')) i) H i
theorem setH_eq {H : He} {i : Nat} {o : AO} {H' : He} (e : setH H i o = some H') : H' = H.set i o ∧ i < H.length := by
  induction H generalizing i H' with
  | nil => exact (no_some e).elim
  | cons a t ih =>
    cases i with
    | zero => cases e; exact ⟨rfl, Nat.zero_lt_succ _⟩
    | succ i =>
      obtain ⟨t', e', e⟩ := bnd_is (show bnd (setH t i o) (fun t' => some (a :: t')) = some H' from e)
      cases e
      obtain ⟨h1, h2⟩ := ih e'
      exact ⟨by rw [h1]; rfl, Nat.succ_lt_succ h2⟩
noncomputable def pushH (H : He) (o : AO) : He := @List.rec AO (fun _ => He) [o] (fun a _ ih => a :: ih) H
theorem pushH_eq : ∀ (H : He) (o : AO), pushH H o = H ++ [o]
  | [], _ => rfl
  | a :: t, o => by show a :: pushH t o = _; rw [pushH_eq t o]; rfl

noncomputable def setA (K : Frag) (H : He) (o : AV) (a : Str) (v : AV) : Option He := match o with
  | .ref i => match getH H i with
    | some (.inst C d) => match storeOk' K C a with
      | true => match getH H d with
        | some (.dict es) => match okStr a && Nat.blt es.length 100 with
          | true => setH H d (.dict (put es (sid a) v))
          | false => none
        | _ => none
      | false => none
    | _ => none
  | _ => none

inductive Meth where
  | fn (f : Addr)
  | own (v : AV)
  | append
  | dget
noncomputable def findMeth (K : Frag) (H : He) (o : AV) (a : Str) : Option Meth := match o with
  | .ref i => match getH H i with
    | some (.inst C d) => (match getH H d with
      | some (.dict es) => (match okStr a with
        | true => (match lk es (sid a) with
          | none => (match methIn K C a with
            | some f => some (.fn f)
            | none => none)
          | some v => (match fieldOk K C a with
            | true => some (.own v)
            | false => none))
        | false => none)
      | _ => none)
    | some (.list _) => (match Nat.beq (sid a) (sid "append") with | true => some .append | false => none)
    | some (.plist _ _ _) => (match Nat.beq (sid a) (sid "append") with | true => some .append | false => none)
    | some (.dict _) => (match Nat.beq (sid a) (sid "get") with | true => some .dget | false => none)
    | _ => none
  | _ => none

noncomputable def litN : Lin → Option Nat
  | ⟨0, 0, 0, .ofNat n⟩ => some n
  | _ => none
noncomputable def item (H : He) (o i : AV) : Option AV := match i with
  | .int l => match litN l with
    | some n => match o with
      | .ref r => match getH H r with
        | some (.list vs) => (match Nat.blt vs.length 10000 with | true => vs[n]? | false => none)
        | some (.tup vs) => (match Nat.blt vs.length 10000 with | true => vs[n]? | false => none)
        | _ => none
      | .str k => match Nat.beq k (sid "abc") with
        | true => match n with
          | 0 => some (.str (sid "a"))
          | 1 => some (.str (sid "b"))
          | 2 => some (.str (sid "c"))
          | _ => none
        | false => none
      | _ => none
    | none => none
  | _ => none

/-! ints -/
noncomputable def Lin.add (a b : Lin) : Lin := ⟨a.g + b.g, a.s + b.s, a.t + b.t, a.c + b.c⟩
noncomputable def Lin.sub (a b : Lin) : Lin := ⟨a.g - b.g, a.s - b.s, a.t - b.t, a.c - b.c⟩
noncomputable def Lin.smul (k : Int) (b : Lin) : Lin := ⟨k * b.g, k * b.s, k * b.t, k * b.c⟩
noncomputable def intZ : Int → Bool
  | .ofNat 0 => true
  | _ => false
noncomputable def intP : Int → Bool
  | .ofNat (_ + 1) => true
  | _ => false
noncomputable def intN : Int → Bool
  | .negSucc _ => true
  | _ => false
noncomputable def Lin.const? (a : Lin) : Option Int := match intZ a.g && intZ a.s && intZ a.t with
  | true => some a.c
  | false => none
/-- a < 0 for certain, the variables being between 0 and 100 -/
noncomputable def upB (k : Int) : Int := match k with
  | .ofNat n => (100 * n : Nat)
  | .negSucc _ => 0
noncomputable def loB (k : Int) : Int := match k with
  | .ofNat _ => 0
  | .negSucc n => Int.negSucc (100 * n + 99)
noncomputable def Lin.up (a : Lin) : Int := upB a.g + upB a.s + upB a.t + a.c
noncomputable def Lin.lo (a : Lin) : Int := loB a.g + loB a.s + loB a.t + a.c
/-- is a < b -/
noncomputable def ltL (a b : Lin) : Option Bool :=
  let d := a.sub b
  match intN d.up with
  | true => some true
  | false => match intN d.lo with
    | false => some false
    | true => none
noncomputable def eqL (a b : Lin) : Option Bool := match (a.sub b).const? with
  | some d => some (intZ d)
  | none => none

noncomputable def notB : Option Bool → Option Bool
  | some b => some (!b)
  | none => none
noncomputable def isNone : AV → Option Bool
  | .none => some true
  | .any => none
  | _ => some false
noncomputable def eqV (a b : AV) : Option Bool := match a, b with
  | .int x, .int y => eqL x y
  | .str x, .str y => some (Nat.beq x y)
  | .none, .none => some true
  | .none, .str _ => some false
  | .none, .int _ => some false
  | .int _, .none => some false
  | _, _ => none
noncomputable def memS (k : Nat) : List AV → Option Bool
  | [] => some false
  | a :: t => bnd (asStr a) fun j => bnd (memS k t) fun b => some (match Nat.beq j k with | true => true | false => b)
noncomputable def cmpV (H : He) (op : CmpOp) (a b : AV) : Option Bool := match op with
  | .Eq => eqV a b
  | .NotEq => notB (eqV a b)
  | .Is => (match b with | .none => isNone a | _ => none)
  | .IsNot => (match b with | .none => notB (isNone a) | _ => none)
  | .Lt => (match a, b with | .int x, .int y => ltL x y | _, _ => none)
  | .Gt => (match a, b with | .int x, .int y => ltL y x | _, _ => none)
  | .In => (match a, b with
    | .str k, .ref i => (match getH H i with
      | some (.tup vs) => memS k vs
      | some (.list vs) => memS k vs
      | _ => none)
    | _, _ => none)
  | _ => none
noncomputable def cmpOk : CmpOp → Bool
  | .Eq => true | .NotEq => true | .Is => true | .IsNot => true | .Lt => true | .Gt => true | .In => true
  | _ => false

noncomputable def addRef (H : He) (i j : Nat) : Option (AV × He) := bnd (listAt' H i) fun xs => bnd (listAt' H j) fun ys => grd (Nat.blt (xs.length + ys.length) 10000) (some (.ref H.length, pushH H (.list (xs ++ ys))))
noncomputable def binAdd (H : He) (a b : AV) : Option (AV × He) := match a with
  | .int x => bnd (asInt b) fun y => some (.int (x.add y), H)
  | .ref i => bnd (asRef b) fun j => addRef H i j
  | _ => none
noncomputable def binSub (H : He) (a b : AV) : Option (AV × He) := bnd (asInt a) fun x => bnd (asInt b) fun y => some (.int (x.sub y), H)
noncomputable def natO : Int → Option Nat
  | .ofNat k => some k
  | .negSucc _ => none
noncomputable def mulInt (H : He) (x y : Lin) : Option (AV × He) := bnd x.const? fun k => bnd (natO k) fun k => grd (Nat.blt k 1000) (some (.int (Lin.smul (.ofNat k) y), H))
noncomputable def one1 {α : Type} (l : List α) : Option α := bnd (hd1 l) fun p => grd p.2.isEmpty (some p.1)
noncomputable def mulRef (H : He) (i : Nat) (y : Lin) : Option (AV × He) := bnd (listAt' H i) fun vs => bnd (one1 vs) fun v => bnd (litN y) fun n => grd (Nat.blt n 1000) (some (.ref H.length, pushH H (.list (List.replicate n v))))
noncomputable def binMul (H : He) (a b : AV) : Option (AV × He) := match a with
  | .int x => bnd (asInt b) fun y => mulInt H x y
  | .ref i => bnd (asInt b) fun y => mulRef H i y
  | _ => none
noncomputable def binV (H : He) (op : Operator) (a b : AV) : Option (AV × He) := match op with
  | .Add => binAdd H a b
  | .Sub => binSub H a b
  | .Mult => binMul H a b
  | _ => none

noncomputable def truth : AV → Option Bool
  | .bool b => some b
  | _ => none

noncomputable def bindA : List Arg → List AV → Option Lo
  | [], as => grd as.isEmpty (some [])
  | a :: t, as => bnd (hd1 as) fun p => grd (okStr a.arg) (bnd (bindA t p.2) fun l => grd (lk l (sid a.arg)).isNone (some ((sid a.arg, p.1) :: l)))
noncomputable def dfltA : Value → Option AV
  | .none => some .none
  | .str x _ => (match okStr x with | true => some (.str (sid x)) | false => none)
  | .int i _ => some (.int (Lin.lit i))
  | .bool b => some (.bool b)
  | _ => none
noncomputable def dfltsA : List Value → Option (List AV)
  | [] => some []
  | v :: t => match dfltA v, dfltsA t with
    | some a, some r => some (a :: r)
    | _, _ => none
/-- the values of the defaults -/
noncomputable def dfltList (K : Frag) (v : Value) : Option (List Value) := match v with
  | .none => some []
  | .ref T => (match K.lookup T with
    | some ⟨_, _, .seq items _, _⟩ => some items.toList
    | _ => none)
  | _ => none
/-- the call's own values, made whole by the defaults -/
noncomputable def fillA (K : Frag) (fd : FuncData) (as : List AV) : Option (List AV) :=
  match dfltList K fd.defaults with
  | none => none
  | some ds => match Nat.ble ds.length fd.params.args.length && Nat.ble as.length fd.params.args.length && Nat.ble fd.params.args.length (as.length + ds.length) with
    | false => none
    | true => match dfltsA (ds.drop (as.length + ds.length - fd.params.args.length)) with
      | some r => some (as ++ r)
      | none => none
noncomputable def noCell : List (Str × NameKind) → Bool
  | [] => true
  | (_, .cell) :: _ => false
  | _ :: t => noCell t
noncomputable def allLocal (names : List (Str × NameKind)) : List Arg → Bool
  | [] => true
  | a :: t => match kf names (sid a.arg) with
    | some .local => allLocal names t
    | _ => false
noncomputable def isFunScope (sc : Scope) : Bool := match sc.kind, sc.isCoroutine, sc.isGenerator with
  | .function, false, false => noCell sc.names
  | _, _, _ => false
noncomputable def plainParams (p : Arguments) : Bool := p.posonlyargs.isEmpty && p.vararg.isNone && p.kwonlyargs.isEmpty && p.kwarg.isNone
noncomputable def fnOk (K : Frag) (fd : FuncData) : Bool :=
  plainParams fd.params && Nat.beq fd.globals mainGlobals && fd.closure.isEmpty && Nat.beq fd.builtins builtinsNs && codeIn K fd.code fd.qualname && isFunScope fd.scope && allLocal fd.scope.names fd.params.args

structure Rec where
  ev : EI → Lo → He → Expr → Option (AV × He)
  tr : EI → Lo → He → Expr → Option (Bool × He)
  st : EI → Lo → He → Stmt → Option (AF × Lo × He)

section
variable (K : Frag) (r : Rec)
noncomputable def evs (ei : EI) (F : Lo) : He → List Expr → Option (List AV × He)
  | H, [] => some ([], H)
  | H, e :: t => match argOk e with
    | false => none
    | true => match r.ev ei F H e with
      | none => none
      | some (v, H1) => match evs ei F H1 t with
        | none => none
        | some (vs, H2) => some (v :: vs, H2)
noncomputable def bl (ei : EI) : Lo → He → List Stmt → Option (AF × Lo × He)
  | F, H, [] => some (.next, F, H)
  | F, H, s :: t => match r.st ei F H s with
    | none => none
    | some (.ret v, F1, H1) => some (.ret v, F1, H1)
    | some (.next, F1, H1) => bl ei F1 H1 t
noncomputable def allTr (op : BoolOp) (ei : EI) (F : Lo) : He → List Expr → Option (Bool × He)
  | H, [] => (match op with | .And => some (true, H) | .Or => some (false, H))
  | H, e :: t => match r.tr ei F H e with
    | none => none
    | some (b, H1) => match op, b with
      | .And, false => some (false, H1)
      | .Or, true => some (true, H1)
      | _, _ => allTr op ei F H1 t

noncomputable def callFn (dp un : Nat) (H : He) (fd : FuncData) (as : List AV) : Option (AV × He) :=
  match fnOk K fd with
  | false => none
  | true => match fd.body with
    | .stmts body => (match fillA K fd as with
      | none => none
      | some as' => match bindA fd.params.args as' with
        | none => none
        | some F => match Nat.blt dp 200 && Nat.blt un 2000 with
          | false => none
          | true => match bl r ⟨fd.scope, [], none, dp + 1, un + 3⟩ F H body with
            | some (.ret v, _, H1) => some (v, H1)
            | some (.next, _, H1) => some (.none, H1)
            | none => none)
    | _ => none
noncomputable def typeCallUnits : Nat := 12
noncomputable def callV (dp un : Nat) (H : He) (f : AV) (as : List AV) : Option (AV × He) := match f with
  | .kref a => (match K.lookup a with
    | some ⟨_, _, .func fd, _⟩ => callFn K r dp un H fd as
    | some ⟨_, _, .cls _, _⟩ => (match makesIn K a && keepIn K (.ref a) with
      | false => none
      | true => match findIn K (.ref a) "__init__" with
        | some (some (.ref fI)) => (match isFn K (.ref fI) with
          | false => none
          | true => match K.lookup fI with
            | some ⟨_, _, .func fd, _⟩ =>
              let d := H.length
              (match callFn K r (dp + 2) (un + typeCallUnits) (pushH (pushH H (.dict [])) (.inst a d)) fd (.ref (d + 1) :: as) with
              | some (.none, H1) => some (.ref (d + 1), H1)
              | _ => none)
            | _ => none)
        | _ => none)
    | _ => none)
  | .bi .len => (match as with
    | [.ref i] => (match getH H i with
      | some (.list vs) => (match Nat.blt vs.length 10000 with | true => some (.int (Lin.lit (Int.ofNat vs.length)), H) | false => none)
      | some (.plist _ (some l) vs) => (match Nat.blt vs.length 10000 with | true => some (.int (l.add (Lin.lit (Int.ofNat vs.length))), H) | false => none)
      | _ => none)
    | _ => none)
  | .bi .isinstance => (match as with
    | [.ref i, .kref C] => (match getH H i with
      | some (.inst C' _) => (match isIn K (.ref C') C with | true => some (.bool true, H) | false => none)
      | _ => none)
    | _ => none)
  | .bi .list => (match as with
    | [.ref i] => (match getH H i with
      | some (.list vs) => (match Nat.blt vs.length 10000 with | true => some (.ref H.length, pushH H (.list vs)) | false => none)
      | _ => none)
    | _ => none)
  | .bi .range => (match as with
    | [.int n] => (match litN n with | some k => some (.ref H.length, pushH H (.rng 0 k)) | none => none)
    | [.int a, .int n] => (match litN a, litN n with | some j, some k => some (.ref H.length, pushH H (.rng j k)) | _, _ => none)
    | _ => none)
  | _ => none
noncomputable def callM (dp un : Nat) (H : He) (o : AV) (m : Meth) (as : List AV) : Option (AV × He) := match m with
  | .fn f => callV K r dp un H (.kref f) (o :: as)
  | .own v => callV K r dp un H v as
  | .append => (match o, as with
    | .ref i, [v] => (match getH H i with
      | some (.list vs) => (match Nat.blt vs.length 10000 with
        | true => (match setH H i (.list (vs ++ [v])) with | some H1 => some (.none, H1) | none => none)
        | false => none)
      | some (.plist j l vs) => (match Nat.blt vs.length 10000 with
        | true => (match setH H i (.plist j l (vs ++ [v])) with | some H1 => some (.none, H1) | none => none)
        | false => none)
      | _ => none)
    | _, _ => none)
  | .dget => (match o, as with
    | .ref i, [.str k] => (match getH H i with
      | some (.dict es) => (match lk es k with | some v => some (v, H) | none => some (.none, H))
      | _ => none)
    | _, _ => none)

noncomputable def optE (ei : EI) (F : Lo) (H : He) : Option Expr → Option (Option Nat × He)
  | none => some (none, H)
  | some e => match r.ev ei F H e with
    | some (.int l, H1) => (match litN l with | some n => some (some n, H1) | none => none)
    | _ => none
noncomputable def pick (lo hi : Option Nat) (vs : List AV) : List AV :=
  (match hi with | some h => vs.take h | none => vs).drop (match lo with | some l => l | none => 0)

noncomputable def keyStr : Option Expr → Option Str
  | some (.Constant (.str x) _ _) => some x
  | _ => none
noncomputable def dictE (ei : EI) (F : Lo) : Lo → He → List (Option Expr) → List Expr → Option (Lo × He)
  | es, H, [], [] => some (es, H)
  | es, H, k :: ks, e :: t => match keyStr k with
    | none => none
    | some x => match okStr x with
      | false => none
      | true => match r.ev ei F H e with
        | some (v, H1) => dictE ei F (put es (sid x) v) H1 ks t
        | none => none
  | _, _, [], _ :: _ => none
  | _, _, _ :: _, [] => none
noncomputable def ndK : Lo → Bool
  | [] => true
  | (k, _) :: t => match lk t k with
    | none => ndK t
    | some _ => false
noncomputable def notBoth : Option Nat → Option Nat → Bool
  | some _, some _ => false
  | _, _ => true

noncomputable def cmpF (ei : EI) (F : Lo) (H : He) (l : Expr) (ops : List CmpOp) (rs : List Expr) : Option (Bool × He) := match ops, rs with
  | [op], [x] => (match cmpOk op && notSet x with
    | false => none
    | true => match r.ev ei F H l with
      | none => none
      | some (a, H1) => match r.ev ei F H1 x with
        | none => none
        | some (b, H2) => match cmpV H2 op a b with
          | some c => some (c, H2)
          | none => none)
  | _, _ => none

noncomputable def evConst (H : He) (c : Const) : Option (AV × He) := match c with
  | .none => some (.none, H)
  | .bool b => some (.bool b, H)
  | .int i => some (.int (Lin.lit i), H)
  | .str x => (match okStr x with | true => some (.str (sid x), H) | false => none)
  | _ => none
noncomputable def evName (ei : EI) (F : Lo) (H : He) (x : Str) : Option (AV × He) := match nameOf K ei F H x with
  | some v => some (v, H)
  | none => none
noncomputable def evAttr (ei : EI) (F : Lo) (H : He) (v : Expr) (a : Str) : Option (AV × He) := match baseOk v with
  | false => none
  | true => match r.ev ei F H v with
    | some (o, H1) => (match getA K H1 o a with | some x => some (x, H1) | none => none)
    | none => none
noncomputable def sliceOf : Expr → Option (Option Expr × Option Expr)
  | .Slice lo hi none _ => some (lo, hi)
  | _ => none
noncomputable def evSlice3 (H3 : He) (i : Nat) (l h : Option Nat) : Option (AV × He) := match getH H3 i with
  | some (.list vs) => (match Nat.blt vs.length 10000 && notBoth l h with
    | true => some (.ref H3.length, pushH H3 (.list (pick l h vs)))
    | false => none)
  | _ => none
noncomputable def evSlice2 (ei : EI) (F : Lo) (H1 : He) (i : Nat) (lo hi : Option Expr) : Option (AV × He) := match optE r ei F H1 lo with
  | some (l, H2) => (match optE r ei F H2 hi with
    | some (h, H3) => evSlice3 H3 i l h
    | none => none)
  | none => none
noncomputable def evSlice (ei : EI) (F : Lo) (H : He) (v : Expr) (lo hi : Option Expr) : Option (AV × He) := match r.ev ei F H v with
  | some (.ref i, H1) => evSlice2 r ei F H1 i lo hi
  | _ => none
noncomputable def evItem (ei : EI) (F : Lo) (H : He) (v i : Expr) : Option (AV × He) := match notSlice i with
  | false => none
  | true => match r.ev ei F H v with
    | some (o, H1) => (match r.ev ei F H1 i with
      | some (j, H2) => (match item H2 o j with | some x => some (x, H2) | none => none)
      | none => none)
    | none => none
noncomputable def evSub (ei : EI) (F : Lo) (H : He) (v i : Expr) : Option (AV × He) := match sliceOf i with
  | some (lo, hi) => evSlice r ei F H v lo hi
  | none => evItem r ei F H v i
noncomputable def evMeth2 (ei : EI) (F : Lo) (H1 : He) (ov : AV) (a : Str) (args : List Expr) : Option (AV × He) := match findMeth K H1 ov a with
  | none => none
  | some m => match evs r ei F H1 args with
    | none => none
    | some (as, H2) => callM K r ei.dp ei.un H2 ov m as
noncomputable def evMeth (ei : EI) (F : Lo) (H : He) (o : Expr) (a : Str) (ap : Pos) (args : List Expr) (p : Pos) : Option (AV × He) := match baseOk o && Nat.beq ap.endLine p.line with
  | false => none
  | true => match r.ev ei F H o with
    | none => none
    | some (ov, H1) => evMeth2 K r ei F H1 ov a args
noncomputable def evFn (ei : EI) (F : Lo) (H : He) (x : Str) (q : Pos) (args : List Expr) : Option (AV × He) := match r.ev ei F H (.Name x q) with
  | none => none
  | some (fv, H1) => match evs r ei F H1 args with
    | none => none
    | some (as, H2) => callV K r ei.dp ei.un H2 fv as
noncomputable def evCallOf (ei : EI) (F : Lo) (H : He) (f : Expr) (args : List Expr) (p : Pos) : Option (AV × He) := match f with
  | .Attribute o a ap => evMeth K r ei F H o a ap args p
  | .Name x q => evFn K r ei F H x q args
  | _ => none
noncomputable def evCall (ei : EI) (F : Lo) (H : He) (f : Expr) (args : List Expr) (kws : List Keyword) (p : Pos) : Option (AV × He) := match kws with
  | _ :: _ => none
  | [] => match Nat.blt args.length 20 with
    | false => none
    | true => evCallOf K r ei F H f args p
noncomputable def evCmp (ei : EI) (F : Lo) (H : He) (l : Expr) (ops : List CmpOp) (rs : List Expr) : Option (AV × He) := match cmpF r ei F H l ops rs with
  | some (c, H2) => some (.bool c, H2)
  | none => none
noncomputable def evOr2 (ei : EI) (F : Lo) (H : He) (x y : Expr) : Option (AV × He) := match r.ev ei F H x with
  | some (.bool true, H1) => some (.bool true, H1)
  | some (.bool false, H1) => r.ev ei F H1 y
  | _ => none
noncomputable def evOr (ei : EI) (F : Lo) (H : He) (op : BoolOp) (es : List Expr) : Option (AV × He) := match op with
  | .And => none
  | .Or => match es with
    | [x, y] => evOr2 r ei F H x y
    | _ => none
noncomputable def evIf (ei : EI) (F : Lo) (H : He) (t b o : Expr) : Option (AV × He) := match r.tr ei F H t with
  | some (true, H1) => r.ev ei F H1 b
  | some (false, H1) => r.ev ei F H1 o
  | none => none
noncomputable def evBin (ei : EI) (F : Lo) (H : He) (l : Expr) (op : Operator) (x : Expr) : Option (AV × He) := match r.ev ei F H l with
  | none => none
  | some (a, H1) => match r.ev ei F H1 x with
    | none => none
    | some (b, H2) => binV H2 op a b
noncomputable def evList (ei : EI) (F : Lo) (H : He) (es : List Expr) : Option (AV × He) := match Nat.blt es.length 1000 with
  | false => none
  | true => match evs r ei F H es with
    | some (vs, H1) => some (.ref H1.length, pushH H1 (.list vs))
    | none => none
noncomputable def evTup (ei : EI) (F : Lo) (H : He) (es : List Expr) : Option (AV × He) := match Nat.blt es.length 1000 with
  | false => none
  | true => match evs r ei F H es with
    | some (vs, H1) => some (.ref H1.length, pushH H1 (.tup vs))
    | none => none
noncomputable def evDict2 (H : He) (x : Option (Lo × He)) : Option (AV × He) := match x with
  | some (es, H1) => (match getH H1 (H.length) with
    | some (.dict []) => (match setH H1 H.length (.dict es) with
      | some H2 => some (.ref H.length, H2)
      | none => none)
    | _ => none)
  | none => none
noncomputable def evDict (ei : EI) (F : Lo) (H : He) (ks : List (Option Expr)) (vs : List Expr) : Option (AV × He) := match ks with
  | [] => (match vs with
    | [] => some (.ref H.length, pushH H (.dict []))
    | _ => none)
  | k :: ks => match Nat.ble (ks.length + 1) 15 && Nat.beq (ks.length + 1) vs.length with
    | false => none
    | true => evDict2 H (dictE r ei F [] (pushH H (.dict [])) (k :: ks) vs)
noncomputable def evF (ei : EI) (F : Lo) (H : He) (e : Expr) : Option (AV × He) := match e with
  | .Constant c _ _ => evConst H c
  | .Name x _ => evName K ei F H x
  | .Attribute v a _ => evAttr K r ei F H v a
  | .Subscript v i _ => evSub r ei F H v i
  | .Call f args kws p => evCall K r ei F H f args kws p
  | .Compare l ops rs _ => evCmp r ei F H l ops rs
  | .BoolOp op es _ => evOr r ei F H op es
  | .IfExp t b o _ => evIf r ei F H t b o
  | .BinOp l op x _ => evBin r ei F H l op x
  | .List es _ => evList r ei F H es
  | .Tuple es _ _ => evTup r ei F H es
  | .Dict ks vs _ => evDict r ei F H ks vs
  | _ => none

noncomputable def trPlain (ei : EI) (F : Lo) (H : He) (e : Expr) : Option (Bool × He) := match r.ev ei F H e with
  | some (.bool b, H1) => some (b, H1)
  | _ => none
noncomputable def trNot (ei : EI) (F : Lo) (H : He) (x : Expr) : Option (Bool × He) := match r.tr ei F H x with
  | some (b, H1) => some (!b, H1)
  | none => none
noncomputable def trUn (ei : EI) (F : Lo) (H : He) (op : UnaryOp) (x : Expr) : Option (Bool × He) := match op with
  | .Not => trNot r ei F H x
  | _ => none
noncomputable def trF (ei : EI) (F : Lo) (H : He) (e : Expr) : Option (Bool × He) := match e with
  | .BoolOp op es _ => allTr r op ei F H es
  | .UnaryOp op x _ => trUn r ei F H op x
  | .Name .. => trPlain r ei F H e
  | .Attribute .. => trPlain r ei F H e
  | .Call .. => trPlain r ei F H e
  | .Compare l ops rs _ => cmpF r ei F H l ops rs
  | _ => none

/-- storing under a name of the frame -/
noncomputable def stoN (ei : EI) (F : Lo) (x : Str) (v : AV) : Option Lo := match okStr x with
  | false => none
  | true => match ei.mode with
    | some _ => none
    | none => match kf ei.cs.names (sid x) with
      | some .local => some (put F (sid x) v)
      | _ => none
noncomputable def nameE : Expr → Option Str
  | .Name x _ => some x
  | _ => none
noncomputable def stoNs (ei : EI) : Lo → List Expr → List AV → Option Lo
  | F, [], [] => some F
  | F, e :: t, v :: r => match nameE e with
    | none => none
    | some x => match stoN ei F x v with
      | some F1 => stoNs ei F1 t r
      | none => none
  | _, [], _ :: _ => none
  | _, _ :: _, [] => none
noncomputable def stoT (ei : EI) (F : Lo) (H : He) (t : Expr) (v : AV) : Option Lo := match t with
  | .Name x _ => stoN ei F x v
  | .Tuple es _ _ => (match v with
    | .ref i => (match getH H i with
      | some (.tup vs) => (match Nat.blt vs.length 1000 && Nat.beq es.length vs.length with | true => stoNs ei F es vs | false => none)
      | _ => none)
    | _ => none)
  | _ => none
/-- one step of an iterator: what comes, and the heap -/
noncomputable def nextH (H : He) (it : Nat) : Option (Option AV × He) := match getH H it with
  | some (.liter l i) => (match getH H l with
    | some (.list vs) => (match vs[i]? with
      | some v => (match setH H it (.liter l (i + 1)) with | some H1 => some (some v, H1) | none => none)
      | none => (match setH H it .junk with | some H1 => some (none, H1) | none => none))
    | _ => none)
  | some (.riter a n) => (match n with
    | 0 => (match setH H it .junk with | some H1 => some (none, H1) | none => none)
    | k + 1 => (match setH H it (.riter (a + 1) k) with | some H1 => some (some (.int (Lin.lit a)), H1) | none => none))
  | _ => none
noncomputable def forGo (ei : EI) (target : Expr) (it : Nat) (body : List Stmt) : Nat → Lo → He → Option (AF × Lo × He)
  | 0, _, _ => none
  | n + 1, F, H => match nextH H it with
    | none => none
    | some (none, H1) => some (.next, F, H1)
    | some (some v, H1) => match stoT ei F H1 target v with
      | none => none
      | some F1 => match bl r ei F1 H1 body with
        | none => none
        | some (.ret v, F2, H2) => some (.ret v, F2, H2)
        | some (.next, F2, H2) => forGo ei target it body n F2 H2
noncomputable def whileGo (ei : EI) (test : Expr) (body : List Stmt) : Nat → Lo → He → Option (AF × Lo × He)
  | 0, _, _ => none
  | n + 1, F, H => match r.tr ei F H test with
    | none => none
    | some (false, H1) => some (.next, F, H1)
    | some (true, H1) => match bl r ei F H1 body with
      | none => none
      | some (.ret v, F2, H2) => some (.ret v, F2, H2)
      | some (.next, F2, H2) => whileGo ei test body n F2 H2
noncomputable def iterH (H : He) (v : AV) : Option (Nat × He) := match v with
  | .ref i => (match getH H i with
    | some (.list _) => some (H.length, pushH H (.liter i 0))
    | some (.rng a b) => (match Int.sub b a with
      | .ofNat n => (match Nat.blt n 1000 && Nat.blt a.natAbs 1000 with | true => some (H.length, pushH H (.riter a n)) | false => none)
      | .negSucc _ => none)
    | _ => none)
  | _ => none
noncomputable def targetOk : Expr → Bool
  | .Name .. => true
  | .Tuple .. => true
  | _ => false

/-- the cells of a block: its free names, each a cell of the frame's own -/
noncomputable def freeCells (ei : EI) : List (Str × NameKind) → Option (List (Nat × Nat))
  | [] => some []
  | (x, .free) :: t => (match okStr x, kf ei.cs.names (sid x), lkN ei.cells (sid x), freeCells ei t with
    | true, some .cell, some i, some l => some ((sid x, i) :: l)
    | _, _, _, _ => none)
  | _ :: t => freeCells ei t
noncomputable def relabelK (cs : Scope) (sc : Scope) : Scope :=
  { sc with names := sc.names.map fun (n, k) => if (k == .free && cs.kind == .function && cs.names.lookup n == some .cell) then (n, .cell) else (n, k) }
noncomputable def localsWhole (names : List (Str × NameKind)) : List (Str × NameKind) → Bool
  | [] => true
  | (x, .local) :: t => (match okStr x, kf names (sid x) with
    | true, some .local => localsWhole names t
    | _, _ => false)
  | _ :: t => localsWhole names t
noncomputable def noOwn (y : Nat) : List (Str × NameKind) → Bool
  | [] => true
  | (x, k) :: t => (match k with
    | .local => (match okStr x, Nat.beq (sid x) y with | true, false => noOwn y t | _, _ => false)
    | .cell => false
    | _ => noOwn y t)
noncomputable def compGo (ei : EI) (F : Lo) (x : Nat) (elt : Expr) (it D C : Nat) : Nat → He → Option He
  | 0, _ => none
  | n + 1, H => match nextH H it with
    | none => none
    | some (none, H1) => some H1
    | some (some v, H1) => match getH H1 C with
      | some (.ns G) => (match setH H1 C (.ns (put G x v)) with
        | none => none
        | some H2 => match r.ev ei F H2 elt with
          | none => none
          | some (u, H3) => match getH H3 D with
            | some (.list vs) => (match Nat.blt vs.length 1000 with
              | false => none
              | true => match setH H3 D (.list (vs ++ [u])) with
                | none => none
                | some H4 => compGo ei F x elt it D C n H4)
            | _ => none)
      | _ => none
noncomputable def compAsg (ei : EI) (F : Lo) (H : He) (y : Str) (elt : Expr) (x : Str) (iter : Expr) (scope : Scope) (vline line : Nat) : Option (Lo × He) :=
  match okStr x && okStr y && notSet iter && isFunScope scope && Nat.beq line vline && localsWhole scope.names scope.names && noOwn (sid y) scope.names with
  | false => none
  | true => match kf scope.names (sid x), kf ei.cs.names (sid y), ei.mode with
    | some .local, some .local, none => (match freeCells ei scope.names with
      | none => none
      | some cells => match r.ev ei F H iter with
        | none => none
        | some (v, H1) => match iterH H1 v with
          | none => none
          | some (it, H2) =>
            let D := H2.length
            (match compGo r ⟨relabelK ei.cs scope, cells, some (D + 1), ei.dp, ei.un⟩ F (sid x) elt it D (D + 1) 60 (pushH (pushH H2 (.list [])) (.ns [])) with
            | none => none
            | some H3 => match getH H3 (D + 1) with
              | some (.ns _) => (match setH H3 (D + 1) .junk with
                | some H4 => some (put F (sid y) (.ref D), H4)
                | none => none)
              | _ => none))
    | _, _, _ => none

noncomputable def asgName (ei : EI) (F : Lo) (H : He) (x : Str) (value : Expr) : Option (AF × Lo × He) := match r.ev ei F H value with
  | none => none
  | some (v, H1) => match stoN ei F x v with
    | some F1 => some (.next, F1, H1)
    | none => none
noncomputable def asgAttr2 (F : Lo) (a : Str) (v : AV) (x : Option (AV × He)) : Option (AF × Lo × He) := match x with
  | none => none
  | some (ov, H2) => match setA K H2 ov a v with
    | some H3 => some (.next, F, H3)
    | none => none
noncomputable def asgAttr (ei : EI) (F : Lo) (H : He) (o : Expr) (a : Str) (value : Expr) : Option (AF × Lo × He) := match r.ev ei F H value with
  | none => none
  | some (v, H1) => asgAttr2 K F a v (r.ev ei F H1 o)
noncomputable def asgSub3 (F : Lo) (H3 : He) (d k : Nat) (v : AV) : Option (AF × Lo × He) := match getH H3 d with
  | some (.dict es) => (match Nat.blt es.length 100 && ndK es with
    | true => (match setH H3 d (.dict (put es k v)) with
      | some H4 => some (.next, F, H4)
      | none => none)
    | false => none)
  | _ => none
noncomputable def asgSub2 (F : Lo) (d : Nat) (v : AV) (x : Option (AV × He)) : Option (AF × Lo × He) := match x with
  | some (.str k, H3) => asgSub3 F H3 d k v
  | _ => none
noncomputable def asgSub1 (ei : EI) (F : Lo) (i : Expr) (v : AV) (x : Option (AV × He)) : Option (AF × Lo × He) := match x with
  | some (.ref d, H2) => asgSub2 F d v (r.ev ei F H2 i)
  | _ => none
noncomputable def asgSub (ei : EI) (F : Lo) (H : He) (o i value : Expr) : Option (AF × Lo × He) := match valOk value && notSlice i with
  | false => none
  | true => match r.ev ei F H value with
    | none => none
    | some (v, H1) => asgSub1 r ei F i v (r.ev ei F H1 o)
noncomputable def asgTup (ei : EI) (F : Lo) (H : He) (es : List Expr) (k : Nat) (p : Pos) (value : Expr) : Option (AF × Lo × He) := match baseOk value with
  | false => none
  | true => match r.ev ei F H value with
    | none => none
    | some (v, H1) => match stoT ei F H1 (.Tuple es k p) v with
      | some F1 => some (.next, F1, H1)
      | none => none
/-- the one generator of a plain comprehension -/
noncomputable def genOf : List Comprehension → Option (Str × Expr)
  | [] => none
  | c :: t => match c, t with
    | ⟨.Name z _, iter, [], 0⟩, [] => some (z, iter)
    | _, _ => none
noncomputable def asgComp2 (ei : EI) (F : Lo) (H : He) (x : Str) (xl : Nat) (elt : Expr) (scope : Scope) (vl : Nat) (g : Option (Str × Expr)) : Option (AF × Lo × He) := match g with
  | none => none
  | some (z, iter) => match compAsg r ei F H x elt z iter scope vl xl with
    | some (F1, H1) => some (.next, F1, H1)
    | none => none
noncomputable def asgComp (ei : EI) (F : Lo) (H : He) (x : Str) (xl : Nat) (value : Expr) : Option (AF × Lo × He) := match value with
  | .ListComp elt gs scope vp => asgComp2 r ei F H x xl elt scope vp.line (genOf gs)
  | _ => none
noncomputable def asgTo (ei : EI) (F : Lo) (H : He) (t value : Expr) : Option (AF × Lo × He) := match t with
  | .Name x xp => (match valOk value with
    | false => asgComp r ei F H x xp.line value
    | true => asgName r ei F H x value)
  | .Attribute o a _ => (match valOk value with
    | false => none
    | true => asgAttr K r ei F H o a value)
  | .Subscript o i _ => asgSub r ei F H o i value
  | .Tuple es k p => asgTup r ei F H es k p value
  | _ => none
noncomputable def stAsg (ei : EI) (F : Lo) (H : He) (ts : List Expr) (value : Expr) : Option (AF × Lo × He) := match ts with
  | [] => none
  | t :: more => match more with
    | [] => asgTo K r ei F H t value
    | _ :: _ => none
noncomputable def augSet (F : Lo) (op : Operator) (a : Str) (ov : AV) (x : Lin) (y : Option (AV × He)) : Option (AF × Lo × He) := match y with
  | some (.int y, H2) => (match op with
    | .Add => (match setA K H2 ov a (.int (x.add y)) with
      | some H3 => some (.next, F, H3)
      | none => none)
    | _ => none)
  | _ => none
noncomputable def augGet (ei : EI) (F : Lo) (op : Operator) (a : Str) (value : Expr) (o : Option (AV × He)) : Option (AF × Lo × He) := match o with
  | none => none
  | some (ov, H1) => match getA K H1 ov a with
    | some (.int x) => augSet K F op a ov x (r.ev ei F H1 value)
    | _ => none
noncomputable def stAug (ei : EI) (F : Lo) (H : He) (t : Expr) (op : Operator) (value : Expr) : Option (AF × Lo × He) := match t with
  | .Attribute o a _ => augGet K r ei F op a value (r.ev ei F H o)
  | _ => none
noncomputable def noRef : AV → Bool
  | .ref _ => false
  | .kref _ => false
  | .any => false
  | _ => true
noncomputable def stExpr (ei : EI) (F : Lo) (H : He) (e : Expr) : Option (AF × Lo × He) := match valOk e with
  | false => none
  | true => match r.ev ei F H e with
    | some (v, H1) => (match noRef v with | true => some (.next, F, H1) | false => none)
    | none => none
noncomputable def stIf (ei : EI) (F : Lo) (H : He) (t : Expr) (b o : List Stmt) : Option (AF × Lo × He) := match r.tr ei F H t with
  | some (true, H1) => bl r ei F H1 b
  | some (false, H1) => bl r ei F H1 o
  | none => none
noncomputable def stRet (ei : EI) (F : Lo) (H : He) (v : Option Expr) : Option (AF × Lo × He) := match v with
  | none => some (.ret .none, F, H)
  | some e => match r.ev ei F H e with
    | some (v, H1) => some (.ret v, F, H1)
    | none => none
noncomputable def stFor2 (ei : EI) (F : Lo) (t : Expr) (body : List Stmt) (x : Option (AV × He)) : Option (AF × Lo × He) := match x with
  | none => none
  | some (v, H1) => match iterH H1 v with
    | none => none
    | some (i, H2) => forGo r ei t i body 60 F H2
noncomputable def stFor (ei : EI) (F : Lo) (H : He) (t it : Expr) (body orelse : List Stmt) : Option (AF × Lo × He) := match orelse with
  | _ :: _ => none
  | [] => match notSet it && targetOk t with
    | true => stFor2 r ei F t body (r.ev ei F H it)
    | false => none
noncomputable def stWhile (ei : EI) (F : Lo) (H : He) (t : Expr) (body orelse : List Stmt) : Option (AF × Lo × He) := match orelse with
  | [] => whileGo r ei t body 60 F H
  | _ :: _ => none
noncomputable def stFin (ei : EI) (fin : List Stmt) (x : Option (AF × Lo × He)) : Option (AF × Lo × He) := match x with
  | some (.ret v, F1, H1) => (match bl r ei F1 H1 fin with
    | some (.next, F2, H2) => some (.ret v, F2, H2)
    | _ => none)
  | _ => none
noncomputable def stTry (ei : EI) (F : Lo) (H : He) (body : List Stmt) (hs : List ExceptHandler) (orelse fin : List Stmt) : Option (AF × Lo × He) := match hs with
  | [] => none
  | _ :: _ => match orelse with
    | _ :: _ => none
    | [] => match fin with
      | [] => none
      | f :: fs => stFin r ei (f :: fs) (bl r ei F H body)
noncomputable def stF (ei : EI) (F : Lo) (H : He) (s : Stmt) : Option (AF × Lo × He) := match s with
  | .Assign ts value _ => stAsg K r ei F H ts value
  | .AugAssign t op value _ => stAug K r ei F H t op value
  | .Expr e _ => stExpr r ei F H e
  | .If t b o _ => stIf r ei F H t b o
  | .Return v _ => stRet r ei F H v
  | .Pass _ => some (.next, F, H)
  | .For t it body orelse _ => stFor r ei F H t it body orelse
  | .While t body orelse _ => stWhile r ei F H t body orelse
  | .Try body hs orelse fin _ => stTry r ei F H body hs orelse fin
  | _ => none
end

noncomputable def tower (K : Frag) (n : Nat) : Rec := @Nat.rec (fun _ => Rec) ⟨fun _ _ _ _ => none, fun _ _ _ _ => none, fun _ _ _ _ => none⟩ (fun _ r => ⟨evF K r, trF r, stF K r⟩) n
end Mine
end EvC_text
section EvD_text
open PySem PySem.W PyProof.Rows PySem.Calls PySem.Spec
set_option Elab.async false
set_option maxRecDepth 100000
set_option maxHeartbeats 4000000
namespace Mine

/-! facts of the tables -/
theorem okStr_get {x : Str} (h : okStr x = true) : tbl[sid x]? = some x := sid_get (Nat.le_of_ble_eq_true h)
theorem sid_inj {x y : Str} (h : okStr x = true) (e : sid y = sid x) : y = x := by
  have hx := okStr_get h
  have hy : tbl[sid y]? = some y := sid_get (by rw [e]; exact Nat.le_of_ble_eq_true h)
  rw [e, hx] at hy
  exact (Option.some.inj hy).symm
theorem kf_lookup : ∀ {names : List (Str × NameKind)} {x : Str} {nk : NameKind}, okStr x = true → kf names (sid x) = some nk → names.lookup x = some nk
  | (y, k) :: t, x, nk, h, e => by
    unfold kf at e
    cases q : Nat.beq (sid y) (sid x) with
    | true =>
      rw [q] at e
      cases e
      have := sid_inj h (Nat.eq_of_beq_eq_true q)
      subst this
      simp
    | false =>
      rw [q] at e
      have ne : (x == y) = false := by
        cases z : x == y with
        | false => rfl
        | true =>
          rw [eq_of_beq z, Nat.beq_refl] at q
          cases q
      rw [List.lookup_cons, ne]
      exact kf_lookup h e
theorem tbl_plain : tbl.all (fun x => !(x == ("__debug__" : Str)) && !(x == ("__name__" : Str)) && !(x == ("__classdict__" : Str))) = true := by decide +kernel
theorem tbl_noDebug {x : Str} {k : Nat} (h : tbl[k]? = some x) : (x == ("__debug__" : Str)) = false ∧ x ≠ "__name__" := by
  have := List.all_eq_true.mp tbl_plain x (List.mem_of_getElem? h)
  simp only [Bool.and_eq_true, Bool.not_eq_true'] at this
  refine ⟨this.1.1, fun e => ?_⟩
  rw [e] at this
  simp at this

/-! the context of a frame -/
section
variable (prog : Program) (w : World) (K : Frag) (p : Program) (loose : List Str) (mean : ExcName → Option Value) (mg mb : Str → Option Value)
structure Cx (A : Around) (h₀ : Heap) (L : Addr) (dp : Nat) : Prop where
  below : ∃ A₀ base fenv outer, Below A₀ base outer h₀ ∧ A.frames = some (fenv :: outer) ∧ fenv.frame = some L ∧ fenv.scope.kind = .function
  kin : K.In h₀
  top : Top p loose mean mg mb h₀
  hand : A.handled = none
  depth : A.depth ≤ dp + 310
end
structure EnvOk (env : Env) (ei : EI) (L : Addr) (adr : List Addr) : Prop where
  scope : env.scope = ei.cs
  kind : ei.cs.kind = .function
  glob : env.globals = mainGlobals
  bui : env.builtins = builtinsNs
  loc : match ei.mode with
    | none => env.locals = L
    | some i => adr[i]? = some env.locals
  cells : ∀ k i, lkN ei.cells k = some i → ∃ x c, tbl[k]? = some x ∧ env.cells.lookup x = some c ∧ adr[i]? = some c
theorem EnvOk.mono {env : Env} {ei : EI} {L : Addr} {adr adr' : List Addr} (hp : adr <+: adr') (e : EnvOk env ei L adr) : EnvOk env ei L adr' := by
  refine ⟨e.scope, e.kind, e.glob, e.bui, ?_, fun k i h => ?_⟩
  · have := e.loc
    cases q : ei.mode with
    | none => rw [q] at this; exact this
    | some i => rw [q] at this; exact get_mono hp this
  · obtain ⟨x, c, h1, h2, h3⟩ := e.cells k i h
    exact ⟨x, c, h1, h2, get_mono hp h3⟩
theorem EnvOk.kindOf {env : Env} {ei : EI} {L : Addr} {adr : List Addr} (e : EnvOk env ei L adr) {x : Str} {nk : NameKind} (hx : okStr x = true) (h : kf ei.cs.names (sid x) = some nk) : env.kindOf x = some nk := by
  unfold Env.kindOf
  rw [e.scope]
  exact kf_lookup hx h
theorem EnvOk.fn {env : Env} {ei : EI} {L : Addr} {adr : List Addr} (e : EnvOk env ei L adr) : env.scope.kind = .function := by rw [e.scope]; exact e.kind

section
variable {prog : Program} {w : World} {K : Frag} {p : Program} {loose : List Str} {mean : ExcName → Option Value} {mg mb : Str → Option Value} {V : Vars}
  {A : Around} {h₀ : Heap} {L : Addr} {dp un : Nat} {E : Value → Shared → Prop} {s : Shared} {m : Str → Option Value} {news : List (Addr × Obj)} {F : Lo} {H : He} {env : Env} {ei : EI}

theorem boots : (bootBuiltins ("len" : Str) = some (BI.val .len) ∧ bootBuiltins ("range" : Str) = some (BI.val .range)) ∧ (bootBuiltins ("list" : Str) = some (BI.val .list) ∧ bootBuiltins ("isinstance" : Str) = some (BI.val .isinstance)) := by
  refine ⟨⟨?_, ?_⟩, ?_, ?_⟩ <;> (unfold BI.val; boot_by_name)
theorem builtinOf_is {x : Str} {a : AV} (hx : okStr x = true) (h : builtinOf K x = some a) : nsIn K mainGlobals x = some none ∧ ∃ b, a = .bi b ∧ bootBuiltins x = some b.val := by
  unfold builtinOf at h
  cases q : (nsIn K mainGlobals x == some none) with
  | false => rw [q] at h; cases h
  | true =>
    rw [q] at h
    refine ⟨eq_of_beq q, ?_⟩
    dsimp only at h
    split at h
    · rename_i e
      cases h
      have := sid_inj hx (Nat.eq_of_beq_eq_true e).symm
      exact ⟨_, rfl, by rw [← this]; exact boots.1.1⟩
    · split at h
      · rename_i e
        cases h
        have := sid_inj hx (Nat.eq_of_beq_eq_true e).symm
        exact ⟨_, rfl, by rw [← this]; exact boots.1.2⟩
      · split at h
        · rename_i e
          cases h
          have := sid_inj hx (Nat.eq_of_beq_eq_true e).symm
          exact ⟨_, rfl, by rw [← this]; exact boots.2.1⟩
        · split at h
          · rename_i e
            cases h
            have := sid_inj hx (Nat.eq_of_beq_eq_true e).symm
            exact ⟨_, rfl, by rw [← this]; exact boots.2.2⟩
          · cases h

theorem s_Name {x : Str} {pos : Pos} {a : AV} {Q : Value → Shared → Prop} (C : Cx K p loose mean mg mb A h₀ L dp) (O : EnvOk env ei L (adrs news)) (S : SR V w.params h₀ L s.heap m news F H)
    (e : nameOf K ei F H x = some a) (h : ∀ v, VR V (adrs news) a v → Q v s) : wpAny (model prog w) A (eval (.Name x pos) env) Q E s := by
  unfold nameOf at e; try simp only [getH_eq] at e
  split at e
  · cases e
  rename_i hx
  have hd := (tbl_noDebug (okStr_get hx)).1
  split at e
  · rename_i hk
    have hl := O.kindOf hx hk
    have loc := O.loc
    split at e
    · rename_i hm
      rw [hm] at loc
      obtain ⟨y, v, h1, h2, h3⟩ := S.lo _ _ e
      have : y = x := Option.some.inj (h1.symm.trans (okStr_get hx))
      subst this
      exact wpAny_Name (wpAny_loadName_local O.fn hl (by rw [loc]; exact S.fr.ns) h2 (h v h3)) hd
    · rename_i i hm
      rw [hm] at loc
      split at e
      · rename_i F' hF
        obtain ⟨o, h1, h2, es, ep, md, h3, h4, h5, h6⟩ := S.at hF loc
        obtain ⟨y, v, g1, g2, g3⟩ := h6 _ _ e
        have : y = x := Option.some.inj (g1.symm.trans (okStr_get hx))
        subst this
        exact wpAny_Name (wpAny_loadName_local O.fn hl ⟨o, es, ep, h2, h3, h4, h5⟩ g2 (h v g3)) hd
      · cases e
  · rename_i hk
    have hl := O.kindOf hx hk
    split at e
    · rename_i i hi
      obtain ⟨y, c, h1, h2, h3⟩ := O.cells _ _ hi
      have : y = x := Option.some.inj (h1.symm.trans (okStr_get hx))
      subst this
      split at e
      · rename_i u hu
        cases e
        obtain ⟨o, g1, g2, cv, g3, g4⟩ := S.at hu h3
        cases cv with
        | none => exact g4.elim
        | some v => exact wpAny_Name (wpAny_loadName_cell O.fn hl h2 ⟨o, g2, g3⟩ (h v g4)) hd
      · cases e
    · cases e
  · rename_i hk
    have hl := O.kindOf hx hk
    refine Name_function_global O.fn hl ?_ hd
    unfold globOf at e
    split at e
    · rename_i b hb
      cases e
      exact loadGlobal_global (by rw [O.glob]; exact C.top.g.keeps S.fr.keep) (mg_of C.kin C.top.g hb) (h _ rfl)
    · obtain ⟨h1, b, rfl, h2⟩ := builtinOf_is hx e
      exact loadGlobal_builtin (by rw [O.glob]; exact C.top.g.keeps S.fr.keep) (mg_none_of C.kin C.top.g h1) (by rw [O.bui]; exact C.top.b.keeps S.fr.keep)
        ((C.top.builtins x (tbl_noDebug (okStr_get hx)).2).trans h2) (h _ rfl)
  · cases e
end
end Mine
end EvD_text
section EvE_text
open PySem PySem.W PyProof.Rows PySem.Calls PySem.Spec
set_option Elab.async false
set_option maxRecDepth 100000
set_option maxHeartbeats 4000000
namespace Mine
theorem BI.handed (b : BI) : handedIn b.val = true := by cases b <;> first | rfl | decide +kernel
theorem VR.handed {V : Vars} {adr : List Addr} {a : AV} {v : Value} (h : VR V adr a v) : handedIn v = true := by
  cases a with
  | none => cases h; rfl
  | bool b => cases h; rfl
  | int l => obtain ⟨t, rfl⟩ := h; rfl
  | str k => obtain ⟨x, t, _, rfl⟩ := h; rfl
  | ref i => obtain ⟨x, _, rfl⟩ := h; rfl
  | kref a => cases h; rfl
  | bi b => cases h; exact b.handed
  | any => exact h

section
variable {V : Vars} {adr : List Addr} {P : Params}
theorem isStr_tbl {k : Nat} {x a : Str} {t : Tok} (h : tbl[k]? = some x) (ha : okStr a = true) : (Value.str x t).isStr a = Nat.beq k (sid a) := by
  show (x == a) = _
  cases q : Nat.beq k (sid a) with
  | true =>
    have := Nat.eq_of_beq_eq_true q
    subst this
    rw [okStr_get ha] at h
    cases h
    simp
  | false =>
    cases z : x == a with
    | false => rfl
    | true =>
      have := eq_of_beq z
      subst this
      rw [sid_of_get h, Nat.beq_refl] at q
      cases q
theorem refKey_no {es : Lo} {des : List DictEntry} (h : All2 (ER V adr P) es des) : des.any (·.refKey) = false := by
  induction h with
  | nil => rfl
  | cons h1 h ih =>
    obtain ⟨x, t, _, hk, _, _⟩ := h1
    rw [List.any_cons, ih]
    unfold DictEntry.refKey
    rw [hk]
    rfl
theorem getL_some {es : Lo} {des : List DictEntry} {a : Str} {av : AV} (h : All2 (ER V adr P) es des) (ha : okStr a = true) (e : lk es (sid a) = some av) : ∃ v, getL a des = some (some v) ∧ VR V adr av v := by
  induction h with
  | nil => cases e
  | @cons p d es r h1 h ih =>
    obtain ⟨k, u⟩ := p
    obtain ⟨x, t, h1, hk, _, hv⟩ := h1
    unfold lk at e
    have q := isStr_tbl (t := t) h1 ha
    cases z : Nat.beq k (sid a) with
    | true =>
      rw [z] at e q
      cases e
      refine ⟨d.val, ?_, hv⟩
      unfold getL
      rw [List.find?_cons]
      rw [hk, q]
    | false =>
      rw [z] at e q
      obtain ⟨v, g1, g2⟩ := ih e
      refine ⟨v, ?_, g2⟩
      unfold getL at g1 ⊢
      rw [List.find?_cons, hk, q]
      rw [List.any_cons, show d.refKey = false from by unfold DictEntry.refKey; rw [hk], Bool.false_or]
      exact g1
theorem find_none {es : Lo} {des : List DictEntry} {a : Str} (h : All2 (ER V adr P) es des) (ha : okStr a = true) (e : lk es (sid a) = none) : des.find? (·.key.isStr a) = none := by
  induction h with
  | nil => rfl
  | @cons p d es r h1 h ih =>
    obtain ⟨k, u⟩ := p
    obtain ⟨x, t, h1, hk, _, hv⟩ := h1
    unfold lk at e
    have q := isStr_tbl (t := t) h1 ha
    cases z : Nat.beq k (sid a) with
    | true => rw [z] at e; cases e
    | false =>
      rw [z] at e q
      rw [List.find?_cons, hk, q]
      exact ih e
theorem getL_none {es : Lo} {des : List DictEntry} {a : Str} (h : All2 (ER V adr P) es des) (ha : okStr a = true) (e : lk es (sid a) = none) : getL a des = some none := by
  unfold getL
  rw [find_none h ha e, refKey_no h]
  rfl
theorem getL_isSome {es : Lo} {des : List DictEntry} {a : Str} (h : All2 (ER V adr P) es des) (ha : okStr a = true) : (getL a des).isSome = true := by
  cases e : lk es (sid a) with
  | none => rw [getL_none h ha e]; rfl
  | some av => obtain ⟨v, g, _⟩ := getL_some h ha e; rw [g]; rfl
theorem putL_rel {a : Str} {t : Tok} {av : AV} {v : Value} (ha : okStr a = true) (hv : VR V adr av v) {es : Lo} {des : List DictEntry} (h : All2 (ER V adr P) es des) : All2 (ER V adr P) (put es (sid a) av) (putL a (PyData.keyHash P a) (.str a t) v des) := by
  induction h with
  | nil => exact .cons ⟨a, t, okStr_get ha, rfl, rfl, hv⟩ .nil
  | @cons p d es r h1 h ih =>
    obtain ⟨k, u⟩ := p
    obtain ⟨x, t', h1, hk, hh, hu⟩ := h1
    have q := isStr_tbl (t := t') h1 ha
    unfold put putL
    rw [hk, q]
    cases z : Nat.beq k (sid a) with
    | true => exact .cons ⟨x, t', h1, rfl, hh, hv⟩ h
    | false => exact .cons ⟨x, t', h1, hk, hh, hu⟩ ih
theorem putL_length (a : Str) (hsh : Int) (key v : Value) : ∀ des : List DictEntry, (putL a hsh key v des).length ≤ des.length + 1
  | [] => Nat.le_refl _
  | d :: r => by
    unfold putL
    split
    · simp
    · simp only [List.length_cons]
      have := putL_length a hsh key v r
      omega
end

section
variable {prog : Program} {w : World} {K : Frag} {p : Program} {loose : List Str} {mean : ExcName → Option Value} {mg mb : Str → Option Value} {V : Vars}
  {A : Around} {h₀ : Heap} {L : Addr} {dp un : Nat} {E : Value → Shared → Prop} {s : Shared} {m : Str → Option Value} {news : List (Addr × Obj)} {F : Lo} {H H' : He} {env : Env} {ei : EI}

theorem fieldOk_is {C : Addr} {a : Str} (h : fieldOk K C a = true) : plainGet K C a = true ∧ hasDictIn K C = true ∧ findIn K (.ref C) a = some none := by
  unfold fieldOk at h
  simp only [Bool.and_eq_true, beq_iff_eq] at h
  exact ⟨h.1.1, h.1.2, h.2⟩
theorem inst_at {P : Params} {i : Nat} {C d : Nat} {es : Lo} {x : Addr} (S : SR V P h₀ L s.heap m news F H) (h1 : H[i]? = some (.inst C d)) (h2 : H[d]? = some (.dict es)) (hx : (adrs news)[i]? = some x) :
    ∃ dx des n, (adrs news)[d]? = some dx ∧ news[d]? = some (dx, dictOf des n) ∧ All2 (ER V (adrs news) P) es des ∧ InstAt s.heap x (instObj C dx) C (some (dictOf des n)) := by
  obtain ⟨o, g1, g2, dx, g3, rfl⟩ := S.at h1 hx
  obtain ⟨o', k1, k2, des, n, rfl, k3⟩ := S.at h2 g3
  exact ⟨dx, des, n, g3, k1, k3, ⟨g2, rfl, rfl, k2⟩⟩

theorem s_getA {a : Str} {o av : AV} {ov : Value} {ex : Bool} {Q : Value → Shared → Prop} (C : Cx K p loose mean mg mb A h₀ L dp) (S : SR V w.params h₀ L s.heap m news F H)
    (ho : VR V (adrs news) o ov) (e : getA K H o a = some av) (h : ∀ v, VR V (adrs news) av v → Q v { s with toks := s.toks + 1 }) : wpAny (model prog w) A (getAttr ov a ex) Q E s := by
  unfold getA at e; try simp only [getH_eq] at e
  split at e
  · rename_i i
    obtain ⟨x, hx, rfl⟩ := ho
    split at e
    · rename_i C' d h1
      split at e
      · rename_i hf
        obtain ⟨f1, f2, f3⟩ := fieldOk_is hf
        split at e
        · rename_i es h2
          split at e
          · rename_i ha
            obtain ⟨dx, des, n, g1, g2, g3, I⟩ := inst_at S h1 h2 hx
            obtain ⟨v, v1, v2⟩ := getL_some g3 ha e
            exact get_own S.fr C.kin I f1 f2 f3 rfl v1 v2.handed (h v v2)
          · cases e
        · cases e
      · cases e
    · cases e
  · cases e

theorem storeOk_is {C : Addr} {a : Str} (h : storeOk' K C a = true) : findIn K (.ref C) "__setattr__" = some (some (.builtin "object.__setattr__")) ∧ plainOver K C = true ∧ takerIn K C a = some none ∧ hasDictIn K C = true := by
  unfold storeOk' at h
  simp only [Bool.and_eq_true, beq_iff_eq] at h
  exact ⟨h.1.1.1, h.1.1.2, h.1.2, h.2⟩
theorem s_setA {a : Str} {o av : AV} {ov v : Value} {Q : Unit → Shared → Prop} (C : Cx K p loose mean mg mb A h₀ L dp) (S : SR V w.params h₀ L s.heap m news F H)
    (ho : VR V (adrs news) o ov) (hv : VR V (adrs news) av v) (e : setA K H o a av = some H')
    (h : ∀ h' news', SR V w.params h₀ L h' m news' F H' → adrs news' = adrs news → Q () { s with heap := h', toks := s.toks + 2 }) : wpAny (model prog w) A (setAttr ov a v) Q E s := by
  unfold setA at e; try simp only [getH_eq] at e
  split at e
  · rename_i i
    obtain ⟨x, hx, rfl⟩ := ho
    split at e
    · rename_i C' d h1
      split at e
      · rename_i hf
        obtain ⟨f1, f2, f3, f4⟩ := storeOk_is hf
        split at e
        · rename_i es h2
          split at e
          · rename_i hab
            obtain ⟨ha, hl⟩ := Bool.and_eq_true_iff.mp hab
            obtain ⟨dx, des, n, g1, g2, g3, I⟩ := inst_at S h1 h2 hx
            obtain ⟨rfl, hlt⟩ := setH_eq e
            have hlen : des.length < 100 := by rw [← g3.length]; exact Nat.le_of_ble_eq_true hl
            refine set_dict S.fr C.kin S.nw I rfl f1 f2 f3 f4 (getL_isSome g3 ha) rfl (upd_of (a := .dict es) (b := .dict (put es (sid a) av)) rfl rfl S.nd h2 g2) ?_ ?_
            · have := putL_length a (PyData.keyHash w.params a) (.str a (s.toks + 1)) v des
              omega
            · intro h' F' N'
              exact h h' _ (S.set g2 h2 F' N' ⟨_, _, rfl, putL_rel ha hv g3⟩) (adrs_set g2)
          · cases e
        · cases e
      · cases e
    · cases e
  · cases e
end
end Mine
end EvE_text
section EvF_text
open PySem PySem.W PyProof.Rows PySem.Calls PySem.Spec
set_option Elab.async false
set_option maxRecDepth 100000
set_option maxHeartbeats 4000000
namespace Mine
theorem litN_val {l : Lin} {n : Nat} (V : Vars) (h : litN l = some n) : l.val V = (n : Int) := by
  obtain ⟨g, s, t, c⟩ := l
  unfold litN at h
  split at h
  · rename_i k e
    cases h
    injection e with e1 e2 e3 e4
    subst e1 e2 e3 e4
    show (0 : Int) * V.g + 0 * V.s + 0 * V.t + Int.ofNat n = n
    simp
  · cases h
theorem lit_val (V : Vars) (i : Int) : (Lin.lit i).val V = i := by
  show (0 : Int) * V.g + 0 * V.s + 0 * V.t + i = i
  simp
theorem notSlice_sub {slice : Expr} (h : notSlice slice = true) (o i : Value) : subscripted slice false o i = operate [o, i] (getItem o i) := by
  cases slice <;> first | rfl | cases h
theorem abc_items : (tbl[sid "abc"]? = some ("abc" : Str)) ∧ (tbl[sid "a"]? = some (⟨#[97]⟩ : Str)) ∧ (tbl[sid "b"]? = some (⟨#[98]⟩ : Str)) ∧ (tbl[sid "c"]? = some (⟨#[99]⟩ : Str)) ∧ ("abc" : Str) = ⟨#[97, 98, 99]⟩ := by
  refine ⟨?_, ?_, ?_, ?_, ?_⟩ <;> decide +kernel

section
variable {prog : Program} {w : World} {K : Frag} {p : Program} {loose : List Str} {mean : ExcName → Option Value} {mg mb : Str → Option Value} {V : Vars}
  {A : Around} {h₀ : Heap} {L : Addr} {dp un : Nat} {E : Value → Shared → Prop} {s : Shared} {m : Str → Option Value} {news : List (Addr × Obj)} {F : Lo} {H H' : He} {env : Env} {ei : EI}

theorem listAt {P : Params} {i : Nat} {vs : List AV} {x : Addr} (S : SR V P h₀ L s.heap m news F H) (h1 : H[i]? = some (.list vs)) (hx : (adrs news)[i]? = some x) :
    ∃ xs n, news[i]? = some (x, listOf (List.toArray xs) n) ∧ s.heap.get? x = some (listOf (List.toArray xs) n) ∧ VRs V (adrs news) vs xs ∧ s.heap.IsList x (List.toArray xs) := by
  obtain ⟨o, g1, g2, xs, n, rfl, g3⟩ := S.at h1 hx
  exact ⟨xs, n, g1, g2, g3, _, g2, rfl, n, rfl⟩
theorem plistAt {P : Params} {i j : Nat} {l : Option Lin} {vs : List AV} {x : Addr} (S : SR V P h₀ L s.heap m news F H) (h1 : H[i]? = some (.plist j l vs)) (hx : (adrs news)[i]? = some x) :
    ∃ xs n, news[i]? = some (x, listOf (List.toArray (V.pre j ++ xs)) n) ∧ s.heap.get? x = some (listOf (List.toArray (V.pre j ++ xs)) n) ∧ VRs V (adrs news) vs xs ∧ s.heap.IsList x (List.toArray (V.pre j ++ xs)) ∧ (∀ u, l = some u → ((V.pre j).length : Int) = u.val V) ∧ (V.pre j).length ≤ 100 := by
  obtain ⟨o, g1, g2, xs, n, rfl, g3, g4, g5⟩ := S.at h1 hx
  exact ⟨xs, n, g1, g2, g3, ⟨_, g2, rfl, n, rfl⟩, g4, g5⟩
theorem tupAt {P : Params} {i : Nat} {vs : List AV} {x : Addr} (S : SR V P h₀ L s.heap m news F H) (h1 : H[i]? = some (.tup vs)) (hx : (adrs news)[i]? = some x) :
    ∃ xs, VRs V (adrs news) vs xs ∧ IsTup s.heap x (List.toArray xs) := by
  obtain ⟨o, g1, g2, xs, n, rfl, g3⟩ := S.at h1 hx
  exact ⟨xs, g3, _, g2, rfl, n, rfl⟩
theorem all2_nth {α β : Type} {R : α → β → Prop} {l : List α} {l' : List β} {i : Nat} {a : α} (h : All2 R l l') (e : l[i]? = some a) : ∃ b, l'[i]? = some b ∧ R a b := all2_get h e

theorem s_item {value slice : Expr} {o i av : AV} {ov iv : Value} {Q : Value → Shared → Prop} (hsl : notSlice slice = true) (S : SR V w.params h₀ L s.heap m news F H)
    (ho : VR V (adrs news) o ov) (hi : VR V (adrs news) i iv) (e : item H o i = some av) (h : ∀ v tk, VR V (adrs news) av v → Q v { s with toks := tk }) : wpAny (model prog w) A (subscriptTail value slice ov iv) Q E s := by
  unfold item at e; try simp only [getH_eq] at e
  split at e
  · rename_i l
    obtain ⟨t, rfl⟩ := hi
    split at e
    · rename_i n hn
      rw [litN_val V hn]
      split at e
      · rename_i r
        obtain ⟨x, hx, rfl⟩ := ho
        split at e
        · rename_i vs hv
          split at e
          · rename_i hlt
            obtain ⟨xs, _, _, _, g3, g4⟩ := listAt S hv hx
            obtain ⟨v, v1, v2⟩ := all2_nth g3 e
            have hb : vs.length < 10000 := Nat.le_of_ble_eq_true hlt
            have hb2 : n < vs.length := (List.getElem?_eq_some_iff.mp e).1
            exact tail_any g4.typeIs slot_list_getitem.lookup (wpAny_getItem_list g4 (by omega) (by omega) (by simpa using v1) (h v s.toks v2)) (notSlice_sub hsl _ _)
          · cases e
        · rename_i vs hv
          split at e
          · rename_i hlt
            obtain ⟨xs, g3, g4⟩ := tupAt S hv hx
            obtain ⟨v, v1, v2⟩ := all2_nth g3 e
            have hb : vs.length < 10000 := Nat.le_of_ble_eq_true hlt
            have hb2 : n < vs.length := (List.getElem?_eq_some_iff.mp e).1
            have hb3 := g3.length
            refine item_tupleT (j := n) g4 (by omega) (by omega) ?_ v1 (h v s.toks v2) (notSlice_sub hsl _ _)
            unfold seqIndex?
            simp only [show ¬ ((n : Int) < 0) from by omega, if_false]
            first
              | (rw [if_pos (by omega)]; simp)
              | (simp; omega)
          · cases e
        · cases e
      · rename_i k
        obtain ⟨x, t', hk, rfl⟩ := ho
        obtain ⟨a1, a2, a3, a4, a5⟩ := abc_items
        split at e
        · rename_i q
          have := Nat.eq_of_beq_eq_true q
          subst this
          rw [a1] at hk
          cases hk
          rw [a5]
          have tail : ∀ (c : Nat) (q : ((decide (((n : Nat) : Int) < -(2 ^ 63 : Int)) || decide (((n : Nat) : Int) ≥ 2 ^ 63)) = false)), ((seqIndex? (n : Int) (Str.mk #[97, 98, 99]).length).bind ((Str.mk #[97, 98, 99]).cps[·]?) = some c) →
              Q (.str ⟨#[c]⟩ s.toks) { s with toks := s.toks + 1 } → wpAny (model prog w) A (subscriptTail value slice (.str (Str.mk #[97, 98, 99]) t') (.int (n : Int) t)) Q E s := fun c q hc hQ =>
            tail_any (typeIs_str s _ t') _root_.PySem.F.slot_str_getitem.lookup (P.getItem_str q hc hQ) (notSlice_sub hsl _ _)
          split at e
          · cases e
            exact tail 97 (by decide) (by decide) (h _ _ ⟨_, _, a2, rfl⟩)
          · cases e
            exact tail 98 (by decide) (by decide) (h _ _ ⟨_, _, a3, rfl⟩)
          · cases e
            exact tail 99 (by decide) (by decide) (h _ _ ⟨_, _, a4, rfl⟩)
          · cases e
        · cases e
      · cases e
    · cases e
  · cases e
end
end Mine
end EvF_text
section EvG_text
open PySem PySem.W PyProof.Rows PySem.Calls PySem.Spec
set_option Elab.async false
set_option maxRecDepth 100000
set_option maxHeartbeats 4000000
namespace Mine
structure VarsOk (V : Vars) : Prop where
  g0 : 0 ≤ V.g
  g1 : V.g ≤ 100
  s0 : 0 ≤ V.s
  s1 : V.s ≤ 100
  t0 : 0 ≤ V.t
  t1 : V.t ≤ 100
theorem intZ_is {i : Int} (h : intZ i = true) : i = 0 := by
  unfold intZ at h
  split at h
  · rfl
  · cases h
theorem intZ_iff (i : Int) : intZ i = (i == 0) := by
  cases h : intZ i with
  | true => rw [intZ_is h]; rfl
  | false =>
    cases q : i == 0 with
    | false => rfl
    | true =>
      have := eq_of_beq q
      subst this
      cases h
theorem intN_is {i : Int} : (intN i = true → i < 0) ∧ (intN i = false → 0 ≤ i) := by
  match i with
  | .ofNat n => exact ⟨fun h => (nomatch h), fun _ => Int.natCast_nonneg n⟩
  | .negSucc n => exact ⟨fun _ => Int.negSucc_lt_zero n, fun h => (nomatch h)⟩
theorem upB_le (k x : Int) (h0 : 0 ≤ x) (h1 : x ≤ 100) : k * x ≤ upB k := by
  cases k with
  | ofNat n =>
    show (n : Int) * x ≤ ((100 * n : Nat) : Int)
    have : (n : Int) * x ≤ (n : Int) * 100 := Int.mul_le_mul_of_nonneg_left h1 (Int.natCast_nonneg n)
    omega
  | negSucc n =>
    show Int.negSucc n * x ≤ 0
    exact Int.mul_nonpos_of_nonpos_of_nonneg (Int.le_of_lt (Int.negSucc_lt_zero n)) h0
theorem loB_le (k x : Int) (h0 : 0 ≤ x) (h1 : x ≤ 100) : loB k ≤ k * x := by
  cases k with
  | ofNat n => exact Int.mul_nonneg (Int.natCast_nonneg n) h0
  | negSucc n =>
    show Int.negSucc (100 * n + 99) ≤ Int.negSucc n * x
    have e : Int.negSucc n = -((n : Int) + 1) := rfl
    have e2 : Int.negSucc (100 * n + 99) = -(((100 * n + 99 : Nat) : Int) + 1) := rfl
    rw [e, e2, Int.neg_mul]
    have : ((n : Int) + 1) * x ≤ ((n : Int) + 1) * 100 := Int.mul_le_mul_of_nonneg_left h1 (by omega)
    omega
theorem sub_val (V : Vars) (a b : Lin) : (a.sub b).val V = a.val V - b.val V := by
  unfold Lin.sub Lin.val
  simp only [Int.sub_mul]
  omega
theorem add_val (V : Vars) (a b : Lin) : (a.add b).val V = a.val V + b.val V := by
  unfold Lin.add Lin.val
  simp only [Int.add_mul]
  omega
theorem smul_val (V : Vars) (k : Int) (b : Lin) : (Lin.smul k b).val V = k * b.val V := by
  unfold Lin.smul Lin.val
  simp only [Int.mul_add, Int.mul_assoc]
theorem const_val {V : Vars} {a : Lin} {d : Int} (h : a.const? = some d) : a.val V = d := by
  unfold Lin.const? at h
  split at h
  · rename_i e
    cases h
    simp only [Bool.and_eq_true] at e
    unfold Lin.val
    rw [intZ_is e.1.1, intZ_is e.1.2, intZ_is e.2]
    simp
  · cases h
theorem eqL_is {V : Vars} {a b : Lin} {c : Bool} (h : eqL a b = some c) : (a.val V == b.val V) = c := by
  unfold eqL at h
  split at h
  · rename_i d e
    cases h
    have := const_val (V := V) e
    rw [sub_val] at this
    rw [intZ_iff]
    cases q : a.val V == b.val V with
    | true =>
      have := eq_of_beq q
      have h2 : d = 0 := by omega
      rw [h2]; rfl
    | false =>
      cases z : d == 0 with
      | false => rfl
      | true =>
        have h1 := eq_of_beq z
        have h2 : a.val V = b.val V := by omega
        rw [h2] at q
        simp at q
  · cases h
theorem up_is {V : Vars} (O : VarsOk V) (a : Lin) : a.val V ≤ a.up := by
  unfold Lin.val Lin.up
  have h1 := upB_le a.g V.g O.g0 O.g1
  have h2 := upB_le a.s V.s O.s0 O.s1
  have h3 := upB_le a.t V.t O.t0 O.t1
  omega
theorem lo_is {V : Vars} (O : VarsOk V) (a : Lin) : a.lo ≤ a.val V := by
  unfold Lin.val Lin.lo
  have h1 := loB_le a.g V.g O.g0 O.g1
  have h2 := loB_le a.s V.s O.s0 O.s1
  have h3 := loB_le a.t V.t O.t0 O.t1
  omega
theorem ltL_is {V : Vars} (O : VarsOk V) {a b : Lin} {c : Bool} (h : ltL a b = some c) : decide (a.val V < b.val V) = c := by
  unfold ltL at h
  dsimp only at h
  have e := sub_val V a b
  split at h
  · rename_i q
    cases h
    have := up_is O (a.sub b)
    have := (intN_is (i := (a.sub b).up)).1 q
    exact decide_eq_true (by omega)
  · split at h
    · rename_i q
      cases h
      have := lo_is O (a.sub b)
      have := (intN_is (i := (a.sub b).lo)).2 q
      exact decide_eq_false (by omega)
    · cases h

section
variable {prog : Program} {w : World} {K : Frag} {p : Program} {loose : List Str} {mean : ExcName → Option Value} {mg mb : Str → Option Value} {V : Vars}
  {A : Around} {h₀ : Heap} {L : Addr} {dp un : Nat} {E : Value → Shared → Prop} {s : Shared} {m : Str → Option Value} {news : List (Addr × Obj)} {F : Lo} {H H' : He} {env : Env} {ei : EI}
theorem strEq_is {k j : Nat} {x y : Str} (h : tbl[k]? = some x) (h' : tbl[j]? = some y) : (x == y) = Nat.beq k j := by
  cases q : Nat.beq k j with
  | true =>
    have := Nat.eq_of_beq_eq_true q
    subst this
    rw [h] at h'
    cases h'
    simp
  | false =>
    cases z : x == y with
    | false => rfl
    | true =>
      have := eq_of_beq z
      subst this
      rw [tbl_inj h h', Nat.beq_refl] at q
      cases q
theorem isNone_is {adr : List Addr} {a : AV} {v : Value} {c : Bool} (h : VR V adr a v) (e : isNone a = some c) : (v == .none) = c := by
  cases a with
  | none => cases h; cases e; rfl
  | bool b => cases h; cases e; rfl
  | int l => obtain ⟨t, rfl⟩ := h; cases e; rfl
  | str k => obtain ⟨x, t, _, rfl⟩ := h; cases e; rfl
  | ref i => obtain ⟨x, _, rfl⟩ := h; cases e; rfl
  | kref a => cases h; cases e; rfl
  | bi b => cases h; cases e; cases b <;> rfl
  | any => cases e
theorem memS_is {adr : List Addr} {k : Nat} {x : Str} (hk : tbl[k]? = some x) {vs : List AV} {xs : List Value} {c : Bool} (hv : VRs V adr vs xs) (e : memS k vs = some c) : ∃ ys, StrsAre xs ys ∧ ys.any (· == x) = c := by
  induction hv generalizing c with
  | nil => cases e; exact ⟨[], .nil, rfl⟩
  | cons h _ ih =>
    obtain ⟨j, ha, e1⟩ := bnd_is e
    obtain ⟨b, hb, e2⟩ := bnd_is e1
    clear e e1
    have e := e2
    clear e2
    cases asStr_is ha
    obtain ⟨y, tk, hj, rfl⟩ := h
    obtain ⟨ys, g1, g2⟩ := ih hb
    refine ⟨y :: ys, .cons y tk g1, ?_⟩
    rw [List.any_cons, g2, strEq_is hj hk]
    cases q : Nat.beq j k with
    | true => rw [q] at e; cases e; rfl
    | false => rw [q] at e; cases e; rfl

theorem eq_none_cases {a b : AV} {c : Bool} {av bv : Value} {Q : Value → Shared → Prop} {adr : List Addr}
    (ha : VR V adr a av) (hb : VR V adr b bv) (e : eqV a b = some c) (h : ∀ tk, Q (.bool c) { s with toks := tk }) : wpAny (model prog w) A (compareOp .Eq av bv) Q E s := by
  unfold eqV at e
  split at e
  · obtain ⟨t, rfl⟩ := ha
    obtain ⟨u, rfl⟩ := hb
    exact eq_int (by rw [eqL_is e]; exact h s.toks)
  · obtain ⟨x, t, h1, rfl⟩ := ha
    obtain ⟨y, u, h2, rfl⟩ := hb
    cases e
    exact eq_str (by rw [strEq_is h1 h2]; exact h s.toks)
  · cases ha; cases hb; cases e
    exact EqNone.eq_none_none (h s.toks)
  · cases ha; obtain ⟨y, u, h2, rfl⟩ := hb; cases e
    exact EqNone.eq_none_str (h s.toks)
  · cases ha; obtain ⟨u, rfl⟩ := hb; cases e
    exact EqNone.eq_none_int (h s.toks)
  · cases hb; obtain ⟨u, rfl⟩ := ha; cases e
    exact EqNone.eq_int_none (h s.toks)
  · cases e
theorem ne_none_cases {a b : AV} {c : Bool} {av bv : Value} {Q : Value → Shared → Prop} {adr : List Addr}
    (ha : VR V adr a av) (hb : VR V adr b bv) (e : eqV a b = some c) (h : ∀ tk, Q (.bool (!c)) { s with toks := tk }) : wpAny (model prog w) A (compareOp .NotEq av bv) Q E s := by
  unfold eqV at e
  split at e
  · obtain ⟨t, rfl⟩ := ha
    obtain ⟨u, rfl⟩ := hb
    exact ne_int (by rw [bne, eqL_is e]; exact h s.toks)
  · obtain ⟨x, t, h1, rfl⟩ := ha
    obtain ⟨y, u, h2, rfl⟩ := hb
    cases e
    exact ne_str (by rw [bne, strEq_is h1 h2]; exact h s.toks)
  · cases ha; cases hb; cases e
    exact EqNone.ne_none_none (h s.toks)
  · cases ha; obtain ⟨y, u, h2, rfl⟩ := hb; cases e
    exact EqNone.ne_none_str (h s.toks)
  · cases ha; obtain ⟨u, rfl⟩ := hb; cases e
    exact EqNone.ne_none_int (h s.toks)
  · cases hb; obtain ⟨u, rfl⟩ := ha; cases e
    exact EqNone.ne_int_none (h s.toks)
  · cases e

theorem s_cmp {op : CmpOp} {a b : AV} {c : Bool} {av bv : Value} {Q : Value → Shared → Prop} (O : VarsOk V) (S : SR V w.params h₀ L s.heap m news F H)
    (ha : VR V (adrs news) a av) (hb : VR V (adrs news) b bv) (e : cmpV H op a b = some c) (h : ∀ tk, Q (.bool c) { s with toks := tk }) : wpAny (model prog w) A (compareOp op av bv) Q E s := by
  unfold cmpV at e; try simp only [getH_eq] at e
  split at e
  · exact eq_none_cases ha hb e h
  · unfold notB at e
    split at e
    · rename_i b' hb'
      cases e
      exact ne_none_cases ha hb hb' h
    · cases e
  · split at e
    · cases hb
      exact PySem.is_none (by rw [isNone_is ha e]; exact h s.toks)
    · cases e
  · split at e
    · cases hb
      unfold notB at e
      split at e
      · rename_i c' hc
        cases e
        exact PySem.isNot_none (by rw [isNone_is ha hc]; exact h s.toks)
      · cases e
    · cases e
  · split at e
    · obtain ⟨t, rfl⟩ := ha
      obtain ⟨u, rfl⟩ := hb
      exact lt_int (by rw [ltL_is O e]; exact h s.toks)
    · cases e
  · split at e
    · obtain ⟨t, rfl⟩ := ha
      obtain ⟨u, rfl⟩ := hb
      exact gt_int (by rw [ltL_is O e]; exact h s.toks)
    · cases e
  · split at e
    · obtain ⟨x, t, h1, rfl⟩ := ha
      obtain ⟨y, hy, rfl⟩ := hb
      split at e
      · rename_i vs hv
        obtain ⟨xs, g3, g4⟩ := tupAt S hv hy
        obtain ⟨ys, k1, k2⟩ := memS_is h1 g3 e
        exact in_tuple_strs g4 k1 (by rw [k2]; exact h s.toks)
      · rename_i vs hv
        obtain ⟨xs, _, _, _, g3, g4⟩ := listAt S hv hy
        obtain ⟨ys, k1, k2⟩ := memS_is h1 g3 e
        exact in_list_strs g4 k1 (by rw [k2]; exact h s.toks)
      · cases e
    · cases e
  · cases e

/-- a new list at the ledger's end -/
theorem SR.push {P : Params} (S : SR V P h₀ L s.heap m news F H) {h' : Heap} {x : Addr} {o : Obj} {a : AO} (F' : Fr h₀ L h' m) (N' : News h₀ L h' ((x, o) :: live V.arch H news)) (hx : ∀ q ∈ live V.arch H news, q.1 < x) (ho : OR V (adrs news) P a o) (hj : isJunk a = false := by rfl) :
    SR V P h₀ L h' m (news ++ [(x, o)]) F (pushH H a) ∧ adrs news <+: adrs (news ++ [(x, o)]) ∧ (adrs (news ++ [(x, o)]))[H.length]? = some x := by
  have hp : adrs news <+: adrs (news ++ [(x, o)]) := by unfold adrs; rw [List.map_append]; exact List.prefix_append _ _
  rw [pushH_eq]
  refine ⟨S.alloc F' N' (fun hm => ?_) (fun e0 => ?_) (ho.mono hp) hj, hp, ?_⟩
  · obtain ⟨q, hq, e⟩ := List.mem_map.mp hm
    have := hx q hq
    rw [e] at this
    exact Nat.lt_irrefl _ this
  · obtain ⟨q, hq, hl⟩ := V.low
    have := hx q (live_arch q hq)
    rw [e0] at this
    exact Nat.lt_irrefl _ (Nat.lt_of_le_of_lt hl this)
  · rw [S.al.length]
    unfold adrs
    rw [List.map_append, List.getElem?_append_right (by simp)]
    simp
theorem all2_app {α β : Type} {R : α → β → Prop} {l r : List α} {l' r' : List β} (h1 : All2 R l l') (h2 : All2 R r r') : All2 R (l ++ r) (l' ++ r') := all2_append h1 h2
theorem all2_rep {α β : Type} {R : α → β → Prop} {a : α} {b : β} (h : R a b) : ∀ n : Nat, All2 R (List.replicate n a) (List.replicate n b)
  | 0 => .nil
  | n + 1 => .cons h (all2_rep h n)
theorem fold_rep (v : Value) : ∀ (n : Nat) (acc : Array Value), List.foldl (fun x1 x2 => x1 ++ x2) acc (List.replicate n #[v]) = acc ++ (List.replicate n v).toArray
  | 0, acc => by simp
  | n + 1, acc => by
    rw [List.replicate_succ, List.foldl_cons, fold_rep v n, List.replicate_succ]
    apply Array.ext'
    simp

theorem s_binAdd {a b c : AV} {av bv : Value} {Q : Value → Shared → Prop} (S : SR V w.params h₀ L s.heap m news F H)
    (ha : VR V (adrs news) a av) (hb : VR V (adrs news) b bv) (e : binAdd H a b = some (c, H'))
    (h : ∀ v h' tk news', SR V w.params h₀ L h' m news' F H' → adrs news <+: adrs news' → VR V (adrs news') c v → Q v { s with heap := h', toks := tk }) : wpAny (model prog w) A (binaryOp .Add av bv) Q E s := by
  cases a with
  | int x =>
    obtain ⟨y, hy, e1⟩ := bnd_is (show bnd (asInt b) (fun y => some (AV.int (x.add y), H)) = some (c, H') from e)
    cases asInt_is hy
    obtain ⟨t, rfl⟩ := ha
    obtain ⟨u, rfl⟩ := hb
    cases e1
    exact add_int (h _ _ _ news S (List.prefix_refl _) ⟨_, by rw [add_val]⟩)
  | ref i =>
    obtain ⟨j, hj, e1⟩ := bnd_is (show bnd (asRef b) (fun j => addRef H i j) = some (c, H') from e)
    clear e
    cases asRef_is hj
    obtain ⟨xs, h1, e2⟩ := bnd_is e1
    obtain ⟨ys, h2, e3⟩ := bnd_is e2
    obtain ⟨hlt, e4⟩ := grd_is e3
    clear e1 e2 e3
    cases e4
    obtain ⟨x, hx, rfl⟩ := ha
    obtain ⟨y, hy, rfl⟩ := hb
    obtain ⟨us, _, _, _, g3, g4⟩ := listAt S (listAt_is h1) hx
    obtain ⟨vs, _, _, _, k3, k4⟩ := listAt S (listAt_is h2) hy
    have hl : xs.length + ys.length < 10000 := Nat.le_of_ble_eq_true hlt
    refine add_arrays S.fr S.nw g4 k4 (fun h' F' N' => ?_) (by rw [List.size_toArray, List.size_toArray, ← g3.length, ← k3.length, sizeLine_eq]; omega)
    obtain ⟨S', hp, hx'⟩ := S.push (a := .list (xs ++ ys)) F' N' (fun q hq => Heap.lt_size (S.nw q hq).1) ⟨us ++ vs, 0, rfl, all2_app g3 k3⟩
    exact h _ h' s.toks _ S' hp ⟨_, hx', rfl⟩
  | _ => exact (no_some e).elim
theorem natO_is {k : Int} {n : Nat} (h : natO k = some n) : k = .ofNat n := by
  cases k with
  | ofNat k => cases h; rfl
  | negSucc k => exact (no_some h).elim
theorem one1_is {α : Type} {l : List α} {a : α} (h : one1 l = some a) : l = [a] := by
  obtain ⟨⟨x, t⟩, h1, h2⟩ := bnd_is h
  obtain ⟨h3, h4⟩ := grd_is h2
  rw [hd1_is h1, show t = [] from List.isEmpty_iff.mp h3]
  cases h4; rfl
theorem s_binMul {a b c : AV} {av bv : Value} {Q : Value → Shared → Prop} (S : SR V w.params h₀ L s.heap m news F H)
    (ha : VR V (adrs news) a av) (hb : VR V (adrs news) b bv) (e : binMul H a b = some (c, H'))
    (h : ∀ v h' tk news', SR V w.params h₀ L h' m news' F H' → adrs news <+: adrs news' → VR V (adrs news') c v → Q v { s with heap := h', toks := tk }) : wpAny (model prog w) A (binaryOp .Mult av bv) Q E s := by
  cases a with
  | int x =>
    obtain ⟨y, hy, e1⟩ := bnd_is (show bnd (asInt b) (fun y => mulInt H x y) = some (c, H') from e)
    clear e
    cases asInt_is hy
    obtain ⟨k0, hk, e2⟩ := bnd_is e1
    obtain ⟨k, hk0, e3⟩ := bnd_is e2
    obtain ⟨hlt, e4⟩ := grd_is e3
    clear e1 e2 e3
    cases natO_is hk0
    cases e4
    obtain ⟨t, rfl⟩ := ha
    obtain ⟨u, rfl⟩ := hb
    have hk' : k < 1000 := Nat.le_of_ble_eq_true hlt
    have hv := const_val (V := V) hk
    refine mul_int (h _ _ _ news S (List.prefix_refl _) ⟨_, by rw [smul_val, hv]⟩) ?_
    rw [hv]
    refine IntMulOk.of_left (intBits_le_64 ?_ ?_)
    · show -(2 ^ 64) < (k : Int); omega
    · show (k : Int) < 2 ^ 64; omega
  | ref i =>
    obtain ⟨y, hy, e1⟩ := bnd_is (show bnd (asInt b) (fun y => mulRef H i y) = some (c, H') from e)
    clear e
    cases asInt_is hy
    obtain ⟨vs, h1, e2⟩ := bnd_is e1
    obtain ⟨v, hv1, e3⟩ := bnd_is e2
    obtain ⟨n, h2, e4⟩ := bnd_is e3
    obtain ⟨hlt, e5⟩ := grd_is e4
    clear e1 e2 e3 e4
    cases one1_is hv1
    cases e5
    obtain ⟨x, hx, rfl⟩ := ha
    obtain ⟨u, rfl⟩ := hb
    obtain ⟨xs, k0, _, g2, g3, _⟩ := listAt S (listAt_is h1) hx
    have hn : n < 1000 := Nat.le_of_ble_eq_true hlt
    obtain ⟨v', rfl, hv⟩ : ∃ v', xs = [v'] ∧ VR V (adrs news) v v' := by
      cases g3 with
      | cons hv hr => cases hr; exact ⟨_, rfl, hv⟩
    rw [litN_val V h2]
    refine mul_list S.fr S.nw g2 (by omega) (by omega) (by simp; omega) fun h' F' N' => ?_
    have e1 : (if (#[v'] : Array Value).isEmpty = true then 0 else ((n : Int)).toNat) = n := by simp
    have e2 : List.foldl (fun x1 x2 => x1 ++ x2) #[] (List.replicate (if (#[v'] : Array Value).isEmpty = true then 0 else ((n : Int)).toNat) #[v']) = (List.replicate n v').toArray := by
      rw [e1, fold_rep]; simp
    have N2 : News h₀ L h' ((s.heap.objs.size, listOf (List.replicate n v').toArray 0) :: live V.arch H news) := by
      rw [← e2]; exact N'
    obtain ⟨S', hp, hx'⟩ := S.push (a := .list (List.replicate n v)) F' N2 (fun q hq => Heap.lt_size (S.nw q hq).1) ⟨_, 0, rfl, all2_rep hv n⟩
    exact h _ h' s.toks _ S' hp ⟨_, hx', rfl⟩
  | _ => exact (no_some e).elim
theorem s_bin {op : Operator} {a b c : AV} {av bv : Value} {Q : Value → Shared → Prop} (S : SR V w.params h₀ L s.heap m news F H)
    (ha : VR V (adrs news) a av) (hb : VR V (adrs news) b bv) (e : binV H op a b = some (c, H'))
    (h : ∀ v h' tk news', SR V w.params h₀ L h' m news' F H' → adrs news <+: adrs news' → VR V (adrs news') c v → Q v { s with heap := h', toks := tk }) : wpAny (model prog w) A (binaryOp op av bv) Q E s := by
  cases op with
  | Add => exact s_binAdd S ha hb e h
  | Sub =>
    obtain ⟨x, hx, e1⟩ := bnd_is (show bnd (asInt a) (fun x => bnd (asInt b) fun y => some (AV.int (x.sub y), H)) = some (c, H') from e)
    obtain ⟨y, hy, e2⟩ := bnd_is e1
    clear e e1
    cases asInt_is hx
    cases asInt_is hy
    obtain ⟨t, rfl⟩ := ha
    obtain ⟨u, rfl⟩ := hb
    cases e2
    exact sub_int (h _ _ _ news S (List.prefix_refl _) ⟨_, by rw [sub_val]⟩)
  | Mult => exact s_binMul S ha hb e h
  | _ => exact (no_some e).elim
end
end Mine
end EvG_text
section EvH_text
open PySem PySem.W PyProof.Rows PySem.Calls PySem.Spec
set_option Elab.async false
set_option maxRecDepth 100000
set_option maxHeartbeats 4000000
set_option linter.unusedVariables false
namespace Mine
noncomputable abbrev PostV (V : Vars) (P : Params) (h₀ : Heap) (L : Addr) (m : Str → Option Value) (F : Lo) (Q : Value → Shared → Prop) (s : Shared) (news : List (Addr × Obj)) (a : AV) (H' : He) : Prop :=
  ∀ v h' tk news', SR V P h₀ L h' m news' F H' → adrs news <+: adrs news' → VR V (adrs news') a v → Q v { s with heap := h', toks := tk }
noncomputable abbrev PostVs (V : Vars) (P : Params) (h₀ : Heap) (L : Addr) (m : Str → Option Value) (F : Lo) (Q : List Value → Shared → Prop) (s : Shared) (news : List (Addr × Obj)) (as : List AV) (H' : He) : Prop :=
  ∀ vs h' tk news', SR V P h₀ L h' m news' F H' → adrs news <+: adrs news' → VRs V (adrs news') as vs → Q vs { s with heap := h', toks := tk }
noncomputable abbrev PostB (V : Vars) (P : Params) (h₀ : Heap) (L : Addr) (m : Str → Option Value) (F : Lo) (Q : Bool → Shared → Prop) (s : Shared) (news : List (Addr × Obj)) (b : Bool) (H' : He) : Prop :=
  ∀ h' tk news', SR V P h₀ L h' m news' F H' → adrs news <+: adrs news' → Q b { s with heap := h', toks := tk }
noncomputable def FlowR (V : Vars) (adr : List Addr) : AF → Flow → Prop
  | .next, f => f = .next
  | .ret a, f => ∃ v, f = .ret v ∧ VR V adr a v
noncomputable abbrev PostF (V : Vars) (P : Params) (h₀ : Heap) (L : Addr) (Q : Flow → Shared → Prop) (s : Shared) (news : List (Addr × Obj)) (a : AF) (F' : Lo) (H' : He) : Prop :=
  ∀ f h' tk m' news', SR V P h₀ L h' m' news' F' H' → adrs news <+: adrs news' → FlowR V (adrs news') a f → Q f { s with heap := h', toks := tk }

section
variable (prog : Program) (w : World) (K : Frag) (p : Program) (loose : List Str) (mean : ExcName → Option Value) (mg mb : Str → Option Value) (V : Vars)
structure RecOk (r : Rec) : Prop where
  ev : ∀ {ei F H e a H'}, r.ev ei F H e = some (a, H') → ∀ {A h₀ L m news s env} {Q : Value → Shared → Prop} {E}, Cx K p loose mean mg mb A h₀ L ei.dp → EnvOk env ei L (adrs news) → SR V w.params h₀ L s.heap m news F H →
    PostV V w.params h₀ L m F Q s news a H' → wpAny (model prog w) A (eval e env) Q E s
  tr : ∀ {ei F H e b H'}, r.tr ei F H e = some (b, H') → ∀ {A h₀ L m news s env} {Q : Bool → Shared → Prop} {E}, Cx K p loose mean mg mb A h₀ L ei.dp → EnvOk env ei L (adrs news) → SR V w.params h₀ L s.heap m news F H →
    PostB V w.params h₀ L m F Q s news b H' → wpAny (model prog w) A (isTrue e env (eval e env)) Q E s
  st : ∀ {ei F H e b F' H'}, r.st ei F H e = some (b, F', H') → ∀ {A h₀ L m news s env} {Q : Flow → Shared → Prop} {E}, Cx K p loose mean mg mb A h₀ L ei.dp → EnvOk env ei L (adrs news) → SR V w.params h₀ L s.heap m news F H →
    PostF V w.params h₀ L Q s news b F' H' → wpAny (model prog w) A (exec e env) Q E s
end

section
variable {prog : Program} {w : World} {K : Frag} {p : Program} {loose : List Str} {mean : ExcName → Option Value} {mg mb : Str → Option Value} {V : Vars} {r : Rec}
  {A : Around} {h₀ : Heap} {L : Addr} {dp un : Nat} {E : Value → Shared → Prop} {s : Shared} {m : Str → Option Value} {news : List (Addr × Obj)} {F F' : Lo} {H H' : He} {env : Env} {ei : EI}

theorem argOk_star {e : Expr} (h : argOk e = true) (rest : List Expr) (env : Env) : starEach (e :: rest) env = (false, eval e env) :: starEach rest env := by
  cases e <;> first | rfl | cases h
theorem evs_plain : ∀ {es : List Expr} {H : He} {as : List AV} {H' : He} {pos : Pos}, evs r ei F H es = some (as, H') → (backTo pos (starEach es env)).any (·.1) = false
  | [], _, _, _, _, _ => rfl
  | e :: t, H, as, H', pos, q => by
    unfold evs at q
    split at q
    · cases q
    · rename_i ho
      rw [argOk_star ho]
      split at q
      · cases q
      · split at q
        · cases q
        · rename_i h2
          show (false || (backTo pos (starEach t env)).any (·.1)) = false
          rw [evs_plain h2]
          rfl
theorem s_evs (R : RecOk prog w K p loose mean mg mb V r) (C : Cx K p loose mean mg mb A h₀ L ei.dp) : ∀ {es : List Expr} {H : He} {as : List AV} {H' : He} {news : List (Addr × Obj)} {s : Shared} {pos : Pos} {Q : List Value → Shared → Prop},
    EnvOk env ei L (adrs news) → SR V w.params h₀ L s.heap m news F H → evs r ei F H es = some (as, H') → PostVs V w.params h₀ L m F Q s news as H' → wpAny (model prog w) A (spliced (backTo pos (starEach es env))) Q E s
  | [], H, as, H', news, s, pos, Q, O, S, q, h => by
    unfold evs at q
    cases q
    exact spliced_nil (h [] s.heap s.toks news S (List.prefix_refl _) .nil)
  | e :: t, H, as, H', news, s, pos, Q, O, S, q, h => by
    unfold evs at q
    split at q
    · cases q
    · rename_i ho
      rw [argOk_star ho]
      split at q
      · cases q
      · rename_i v H1 h1
        split at q
        · cases q
        · rename_i vs H2 h2
          cases q
          refine spliced_cons (R.ev h1 C O S fun v' h' tk news' S' hp hv => ?_)
          refine s_evs R C (O.mono hp) S' h2 fun vs' h'' tk' news'' S'' hp' hvs => ?_
          exact h _ h'' tk' news'' S'' (hp.trans hp') (.cons (hv.mono hp') hvs)

noncomputable def KeepsOk (K : Frag) (f : Value) : Prop := ∀ (M : Model) (h : Heap), K.In h → ∃ k, (k = Keeper.frame ∨ k = Keeper.machine ∨ k = Keeper.boundFrame) ∧ Looks M h (keeperOf f) k
theorem keeps_bi (b : BI) : KeepsOk K b.val := fun M h _ => ⟨.machine, .inr (.inl rfl), by cases b <;> exact Looks.now⟩
theorem keeps_built (id : String) : KeepsOk K (.builtin id) := fun M h _ => ⟨.machine, .inr (.inl rfl), Looks.now⟩
theorem keeps_kref {a : Addr} (h : keepIn K (.ref a) = true) : KeepsOk K (.ref a) := fun M h' X => keeps_K h h' X

theorem evalArgs_any {f : Value} {args : List (Bool × Sem Value)} {Q : Args → Shared → Prop} (hp : args.any (·.1) = false)
    (h : wpAny (model prog w) A (spliced args) (fun vs s' => Q ⟨vs, []⟩ s') E s) : wpAny (model prog w) A (evalArgs f true args []) Q E s := by
  match args, hp, h with
  | [], _, h =>
    unfold evalArgs
    show wpAny _ A (spliced [] >>= _) Q E s
    refine wpAny_bind (wpAny_mono h (fun vs s' h' => ?_) fun _ _ x => x)
    refine wpAny_holding ?_
    exact wpAny_bind (wpAny_pure (wpAny_bind (wpAny_pure (wpAny_pure h'))))
  | (true, x) :: t, hp, h => exact absurd hp (by simp)
  | (false, x) :: t, _, h => exact evalArgs_plain h
theorem s_callWith {f : Value} {first : List Value} {es : List Expr} {as : List AV} {pos : Pos} {Q : Value → Shared → Prop} (R : RecOk prog w K p loose mean mg mb V r) (C : Cx K p loose mean mg mb A h₀ L ei.dp)
    (O : EnvOk env ei L (adrs news)) (S : SR V w.params h₀ L s.heap m news F H) (k : KeepsOk K f) (q : evs r ei F H es = some (as, H'))
    (h : PostVs V w.params h₀ L m F (fun vs s' => wpAny (model prog w) A (call f (first ++ vs)) Q E s') s news as H') :
    wpAny (model prog w) A (callWith pos f first (backTo pos (starEach es env)) []) Q E s := by
  have hp := evs_plain (env := env) (pos := pos) q
  refine callWith_of (P := K.In) (by rw [hp]; rfl) (k _) (evalArgs_any hp (s_evs R C O S q fun vs h' tk news' S' hpre hv => ⟨C.kin.keeps S'.fr.keep, h vs h' tk news' S' hpre hv⟩))

/-! the builtins -/
theorem vrs1 {adr : List Addr} {a : AV} {vs : List Value} (h : VRs V adr [a] vs) : ∃ v, vs = [v] ∧ VR V adr a v := by
  cases h with
  | cons h1 h2 => cases h2; exact ⟨_, rfl, h1⟩
theorem vrs2 {adr : List Addr} {a b : AV} {vs : List Value} (h : VRs V adr [a, b] vs) : ∃ v u, vs = [v, u] ∧ VR V adr a v ∧ VR V adr b u := by
  cases h with
  | cons h1 h2 => obtain ⟨u, rfl, h3⟩ := vrs1 h2; exact ⟨_, u, rfl, h1, h3⟩
theorem inv_len {as : List AV} {c : AV} (q : callV K r dp un H (.bi .len) as = some (c, H')) : ∃ i, as = [.ref i] ∧ H' = H ∧ ((∃ us, H[i]? = some (.list us) ∧ us.length < 10000 ∧ c = .int (Lin.lit (Int.ofNat us.length))) ∨ ∃ j l us, H[i]? = some (.plist j (some l) us) ∧ us.length < 10000 ∧ c = .int (l.add (Lin.lit (Int.ofNat us.length)))) := by
  unfold callV at q; dsimp only at q; try simp only [getH_eq] at q
  split at q
  · rename_i i
    split at q
    · rename_i us hu
      split at q
      · rename_i hlt
        cases q
        exact ⟨i, rfl, rfl, .inl ⟨us, hu, Nat.le_of_ble_eq_true hlt, rfl⟩⟩
      · cases q
    · rename_i j l us hu
      split at q
      · rename_i hlt
        cases q
        exact ⟨i, rfl, rfl, .inr ⟨j, l, us, hu, Nat.le_of_ble_eq_true hlt, rfl⟩⟩
      · cases q
    · cases q
  · cases q
theorem inv_list {as : List AV} {c : AV} (q : callV K r dp un H (.bi .list) as = some (c, H')) : ∃ i us, as = [.ref i] ∧ H[i]? = some (.list us) ∧ us.length < 10000 ∧ c = .ref H.length ∧ H' = pushH H (.list us) := by
  unfold callV at q; dsimp only at q; try simp only [getH_eq] at q
  split at q
  · rename_i i
    split at q
    · rename_i us hu
      split at q
      · rename_i hlt
        cases q
        exact ⟨i, us, rfl, hu, Nat.le_of_ble_eq_true hlt, rfl, rfl⟩
      · cases q
    · cases q
  · cases q
theorem inv_isi {as : List AV} {c : AV} (q : callV K r dp un H (.bi .isinstance) as = some (c, H')) : ∃ i C C' d, as = [.ref i, .kref C] ∧ H[i]? = some (.inst C' d) ∧ isIn K (.ref C') C = true ∧ c = .bool true ∧ H' = H := by
  unfold callV at q; dsimp only at q; try simp only [getH_eq] at q
  split at q
  · rename_i i C
    split at q
    · rename_i C' d hu
      split at q
      · rename_i hlt
        cases q
        exact ⟨i, C, C', d, rfl, hu, hlt, rfl, rfl⟩
      · cases q
    · cases q
  · cases q
theorem inv_range {as : List AV} {c : AV} (q : callV K r dp un H (.bi .range) as = some (c, H')) : c = .ref H.length ∧ ((∃ l n, as = [.int l] ∧ litN l = some n ∧ H' = pushH H (.rng 0 n)) ∨ ∃ l l' j n, as = [.int l, .int l'] ∧ litN l = some j ∧ litN l' = some n ∧ H' = pushH H (.rng j n)) := by
  unfold callV at q; dsimp only at q; try simp only [getH_eq] at q
  split at q
  · rename_i n
    split at q
    · rename_i k hk
      cases q
      exact ⟨rfl, .inl ⟨n, k, rfl, hk, rfl⟩⟩
    · cases q
  · rename_i a n
    split at q
    · rename_i j k hj hk
      cases q
      exact ⟨rfl, .inr ⟨a, n, j, k, rfl, hj, hk, rfl⟩⟩
    · cases q
  · cases q
theorem s_rangeEnd {a b : Int} (S : SR V w.params h₀ L s.heap m news F H) {h' : Heap} {t₁ u₁ v₁ : Tok}
    (X : IsRange h' s.heap.objs.size a b 1 t₁ u₁ v₁) (F' : Fr h₀ L h' m) (N' : News h₀ L h' (live V.arch H news)) (hk : ∀ b o, s.heap.get? b = some o → h'.get? b = some o) :
    ∃ o, SR V w.params h₀ L h' m (news ++ [(s.heap.objs.size, o)]) F (pushH H (.rng a b)) ∧ adrs news <+: adrs (news ++ [(s.heap.objs.size, o)]) ∧ (adrs (news ++ [(s.heap.objs.size, o)]))[H.length]? = some s.heap.objs.size :=
  ⟨_, S.push (a := .rng a b) F' (news_pushed S.fr S.nw hk X rfl) (fun q hq => Heap.lt_size (S.nw q hq).1) ⟨_, _, _, rfl⟩⟩
theorem s_callB {b : BI} {as : List AV} {vs : List Value} {c : AV} {Q : Value → Shared → Prop} (C : Cx K p loose mean mg mb A h₀ L dp) (S : SR V w.params h₀ L s.heap m news F H)
    (hv : VRs V (adrs news) as vs) (q : callV K r dp un H (.bi b) as = some (c, H')) (h : PostV V w.params h₀ L m F Q s news c H') : wpAny (model prog w) A (call b.val vs) Q E s := by
  cases b with
  | len =>
    obtain ⟨i, rfl, rfl, ⟨us, hu, hlt, rfl⟩ | ⟨j, l, us, hu, hlt, rfl⟩⟩ := inv_len q
    · obtain ⟨v, rfl, x, hx, rfl⟩ := vrs1 hv
      obtain ⟨xs, _, _, _, g3, g4⟩ := listAt S hu hx
      have hl := g3.length
      refine call_len_list g4 (by simp; omega) (h _ _ _ news S (List.prefix_refl _) ⟨s.toks + 1, ?_⟩)
      rw [lit_val]
      simp [hl]
    · obtain ⟨v, rfl, x, hx, rfl⟩ := vrs1 hv
      obtain ⟨xs, _, _, _, g3, g4, g5, g6⟩ := plistAt S hu hx
      have hl := g3.length
      refine call_len_list g4 (by simp; omega) (h _ _ _ news S (List.prefix_refl _) ⟨s.toks + 1, ?_⟩)
      rw [add_val, lit_val, ← g5 l rfl, hl]
      simp
  | abs => unfold callV at q; cases q
  | isinstance =>
    obtain ⟨i, C', D, d, rfl, hu, hi, rfl, rfl⟩ := inv_isi q
    obtain ⟨v, u, rfl, ⟨x, hx, rfl⟩, rfl⟩ := vrs2 hv
    obtain ⟨o, g1, g2, dx, g3, rfl⟩ := S.at hu hx
    exact isi_call (C.kin.keeps S.fr.keep) (fun M => (Looks.ld g2).andThen .now) hi (by intro z; cases z) (h _ _ s.toks news S (List.prefix_refl _) rfl)
  | list =>
    obtain ⟨i, us, rfl, hu, hlt, rfl, rfl⟩ := inv_list q
    obtain ⟨v, rfl, x, hx, rfl⟩ := vrs1 hv
    obtain ⟨xs, _, _, _, g3, g4⟩ := listAt S hu hx
    have hl := g3.length
    refine list_copyK S.fr S.nw g4 (fun D c h' F' N' hD => ?_) (by rw [sizeLine_eq]; simp; omega)
    obtain ⟨S', hp, hx'⟩ := S.push (a := .list us) F' N' hD ⟨xs, c, rfl, g3⟩
    exact h _ h' s.toks _ S' hp ⟨_, hx', rfl⟩
  | range =>
    obtain ⟨rfl, ⟨l, n, rfl, hn, rfl⟩ | ⟨l, l', j, n, rfl, hj, hn, rfl⟩⟩ := inv_range q
    · obtain ⟨v, rfl, t, rfl⟩ := vrs1 hv
      rw [litN_val V hn]
      refine range1_rows S.fr S.nw fun h' tk t₁ u₁ v₁ X F' N' hk => ?_
      obtain ⟨o, S', hp, hx'⟩ := s_rangeEnd S X F' N' hk
      exact h _ h' tk _ S' hp ⟨_, hx', rfl⟩
    · obtain ⟨v, u, rfl, ⟨t, rfl⟩, t', rfl⟩ := vrs2 hv
      rw [litN_val V hn, litN_val V hj]
      refine range2_rows S.fr S.nw fun h' tk t₁ u₁ v₁ X F' N' hk => ?_
      obtain ⟨o, S', hp, hx'⟩ := s_rangeEnd S X F' N' hk
      exact h _ h' tk _ S' hp ⟨_, hx', rfl⟩
end
end Mine
end EvH_text
section EvI_text
open PySem PySem.W PyProof.Rows PySem.Calls PySem.Spec
set_option Elab.async false
set_option maxRecDepth 100000
set_option maxHeartbeats 4000000
set_option linter.unusedVariables false
namespace Mine
theorem forIn_pure {α β : Type} (f : α → β → β) (body : α → β → Sem (ForInStep β)) (hb : ∀ x b, body x b = pure (.yield (f x b))) : ∀ (l : List α) (b : β), forIn l b body = (pure (l.foldl (fun b x => f x b) b) : Sem β)
  | [], b => rfl
  | x :: t, b => by
    rw [List.forIn_cons, hb, pure_bind]
    exact forIn_pure f body hb t _
noncomputable def stepB (x : Str × Value) (b : List (Str × Value)) : List (Str × Value) := if (b.lookup x.1).isNone = true then b ++ [(x.1, x.2)] else b
theorem zip_lookup_some : ∀ {ns : List Str} {vs : List Value} {x : Str}, x ∈ ns.take vs.length → ((ns.zip vs).lookup x).isSome = true
  | [], vs, x, h => by simp at h
  | n :: ns, [], x, h => by simp at h
  | n :: ns, v :: vs, x, h => by
    rw [List.zip_cons_cons, List.lookup_cons]
    by_cases e : (x == n) = true
    · rw [e]; rfl
    · rw [Bool.eq_false_iff.mpr e]
      refine zip_lookup_some ?_
      rw [List.length_cons, List.take_succ_cons] at h
      rcases List.mem_cons.mp h with rfl | h
      · exact absurd (beq_self_eq_true x) e
      · exact h
theorem zip_lookup_none : ∀ {ns : List Str} {vs : List Value} {x : Str}, x ∉ ns.take vs.length → (ns.zip vs).lookup x = none
  | [], vs, x, h => rfl
  | n :: ns, [], x, h => rfl
  | n :: ns, v :: vs, x, h => by
    rw [List.length_cons, List.take_succ_cons] at h
    rw [List.zip_cons_cons, List.lookup_cons]
    have h1 : ¬ x = n := fun e => h (e ▸ List.mem_cons_self)
    rw [beq_eq_false_iff_ne.mpr h1]
    exact zip_lookup_none fun q => h (List.mem_cons_of_mem _ q)
theorem fold_skip : ∀ {l : List (Str × Value)} {b : List (Str × Value)}, (∀ x ∈ l, (b.lookup x.1).isSome = true) → l.foldl (fun b x => stepB x b) b = b
  | [], b, _ => rfl
  | x :: t, b, h => by
    have h1 := h x (List.mem_cons_self)
    rw [List.foldl_cons]
    have : stepB x b = b := by
      unfold stepB
      cases q : b.lookup x.1 with
      | none => rw [q] at h1; cases h1
      | some _ => rfl
    rw [this]
    exact fold_skip fun y hy => h y (List.mem_cons_of_mem _ hy)
theorem lookup_append_none {b c : List (Str × Value)} {x : Str} (h : b.lookup x = none) (h' : c.lookup x = none) : (b ++ c).lookup x = none := by
  induction b with
  | nil => exact h'
  | cons p t ih =>
    obtain ⟨k, v⟩ := p
    rw [List.cons_append, List.lookup_cons]
    rw [List.lookup_cons] at h
    cases e : x == k with
    | true => rw [e] at h; cases h
    | false => rw [e] at h; exact ih h
theorem fold_add : ∀ {l : List (Str × Value)} {b : List (Str × Value)}, (∀ x ∈ l, b.lookup x.1 = none) → (l.map (·.1)).Nodup → l.foldl (fun b x => stepB x b) b = b ++ l
  | [], b, _, _ => (List.append_nil b).symm
  | x :: t, b, h, nd => by
    have h1 := h x (List.mem_cons_self)
    rw [List.foldl_cons]
    have : stepB x b = b ++ [x] := by
      unfold stepB
      rw [h1]; rfl
    rw [this]
    have nd' := List.nodup_cons.mp nd
    rw [fold_add (fun y hy => lookup_append_none (h y (List.mem_cons_of_mem _ hy)) ?_) nd'.2, List.append_assoc]
    · rfl
    · obtain ⟨k, v⟩ := x
      rw [List.lookup_cons]
      have : ¬ y.1 = k := fun e => nd'.1 (by show k ∈ _; rw [← e]; exact List.mem_map_of_mem (f := (·.1)) hy)
      rw [beq_eq_false_iff_ne.mpr this]
      rfl
theorem fm_congr {α β : Type} {f g : α → Option β} : ∀ {l : List α}, (∀ x ∈ l, f x = g x) → l.filterMap f = l.filterMap g
  | [], _ => rfl
  | x :: t, h => by
    rw [List.filterMap_cons, List.filterMap_cons, h x List.mem_cons_self, fm_congr fun y hy => h y (List.mem_cons_of_mem _ hy)]
theorem zip_filterMap : ∀ {ns : List Str} {vs : List Value}, ns.Nodup → ns.length = vs.length → ns.filterMap (fun n => ((ns.zip vs).lookup n).map (fun v => (n, v))) = ns.zip vs
  | [], [], _, _ => rfl
  | n :: ns, v :: vs, nd, hl => by
    have nd' := List.nodup_cons.mp nd
    have ih := zip_filterMap nd'.2 (show ns.length = vs.length by simpa using hl)
    have e : ns.filterMap (fun k => (((n, v) :: ns.zip vs).lookup k).map (fun v => (k, v))) = ns.filterMap (fun n => ((ns.zip vs).lookup n).map (fun v => (n, v))) := fm_congr fun x hx => by
      have hne : (x == n) = false := beq_eq_false_iff_ne.mpr (fun e => nd'.1 (by rw [← e]; exact hx))
      rw [List.lookup_cons, hne]
    rw [List.zip_cons_cons, List.filterMap_cons, e, ih, List.lookup_cons, beq_self_eq_true]
    rfl
  | [], _ :: _, _, h => by simp at h
  | _ :: _, [], _, h => by simp at h
theorem zip_app : ∀ (ns : List Str) (vs d : List Value), vs.length ≤ ns.length → ns.zip (vs ++ d) = ns.zip vs ++ (ns.drop vs.length).zip d
  | ns, [], d, _ => by simp
  | n :: ns, v :: vs, d, h => by
    rw [List.cons_append, List.zip_cons_cons, zip_app ns vs d (by simpa using h)]
    rfl
  | [], _ :: _, _, h => by simp at h
theorem zip_drop : ∀ (n : Nat) (as : List Str) (bs : List Value), (as.zip bs).drop n = (as.drop n).zip (bs.drop n)
  | 0, _, _ => rfl
  | n + 1, [], _ => by simp
  | n + 1, _ :: _, [] => by simp
  | n + 1, a :: as, b :: bs => zip_drop n as bs
theorem slots_are {ns : List Str} {vs ds : List Value} (nd : ns.Nodup) (h1 : ds.length ≤ ns.length) (h2 : vs.length ≤ ns.length) (h3 : ns.length ≤ vs.length + ds.length) :
    ((ns.drop (ns.length - ds.length)).zip ds).foldl (fun b x => stepB x b) (ns.zip vs) = ns.zip (vs ++ ds.drop (vs.length + ds.length - ns.length)) := by
  generalize ha : vs.length + ds.length - ns.length = a
  generalize hk : ns.length - ds.length = k
  have hka : k + a = vs.length := by omega
  generalize hl : (ns.drop k).zip ds = l
  have hm : l.map (·.1) = ns.drop k := by
    rw [← hl]
    exact List.map_fst_zip (by rw [List.length_drop]; omega)
  rw [← List.take_append_drop a l, List.foldl_append]
  rw [fold_skip (l := l.take a)]
  · have hd : l.drop a = (ns.drop vs.length).zip (ds.drop a) := by rw [← hl, zip_drop, List.drop_drop, hka]
    have hd1 : (l.drop a).map (·.1) = ns.drop vs.length := by rw [List.map_drop, hm, List.drop_drop, hka]
    rw [fold_add]
    · rw [zip_app _ _ _ h2, hd]
    · intro x hx
      refine zip_lookup_none fun hq => ?_
      have : x.1 ∈ ns.drop vs.length := by rw [← hd1]; exact List.mem_map_of_mem (f := (·.1)) hx
      rw [← List.take_append_drop vs.length ns] at nd
      exact (List.nodup_append.mp nd).2.2 _ hq _ this rfl
    · rw [hd1]
      exact nd.sublist (List.drop_sublist _ _)
  · intro x hx
    refine zip_lookup_some ?_
    have : x.1 ∈ (l.take a).map (·.1) := List.mem_map_of_mem (f := (·.1)) hx
    rw [List.map_take, hm] at this
    rw [← hka, List.take_add]
    exact List.mem_append_right _ this
theorem binds_plain {s : Shared} {fd : FuncData} {vs ds : List Value} {args : List Arg} {dflts : List Expr} {kd : List (Option Expr)} {o : Option (Array Value)} (hp : fd.params = ⟨[], args, none, [], kd, none, dflts⟩)
    (hs : ∀ (M : Model) (A : Around) (E : Value → Shared → Prop) (Q : Option (Array Value) → Shared → Prop), Q o s → wpAny M A (seqItems? fd.defaults) Q E s) (hd : (o.getD #[]).toList = ds)
    (nd : (args.map (·.arg)).Nodup) (h1 : ds.length ≤ args.length) (h2 : vs.length ≤ args.length) (h3 : args.length ≤ vs.length + ds.length) :
    BindsTo s fd ⟨vs, []⟩ ((args.map (·.arg)).zip (vs ++ ds.drop (vs.length + ds.length - args.length))) := fun M A E Q hq => by
  unfold bindArgs
  rw [hp]
  simp only [List.map_nil, List.nil_append, List.forIn_nil, pure_bind, Option.isNone_none, Bool.and_true, List.append_nil]
  refine wpAny_bind (hs M A E _ ?_)
  rw [hd]
  generalize hns : args.map (·.arg) = ns at *
  have hln : ns.length = args.length := by rw [← hns, List.length_map]
  rw [← hln] at h1 h2 h3 hq
  have e0 : decide (vs.length > ns.length) = false := decide_eq_false (by omega)
  have e1 : ds.drop (ds.length - ns.length) = ds := by rw [show ds.length - ns.length = 0 from by omega]; rfl
  rw [e0, e1]
  have e2 : (List.filter (fun n => (List.lookup n (ns.zip vs)).isNone) (List.take (ns.length - ds.length) ns)) = [] := by
    refine List.filter_eq_nil_iff.mpr fun x hx => ?_
    have := zip_lookup_some (ns := ns) (vs := vs) (x := x) ((List.take_prefix_take_left (by omega)).subset hx)
    cases q : List.lookup x (ns.zip vs) with
    | none => rw [q] at this; cases this
    | some _ => simp
  rw [e2]
  simp only [Bool.false_eq_true, if_false, List.isEmpty_nil, Bool.not_true]
  rw [forIn_pure stepB _ (fun x b => by unfold stepB; split <;> rfl), pure_bind, slots_are nd h1 h2 h3]
  rw [zip_filterMap nd (by simp; omega)]
  exact wpAny_pure hq
end Mine
end EvI_text
section EvJ_text
open PySem PySem.W PyProof.Rows PySem.Calls PySem.Spec
set_option Elab.async false
set_option maxRecDepth 100000
set_option maxHeartbeats 4000000
set_option linter.unusedVariables false
namespace Mine
theorem lookup_mem {β : Type} : ∀ {l : List (Str × β)} {x : Str} {v : β}, (l.map (·.1)).Nodup → (x, v) ∈ l → l.lookup x = some v
  | (y, u) :: t, x, v, nd, h => by
    have nd' := List.nodup_cons.mp nd
    rw [List.lookup_cons]
    rcases List.mem_cons.mp h with e | h
    · cases e
      rw [beq_self_eq_true]
    · have : ¬ x = y := fun e => nd'.1 (by show y ∈ _; rw [← e]; exact List.mem_map_of_mem (f := (·.1)) h)
      rw [beq_eq_false_iff_ne.mpr this]
      exact lookup_mem nd'.2 h
theorem bindA_rel {V : Vars} {adr : List Addr} {args : List Arg} {as : List AV} {F : Lo} {vs : List Value} (e : bindA args as = some F) (hv : VRs V adr as vs) :
    (args.map (·.arg)).Nodup ∧ args.length = vs.length ∧ (∀ a ∈ args, okStr a.arg = true) ∧ (∀ k a, lk F k = some a → ∃ x v, tbl[k]? = some x ∧ (x, v) ∈ (args.map (·.arg)).zip vs ∧ VR V adr a v) ∧ (∀ a ∈ args, ∃ b, lk F (sid a.arg) = some b) := by
  induction args generalizing as F vs with
  | nil =>
    obtain ⟨h1, e⟩ := grd_is e
    cases List.isEmpty_iff.mp h1
    cases hv
    cases e
    exact ⟨List.nodup_nil, rfl, fun _ h => (nomatch h), fun _ _ h => (nomatch h), fun _ h => (nomatch h)⟩
  | cons a t ih =>
    obtain ⟨⟨av, r⟩, hh, e1⟩ := bnd_is e
    clear e
    cases hd1_is hh
    obtain ⟨ha, e2⟩ := grd_is e1
    obtain ⟨l, hl, e3⟩ := bnd_is e2
    obtain ⟨hn, e⟩ := grd_is e3
    clear e1 e2 e3
    have hn : lk l (sid a.arg) = none := Option.isNone_iff_eq_none.mp hn
    cases hv with
    | @cons _ v _ vs hv hr =>
      cases e
      obtain ⟨h1, h2, h3, h4, h5⟩ := ih hl hr
      refine ⟨List.nodup_cons.mpr ⟨fun hm => ?_, h1⟩, by simp [h2], fun b hb => ?_, fun k c hk => ?_, fun b hb => ?_⟩
      · obtain ⟨b, hb, e⟩ := List.mem_map.mp hm
        obtain ⟨c, hc⟩ := h5 b hb
        rw [e, hn] at hc
        cases hc
      · rcases List.mem_cons.mp hb with rfl | hb
        · exact ha
        · exact h3 b hb
      · unfold lk at hk
        split at hk
        · rename_i q
          cases hk
          have := Nat.eq_of_beq_eq_true q
          subst this
          exact ⟨a.arg, v, okStr_get ha, List.mem_cons_self, hv⟩
        · obtain ⟨x, u, g1, g2, g3⟩ := h4 k c hk
          exact ⟨x, u, g1, List.mem_cons_of_mem _ g2, g3⟩
      · unfold lk
        split
        · exact ⟨_, rfl⟩
        · rename_i q
          rcases List.mem_cons.mp hb with rfl | hb
          · rw [Nat.beq_refl] at q; cases q
          · exact h5 b hb
theorem dfltA_rel {V : Vars} {adr : List Addr} {v : Value} {a : AV} (h : dfltA v = some a) : VR V adr a v := by
  unfold dfltA at h
  split at h
  · cases h; rfl
  · rename_i x t
    split at h
    · rename_i hx
      cases h
      exact ⟨x, t, okStr_get hx, rfl⟩
    · cases h
  · cases h; exact ⟨_, by rw [lit_val]⟩
  · cases h; rfl
  · cases h
theorem dfltsA_rel {V : Vars} {adr : List Addr} : ∀ {vs : List Value} {as : List AV}, dfltsA vs = some as → VRs V adr as vs
  | [], as, h => by unfold dfltsA at h; cases h; exact .nil
  | v :: t, as, h => by
    unfold dfltsA at h
    split at h
    · rename_i a r ha hr
      cases h
      exact .cons (dfltA_rel ha) (dfltsA_rel hr)
    · cases h
theorem dfltList_rel {K : Frag} {v : Value} {ds : List Value} (h : dfltList K v = some ds) {s : Shared} (X : K.In s.heap) :
    ∃ o : Option (Array Value), (o.getD #[]).toList = ds ∧ ∀ (M : Model) (A : Around) (E : Value → Shared → Prop) (Q : Option (Array Value) → Shared → Prop), Q o s → wpAny M A (seqItems? v) Q E s := by
  unfold dfltList at h
  split at h
  · cases h
    exact ⟨none, rfl, fun _ _ _ _ hq => fun _ _ _ => hq⟩
  · split at h
    · rename_i ho
      cases h
      exact ⟨some _, rfl, fun _ _ _ _ hq => wpAny_seqItems (X _ _ ho) rfl hq⟩
    · cases h
  · cases h
theorem allLocal_rel {names : List (Str × NameKind)} : ∀ {args : List Arg}, allLocal names args = true → (∀ a ∈ args, okStr a.arg = true) → ∀ a ∈ args, names.lookup a.arg = some .local
  | [], _, _, _, h => (nomatch h)
  | a :: t, h, ok, b, hb => by
    unfold allLocal at h
    split at h
    · rename_i q
      rcases List.mem_cons.mp hb with rfl | hb
      · exact kf_lookup (ok _ List.mem_cons_self) q
      · exact allLocal_rel h (fun c hc => ok c (List.mem_cons_of_mem _ hc)) b hb
    · cases h
theorem noCell_rel : ∀ {names : List (Str × NameKind)}, noCell names = true → ∀ x ∈ names, x.2 ≠ .cell
  | [], _, _, h => (nomatch h)
  | (y, k) :: t, h, x, hx => by
    have ht : noCell t = true := by cases k <;> first | exact h | exact absurd h (by unfold noCell; decide)
    have hk : k ≠ .cell := by rintro rfl; exact absurd h (by unfold noCell; decide)
    rcases List.mem_cons.mp hx with rfl | hx
    · exact hk
    · exact noCell_rel ht x hx
structure FnOk (K : Frag) (fd : FuncData) : Prop where
  params : ∃ args kd ds, fd.params = ⟨[], args, none, [], kd, none, ds⟩
  glob : fd.globals = mainGlobals
  clos : fd.closure = []
  bui : fd.builtins = builtinsNs
  code : codeIn K fd.code fd.qualname = true
  kind : fd.scope.kind = .function
  co : fd.scope.isCoroutine = false
  gen : fd.scope.isGenerator = false
  cell : noCell fd.scope.names = true
  loc : allLocal fd.scope.names fd.params.args = true
theorem fnOk_is {K : Frag} {fd : FuncData} (h : fnOk K fd = true) : FnOk K fd := by
  unfold fnOk plainParams isFunScope at h
  simp only [Bool.and_eq_true, List.isEmpty_iff, Option.isNone_iff_eq_none] at h
  obtain ⟨⟨⟨⟨⟨⟨⟨⟨⟨h1, h2⟩, h3⟩, h4⟩, h5⟩, h6⟩, h7⟩, h8⟩, h9⟩, h10⟩ := h
  have sc : fd.scope.kind = .function ∧ fd.scope.isCoroutine = false ∧ fd.scope.isGenerator = false ∧ noCell fd.scope.names = true := by
    split at h9
    · rename_i a b c
      exact ⟨a, b, c, h9⟩
    · cases h9
  refine ⟨⟨fd.params.args, fd.params.kw_defaults, fd.params.defaults, ?_⟩, Nat.eq_of_beq_eq_true h5, h6, Nat.eq_of_beq_eq_true h7, h8, sc.1, sc.2.1, sc.2.2.1, sc.2.2.2, h10⟩
  generalize fd.params = p at *
  obtain ⟨a, b, c, d, e, f, g⟩ := p
  dsimp only at h1 h2 h3 h4
  subst h1 h2 h3 h4
  rfl
theorem fn_eta {fd : FuncData} {body : List Stmt} (g : fd.globals = mainGlobals) (c : fd.closure = []) (b : fd.builtins = builtinsNs) (hb : fd.body = .stmts body) :
    fd = fnOf fd.name fd.qualname fd.params body fd.scope fd.defaults fd.kwdefaults fd.doc fd.pyModule fd.annotations fd.code fd.closureTuple := by
  obtain ⟨a1, a2, a3, a4, a5, a6, a7, a8, a9, a10, a11, a12, a13, a14, a15⟩ := fd
  dsimp only at g c b hb
  subst g c b hb
  rfl

section
variable {prog : Program} {w : World} {K : Frag} {p : Program} {loose : List Str} {mean : ExcName → Option Value} {mg mb : Str → Option Value} {V : Vars} {r : Rec}
  {A : Around} {h₀ : Heap} {L : Addr} {dp un : Nat} {E : Value → Shared → Prop} {s : Shared} {m : Str → Option Value} {news : List (Addr × Obj)} {F F' : Lo} {H H' : He} {env : Env} {ei : EI}
theorem s_bl (R : RecOk prog w K p loose mean mg mb V r) (C : Cx K p loose mean mg mb A h₀ L ei.dp) : ∀ {ss : List Stmt} {F : Lo} {H : He} {a : AF} {F' : Lo} {H' : He} {m : Str → Option Value} {news : List (Addr × Obj)} {s : Shared} {Q : Flow → Shared → Prop},
    EnvOk env ei L (adrs news) → SR V w.params h₀ L s.heap m news F H → bl r ei F H ss = some (a, F', H') → PostF V w.params h₀ L Q s news a F' H' → wpAny (model prog w) A (execs ss env) Q E s
  | [], F, H, a, F', H', m, news, s, Q, O, S, q, h => by
    unfold bl at q
    cases q
    exact wpAny_execs_nil (h _ s.heap s.toks m news S (List.prefix_refl _) rfl)
  | st :: t, F, H, a, F', H', m, news, s, Q, O, S, q, h => by
    unfold bl at q
    split at q
    · cases q
    · rename_i v F1 H1 h1
      cases q
      refine wpAny_execs_cons (R.st h1 C O S fun f h' tk m' news' S' hp hv => ?_)
      obtain ⟨u, rfl, hu⟩ := hv
      exact h _ h' tk m' news' S' hp ⟨u, rfl, hu⟩
    · rename_i F1 H1 h1
      refine wpAny_execs_cons (R.st h1 C O S fun f h' tk m' news' S' hp hv => ?_)
      cases hv
      exact s_bl R C (O.mono hp) S' q fun f h'' tk' m'' news'' S'' hp' hv' => h f h'' tk' m'' news'' S'' (hp.trans hp') hv'

noncomputable def retOf (fl : Flow) : Value := match fl with | .ret v => v | _ => .none
theorem s_callBody {f : Addr} {fd : FuncData} {oc : Value} {od : Option Addr} {osl : Array (Option Value)} {as as' : List AV} {vs : List Value} {F0 : Lo} {body : List Stmt} {Rr : Result → Shared → Prop} (Post : Vars → List (Addr × Obj) → He → Value → Prop)
    (hf : K.lookup f = some ⟨oc, od, .func fd, osl⟩) (hok : fnOk K fd = true) (hb : fd.body = .stmts body) (hfill : fillA K fd as = some as') (hbind : bindA fd.params.args as' = some F0) (hdp2 : dp < 200)
    (C : Cx K p loose mean mg mb A h₀ L dp) (S : SR V w.params h₀ L s.heap m news F H) (hv : VRs V (adrs news) as vs)
    (h : ∀ (A' : Around) (g : Heap) (L' : Addr) (m' : Str → Option Value) (env' : Env) (h₁ : Heap) (tk₁ : Nat) (Q' : Flow → Shared → Prop) (E' : Value → Shared → Prop), A'.units = A.units + 3 → Cx K p loose mean mg mb A' g L' (dp + 1) → EnvOk env' ⟨fd.scope, [], none, dp + 1, un + 3⟩ L' (adrs news) → SR V w.params g L' h₁ m' news F0 H →
      (∀ fl v h' tk V' m'' news' F'' H', retOf fl = v → SR V' w.params g L' h' m'' news' F'' H' → LR V' (adrs news') F m → Post V' news' H' v → Q' fl { s with heap := h', toks := tk }) → wpAny (model prog w) A' (execs body env') Q' E' { s with heap := h₁, toks := tk₁ })
    (hpost : ∀ v h' tk V' news' H', SR V' w.params h₀ L h' m news' F H' → Post V' news' H' v → Rr (.ok (.ret v)) { s with heap := h', toks := tk }) : codeAny (model prog w) A (.call (.ref f) ⟨vs, []⟩) Rr s := by
  have O := fnOk_is hok
  have X := C.kin.keeps S.fr.keep
  unfold fillA at hfill
  split at hfill
  · cases hfill
  rename_i ds hds
  split at hfill
  · cases hfill
  rename_i hle
  simp only [Bool.and_eq_true] at hle
  obtain ⟨⟨l1, l2⟩, l3⟩ := hle
  have l1 := Nat.le_of_ble_eq_true l1
  have l2 := Nat.le_of_ble_eq_true l2
  have l3 := Nat.le_of_ble_eq_true l3
  split at hfill
  · rename_i rr hrr
    cases hfill
    have hvs := hv.length
    obtain ⟨o, ho, hs⟩ := dfltList_rel hds X
    have hv2 : VRs V (adrs news) (as ++ rr) (vs ++ ds.drop (vs.length + ds.length - fd.params.args.length)) := by
      rw [← hvs]
      exact all2_append hv (dfltsA_rel hrr)
    obtain ⟨b1, b2, b3, b4, b5⟩ := bindA_rel hbind hv2
    obtain ⟨args, kd, dd, hp⟩ := O.params
    have hpa : fd.params.args = args := by rw [hp]
    have hB := binds_plain (s := s) (fd := fd) (vs := vs) hp hs ho (by rw [← hpa]; exact b1) (by rw [← hpa]; exact l1) (by rw [← hpa, ← hvs]; exact l2) (by rw [← hpa, ← hvs]; exact l3)
    rw [← hpa] at hB
    generalize hbs : (fd.params.args.map (·.arg)).zip (vs ++ ds.drop (vs.length + ds.length - fd.params.args.length)) = binds at *
    have hkeys : binds.map (·.1) = fd.params.args.map (·.arg) := by rw [← hbs]; exact List.map_fst_zip (by rw [List.length_map]; exact Nat.le_of_eq b2)
    have hloc : ∀ y ∈ binds, fd.scope.names.lookup y.1 = some .local := fun y hy => by
      have : y.1 ∈ fd.params.args.map (·.arg) := by rw [← hkeys]; exact List.mem_map_of_mem (f := (·.1)) hy
      obtain ⟨a, ha, e⟩ := List.mem_map.mp this
      rw [← e]
      exact allLocal_rel O.loc b3 a ha
    have hlo : ∀ {adr : List Addr}, adrs news = adr → LR V adr F0 (fun y => binds.reverse.lookup y) := fun e k a hk => by
      obtain ⟨x, v, g1, g2, g3⟩ := b4 k a hk
      refine ⟨x, v, g1, lookup_mem ?_ (List.mem_reverse.mpr g2), e ▸ g3⟩
      rw [List.map_reverse, hkeys]
      exact List.pairwise_reverse.mpr (b1.imp Ne.symm)
    obtain ⟨A₀, base, fenv, outer, B, hA, hfr, hke⟩ := C.below
    have eta := fn_eta O.glob O.clos O.bui hb
    rw [eta] at hf hB
    refine code_defG B S.fr C.kin S.nw C.top hA hfr hke hf O.code ?_ hB hloc (fun g L' h₁ FG F' N' B' X' T' GS => ?_) O.co O.gen O.kind (noCell_rel O.cell)
    · have := C.depth
      show A.depth < 1000
      omega
    · have S' : SR V w.params g L' h₁ (fun y => binds.reverse.lookup y) news F0 H := ⟨F', N', S.al, S.nds, hlo rfl⟩
      have C' : Cx K p loose mean mg mb (A.deeper (envOf fd.qualname fd.scope L' f fd.code)) g L' (dp + 1) := by
        refine ⟨⟨A, base, _, _, B', Around.frames_deeper hA, rfl, O.kind⟩, X', T', C.hand, ?_⟩
        have := C.depth
        show A.depth + 1 ≤ _
        omega
      have O' : EnvOk (envOf fd.qualname fd.scope L' f fd.code) ⟨fd.scope, [], none, dp + 1, un + 3⟩ L' (adrs news) :=
        ⟨rfl, O.kind, rfl, rfl, rfl, fun k i h => by cases h⟩
      refine h _ g L' _ _ h₁ _ (fun fl s' => LeaveK h₀ L m g Rr (match fl with | .ret v => v | _ => .none) s') _ rfl C' O' S' fun fl v h' tk V' m'' news' F'' H' hfl S₂ lr po => ?_
      cases hfl
      exact ⟨L', m'', live V'.arch H' news', S₂.fr, S₂.nw, fun F'' N'' => hpost _ h' tk V' news' H' ⟨F'', N'', S₂.al, S₂.nds, lr⟩ po⟩
  · cases hfill
theorem s_callFn (R : RecOk prog w K p loose mean mg mb V r) {f : Addr} {fd : FuncData} {oc : Value} {od : Option Addr} {osl : Array (Option Value)} {as : List AV} {vs : List Value} {c : AV} {Rr : Result → Shared → Prop}
    (hf : K.lookup f = some ⟨oc, od, .func fd, osl⟩) (q : callFn K r dp un H fd as = some (c, H')) (C : Cx K p loose mean mg mb A h₀ L dp) (S : SR V w.params h₀ L s.heap m news F H) (hv : VRs V (adrs news) as vs)
    (h : PostV V w.params h₀ L m F (fun v s' => Rr (.ok (.ret v)) s') s news c H') : codeAny (model prog w) A (.call (.ref f) ⟨vs, []⟩) Rr s := by
  unfold callFn at q
  split at q
  · cases q
  rename_i hok
  split at q
  · rename_i body hb
    split at q
    · cases q
    rename_i as' hfill
    split at q
    · cases q
    rename_i F0 hbind
    split at q
    · cases q
    rename_i hd
    have hd := Nat.le_of_ble_eq_true (and_is hd).1
    refine s_callBody (un := un) (fun V' news' H1 v => V' = V ∧ H1 = H' ∧ adrs news <+: adrs news' ∧ VR V (adrs news') c v) hf hok hb hfill hbind hd C S hv (fun A' g L' m' env' h₁ tk₁ Q' E' hu' C' O' S' hq => ?_) fun v h' tk V' news' H1 S' po => ?_
    · split at q
      · rename_i v F1 H1 hbl
        cases q
        refine s_bl R C' O' S' hbl fun fl h' tk m'' news' S₂ hp hfl => ?_
        obtain ⟨u, rfl, hu⟩ := hfl
        exact hq _ u h' tk V m'' news' F1 _ rfl S₂ (S.lo.mono hp) ⟨rfl, rfl, hp, hu⟩
      · rename_i F1 H1 hbl
        cases q
        refine s_bl R C' O' S' hbl fun fl h' tk m'' news' S₂ hp hfl => ?_
        cases hfl
        exact hq _ .none h' tk V m'' news' F1 _ rfl S₂ (S.lo.mono hp) ⟨rfl, rfl, hp, rfl⟩
      · cases q
    · obtain ⟨rfl, rfl, hp, hu⟩ := po
      exact h v h' tk news' S' hp hu
  · cases q
end
end Mine
end EvJ_text
section EvK_text
open PySem PySem.W PyProof.Rows PySem.Calls PySem.Spec
set_option Elab.async false
set_option maxRecDepth 100000
set_option maxHeartbeats 4000000
set_option linter.unusedVariables false
namespace Mine
section
variable {prog : Program} {w : World} {K : Frag} {p : Program} {loose : List Str} {mean : ExcName → Option Value} {mg mb : Str → Option Value} {V : Vars} {r : Rec}
  {A : Around} {h₀ : Heap} {L : Addr} {dp un : Nat} {E : Value → Shared → Prop} {s : Shared} {m : Str → Option Value} {news : List (Addr × Obj)} {F F' : Lo} {H H' : He} {env : Env} {ei : EI}

theorem findBy_some {P : Params} {adr : List Addr} {es : Lo} {des : List DictEntry} {k : Nat} {x : Str} {av : AV} (h : All2 (ER V adr P) es des) (hx : tbl[k]? = some x) (e : lk es k = some av) : ∃ v, findBy Value.isStrOf des.toArray x = some v ∧ VR V adr av v := by
  induction h with
  | nil => cases e
  | @cons p d es r h1 h ih =>
    obtain ⟨j, u⟩ := p
    obtain ⟨y, t, h1, hk, _, hv⟩ := h1
    unfold lk at e
    have q : Value.isStrOf x d.key = Nat.beq j k := by rw [hk]; exact strEq_is h1 hx
    unfold findBy at ih ⊢
    rw [List.find?_toArray] at ih ⊢
    rw [List.find?_cons, q]
    cases z : Nat.beq j k with
    | true => rw [z] at e; cases e; exact ⟨_, rfl, hv⟩
    | false => rw [z] at e; exact ih e
theorem findBy_none {P : Params} {adr : List Addr} {es : Lo} {des : List DictEntry} {k : Nat} {x : Str} (h : All2 (ER V adr P) es des) (hx : tbl[k]? = some x) (e : lk es k = none) : findBy Value.isStrOf des.toArray x = none := by
  induction h with
  | nil => rfl
  | @cons p d es r h1 h ih =>
    obtain ⟨j, u⟩ := p
    obtain ⟨y, t, h1, hk, _, hv⟩ := h1
    unfold lk at e
    have q : Value.isStrOf x d.key = Nat.beq j k := by rw [hk]; exact strEq_is h1 hx
    unfold findBy at ih ⊢
    rw [List.find?_toArray] at ih ⊢
    rw [List.find?_cons, q]
    cases z : Nat.beq j k with
    | true => rw [z] at e; cases e
    | false => rw [z] at e; exact ih e
theorem keysOf_er {adr : List Addr} {es : Lo} {des : List DictEntry} (h : All2 (ER V adr w.params) es des) : KeysOf (strKind prog w) des.toArray := by
  induction h with
  | nil => exact fun e h => by simp at h
  | @cons p d es r h1 h ih =>
    obtain ⟨y, t, h1, hk, hh, hv⟩ := h1
    intro e he
    rw [List.mem_toArray] at he
    rcases List.mem_cons.mp he with rfl | he
    · exact ⟨y, by rw [hk]; show (y == y) = true; simp, hh⟩
    · exact ih e (by rw [List.mem_toArray]; exact he)
theorem mapOf_er {h : Heap} {adr : List Addr} {x : Addr} {es : Lo} {des : List DictEntry} {n : Nat} (hx : h.get? x = some (dictOf des n)) (a : All2 (ER V adr w.params) es des) : h.MapOf (strKind prog w) x (fun k => findBy Value.isStrOf des.toArray k) :=
  ⟨_, _, _, hx, ⟨rfl, rfl, rfl⟩, rfl, keysOf_er a, fun _ => rfl⟩

theorem notModules (S : SR V w.params h₀ L s.heap m news F H) {x : Addr} {o : Obj} (hm : (x, o) ∈ live V.arch H news) : (x == sysModules) = false :=
  beq_eq_false_iff_ne.mpr fun z => S.nm (by rw [← z]; exact List.mem_map_of_mem (f := (·.1)) hm)
theorem s_dget {i : Nat} {es : Lo} {k : Nat} {x : Addr} {kv : Value} {c : AV} {Q : Value → Shared → Prop} (C : Cx K p loose mean mg mb A h₀ L dp) (S : SR V w.params h₀ L s.heap m news F H)
    (hi : H[i]? = some (.dict es)) (hx : (adrs news)[i]? = some x) (hk : VR V (adrs news) (.str k) kv) (e : c = (match lk es k with | some v => v | none => .none)) (h : ∀ v tk, VR V (adrs news) c v → Q v { s with toks := tk }) :
    wpAny (model prog w) A (call (.builtin "dict.get") [.ref x, kv]) Q E s := by
  obtain ⟨o, g1, g2, des, n, rfl, g3⟩ := S.at hi hx
  obtain ⟨y, t, hy, rfl⟩ := hk
  have hm := mapOf_er (prog := prog) g2 g3
  have nm := notModules S (mem_live hi g1 rfl)
  refine call_meetsIn _root_.PySem.F.slot_dict_get hm.typeIs _root_.PySem.F.entry_dict_get (_root_.PySem.F.args_dict_get_2 _ _) (meets_dict_get (strKind prog w) x (key := .str y t) (k := y) (by show (y == y) = true; simp) nm) ⟨_, hm, ?_⟩
  cases q : lk es k with
  | some av =>
    obtain ⟨v, h1, h2⟩ := findBy_some g3 hy q
    rw [q] at e
    subst e
    show Q ((findBy Value.isStrOf des.toArray y).getD .none) _
    rw [h1]
    exact h v _ h2
  | none =>
    rw [q] at e
    subst e
    show Q ((findBy Value.isStrOf des.toArray y).getD .none) _
    rw [findBy_none g3 hy q]
    exact h .none _ rfl

theorem s_append {i : Nat} {us : List AV} {x : Addr} {av : AV} {v : Value} {Q : Value → Shared → Prop} (S : SR V w.params h₀ L s.heap m news F H)
    (hi : H[i]? = some (.list us)) (hx : (adrs news)[i]? = some x) (hv : VR V (adrs news) av v) (hl : us.length < 10000) (e : setH H i (.list (us ++ [av])) = some H') (h : PostV V w.params h₀ L m F Q s news .none H') :
    wpAny (model prog w) A (call (.builtin "list.append") [.ref x, v]) Q E s := by
  obtain ⟨xs, n, g1, g2, g3, g4⟩ := listAt S hi hx
  obtain ⟨rfl, _⟩ := setH_eq e
  refine append_K (its := xs.toArray) (n := n) S.fr S.nw (upd_of (a := .list us) (b := .list (us ++ [av])) rfl rfl S.nd hi g1) (fun h' F' N' => ?_) (by rw [sizeLine_eq]; have := g3.length; simp; omega)
  refine h .none h' s.toks _ (S.set g1 hi F' N' ⟨xs ++ [v], n + 1, ?_, all2_append g3 (.cons hv .nil)⟩) (by rw [adrs_set g1]; exact List.prefix_refl _) rfl
  simp

theorem s_appendP {i j : Nat} {l : Option Lin} {us : List AV} {x : Addr} {av : AV} {v : Value} {Q : Value → Shared → Prop} (S : SR V w.params h₀ L s.heap m news F H)
    (hi : H[i]? = some (.plist j l us)) (hx : (adrs news)[i]? = some x) (hv : VR V (adrs news) av v) (hl : us.length < 10000) (e : setH H i (.plist j l (us ++ [av])) = some H') (h : PostV V w.params h₀ L m F Q s news .none H') :
    wpAny (model prog w) A (call (.builtin "list.append") [.ref x, v]) Q E s := by
  obtain ⟨xs, n, g1, g2, g3, g4, g5, g6⟩ := plistAt S hi hx
  obtain ⟨rfl, _⟩ := setH_eq e
  refine append_K (its := (V.pre j ++ xs).toArray) (n := n) S.fr S.nw (upd_of (a := .plist j l us) (b := .plist j l (us ++ [av])) rfl rfl S.nd hi g1) (fun h' F' N' => ?_) (by rw [sizeLine_eq]; have := g3.length; simp; omega)
  refine h .none h' s.toks _ (S.set g1 hi F' N' ⟨xs ++ [v], n + 1, ?_, all2_append g3 (.cons hv .nil), g5, g6⟩) (by rw [adrs_set g1]; exact List.prefix_refl _) rfl
  simp

/-! methods -/
noncomputable def MethR (V : Vars) (adr : List Addr) (ov : Value) : Meth → Value → List Value → Prop
  | .fn f, v, l => v = .ref f ∧ l = [ov]
  | .own a, v, l => VR V adr a v ∧ l = []
  | .append, v, l => v = .builtin "list.append" ∧ l = [ov]
  | .dget, v, l => v = .builtin "dict.get" ∧ l = [ov]
theorem methIn_is {C : Addr} {a : Str} {f : Addr} (h : methIn K C a = some f) : plainGet K C a = true ∧ findIn K (.ref C) a = some (some (.ref f)) ∧ isFn K (.ref f) = true := by
  unfold methIn at h
  split at h
  · cases h
  · rename_i h1
    split at h
    · rename_i g h2
      split at h
      · rename_i h3
        cases h
        exact ⟨h1, h2, h3⟩
      · cases h
    · cases h
theorem okApp : okStr "append" = true ∧ okStr "get" = true := by constructor <;> decide +kernel
theorem sid_known {a x : Str} (hx : okStr x = true) (h : Nat.beq (sid a) (sid x) = true) : a = x := sid_inj hx (Nat.eq_of_beq_eq_true h)
theorem s_getMethod {o : AV} {a : Str} {mth : Meth} {ov : Value} {pl : Sem Bool} {Q : Value × List Value → Shared → Prop} (C : Cx K p loose mean mg mb A h₀ L dp) (S : SR V w.params h₀ L s.heap m news F H)
    (ho : VR V (adrs news) o ov) (q : findMeth K H o a = some mth) (h : ∀ v l tk, MethR V (adrs news) ov mth v l → Q (v, l) { s with toks := tk }) : wpAny (model prog w) A (getMethod ov a pl) Q E s := by
  unfold findMeth at q; try simp only [getH_eq] at q
  split at q
  · rename_i i
    obtain ⟨x, hx, rfl⟩ := ho
    split at q
    · rename_i C' d h1
      split at q
      · rename_i es h2
        split at q
        · rename_i ha
          obtain ⟨dx, des, n, g1, g2, g3, I⟩ := inst_at S h1 h2 hx
          split at q
          · rename_i hn
            split at q
            · rename_i f hf
              cases q
              obtain ⟨f1, f2, f3⟩ := methIn_is hf
              exact method_inst S.fr C.kin I f1 f2 f3 (getL_none g3 ha hn) (h _ _ s.toks ⟨rfl, rfl⟩)
            · cases q
          · rename_i v hv
            split at q
            · rename_i hf
              cases q
              obtain ⟨f1, f2, f3⟩ := fieldOk_is hf
              have hg : getA K H (.ref i) a = some v := by
                unfold getA
                dsimp only
                simp only [getH_eq]
                rw [h1]
                dsimp only
                rw [hf]
                dsimp only
                rw [h2]
                dsimp only
                rw [ha]
                exact hv
              exact method_usual (C.kin.keeps S.fr.keep) I (plainGet_of f1).1 (plainGet_of f1).2 f3 rfl (s_getA (o := .ref i) C S ⟨x, hx, rfl⟩ hg fun u hu => h u [] _ ⟨hu, rfl⟩)
            · cases q
        · cases q
      · cases q
    · rename_i us h1
      split at q
      · rename_i ha
        cases q
        have := sid_known okApp.1 ha
        subst this
        obtain ⟨xs, n, g1, g2, g3, g4⟩ := listAt S h1 hx
        exact getMethod_builtin g4.typeIs _root_.PySem.F.plainAttrs_list _root_.PySem.F.slot_list_append _root_.PySem.F.type_list_append (fun b e => by cases e; exact ⟨_, g2, rfl⟩) (h _ _ s.toks ⟨rfl, rfl⟩)
      · cases q
    · rename_i j l us h1
      split at q
      · rename_i ha
        cases q
        have := sid_known okApp.1 ha
        subst this
        obtain ⟨xs, n, g1, g2, g3, g4, _⟩ := plistAt S h1 hx
        exact getMethod_builtin g4.typeIs _root_.PySem.F.plainAttrs_list _root_.PySem.F.slot_list_append _root_.PySem.F.type_list_append (fun b e => by cases e; exact ⟨_, g2, rfl⟩) (h _ _ s.toks ⟨rfl, rfl⟩)
      · cases q
    · rename_i es h1
      split at q
      · rename_i ha
        cases q
        have := sid_known okApp.2 ha
        subst this
        obtain ⟨o, g1, g2, des, n, rfl, g3⟩ := S.at h1 hx
        exact getMethod_builtin (mapOf_er (prog := prog) g2 g3).typeIs _root_.PySem.F.plainAttrs_dict _root_.PySem.F.slot_dict_get _root_.PySem.F.type_dict_get (fun b e => by cases e; exact ⟨_, g2, rfl⟩) (h _ _ s.toks ⟨rfl, rfl⟩)
      · cases q
    · cases q
  · cases q
end
end Mine
end EvK_text
section EvL_text
open PySem PySem.W PyProof.Rows PySem.Calls PySem.Spec
set_option Elab.async false
set_option maxRecDepth 100000
set_option maxHeartbeats 4000000
set_option linter.unusedVariables false
namespace Mine
section
variable {prog : Program} {w : World} {K : Frag} {p : Program} {loose : List Str} {mean : ExcName → Option Value} {mg mb : Str → Option Value} {V : Vars} {r : Rec}
  {A : Around} {h₀ : Heap} {L : Addr} {dp un : Nat} {E : Value → Shared → Prop} {s : Shared} {m : Str → Option Value} {news : List (Addr × Obj)} {F F' : Lo} {H H' : He} {env : Env} {ei : EI}

theorem inv_kref {a : Addr} {as : List AV} {c : AV} (q : callV K r dp un H (.kref a) as = some (c, H')) :
    (∃ oc od fd sl, K.lookup a = some ⟨oc, od, .func fd, sl⟩ ∧ callFn K r dp un H fd as = some (c, H')) ∨
    (∃ oc od cd sl fI oc' od' fd sl', K.lookup a = some ⟨oc, od, .cls cd, sl⟩ ∧ makesIn K a = true ∧ keepIn K (.ref a) = true ∧ findIn K (.ref a) "__init__" = some (some (.ref fI)) ∧ isFn K (.ref fI) = true ∧ K.lookup fI = some ⟨oc', od', .func fd, sl'⟩ ∧
      callFn K r (dp + 2) (un + typeCallUnits) (pushH (pushH H (.dict [])) (.inst a H.length)) fd (.ref (H.length + 1) :: as) = some (.none, H') ∧ c = .ref (H.length + 1)) := by
  unfold callV at q; dsimp only at q; try simp only [getH_eq] at q
  split at q
  · rename_i h1
    exact .inl ⟨_, _, _, _, h1, q⟩
  · rename_i h1
    split at q
    · cases q
    · rename_i h2
      split at q
      · rename_i fI h3
        split at q
        · cases q
        · rename_i h4
          split at q
          · rename_i h5
            split at q
            · rename_i H1 h6
              cases q
              have h2 := Bool.and_eq_true_iff.mp h2
              exact .inr ⟨_, _, _, _, fI, _, _, _, _, h1, h2.1, h2.2, h3, h4, h5, h6, rfl⟩
            · cases q
          · cases q
      · cases q
  · cases q
theorem callV_keeps {av : AV} {fv : Value} {as : List AV} {c : AV} {adr : List Addr} (ha : VR V adr av fv) (q : callV K r dp un H av as = some (c, H')) : KeepsOk K fv := by
  cases av with
  | kref a =>
    cases ha
    refine keeps_kref ?_
    rcases inv_kref q with ⟨_, _, _, _, h1, _⟩ | ⟨_, _, _, _, _, _, _, _, _, _, _, h2, _⟩
    · unfold keepIn
      dsimp only
      rw [h1]
    · exact h2
  | bi b => cases ha; exact keeps_bi b
  | none => unfold callV at q; cases q
  | bool b => unfold callV at q; cases q
  | int b => unfold callV at q; cases q
  | str b => unfold callV at q; cases q
  | ref b => unfold callV at q; cases q
  | any => unfold callV at q; cases q

theorem weight_type_call (C : Addr) (pos : List Value) (kw : List (Str × Value)) : (Code.builtin "type.__call__" ⟨.ref C :: pos, kw⟩).weight = 1 := rfl
theorem s_callV (R : RecOk prog w K p loose mean mg mb V r) {av : AV} {fv : Value} {as : List AV} {vs : List Value} {c : AV} {Q : Value → Shared → Prop}
    (C : Cx K p loose mean mg mb A h₀ L dp) (S : SR V w.params h₀ L s.heap m news F H) (ha : VR V (adrs news) av fv) (hv : VRs V (adrs news) as vs) (q : callV K r dp un H av as = some (c, H'))
    (h : PostV V w.params h₀ L m F Q s news c H') : wpAny (model prog w) A (call fv vs) Q E s := by
  cases av with
  | bi b => cases ha; exact s_callB C S hv q h
  | kref a =>
    cases ha
    rcases inv_kref q with ⟨_, _, fd, _, h1, q'⟩ | ⟨_, _, _, _, fI, _, _, fd, _, h1, h2, h3, h4, h5, h6, q', rfl⟩
    · exact wpAny_call (s_callFn R h1 q' C S hv h)
    · refine call_cls S.fr C.kin S.nw h2 h4 h5 fun x dx h' F' N' hlt hdx => ?_
      have N1 : News h₀ L h' ((dx, dictOf [] 0) :: live V.arch H news) := fun z hz => N' z (List.mem_cons_of_mem _ hz)
      obtain ⟨S1, p1, e1⟩ := S.push (a := .dict []) F' N1 hlt ⟨[], 0, rfl, .nil⟩
      have N2 : News h₀ L h' ((x, instObj a dx) :: live V.arch (pushH H (.dict [])) (news ++ [(dx, dictOf [] 0)])) := fun z hz => by
        rcases List.mem_cons.mp hz with rfl | hz
        · exact N' _ List.mem_cons_self
        · exact S1.nw z hz
      obtain ⟨S2, p2, e2⟩ := SR.push (s := { s with heap := h' }) (a := .inst a H.length) S1 F' N2 (fun z hz => by
        rw [pushH_eq] at hz
        rw [live_snoc rfl S.len] at hz
        rcases live_in.mp hz with hz | hz
        · rw [hz]; exact hdx
        · exact Nat.lt_trans (hlt z hz) hdx) ⟨dx, e1, rfl⟩
      have el : (pushH H (.dict [])).length = H.length + 1 := by rw [pushH_eq]; simp
      rw [el] at e2
      have C' : Cx K p loose mean mg mb (A.under (.builtin "type.__call__" ⟨.ref a :: vs, []⟩)) h₀ L (dp + 2) := by
        obtain ⟨A₀, base, fenv, outer, B, hA, hfr, hke⟩ := C.below
        refine ⟨⟨A₀, base, fenv, outer, B, ?_, hfr, hke⟩, C.kin, C.top, C.hand, ?_⟩
        · exact (show (A.under (.builtin "type.__call__" ⟨.ref a :: vs, []⟩)).frames = A.frames from rfl).trans hA
        · show A.depth + (Code.builtin "type.__call__" ⟨.ref a :: vs, []⟩).weight ≤ _
          rw [weight_type_call]
          have := C.depth
          omega
      refine s_callFn (s := { s with heap := h' }) R h6 q' C' S2 (.cons ⟨x, e2, rfl⟩ (hv.mono (p1.trans p2))) fun v h'' tk news' S3 hp hvv => ?_
      cases hvv
      exact ⟨rfl, h (.ref x) h'' tk news' S3 ((p1.trans p2).trans hp) ⟨x, get_mono hp e2, rfl⟩⟩
  | none => unfold callV at q; cases q
  | bool b => unfold callV at q; cases q
  | int b => unfold callV at q; cases q
  | str b => unfold callV at q; cases q
  | ref b => unfold callV at q; cases q
  | any => unfold callV at q; cases q

theorem inv_append {o : AV} {as : List AV} {c : AV} (q : callM K r dp un H o .append as = some (c, H')) : ∃ i v, o = .ref i ∧ as = [v] ∧ c = .none ∧
    ((∃ us, H[i]? = some (.list us) ∧ us.length < 10000 ∧ setH H i (.list (us ++ [v])) = some H') ∨ ∃ j l us, H[i]? = some (.plist j l us) ∧ us.length < 10000 ∧ setH H i (.plist j l (us ++ [v])) = some H') := by
  unfold callM at q; dsimp only at q; try simp only [getH_eq] at q
  split at q
  · rename_i i v
    split at q
    · rename_i us hu
      split at q
      · rename_i hl
        split at q
        · rename_i H1 h1
          cases q
          exact ⟨i, v, rfl, rfl, rfl, .inl ⟨us, hu, Nat.le_of_ble_eq_true hl, h1⟩⟩
        · cases q
      · cases q
    · rename_i j l us hu
      split at q
      · rename_i hl
        split at q
        · rename_i H1 h1
          cases q
          exact ⟨i, v, rfl, rfl, rfl, .inr ⟨j, l, us, hu, Nat.le_of_ble_eq_true hl, h1⟩⟩
        · cases q
      · cases q
    · cases q
  · cases q
theorem inv_dget {o : AV} {as : List AV} {c : AV} (q : callM K r dp un H o .dget as = some (c, H')) : ∃ i k es, o = .ref i ∧ as = [.str k] ∧ H[i]? = some (.dict es) ∧ H' = H ∧ c = (match lk es k with | some v => v | none => .none) := by
  unfold callM at q; dsimp only at q; try simp only [getH_eq] at q
  split at q
  · rename_i i k
    split at q
    · rename_i es hu
      split at q
      · rename_i v hl
        cases q
        exact ⟨i, k, es, rfl, rfl, hu, rfl, by rw [hl]⟩
      · rename_i hl
        cases q
        exact ⟨i, k, es, rfl, rfl, hu, rfl, by rw [hl]⟩
    · cases q
  · cases q
theorem callM_keeps {mth : Meth} {o : AV} {ov fv : Value} {l : List Value} {as : List AV} {c : AV} {adr : List Addr} (ha : MethR V adr ov mth fv l) (q : callM K r dp un H o mth as = some (c, H')) : KeepsOk K fv := by
  cases mth with
  | fn f =>
    obtain ⟨rfl, rfl⟩ := ha
    exact callV_keeps (V := V) (adr := adr) (av := .kref f) rfl q
  | own v => exact callV_keeps ha.1 q
  | append => rw [ha.1]; exact keeps_built _
  | dget => rw [ha.1]; exact keeps_built _
theorem s_callM (R : RecOk prog w K p loose mean mg mb V r) {mth : Meth} {o : AV} {ov fv : Value} {l : List Value} {as : List AV} {vs : List Value} {c : AV} {Q : Value → Shared → Prop}
    (C : Cx K p loose mean mg mb A h₀ L dp) (S : SR V w.params h₀ L s.heap m news F H) (ho : VR V (adrs news) o ov) (ha : MethR V (adrs news) ov mth fv l) (hv : VRs V (adrs news) as vs) (q : callM K r dp un H o mth as = some (c, H'))
    (h : PostV V w.params h₀ L m F Q s news c H') : wpAny (model prog w) A (call fv (l ++ vs)) Q E s := by
  cases mth with
  | fn f =>
    obtain ⟨rfl, rfl⟩ := ha
    exact s_callV R C S (av := .kref f) rfl (.cons ho hv) q h
  | own v =>
    obtain ⟨h1, rfl⟩ := ha
    exact s_callV R C S h1 hv q h
  | append =>
    obtain ⟨rfl, rfl⟩ := ha
    obtain ⟨i, v, rfl, rfl, rfl, ⟨us, h1, h2, h3⟩ | ⟨j, l, us, h1, h2, h3⟩⟩ := inv_append q
    · obtain ⟨x, hx, rfl⟩ := ho
      obtain ⟨u, rfl, hu⟩ := vrs1 hv
      exact s_append S h1 hx hu h2 h3 h
    · obtain ⟨x, hx, rfl⟩ := ho
      obtain ⟨u, rfl, hu⟩ := vrs1 hv
      exact s_appendP S h1 hx hu h2 h3 h
  | dget =>
    obtain ⟨rfl, rfl⟩ := ha
    obtain ⟨i, k, es, rfl, rfl, h1, rfl, rfl⟩ := inv_dget q
    obtain ⟨x, hx, rfl⟩ := ho
    obtain ⟨u, rfl, hu⟩ := vrs1 hv
    exact s_dget C S h1 hx hu rfl fun v tk hv => h v s.heap tk news S (List.prefix_refl _) hv
theorem MethR.mono {adr adr' : List Addr} (hp : adr <+: adr') {ov : Value} {mth : Meth} {v : Value} {l : List Value} (h : MethR V adr ov mth v l) : MethR V adr' ov mth v l := by
  cases mth with
  | own a => exact ⟨h.1.mono hp, h.2⟩
  | _ => exact h

theorem s_CallMeth (R : RecOk prog w K p loose mean mg mb V r) {o : Expr} {a : Str} {ap pos : Pos} {args : List Expr} {H1 H2 : He} {ov : AV} {mth : Meth} {as : List AV} {c : AV} {Q : Value → Shared → Prop}
    (C : Cx K p loose mean mg mb A h₀ L ei.dp) (O : EnvOk env ei L (adrs news)) (S : SR V w.params h₀ L s.heap m news F H) (hb : baseOk o = true) (hn : args.length < 20) (hl : Nat.beq ap.endLine pos.line = true)
    (q1 : r.ev ei F H o = some (ov, H1)) (q2 : findMeth K H1 ov a = some mth) (q3 : evs r ei F H1 args = some (as, H2)) (q4 : callM K r ei.dp ei.un H2 ov mth as = some (c, H')) (h : PostV V w.params h₀ L m F Q s news c H') :
    wpAny (model prog w) A (eval (.Call (.Attribute o a ap) args [] pos) env) Q E s := by
  have hbase : attributeBase o a env (eval o env) = eval o env := by cases o <;> first | rfl | cases hb
  have hform : methodCallForm (args.length + ([] : List Keyword).length) (backTo pos (starEach args env)) (backToKw pos (keywordEach [] env)) = true := by
    unfold methodCallForm
    have h1 := evs_plain (env := env) (pos := pos) q3
    have h2 : (backTo pos (starEach args env)).all (fun x => !x.1) = true := by
      rw [List.all_eq_not_any_not]
      simpa using h1
    rw [h2]
    simp [backToKw, keywordEach]
    omega
  have hpos : methodCallPos true o env ap pos = pure pos := by unfold methodCallPos; simp [Nat.eq_of_beq_eq_true hl]
  rw [arm_eval_Call, hbase]
  refine wpAny_bind (R.ev q1 C O S fun v h' tk news' S' hp hv => ?_)
  refine wpAny_bind (wpAny_standAt ?_)
  unfold methodCall
  rw [hform]
  refine wpAny_bind (wpAny_holding ?_)
  unfold calleeOf
  rw [if_pos rfl]
  refine s_getMethod C S' hv q2 fun fv l tk' hm => ?_
  refine wpAny_bind (wpAny_of_eq hpos ?_)
  refine s_callWith R C (O.mono hp) S' (callM_keeps hm q4) q3 fun vs h'' tk'' news'' S'' hp' hvs => ?_
  exact s_callM R C S'' (hv.mono hp') (hm.mono hp') hvs q4 fun v h3 tk3 news3 S3 hp3 hv3 => h v h3 tk3 news3 S3 ((hp.trans hp').trans hp3) hv3

theorem s_CallName (R : RecOk prog w K p loose mean mg mb V r) {x : Str} {xp pos : Pos} {args : List Expr} {H1 H2 : He} {fv : AV} {as : List AV} {c : AV} {Q : Value → Shared → Prop}
    (C : Cx K p loose mean mg mb A h₀ L ei.dp) (O : EnvOk env ei L (adrs news)) (S : SR V w.params h₀ L s.heap m news F H)
    (q1 : r.ev ei F H (.Name x xp) = some (fv, H1)) (q3 : evs r ei F H1 args = some (as, H2)) (q4 : callV K r ei.dp ei.un H2 fv as = some (c, H')) (h : PostV V w.params h₀ L m F Q s news c H') :
    wpAny (model prog w) A (eval (.Call (.Name x xp) args [] pos) env) Q E s := by
  refine Call_ (R.ev q1 C O S fun v h' tk news' S' hp hv => ?_)
  refine s_callWith R C (O.mono hp) S' (callV_keeps hv q4) q3 fun vs h'' tk'' news'' S'' hp' hvs => ?_
  exact s_callV R C S'' (hv.mono hp') hvs q4 fun v h3 tk3 news3 S3 hp3 hv3 => h v h3 tk3 news3 S3 ((hp.trans hp').trans hp3) hv3
end
end Mine
end EvL_text
section EvM_text
open PySem PySem.W PyProof.Rows PySem.Calls PySem.Spec
set_option Elab.async false
set_option maxRecDepth 100000
set_option maxHeartbeats 4000000
set_option linter.unusedVariables false
namespace Mine
noncomputable def KR (V : Vars) (adr : List Addr) (p : Nat × AV) (q : Str × Value) : Prop := tbl[p.1]? = some q.1 ∧ VR V adr p.2 q.2
theorem KR.mono {V : Vars} {adr adr' : List Addr} (hp : adr <+: adr') {p : Nat × AV} {q : Str × Value} (h : KR V adr p q) : KR V adr' p q := ⟨h.1, h.2.mono hp⟩
theorem stored_cons_ne {y x : Str} {u v : Value} {t : List (Str × Value)} (h : ¬ y = x) : stored ((y, u) :: t) x v = (y, u) :: stored t x v := by
  unfold stored
  rw [List.any_cons]
  simp only [h, decide_false, Bool.false_or, List.map_cons, if_false]
  split <;> rfl
theorem stored_cons_eq {x : Str} {u v : Value} {t : List (Str × Value)} (h : x ∉ t.map (·.1)) : stored ((x, u) :: t) x v = (x, v) :: t := by
  unfold stored
  rw [List.any_cons]
  simp only [decide_true, Bool.true_or, if_true, List.map_cons]
  congr 1
  refine (List.map_congr_left fun kv hk => ?_).trans (List.map_id _)
  rw [if_neg fun e => h (by rw [← e]; exact List.mem_map_of_mem (f := (·.1)) hk)]
  rfl
theorem stored_kr {V : Vars} {adr : List Addr} {k : Nat} {x : Str} {a : AV} {v : Value} (hk : tbl[k]? = some x) (hv : VR V adr a v) {es : Lo} {kvs : List (Str × Value)} (h : All2 (KR V adr) es kvs) (nd : (kvs.map (·.1)).Nodup) : All2 (KR V adr) (put es k a) (stored kvs x v) := by
  induction h with
  | nil => exact .cons ⟨hk, hv⟩ .nil
  | @cons p q es kvs h1 h ih =>
    obtain ⟨j, b⟩ := p
    obtain ⟨y, u⟩ := q
    have nd' := List.nodup_cons.mp nd
    have h0 : tbl[j]? = some y := h1.1
    unfold put
    cases e : Nat.beq j k with
    | true =>
      have := Nat.eq_of_beq_eq_true e
      subst this
      have : y = x := Option.some.inj (h0.symm.trans hk)
      subst this
      rw [stored_cons_eq nd'.1]
      exact .cons ⟨hk, hv⟩ h
    | false =>
      have : ¬ y = x := fun q => by
        subst q
        rw [tbl_inj h0 hk, Nat.beq_refl] at e
        cases e
      rw [stored_cons_ne this]
      exact .cons h1 (ih nd'.2)
theorem stored_keys_mem {x y : Str} {v : Value} : ∀ {kvs : List (Str × Value)}, y ∈ (stored kvs x v).map (·.1) → y = x ∨ y ∈ kvs.map (·.1) := fun {kvs} h => by
  unfold stored at h
  split at h
  · rw [List.map_map] at h
    obtain ⟨kv, h1, h2⟩ := List.mem_map.mp h
    refine .inr ?_
    have : kv.1 = y := by
      rw [← h2]
      show kv.1 = (if kv.1 = x then (kv.1, v) else kv).1
      split <;> rfl
    rw [← this]
    exact List.mem_map_of_mem (f := (·.1)) h1
  · rw [List.map_append] at h
    rcases List.mem_append.mp h with h | h
    · exact .inr h
    · exact .inl (by simpa using h)
theorem stored_nodup {x : Str} {v : Value} : ∀ {kvs : List (Str × Value)}, (kvs.map (·.1)).Nodup → ((stored kvs x v).map (·.1)).Nodup
  | [], _ => by unfold stored; simp
  | (y, u) :: t, nd => by
    have nd' := List.nodup_cons.mp nd
    by_cases e : y = x
    · subst e
      rw [stored_cons_eq nd'.1]
      exact nd
    · rw [stored_cons_ne e]
      refine List.nodup_cons.mpr ⟨fun h => ?_, stored_nodup nd'.2⟩
      rcases stored_keys_mem h with h | h
      · exact e h
      · exact nd'.1 h
section
variable {prog : Program} {w : World} {K : Frag} {p : Program} {loose : List Str} {mean : ExcName → Option Value} {mg mb : Str → Option Value} {V : Vars} {r : Rec}
  {A : Around} {h₀ : Heap} {L : Addr} {dp un : Nat} {E : Value → Shared → Prop} {s : Shared} {m : Str → Option Value} {news : List (Addr × Obj)} {F F' : Lo} {H H' : He} {env : Env} {ei : EI}
theorem pairs_er {adr : List Addr} {es : Lo} {kvs : List (Str × Value)} {des : List DictEntry} (h : All2 (KR V adr) es kvs) (hp : Pairs (strKind prog w) des kvs) (hk : ∀ e ∈ des, ∃ k, (strKind prog w).is k e.key = true ∧ e.hash = (strKind prog w).hash k) : All2 (ER V adr w.params) es des := by
  induction hp generalizing es with
  | nil => cases h; exact .nil
  | @cons e kv des kvs p1 p2 p3 ih =>
    cases h with
    | @cons ka _ es _ h1 h =>
      refine .cons ?_ (ih h fun e he => hk e (List.mem_cons_of_mem _ he))
      obtain ⟨t, ht⟩ := Value.isStrOf_shape p1
      obtain ⟨y, y1, y2⟩ := hk e List.mem_cons_self
      have : y = kv.1 := Value.isStrOf_inj _ _ _ y1 p1
      exact ⟨y, t, this ▸ h1.1, this ▸ ht, y2, by rw [p2]; exact h1.2⟩
theorem isDict_er {adr : List Addr} {o : Obj} {es : Lo} {kvs : List (Str × Value)} (h : o.IsDictOf (strKind prog w) kvs) (hk : All2 (KR V adr) es kvs) : ∃ des n, o = dictOf des n ∧ All2 (ER V adr w.params) es des := by
  obtain ⟨des, ep, hx, hd, hK, hP, _⟩ := h
  obtain ⟨c, d, dt, sl⟩ := o
  obtain ⟨h1, h2, h3⟩ := hx
  dsimp only at h1 h2 h3 hd
  subst h1 h2 h3 hd
  exact ⟨des.toList, ep, rfl, pairs_er hk hP fun e he => hK e (by simpa using he)⟩
theorem lk_none_of {es : Lo} {kvs : List (Str × Value)} {adr : List Addr} {k : Nat} {x : Str} (h : All2 (KR V adr) es kvs) (hx : tbl[k]? = some x) (e : lk es k = none) : x ∉ kvs.map (·.1) := by
  induction h with
  | nil => exact List.not_mem_nil
  | @cons p q es kvs h1 h ih =>
    obtain ⟨j, a⟩ := p
    obtain ⟨y, u⟩ := q
    unfold lk at e
    cases z : Nat.beq j k with
    | true => rw [z] at e; cases e
    | false =>
      rw [z] at e
      intro hm
      rcases List.mem_cons.mp hm with q | hm
      · have : y = x := q.symm
        subst this
        have h0 : tbl[j]? = some y := h1.1
        rw [tbl_inj h0 hx, Nat.beq_refl] at z
        cases z
      · exact ih e hm
theorem er_pairs {adr : List Addr} {es : Lo} {des : List DictEntry} (h : All2 (ER V adr w.params) es des) (e : ndK es = true) : ∃ kvs, All2 (KR V adr) es kvs ∧ Pairs (strKind prog w) des kvs ∧ (kvs.map (·.1)).Nodup := by
  induction h with
  | nil => exact ⟨[], .nil, .nil, List.nodup_nil⟩
  | @cons p d es des h1 h ih =>
    obtain ⟨k, a⟩ := p
    obtain ⟨x, t, h1, hk, hh, hv⟩ := h1
    unfold ndK at e
    cases q : lk es k with
    | none =>
      rw [q] at e
      obtain ⟨kvs, g1, g2, g3⟩ := ih e
      exact ⟨(x, d.val) :: kvs, .cons ⟨h1, hv⟩ g1, .cons (by rw [hk]; show (x == x) = true; simp) rfl g2, List.nodup_cons.mpr ⟨lk_none_of g1 h1 q, g3⟩⟩
    | some _ => rw [q] at e; cases e
theorem er_isDict {adr : List Addr} {es : Lo} {des : List DictEntry} {n : Nat} (h : All2 (ER V adr w.params) es des) (e : ndK es = true) : ∃ kvs, (dictOf des n).IsDictOf (strKind prog w) kvs ∧ All2 (KR V adr) es kvs := by
  obtain ⟨kvs, g1, g2, g3⟩ := er_pairs (prog := prog) h e
  exact ⟨kvs, ⟨des.toArray, n, ⟨rfl, rfl, rfl⟩, rfl, keysOf_er h, g2, g3⟩, g1⟩
end
end Mine
end EvM_text
section EvN_text
open PySem PySem.W PyProof.Rows PySem.Calls PySem.Spec
set_option Elab.async false
set_option maxRecDepth 100000
set_option maxHeartbeats 4000000
set_option linter.unusedVariables false
namespace Mine
theorem all2_drop {α β : Type} {R : α → β → Prop} : ∀ (n : Nat) {l : List α} {l' : List β}, All2 R l l' → All2 R (l.drop n) (l'.drop n)
  | 0, _, _, h => h
  | n + 1, [], [], .nil => .nil
  | n + 1, _ :: _, _ :: _, .cons _ t => all2_drop n t
theorem all2_take {α β : Type} {R : α → β → Prop} : ∀ (n : Nat) {l : List α} {l' : List β}, All2 R l l' → All2 R (l.take n) (l'.take n)
  | 0, _, _, _ => .nil
  | n + 1, [], [], .nil => .nil
  | n + 1, _ :: _, _ :: _, .cons a t => .cons a (all2_take n t)
theorem pick_is {V : Vars} {adr : List Addr} {l h : Option Nat} {vs : List AV} {xs : List Value} (nb : notBoth l h = true) (hv : VRs V adr vs xs) :
    ∃ ys, slicePick xs.toArray (l.map fun n => (n : Int)) (h.map fun n => (n : Int)) none = ys.toArray ∧ VRs V adr (pick l h vs) ys := by
  cases l with
  | none =>
    cases h with
    | none => exact ⟨xs, slicePick_all _, hv⟩
    | some b => exact ⟨xs.take b, slicePick_upto' _ b, all2_take b hv⟩
  | some a =>
    cases h with
    | none => exact ⟨xs.drop a, slicePick_from' _ a, all2_drop a hv⟩
    | some b => cases nb

section
variable {prog : Program} {w : World} {K : Frag} {p : Program} {loose : List Str} {mean : ExcName → Option Value} {mg mb : Str → Option Value} {V : Vars} {r : Rec}
  {A : Around} {h₀ : Heap} {L : Addr} {dp un : Nat} {E : Value → Shared → Prop} {s : Shared} {m : Str → Option Value} {news : List (Addr × Obj)} {F F' : Lo} {H H' : He} {env : Env} {ei : EI}

/-- an object of the ledger is changed, all else stays -/
theorem SR.change {P : Params} (S : SR V P h₀ L s.heap m news F H) {h' : Heap} {i : Nat} {x : Addr} {o o' : Obj} {a b : AO} (e : news[i]? = some (x, o)) (eH : H[i]? = some b) (hs : Heap.SameBut x s.heap h') (ho' : h'.get? x = some o') (ho : OR V (adrs news) P a o')
    (hb : isJunk b = false := by rfl) (ha : isJunk a = false := by rfl) : SR V P h₀ L h' m (news.set i (x, o')) F (H.set i a) := by
  obtain ⟨pre, post, e1, e2, n1, n2⟩ := (upd_of (o' := o') hb ha S.nd eH e).split
  have N := S.nw
  rw [e1] at N
  have z := N (x, o) (List.mem_append.mpr (.inr (.head _)))
  have N' := news_set N n1 n2 hs ho'
  rw [← e2] at N'
  exact S.set e eH (S.fr.change hs z.2.1 z.2.2) N' ho hb ha
/-- an object that the ledger does not tell is made -/
theorem SR.extra {P : Params} (S : SR V P h₀ L s.heap m news F H) (o : Obj) : SR V P h₀ L (s.heap.push o) m news F H :=
  ⟨S.fr.push _, fun q hq => ⟨Heap.get?_push_of_some _ (S.nw q hq).1, (S.nw q hq).2⟩, S.al, S.nds, S.lo⟩
theorem SR.newList {P : Params} (S : SR V P h₀ L s.heap m news F H) {us : List AV} {vs : List Value} (hv : VRs V (adrs news) us vs) :
    ∃ news', SR V P h₀ L (s.heap.push (listOf vs.toArray 0)) m news' F (pushH H (.list us)) ∧ adrs news <+: adrs news' ∧ (adrs news')[H.length]? = some s.heap.objs.size := by
  obtain ⟨S', hp, hx⟩ := S.push (a := .list us) (S.fr.push _) (S.nw.push S.fr _) (fun q hq => Heap.lt_size (S.nw q hq).1) ⟨vs, 0, rfl, hv⟩
  exact ⟨_, S', hp, hx⟩

theorem s_optE (R : RecOk prog w K p loose mean mg mb V r) {e : Option Expr} {l : Option Nat} {Q : Value → Shared → Prop} (C : Cx K p loose mean mg mb A h₀ L ei.dp) (O : EnvOk env ei L (adrs news)) (S : SR V w.params h₀ L s.heap m news F H)
    (q : optE r ei F H e = some (l, H')) (h : ∀ v h' tk news', SR V w.params h₀ L h' m news' F H' → adrs news <+: adrs news' → IsPart v (l.map fun n => (n : Int)) → Q v { s with heap := h', toks := tk }) :
    wpAny (model prog w) A (evalPart e env) Q E s := by
  unfold optE at q
  split at q
  · cases q
    exact evalPart_none_step (h .none s.heap s.toks news S (List.prefix_refl _) .none)
  · split at q
    · rename_i e' l' H1 h1
      split at q
      · rename_i n hn
        cases q
        refine evalPart_some_step (R.ev h1 C O S fun v h' tk news' S' hp hv => ?_)
        obtain ⟨t, rfl⟩ := hv
        rw [litN_val V hn]
        exact h _ h' tk news' S' hp (.int _ _)
      · cases q
    · cases q

theorem s_slice (R : RecOk prog w K p loose mean mg mb V r) {v : Expr} {lo hi : Option Expr} {sp pos : Pos} {i : Nat} {l hh : Option Nat} {vs : List AV} {H1 H2 H3 : He} {Q : Value → Shared → Prop}
    (C : Cx K p loose mean mg mb A h₀ L ei.dp) (O : EnvOk env ei L (adrs news)) (S : SR V w.params h₀ L s.heap m news F H)
    (q1 : r.ev ei F H v = some (.ref i, H1)) (q2 : optE r ei F H1 lo = some (l, H2)) (q3 : optE r ei F H2 hi = some (hh, H3)) (q4 : H3[i]? = some (.list vs)) (hl : vs.length < 10000) (nb : notBoth l hh = true)
    (h : PostV V w.params h₀ L m F Q s news (.ref H3.length) (pushH H3 (.list (pick l hh vs)))) : wpAny (model prog w) A (eval (.Subscript v (.Slice lo hi none sp) pos) env) Q E s := by
  refine Subscript_ (R.ev q1 C O S fun ov h1 tk1 news1 S1 p1 hov => ?_)
  obtain ⟨x, hx, rfl⟩ := hov
  refine wpAny_Slice (s_optE R C (O.mono p1) S1 q2 fun lv h2 tk2 news2 S2 p2 hlv => ?_)
  refine s_optE R C (O.mono (p1.trans p2)) S2 q3 fun uv h3 tk3 news3 S3 p3 huv => ?_
  refine evalPart_none_step ?_
  have hx3 := get_mono p3 (get_mono p2 hx)
  have S4 := S3.extra (s := { s with heap := h3, toks := tk3 }) { cls := .type "slice", data := .fields #[lv, uv, .none] }
  obtain ⟨xs, n, _, _, g3, g4⟩ := listAt (s := { s with heap := h3.push { cls := .type "slice", data := .fields #[lv, uv, .none] }, toks := tk3 }) S4 q4 hx3
  obtain ⟨ys, y1, y2⟩ := pick_is nb g3
  have hlen := g3.length
  refine tail_any g4.typeIs slot_list_getitem.lookup (wpAny_getItem_list_slice g4 (Heap.IsSliceOf.new _ _ _ _) hlv huv .none (by intro z; cases z) ?_ (by rw [sizeLine_eq]; simp; omega)) rfl
  rw [y1]
  obtain ⟨news5, S5, p5, hx5⟩ := SR.newList (s := { s with heap := h3.push { cls := .type "slice", data := .fields #[lv, uv, .none] }, toks := tk3 }) S4 y2
  exact h _ _ _ news5 S5 (((p1.trans p2).trans p3).trans p5) ⟨_, hx5, rfl⟩

theorem s_cmpF (R : RecOk prog w K p loose mean mg mb V r) (VO : VarsOk V) {l : Expr} {ops : List CmpOp} {rs : List Expr} {c : Bool} (q : cmpF r ei F H l ops rs = some (c, H')) :
    ∃ op x H1 a b, ops = [op] ∧ rs = [x] ∧ notSet x = true ∧ r.ev ei F H l = some (a, H1) ∧ r.ev ei F H1 x = some (b, H') ∧ cmpV H' op a b = some c := by
  unfold cmpF at q
  split at q
  · rename_i op x
    split at q
    · cases q
    · rename_i hc
      split at q
      · cases q
      · rename_i a H1 h1
        split at q
        · cases q
        · rename_i b H2 h2
          split at q
          · rename_i c' h3
            cases q
            exact ⟨op, x, H1, a, b, rfl, rfl, (Bool.and_eq_true_iff.mp hc).2, h1, h2, h3⟩
          · cases q
  · cases q
theorem notSet_marks {op : CmpOp} {x : Expr} (h : notSet x = true) : behindInMarks op x = false := by
  cases x <;> first | rfl | cases h
theorem s_cmpEv (R : RecOk prog w K p loose mean mg mb V r) (VO : VarsOk V) {l : Expr} {ops : List CmpOp} {rs : List Expr} {c : Bool} {pos : Pos} {Q : Value → Shared → Prop}
    (C : Cx K p loose mean mg mb A h₀ L ei.dp) (O : EnvOk env ei L (adrs news)) (S : SR V w.params h₀ L s.heap m news F H) (q : cmpF r ei F H l ops rs = some (c, H'))
    (h : ∀ h' tk news', SR V w.params h₀ L h' m news' F H' → adrs news <+: adrs news' → Q (.bool c) { s with heap := h', toks := tk }) : wpAny (model prog w) A (eval (.Compare l ops rs pos) env) Q E s := by
  obtain ⟨op, x, H1, a, b, rfl, rfl, ns, q1, q2, q3⟩ := s_cmpF R VO q
  refine wpAny_Compare1 (R.ev q1 C O S fun av h1 tk1 news1 S1 p1 ha => ?_) (notSet_marks ns)
  refine R.ev q2 C (O.mono p1) S1 fun bv h2 tk2 news2 S2 p2 hb => ?_
  exact s_cmp VO S2 (ha.mono p2) hb q3 fun tk => h _ tk news2 S2 (p1.trans p2)
theorem s_cmpTr (R : RecOk prog w K p loose mean mg mb V r) (VO : VarsOk V) {l : Expr} {ops : List CmpOp} {rs : List Expr} {c : Bool} {pos : Pos} {whole : Sem Value} {Q : Bool → Shared → Prop}
    (C : Cx K p loose mean mg mb A h₀ L ei.dp) (O : EnvOk env ei L (adrs news)) (S : SR V w.params h₀ L s.heap m news F H) (q : cmpF r ei F H l ops rs = some (c, H'))
    (h : PostB V w.params h₀ L m F Q s news c H') : wpAny (model prog w) A (isTrue (.Compare l ops rs pos) env whole) Q E s := by
  obtain ⟨op, x, H1, a, b, rfl, rfl, ns, q1, q2, q3⟩ := s_cmpF R VO q
  refine wpAny_isTrue_Compare1 (R.ev q1 C O S fun av h1 tk1 news1 S1 p1 ha => ?_) (notSet_marks ns)
  refine R.ev q2 C (O.mono p1) S1 fun bv h2 tk2 news2 S2 p2 hb => ?_
  exact s_cmp VO S2 (ha.mono p2) hb q3 fun tk => wpAny_truthy_bool (h _ tk news2 S2 (p1.trans p2))
end
end Mine
end EvN_text
section EvO_text
open PySem PySem.W PyProof.Rows PySem.Calls PySem.Spec
set_option Elab.async false
set_option maxRecDepth 100000
set_option maxHeartbeats 4000000
set_option linter.unusedVariables false
namespace Mine
section
variable {prog : Program} {w : World} {K : Frag} {p : Program} {loose : List Str} {mean : ExcName → Option Value} {mg mb : Str → Option Value} {V : Vars} {r : Rec}
  {A : Around} {h₀ : Heap} {L : Addr} {dp un : Nat} {E : Value → Shared → Prop} {s : Shared} {m : Str → Option Value} {news : List (Addr × Obj)} {F F' : Lo} {H H' : He} {env : Env} {ei : EI}

theorem evs_len : ∀ {es : List Expr} {H : He} {as : List AV} {H' : He}, evs r ei F H es = some (as, H') → as.length = es.length
  | [], _, _, _, q => by unfold evs at q; cases q; rfl
  | e :: t, H, as, H', q => by
    unfold evs at q
    split at q
    · cases q
    · split at q
      · cases q
      · split at q
        · cases q
        · rename_i h2
          cases q
          simp [evs_len h2]
theorem s_List (R : RecOk prog w K p loose mean mg mb V r) {es : List Expr} {pos : Pos} {vs : List AV} {H1 : He} {Q : Value → Shared → Prop} (C : Cx K p loose mean mg mb A h₀ L ei.dp) (O : EnvOk env ei L (adrs news)) (S : SR V w.params h₀ L s.heap m news F H)
    (hl : es.length < 1000) (q : evs r ei F H es = some (vs, H1)) (h : PostV V w.params h₀ L m F Q s news (.ref H1.length) (pushH H1 (.list vs))) : wpAny (model prog w) A (eval (.List es pos) env) Q E s := by
  refine List_ (s_evs R C O S q fun xs h1 tk1 news1 S1 p1 hv => ?_)
  refine newList_N S1.fr S1.nw (fun h' F' N' => ?_) (by have := hv.length; have := evs_len q; rw [sizeLine_eq]; omega)
  obtain ⟨S2, p2, hx⟩ := SR.push (s := { s with heap := h1, toks := tk1 }) (a := .list vs) S1 F' N' (fun q hq => Heap.lt_size (S1.nw q hq).1) ⟨xs, 0, rfl, hv⟩
  exact h _ h' tk1 _ S2 (p1.trans p2) ⟨_, hx, rfl⟩
theorem s_Tuple (R : RecOk prog w K p loose mean mg mb V r) {es : List Expr} {k : Nat} {pos : Pos} {vs : List AV} {H1 : He} {Q : Value → Shared → Prop} (C : Cx K p loose mean mg mb A h₀ L ei.dp) (O : EnvOk env ei L (adrs news)) (S : SR V w.params h₀ L s.heap m news F H)
    (hl : es.length < 1000) (q : evs r ei F H es = some (vs, H1)) (h : PostV V w.params h₀ L m F Q s news (.ref H1.length) (pushH H1 (.tup vs))) : wpAny (model prog w) A (eval (.Tuple es k pos) env) Q E s := by
  refine Tuple_ (s_evs R C O S q fun xs h1 tk1 news1 S1 p1 hv => ?_)
  refine newTuple_N S1.fr S1.nw (fun h' F' N' => ?_) (by have := hv.length; have := evs_len q; rw [sizeLine_eq]; omega)
  obtain ⟨S2, p2, hx⟩ := SR.push (s := { s with heap := h1, toks := tk1 }) (a := .tup vs) S1 F' N' (fun q hq => Heap.lt_size (S1.nw q hq).1) ⟨xs, 0, rfl, hv⟩
  exact h _ h' tk1 _ S2 (p1.trans p2) ⟨_, hx, rfl⟩

theorem keyStr_is {k : Option Expr} {x : Str} (h : keyStr k = some x) : ∃ c p, k = some (.Constant (.str x) c p) := by
  unfold keyStr at h
  split at h
  · cases h; exact ⟨_, _, rfl⟩
  · cases h
theorem s_dictE (R : RecOk prog w K p loose mean mg mb V r) (C : Cx K p loose mean mg mb A h₀ L ei.dp) : ∀ {ks : List (Option Expr)} {ts : List Expr} {es : Lo} {H : He} {es' : Lo} {H' : He} {kvs : List (Str × Value)} {news : List (Addr × Obj)} {s : Shared} {pos : Pos} {Q : List (Value × Value) → Shared → Prop},
    EnvOk env ei L (adrs news) → SR V w.params h₀ L s.heap m news F H → dictE r ei F es H ks ts = some (es', H') → All2 (KR V (adrs news)) es kvs → (kvs.map (·.1)).Nodup →
    (∀ vs more h' tk news', SR V w.params h₀ L h' m news' F H' → adrs news <+: adrs news' → Carries (strKind prog w) vs more → vs.length = ks.length → All2 (KR V (adrs news')) es' (merged kvs more) → Q vs { s with heap := h', toks := tk }) →
    wpAny (model prog w) A (evalPairs (pairTrees ks ts env pos)) Q E s
  | [], [], es, H, es', H', kvs, news, s, pos, Q, O, S, q, hk, nd, h => by
    unfold dictE at q
    cases q
    exact pairTrees_nil_walk (h [] [] s.heap s.toks news S (List.prefix_refl _) trivial rfl hk)
  | k :: ks, e :: ts, es, H, es', H', kvs, news, s, pos, Q, O, S, q, hk, nd, h => by
    unfold dictE at q
    split at q
    · cases q
    · rename_i x hks
      obtain ⟨ck, cp, rfl⟩ := keyStr_is hks
      split at q
      · cases q
      · rename_i hx
        split at q
        · rename_i v H1 h1
          refine pairTrees_cons_walk (wpAny_Constant_str ?_)
          refine R.ev h1 C O (s := { s with toks := s.toks + 1 }) S fun v' h' tk news' S' hp hv => ?_
          refine s_dictE R C (kvs := stored kvs x v') (O.mono hp) S' q (stored_kr (okStr_get hx) hv (hk.imp fun _ _ z => z.mono hp) nd) (stored_nodup nd) fun vs more h'' tk'' news'' S'' hp' hc hll hkk => ?_
          exact h _ ((x, v') :: more) h'' tk'' news'' S'' (hp.trans hp') ⟨by show (x == x) = true; simp, rfl, hc⟩ (by simp [hll]) hkk
        · cases q
  | [], _ :: _, _, _, _, _, _, _, _, _, _, _, _, q, _, _, _ => by unfold dictE at q; cases q
  | _ :: _, [], _, _, _, _, _, _, _, _, _, _, _, q, _, _, _ => by unfold dictE at q; cases q

theorem dictE_keys : ∀ {ks : List (Option Expr)} {ts : List Expr} {es : Lo} {H : He} {z : Lo × He}, dictE r ei F es H ks ts = some z → ks.all (·.isSome) = true
  | [], _, _, _, _, _ => rfl
  | k :: ks, [], es, H, z, q => by unfold dictE at q; cases q
  | k :: ks, e :: ts, es, H, z, q => by
    unfold dictE at q
    split at q
    · cases q
    · rename_i x hks
      obtain ⟨ck, cp, rfl⟩ := keyStr_is hks
      split at q
      · cases q
      · split at q
        · rename_i v H1 h1
          rw [List.all_cons, dictE_keys q]
          rfl
        · cases q
theorem s_Dict (R : RecOk prog w K p loose mean mg mb V r) {k : Option Expr} {ks : List (Option Expr)} {ts : List Expr} {pos : Pos} {es : Lo} {H1 : He} {Q : Value → Shared → Prop} (C : Cx K p loose mean mg mb A h₀ L ei.dp) (O : EnvOk env ei L (adrs news)) (S : SR V w.params h₀ L s.heap m news F H)
    (hl : ks.length + 1 ≤ 15) (hl2 : ks.length + 1 = ts.length) (q1 : dictE r ei F [] (pushH H (.dict [])) (k :: ks) ts = some (es, H1)) (q2 : H1[H.length]? = some (.dict [])) (q3 : setH H1 H.length (.dict es) = some H')
    (h : PostV V w.params h₀ L m F Q s news (.ref H.length) H') : wpAny (model prog w) A (eval (.Dict (k :: ks) ts pos) env) Q E s := by
  refine wpAny_Dict_any (dictE_keys q1) hl2 (List.cons_ne_nil _ _) hl ?_
  obtain ⟨S1, p1, hx1⟩ := S.push (a := .dict []) (S.fr.push _) (S.nw.push S.fr { cls := .type "dict", data := .dict #[] }) (fun q hq => Heap.lt_size (S.nw q hq).1) ⟨[], 0, rfl, .nil⟩
  refine s_dictE R C (s := { s with heap := s.heap.push { cls := .type "dict", data := .dict #[] } }) (kvs := []) (O.mono p1) S1 q1 .nil List.nodup_nil fun vs more h2 tk2 news2 S2 p2 hc hll hk => ?_
  have hx2 := get_mono p2 hx1
  obtain ⟨o, g1, g2, des, n, rfl, g3⟩ := S2.at q2 hx2
  obtain ⟨kvs0, d1, d2⟩ := er_isDict (prog := prog) g3 rfl (n := n)
  have : kvs0 = [] := by cases d2; rfl
  subst this
  obtain ⟨rfl, _⟩ := setH_eq q3
  have hvl := hc.length
  refine wpAny_storeAll (knd := strKind prog w) vs more [] _ _ hc (Heap.dictOf_iff.mpr ⟨_, g2, d1⟩) ?_ fun h3 hd3 hs3 => ?_
  · rw [sizeLine_eq, List.length_nil, hvl, hll, List.length_cons]; omega
  · obtain ⟨o3, ho3, hd3'⟩ := Heap.dictOf_iff.mp hd3
    obtain ⟨des', n', rfl, e3⟩ := isDict_er hd3' hk
    have S3 := SR.change (s := { s with heap := h2, toks := tk2 }) S2 (a := .dict es) g1 q2 hs3 ho3 ⟨des', n', rfl, e3⟩
    refine h _ h3 _ _ S3 (by rw [adrs_set g1]; exact p1.trans p2) ⟨_, by rw [adrs_set g1]; exact hx2, rfl⟩
end
end Mine
end EvO_text
section EvP_text
open PySem PySem.W PyProof.Rows PySem.Calls PySem.Spec
set_option Elab.async false
set_option maxRecDepth 100000
set_option maxHeartbeats 4000000
set_option linter.unusedVariables false
namespace Mine
section
variable {prog : Program} {w : World} {K : Frag} {p : Program} {loose : List Str} {mean : ExcName → Option Value} {mg mb : Str → Option Value} {V : Vars} {r : Rec}
  {A : Around} {h₀ : Heap} {L : Addr} {dp un : Nat} {E : Value → Shared → Prop} {s : Shared} {m : Str → Option Value} {news : List (Addr × Obj)} {F F' : Lo} {H H' : He} {env : Env} {ei : EI}


theorem s_evOr (R : RecOk prog w K p loose mean mg mb V r) {op : BoolOp} {es : List Expr} {pos : Pos} {a : AV} {Q : Value → Shared → Prop} (q : evOr r ei F H op es = some (a, H')) (C : Cx K p loose mean mg mb A h₀ L ei.dp) (O : EnvOk env ei L (adrs news)) (S : SR V w.params h₀ L s.heap m news F H)
    (h : PostV V w.params h₀ L m F Q s news a H') : wpAny (model prog w) A (eval (.BoolOp op es pos) env) Q E s := by
  unfold evOr at q
  cases op with
  | And => exact (no_some q).elim
  | Or =>
    match es, q with
    | [x, y], q =>
      have q : evOr2 r ei F H x y = some (a, H') := q
      unfold evOr2 at q
      split at q
      · rename_i H1 h1
        cases q
        refine BoolOp_or (R.ev h1 C O S fun v h' tk news' S' hp hv => ?_)
        cases hv
        exact wpAny_truthy_bool (h _ h' tk news' S' hp rfl)
      · rename_i H1 h1
        refine BoolOp_or (R.ev h1 C O S fun v h' tk news' S' hp hv => ?_)
        cases hv
        refine wpAny_truthy_bool ?_
        exact BoolOp_one (R.ev q C (O.mono hp) S' fun v h2 tk2 news2 S2 p2 hv2 => h v h2 tk2 news2 S2 (hp.trans p2) hv2)
      · cases q
theorem s_Attr (R : RecOk prog w K p loose mean mg mb V r) {v : Expr} {x : Str} {pos : Pos} {o a : AV} {Q : Value → Shared → Prop} (C : Cx K p loose mean mg mb A h₀ L ei.dp) (O : EnvOk env ei L (adrs news)) (S : SR V w.params h₀ L s.heap m news F H)
    (hb : baseOk v = true) (q1 : r.ev ei F H v = some (o, H')) (q2 : getA K H' o x = some a) (h : PostV V w.params h₀ L m F Q s news a H') : wpAny (model prog w) A (eval (.Attribute v x pos) env) Q E s := by
  refine Attribute_any_ (R.ev q1 C O S fun ov h' tk news' S' hp hv => ?_) ?_
  · exact s_getA (s := { s with heap := h', toks := tk }) C S' hv q2 fun u hu => h u h' _ news' S' hp hu
  · cases v <;> first | rfl | cases hb

theorem s_evConst {c : Const} {k : Nat} {pos : Pos} {a : AV} {Q : Value → Shared → Prop} (q : evConst H c = some (a, H')) (S : SR V w.params h₀ L s.heap m news F H)
    (h : PostV V w.params h₀ L m F Q s news a H') : wpAny (model prog w) A (eval (.Constant c k pos) env) Q E s := by
  cases c with
  | none => cases q; exact wpAny_Constant_none (h .none s.heap s.toks news S (List.prefix_refl _) rfl)
  | bool b => cases q; exact wpAny_Constant_bool (h _ s.heap s.toks news S (List.prefix_refl _) rfl)
  | int i => cases q; exact wpAny_Constant_int (h _ s.heap _ news S (List.prefix_refl _) ⟨s.toks, by rw [lit_val]⟩)
  | str x =>
    have q : (match okStr x with | true => some (AV.str (sid x), H) | false => none) = some (a, H') := q
    split at q
    · rename_i hx
      cases q
      exact wpAny_Constant_str (h _ s.heap _ news S (List.prefix_refl _) ⟨_, _, okStr_get hx, rfl⟩)
    · cases q
  | _ => exact (no_some q).elim
theorem sliceOf_is {i : Expr} {lo hi : Option Expr} (h : sliceOf i = some (lo, hi)) : ∃ p, i = .Slice lo hi none p := by
  unfold sliceOf at h
  split at h
  · cases h; exact ⟨_, rfl⟩
  · cases h
theorem s_evAttr (R : RecOk prog w K p loose mean mg mb V r) {v : Expr} {x : Str} {pos : Pos} {a : AV} {Q : Value → Shared → Prop} (q : evAttr K r ei F H v x = some (a, H')) (C : Cx K p loose mean mg mb A h₀ L ei.dp) (O : EnvOk env ei L (adrs news)) (S : SR V w.params h₀ L s.heap m news F H)
    (h : PostV V w.params h₀ L m F Q s news a H') : wpAny (model prog w) A (eval (.Attribute v x pos) env) Q E s := by
  unfold evAttr at q
  split at q
  · cases q
  · rename_i hb
    split at q
    · rename_i o H1 h1
      split at q
      · rename_i x h2
        cases q
        exact s_Attr R C O S hb h1 h2 h
      · cases q
    · cases q
theorem s_evSlice (R : RecOk prog w K p loose mean mg mb V r) {v : Expr} {lo hi : Option Expr} {sp : Pos} {pos : Pos} {a : AV} {Q : Value → Shared → Prop} (q : evSlice r ei F H v lo hi = some (a, H')) (C : Cx K p loose mean mg mb A h₀ L ei.dp) (O : EnvOk env ei L (adrs news)) (S : SR V w.params h₀ L s.heap m news F H)
    (h : PostV V w.params h₀ L m F Q s news a H') : wpAny (model prog w) A (eval (.Subscript v (.Slice lo hi none sp) pos) env) Q E s := by
  unfold evSlice at q
  split at q
  · rename_i i H1 h1
    unfold evSlice2 at q
    split at q
    · rename_i l H2 h2
      split at q
      · rename_i hh H3 h3
        unfold evSlice3 at q; try simp only [getH_eq] at q
        split at q
        · rename_i vs h4
          split at q
          · rename_i hc
            cases q
            have hc := Bool.and_eq_true_iff.mp hc
            exact s_slice R C O S h1 h2 h3 h4 (Nat.le_of_ble_eq_true hc.1) hc.2 h
          · cases q
        · cases q
      · cases q
    · cases q
  · cases q
theorem s_evItem (R : RecOk prog w K p loose mean mg mb V r) {v i : Expr} {pos : Pos} {a : AV} {Q : Value → Shared → Prop} (q : evItem r ei F H v i = some (a, H')) (C : Cx K p loose mean mg mb A h₀ L ei.dp) (O : EnvOk env ei L (adrs news)) (S : SR V w.params h₀ L s.heap m news F H)
    (h : PostV V w.params h₀ L m F Q s news a H') : wpAny (model prog w) A (eval (.Subscript v i pos) env) Q E s := by
  unfold evItem at q
  split at q
  · cases q
  · rename_i hsl
    split at q
    · rename_i o H1 h1
      split at q
      · rename_i j H2 h2
        split at q
        · rename_i x h3
          cases q
          refine Subscript_ (R.ev h1 C O S fun ov h1' tk1 news1 S1 p1 hov => ?_)
          refine R.ev h2 C (O.mono p1) S1 fun iv h2' tk2 news2 S2 p2 hiv => ?_
          exact s_item (s := { s with heap := h2', toks := tk2 }) hsl S2 (hov.mono p2) hiv h3 fun v tk hv => h v h2' tk news2 S2 (p1.trans p2) hv
        · cases q
      · cases q
    · cases q
theorem s_evSub (R : RecOk prog w K p loose mean mg mb V r) {v i : Expr} {pos : Pos} {a : AV} {Q : Value → Shared → Prop} (q : evSub r ei F H v i = some (a, H')) (C : Cx K p loose mean mg mb A h₀ L ei.dp) (O : EnvOk env ei L (adrs news)) (S : SR V w.params h₀ L s.heap m news F H)
    (h : PostV V w.params h₀ L m F Q s news a H') : wpAny (model prog w) A (eval (.Subscript v i pos) env) Q E s := by
  unfold evSub at q
  split at q
  · rename_i lo hi hs
    obtain ⟨sp, rfl⟩ := sliceOf_is hs
    exact s_evSlice R q C O S h
  · exact s_evItem R q C O S h
theorem s_evMeth (R : RecOk prog w K p loose mean mg mb V r) {o : Expr} {x : Str} {ap : Pos} {args : List Expr} (hn : args.length < 20) {pos : Pos} {a : AV} {Q : Value → Shared → Prop} (q : evMeth K r ei F H o x ap args pos = some (a, H')) (C : Cx K p loose mean mg mb A h₀ L ei.dp) (O : EnvOk env ei L (adrs news)) (S : SR V w.params h₀ L s.heap m news F H)
    (h : PostV V w.params h₀ L m F Q s news a H') : wpAny (model prog w) A (eval (.Call (.Attribute o x ap) args [] pos) env) Q E s := by
  unfold evMeth at q
  split at q
  · cases q
  · rename_i hb
    split at q
    · cases q
    · rename_i ov H1 h1
      unfold evMeth2 at q
      split at q
      · cases q
      · rename_i mth h2
        split at q
        · cases q
        · rename_i as H2 h3
          have hb := Bool.and_eq_true_iff.mp hb
          exact s_CallMeth R C O S hb.1 hn hb.2 h1 h2 h3 q h
theorem s_evFn (R : RecOk prog w K p loose mean mg mb V r) {x : Str} {xp : Pos} {args : List Expr} {pos : Pos} {a : AV} {Q : Value → Shared → Prop} (q : evFn K r ei F H x xp args = some (a, H')) (C : Cx K p loose mean mg mb A h₀ L ei.dp) (O : EnvOk env ei L (adrs news)) (S : SR V w.params h₀ L s.heap m news F H)
    (h : PostV V w.params h₀ L m F Q s news a H') : wpAny (model prog w) A (eval (.Call (.Name x xp) args [] pos) env) Q E s := by
  unfold evFn at q
  split at q
  · cases q
  · rename_i fv H1 h1
    split at q
    · cases q
    · rename_i as H2 h3
      exact s_CallName R C O S h1 h3 q h
theorem s_evCall (R : RecOk prog w K p loose mean mg mb V r) {f : Expr} {args : List Expr} {kws : List Keyword} {pos : Pos} {a : AV} {Q : Value → Shared → Prop} (q : evCall K r ei F H f args kws pos = some (a, H')) (C : Cx K p loose mean mg mb A h₀ L ei.dp) (O : EnvOk env ei L (adrs news)) (S : SR V w.params h₀ L s.heap m news F H)
    (h : PostV V w.params h₀ L m F Q s news a H') : wpAny (model prog w) A (eval (.Call f args kws pos) env) Q E s := by
  cases kws with
  | cons _ _ => exact (no_some q).elim
  | nil =>
    unfold evCall at q
    dsimp only at q
    split at q
    · cases q
    · rename_i hn
      have hn := Nat.le_of_ble_eq_true hn
      cases f with
      | Attribute o x ap => exact s_evMeth R hn q C O S h
      | Name x xp => exact s_evFn R q C O S h
      | _ => exact (no_some q).elim
theorem s_evIf (R : RecOk prog w K p loose mean mg mb V r) {t b o : Expr} {pos : Pos} {a : AV} {Q : Value → Shared → Prop} (q : evIf r ei F H t b o = some (a, H')) (C : Cx K p loose mean mg mb A h₀ L ei.dp) (O : EnvOk env ei L (adrs news)) (S : SR V w.params h₀ L s.heap m news F H)
    (h : PostV V w.params h₀ L m F Q s news a H') : wpAny (model prog w) A (eval (.IfExp t b o pos) env) Q E s := by
  unfold evIf at q
  split at q
  · rename_i H1 h1
    refine wpAny_IfExp (R.tr h1 C O S fun h' tk news' S' hp => ?_)
    exact R.ev q C (O.mono hp) S' fun v h2 tk2 news2 S2 p2 hv2 => h v h2 tk2 news2 S2 (hp.trans p2) hv2
  · rename_i H1 h1
    refine wpAny_IfExp (R.tr h1 C O S fun h' tk news' S' hp => ?_)
    exact R.ev q C (O.mono hp) S' fun v h2 tk2 news2 S2 p2 hv2 => h v h2 tk2 news2 S2 (hp.trans p2) hv2
  · cases q
theorem s_evBin (R : RecOk prog w K p loose mean mg mb V r) {l : Expr} {op : Operator} {x : Expr} {pos : Pos} {a : AV} {Q : Value → Shared → Prop} (q : evBin r ei F H l op x = some (a, H')) (C : Cx K p loose mean mg mb A h₀ L ei.dp) (O : EnvOk env ei L (adrs news)) (S : SR V w.params h₀ L s.heap m news F H)
    (h : PostV V w.params h₀ L m F Q s news a H') : wpAny (model prog w) A (eval (.BinOp l op x pos) env) Q E s := by
  unfold evBin at q
  split at q
  · cases q
  · rename_i x H1 h1
    split at q
    · cases q
    · rename_i y H2 h2
      refine wpAny_BinOp (R.ev h1 C O S fun av h1' tk1 news1 S1 p1 hav => ?_)
      refine R.ev h2 C (O.mono p1) S1 fun bv h2' tk2 news2 S2 p2 hbv => ?_
      exact s_bin (s := { s with heap := h2', toks := tk2 }) S2 (hav.mono p2) hbv q fun v h3 tk3 news3 S3 p3 hv => h v h3 tk3 news3 S3 ((p1.trans p2).trans p3) hv
theorem s_evList (R : RecOk prog w K p loose mean mg mb V r) {es : List Expr} {pos : Pos} {a : AV} {Q : Value → Shared → Prop} (q : evList r ei F H es = some (a, H')) (C : Cx K p loose mean mg mb A h₀ L ei.dp) (O : EnvOk env ei L (adrs news)) (S : SR V w.params h₀ L s.heap m news F H)
    (h : PostV V w.params h₀ L m F Q s news a H') : wpAny (model prog w) A (eval (.List es pos) env) Q E s := by
  unfold evList at q
  split at q
  · cases q
  · rename_i hl
    split at q
    · rename_i vs H1 h1
      cases q
      exact s_List R C O S (Nat.le_of_ble_eq_true hl) h1 h
    · cases q
theorem s_evTup (R : RecOk prog w K p loose mean mg mb V r) {es : List Expr} {k : Nat} {pos : Pos} {a : AV} {Q : Value → Shared → Prop} (q : evTup r ei F H es = some (a, H')) (C : Cx K p loose mean mg mb A h₀ L ei.dp) (O : EnvOk env ei L (adrs news)) (S : SR V w.params h₀ L s.heap m news F H)
    (h : PostV V w.params h₀ L m F Q s news a H') : wpAny (model prog w) A (eval (.Tuple es k pos) env) Q E s := by
  unfold evTup at q
  split at q
  · cases q
  · rename_i hl
    split at q
    · rename_i vs H1 h1
      cases q
      exact s_Tuple R C O S (Nat.le_of_ble_eq_true hl) h1 h
    · cases q
theorem s_evDict (R : RecOk prog w K p loose mean mg mb V r) {ks : List (Option Expr)} {vs : List Expr} {pos : Pos} {a : AV} {Q : Value → Shared → Prop} (q : evDict r ei F H ks vs = some (a, H')) (C : Cx K p loose mean mg mb A h₀ L ei.dp) (O : EnvOk env ei L (adrs news)) (S : SR V w.params h₀ L s.heap m news F H)
    (h : PostV V w.params h₀ L m F Q s news a H') : wpAny (model prog w) A (eval (.Dict ks vs pos) env) Q E s := by
  cases ks with
  | nil =>
    cases vs with
    | cons _ _ => exact (no_some q).elim
    | nil =>
      have q : some (AV.ref H.length, pushH H (.dict [])) = some (a, H') := q
      cases q
      refine wpAny_Dict_empty ?_
      obtain ⟨S1, p1, hx1⟩ := S.push (a := .dict []) (S.fr.push _) (S.nw.push S.fr { cls := .type "dict", data := .dict #[] }) (fun q hq => Heap.lt_size (S.nw q hq).1) ⟨[], 0, rfl, .nil⟩
      exact h _ _ s.toks _ S1 p1 ⟨_, hx1, rfl⟩
  | cons k ks =>
    unfold evDict at q
    dsimp only at q
    split at q
    · cases q
    · rename_i hl
      have hl := Bool.and_eq_true_iff.mp hl
      unfold evDict2 at q; try simp only [getH_eq] at q
      split at q
      · rename_i es H1 h1
        split at q
        · rename_i h2
          split at q
          · rename_i H2 h3
            cases q
            exact s_Dict R C O S (Nat.le_of_ble_eq_true hl.1) (Nat.eq_of_beq_eq_true hl.2) h1 h2 h3 h
          · cases q
        · cases q
      · cases q
theorem s_evF (R : RecOk prog w K p loose mean mg mb V r) (VO : VarsOk V) {e : Expr} {a : AV} {Q : Value → Shared → Prop} (q : evF K r ei F H e = some (a, H')) (C : Cx K p loose mean mg mb A h₀ L ei.dp) (O : EnvOk env ei L (adrs news)) (S : SR V w.params h₀ L s.heap m news F H)
    (h : PostV V w.params h₀ L m F Q s news a H') : wpAny (model prog w) A (eval e env) Q E s := by
  cases e with
  | Constant c k pos => exact s_evConst q S h
  | Name x pos =>
    have q : evName K ei F H x = some (a, H') := q
    unfold evName at q
    split at q
    · rename_i v hv
      cases q
      exact s_Name C O S hv fun v hv => h v s.heap s.toks news S (List.prefix_refl _) hv
    · cases q
  | Attribute v x pos => exact s_evAttr R q C O S h
  | Subscript v i pos => exact s_evSub R q C O S h
  | Call f args kws pos => exact s_evCall R q C O S h
  | Compare l ops rs pos =>
    have q : evCmp r ei F H l ops rs = some (a, H') := q
    unfold evCmp at q
    split at q
    · rename_i c H2 h1
      cases q
      exact s_cmpEv R VO C O S h1 fun h' tk news' S' hp => h _ h' tk news' S' hp rfl
    · cases q
  | BoolOp op es pos => exact s_evOr R q C O S h
  | IfExp t b o pos => exact s_evIf R q C O S h
  | BinOp l op x pos => exact s_evBin R q C O S h
  | List es pos => exact s_evList R q C O S h
  | Tuple es k pos => exact s_evTup R q C O S h
  | Dict ks vs pos => exact s_evDict R q C O S h
  | _ => exact (no_some q).elim

theorem s_allTr (R : RecOk prog w K p loose mean mg mb V r) (C : Cx K p loose mean mg mb A h₀ L ei.dp) {op : BoolOp} : ∀ {es : List Expr} {H : He} {b : Bool} {H' : He} {news : List (Addr × Obj)} {s : Shared} {Q : Bool → Shared → Prop},
    EnvOk env ei L (adrs news) → SR V w.params h₀ L s.heap m news F H → allTr r op ei F H es = some (b, H') → PostB V w.params h₀ L m F Q s news b H' → wpAny (model prog w) A (allTrue op es env) Q E s
  | [], H, b, H', news, s, Q, O, S, q, h => by
    unfold allTr at q
    cases op with
    | And => cases q; exact wpAny_allTrue_And_nil (h s.heap s.toks news S (List.prefix_refl _))
    | Or => cases q; exact wpAny_allTrue_Or_nil (h s.heap s.toks news S (List.prefix_refl _))
  | e :: t, H, b, H', news, s, Q, O, S, q, h => by
    unfold allTr at q
    split at q
    · cases q
    · rename_i c H1 h1
      cases op with
      | And =>
        refine wpAny_allTrue_And_cons (R.tr h1 C O S fun h' tk news' S' hp => ?_)
        cases c with
        | true => exact s_allTr R C (O.mono hp) S' q fun h2 tk2 news2 S2 p2 => h h2 tk2 news2 S2 (hp.trans p2)
        | false => cases q; exact h h' tk news' S' hp
      | Or =>
        refine wpAny_allTrue_Or_cons (R.tr h1 C O S fun h' tk news' S' hp => ?_)
        cases c with
        | true => cases q; exact h h' tk news' S' hp
        | false => exact s_allTr R C (O.mono hp) S' q fun h2 tk2 news2 S2 p2 => h h2 tk2 news2 S2 (hp.trans p2)
theorem s_trPlain (R : RecOk prog w K p loose mean mg mb V r) (C : Cx K p loose mean mg mb A h₀ L ei.dp) (O : EnvOk env ei L (adrs news)) (S : SR V w.params h₀ L s.heap m news F H) {e : Expr} {b : Bool} {Q : Bool → Shared → Prop}
    (q : trPlain r ei F H e = some (b, H')) (he : isTrue e env (eval e env) = (do let v ← eval e env; standAt e.pos; holding [v] (truthy v))) (h : PostB V w.params h₀ L m F Q s news b H') : wpAny (model prog w) A (isTrue e env (eval e env)) Q E s := by
  unfold trPlain at q
  split at q
  · rename_i b' H1 h1
    cases q
    refine wpAny_isTrue_value (R.ev h1 C O S fun v h' tk news' S' hp hv => ?_) he
    cases hv
    exact wpAny_truthy_bool (h h' tk news' S' hp)
  · cases q
theorem s_trF (R : RecOk prog w K p loose mean mg mb V r) (VO : VarsOk V) {e : Expr} {b : Bool} {Q : Bool → Shared → Prop} (q : trF r ei F H e = some (b, H')) (C : Cx K p loose mean mg mb A h₀ L ei.dp) (O : EnvOk env ei L (adrs news)) (S : SR V w.params h₀ L s.heap m news F H)
    (h : PostB V w.params h₀ L m F Q s news b H') : wpAny (model prog w) A (isTrue e env (eval e env)) Q E s := by
  cases e with
  | BoolOp op es pos => exact wpAny_isTrue_BoolOp (s_allTr R C O S q h)
  | UnaryOp op x pos =>
    cases op with
    | Not =>
      have q : trNot r ei F H x = some (b, H') := q
      unfold trNot at q
      split at q
      · rename_i c H1 h1
        cases q
        exact wpAny_isTrue_Not (R.tr h1 C O S fun h' tk news' S' hp => h h' tk news' S' hp)
      · cases q
    | _ => exact (no_some q).elim
  | Name x pos => exact s_trPlain R C O S q rfl h
  | Attribute v x pos => exact s_trPlain R C O S q rfl h
  | Call f args kws pos => exact s_trPlain R C O S q rfl h
  | Compare l ops rs pos => exact s_cmpTr R VO C O S q h
  | _ => exact (no_some q).elim
end
end Mine
end EvP_text
section EvQ_text
open PySem PySem.W PyProof.Rows PySem.Calls PySem.Spec
set_option Elab.async false
set_option maxRecDepth 100000
set_option maxHeartbeats 4000000
set_option linter.unusedVariables false
namespace Mine
section
variable {prog : Program} {w : World} {K : Frag} {p : Program} {loose : List Str} {mean : ExcName → Option Value} {mg mb : Str → Option Value} {V : Vars} {r : Rec}
  {A : Around} {h₀ : Heap} {L : Addr} {dp un : Nat} {E : Value → Shared → Prop} {s : Shared} {m : Str → Option Value} {news : List (Addr × Obj)} {F F' : Lo} {H H' : He} {env : Env} {ei : EI}

noncomputable abbrev PostU (V : Vars) (P : Params) (h₀ : Heap) (L : Addr) (Q : Unit → Shared → Prop) (s : Shared) (news : List (Addr × Obj)) (F' : Lo) (H' : He) : Prop :=
  ∀ h' tk m' news', SR V P h₀ L h' m' news' F' H' → adrs news <+: adrs news' → Q () { s with heap := h', toks := tk }
theorem SR.extBut {P : Params} (S : SR V P h₀ L s.heap m news F H) {h' : Heap} (he : Heap.ExtBut s.heap.objs.size s.heap h') : SR V P h₀ L h' m news F H :=
  ⟨S.fr.extBut he (Nat.le_refl _), S.nw.extBut he (Nat.le_refl _), S.al, S.nds, S.lo⟩
theorem stoN_is {x : Str} {a : AV} (q : stoN ei F x a = some F') : okStr x = true ∧ ei.mode = none ∧ kf ei.cs.names (sid x) = some .local ∧ F' = put F (sid x) a := by
  unfold stoN at q
  split at q
  · cases q
  · rename_i hx
    split at q
    · cases q
    · rename_i hm
      split at q
      · rename_i hk
        cases q
        exact ⟨hx, hm, hk, rfl⟩
      · cases q
theorem s_stoN {x : Str} {a : AV} {v : Value} {Q : Unit → Shared → Prop} (C : Cx K p loose mean mg mb A h₀ L ei.dp) (O : EnvOk env ei L (adrs news)) (S : SR V w.params h₀ L s.heap m news F H)
    (q : stoN ei F x a = some F') (hv : VR V (adrs news) a v) (h : PostU V w.params h₀ L Q s news F' H) : wpAny (model prog w) A (storeName env x v) Q E s := by
  obtain ⟨hx, hm, hk, rfl⟩ := stoN_is q
  have hl := O.kindOf hx hk
  have loc := O.loc
  rw [hm] at loc
  have loc : env.locals = L := loc
  refine wpAny_storeName_local hl (by rw [loc]; exact S.fr.ns) (fun h' hn hs => ?_) (by rw [O.fn]; rfl)
  rw [loc] at hn hs
  exact h h' _ _ news ⟨S.fr.set hn hs, S.nw.set hs, S.al, S.nds, S.lo.put (okStr_get hx) hv⟩ (List.prefix_refl _)

theorem nameE_is {e : Expr} {x : Str} (h : nameE e = some x) : ∃ xp, e = .Name x xp := by
  unfold nameE at h
  split at h
  · cases h; exact ⟨_, rfl⟩
  · cases h
theorem stoNs_is : ∀ {es : List Expr} {vs : List AV} {F F' : Lo}, stoNs ei F es vs = some F' → es.length = vs.length ∧ (assignEach es env).length = es.length ∧ (assignEach es env).findIdx? (·.1) = none
  | [], [], F, F', _ => ⟨rfl, rfl, rfl⟩
  | e :: t, v :: r, F, F', q => by
    unfold stoNs at q
    split at q
    · cases q
    · rename_i x hx
      obtain ⟨xp, rfl⟩ := nameE_is hx
      split at q
      · rename_i F1 h1
        obtain ⟨a, b, c⟩ := stoNs_is q
        refine ⟨by simp [a], ?_, ?_⟩
        · show (assignEach t env).length + 1 = t.length + 1
          rw [b]
        · show List.findIdx? (·.1) ((false, assign (.Name x xp) env) :: assignEach t env) = none
          rw [List.findIdx?_cons, c]
          rfl
      · cases q
  | [], _ :: _, _, _, q => by unfold stoNs at q; cases q
  | _ :: _, [], _, _, q => by unfold stoNs at q; cases q
theorem s_stoNs (C : Cx K p loose mean mg mb A h₀ L ei.dp) : ∀ {es : List Expr} {vs : List AV} {xs : List Value} {F F' : Lo} {m : Str → Option Value} {news : List (Addr × Obj)} {s : Shared} {Q : Unit → Shared → Prop},
    EnvOk env ei L (adrs news) → SR V w.params h₀ L s.heap m news F H → stoNs ei F es vs = some F' → VRs V (adrs news) vs xs → PostU V w.params h₀ L Q s news F' H → wpAny (model prog w) A (assignInOrder ((assignEach es env).map (·.2)) xs) Q E s
  | [], [], xs, F, F', m, news, s, Q, O, S, q, hv, h => by
    unfold stoNs at q
    cases q
    cases hv
    exact assignInOrder_nil (h s.heap s.toks m news S (List.prefix_refl _))
  | e :: t, v :: r, xs, F, F', m, news, s, Q, O, S, q, hv, h => by
    unfold stoNs at q
    split at q
    · cases q
    · rename_i x hx
      obtain ⟨xp, rfl⟩ := nameE_is hx
      split at q
      · rename_i F1 h1
        cases hv with
        | cons hv hr =>
          refine assignInOrder_cons (PyProof.Rows.assign_Name (s_stoN C O S h1 hv fun h' tk m' news' S' hp => ?_))
          exact s_stoNs C (O.mono hp) S' q (VRs.mono hp hr) fun h2 tk2 m2 news2 S2 p2 => h h2 tk2 m2 news2 S2 (hp.trans p2)
      · cases q
  | [], _ :: _, _, _, _, _, _, _, _, _, _, q, _, _ => by unfold stoNs at q; cases q
  | _ :: _, [], _, _, _, _, _, _, _, _, _, q, _, _ => by unfold stoNs at q; cases q

theorem s_stoT {t : Expr} {a : AV} {v : Value} {Q : Unit → Shared → Prop} (C : Cx K p loose mean mg mb A h₀ L ei.dp) (O : EnvOk env ei L (adrs news)) (S : SR V w.params h₀ L s.heap m news F H)
    (q : stoT ei F H t a = some F') (hv : VR V (adrs news) a v) (h : PostU V w.params h₀ L Q s news F' H) : wpAny (model prog w) A (assign t env v) Q E s := by
  unfold stoT at q; try simp only [getH_eq] at q
  split at q
  · exact PyProof.Rows.assign_Name (s_stoN C O S q hv h)
  · split at q
    · rename_i i
      obtain ⟨x, hx, rfl⟩ := hv
      split at q
      · rename_i vs h1
        split at q
        · rename_i hl
          obtain ⟨xs, g3, g4⟩ := tupAt S h1 hx
          obtain ⟨a, b, c⟩ := stoNs_is (env := env) q
          refine assign_Tuple_tuple C.hand g4 (by have := g3.length; simp; omega) c fun h' he => ?_
          exact s_stoNs (s := { s with heap := h' }) C O (S.extBut he) q g3 h
        · cases q
      · cases q
    · cases q
  · cases q
theorem valOk_swaps {e : Expr} (h : valOk e = true) (t : Option Expr) (line : Nat) (env : Env) : swapsWith e t line env = pure false := by
  cases e <;> first | rfl | cases h
theorem baseOk_valOk {e : Expr} (h : baseOk e = true) : valOk e = true := by
  cases e <;> first | rfl | cases h
theorem baseOk_sole {e : Expr} (h : baseOk e = true) (t : Expr) (line : Nat) (env : Env) : swapsWithSole [t] e line env = pure false := by
  cases e <;> first | (cases h; done) | rfl
theorem baseOk_stores {e : Expr} (h : baseOk e = true) (t : Expr) (env : Env) : swappedStores [t] e env = pure none := by
  cases e <;> first | (cases h; done) | (cases t <;> rfl)

theorem s_AsgName (R : RecOk prog w K p loose mean mg mb V r) {x : Str} {xp pos : Pos} {value : Expr} {v : AV} {H1 : He} {Q : Flow → Shared → Prop} (C : Cx K p loose mean mg mb A h₀ L ei.dp) (O : EnvOk env ei L (adrs news)) (S : SR V w.params h₀ L s.heap m news F H)
    (ho : valOk value = true) (q1 : r.ev ei F H value = some (v, H1)) (q2 : stoN ei F x v = some F') (h : PostF V w.params h₀ L Q s news .next F' H1) : wpAny (model prog w) A (exec (.Assign [.Name x xp] value pos) env) Q E s := by
  refine wpAny_Assign_Name (R.ev q1 C O S fun u h1 tk1 news1 S1 p1 hv => ?_) (valOk_swaps ho _ _ _)
  exact s_stoN (s := { s with heap := h1, toks := tk1 }) C (O.mono p1) S1 q2 hv fun h' tk m' news' S' hp => h .next h' tk m' news' S' (p1.trans hp) rfl
theorem s_AsgTup (R : RecOk prog w K p loose mean mg mb V r) {es : List Expr} {k : Nat} {tp pos : Pos} {value : Expr} {v : AV} {H1 : He} {Q : Flow → Shared → Prop} (C : Cx K p loose mean mg mb A h₀ L ei.dp) (O : EnvOk env ei L (adrs news)) (S : SR V w.params h₀ L s.heap m news F H)
    (ho : baseOk value = true) (q1 : r.ev ei F H value = some (v, H1)) (q2 : stoT ei F H1 (.Tuple es k tp) v = some F') (h : PostF V w.params h₀ L Q s news .next F' H1) : wpAny (model prog w) A (exec (.Assign [.Tuple es k tp] value pos) env) Q E s := by
  refine Assign_Tuple (R.ev q1 C O S fun u h1 tk1 news1 S1 p1 hv => ?_) (baseOk_sole ho _ _ _) (baseOk_stores ho _ _)
  exact s_stoT (s := { s with heap := h1, toks := tk1 }) C (O.mono p1) S1 q2 hv fun h' tk m' news' S' hp => h .next h' tk m' news' S' (p1.trans hp) rfl
theorem s_AsgAttr (R : RecOk prog w K p loose mean mg mb V r) {o : Expr} {a : Str} {tp pos : Pos} {value : Expr} {v ov : AV} {H1 H2 : He} {Q : Flow → Shared → Prop} (C : Cx K p loose mean mg mb A h₀ L ei.dp) (O : EnvOk env ei L (adrs news)) (S : SR V w.params h₀ L s.heap m news F H)
    (ho : valOk value = true) (q1 : r.ev ei F H value = some (v, H1)) (q2 : r.ev ei F H1 o = some (ov, H2)) (q3 : setA K H2 ov a v = some H') (h : PostF V w.params h₀ L Q s news .next F H') : wpAny (model prog w) A (exec (.Assign [.Attribute o a tp] value pos) env) Q E s := by
  refine plainObj_wpAny_Assign_Attribute (R.ev q1 C O S fun u h1 tk1 news1 S1 p1 hv => ?_) (valOk_swaps ho _ _ _)
  refine R.ev q2 C (O.mono p1) S1 fun y h2 tk2 news2 S2 p2 hy => ?_
  exact s_setA (s := { s with heap := h2, toks := tk2 }) C S2 hy (hv.mono p2) q3 fun h3 news3 S3 e3 => h .next h3 _ m news3 S3 (by rw [e3]; exact p1.trans p2) rfl

theorem isDict_nodup {o : Obj} {kvs : List (Str × Value)} (h : o.IsDictOf (strKind prog w) kvs) : (kvs.map (·.1)).Nodup := let ⟨_, _, _, _, _, _, z⟩ := h; z
theorem s_setItem {d k : Nat} {es : Lo} {x : Addr} {kv v : Value} {av : AV} {Q : Unit → Shared → Prop} (S : SR V w.params h₀ L s.heap m news F H)
    (hd : H[d]? = some (.dict es)) (hx : (adrs news)[d]? = some x) (hk : VR V (adrs news) (.str k) kv) (hv : VR V (adrs news) av v) (hl : es.length < 100) (nd : ndK es = true) (e : setH H d (.dict (put es k av)) = some H')
    (h : PostU V w.params h₀ L Q s news F H') : wpAny (model prog w) A (setItem (.ref x) kv v) Q E s := by
  obtain ⟨o, g1, g2, des, n, rfl, g3⟩ := S.at hd hx
  obtain ⟨y, t, hy, rfl⟩ := hk
  obtain ⟨kvs, d1, d2⟩ := er_isDict (prog := prog) g3 nd (n := n)
  obtain ⟨rfl, _⟩ := setH_eq e
  have hlen := d2.length
  refine wpAny_setItem_pairs (knd := strKind prog w) (k := y) (by show (y == y) = true; simp) (Heap.dictOf_iff.mpr ⟨_, g2, d1⟩) (fun h3 hd3 hs3 => ?_) (by rw [sizeLine_eq]; omega)
  obtain ⟨o3, ho3, hd3'⟩ := Heap.dictOf_iff.mp hd3
  obtain ⟨des', n', rfl, e3⟩ := isDict_er hd3' (stored_kr hy hv d2 (isDict_nodup d1))
  exact h h3 _ m _ (S.change (a := .dict (put es k av)) g1 hd hs3 ho3 ⟨des', n', rfl, e3⟩) (by rw [adrs_set g1]; exact List.prefix_refl _)
theorem s_AsgSub (R : RecOk prog w K p loose mean mg mb V r) {o i : Expr} {tp pos : Pos} {value : Expr} {v : AV} {d k : Nat} {es : Lo} {H1 H2 H3 : He} {Q : Flow → Shared → Prop} (C : Cx K p loose mean mg mb A h₀ L ei.dp) (O : EnvOk env ei L (adrs news)) (S : SR V w.params h₀ L s.heap m news F H)
    (ho : valOk value = true) (q1 : r.ev ei F H value = some (v, H1)) (q2 : r.ev ei F H1 o = some (.ref d, H2)) (q3 : r.ev ei F H2 i = some (.str k, H3)) (hd : H3[d]? = some (.dict es)) (hl : es.length < 100) (nd : ndK es = true) (e : setH H3 d (.dict (put es k v)) = some H')
    (h : PostF V w.params h₀ L Q s news .next F H') : wpAny (model prog w) A (exec (.Assign [.Subscript o i tp] value pos) env) Q E s := by
  refine wpAny_Assign_Subscript (R.ev q1 C O S fun u h1 tk1 news1 S1 p1 hv => ?_) (valOk_swaps ho _ _ _)
  refine R.ev q2 C (O.mono p1) S1 fun y h2 tk2 news2 S2 p2 hy => ?_
  obtain ⟨x, hx, rfl⟩ := hy
  refine R.ev q3 C (O.mono (p1.trans p2)) S2 fun z h3 tk3 news3 S3 p3 hz => ?_
  exact s_setItem (s := { s with heap := h3, toks := tk3 }) S3 hd (get_mono p3 hx) hz (hv.mono (p2.trans p3)) hl nd e fun h4 tk4 m4 news4 S4 p4 => h .next h4 tk4 m4 news4 S4 (((p1.trans p2).trans p3).trans p4) rfl
theorem s_AugAttr (R : RecOk prog w K p loose mean mg mb V r) {o : Expr} {a : Str} {tp pos : Pos} {value : Expr} {ov : AV} {x y : Lin} {H1 H2 : He} {Q : Flow → Shared → Prop} (C : Cx K p loose mean mg mb A h₀ L ei.dp) (O : EnvOk env ei L (adrs news)) (S : SR V w.params h₀ L s.heap m news F H)
    (q1 : r.ev ei F H o = some (ov, H1)) (q2 : getA K H1 ov a = some (.int x)) (q3 : r.ev ei F H1 value = some (.int y, H2)) (q4 : setA K H2 ov a (.int (x.add y)) = some H') (h : PostF V w.params h₀ L Q s news .next F H') :
    wpAny (model prog w) A (exec (.AugAssign (.Attribute o a tp) .Add value pos) env) Q E s := by
  refine wpAny_AugAssign_AttributeAny (R.ev q1 C O S fun u h1 tk1 news1 S1 p1 hu => ?_)
  refine s_getA (s := { s with heap := h1, toks := tk1 }) C S1 hu q2 fun v hv => ?_
  obtain ⟨t, rfl⟩ := hv
  refine R.ev (s := { s with heap := h1, toks := tk1 + 1 }) q3 C (O.mono p1) S1 fun z h2 tk2 news2 S2 p2 hz => ?_
  obtain ⟨t', rfl⟩ := hz
  refine iadd_int ?_
  exact s_setA (s := { s with heap := h2, toks := _ }) (av := .int (x.add y)) C S2 (hu.mono p2) ⟨_, by rw [add_val]⟩ q4 fun h3 news3 S3 e3 => h .next h3 _ m news3 S3 (by rw [e3]; exact p1.trans p2) rfl
end
end Mine
end EvQ_text
section EvR_text
open PySem PySem.W PyProof.Rows PySem.Calls PySem.Spec
set_option Elab.async false
set_option maxRecDepth 100000
set_option maxHeartbeats 4000000
set_option linter.unusedVariables false
namespace Mine
section
variable {prog : Program} {w : World} {K : Frag} {p : Program} {loose : List Str} {mean : ExcName → Option Value} {mg mb : Str → Option Value} {V : Vars} {r : Rec}
  {A : Around} {h₀ : Heap} {L : Addr} {dp un : Nat} {E : Value → Shared → Prop} {s : Shared} {m : Str → Option Value} {news : List (Addr × Obj)} {F F' : Lo} {H H' : He} {env : Env} {ei : EI}

theorem SR.gone {P : Params} (S : SR V P h₀ L s.heap m news F H) {h' : Heap} {i : Nat} {x : Addr} {o : Obj} {b : AO} (e : news[i]? = some (x, o)) (eH : H[i]? = some b) (he : Heap.ExtBut x s.heap h') (hb : isJunk b = false := by rfl) :
    SR V P h₀ L h' m news F (H.set i .junk) := by
  have N := S.nw _ (mem_live eH e hb)
  refine S.drop e eH ⟨S.fr.ns.extBut he (Ne.symm N.2.1), fun c oc ec => he c oc (fun z => ?_) (S.fr.keep c oc ec), S.fr.above⟩ (fun y u hy e => he y u hy e) hb
  have := N.2.2
  rw [← z, ec] at this
  cases this
noncomputable def IterR (V : Vars) (adr : List Addr) (H1 : He) (it : Nat) : Option AV → Option Value → Prop
  | none, v => v = none
  | some a, v => ∃ u, v = some u ∧ VR V adr a u ∧ ((∃ l i, H1[it]? = some (.liter l i)) ∨ ∃ n t, u = .int n t)
theorem s_next {it : Nat} {o : Option AV} {x : Addr} {Q : Option Value → Shared → Prop} (hh : A.handled = none) (S : SR V w.params h₀ L s.heap m news F H) (hx : (adrs news)[it]? = some x) (q : nextH H it = some (o, H'))
    (h : ∀ ov h' tk news', SR V w.params h₀ L h' m news' F H' → adrs news' = adrs news → IterR V (adrs news') H' it o ov → Q ov { s with heap := h', toks := tk }) : wpAny (model prog w) A (pyNext (.ref x)) Q E s := by
  unfold nextH at q; try simp only [getH_eq] at q
  split at q
  · rename_i l i hit
    obtain ⟨ob, g1, g2, y, g3, g4, g5⟩ := S.at hit hx
    split at q
    · rename_i vs hl
      obtain ⟨xs, n, k1, k2, k3, k4⟩ := listAt S hl g3
      split at q
      · rename_i v hv
        split at q
        · rename_i H1 hs
          cases q
          obtain ⟨u, u1, u2⟩ := all2_get k3 hv
          obtain ⟨rfl, _⟩ := setH_eq hs
          refine wpAny_pyNext_list_item (i := i) ⟨ob, g2, g4, g5⟩ k4 (by simpa using u1) fun h' hi' hs' => ?_
          obtain ⟨o', o1, o2, o3⟩ := hi'
          have S' := S.change (a := .liter l (i + 1)) g1 hit hs' o1 ⟨y, g3, o2, o3⟩
          have ea := adrs_set (o' := o') g1
          refine h _ h' s.toks _ S' ea ⟨u, rfl, by rw [ea]; exact u2, .inl ⟨l, i + 1, ?_⟩⟩
          rw [List.getElem?_set_self]
          exact (List.getElem?_eq_some_iff.mp hit).1
        · cases q
      · rename_i hv
        split at q
        · rename_i H1 hs
          cases q
          obtain ⟨rfl, _⟩ := setH_eq hs
          have hlen := k3.length
          have hn : xs.toArray[i]? = none := by
            rw [List.getElem?_toArray, List.getElem?_eq_none_iff, ← hlen]
            exact List.getElem?_eq_none_iff.mp hv
          refine wpAny_pyNext_list_end hh (i := i) ⟨ob, g2, g4, g5⟩ k4 hn fun h' he => ?_
          exact h none h' s.toks news (S.gone g1 hit he) rfl rfl
        · cases q
    · cases q
  · rename_i a n hit
    obtain ⟨ob, g1, g2, rfl⟩ := S.at hit hx
    split at q
    · split at q
      · rename_i H1 hs
        cases q
        obtain ⟨rfl, _⟩ := setH_eq hs
        refine wpAny_pyNext_range_end (x := a) (left := ((0 : Nat) : Int)) (step := 1) hh g2 (Int.le_refl _) fun h' he => ?_
        exact h none h' s.toks news (S.gone g1 hit he) rfl rfl
      · cases q
    · rename_i k
      split at q
      · rename_i H1 hs
        cases q
        obtain ⟨rfl, _⟩ := setH_eq hs
        refine wpAny_pyNext_range_item (x := a) (left := ((k + 1 : Nat) : Int)) (step := 1) g2 (by omega) fun h' hi' hs' => ?_
        have e1 : ((k + 1 : Nat) : Int) - 1 = (k : Int) := by omega
        have S' := S.change (a := .riter (a + 1) k) g1 hit hs' hi' (by rw [e1]; rfl)
        have ea := adrs_set (o' := { cls := .type "range_iterator", dict := none, data := .fields #[rawInt (a + 1), rawInt (((k + 1 : Nat) : Int) - 1), rawInt 1], slots := #[] }) g1
        exact h _ h' _ _ S' ea ⟨_, rfl, ⟨_, by rw [lit_val]⟩, .inr ⟨_, _, rfl⟩⟩
      · cases q
  · cases q

theorem iterH_is {a : AV} {it : Nat} (q : iterH H a = some (it, H')) : ∃ i, a = .ref i ∧ it = H.length ∧ ((∃ vs, H[i]? = some (.list vs) ∧ H' = pushH H (.liter i 0)) ∨ ∃ x y, ∃ n : Nat, H[i]? = some (.rng x y) ∧ y - x = (n : Int) ∧ n < 1000 ∧ x.natAbs < 1000 ∧ H' = pushH H (.riter x n)) := by
  unfold iterH at q; try simp only [getH_eq] at q
  split at q
  · rename_i i
    refine ⟨i, rfl, ?_⟩
    split at q
    · rename_i vs h1
      cases q
      exact ⟨rfl, .inl ⟨vs, h1, rfl⟩⟩
    · rename_i x y h1
      split at q
      · rename_i n hn
        split at q
        · rename_i hc
          cases q
          have hc := Bool.and_eq_true_iff.mp hc
          exact ⟨rfl, .inr ⟨x, y, n, h1, hn, Nat.le_of_ble_eq_true hc.1, Nat.le_of_ble_eq_true hc.2, rfl⟩⟩
        · cases q
      · cases q
    · cases q
  · cases q
theorem s_iter {a : AV} {v : Value} {it : Nat} {Q : Value → Shared → Prop} (S : SR V w.params h₀ L s.heap m news F H) (hv : VR V (adrs news) a v) (q : iterH H a = some (it, H'))
    (h : ∀ x h' news', SR V w.params h₀ L h' m news' F H' → adrs news <+: adrs news' → (adrs news')[it]? = some x → Q (.ref x) { s with heap := h' }) : wpAny (model prog w) A (pyIter v) Q E s := by
  obtain ⟨i, rfl, rfl, ⟨vs, h1, rfl⟩ | ⟨x, y, n, h1, h2, h3, h4, rfl⟩⟩ := iterH_is q
  · obtain ⟨a, ha, rfl⟩ := hv
    obtain ⟨xs, n, k1, k2, k3, k4⟩ := listAt S h1 ha
    refine wpAny_pyIter_list k4 ?_
    obtain ⟨S', hp, hx⟩ := S.push (a := .liter i 0) (S.fr.push _) (S.nw.push S.fr { cls := .type "list_iterator", data := .fields #[.ref a, .int 0 0] }) (fun q hq => Heap.lt_size (S.nw q hq).1) ⟨a, ha, rfl, rfl⟩
    exact h _ _ _ S' hp hx
  · obtain ⟨a, ha, rfl⟩ := hv
    obtain ⟨ob, k1, k2, t, u, v, rfl⟩ := S.at h1 ha
    refine wpAny_pyIter_range k2 (small_one (by omega) (by omega) (by omega) (by omega)) ?_
    have e : Builtin.Range.rangeSize x y 1 = (n : Int) := by rw [rangeSize_nat, h2]; rfl
    rw [e]
    obtain ⟨S', hp, hx⟩ := S.push (a := .riter x n) (S.fr.push _) (S.nw.push S.fr { cls := .type "range_iterator", data := .fields #[rawInt x, rawInt (n : Int), rawInt 1] }) (fun q hq => Heap.lt_size (S.nw q hq).1) rfl
    exact h _ _ _ S' hp hx
theorem s_letOwned {target : Expr} (ht : targetOk target = true) {it : Nat} {x : Addr} {u : Value} {Q : Unit → Shared → Prop} (S : SR V w.params h₀ L s.heap m news F H) (hx : (adrs news)[it]? = some x)
    (hi : (∃ l i, H[it]? = some (.liter l i)) ∨ ∃ n t, u = .int n t) (h : Q () s) : wpAny (model prog w) A (letOwnedTupleGo target (.ref x) u) Q E s := by
  cases target <;> first | (cases ht; done) | skip
  case Name => exact wpAny_pure h
  case Tuple elts k pos =>
    cases u with
    | ref a =>
      rcases hi with ⟨l, i, hi⟩ | ⟨n, t, z⟩
      · obtain ⟨ob, g1, g2, y, g3, g4, g5⟩ := S.at hi hx
        exact wpAny_letOwnedTupleGo_listiter ⟨ob, g2, g4, g5⟩ h
      · cases z
    | _ => exact wpAny_pure h

/-- what all the turns of a loop keep of the state -/
noncomputable def Same (s s' : Shared) : Prop := s'.gens = s.gens ∧ s'.drawn = s.drawn ∧ s'.os = s.os
theorem s_for (R : RecOk prog w K p loose mean mg mb V r) {target : Expr} {it : Nat} {x : Addr} {body : List Stmt} {n : Nat} {a : AF} {Rr : Result → Shared → Prop} (ht : targetOk target = true) (C : Cx K p loose mean mg mb A h₀ L ei.dp)
    (O : EnvOk env ei L (adrs news)) (S : SR V w.params h₀ L s.heap m news F H) (hx : (adrs news)[it]? = some x) (q : forGo r ei target it body n F H = some (a, F', H'))
    (h : PostF V w.params h₀ L (fun f s' => Rr (.ok f) s') s news a F' H') : codeAny (model prog w) A (.forLoop target (.ref x) body [] env) Rr s := by
  refine codeAny_forLoop_any (fun n s' => ∃ F1 H1 m1 h1 tk1 news1, s' = { s with heap := h1, toks := tk1 } ∧ SR V w.params h₀ L h1 m1 news1 F1 H1 ∧ adrs news <+: adrs news1 ∧ forGo r ei target it body n F1 H1 = some (a, F', H'))
    (fun n s' hI => ?_) n ⟨F, H, m, s.heap, s.toks, news, rfl, S, List.prefix_refl _, q⟩
  obtain ⟨F1, H1, m1, h1, tk1, news1, rfl, S1, p1, q⟩ := hI
  cases n with
  | zero => unfold forGo at q; cases q
  | succ n =>
    unfold forGo at q
    split at q
    · cases q
    · rename_i H2 hn
      cases q
      refine s_next (s := { s with heap := h1, toks := tk1 }) C.hand S1 (get_mono p1 hx) hn fun ov h2 tk2 news2 S2 e2 hi => ?_
      have hi : ov = none := hi
      subst hi
      exact wpAny_execs_nil (h .next h2 tk2 m1 news2 S2 (by rw [e2]; exact p1) rfl)
    · rename_i v H2 hn
      refine s_next (s := { s with heap := h1, toks := tk1 }) C.hand S1 (get_mono p1 hx) hn fun ov h2 tk2 news2 S2 e2 hi => ?_
      obtain ⟨u, rfl, hu, hi⟩ := hi
      have p2 : adrs news <+: adrs news2 := by rw [e2]; exact p1
      refine s_letOwned (s := { s with heap := h2, toks := tk2 }) ht S2 (get_mono p2 hx) hi ?_
      split at q
      · cases q
      · rename_i F2 hs
        refine s_stoT (s := { s with heap := h2, toks := tk2 }) C (O.mono p2) S2 hs hu fun h3 tk3 m3 news3 S3 p3 => ?_
        split at q
        · cases q
        · rename_i v F3 H3 hb
          cases q
          refine s_bl (s := { s with heap := h3, toks := tk3 }) R C (O.mono (p2.trans p3)) S3 hb fun f h4 tk4 m4 news4 S4 p4 hf => ?_
          obtain ⟨u', rfl, hu'⟩ := hf
          exact h _ h4 tk4 m4 news4 S4 ((p2.trans p3).trans p4) ⟨u', rfl, hu'⟩
        · rename_i F3 H3 hb
          refine s_bl (s := { s with heap := h3, toks := tk3 }) R C (O.mono (p2.trans p3)) S3 hb fun f h4 tk4 m4 news4 S4 p4 hf => ?_
          cases hf
          exact ⟨n, Nat.lt_succ_self _, F3, H3, m4, h4, tk4, news4, rfl, S4, (p2.trans p3).trans p4, q⟩
theorem s_while (R : RecOk prog w K p loose mean mg mb V r) {test : Expr} {body : List Stmt} {n : Nat} {a : AF} {Rr : Result → Shared → Prop} (C : Cx K p loose mean mg mb A h₀ L ei.dp)
    (O : EnvOk env ei L (adrs news)) (S : SR V w.params h₀ L s.heap m news F H) (q : whileGo r ei test body n F H = some (a, F', H'))
    (h : PostF V w.params h₀ L (fun f s' => Rr (.ok f) s') s news a F' H') : codeAny (model prog w) A (.whileLoop test body [] env) Rr s := by
  refine codeAny_whileLoop (fun n s' => ∃ F1 H1 m1 h1 tk1 news1, s' = { s with heap := h1, toks := tk1 } ∧ SR V w.params h₀ L h1 m1 news1 F1 H1 ∧ adrs news <+: adrs news1 ∧ whileGo r ei test body n F1 H1 = some (a, F', H'))
    (fun n s' hI => ?_) n ⟨F, H, m, s.heap, s.toks, news, rfl, S, List.prefix_refl _, q⟩
  obtain ⟨F1, H1, m1, h1, tk1, news1, rfl, S1, p1, q⟩ := hI
  cases n with
  | zero => unfold whileGo at q; cases q
  | succ n =>
    unfold whileGo at q
    split at q
    · cases q
    · rename_i H2 hn
      cases q
      refine R.tr (s := { s with heap := h1, toks := tk1 }) hn C (O.mono p1) S1 fun h2 tk2 news2 S2 p2 => ?_
      rw [if_neg (by decide)]
      exact wpAny_execs_nil (h .next h2 tk2 m1 news2 S2 (p1.trans p2) rfl)
    · rename_i H2 hn
      refine R.tr (s := { s with heap := h1, toks := tk1 }) hn C (O.mono p1) S1 fun h2 tk2 news2 S2 p2 => ?_
      rw [if_pos rfl]
      split at q
      · cases q
      · rename_i v F3 H3 hb
        cases q
        refine s_bl (s := { s with heap := h2, toks := tk2 }) R C (O.mono (p1.trans p2)) S2 hb fun f h4 tk4 m4 news4 S4 p4 hf => ?_
        obtain ⟨u', rfl, hu'⟩ := hf
        exact h _ h4 tk4 m4 news4 S4 ((p1.trans p2).trans p4) ⟨u', rfl, hu'⟩
      · rename_i F3 H3 hb
        refine s_bl (s := { s with heap := h2, toks := tk2 }) R C (O.mono (p1.trans p2)) S2 hb fun f h4 tk4 m4 news4 S4 p4 hf => ?_
        cases hf
        exact ⟨n, Nat.lt_succ_self _, F3, H3, m4, h4, tk4, news4, rfl, S4, (p1.trans p2).trans p4, q⟩
end
end Mine
end EvR_text
section EvS_text
open PySem PySem.W PyProof.Rows PySem.Calls PySem.Spec
set_option Elab.async false
set_option maxRecDepth 100000
set_option maxHeartbeats 4000000
set_option linter.unusedVariables false
namespace Mine
/-- the cells that a block closes over, in the order in which they are put together -/
noncomputable def clOf (cells : List (Str × Addr)) : List (Str × NameKind) → List (Str × Addr) → List (Str × Addr)
  | [], acc => acc
  | (x, k) :: t, acc => if (k == .free) = true then (match cells.lookup x with | some c => clOf cells t ((x, c) :: acc) | none => clOf cells t acc) else clOf cells t acc
theorem clOf_mem {cells : List (Str × Addr)} : ∀ {names : List (Str × NameKind)} {acc : List (Str × Addr)}, (∀ q ∈ acc, cells.lookup q.1 = some q.2) → ∀ q ∈ clOf cells names acc, cells.lookup q.1 = some q.2
  | [], acc, h, q, hq => h q hq
  | (x, k) :: t, acc, h, q, hq => by
    unfold clOf at hq
    split at hq
    · split at hq
      · rename_i c hc
        refine clOf_mem (fun z hz => ?_) q hq
        rcases List.mem_cons.mp hz with rfl | hz
        · exact hc
        · exact h z hz
      · exact clOf_mem h q hq
    · exact clOf_mem h q hq
theorem clOf_acc {cells : List (Str × Addr)} : ∀ {names : List (Str × NameKind)} {acc : List (Str × Addr)}, ∀ q ∈ acc, q ∈ clOf cells names acc
  | [], acc, q, hq => hq
  | (x, k) :: t, acc, q, hq => by
    unfold clOf
    split
    · split
      · exact clOf_acc q (List.mem_cons_of_mem _ hq)
      · exact clOf_acc q hq
    · exact clOf_acc q hq
theorem clOf_has {cells : List (Str × Addr)} : ∀ {names : List (Str × NameKind)} {acc : List (Str × Addr)} {x : Str} {c : Addr}, (x, NameKind.free) ∈ names → cells.lookup x = some c → (x, c) ∈ clOf cells names acc
  | (y, k) :: t, acc, x, c, hm, hc => by
    unfold clOf
    rcases List.mem_cons.mp hm with e | hm
    · cases e
      rw [if_pos (by decide), hc]
      exact clOf_acc _ List.mem_cons_self
    · split
      · split
        · exact clOf_has hm hc
        · exact clOf_has hm hc
      · exact clOf_has hm hc
theorem lookup_const {cells : List (Str × Addr)} : ∀ {cl : List (Str × Addr)} {x : Str} {c : Addr}, (∀ q ∈ cl, cells.lookup q.1 = some q.2) → (x, c) ∈ cl → cl.lookup x = some c
  | (y, d) :: t, x, c, h, hm => by
    rw [List.lookup_cons]
    cases e : x == y with
    | true =>
      have := eq_of_beq e
      subst this
      have h1 : cells.lookup x = some d := h _ List.mem_cons_self
      have h2 : cells.lookup x = some c := h _ hm
      rw [h1] at h2
      exact h2
    | false =>
      rcases List.mem_cons.mp hm with z | hm
      · cases z
        rw [beq_self_eq_true] at e
        cases e
      · exact lookup_const (fun q hq => h q (List.mem_cons_of_mem _ hq)) hm
theorem closure_is {scope : Scope} {env : Env} (h : ∀ x, (x, NameKind.free) ∈ scope.names → ∃ c, env.cells.lookup x = some c) : closureFor scope env = pure (clOf env.cells scope.names []) := by
  unfold closureFor
  have go : ∀ (names : List (Str × NameKind)) (acc : List (Str × Addr)), (∀ x, (x, NameKind.free) ∈ names → ∃ c, env.cells.lookup x = some c) →
      (forIn names acc fun (x : Str × NameKind) (cs : List (Str × Addr)) => (if (x.2 == .free) = true then do let a ← cellOf env x.1; pure (ForInStep.yield ((x.1, a) :: cs)) else pure (ForInStep.yield cs) : Sem (ForInStep (List (Str × Addr))))) = pure (clOf env.cells names acc) := by
    intro names
    induction names with
    | nil => intro acc _; rfl
    | cons p t ih =>
      intro acc h
      obtain ⟨x, k⟩ := p
      rw [List.forIn_cons]
      unfold clOf
      by_cases hk : (k == .free) = true
      · have := eq_of_beq hk
        subst this
        obtain ⟨c, hc⟩ := h x List.mem_cons_self
        have e1 : cellOf env x = pure c := by unfold cellOf; rw [hc]
        have e2 : (match env.cells.lookup x with | some c => clOf env.cells t ((x, c) :: acc) | none => clOf env.cells t acc) = clOf env.cells t ((x, c) :: acc) := by rw [hc]
        rw [if_pos hk, if_pos hk, e2, ← ih ((x, c) :: acc) fun y hy => h y (List.mem_cons_of_mem _ hy)]
        show (cellOf env x >>= _) >>= _ = _
        rw [e1]
        rfl
      · rw [if_neg hk, if_neg hk]
        exact ih _ fun y hy => h y (List.mem_cons_of_mem _ hy)
  have := go scope.names [] h
  first
    | exact this
    | (rw [← this]; rfl)
    | (simp only [bind_pure] ; exact this)

section
variable {prog : Program} {w : World} {K : Frag} {p : Program} {loose : List Str} {mean : ExcName → Option Value} {mg mb : Str → Option Value} {V : Vars} {r : Rec}
  {A : Around} {h₀ : Heap} {L : Addr} {dp un : Nat} {E : Value → Shared → Prop} {s : Shared} {m : Str → Option Value} {news : List (Addr × Obj)} {F F' : Lo} {H H' : He} {env : Env} {ei : EI}

theorem freeCells_is {adr : List Addr} (O : EnvOk env ei L adr) : ∀ {names : List (Str × NameKind)} {l : List (Nat × Nat)}, freeCells ei names = some l →
    (∀ x, (x, NameKind.free) ∈ names → ∃ c, env.cells.lookup x = some c) ∧ ∀ k i, lkN l k = some i → ∃ x c, tbl[k]? = some x ∧ (x, NameKind.free) ∈ names ∧ env.cells.lookup x = some c ∧ adr[i]? = some c
  | [], l, q => by
    unfold freeCells at q
    cases q
    exact ⟨fun x hx => (nomatch hx), fun k i h => by cases h⟩
  | (x, nk) :: t, l, q => by
    by_cases hk : nk = .free
    · subst hk
      unfold freeCells at q
      split at q
      · rename_i i l' hx hkf hi hl
        cases q
        obtain ⟨h1, h2⟩ := freeCells_is O hl
        obtain ⟨y, c, c1, c2, c3⟩ := O.cells _ _ hi
        have : y = x := Option.some.inj (c1.symm.trans (okStr_get hx))
        subst this
        refine ⟨fun z hz => ?_, fun k j h => ?_⟩
        · rcases List.mem_cons.mp hz with e | hz
          · cases e; exact ⟨c, c2⟩
          · exact h1 z hz
        · unfold lkN at h
          split at h
          · rename_i e
            cases h
            have := Nat.eq_of_beq_eq_true e
            subst this
            exact ⟨y, c, c1, List.mem_cons_self, c2, c3⟩
          · obtain ⟨z, d, d1, d2, d3, d4⟩ := h2 k j h
            exact ⟨z, d, d1, List.mem_cons_of_mem _ d2, d3, d4⟩
      · cases q
    · have q' : freeCells ei t = some l := by
        cases nk <;> first | exact q | exact absurd rfl hk
      obtain ⟨h1, h2⟩ := freeCells_is O q'
      refine ⟨fun z hz => ?_, fun k j h => ?_⟩
      · rcases List.mem_cons.mp hz with e | hz
        · cases e; exact absurd rfl hk
        · exact h1 z hz
      · obtain ⟨z, d, d1, d2, d3, d4⟩ := h2 k j h
        exact ⟨z, d, d1, List.mem_cons_of_mem _ d2, d3, d4⟩
theorem localsWhole_is {names : List (Str × NameKind)} : ∀ {l : List (Str × NameKind)}, localsWhole names l = true → ∀ x ∈ l, x.2 = .local → names.lookup x.1 = some .local
  | [], _, x, hx, _ => (nomatch hx)
  | (y, nk) :: t, h, x, hx, e => by
    by_cases hk : nk = .local
    · subst hk
      unfold localsWhole at h
      split at h
      · rename_i h1 h2
        rcases List.mem_cons.mp hx with rfl | hx
        · exact kf_lookup h1 h2
        · exact localsWhole_is h x hx e
      · cases h
    · have h' : localsWhole names t = true := by cases nk <;> first | exact h | exact absurd rfl hk
      rcases List.mem_cons.mp hx with rfl | hx
      · exact absurd e hk
      · exact localsWhole_is h' x hx e
theorem noOwn_is {y : Str} (hy : okStr y = true) : ∀ {l : List (Str × NameKind)}, noOwn (sid y) l = true → (l.any fun (n, k) => n == y && (k == .local || k == .cell)) = false
  | [], _ => rfl
  | (x, nk) :: t, h => by
    rw [List.any_cons]
    by_cases hk : nk = .local
    · subst hk
      unfold noOwn at h
      dsimp only at h
      split at h
      · rename_i h1 h2
        have hne : (x == y) = false := by
          cases z : x == y with
          | false => rfl
          | true =>
            have := eq_of_beq z
            subst this
            rw [Nat.beq_refl] at h2
            cases h2
        rw [noOwn_is hy h]
        show ((x == y && _) || false) = false
        rw [hne]
        rfl
      · cases h
    · by_cases hc : nk = .cell
      · subst hc
        unfold noOwn at h
        cases h
      · have h' : noOwn (sid y) t = true := by cases nk <;> first | exact h | exact absurd rfl hk | exact absurd rfl hc
        have e1 : (nk == .local) = false := beq_eq_false_iff_ne.mpr hk
        have e2 : (nk == .cell) = false := beq_eq_false_iff_ne.mpr hc
        rw [noOwn_is hy h']
        show ((x == y && (nk == .local || nk == .cell)) || false) = false
        rw [e1, e2]
        simp
theorem relabel_is {adr : List Addr} (O : EnvOk env ei L adr) (scope : Scope) : relabel scope env = relabelK ei.cs scope := by
  unfold relabel relabelK Env.kindOf
  rw [O.scope]
end
end Mine
end EvS_text
section EvT_text
open PySem PySem.W PyProof.Rows PySem.Calls PySem.Spec
set_option Elab.async false
set_option maxRecDepth 100000
set_option maxHeartbeats 4000000
set_option linter.unusedVariables false
namespace Mine
section
variable {prog : Program} {w : World} {K : Frag} {p : Program} {loose : List Str} {mean : ExcName → Option Value} {mg mb : Str → Option Value} {V : Vars} {r : Rec}
  {A : Around} {h₀ : Heap} {L : Addr} {dp un : Nat} {E : Value → Shared → Prop} {s : Shared} {m : Str → Option Value} {news : List (Addr × Obj)} {F F' : Lo} {H H' : He} {env : Env} {ei : EI}

theorem s_storeNs {cenv : Env} {C k : Nat} {G : Lo} {x : Str} {v : Value} {a : AV} {c : Addr} {Q : Unit → Shared → Prop} (S : SR V w.params h₀ L s.heap m news F H) (hC : H[C]? = some (.ns G)) (hc : (adrs news)[C]? = some c) (hl : cenv.locals = c)
    (hk : cenv.kindOf x = some .local) (hf : cenv.scope.kind = .function) (hx : tbl[k]? = some x) (hv : VR V (adrs news) a v) (e : setH H C (.ns (put G k a)) = some H')
    (h : ∀ h' tk news', SR V w.params h₀ L h' m news' F H' → adrs news' = adrs news → Q () { s with heap := h', toks := tk }) : wpAny (model prog w) A (storeName cenv x v) Q E s := by
  obtain ⟨o, g1, g2, es, ep, md, g3, g4, g5, g6⟩ := S.at hC hc
  obtain ⟨rfl, _⟩ := setH_eq e
  refine wpAny_storeName_local (m := md) hk (by rw [hl]; exact ⟨o, es, ep, g2, g3, g4, g5⟩) (fun h' hn hs => ?_) (by rw [hf]; rfl)
  rw [hl] at hn hs
  obtain ⟨o', es', ep', o1, o2, o3, o4⟩ := hn
  exact h h' _ _ (S.change (a := .ns (put G k a)) g1 hC hs o1 ⟨es', ep', _, o2, o3, o4, g6.put hx hv⟩) (adrs_set g1)

theorem s_compGo (R : RecOk prog w K p loose mean mg mb V r) (C : Cx K p loose mean mg mb A h₀ L ei.dp) {cenv : Env} {elt iter : Expr} {x : Str} {px : Pos} {scope : Scope} {pos : Pos} {it D Ci : Nat} {xi xd c : Addr} {n : Nat} {Rr : Result → Shared → Prop}
    (O : EnvOk cenv ei L (adrs news)) (S : SR V w.params h₀ L s.heap m news F H) (hx : okStr x = true) (hi : (adrs news)[it]? = some xi) (hd : (adrs news)[D]? = some xd) (hc : (adrs news)[Ci]? = some c) (hl : cenv.locals = c)
    (hk : cenv.kindOf x = some .local) (q : compGo r ei F (sid x) elt it D Ci n H = some H')
    (h : ∀ h' tk news', SR V w.params h₀ L h' m news' F H' → adrs news <+: adrs news' → Rr (.ok .next) { s with heap := h', toks := tk }) :
    codeAny (model prog w) A (.compLoop (.ListComp elt [⟨.Name x px, iter, [], 0⟩] scope pos) 0 (.ref xi) (.ref xd) cenv) Rr s := by
  refine codeAny_compLoop_list (fun n s' => ∃ H1 h1 tk1 news1, s' = { s with heap := h1, toks := tk1 } ∧ SR V w.params h₀ L h1 m news1 F H1 ∧ adrs news <+: adrs news1 ∧ compGo r ei F (sid x) elt it D Ci n H1 = some H')
    (fun n s' hI => ?_) n ⟨H, s.heap, s.toks, news, rfl, S, List.prefix_refl _, q⟩
  obtain ⟨H1, h1, tk1, news1, rfl, S1, p1, q⟩ := hI
  cases n with
  | zero => unfold compGo at q; cases q
  | succ n =>
    unfold compGo at q; try simp only [getH_eq] at q
    split at q
    · cases q
    · rename_i H2 hn
      cases q
      refine s_next (s := { s with heap := h1, toks := tk1 }) C.hand S1 (get_mono p1 hi) hn fun ov h2 tk2 news2 S2 e2 hi => ?_
      have hi : ov = none := hi
      subst hi
      exact h h2 tk2 news2 S2 (by rw [e2]; exact p1)
    · rename_i v H2 hn
      refine s_next (s := { s with heap := h1, toks := tk1 }) C.hand S1 (get_mono p1 hi) hn fun ov h2 tk2 news2 S2 e2 hi => ?_
      obtain ⟨u, rfl, hu, hi⟩ := hi
      have p2 : adrs news <+: adrs news2 := by rw [e2]; exact p1
      split at q
      · rename_i G hG
        split at q
        · cases q
        · rename_i H3 h3
          refine PyProof.Rows.assign_Name (s_storeNs (s := { s with heap := h2, toks := tk2 }) S2 hG (get_mono p2 hc) hl hk O.fn (okStr_get hx) hu h3 fun h3' tk3 news3 S3 e3 => ?_)
          have p3 : adrs news <+: adrs news3 := by rw [e3]; exact p2
          split at q
          · cases q
          · rename_i y H4 h4
            refine R.ev (s := { s with heap := h3', toks := tk3 }) h4 C (O.mono p3) S3 fun yv h4' tk4 news4 S4 p4 hy => ?_
            split at q
            · rename_i vs hvs
              split at q
              · cases q
              · rename_i hlt
                split at q
                · cases q
                · rename_i H5 h5
                  refine s_append (s := { s with heap := h4', toks := tk4 }) S4 hvs (get_mono (p3.trans p4) hd) hy (Nat.lt_trans (Nat.le_of_ble_eq_true hlt) (by decide)) h5 fun _ h5' tk5 news5 S5 p5 _ => ?_
                  exact ⟨n, Nat.lt_succ_self _, H5, h5', tk5, news5, rfl, S5, (p3.trans p4).trans p5, q⟩
            · cases q
      · cases q

structure CompIs (K : Frag) (r : Rec) (ei : EI) (F : Lo) (H : He) (y : Str) (elt : Expr) (x : Str) (iter : Expr) (scope : Scope) (vline line : Nat) (F' : Lo) (H' : He) : Prop where
  okx : okStr x = true
  oky : okStr y = true
  ns : notSet iter = true
  kind : scope.kind = .function
  cell : noCell scope.names = true
  line : line = vline
  whole : localsWhole scope.names scope.names = true
  own : noOwn (sid y) scope.names = true
  kx : kf scope.names (sid x) = some .local
  ky : kf ei.cs.names (sid y) = some .local
  mode : ei.mode = none
  go : ∃ cells v H1 it H2 H3 G, freeCells ei scope.names = some cells ∧ r.ev ei F H iter = some (v, H1) ∧ iterH H1 v = some (it, H2) ∧
    compGo r ⟨relabelK ei.cs scope, cells, some (H2.length + 1), ei.dp, ei.un⟩ F (sid x) elt it H2.length (H2.length + 1) 60 (pushH (pushH H2 (.list [])) (.ns [])) = some H3 ∧
    H3[H2.length + 1]? = some (.ns G) ∧ setH H3 (H2.length + 1) .junk = some H' ∧ F' = put F (sid y) (.ref H2.length)
theorem comp_inv {y x : Str} {elt iter : Expr} {scope : Scope} {vline line : Nat} (q : compAsg r ei F H y elt x iter scope vline line = some (F', H')) : CompIs K r ei F H y elt x iter scope vline line F' H' := by
  unfold compAsg at q; try simp only [getH_eq] at q
  split at q
  · cases q
  · rename_i hc
    simp only [Bool.and_eq_true] at hc
    obtain ⟨⟨⟨⟨⟨⟨c1, c2⟩, c3⟩, c4⟩, c5⟩, c6⟩, c7⟩ := hc
    have sc : scope.kind = .function ∧ noCell scope.names = true := by
      unfold isFunScope at c4
      split at c4
      · rename_i a b c
        exact ⟨a, c4⟩
      · cases c4
    split at q
    · rename_i k1 k2 k3
      split at q
      · cases q
      · rename_i cells hf
        split at q
        · cases q
        · rename_i v H1 h1
          split at q
          · cases q
          · rename_i it H2 h2
            try dsimp only at q
            split at q
            · cases q
            · rename_i H3 h3
              split at q
              · rename_i G hG
                split at q
                · rename_i H4 h4
                  cases q
                  exact ⟨c1, c2, c3, sc.1, sc.2, Nat.eq_of_beq_eq_true c5, c6, c7, k1, k2, k3, cells, v, H1, it, H2, H3, G, hf, h1, h2, h3, hG, h4, rfl⟩
                · cases q
              · cases q
    · cases q
theorem notSet_folded {e : Expr} (h : notSet e = true) (env : Env) (x : Value) : foldedSetIterable e env x = pure x := by
  cases e <;> first | (cases h; done) | rfl
theorem block_kind {env : Env} (h : env.scope.kind = .function) : env.blockKind = .function := by
  unfold Env.blockKind
  rw [h]
  rfl
theorem s_compAsg (R : RecOk prog w K p loose mean mg mb V r) (C : Cx K p loose mean mg mb A h₀ L ei.dp) (O : EnvOk env ei L (adrs news)) (S : SR V w.params h₀ L s.heap m news F H) {y x : Str} {elt iter : Expr} {scope : Scope} {yp px vp pos : Pos} {Q : Flow → Shared → Prop}
    (q : compAsg r ei F H y elt x iter scope vp.line yp.line = some (F', H')) (h : PostF V w.params h₀ L Q s news .next F' H') :
    wpAny (model prog w) A (exec (.Assign [.Name y yp] (.ListComp elt [⟨.Name x px, iter, [], 0⟩] scope vp) pos) env) Q E s := by
  obtain ⟨okx, oky, ns, kind, cell, line, whole, own, kx, ky, mode, cells, v, H1, it, H2, H3, G, hf, h1, h2, h3, hG, h4, rfl⟩ := comp_inv (K := K) q
  have ek := block_kind O.fn
  have eky := O.kindOf oky ky
  have sw : swapsWith (.ListComp elt [⟨.Name x px, iter, [], 0⟩] scope vp) (some (.Name y yp)) pos.line env = pure true := by
    show (pure (env.blockKind == .function && env.kindOf y == some .local && yp.line == vp.line && !(scope.names.any fun (n, k) => n == y && (k == .local || k == .cell))) : Sem Bool) = pure true
    rw [ek, eky, line, noOwn_is oky own]
    simp
  obtain ⟨hfree, hcells⟩ := freeCells_is O hf
  have hclos := closure_is hfree
  rw [exec_Assign_Name_used _ _ _ _ sw]
  refine wpAny_bind (wpAny_standAt (wpAny_bind ?_))
  show wpAny _ A (do let _ ← comprehension (.ListComp elt [⟨.Name x px, iter, [], 0⟩] scope vp) scope env _ (newList []) false (eval iter env) (some (assign (.Name y yp) env))) _ _ s
  refine wpAny_bind (wpAny_mono (wpAny_comprehension_free (Q := fun _ s' => Q .next s') rfl (notSet_folded ns env) hclos kind (fun z hz e => localsWhole_is whole z hz e) ?_) (fun _ s' hq => wpAny_pure (wpAny_pure hq)) fun _ _ e => e)
  refine R.ev h1 C O S fun v' h1' tk1 news1 S1 p1 hv => ?_
  refine s_iter (s := { s with heap := h1', toks := tk1 }) S1 hv h2 fun xi h2' news2 S2 p2 hxi => ?_
  refine newList_N S2.fr S2.nw (fun h3' F3 N3 => ?_) (Nat.zero_le _)
  obtain ⟨S3, p3, hD⟩ := SR.push (s := { s with heap := h2', toks := tk1 }) (a := .list []) S2 F3 N3 (fun q hq => Heap.lt_size (S2.nw q hq).1) ⟨[], 0, rfl, .nil⟩
  generalize hn3 : news2 ++ [(h2'.objs.size, ({ cls := .type "list", data := .seq ([] : List Value).toArray } : Obj))] = news3 at S3 p3 hD
  refine wpAny_newFunctionEnv (noCell_rel cell) (fun z hz => (nomatch hz)) (fun h4' hns hsb => ?_) kind
  have keep : ∀ b o, h3'.get? b = some o → h4'.get? b = some o := fun b o e => hsb.extBut b o (Nat.ne_of_lt (Heap.lt_size e)) (Heap.get?_push_of_some _ e)
  obtain ⟨on, nes, nep, o1, o2, o3, o4⟩ := hns
  obtain ⟨S4, p4, hC⟩ := SR.push (s := { s with heap := h3', toks := tk1 }) (a := .ns []) S3 (S3.fr.keeps keep) (news_pushed (s := { s with heap := h3', toks := tk1 }) S3.fr S3.nw keep o1 rfl) (fun q hq => Heap.lt_size (S3.nw q hq).1) ⟨nes, nep, _, o2, o3, o4, fun _ _ z => by cases z⟩
  have el : (pushH H2 (.list [])).length = H2.length + 1 := by rw [pushH_eq]; simp
  rw [el] at hC
  have hxi4 := get_mono (p3.trans p4) hxi
  have hD4 := get_mono p4 hD
  have pp := ((p1.trans p2).trans p3).trans p4
  generalize hn4 : news3 ++ [(h3'.objs.size, on)] = news4 at *
  have O4 : EnvOk { newEnv scope h3'.objs.size env.globals (clOf env.cells scope.names []) env.qual none .none (some env) 0 with scope := relabel scope env } ⟨relabelK ei.cs scope, cells, some (H2.length + 1), ei.dp, ei.un⟩ L (adrs news4) := by
    refine ⟨relabel_is O scope, kind, O.glob, O.bui, hC, fun k i hki => ?_⟩
    obtain ⟨z, c, c1, c2, c3, c4⟩ := hcells k i hki
    exact ⟨z, c, c1, lookup_const (cells := env.cells) (clOf_mem (fun _ hq => (nomatch hq))) (clOf_has c2 c3), get_mono pp c4⟩
  have hkx : Env.kindOf { newEnv scope h3'.objs.size env.globals (clOf env.cells scope.names []) env.qual none .none (some env) 0 with scope := relabel scope env } x = some .local := lookup_relabel_local (kf_lookup okx kx)
  have fin : codeAny (model prog w) A (.compLoop (.ListComp elt [⟨.Name x px, iter, [], 0⟩] scope vp) 0 (.ref xi) (.ref h2'.objs.size) { newEnv scope h3'.objs.size env.globals (clOf env.cells scope.names []) env.qual none .none (some env) 0 with scope := relabel scope env })
      (compPost (model prog w) A E (some (assign (.Name y yp) env)) (fun _ s' => Q .next s') (.ref h2'.objs.size) h3'.objs.size) { s with heap := h4', toks := tk1 } := by
    refine s_compGo (s := { s with heap := h4', toks := tk1 }) (ei := ⟨relabelK ei.cs scope, cells, some (H2.length + 1), ei.dp, ei.un⟩) R C O4 S4 okx hxi4 hD4 hC rfl hkx h3 fun h5 tk5 news5 S5 p5 => ?_
    have hD5 := get_mono p5 hD4
    have hC5 := get_mono p5 hC
    have qs : stoN ei F y (.ref H2.length) = some (put F (sid y) (.ref H2.length)) := by
      unfold stoN
      rw [oky, mode]
      dsimp only
      rw [ky]
    show wpAny _ _ (assign (.Name y yp) env (.ref h2'.objs.size)) _ _ _
    refine PyProof.Rows.assign_Name (s_stoN (s := { s with heap := h5, toks := tk5 }) C (O.mono (pp.trans p5)) S5 qs ⟨_, hD5, rfl⟩ fun h6 tk6 m6 news6 S6 p6 => ?_)
    have hC6 := get_mono p6 hC5
    obtain ⟨o6, g1, g2, es6, ep6, m7, g3, g4, g5, g6⟩ := S6.at hG hC6
    refine ⟨m7, ⟨o6, es6, ep6, g2, g3, g4, g5⟩, fun h7 hs7 => ?_⟩
    obtain ⟨rfl, _⟩ := setH_eq h4
    exact h .next h7 tk6 m6 news6 (SR.gone (s := { s with heap := h6, toks := tk6 }) S6 g1 hG hs7.extBut) ((pp.trans p5).trans p6) rfl
  refine codeAny_compStart_list fin ?_
  have hl4 : ∀ {a : AO}, H2[it]? = some a → (pushH (pushH H2 (.list [])) (.ns []))[it]? = some a := fun {a} e => by
    have lt := (List.getElem?_eq_some_iff.mp e).1
    rw [pushH_eq, pushH_eq, List.append_assoc, List.getElem?_append_left lt]
    exact e
  obtain ⟨i, _, rfl, ⟨vs, _, rfl⟩ | ⟨a, b, n, _, _, _, _, rfl⟩⟩ := iterH_is h2
  · have e0 : (pushH H1 (.liter i 0))[H1.length]? = some (.liter i 0) := by rw [pushH_eq]; simp
    obtain ⟨ob, g1, g2, z, g3, g4, g5⟩ := S4.at (hl4 e0) hxi4
    exact wpAny_pyIter_listiter ⟨ob, g2, g4, g5⟩ fin
  · have e0 : (pushH H1 (.riter a n))[H1.length]? = some (.riter a n) := by rw [pushH_eq]; simp
    obtain ⟨ob, g1, g2, rfl⟩ := S4.at (hl4 e0) hxi4
    exact wpAny_pyIter_rangeiter g2 fin
end
end Mine
end EvT_text
section EvU_text
open PySem PySem.W PyProof.Rows PySem.Calls PySem.Spec
set_option Elab.async false
set_option maxRecDepth 100000
set_option maxHeartbeats 4000000
set_option linter.unusedVariables false
namespace Mine
section
variable {prog : Program} {w : World} {K : Frag} {p : Program} {loose : List Str} {mean : ExcName → Option Value} {mg mb : Str → Option Value} {V : Vars} {r : Rec}
  {A : Around} {h₀ : Heap} {L : Addr} {dp un : Nat} {E : Value → Shared → Prop} {s : Shared} {m : Str → Option Value} {news : List (Addr × Obj)} {F F' : Lo} {H H' : He} {env : Env} {ei : EI}

theorem s_if (R : RecOk prog w K p loose mean mg mb V r) {t : Expr} {b o : List Stmt} {pos : Pos} {a : AF} {Q : Flow → Shared → Prop} (C : Cx K p loose mean mg mb A h₀ L ei.dp) (O : EnvOk env ei L (adrs news)) (S : SR V w.params h₀ L s.heap m news F H)
    (q : (match r.tr ei F H t with | some (true, H1) => bl r ei F H1 b | some (false, H1) => bl r ei F H1 o | none => none) = some (a, F', H')) (h : PostF V w.params h₀ L Q s news a F' H') : wpAny (model prog w) A (exec (.If t b o pos) env) Q E s := by
  split at q
  · rename_i H1 h1
    refine wpAny_If (R.tr h1 C O S fun h' tk news' S' hp => ?_)
    rw [if_pos rfl]
    exact s_bl (s := { s with heap := h', toks := tk }) R C (O.mono hp) S' q fun f h2 tk2 m2 news2 S2 p2 hf => h f h2 tk2 m2 news2 S2 (hp.trans p2) hf
  · rename_i H1 h1
    refine wpAny_If (R.tr h1 C O S fun h' tk news' S' hp => ?_)
    rw [if_neg (by decide)]
    exact s_bl (s := { s with heap := h', toks := tk }) R C (O.mono hp) S' q fun f h2 tk2 m2 news2 S2 p2 hf => h f h2 tk2 m2 news2 S2 (hp.trans p2) hf
  · cases q
theorem s_try (R : RecOk prog w K p loose mean mg mb V r) {body fin : List Stmt} {eh : ExceptHandler} {hs : List ExceptHandler} {f₀ : Stmt} {fs : List Stmt} {pos : Pos} {v : AV} {F1 : Lo} {H1 : He} {Q : Flow → Shared → Prop} (C : Cx K p loose mean mg mb A h₀ L ei.dp) (O : EnvOk env ei L (adrs news)) (S : SR V w.params h₀ L s.heap m news F H)
    (q1 : bl r ei F H body = some (.ret v, F1, H1)) (q2 : bl r ei F1 H1 (f₀ :: fs) = some (.next, F', H')) (h : PostF V w.params h₀ L Q s news (.ret v) F' H') : wpAny (model prog w) A (exec (.Try body (eh :: hs) [] (f₀ :: fs) pos) env) Q E s := by
  refine wpAny_Try_except_finally (s_bl R C O S q1 fun f h1 tk1 m1 news1 S1 p1 hf => ?_)
  obtain ⟨u, rfl, hu⟩ := hf
  refine s_bl (s := { s with heap := h1, toks := tk1 }) R C (O.mono p1) S1 q2 fun f h2 tk2 m2 news2 S2 p2 hf => ?_
  cases hf
  exact h _ h2 tk2 m2 news2 S2 (p1.trans p2) ⟨u, rfl, hu.mono p2⟩
theorem noGen_inter {env : Env} (h : env.scope.kind = .function) : interactive env = false := by
  unfold interactive
  rw [h]
  rfl
theorem s_asgName (R : RecOk prog w K p loose mean mg mb V r) {x : Str} {xp : Pos} {value : Expr} (ho : valOk value = true) {pos : Pos} {a : AF} {Q : Flow → Shared → Prop} (q : asgName r ei F H x value = some (a, F', H')) (C : Cx K p loose mean mg mb A h₀ L ei.dp) (O : EnvOk env ei L (adrs news)) (S : SR V w.params h₀ L s.heap m news F H)
    (h : PostF V w.params h₀ L Q s news a F' H') : wpAny (model prog w) A (exec (.Assign [.Name x xp] value pos) env) Q E s := by
  unfold asgName at q
  split at q
  · cases q
  · rename_i v H1 h1
    split at q
    · rename_i F1 h2
      cases q
      exact s_AsgName R C O S ho h1 h2 h
    · cases q
theorem s_asgAttr (R : RecOk prog w K p loose mean mg mb V r) {o : Expr} {x : Str} {ap : Pos} {value : Expr} (ho : valOk value = true) {pos : Pos} {a : AF} {Q : Flow → Shared → Prop} (q : asgAttr K r ei F H o x value = some (a, F', H')) (C : Cx K p loose mean mg mb A h₀ L ei.dp) (O : EnvOk env ei L (adrs news)) (S : SR V w.params h₀ L s.heap m news F H)
    (h : PostF V w.params h₀ L Q s news a F' H') : wpAny (model prog w) A (exec (.Assign [.Attribute o x ap] value pos) env) Q E s := by
  unfold asgAttr at q
  split at q
  · cases q
  · rename_i v H1 h1
    unfold asgAttr2 at q
    split at q
    · cases q
    · rename_i ov H2 h2
      split at q
      · rename_i H3 h3
        cases q
        exact s_AsgAttr R C O S ho h1 h2 h3 h
      · cases q
theorem s_asgSub (R : RecOk prog w K p loose mean mg mb V r) {o i : Expr} {ap : Pos} {value : Expr} {pos : Pos} {a : AF} {Q : Flow → Shared → Prop} (q : asgSub r ei F H o i value = some (a, F', H')) (C : Cx K p loose mean mg mb A h₀ L ei.dp) (O : EnvOk env ei L (adrs news)) (S : SR V w.params h₀ L s.heap m news F H)
    (h : PostF V w.params h₀ L Q s news a F' H') : wpAny (model prog w) A (exec (.Assign [.Subscript o i ap] value pos) env) Q E s := by
  unfold asgSub at q
  split at q
  · cases q
  · rename_i ho
    have ho := (Bool.and_eq_true_iff.mp ho).1
    split at q
    · cases q
    · rename_i v H1 h1
      unfold asgSub1 at q
      split at q
      · rename_i d H2 h2
        unfold asgSub2 at q
        split at q
        · rename_i k H3 h3
          unfold asgSub3 at q; try simp only [getH_eq] at q
          split at q
          · rename_i es h4
            split at q
            · rename_i hl
              split at q
              · rename_i H4 h5
                cases q
                have hl := Bool.and_eq_true_iff.mp hl
                exact s_AsgSub R C O S ho h1 h2 h3 h4 (Nat.le_of_ble_eq_true hl.1) hl.2 h5 h
              · cases q
            · cases q
          · cases q
        · cases q
      · cases q
theorem s_asgTup (R : RecOk prog w K p loose mean mg mb V r) {es : List Expr} {k : Nat} {tp : Pos} {value : Expr} {pos : Pos} {a : AF} {Q : Flow → Shared → Prop} (q : asgTup r ei F H es k tp value = some (a, F', H')) (C : Cx K p loose mean mg mb A h₀ L ei.dp) (O : EnvOk env ei L (adrs news)) (S : SR V w.params h₀ L s.heap m news F H)
    (h : PostF V w.params h₀ L Q s news a F' H') : wpAny (model prog w) A (exec (.Assign [.Tuple es k tp] value pos) env) Q E s := by
  unfold asgTup at q
  split at q
  · cases q
  · rename_i ho
    split at q
    · cases q
    · rename_i v H1 h1
      split at q
      · rename_i F1 h2
        cases q
        exact s_AsgTup R C O S ho h1 h2 h
      · cases q
theorem genOf_is {gs : List Comprehension} {z : Str} {iter : Expr} (h : genOf gs = some (z, iter)) : ∃ zp, gs = [⟨.Name z zp, iter, [], 0⟩] := by
  unfold genOf at h
  split at h
  · cases h
  · split at h
    · cases h; exact ⟨_, rfl⟩
    · cases h
theorem s_asgComp (R : RecOk prog w K p loose mean mg mb V r) {x : Str} {xp : Pos} {value : Expr} {pos : Pos} {a : AF} {Q : Flow → Shared → Prop} (q : asgComp r ei F H x xp.line value = some (a, F', H')) (C : Cx K p loose mean mg mb A h₀ L ei.dp) (O : EnvOk env ei L (adrs news)) (S : SR V w.params h₀ L s.heap m news F H)
    (h : PostF V w.params h₀ L Q s news a F' H') : wpAny (model prog w) A (exec (.Assign [.Name x xp] value pos) env) Q E s := by
  cases value with
  | ListComp elt gs scope vp =>
    replace q : asgComp2 r ei F H x xp.line elt scope vp.line (genOf gs) = some (a, F', H') := q
    unfold asgComp2 at q
    split at q
    · cases q
    · rename_i z iter hg
      obtain ⟨zp, rfl⟩ := genOf_is hg
      split at q
      · rename_i hc
        cases q
        exact s_compAsg (K := K) R C O S hc h
      · cases q
  | _ => exact (no_some q).elim
theorem s_asgTo (R : RecOk prog w K p loose mean mg mb V r) {t value : Expr} {pos : Pos} {a : AF} {Q : Flow → Shared → Prop} (q : asgTo K r ei F H t value = some (a, F', H')) (C : Cx K p loose mean mg mb A h₀ L ei.dp) (O : EnvOk env ei L (adrs news)) (S : SR V w.params h₀ L s.heap m news F H)
    (h : PostF V w.params h₀ L Q s news a F' H') : wpAny (model prog w) A (exec (.Assign [t] value pos) env) Q E s := by
  cases t with
  | Name x xp =>
    have q : (match valOk value with | false => asgComp r ei F H x xp.line value | true => asgName r ei F H x value) = some (a, F', H') := q
    split at q
    · exact s_asgComp R q C O S h
    · rename_i ho
      exact s_asgName R ho q C O S h
  | Attribute o x ap =>
    have q : (match valOk value with | false => none | true => asgAttr K r ei F H o x value) = some (a, F', H') := q
    split at q
    · cases q
    · rename_i ho
      exact s_asgAttr R ho q C O S h
  | Subscript o i ap => exact s_asgSub R q C O S h
  | Tuple es k tp => exact s_asgTup R q C O S h
  | _ => exact (no_some q).elim
theorem s_stAsg (R : RecOk prog w K p loose mean mg mb V r) {ts : List Expr} {value : Expr} {pos : Pos} {a : AF} {Q : Flow → Shared → Prop} (q : stAsg K r ei F H ts value = some (a, F', H')) (C : Cx K p loose mean mg mb A h₀ L ei.dp) (O : EnvOk env ei L (adrs news)) (S : SR V w.params h₀ L s.heap m news F H)
    (h : PostF V w.params h₀ L Q s news a F' H') : wpAny (model prog w) A (exec (.Assign ts value pos) env) Q E s := by
  cases ts with
  | nil => exact (no_some q).elim
  | cons t more =>
    cases more with
    | nil => exact s_asgTo R q C O S h
    | cons _ _ => exact (no_some q).elim
theorem s_stAug (R : RecOk prog w K p loose mean mg mb V r) {t : Expr} {op : Operator} {value : Expr} {pos : Pos} {a : AF} {Q : Flow → Shared → Prop} (q : stAug K r ei F H t op value = some (a, F', H')) (C : Cx K p loose mean mg mb A h₀ L ei.dp) (O : EnvOk env ei L (adrs news)) (S : SR V w.params h₀ L s.heap m news F H)
    (h : PostF V w.params h₀ L Q s news a F' H') : wpAny (model prog w) A (exec (.AugAssign t op value pos) env) Q E s := by
  cases t with
  | Attribute o x ap =>
    have q : augGet K r ei F op x value (r.ev ei F H o) = some (a, F', H') := q
    unfold augGet at q
    split at q
    · cases q
    · rename_i ov H1 h1
      split at q
      · rename_i z h2
        unfold augSet at q
        split at q
        · rename_i y H2 h3
          cases op with
          | Add =>
            dsimp only at q
            split at q
            · rename_i H3 h4
              cases q
              exact s_AugAttr R C O S h1 h2 h3 h4 h
            · cases q
          | _ => exact (no_some q).elim
        · cases q
      · cases q
  | _ => exact (no_some q).elim
theorem s_stExpr (R : RecOk prog w K p loose mean mg mb V r) {e : Expr} {pos : Pos} {a : AF} {Q : Flow → Shared → Prop} (q : stExpr r ei F H e = some (a, F', H')) (C : Cx K p loose mean mg mb A h₀ L ei.dp) (O : EnvOk env ei L (adrs news)) (S : SR V w.params h₀ L s.heap m news F H)
    (h : PostF V w.params h₀ L Q s news a F' H') : wpAny (model prog w) A (exec (.Expr e pos) env) Q E s := by
  unfold stExpr at q
  split at q
  · cases q
  · rename_i ho
    split at q
    · rename_i v H1 h1
      split at q
      · rename_i hn
        cases q
        refine wpAny_Expr (R.ev h1 C O S fun u h' tk news' S' hp hv => ?_) (noGen_inter O.fn) (valOk_swaps ho _ _ _)
        have hq := h .next h' tk m news' S' hp rfl
        cases v with
        | none => cases hv; exact hq
        | bool b => cases hv; exact hq
        | int l => obtain ⟨t, rfl⟩ := hv; exact hq
        | str k => obtain ⟨x, t, _, rfl⟩ := hv; exact hq
        | bi b => cases hv; cases b <;> exact hq
        | _ => cases hn
      · cases q
    · cases q
theorem s_stRet (R : RecOk prog w K p loose mean mg mb V r) {v : Option Expr} {pos : Pos} {a : AF} {Q : Flow → Shared → Prop} (q : stRet r ei F H v = some (a, F', H')) (C : Cx K p loose mean mg mb A h₀ L ei.dp) (O : EnvOk env ei L (adrs news)) (S : SR V w.params h₀ L s.heap m news F H)
    (h : PostF V w.params h₀ L Q s news a F' H') : wpAny (model prog w) A (exec (.Return v pos) env) Q E s := by
  cases v with
  | none =>
    have q : some (AF.ret .none, F, H) = some (a, F', H') := q
    cases q
    exact wpAny_Return_none (h _ s.heap s.toks m news S (List.prefix_refl _) ⟨_, rfl, rfl⟩)
  | some e =>
    unfold stRet at q
    dsimp only at q
    split at q
    · rename_i v H1 h1
      cases q
      exact wpAny_Return_some (R.ev h1 C O S fun u h' tk news' S' hp hv => h _ h' tk m news' S' hp ⟨u, rfl, hv⟩)
    · cases q
theorem s_stFor (R : RecOk prog w K p loose mean mg mb V r) {t it : Expr} {body orelse : List Stmt} {pos : Pos} {a : AF} {Q : Flow → Shared → Prop} (q : stFor r ei F H t it body orelse = some (a, F', H')) (C : Cx K p loose mean mg mb A h₀ L ei.dp) (O : EnvOk env ei L (adrs news)) (S : SR V w.params h₀ L s.heap m news F H)
    (h : PostF V w.params h₀ L Q s news a F' H') : wpAny (model prog w) A (exec (.For t it body orelse pos) env) Q E s := by
  cases orelse with
  | cons _ _ => exact (no_some q).elim
  | nil =>
    unfold stFor at q
    dsimp only at q
    split at q
    · rename_i hc
      have hc := Bool.and_eq_true_iff.mp hc
      unfold stFor2 at q
      split at q
      · cases q
      · rename_i v H1 h1
        split at q
        · cases q
        · rename_i i H2 h2
          refine wpAny_For (R.ev h1 C O S fun u h1' tk1 news1 S1 p1 hv => ?_) (notSet_folded hc.1 env)
          refine s_iter (s := { s with heap := h1', toks := tk1 }) S1 hv h2 fun xi h2' news2 S2 p2 hxi => ?_
          exact s_for (s := { s with heap := h2', toks := tk1 }) R hc.2 C (O.mono (p1.trans p2)) S2 hxi q fun f h3 tk3 m3 news3 S3 p3 hf => h f h3 tk3 m3 news3 S3 ((p1.trans p2).trans p3) hf
    · cases q
theorem s_stTry (R : RecOk prog w K p loose mean mg mb V r) {body : List Stmt} {hs : List ExceptHandler} {orelse fin : List Stmt} {pos : Pos} {a : AF} {Q : Flow → Shared → Prop} (q : stTry r ei F H body hs orelse fin = some (a, F', H')) (C : Cx K p loose mean mg mb A h₀ L ei.dp) (O : EnvOk env ei L (adrs news)) (S : SR V w.params h₀ L s.heap m news F H)
    (h : PostF V w.params h₀ L Q s news a F' H') : wpAny (model prog w) A (exec (.Try body hs orelse fin pos) env) Q E s := by
  cases hs with
  | nil => exact (no_some q).elim
  | cons eh hs =>
    cases orelse with
    | cons _ _ => exact (no_some q).elim
    | nil =>
      cases fin with
      | nil => exact (no_some q).elim
      | cons f₀ fs =>
        have q : stFin r ei (f₀ :: fs) (bl r ei F H body) = some (a, F', H') := q
        unfold stFin at q
        split at q
        · rename_i v F1 H1 h1
          split at q
          · rename_i F2 H2 h2
            cases q
            exact s_try (fin := []) R C O S h1 h2 h
          · cases q
        · cases q
theorem s_stF (R : RecOk prog w K p loose mean mg mb V r) {st : Stmt} {a : AF} {Q : Flow → Shared → Prop} (q : stF K r ei F H st = some (a, F', H')) (C : Cx K p loose mean mg mb A h₀ L ei.dp) (O : EnvOk env ei L (adrs news)) (S : SR V w.params h₀ L s.heap m news F H)
    (h : PostF V w.params h₀ L Q s news a F' H') : wpAny (model prog w) A (exec st env) Q E s := by
  cases st with
  | Assign ts value pos => exact s_stAsg R q C O S h
  | AugAssign t op value pos => exact s_stAug R q C O S h
  | Expr e pos => exact s_stExpr R q C O S h
  | If t b o pos => exact s_if R C O S q h
  | Return v pos => exact s_stRet R q C O S h
  | Pass pos =>
    have q : some (AF.next, F, H) = some (a, F', H') := q
    cases q
    exact wpAny_Pass (h .next s.heap s.toks m news S (List.prefix_refl _) rfl)
  | For t it body orelse pos => exact s_stFor R q C O S h
  | While t body orelse pos =>
    cases orelse with
    | nil => exact wpAny_While (s_while R C O S q fun f h3 tk3 m3 news3 S3 p3 hf => h f h3 tk3 m3 news3 S3 p3 hf)
    | cons _ _ => exact (no_some q).elim
  | Try body hs orelse fin pos => exact s_stTry R q C O S h
  | _ => exact (no_some q).elim
theorem tower_ok (VO : VarsOk V) : ∀ n : Nat, RecOk prog w K p loose mean mg mb V (tower K n)
  | 0 => ⟨fun q => (nomatch q), fun q => (nomatch q), fun q => (nomatch q)⟩
  | n + 1 =>
    have R := tower_ok VO n
    by
      constructor
      · intro ei F H e a H' q A h₀ L m news s env Q E C O S h
        exact s_evF R VO q C O S h
      · intro ei F H e a H' q A h₀ L m news s env Q E C O S h
        exact s_trF R VO q C O S h
      · intro ei F H e a F' H' q A h₀ L m news s env Q E C O S h
        exact s_stF R q C O S h
end
end Mine
end EvU_text
section EvV_text
open PySem PySem.W PyProof.Rows PySem.Calls PySem.Spec
set_option Elab.async false
set_option maxRecDepth 100000
set_option maxHeartbeats 4000000
set_option linter.unusedVariables false
namespace Mine
/-! a new root: what a turn has made becomes archive -/
noncomputable def linEq (a b : Lin) : Bool := intZ (a.sub b).g && intZ (a.sub b).s && intZ (a.sub b).t && intZ (a.sub b).c
noncomputable def linLit (a : Lin) : Bool := intZ a.g && intZ a.s && intZ a.t
noncomputable def sVar (k : Int) : Lin := ⟨0, 1, 0, k⟩
noncomputable def tVar : Lin := ⟨0, 0, 1, 0⟩
theorem linEq_is {a b : Lin} (h : linEq a b = true) (V : Vars) : a.val V = b.val V := by
  unfold linEq at h
  simp only [Bool.and_eq_true] at h
  obtain ⟨⟨⟨h1, h2⟩, h3⟩, h4⟩ := h
  have := sub_val V a b
  unfold Lin.val at this
  rw [intZ_is h1, intZ_is h2, intZ_is h3, intZ_is h4] at this
  unfold Lin.val
  omega
theorem linLit_is {a : Lin} (h : linLit a = true) (V : Vars) : a.val V = a.c := by
  unfold linLit at h
  simp only [Bool.and_eq_true] at h
  unfold Lin.val
  rw [intZ_is h.1.1, intZ_is h.1.2, intZ_is h.2]
  omega
noncomputable def canonL (k : Int) (l' l : Lin) : Bool := (linLit l && linEq l' l) || (linEq l (sVar 0) && linEq l' (sVar k))
theorem canonL_is {V V' : Vars} {k : Int} {l' l : Lin} (hs : V'.s = V.s + k) (h : canonL k l' l = true) : l'.val V = l.val V' := by
  unfold canonL at h
  rcases Bool.or_eq_true_iff.mp h with h | h
  · have h := Bool.and_eq_true_iff.mp h
    rw [linEq_is h.2 V, linLit_is h.1 V, linLit_is h.1 V']
  · have h := Bool.and_eq_true_iff.mp h
    rw [linEq_is h.2 V, linEq_is h.1 V']
    unfold Lin.val sVar
    dsimp only
    omega
noncomputable def canonA (n : Nat) (k : Int) (a' a : AV) : Bool := match a with
  | .any => true
  | .none => (match a' with | .none => true | _ => false)
  | .bool b => (match a' with | .bool b' => b' == b | _ => false)
  | .int l => (match a' with | .int l' => canonL k l' l | _ => false)
  | .str x => (match a' with | .str y => Nat.beq y x | _ => false)
  | .ref i => (match a' with | .ref j => Nat.beq j i && Nat.blt i n | _ => false)
  | .kref x => (match a' with | .kref y => Nat.beq y x | _ => false)
  | .bi _ => false
theorem canonA_is {V V' : Vars} {n : Nat} {k : Int} {adr : List Addr} {a' a : AV} {v : Value} (hs : V'.s = V.s + k) (h : canonA n k a' a = true) (hv : VR V adr a' v) : VR V' (adr.take n) a v := by
  cases a with
  | any => exact hv.handed
  | none => cases a' <;> first | (cases h; done) | exact hv
  | bool b =>
    cases a' <;> first | (cases h; done) | skip
    have := eq_of_beq h
    subst this
    exact hv
  | int l =>
    cases a' <;> first | (cases h; done) | skip
    obtain ⟨t, rfl⟩ := hv
    exact ⟨t, by rw [canonL_is hs h]⟩
  | str x =>
    cases a' <;> first | (cases h; done) | skip
    have := Nat.eq_of_beq_eq_true h
    subst this
    exact hv
  | ref i =>
    cases a' <;> first | (cases h; done) | skip
    have h := Bool.and_eq_true_iff.mp h
    have := Nat.eq_of_beq_eq_true h.1
    subst this
    obtain ⟨x, hx, rfl⟩ := hv
    exact ⟨x, by rw [List.getElem?_take_of_lt (Nat.le_of_ble_eq_true h.2)]; exact hx, rfl⟩
  | kref x =>
    cases a' <;> first | (cases h; done) | skip
    have := Nat.eq_of_beq_eq_true h
    subst this
    exact hv
  | bi b => cases h
noncomputable def canonAs (n : Nat) (k : Int) : List AV → List AV → Bool
  | [], [] => true
  | a :: t, b :: u => canonA n k a b && canonAs n k t u
  | [], _ :: _ => false
  | _ :: _, [] => false
theorem canonAs_is {V V' : Vars} {n : Nat} {k : Int} {adr : List Addr} (hs : V'.s = V.s + k) : ∀ {as' as : List AV} {vs : List Value}, canonAs n k as' as = true → VRs V adr as' vs → VRs V' (adr.take n) as vs
  | [], [], _, _, .nil => .nil
  | a :: t, b :: u, _, h, .cons hv hr => by
    have h := Bool.and_eq_true_iff.mp h
    exact .cons (canonA_is hs h.1 hv) (canonAs_is hs h.2 hr)
  | [], _ :: _, _, h, _ => by cases h
  | _ :: _, [], _, h, _ => by cases h
noncomputable def canonE (n : Nat) (k : Int) : Lo → Lo → Bool
  | [], [] => true
  | (x, a) :: t, (y, b) :: u => Nat.beq x y && canonA n k a b && canonE n k t u
  | [], _ :: _ => false
  | _ :: _, [] => false
theorem canonE_is {V V' : Vars} {P : Params} {n : Nat} {k : Int} {adr : List Addr} (hs : V'.s = V.s + k) : ∀ {es' es : Lo} {des : List DictEntry}, canonE n k es' es = true → All2 (ER V adr P) es' des → All2 (ER V' (adr.take n) P) es des
  | [], [], _, _, .nil => .nil
  | (x, a) :: t, (y, b) :: u, _, h, .cons ⟨z, tk, h1, h2, h3, h4⟩ hr => by
    have h := Bool.and_eq_true_iff.mp h
    have h' := Bool.and_eq_true_iff.mp h.1
    have := Nat.eq_of_beq_eq_true h'.1
    subst this
    exact .cons ⟨z, tk, h1, h2, h3, canonA_is hs h'.2 h4⟩ (canonE_is hs h.2 hr)
  | [], _ :: _, _, h, _ => by cases h
  | _ :: _, [], _, h, _ => by cases h
/-- the object at place i, and what it is told as from now on -/
noncomputable def cellO : AO → Option (Option AV)
  | .cell v => some v
  | _ => none
theorem cellO_is {a : AO} {v : Option AV} (h : cellO a = some v) : a = .cell v := by cases a <;> first | (exact (no_some h).elim) | (cases h; rfl)
noncomputable def opqO : AO → Option Nat
  | .opq v => some v
  | _ => none
theorem opqO_is {a : AO} {v : Nat} (h : opqO a = some v) : a = .opq v := by cases a <;> first | (exact (no_some h).elim) | (cases h; rfl)
noncomputable def canonC (n : Nat) (k : Int) (a' a : Option AV) : Bool := tst a fun a => tst a' fun a' => canonA n k a' a
noncomputable def canonLen (dt : Nat) (l l' : Option Lin) (vs' : List AV) : Bool := match l with
  | some l => tst l' fun l' => linEq l tVar && (linEq l' tVar && Nat.beq vs'.length dt)
  | none => true
noncomputable def canonP (dt : Nat) (pl : List Nat) (i j : Nat) (l : Option Lin) (vs : List AV) (q : Nat × Option Lin × List AV) : Bool := vs.isEmpty && (Nat.beq q.1 j && (tst pl[j]? (fun p => Nat.beq p i) && canonLen dt l q.2.1 q.2.2))
noncomputable def canonO1 (n : Nat) (k : Int) (dt : Nat) (pl : List Nat) (i : Nat) (o' o : AO) : Bool := match o with
  | .inst C d => tst (instO o') fun q => Nat.beq q.1 C && (Nat.beq q.2 d && Nat.blt d n)
  | .dict es => tst (dictO o') fun es' => canonE n k es' es
  | .list vs => tst (listO o') fun vs' => canonAs n k vs' vs
  | .tup vs => tst (tupO o') fun vs' => canonAs n k vs' vs
  | .cell a => tst (cellO o') fun a' => canonC n k a' a
  | .opq j => tst (opqO o') fun j' => Nat.beq j' j
  | .plist j l vs => tst (plO o') (canonP dt pl i j l vs)
  | _ => false
noncomputable def canonO (n : Nat) (k : Int) (dt : Nat) (pl : List Nat) (i : Nat) (o' o : AO) : Bool := (!isJunk o' && !isJunk o) && canonO1 n k dt pl i o' o
noncomputable def itemsOf (o : Obj) : List Value := match o.data with
  | .seq items _ => items.toList
  | _ => []
noncomputable def preOf (pl : List Nat) (news : List (Addr × Obj)) (j : Nat) : List Value := match pl[j]? with
  | some i => (match news[i]? with | some q => itemsOf q.2 | none => [])
  | none => []
theorem preOf_is {pl : List Nat} {news : List (Addr × Obj)} {i j : Nat} {x : Addr} {xs : List Value} {m : Nat} (hi : news[i]? = some (x, listOf xs.toArray m)) (h5 : tst pl[j]? (fun q => Nat.beq q i) = true) : preOf pl news j = xs := by
  unfold preOf
  obtain ⟨q, hq, h5⟩ := tst_is h5
  have := Nat.eq_of_beq_eq_true h5
  subst this
  rw [hq]
  dsimp only
  rw [hi]
  rfl
theorem canonO_is {V V' : Vars} {P : Params} {n dt : Nat} {k : Int} {pl : List Nat} {i : Nat} {news : List (Addr × Obj)} {x : Addr} {o' o : AO} {ob : Obj} (hs : V'.s = V.s + k) (ht : V'.t = V.t + dt) (hp : V'.pre = preOf pl news) (ho : V'.obj = V.obj)
    (hl : ∀ j, (V'.pre j).length ≤ 100) (hi : news[i]? = some (x, ob)) (h : canonO n k dt pl i o' o = true) (hv : OR V (adrs news) P o' ob) : OR V' ((adrs news).take n) P o ob := by
  have h := (and_is h).2
  cases o with
  | inst C d =>
    obtain ⟨⟨C', d'⟩, h1, h2⟩ := tst_is (show tst (instO o') (fun q => Nat.beq q.1 C && (Nat.beq q.2 d && Nat.blt d n)) = true from h)
    clear h
    cases instO_is h1
    obtain ⟨e1, h2⟩ := and_is h2
    obtain ⟨e2, e3⟩ := and_is h2
    have e1 : C' = C := Nat.eq_of_beq_eq_true e1
    have e2 : d' = d := Nat.eq_of_beq_eq_true e2
    subst e1 e2
    obtain ⟨dx, g1, g2⟩ := hv
    exact ⟨dx, by rw [List.getElem?_take_of_lt (Nat.le_of_ble_eq_true e3)]; exact g1, g2⟩
  | dict es =>
    obtain ⟨es', h1, h2⟩ := tst_is (show tst (dictO o') (fun es' => canonE n k es' es) = true from h)
    cases dictO_is h1
    obtain ⟨des, m, g1, g2⟩ := hv
    exact ⟨des, m, g1, canonE_is hs h2 g2⟩
  | list vs =>
    obtain ⟨vs', h1, h2⟩ := tst_is (show tst (listO o') (fun vs' => canonAs n k vs' vs) = true from h)
    cases listO_is h1
    obtain ⟨xs, m, g1, g2⟩ := hv
    exact ⟨xs, m, g1, canonAs_is hs h2 g2⟩
  | tup vs =>
    obtain ⟨vs', h1, h2⟩ := tst_is (show tst (tupO o') (fun vs' => canonAs n k vs' vs) = true from h)
    cases tupO_is h1
    obtain ⟨xs, m, g1, g2⟩ := hv
    exact ⟨xs, m, g1, canonAs_is hs h2 g2⟩
  | cell a =>
    obtain ⟨a', h1, h2⟩ := tst_is (show tst (cellO o') (fun a' => canonC n k a' a) = true from h)
    clear h
    cases cellO_is h1
    obtain ⟨b, h3, h2⟩ := tst_is h2
    obtain ⟨b', h4, h5⟩ := tst_is h2
    subst h3 h4
    obtain ⟨w, g1, g2⟩ := hv
    cases w with
    | none => exact g2.elim
    | some u => exact ⟨some u, g1, canonA_is hs h5 g2⟩
  | opq j =>
    obtain ⟨j', h1, h2⟩ := tst_is (show tst (opqO o') (fun j' => Nat.beq j' j) = true from h)
    clear h
    cases opqO_is h1
    cases Nat.eq_of_beq_eq_true h2
    have hv : ob = V.obj _ := hv
    show ob = V'.obj _
    rw [ho]; exact hv
  | plist j l vs =>
    obtain ⟨⟨j', l', vs'⟩, h1, h2⟩ := tst_is (show tst (plO o') (canonP dt pl i j l vs) = true from h)
    clear h
    cases plO_is h1
    obtain ⟨e0, h2⟩ := and_is h2
    obtain ⟨e1, h2⟩ := and_is h2
    obtain ⟨h5, h6⟩ := and_is h2
    cases List.isEmpty_iff.mp e0
    have e1 : j' = j := Nat.eq_of_beq_eq_true e1
    subst e1
    obtain ⟨xs, m, rfl, g2, g3, g4⟩ := hv
    have ep : V'.pre j' = V.pre j' ++ xs := by
      rw [hp]
      exact preOf_is hi h5
    refine ⟨[], m, by rw [ep, List.append_nil], .nil, fun u hu => ?_, hl _⟩
    cases hu
    obtain ⟨l0, e2, h6⟩ := tst_is (show tst l' (fun l' => linEq u tVar && (linEq l' tVar && Nat.beq vs'.length dt)) = true from h6)
    obtain ⟨e3, h6⟩ := and_is h6
    obtain ⟨e4, e5⟩ := and_is h6
    rw [ep, List.length_append, ← g2.length, Nat.eq_of_beq_eq_true e5]
    have e1 := linEq_is e3 V'
    have e4 := linEq_is e4 V
    have e6 := g3 l0 e2
    unfold Lin.val tVar at e1 e4
    unfold Lin.val at e6 ⊢
    dsimp only at e1 e4
    omega
  | _ => exact (Bool.noConfusion (show false = true from h))
end Mine
end EvV_text
section EvW_text
open PySem PySem.W PyProof.Rows PySem.Calls PySem.Spec
set_option Elab.async false
set_option maxRecDepth 100000
set_option maxHeartbeats 4000000
set_option linter.unusedVariables false
namespace Mine
noncomputable def canonHs (n : Nat) (k : Int) (dt : Nat) (pl : List Nat) : Nat → He → He → Bool
  | _, _, [] => true
  | i, o' :: t', o :: t => canonO n k dt pl i o' o && canonHs n k dt pl (i + 1) t' t
  | _, [], _ :: _ => false
theorem canonO_live {n : Nat} {k : Int} {dt : Nat} {pl : List Nat} {i : Nat} {o' o : AO} (h : canonO n k dt pl i o' o = true) : isJunk o' = false ∧ isJunk o = false := by
  obtain ⟨h1, h2⟩ := and_is (and_is h).1
  exact ⟨not_is h1, not_is h2⟩
theorem live_canon {n : Nat} {k : Int} {dt : Nat} {pl : List Nat} {R : List (Addr × Obj)} : ∀ {i : Nat} {H' Hs : He} {news : List (Addr × Obj)}, canonHs n k dt pl i H' Hs = true →
    live (live R (H'.drop Hs.length) (news.drop Hs.length)) Hs (news.take Hs.length) = live R H' news
  | i, H', [], news, _ => by
    show live (live R H' news) [] _ = _
    rw [live_nil]
  | i, o' :: t', o :: t, [], h => by
    show live (live R _ (List.drop (t.length + 1) [])) (o :: t) (List.take (t.length + 1) []) = live R (o' :: t') []
    rw [List.drop_nil, List.take_nil, live_nil', live_nil', live_nil']
  | i, o' :: t', o :: t, q :: ns, h => by
    have h := Bool.and_eq_true_iff.mp h
    obtain ⟨h1, h2⟩ := canonO_live h.1
    have ih := live_canon (R := R) (news := ns) h.2
    show live (live R (t'.drop t.length) (ns.drop t.length)) (o :: t) (q :: ns.take t.length) = live R (o' :: t') (q :: ns)
    rw [live_cons_n h2, live_cons_n h1, ih]
theorem al_canon {V V' : Vars} {P : Params} {n dt : Nat} {k : Int} {pl : List Nat} {news : List (Addr × Obj)} (hs : V'.s = V.s + k) (ht : V'.t = V.t + dt) (hp : V'.pre = preOf pl news) (ho : V'.obj = V.obj) (hl : ∀ j, (V'.pre j).length ≤ 100) :
    ∀ {i : Nat} {H' Hs : He} {ns : List (Addr × Obj)}, (∀ j q, ns[j]? = some q → news[i + j]? = some q) → canonHs n k dt pl i H' Hs = true → All2 (fun a (p : Addr × Obj) => OR V (adrs news) P a p.2) H' ns →
    All2 (fun a (p : Addr × Obj) => OR V' ((adrs news).take n) P a p.2) Hs (ns.take Hs.length)
  | i, H', [], ns, _, _, _ => .nil
  | i, o' :: t', o :: t, q :: ns, hn, h, .cons hv hr => by
    have h := Bool.and_eq_true_iff.mp h
    refine .cons ?_ (al_canon hs ht hp ho hl (i := i + 1) (fun j z hz => ?_) h.2 hr)
    · obtain ⟨x, ob⟩ := q
      exact canonO_is hs ht hp ho hl (hn 0 _ rfl) h.1 hv
    · have := hn (j + 1) z (by simpa using hz)
      rw [show i + 1 + j = i + (j + 1) from by omega]
      exact this
  | i, [], _ :: _, _, _, h, _ => by cases h
noncomputable def canonF (n : Nat) (k : Int) (F' : Lo) : Lo → Bool
  | [] => true
  | (x, a) :: t => (match lk F' x with | some a' => canonA n k a' a | none => false) && canonF n k F' t
theorem canonF_is {n : Nat} {k : Int} {F' : Lo} : ∀ {Fs : Lo} {x : Nat} {a : AV}, canonF n k F' Fs = true → lk Fs x = some a → ∃ a', lk F' x = some a' ∧ canonA n k a' a = true
  | (y, b) :: t, x, a, h, e => by
    have h := Bool.and_eq_true_iff.mp h
    unfold lk at e
    split at e
    · rename_i q
      cases e
      have := Nat.eq_of_beq_eq_true q
      subst this
      have h1 := h.1
      cases z : lk F' y with
      | none => rw [z] at h1; cases h1
      | some a' => rw [z] at h1; exact ⟨a', rfl, h1⟩
    · exact canonF_is h.2 e
noncomputable def newRoot (V : Vars) (g' k : Int) (dt : Nat) (pl : List Nat) (news : List (Addr × Obj)) (H' : He) (n : Nat) : Vars :=
  { g := g', s := V.s + k, t := V.t + dt, arch := live V.arch (H'.drop n) (news.drop n), pre := preOf pl news, obj := V.obj, low := let ⟨q, hq, hl⟩ := V.low; ⟨q, live_arch q hq, hl⟩ }
theorem reroot {V : Vars} {P : Params} {h₀ : Heap} {L : Addr} {h : Heap} {m : Str → Option Value} {news : List (Addr × Obj)} {F' Fs : Lo} {H' Hs : He} {g' k : Int} {dt : Nat} {pl : List Nat} (S : SR V P h₀ L h m news F' H')
    (hc : canonHs Hs.length k dt pl 0 H' Hs = true) (hF : canonF Hs.length k F' Fs = true) (hl : ∀ j, (preOf pl news j).length ≤ 100) :
    SR (newRoot V g' k dt pl news H' Hs.length) P h₀ L h m (news.take Hs.length) Fs Hs := by
  have e := live_canon (R := V.arch) (news := news) hc
  have ea : adrs (news.take Hs.length) = (adrs news).take Hs.length := by unfold adrs; rw [List.map_take]
  refine ⟨S.fr, ?_, ?_, ?_, fun x a hx => ?_⟩
  · show News h₀ L h (live (live V.arch (H'.drop Hs.length) (news.drop Hs.length)) Hs (news.take Hs.length))
    rw [e]; exact S.nw
  · rw [ea]
    exact al_canon (V := V) (V' := newRoot V g' k dt pl news H' Hs.length) rfl rfl rfl rfl hl (i := 0) (fun j q hq => by rw [Nat.zero_add]; exact hq) hc S.al
  · show (sysModules :: adrs (live (live V.arch (H'.drop Hs.length) (news.drop Hs.length)) Hs (news.take Hs.length))).Nodup
    rw [e]; exact S.nds
  · obtain ⟨a', h1, h2⟩ := canonF_is hF hx
    obtain ⟨y, v, g1, g2, g3⟩ := S.lo x a' h1
    rw [ea]
    exact ⟨y, v, g1, g2, canonA_is (V := V) (V' := newRoot V g' k dt pl news H' Hs.length) rfl h2 g3⟩
theorem root_arch {V : Vars} {g' k : Int} {dt : Nat} {pl : List Nat} {news : List (Addr × Obj)} {H' : He} {n : Nat} : ∀ q ∈ V.arch, q ∈ (newRoot V g' k dt pl news H' n).arch := fun q hq => live_arch q hq
theorem root_new {V : Vars} {g' k : Int} {dt : Nat} {pl : List Nat} {news : List (Addr × Obj)} {H' : He} {n i : Nat} {a : AO} {q : Addr × Obj} (hi : n ≤ i) (hH : H'[i]? = some a) (hn : news[i]? = some q) (hj : isJunk a = false) : q ∈ (newRoot V g' k dt pl news H' n).arch := by
  refine mem_live (R := V.arch) (i := i - n) (a := a) ?_ ?_ hj
  · rw [List.getElem?_drop, show n + (i - n) = i from by omega]; exact hH
  · rw [List.getElem?_drop, show n + (i - n) = i from by omega]; exact hn
end Mine
end EvW_text
section EvX_text
open PySem PySem.W PyProof.Rows PySem.Calls PySem.Spec
set_option Elab.async false
set_option maxRecDepth 100000
set_option maxHeartbeats 4000000
set_option linter.unusedVariables false
namespace Mine
noncomputable abbrev tupObj (xs : List Value) (n : Nat) : Obj := { cls := .type "tuple", data := .seq (List.toArray xs) n }
/-- a made call whose first item is the symbol 'switch' -/
noncomputable def SwCall (K : Frag) (R : List (Addr × Obj)) (c : Addr) : Prop :=
  ∃ C d des n l xs n' y C2 d2 des2 n2 tk, (c, instObj C d) ∈ R ∧ fieldOk K C "items" = true ∧ (d, dictOf des n) ∈ R ∧ getL "items" des = some (some (.ref l)) ∧ (l, listOf (List.toArray xs) n') ∈ R ∧ xs.length ≤ 100 ∧ xs[0]? = some (.ref y) ∧
    (y, instObj C2 d2) ∈ R ∧ fieldOk K C2 "name" = true ∧ (d2, dictOf des2 n2) ∈ R ∧ getL "name" des2 = some (some (.str "switch" tk))
noncomputable def ToldR (K : Frag) (R : List (Addr × Obj)) (u v : Value) : Prop :=
  ∃ a b x t1 t2 c n1 n2, u = .ref a ∧ v = .ref b ∧ (a, tupObj [.str x t1, .ref c] n1) ∈ R ∧ (b, tupObj [.str x t2, .ref c] n2) ∈ R ∧ SwCall K R c
noncomputable def OutR (R : List (Addr × Obj)) (u v : Value) : Prop :=
  ∃ a b i j t1 t2 t3 t4 n1 n2, u = .ref a ∧ v = .ref b ∧ (a, tupObj [.int i t1, .int j t2] n1) ∈ R ∧ (b, tupObj [.int i t3, .int j t4] n2) ∈ R
structure ArchOk (K : Frag) (V : Vars) : Prop where
  told : All2 (ToldR K V.arch) (V.pre 0) (V.pre 1)
  out : All2 (OutR V.arch) (V.pre 2) (V.pre 3)
theorem SwCall.mono {K : Frag} {R R' : List (Addr × Obj)} (hs : ∀ q ∈ R, q ∈ R') {c : Addr} (h : SwCall K R c) : SwCall K R' c := by
  obtain ⟨C, d, des, n, l, xs, n', y, C2, d2, des2, n2, tk, h1, h2, h3, h4, h5, h6, h7, h8, h9, h10, h11⟩ := h
  exact ⟨C, d, des, n, l, xs, n', y, C2, d2, des2, n2, tk, hs _ h1, h2, hs _ h3, h4, hs _ h5, h6, h7, hs _ h8, h9, hs _ h10, h11⟩
theorem ToldR.mono {K : Frag} {R R' : List (Addr × Obj)} (hs : ∀ q ∈ R, q ∈ R') {u v : Value} (h : ToldR K R u v) : ToldR K R' u v := by
  obtain ⟨a, b, x, t1, t2, c, n1, n2, h1, h2, h3, h4, h5⟩ := h
  exact ⟨a, b, x, t1, t2, c, n1, n2, h1, h2, hs _ h3, hs _ h4, h5.mono hs⟩
theorem OutR.mono {R R' : List (Addr × Obj)} (hs : ∀ q ∈ R, q ∈ R') {u v : Value} (h : OutR R u v) : OutR R' u v := by
  obtain ⟨a, b, i, j, t1, t2, t3, t4, n1, n2, h1, h2, h3, h4⟩ := h
  exact ⟨a, b, i, j, t1, t2, t3, t4, n1, n2, h1, h2, hs _ h3, hs _ h4⟩

noncomputable def symOk (K : Frag) (H : He) (n y : Nat) : Bool := Nat.ble n y && tst (instAt H y) fun q => fieldOk K q.1 "name" && (Nat.ble n q.2 && tst (dictAt H q.2) fun es => tst (lk es (sid "name")) fun v => tst (asStr v) fun k => Nat.beq k (sid "switch"))
noncomputable def callOk (K : Frag) (H : He) (n c : Nat) : Bool := Nat.ble n c && tst (instAt H c) fun q => fieldOk K q.1 "items" && (Nat.ble n q.2 && tst (dictAt H q.2) fun es => tst (lk es (sid "items")) fun v => tst (asRef v) fun l =>
  Nat.ble n l && tst (listAt' H l) fun vs => tst (hd1 vs) fun p => tst (asRef p.1) fun y => Nat.ble p.2.length 50 && symOk K H n y)
noncomputable def pairAt (H : He) (n : Nat) (u : AV) : Option (AV × AV) := bnd (asRef u) fun a => grd (Nat.ble n a) (bnd (tupAt' H a) pair2)
noncomputable def sameStr (a b : AV) : Bool := tst (asStr a) fun x => tst (asStr b) fun y => Nat.beq x y
noncomputable def sameInt (a b : AV) : Bool := tst (asInt a) fun x => tst (asInt b) fun y => linEq x y
noncomputable def sameCall (K : Frag) (H : He) (n : Nat) (a b : AV) : Bool := tst (asRef a) fun x => tst (asRef b) fun y => Nat.beq x y && callOk K H n x
noncomputable def toldOk (K : Frag) (H : He) (n : Nat) (u v : AV) : Bool := tst (pairAt H n u) fun p => tst (pairAt H n v) fun q => sameStr p.1 q.1 && sameCall K H n p.2 q.2
noncomputable def outOk (H : He) (n : Nat) (u v : AV) : Bool := tst (pairAt H n u) fun p => tst (pairAt H n v) fun q => sameInt p.1 q.1 && sameInt p.2 q.2
noncomputable def pairsOk (f : AV → AV → Bool) : List AV → List AV → Bool
  | [], [] => true
  | a :: t, b :: u => f a b && pairsOk f t u
  | [], _ :: _ => false
  | _ :: _, [] => false
theorem okWords : okStr "items" = true ∧ okStr "name" = true ∧ tbl[sid "switch"]? = some ("switch" : Str) := by refine ⟨?_, ?_, ?_⟩ <;> decide +kernel

section
variable {V : Vars} {P : Params} {K : Frag} {h₀ : Heap} {L : Addr} {h : Heap} {m : Str → Option Value} {news : List (Addr × Obj)} {F : Lo} {H : He} {R : List (Addr × Obj)} {n : Nat}
/-- what the ledger tells behind place n lies in R -/
noncomputable def Tells (H : He) (news : List (Addr × Obj)) (n : Nat) (R : List (Addr × Obj)) : Prop := ∀ i a q, n ≤ i → H[i]? = some a → news[i]? = some q → isJunk a = false → q ∈ R
theorem told_at (S : SR V P h₀ L h m news F H) (T : Tells H news n R) {i : Nat} {a : AO} {x : Addr} (hi : n ≤ i) (hH : H[i]? = some a) (hx : (adrs news)[i]? = some x) (hj : isJunk a = false) : ∃ o, (x, o) ∈ R ∧ OR V (adrs news) P a o := by
  obtain ⟨o, g1, g2, g3⟩ := S.at hH hx hj
  exact ⟨o, T i a _ hi hH g1 hj, g3⟩
theorem symOk_is (S : SR V P h₀ L h m news F H) (T : Tells H news n R) {y : Nat} {x : Addr} (hx : (adrs news)[y]? = some x) (e : symOk K H n y = true) :
    ∃ C2 d2 des2 n2 tk, (x, instObj C2 d2) ∈ R ∧ fieldOk K C2 "name" = true ∧ (d2, dictOf des2 n2) ∈ R ∧ getL "name" des2 = some (some (.str "switch" tk)) := by
  obtain ⟨hn, e⟩ := and_is e
  obtain ⟨⟨C, d⟩, h1, e⟩ := tst_is e
  obtain ⟨e1, e⟩ := and_is e
  obtain ⟨e2, e⟩ := and_is e
  obtain ⟨es, h2, e⟩ := tst_is e
  obtain ⟨v0, h3, e⟩ := tst_is e
  obtain ⟨k, h4, e3⟩ := tst_is e
  cases asStr_is h4
  obtain ⟨o, o1, dx, o2, rfl⟩ := told_at S T (Nat.le_of_ble_eq_true hn) (instAt_is h1) hx rfl
  obtain ⟨o', p1, des, nn, rfl, p2⟩ := told_at S T (Nat.le_of_ble_eq_true e2) (dictAt_is h2) o2 rfl
  obtain ⟨v, v1, z, tk, v2, rfl⟩ := getL_some p2 okWords.2.1 h3
  have := Nat.eq_of_beq_eq_true e3
  subst this
  rw [okWords.2.2] at v2
  cases v2
  exact ⟨C, dx, des, nn, tk, o1, e1, p1, v1⟩
theorem callOk_is (S : SR V P h₀ L h m news F H) (T : Tells H news n R) {y : Nat} {x : Addr} (hx : (adrs news)[y]? = some x) (e : callOk K H n y = true) : SwCall K R x := by
  obtain ⟨hn, e⟩ := and_is e
  obtain ⟨⟨C, d⟩, h1, e⟩ := tst_is e
  obtain ⟨e1, e⟩ := and_is e
  obtain ⟨e2, e⟩ := and_is e
  obtain ⟨es, h2, e⟩ := tst_is e
  obtain ⟨v0, h3, e⟩ := tst_is e
  obtain ⟨l, h4, e⟩ := tst_is e
  obtain ⟨e3, e⟩ := and_is e
  obtain ⟨vs, h5, e⟩ := tst_is e
  obtain ⟨⟨y0, r⟩, h6, e⟩ := tst_is e
  obtain ⟨y', h7, e⟩ := tst_is e
  obtain ⟨e4, e5⟩ := and_is e
  cases asRef_is h4
  have h7 := asRef_is h7
  have h7 : y0 = .ref y' := h7
  subst h7
  cases hd1_is h6
  obtain ⟨o, o1, dx, o2, rfl⟩ := told_at S T (Nat.le_of_ble_eq_true hn) (instAt_is h1) hx rfl
  obtain ⟨o', p1, des, nn, rfl, p2⟩ := told_at S T (Nat.le_of_ble_eq_true e2) (dictAt_is h2) o2 rfl
  obtain ⟨v, v1, lx, v2, rfl⟩ := getL_some p2 okWords.1 h3
  obtain ⟨o'', q1, xs, nl, rfl, q2⟩ := told_at S T (Nat.le_of_ble_eq_true e3) (listAt_is h5) v2 rfl
  have hlen := q2.length
  have hr := Nat.le_of_ble_eq_true e4
  cases q2 with
  | cons q3 q4 =>
    obtain ⟨yx, q5, rfl⟩ := q3
    obtain ⟨C2, d2, des2, n2, tk, s1, s2, s3, s4⟩ := symOk_is S T q5 e5
    refine ⟨C, dx, des, nn, lx, _, nl, yx, C2, d2, des2, n2, tk, o1, e1, p1, v1, q1, ?_, rfl, s1, s2, s3, s4⟩
    rw [← hlen, List.length_cons]
    exact Nat.le_trans (Nat.succ_le_succ hr) (by decide)
theorem told_pair (S : SR V P h₀ L h m news F H) (T : Tells H news n R) {u a b : AV} {ux : Value} (hu : VR V (adrs news) u ux) (e : pairAt H n u = some (a, b)) :
    ∃ x va vb k, ux = .ref x ∧ (x, tupObj [va, vb] k) ∈ R ∧ VR V (adrs news) a va ∧ VR V (adrs news) b vb := by
  obtain ⟨i, h1, e1⟩ := bnd_is e
  obtain ⟨hn, e2⟩ := grd_is e1
  obtain ⟨vs, h2, e3⟩ := bnd_is e2
  clear e e1 e2
  cases asRef_is h1
  cases pair2_is e3
  obtain ⟨ax, hx, rfl⟩ := hu
  obtain ⟨o, o1, xs, k, rfl, o2⟩ := told_at S T (Nat.le_of_ble_eq_true hn) (tupAt_is h2) hx rfl
  obtain ⟨va, vb, rfl, o3, o4⟩ := vrs2 o2
  exact ⟨ax, va, vb, k, rfl, o1, o3, o4⟩
theorem sameInt_is {adr : List Addr} {a b : AV} {u v : Value} (h : sameInt a b = true) (hu : VR V adr a u) (hv : VR V adr b v) : ∃ i t t', u = .int i t ∧ v = .int i t' := by
  obtain ⟨x, h1, h2⟩ := tst_is h
  obtain ⟨y, h3, h4⟩ := tst_is h2
  clear h h2
  cases asInt_is h1
  cases asInt_is h3
  obtain ⟨t, rfl⟩ := hu
  obtain ⟨t', rfl⟩ := hv
  exact ⟨_, t, t', rfl, by rw [linEq_is h4 V]⟩
theorem sameStr_is {adr : List Addr} {a b : AV} {u v : Value} (h : sameStr a b = true) (hu : VR V adr a u) (hv : VR V adr b v) : ∃ x t t', u = .str x t ∧ v = .str x t' := by
  obtain ⟨x, h1, h2⟩ := tst_is h
  obtain ⟨y, h3, h4⟩ := tst_is h2
  clear h h2
  cases asStr_is h1
  cases asStr_is h3
  cases Nat.eq_of_beq_eq_true h4
  obtain ⟨z, t, z1, rfl⟩ := hu
  obtain ⟨z', t', z2, rfl⟩ := hv
  rw [z1] at z2
  cases z2
  exact ⟨z, t, t', rfl, rfl⟩
theorem sameCall_is (S : SR V P h₀ L h m news F H) (T : Tells H news n R) {a b : AV} {u v : Value} (e : sameCall K H n a b = true) (hu : VR V (adrs news) a u) (hv : VR V (adrs news) b v) : ∃ c, u = .ref c ∧ v = .ref c ∧ SwCall K R c := by
  obtain ⟨x, h1, h2⟩ := tst_is e
  obtain ⟨y, h3, h4⟩ := tst_is h2
  obtain ⟨h5, h6⟩ := and_is h4
  clear e h2 h4
  cases asRef_is h1
  cases asRef_is h3
  cases Nat.eq_of_beq_eq_true h5
  obtain ⟨z, z1, rfl⟩ := hu
  obtain ⟨z', z2, rfl⟩ := hv
  rw [z1] at z2
  cases z2
  exact ⟨z, rfl, rfl, callOk_is S T z1 h6⟩
theorem toldOk_is (S : SR V P h₀ L h m news F H) (T : Tells H news n R) {u v : AV} {ux vx : Value} (hu : VR V (adrs news) u ux) (hv : VR V (adrs news) v vx) (e : toldOk K H n u v = true) : ToldR K R ux vx := by
  obtain ⟨⟨a, b⟩, h1, e1⟩ := tst_is e
  obtain ⟨⟨c, d⟩, h2, e2⟩ := tst_is e1
  obtain ⟨e3, e4⟩ := and_is e2
  obtain ⟨x, va, vb, k, rfl, g1, g2, g3⟩ := told_pair S T hu h1
  obtain ⟨y, vc, vd, k', rfl, k1, k2, k3⟩ := told_pair S T hv h2
  obtain ⟨z, t, t', rfl, rfl⟩ := sameStr_is e3 g2 k2
  obtain ⟨c, rfl, rfl, hc⟩ := sameCall_is S T e4 g3 k3
  exact ⟨x, y, z, t, t', c, k, k', rfl, rfl, g1, k1, hc⟩
theorem outOk_is (S : SR V P h₀ L h m news F H) (T : Tells H news n R) {u v : AV} {ux vx : Value} (hu : VR V (adrs news) u ux) (hv : VR V (adrs news) v vx) (e : outOk H n u v = true) : OutR R ux vx := by
  obtain ⟨⟨a, b⟩, h1, e1⟩ := tst_is e
  obtain ⟨⟨c, d⟩, h2, e2⟩ := tst_is e1
  obtain ⟨e3, e4⟩ := and_is e2
  obtain ⟨x, va, vb, k, rfl, g1, g2, g3⟩ := told_pair S T hu h1
  obtain ⟨y, vc, vd, k', rfl, k1, k2, k3⟩ := told_pair S T hv h2
  obtain ⟨i, t1, t3, rfl, rfl⟩ := sameInt_is e3 g2 k2
  obtain ⟨j, t2, t4, rfl, rfl⟩ := sameInt_is e4 g3 k3
  exact ⟨x, y, i, j, t1, t2, t3, t4, k, k', rfl, rfl, g1, k1⟩
theorem pairsOk_is {f : AV → AV → Bool} {Rel : Value → Value → Prop} {adr : List Addr} (hf : ∀ u v ux vx, VR V adr u ux → VR V adr v vx → f u v = true → Rel ux vx) {us vs : List AV} {xs ys : List Value} (h1 : VRs V adr us xs) (h2 : VRs V adr vs ys) (e : pairsOk f us vs = true) : All2 Rel xs ys := by
  induction h1 generalizing vs ys with
  | nil =>
    cases h2 with
    | nil => exact .nil
    | cons _ _ => exact (Bool.noConfusion (show false = true from e))
  | cons a1 a2 ih =>
    cases h2 with
    | nil => exact (Bool.noConfusion (show false = true from e))
    | cons b1 b2 =>
      obtain ⟨e1, e2⟩ := and_is (show (f _ _ && pairsOk f _ _) = true from e)
      exact .cons (hf _ _ _ _ a1 b1 e1) (ih b2 e2)
end
end Mine
end EvX_text
section EvY_text
open PySem PySem.W PyProof.Rows PySem.Calls PySem.Spec
set_option Elab.async false
set_option maxRecDepth 100000
set_option maxHeartbeats 4000000
set_option linter.unusedVariables false
namespace Mine
/-- where the layout keeps what grows: warnings, told, the interpreter's out, out; and the interpreter's dict -/
structure Lay where
  w : Nat
  t : Nat
  o : Nat
  p : Nat
  d : Nat
noncomputable def Lay.pl (y : Lay) : List Nat := [y.w, y.t, y.o, y.p]
noncomputable def kOf (d : Nat) (H : He) : Option Nat := match H[d]? with
  | some (.dict es) => (match lk es (sid "steps") with | some (.int l) => (match l.c with | .ofNat k => some k | _ => none) | _ => none)
  | _ => none
noncomputable def plNo (j : Nat) (H : He) (i : Nat) : Option (List AV) := bnd (plAt H i) fun q => grd (Nat.beq q.1 j) (some q.2.2)
theorem plNo_is {j : Nat} {H : He} {i : Nat} {vs : List AV} (h : plNo j H i = some vs) : ∃ l, H[i]? = some (.plist j l vs) := by
  obtain ⟨⟨j', l, vs'⟩, h1, h2⟩ := bnd_is h
  obtain ⟨h3, h4⟩ := grd_is h2
  have h3 : j' = j := Nat.eq_of_beq_eq_true h3
  have h4 : vs' = vs := Option.some.inj h4
  exact ⟨l, by rw [plAt_is h1, h3, h4]⟩
noncomputable def sizesOk (k : Nat) (v0 v1 v2 v3 : List AV) : Bool := Nat.ble k 10 && (Nat.ble v0.length 10 && (Nat.ble v1.length 10 && (Nat.ble v2.length 10 && Nat.ble v3.length 10)))
theorem sizesOk_is {k : Nat} {v0 v1 v2 v3 : List AV} (h : sizesOk k v0 v1 v2 v3 = true) : k ≤ 10 ∧ v0.length ≤ 10 ∧ v1.length ≤ 10 ∧ v2.length ≤ 10 ∧ v3.length ≤ 10 := by
  obtain ⟨h1, h⟩ := and_is h
  obtain ⟨h2, h⟩ := and_is h
  obtain ⟨h3, h⟩ := and_is h
  obtain ⟨h4, h5⟩ := and_is h
  exact ⟨Nat.le_of_ble_eq_true h1, Nat.le_of_ble_eq_true h2, Nat.le_of_ble_eq_true h3, Nat.le_of_ble_eq_true h4, Nat.le_of_ble_eq_true h5⟩
noncomputable def endRest (K : Frag) (y : Lay) (Fs : Lo) (Hs : He) (F' : Lo) (H' : He) (k : Nat) (v0 v1 v2 v3 : List AV) : Bool :=
  sizesOk k v0 v1 v2 v3 && ((canonHs Hs.length (.ofNat k) v0.length y.pl 0 H' Hs && canonF Hs.length (.ofNat k) F' Fs) && (pairsOk (toldOk K H' Hs.length) v0 v1 && pairsOk (outOk H' Hs.length) v2 v3))
noncomputable def endChk (K : Frag) (y : Lay) (Fs : Lo) (Hs : He) (F' : Lo) (H' : He) : Bool := tst (kOf y.d H') fun k => tst (plNo 0 H' y.w) fun v0 => tst (plNo 1 H' y.t) fun v1 => tst (plNo 2 H' y.o) fun v2 => tst (plNo 3 H' y.p) (endRest K y Fs Hs F' H' k v0 v1 v2)
structure TurnInv (K : Frag) (i : Nat) (V : Vars) : Prop where
  g0 : 0 ≤ V.g
  g1 : V.g ≤ 100
  s0 : 0 ≤ V.s
  s1 : V.s ≤ 10 * i
  t0 : 0 ≤ V.t
  t1 : V.t ≤ 10 * i
  pre : ∀ j, (V.pre j).length ≤ 10 * i
  arch : ArchOk K V
theorem TurnInv.ok {K : Frag} {i : Nat} {V : Vars} (h : TurnInv K i V) (hi : i ≤ 10) : VarsOk V := ⟨h.g0, h.g1, h.s0, by have := h.s1; omega, h.t0, by have := h.t1; omega⟩
theorem all2_len {α β : Type} {R : α → β → Prop} {l : List α} {l' : List β} (h : All2 R l l') : l.length = l'.length := h.length
theorem pl_at {V : Vars} {P : Params} {h₀ : Heap} {L : Addr} {h : Heap} {m : Str → Option Value} {news : List (Addr × Obj)} {F : Lo} {H : He} {i j : Nat} {l : Option Lin} {vs : List AV} {pl : List Nat} (S : SR V P h₀ L h m news F H)
    (hH : H[i]? = some (.plist j l vs)) (hp : pl[j]? = some i) : ∃ xs, preOf pl news j = V.pre j ++ xs ∧ VRs V (adrs news) vs xs := by
  obtain ⟨x, o, g0, g1, g2, xs, n, rfl, g3, g4⟩ := S.get hH rfl
  exact ⟨xs, preOf_is g1 (by rw [hp]; exact Nat.beq_refl _), g3⟩
theorem preOf_none {news : List (Addr × Obj)} {y : Lay} {j : Nat} (h : 4 ≤ j) : preOf y.pl news j = [] := by
  unfold preOf Lay.pl
  rw [List.getElem?_eq_none (by simp; omega)]
theorem turn_end {K : Frag} {V : Vars} {P : Params} {h₀ : Heap} {L : Addr} {h : Heap} {m : Str → Option Value} {news : List (Addr × Obj)} {F' Fs : Lo} {H' Hs : He} {y : Lay} {i : Nat} (g' : Int) (hg0 : 0 ≤ g') (hg1 : g' ≤ 100) (hi : i < 10)
    (S : SR V P h₀ L h m news F' H') (hc : endChk K y Fs Hs F' H' = true) (I : TurnInv K i V) :
    ∃ V', V'.obj = V.obj ∧ V'.g = g' ∧ SR V' P h₀ L h m (news.take Hs.length) Fs Hs ∧ TurnInv K (i + 1) V' ∧ ∀ q ∈ V.arch, q ∈ V'.arch := by
  obtain ⟨k, hk, hc⟩ := tst_is hc
  obtain ⟨v0, q0, hc⟩ := tst_is hc
  obtain ⟨v1, q1, hc⟩ := tst_is hc
  obtain ⟨v2, q2, hc⟩ := tst_is hc
  obtain ⟨v3, q3, hc⟩ := tst_is hc
  obtain ⟨l0, e0⟩ := plNo_is q0
  obtain ⟨l1, e1⟩ := plNo_is q1
  obtain ⟨l2, e2⟩ := plNo_is q2
  obtain ⟨l3, e3⟩ := plNo_is q3
  · obtain ⟨cs, hc⟩ := and_is hc
    obtain ⟨cc, cp⟩ := and_is hc
    obtain ⟨c6, c7⟩ := and_is cc
    obtain ⟨c8, c9⟩ := and_is cp
    obtain ⟨c1, c2, c3, c4, c5⟩ := sizesOk_is cs
    obtain ⟨x0, p0, r0⟩ := pl_at (pl := y.pl) S e0 rfl
    obtain ⟨x1, p1, r1⟩ := pl_at (pl := y.pl) S e1 rfl
    obtain ⟨x2, p2, r2⟩ := pl_at (pl := y.pl) S e2 rfl
    obtain ⟨x3, p3, r3⟩ := pl_at (pl := y.pl) S e3 rfl
    have lens : ∀ j, (preOf y.pl news j).length ≤ 10 * (i + 1) := fun j => by
      match j with
      | 0 => rw [p0, List.length_append, ← all2_len r0]; have := I.pre 0; omega
      | 1 => rw [p1, List.length_append, ← all2_len r1]; have := I.pre 1; omega
      | 2 => rw [p2, List.length_append, ← all2_len r2]; have := I.pre 2; omega
      | 3 => rw [p3, List.length_append, ← all2_len r3]; have := I.pre 3; omega
      | j + 4 => rw [preOf_none (by omega)]; exact Nat.zero_le _
    have T : Tells H' news Hs.length (newRoot V g' (k : Int) v0.length y.pl news H' Hs.length).arch := fun i a q hi hH hn hj => root_new hi hH hn hj
    refine ⟨newRoot V g' (k : Int) v0.length y.pl news H' Hs.length, rfl, rfl, reroot S c6 c7 (fun j => Nat.le_trans (lens j) (by omega)), ?_, root_arch⟩
    refine ⟨hg0, hg1, ?_, ?_, ?_, ?_, lens, ?_, ?_⟩
    · show 0 ≤ V.s + (k : Int)
      have := I.s0; omega
    · show V.s + (k : Int) ≤ _
      have := I.s1; omega
    · show 0 ≤ V.t + (v0.length : Int)
      have := I.t0; omega
    · show V.t + (v0.length : Int) ≤ _
      have := I.t1; omega
    · show All2 _ (preOf y.pl news 0) (preOf y.pl news 1)
      rw [p0, p1]
      exact all2_append (I.arch.told.imp fun _ _ z => z.mono root_arch) (pairsOk_is (fun u v ux vx hu hv e => toldOk_is S T hu hv e) r0 r1 c8)
    · show All2 _ (preOf y.pl news 2) (preOf y.pl news 3)
      rw [p2, p3]
      exact all2_append (I.arch.out.imp fun _ _ z => z.mono root_arch) (pairsOk_is (fun u v ux vx hu hv e => outOk_is S T hu hv e) r2 r3 c9)
end Mine
end EvY_text
section EvZ_text
open PySem PySem.W PyProof.Rows PySem.Calls PySem.Spec
set_option Elab.async false
set_option maxRecDepth 100000
set_option maxHeartbeats 4000000
set_option linter.unusedVariables false
namespace Mine
/-! the plan of the law's run -/
noncomputable def fnNamed (K : Frag) (x : Str) : Option FuncData := match nsIn K mainGlobals x with
  | some (some (.ref a)) => match K.lookup a with | some ⟨_, _, .func fd, _⟩ => some fd | _ => none
  | _ => none
noncomputable def bodyOf (fd : FuncData) : List Stmt := match fd.body with | .stmts b => b | _ => []
noncomputable def nthS : List Stmt → Nat → Option Stmt
  | [], _ => none
  | s :: _, 0 => some s
  | _ :: t, n + 1 => nthS t n
noncomputable def lawEi (cs : Scope) : EI := ⟨cs, [(sid "go_of", 0)], none, 0, 0⟩
noncomputable def headH : He := [.cell none, .opq 0, .opq 1]
noncomputable def headF : Lo := [(sid "state", .ref 2)]
noncomputable def relE : Lo → Option Lo
  | [] => some []
  | (k, a) :: t => match relE t with
    | none => none
    | some u => match Nat.beq k (sid "steps") with
      | true => (match a with | .int l => (match linEq l (Lin.lit 0) with | true => some ((k, .int (sVar 0)) :: u) | false => none) | _ => none)
      | false => match Nat.beq k (sid "visible") with
        | true => some ((k, .any) :: u)
        | false => some ((k, a) :: u)
noncomputable def layOf (F : Lo) (H : He) : Option Lay := match lk F (sid "interp"), lk F (sid "told"), lk F (sid "out") with
  | some (.ref i), some (.ref t), some (.ref p) => (match H[i]? with
    | some (.inst _ d) => (match H[d]? with
      | some (.dict es) => (match lk es (sid "warnings"), lk es (sid "out") with
        | some (.ref w), some (.ref o) => some ⟨w, t, o, p, d⟩
        | _, _ => none)
      | _ => none)
    | _ => none)
  | _, _, _ => none
noncomputable def relaxL (H : He) (i j : Nat) (l : Option Lin) : Option He := match H[i]? with
  | some (.list []) => some (H.set i (.plist j l []))
  | _ => none
noncomputable def relaxD (H : He) (i : Nat) : Option He := match H[i]? with
  | some (.dict es) => (match relE es with
    | some es' => some (H.set i (.dict es'))
    | none => none)
  | _ => none
/-- the ledger from which all turns start, but for the cell -/
noncomputable def rootH (y : Lay) (H : He) : Option He := match relaxD H y.d with
  | none => none
  | some H1 => match relaxL H1 y.w 0 (some tVar) with
    | none => none
    | some H2 => match relaxL H2 y.t 1 (some tVar) with
      | none => none
      | some H3 => match relaxL H3 y.o 2 none with
        | none => none
        | some H4 => relaxL H4 y.p 3 none
structure Plan where
  y : Lay
  F : Lo
  H : He
noncomputable def planOf (K : Frag) (cs : Scope) (pre : List Stmt) : Option Plan := match bl (tower K 60) (lawEi cs) headF headH pre with
  | some (.next, F, H) => (match layOf F H with
    | some y => (match rootH y H with
      | some H1 => some ⟨y, F, pushH H1 (.opq 2)⟩
      | none => none)
    | none => none)
  | _ => none
noncomputable def wayF (F : Lo) (kind figure count : Int) : Lo := put (put (put F (sid "kind") (.int (Lin.lit kind))) (sid "figure") (.int (Lin.lit figure))) (sid "count") (.int (Lin.lit count))
noncomputable def wayOk (K : Frag) (cs : Scope) (pl : Plan) (turn : List Stmt) (kind figure count : Int) : Bool :=
  match bl (tower K 60) (lawEi cs) (wayF pl.F kind figure count) (pl.H.set 0 (.cell (some (.int ⟨1, 0, 0, 0⟩)))) turn with
  | some (.next, F', H') => endChk K pl.y pl.F (pl.H.set 0 (.cell (some .any))) F' H'
  | _ => false
end Mine
end EvZ_text
section La_text
open PySem PySem.W PyProof.Rows PySem.Calls PySem.Spec
set_option Elab.async false
set_option maxRecDepth 100000
set_option maxHeartbeats 4000000
set_option linter.unusedVariables false
namespace Mine
section
variable {prog : Program} {w : World} {A : Around} {E : Value → Shared → Prop}
theorem draw_list {it l : Addr} {items : Array Value} (hne : l ≠ it) : ∀ (n i : Nat) (s : Shared) (Q : List Value → Shared → Prop), s.heap.IsListIter it l i → s.heap.IsList l items → i + n ≤ items.size →
    (∀ h', h'.IsListIter it l (i + n) → Heap.SameBut it s.heap h' → Q ((items.toList.drop i).take n) { s with heap := h' }) → wpAny (model prog w) A (draw (.ref it) n) Q E s
  | 0, i, s, Q, hi, hl, _, h => by
    refine wpAny_pure (a := ([] : List Value)) ?_
    simpa using h s.heap hi (Heap.SameBut.refl ..)
  | n + 1, i, s, Q, hi, hl, hle, h => by
    have hlt : i < items.size := by omega
    show wpAny _ _ (pyNext (.ref it) >>= _) Q E s
    refine wpAny_bind (wpAny_pyNext_list_item hi hl (x := items[i]) (by simp [hlt]) fun h₁ hi₁ hs₁ => ?_)
    refine wpAny_bind (wpAny_holding (draw_list hne n (i + 1) _ _ hi₁ (hl.extBut hs₁.extBut hne) (by omega) fun h₂ hi₂ hs₂ => wpAny_pure ?_))
    have e := h h₂ (by rw [show i + (n + 1) = i + 1 + n by omega]; exact hi₂) (hs₁.trans hs₂)
    have hd : items.toList.drop i = items[i] :: items.toList.drop (i + 1) := by simp [List.drop_eq_getElem_cons, hlt]
    rw [hd, List.take_succ_cons] at e
    exact e
theorem unpackItems_list {s : Shared} {l : Addr} {items : Array Value} {Q : List Value → Shared → Prop} (hh : A.handled = none) (hl : s.heap.IsList l items)
    (h : ∀ h', Heap.ExtBut s.heap.objs.size s.heap h' → Q items.toList { s with heap := h' }) : wpAny (model prog w) A (unpackItems (.ref l) items.size none) Q E s := by
  have hlt : l ≠ s.heap.objs.size := by obtain ⟨o, ho, _⟩ := hl; exact Nat.ne_of_lt (Heap.lt_size ho)
  unfold unpackItems
  refine wpAny_bind ?_
  unfold notIterableAtAll
  refine wpAny_bind (wpAny_specialOf hl.typeIs slot_list_iter.lookup ?_)
  refine wpAny_pure ?_
  simp only [Bool.false_eq_true, if_false]
  refine wpAny_bind (wpAny_holding (wpAny_pyIter_list hl ?_))
  have hl' : Heap.IsList (s.heap.push { cls := .type "list_iterator", data := .fields #[.ref l, .int 0 0] }) l items := by
    obtain ⟨o, ho, r⟩ := hl
    exact ⟨o, Heap.get?_push_of_some _ ho, r⟩
  refine wpAny_bind (wpAny_holding (draw_list hlt items.size 0 _ _ ⟨_, Heap.get?_push_size _ rfl, rfl, rfl⟩ hl' (by omega) fun h₁ hi₁ hs₁ => ?_))
  have hall : List.take items.size (List.drop 0 items.toList) = items.toList := by
    rw [List.drop_zero]; exact List.take_of_length_le (by simp)
  rw [hall, if_neg (by simp)]
  refine wpAny_bind (wpAny_holding (wpAny_pyNext_list_end hh hi₁ (hl'.extBut hs₁.extBut hlt) (by simp) fun h₂ he₂ => ?_))
  simp only [Option.isSome_none, Bool.false_eq_true, if_false]
  exact wpAny_pure (h h₂ fun b o hb e => he₂ b o hb (hs₁.extBut b o hb (Heap.get?_push_of_some _ e)))
theorem assign_Tuple_list {s : Shared} {env : Env} {elts : List Expr} {k : Nat} {pos : Pos} {l : Addr} {items : Array Value} {Q : Unit → Shared → Prop} (hh : A.handled = none) (hl : s.heap.IsList l items)
    (hn : (assignEach elts env).length = items.size) (hstar : (assignEach elts env).findIdx? (·.1) = none)
    (h : ∀ h', Heap.ExtBut s.heap.objs.size s.heap h' → wpAny (model prog w) A (assignInOrder ((assignEach elts env).map (·.2)) items.toList) Q E { s with heap := h' }) :
    wpAny (model prog w) A (assign (.Tuple elts k pos) env (.ref l)) Q E s := by
  rw [arm_assign_Tuple]
  refine wpAny_bind (wpAny_standAt ?_)
  unfold unpack
  rw [hn, hstar]
  exact wpAny_bind (wpAny_holding (unpackItems_list hh hl h))
theorem noPylong {x y : Int} (h : y.natAbs < 2 ^ 64) : Builtin.divisionGoesByPylong x y = false := by
  unfold Builtin.divisionGoesByPylong
  dsimp only
  have hd : (if (y == 0) = true then 0 else y.natAbs.log2 / 30 + 1) ≤ 300 := by
    split
    · omega
    · rename_i h0
      have : y.natAbs ≠ 0 := fun e => h0 (by have : y = 0 := by omega
                                             rw [this]; rfl)
      have := (Nat.log2_lt this).mpr h
      omega
  rw [decide_eq_false (by omega)]
  rfl
end

section
variable {prog : Program} {w : World} {K : Frag} {p : Program} {loose : List Str} {mean : ExcName → Option Value} {mg mb : Str → Option Value} {V : Vars} {r : Rec}
  {A : Around} {h₀ : Heap} {L : Addr} {dp un : Nat} {E : Value → Shared → Prop} {s : Shared} {m : Str → Option Value} {news : List (Addr × Obj)} {F F' : Lo} {H H' : He} {env : Env} {ei : EI}
theorem SR.forget {P : Params} {h : Heap} (S : SR V P h₀ L h m news F H) : SR V P h₀ L h m news [] H := ⟨S.fr, S.nw, S.al, S.nds, fun _ _ z => by cases z⟩
theorem nm_local {adr : List Addr} (O : EnvOk env ei L adr) (hm : ei.mode = none) {x : Str} {pos : Pos} {v : Value} {Q : Value → Shared → Prop} (F : Fr h₀ L s.heap m) (hx : okStr x = true) (hk : kf ei.cs.names (sid x) = some .local) (hv : m x = some v) (h : Q v s) :
    wpAny (model prog w) A (eval (.Name x pos) env) Q E s := by
  have loc := O.loc
  rw [hm] at loc
  have loc : env.locals = L := loc
  exact wpAny_Name (wpAny_loadName_local O.fn (O.kindOf hx hk) (by rw [loc]; exact F.ns) hv h) (tbl_noDebug (okStr_get hx)).1
theorem st_local {adr : List Addr} (O : EnvOk env ei L adr) (hm : ei.mode = none) {x : Str} {v : Value} {Q : Unit → Shared → Prop} (S : SR V w.params h₀ L s.heap m news [] H) (hx : okStr x = true) (hk : kf ei.cs.names (sid x) = some .local)
    (h : ∀ h' tk, SR V w.params h₀ L h' (fun y => if y = x then some v else m y) news [] H → Q () { s with heap := h', toks := tk }) : wpAny (model prog w) A (storeName env x v) Q E s := by
  have loc := O.loc
  rw [hm] at loc
  have loc : env.locals = L := loc
  refine wpAny_storeName_local (O.kindOf hx hk) (by rw [loc]; exact S.fr.ns) (fun h' hn hs => ?_) (by rw [O.fn]; rfl)
  rw [loc] at hn hs
  exact h h' _ ⟨S.fr.set hn hs, S.nw.set hs, S.al, S.nds, fun _ _ z => by cases z⟩
theorem nm_builtin {adr : List Addr} (C : Cx K p loose mean mg mb A h₀ L dp) (O : EnvOk env ei L adr) {x : Str} {pos : Pos} {v : Value} {Q : Value → Shared → Prop} (F : Fr h₀ L s.heap m) (hx : okStr x = true) (hk : kf ei.cs.names (sid x) = some .globalImplicit)
    (hn : nsIn K mainGlobals x = some none) (hv : bootBuiltins x = some v) (h : Q v s) : wpAny (model prog w) A (eval (.Name x pos) env) Q E s :=
  Name_function_global O.fn (O.kindOf hx hk) (loadGlobal_builtin (by rw [O.glob]; exact C.top.g.keeps F.keep) (mg_none_of C.kin C.top.g hn) (by rw [O.bui]; exact C.top.b.keeps F.keep)
    ((C.top.builtins x (tbl_noDebug (okStr_get hx)).2).trans hv) h) (tbl_noDebug (okStr_get hx)).1
end
end Mine
end La_text
section Sh_text
open PySem PySem.W PyProof.Rows PySem.Calls PySem.Spec
set_option Elab.async false
set_option maxRecDepth 100000
set_option maxHeartbeats 4000000
set_option linter.unusedVariables false
namespace Mine
/-! tests of a text's shape, one step deep each: a deep pattern's splitter is large -/
noncomputable abbrev TE := PySem.Expr → Bool
noncomputable abbrev TS := PySem.Stmt → Bool
noncomputable def one {α : Type} (f : α → Bool) : List α → Bool
  | [] => false
  | a :: t => match t with
    | [] => f a
    | _ :: _ => false
noncomputable def two {α : Type} (f g : α → Bool) : List α → Bool
  | [] => false
  | a :: t => f a && one g t
noncomputable def three {α : Type} (f g h : α → Bool) : List α → Bool
  | [] => false
  | a :: t => f a && two g h t
noncomputable def four {α : Type} (f g h k : α → Bool) : List α → Bool
  | [] => false
  | a :: t => f a && three g h k t
theorem one_is {α : Type} {f : α → Bool} : ∀ {l : List α}, one f l = true → ∃ a, l = [a] ∧ f a = true
  | [a], h => ⟨a, rfl, h⟩
  | [], h => by cases h
  | _ :: _ :: _, h => by cases h
theorem two_is {α : Type} {f g : α → Bool} : ∀ {l : List α}, two f g l = true → ∃ a b, l = [a, b] ∧ f a = true ∧ g b = true
  | [], h => by cases h
  | a :: t, h => by
    obtain ⟨h1, h2⟩ := Bool.and_eq_true_iff.mp (show (f a && one g t) = true from h)
    obtain ⟨b, rfl, h3⟩ := one_is h2
    exact ⟨a, b, rfl, h1, h3⟩
theorem three_is {α : Type} {f g k : α → Bool} : ∀ {l : List α}, three f g k l = true → ∃ a b c, l = [a, b, c] ∧ f a = true ∧ g b = true ∧ k c = true
  | [], h => by cases h
  | a :: t, h => by
    obtain ⟨h1, h2⟩ := Bool.and_eq_true_iff.mp (show (f a && two g k t) = true from h)
    obtain ⟨b, c, rfl, h3, h4⟩ := two_is h2
    exact ⟨a, b, c, rfl, h1, h3, h4⟩
theorem four_is {α : Type} {f g k k' : α → Bool} : ∀ {l : List α}, four f g k k' l = true → ∃ a b c d, l = [a, b, c, d] ∧ f a = true ∧ g b = true ∧ k c = true ∧ k' d = true
  | [], h => by cases h
  | a :: t, h => by
    obtain ⟨h1, h2⟩ := Bool.and_eq_true_iff.mp (show (f a && three g k k' t) = true from h)
    obtain ⟨b, c, d, rfl, h3, h4, h5⟩ := three_is h2
    exact ⟨a, b, c, d, rfl, h1, h3, h4, h5⟩
theorem nil_is {α : Type} {l : List α} (h : l.isEmpty = true) : l = [] := List.isEmpty_iff.mp h
noncomputable def yesO {α : Type} (f : α → Bool) : Option α → Bool
  | some a => f a
  | none => false
theorem yesO_is {α : Type} {f : α → Bool} : ∀ {o : Option α}, yesO f o = true → ∃ a, o = some a ∧ f a = true
  | some a, h => ⟨a, rfl, h⟩
  | none, h => by cases h

noncomputable def nmE (x : Str) : TE := fun e => match e with
  | .Name y _ => y == x
  | _ => false
theorem nmE_is {x : Str} {e : PySem.Expr} (h : nmE x e = true) : ∃ p, e = .Name x p := by
  unfold nmE at h
  split at h
  · rename_i y p
    exact ⟨p, by rw [eq_of_beq h]⟩
  · cases h
noncomputable def litE (c : Const) : TE := fun e => match e with
  | .Constant d _ _ => d == c
  | _ => false
theorem litE_is {c : Const} {e : PySem.Expr} (h : litE c e = true) : ∃ k p, e = .Constant c k p := by
  unfold litE at h
  split at h
  · rename_i d k p
    exact ⟨k, p, by rw [eq_of_beq h]⟩
  · cases h
noncomputable def subE (f g : TE) : TE := fun e => match e with
  | .Subscript a b _ => f a && g b
  | _ => false
theorem subE_is {f g : TE} {e : PySem.Expr} (h : subE f g e = true) : ∃ a b p, e = .Subscript a b p ∧ f a = true ∧ g b = true := by
  unfold subE at h
  split at h
  · rename_i a b p
    have h := Bool.and_eq_true_iff.mp h
    exact ⟨a, b, p, rfl, h.1, h.2⟩
  · cases h
noncomputable def attE (x : Str) (f : TE) : TE := fun e => match e with
  | .Attribute a y _ => (y == x) && f a
  | _ => false
theorem attE_is {x : Str} {f : TE} {e : PySem.Expr} (h : attE x f e = true) : ∃ a p, e = .Attribute a x p ∧ f a = true := by
  unfold attE at h
  split at h
  · rename_i a y p
    have h := Bool.and_eq_true_iff.mp h
    exact ⟨a, p, by rw [eq_of_beq h.1], h.2⟩
  · cases h
noncomputable def binE (o : Operator) (f g : TE) : TE := fun e => match e with
  | .BinOp a o2 b _ => (o2 == o) && (f a && g b)
  | _ => false
theorem binE_is {o : Operator} {f g : TE} {e : PySem.Expr} (h : binE o f g e = true) : ∃ a b p, e = .BinOp a o b p ∧ f a = true ∧ g b = true := by
  unfold binE at h
  split at h
  · rename_i a o2 b p
    have h := Bool.and_eq_true_iff.mp h
    have h2 := Bool.and_eq_true_iff.mp h.2
    exact ⟨a, b, p, by rw [eq_of_beq h.1], h2.1, h2.2⟩
  · cases h
noncomputable def call1 (x : Str) (f : TE) : TE := fun e => match e with
  | .Call g as ks _ => (nmE x g && one f as) && ks.isEmpty
  | _ => false
theorem call1_is {x : Str} {f : TE} {e : PySem.Expr} (h : call1 x f e = true) : ∃ q a p, e = .Call (.Name x q) [a] [] p ∧ f a = true := by
  unfold call1 at h
  split at h
  · rename_i g as ks p
    have h := Bool.and_eq_true_iff.mp h
    have h2 := Bool.and_eq_true_iff.mp h.1
    obtain ⟨q, rfl⟩ := nmE_is h2.1
    obtain ⟨a, rfl, h3⟩ := one_is h2.2
    have h4 := nil_is h.2
    subst h4
    exact ⟨q, a, p, rfl, h3⟩
  · cases h
noncomputable def cmpE (o : CmpOp) (f g : TE) : TE := fun e => match e with
  | .Compare a os bs _ => (f a && one g bs) && one (· == o) os
  | _ => false
theorem cmpE_is {o : CmpOp} {f g : TE} {e : PySem.Expr} (h : cmpE o f g e = true) : ∃ a b p, e = .Compare a [o] [b] p ∧ f a = true ∧ g b = true := by
  unfold cmpE at h
  split at h
  · rename_i a os bs p
    have h := Bool.and_eq_true_iff.mp h
    have h2 := Bool.and_eq_true_iff.mp h.1
    obtain ⟨b, rfl, h3⟩ := one_is h2.2
    obtain ⟨o2, rfl, h4⟩ := one_is h.2
    exact ⟨a, b, p, by rw [eq_of_beq h4], h2.1, h3⟩
  · cases h
noncomputable def orE (f : List PySem.Expr → Bool) : TE := fun e => match e with
  | .BoolOp o es _ => (o == .Or) && f es
  | _ => false
theorem orE_is {f : List PySem.Expr → Bool} {e : PySem.Expr} (h : orE f e = true) : ∃ es p, e = .BoolOp .Or es p ∧ f es = true := by
  unfold orE at h
  split at h
  · rename_i o es p
    have h := Bool.and_eq_true_iff.mp h
    exact ⟨es, p, by rw [eq_of_beq h.1], h.2⟩
  · cases h
noncomputable def listE (f : List PySem.Expr → Bool) : TE := fun e => match e with
  | .List es _ => f es
  | _ => false
theorem listE_is {f : List PySem.Expr → Bool} {e : PySem.Expr} (h : listE f e = true) : ∃ es p, e = .List es p ∧ f es = true := by
  unfold listE at h
  split at h
  · rename_i es p
    exact ⟨es, p, rfl, h⟩
  · cases h
noncomputable def tupE (f : List PySem.Expr → Bool) : TE := fun e => match e with
  | .Tuple es _ _ => f es
  | _ => false
theorem tupE_is {f : List PySem.Expr → Bool} {e : PySem.Expr} (h : tupE f e = true) : ∃ es k p, e = .Tuple es k p ∧ f es = true := by
  unfold tupE at h
  split at h
  · rename_i es k p
    exact ⟨es, k, p, rfl, h⟩
  · cases h
noncomputable def uptoE (f : TE) : TE := fun e => match e with
  | .Slice lo hi st _ => (lo.isNone && st.isNone) && yesO f hi
  | _ => false
theorem uptoE_is {f : TE} {e : PySem.Expr} (h : uptoE f e = true) : ∃ u p, e = .Slice none (some u) none p ∧ f u = true := by
  unfold uptoE at h
  split at h
  · rename_i lo hi st p
    have h := Bool.and_eq_true_iff.mp h
    have h2 := Bool.and_eq_true_iff.mp h.1
    obtain ⟨u, rfl, h3⟩ := yesO_is h.2
    cases lo with
    | some _ => cases h2.1
    | none =>
      cases st with
      | some _ => cases h2.2
      | none => exact ⟨u, p, rfl, h3⟩
  · cases h
noncomputable def asgS (f g : TE) : TS := fun s => match s with
  | .Assign ts v _ => one f ts && g v
  | _ => false
theorem asgS_is {f g : TE} {s : PySem.Stmt} (h : asgS f g s = true) : ∃ t v p, s = .Assign [t] v p ∧ f t = true ∧ g v = true := by
  unfold asgS at h
  split at h
  · rename_i ts v p
    have h := Bool.and_eq_true_iff.mp h
    obtain ⟨t, rfl, h3⟩ := one_is h.1
    exact ⟨t, v, p, rfl, h3, h.2⟩
  · cases h
noncomputable def retS (f : TE) : TS := fun s => match s with
  | .Return v _ => yesO f v
  | _ => false
theorem retS_is {f : TE} {s : PySem.Stmt} (h : retS f s = true) : ∃ v p, s = .Return (some v) p ∧ f v = true := by
  unfold retS at h
  split at h
  · rename_i v p
    obtain ⟨u, rfl, h3⟩ := yesO_is h
    exact ⟨u, p, rfl, h3⟩
  · cases h
noncomputable def ifS (f : TE) (g : List PySem.Stmt → Bool) : TS := fun s => match s with
  | .If t b o _ => (f t && g b) && o.isEmpty
  | _ => false
theorem ifS_is {f : TE} {g : List PySem.Stmt → Bool} {s : PySem.Stmt} (h : ifS f g s = true) : ∃ t b p, s = .If t b [] p ∧ f t = true ∧ g b = true := by
  unfold ifS at h
  split at h
  · rename_i t b o p
    have h := Bool.and_eq_true_iff.mp h
    have h2 := Bool.and_eq_true_iff.mp h.1
    have h4 := nil_is h.2
    subst h4
    exact ⟨t, b, p, rfl, h2.1, h2.2⟩
  · cases h
noncomputable def forS (f g : TE) (k : List PySem.Stmt → Bool) : TS := fun s => match s with
  | .For t i b o _ => (f t && (g i && k b)) && o.isEmpty
  | _ => false
theorem forS_is {f g : TE} {k : List PySem.Stmt → Bool} {s : PySem.Stmt} (h : forS f g k s = true) : ∃ t i b p, s = .For t i b [] p ∧ f t = true ∧ g i = true ∧ k b = true := by
  unfold forS at h
  split at h
  · rename_i t i b o p
    have h := Bool.and_eq_true_iff.mp h
    have h2 := Bool.and_eq_true_iff.mp h.1
    have h3 := Bool.and_eq_true_iff.mp h2.2
    have h4 := nil_is h.2
    subst h4
    exact ⟨t, i, b, p, rfl, h2.1, h3.1, h3.2⟩
  · cases h
noncomputable def call2 (x : Str) (f g : TE) : TE := fun e => match e with
  | .Call h as ks _ => (nmE x h && two f g as) && ks.isEmpty
  | _ => false
theorem call2_is {x : Str} {f g : TE} {e : PySem.Expr} (h : call2 x f g e = true) : ∃ q a b p, e = .Call (.Name x q) [a, b] [] p ∧ f a = true ∧ g b = true := by
  unfold call2 at h
  split at h
  · rename_i g as ks p
    have h := Bool.and_eq_true_iff.mp h
    have h2 := Bool.and_eq_true_iff.mp h.1
    obtain ⟨q, rfl⟩ := nmE_is h2.1
    obtain ⟨a, b, rfl, h3, h4⟩ := two_is h2.2
    have h5 := nil_is h.2
    subst h5
    exact ⟨q, a, b, p, rfl, h3, h4⟩
  · cases h
noncomputable def pre3 {α : Type} (f g k : α → Bool) : List α → Bool
  | [] => false
  | a :: t => f a && match t with
    | [] => false
    | b :: t => g b && match t with
      | [] => false
      | c :: _ => k c
theorem pre3_is {α : Type} {f g k : α → Bool} : ∀ {l : List α}, pre3 f g k l = true → ∃ a b c t, l = a :: b :: c :: t ∧ f a = true ∧ g b = true ∧ k c = true
  | [], h => by cases h
  | [a], h => by have h := (and_is (show (f a && false) = true from h)).2; cases h
  | [a, b], h => by have h := (and_is (and_is (show (f a && (g b && false)) = true from h)).2).2; cases h
  | a :: b :: c :: t, h => by
    obtain ⟨h1, h⟩ := and_is (show (f a && (g b && k c)) = true from h)
    obtain ⟨h2, h3⟩ := and_is h
    exact ⟨a, b, c, t, rfl, h1, h2, h3⟩
noncomputable def anyL : List PySem.Stmt → Bool := fun _ => true
noncomputable def isRet0 : PySem.Stmt → Bool := retS (litE (.int 0))
inductive IsRet0 : PySem.Stmt → Prop
  | mk (k1 : Nat) (p2 : Pos) (p3 : Pos)  : IsRet0 (.Return (some (.Constant (.int 0) k1 p2)) p3)
theorem isRet0_is {x : PySem.Stmt} (e : isRet0 x = true) : IsRet0 x := by
  obtain ⟨v1_, p1_, rfl, e'⟩ := retS_is e
  obtain ⟨k2_, p2_, rfl⟩ := litE_is e'
  constructor <;> assumption

noncomputable def isTake1 : PySem.Stmt → Bool := asgS (tupE (two (nmE "row") (nmE "at"))) (nmE "state")
inductive IsTake1 : PySem.Stmt → Prop
  | mk (p1 : Pos) (p2 : Pos) (k3 : Nat) (p4 : Pos) (p5 : Pos) (p6 : Pos)  : IsTake1 (.Assign [(.Tuple [(.Name "row" p1), (.Name "at" p2)] k3 p4)] (.Name "state" p5) p6)
theorem isTake1_is {x : PySem.Stmt} (e : isTake1 x = true) : IsTake1 x := by
  obtain ⟨t1_, v1_, p1_, rfl, e_0, e_1⟩ := asgS_is e
  obtain ⟨es2_, k2_, p2_, rfl, e_0'⟩ := tupE_is e_0
  obtain ⟨a3_, b3_, rfl, e_0'_0, e_0'_1⟩ := two_is e_0'
  obtain ⟨p4_, rfl⟩ := nmE_is e_0'_0
  obtain ⟨p5_, rfl⟩ := nmE_is e_0'_1
  obtain ⟨p6_, rfl⟩ := nmE_is e_1
  constructor <;> assumption

noncomputable def isTake2 : PySem.Stmt → Bool := asgS (subE (nmE "state") (litE (.int 1))) (binE .Add (nmE "at") (litE (.int 1)))
inductive IsTake2 : PySem.Stmt → Prop
  | mk (p1 : Pos) (k2 : Nat) (p3 : Pos) (p4 : Pos) (p5 : Pos) (k6 : Nat) (p7 : Pos) (p8 : Pos) (p9 : Pos)  : IsTake2 (.Assign [(.Subscript (.Name "state" p1) (.Constant (.int 1) k2 p3) p4)] (.BinOp (.Name "at" p5) .Add (.Constant (.int 1) k6 p7) p8) p9)
theorem isTake2_is {x : PySem.Stmt} (e : isTake2 x = true) : IsTake2 x := by
  obtain ⟨t1_, v1_, p1_, rfl, e_0, e_1⟩ := asgS_is e
  obtain ⟨a2_, b2_, p2_, rfl, e_0_0, e_0_1⟩ := subE_is e_0
  obtain ⟨p3_, rfl⟩ := nmE_is e_0_0
  obtain ⟨k4_, p4_, rfl⟩ := litE_is e_0_1
  obtain ⟨a5_, b5_, p5_, rfl, e_1_0, e_1_1⟩ := binE_is e_1
  obtain ⟨p6_, rfl⟩ := nmE_is e_1_0
  obtain ⟨k7_, p7_, rfl⟩ := litE_is e_1_1
  constructor <;> assumption

noncomputable def isTake3 : PySem.Stmt → Bool := ifS (cmpE .Eq (nmE "row") (listE List.isEmpty)) (one isRet0)
inductive IsTake3 : PySem.Stmt → Prop
  | mk (p1 : Pos) (p2 : Pos) (p3 : Pos) (x4 : PySem.Stmt) (p5 : Pos) (h_x4 : isRet0 x4 = true) : IsTake3 (.If (.Compare (.Name "row" p1) [.Eq] [(.List [] p2)] p3) [x4] [] p5)
theorem isTake3_is {x : PySem.Stmt} (e : isTake3 x = true) : IsTake3 x := by
  obtain ⟨t1_, b1_, p1_, rfl, e_0, e_1⟩ := ifS_is e
  obtain ⟨a2_, b2_, p2_, rfl, e_0_0, e_0_1⟩ := cmpE_is e_0
  obtain ⟨p3_, rfl⟩ := nmE_is e_0_0
  obtain ⟨es4_, p4_, rfl, e_0_1'⟩ := listE_is e_0_1
  have e_0_1'n := nil_is e_0_1'
  subst e_0_1'n
  obtain ⟨a5_, rfl, e_1'⟩ := one_is e_1
  constructor <;> assumption

noncomputable def isT4a : PySem.Expr → Bool := call1 "abs" (subE (nmE "row") (binE .Mod (nmE "at") (call1 "len" (nmE "row"))))
inductive IsT4a : PySem.Expr → Prop
  | mk (p1 : Pos) (p2 : Pos) (p3 : Pos) (p4 : Pos) (p5 : Pos) (p6 : Pos) (p7 : Pos) (p8 : Pos) (p9 : Pos)  : IsT4a (.Call (.Name "abs" p1) [(.Subscript (.Name "row" p2) (.BinOp (.Name "at" p3) .Mod (.Call (.Name "len" p4) [(.Name "row" p5)] [] p6) p7) p8)] [] p9)
theorem isT4a_is {x : PySem.Expr} (e : isT4a x = true) : IsT4a x := by
  obtain ⟨q1_, a1_, p1_, rfl, e'⟩ := call1_is e
  obtain ⟨a2_, b2_, p2_, rfl, e'_0, e'_1⟩ := subE_is e'
  obtain ⟨p3_, rfl⟩ := nmE_is e'_0
  obtain ⟨a4_, b4_, p4_, rfl, e'_1_0, e'_1_1⟩ := binE_is e'_1
  obtain ⟨p5_, rfl⟩ := nmE_is e'_1_0
  obtain ⟨q6_, a6_, p6_, rfl, e'_1_1'⟩ := call1_is e'_1_1
  obtain ⟨p7_, rfl⟩ := nmE_is e'_1_1'
  constructor <;> assumption

noncomputable def isT4b : PySem.Expr → Bool := binE .Pow (litE (.int 7)) (binE .FloorDiv (nmE "at") (call1 "len" (nmE "row")))
inductive IsT4b : PySem.Expr → Prop
  | mk (k1 : Nat) (p2 : Pos) (p3 : Pos) (p4 : Pos) (p5 : Pos) (p6 : Pos) (p7 : Pos) (p8 : Pos)  : IsT4b (.BinOp (.Constant (.int 7) k1 p2) .Pow (.BinOp (.Name "at" p3) .FloorDiv (.Call (.Name "len" p4) [(.Name "row" p5)] [] p6) p7) p8)
theorem isT4b_is {x : PySem.Expr} (e : isT4b x = true) : IsT4b x := by
  obtain ⟨a1_, b1_, p1_, rfl, e_0, e_1⟩ := binE_is e
  obtain ⟨k2_, p2_, rfl⟩ := litE_is e_0
  obtain ⟨a3_, b3_, p3_, rfl, e_1_0, e_1_1⟩ := binE_is e_1
  obtain ⟨p4_, rfl⟩ := nmE_is e_1_0
  obtain ⟨q5_, a5_, p5_, rfl, e_1_1'⟩ := call1_is e_1_1
  obtain ⟨p6_, rfl⟩ := nmE_is e_1_1'
  constructor <;> assumption

noncomputable def isTake4 : PySem.Stmt → Bool := retS (binE .Mod (binE .FloorDiv isT4a isT4b) (nmE "most"))
inductive IsTake4 : PySem.Stmt → Prop
  | mk (x1 : PySem.Expr) (x2 : PySem.Expr) (p3 : Pos) (p4 : Pos) (p5 : Pos) (p6 : Pos) (h_x1 : isT4a x1 = true) (h_x2 : isT4b x2 = true) : IsTake4 (.Return (some (.BinOp (.BinOp x1 .FloorDiv x2 p3) .Mod (.Name "most" p4) p5)) p6)
theorem isTake4_is {x : PySem.Stmt} (e : isTake4 x = true) : IsTake4 x := by
  obtain ⟨v1_, p1_, rfl, e'⟩ := retS_is e
  obtain ⟨a2_, b2_, p2_, rfl, e'_0, e'_1⟩ := binE_is e'
  obtain ⟨a3_, b3_, p3_, rfl, e'_0_0, e'_0_1⟩ := binE_is e'_0
  obtain ⟨p4_, rfl⟩ := nmE_is e'_1
  constructor <;> assumption

noncomputable def isChk1 : PySem.Expr → Bool := cmpE .NotEq (attE "out" (nmE "interp")) (nmE "out")
inductive IsChk1 : PySem.Expr → Prop
  | mk (p1 : Pos) (p2 : Pos) (p3 : Pos) (p4 : Pos)  : IsChk1 (.Compare (.Attribute (.Name "interp" p1) "out" p2) [.NotEq] [(.Name "out" p3)] p4)
theorem isChk1_is {x : PySem.Expr} (e : isChk1 x = true) : IsChk1 x := by
  obtain ⟨a1_, b1_, p1_, rfl, e_0, e_1⟩ := cmpE_is e
  obtain ⟨a2_, p2_, rfl, e_0'⟩ := attE_is e_0
  obtain ⟨p3_, rfl⟩ := nmE_is e_0'
  obtain ⟨p4_, rfl⟩ := nmE_is e_1
  constructor <;> assumption

noncomputable def isChk2 : PySem.Expr → Bool := cmpE .NotEq (call1 "len" (attE "warnings" (nmE "interp"))) (call1 "len" (nmE "told"))
inductive IsChk2 : PySem.Expr → Prop
  | mk (p1 : Pos) (p2 : Pos) (p3 : Pos) (p4 : Pos) (p5 : Pos) (p6 : Pos) (p7 : Pos) (p8 : Pos)  : IsChk2 (.Compare (.Call (.Name "len" p1) [(.Attribute (.Name "interp" p2) "warnings" p3)] [] p4) [.NotEq] [(.Call (.Name "len" p5) [(.Name "told" p6)] [] p7)] p8)
theorem isChk2_is {x : PySem.Expr} (e : isChk2 x = true) : IsChk2 x := by
  obtain ⟨a1_, b1_, p1_, rfl, e_0, e_1⟩ := cmpE_is e
  obtain ⟨q2_, a2_, p2_, rfl, e_0'⟩ := call1_is e_0
  obtain ⟨a3_, p3_, rfl, e_0''⟩ := attE_is e_0'
  obtain ⟨p4_, rfl⟩ := nmE_is e_0''
  obtain ⟨q5_, a5_, p5_, rfl, e_1'⟩ := call1_is e_1
  obtain ⟨p6_, rfl⟩ := nmE_is e_1'
  constructor <;> assumption

noncomputable def isCheck : PySem.Stmt → Bool := ifS (orE (two isChk1 isChk2)) anyL
inductive IsCheck : PySem.Stmt → Prop
  | mk (x1 : PySem.Expr) (x2 : PySem.Expr) (p3 : Pos) (x4 : List PySem.Stmt) (p5 : Pos) (h_x1 : isChk1 x1 = true) (h_x2 : isChk2 x2 = true) : IsCheck (.If (.BoolOp .Or [x1, x2] p3) x4 [] p5)
theorem isCheck_is {x : PySem.Stmt} (e : isCheck x = true) : IsCheck x := by
  obtain ⟨t1_, b1_, p1_, rfl, e_0, e_1⟩ := ifS_is e
  obtain ⟨es2_, p2_, rfl, e_0'⟩ := orE_is e_0
  obtain ⟨a3_, b3_, rfl, e_0'_0, e_0'_1⟩ := two_is e_0'
  constructor <;> assumption

noncomputable def isFin1 : PySem.Stmt → Bool := asgS (tupE (two (nmE "said") (nmE "call_in"))) (subE (attE "warnings" (nmE "interp")) (nmE "at"))
inductive IsFin1 : PySem.Stmt → Prop
  | mk (p1 : Pos) (p2 : Pos) (k3 : Nat) (p4 : Pos) (p5 : Pos) (p6 : Pos) (p7 : Pos) (p8 : Pos) (p9 : Pos)  : IsFin1 (.Assign [(.Tuple [(.Name "said" p1), (.Name "call_in" p2)] k3 p4)] (.Subscript (.Attribute (.Name "interp" p5) "warnings" p6) (.Name "at" p7) p8) p9)
theorem isFin1_is {x : PySem.Stmt} (e : isFin1 x = true) : IsFin1 x := by
  obtain ⟨t1_, v1_, p1_, rfl, e_0, e_1⟩ := asgS_is e
  obtain ⟨es2_, k2_, p2_, rfl, e_0'⟩ := tupE_is e_0
  obtain ⟨a3_, b3_, rfl, e_0'_0, e_0'_1⟩ := two_is e_0'
  obtain ⟨p4_, rfl⟩ := nmE_is e_0'_0
  obtain ⟨p5_, rfl⟩ := nmE_is e_0'_1
  obtain ⟨a6_, b6_, p6_, rfl, e_1_0, e_1_1⟩ := subE_is e_1
  obtain ⟨a7_, p7_, rfl, e_1_0'⟩ := attE_is e_1_0
  obtain ⟨p8_, rfl⟩ := nmE_is e_1_0'
  obtain ⟨p9_, rfl⟩ := nmE_is e_1_1
  constructor <;> assumption

noncomputable def isF2a : PySem.Expr → Bool := cmpE .NotEq (nmE "said") (subE (subE (nmE "told") (nmE "at")) (litE (.int 0)))
inductive IsF2a : PySem.Expr → Prop
  | mk (p1 : Pos) (p2 : Pos) (p3 : Pos) (p4 : Pos) (k5 : Nat) (p6 : Pos) (p7 : Pos) (p8 : Pos)  : IsF2a (.Compare (.Name "said" p1) [.NotEq] [(.Subscript (.Subscript (.Name "told" p2) (.Name "at" p3) p4) (.Constant (.int 0) k5 p6) p7)] p8)
theorem isF2a_is {x : PySem.Expr} (e : isF2a x = true) : IsF2a x := by
  obtain ⟨a1_, b1_, p1_, rfl, e_0, e_1⟩ := cmpE_is e
  obtain ⟨p2_, rfl⟩ := nmE_is e_0
  obtain ⟨a3_, b3_, p3_, rfl, e_1_0, e_1_1⟩ := subE_is e_1
  obtain ⟨a4_, b4_, p4_, rfl, e_1_0_0, e_1_0_1⟩ := subE_is e_1_0
  obtain ⟨p5_, rfl⟩ := nmE_is e_1_0_0
  obtain ⟨p6_, rfl⟩ := nmE_is e_1_0_1
  obtain ⟨k7_, p7_, rfl⟩ := litE_is e_1_1
  constructor <;> assumption

noncomputable def isF2b : PySem.Expr → Bool := cmpE .NotEq (attE "name" (subE (attE "items" (nmE "call_in")) (litE (.int 0)))) (litE (.str "switch"))
inductive IsF2b : PySem.Expr → Prop
  | mk (p1 : Pos) (p2 : Pos) (k3 : Nat) (p4 : Pos) (p5 : Pos) (p6 : Pos) (k7 : Nat) (p8 : Pos) (p9 : Pos)  : IsF2b (.Compare (.Attribute (.Subscript (.Attribute (.Name "call_in" p1) "items" p2) (.Constant (.int 0) k3 p4) p5) "name" p6) [.NotEq] [(.Constant (.str "switch") k7 p8)] p9)
theorem isF2b_is {x : PySem.Expr} (e : isF2b x = true) : IsF2b x := by
  obtain ⟨a1_, b1_, p1_, rfl, e_0, e_1⟩ := cmpE_is e
  obtain ⟨a2_, p2_, rfl, e_0'⟩ := attE_is e_0
  obtain ⟨a3_, b3_, p3_, rfl, e_0'_0, e_0'_1⟩ := subE_is e_0'
  obtain ⟨a4_, p4_, rfl, e_0'_0'⟩ := attE_is e_0'_0
  obtain ⟨p5_, rfl⟩ := nmE_is e_0'_0'
  obtain ⟨k6_, p6_, rfl⟩ := litE_is e_0'_1
  obtain ⟨k7_, p7_, rfl⟩ := litE_is e_1
  constructor <;> assumption

noncomputable def isF2c1 : PySem.Expr → Bool := call1 "len" (attE "items" (nmE "call_in"))
inductive IsF2c1 : PySem.Expr → Prop
  | mk (p1 : Pos) (p2 : Pos) (p3 : Pos) (p4 : Pos)  : IsF2c1 (.Call (.Name "len" p1) [(.Attribute (.Name "call_in" p2) "items" p3)] [] p4)
theorem isF2c1_is {x : PySem.Expr} (e : isF2c1 x = true) : IsF2c1 x := by
  obtain ⟨q1_, a1_, p1_, rfl, e'⟩ := call1_is e
  obtain ⟨a2_, p2_, rfl, e''⟩ := attE_is e'
  obtain ⟨p3_, rfl⟩ := nmE_is e''
  constructor <;> assumption

noncomputable def isF2c2 : PySem.Expr → Bool := call1 "len" (attE "items" (subE (subE (nmE "told") (nmE "at")) (litE (.int 1))))
inductive IsF2c2 : PySem.Expr → Prop
  | mk (p1 : Pos) (p2 : Pos) (p3 : Pos) (p4 : Pos) (k5 : Nat) (p6 : Pos) (p7 : Pos) (p8 : Pos) (p9 : Pos)  : IsF2c2 (.Call (.Name "len" p1) [(.Attribute (.Subscript (.Subscript (.Name "told" p2) (.Name "at" p3) p4) (.Constant (.int 1) k5 p6) p7) "items" p8)] [] p9)
theorem isF2c2_is {x : PySem.Expr} (e : isF2c2 x = true) : IsF2c2 x := by
  obtain ⟨q1_, a1_, p1_, rfl, e'⟩ := call1_is e
  obtain ⟨a2_, p2_, rfl, e''⟩ := attE_is e'
  obtain ⟨a3_, b3_, p3_, rfl, e''_0, e''_1⟩ := subE_is e''
  obtain ⟨a4_, b4_, p4_, rfl, e''_0_0, e''_0_1⟩ := subE_is e''_0
  obtain ⟨p5_, rfl⟩ := nmE_is e''_0_0
  obtain ⟨p6_, rfl⟩ := nmE_is e''_0_1
  obtain ⟨k7_, p7_, rfl⟩ := litE_is e''_1
  constructor <;> assumption

noncomputable def isF2c : PySem.Expr → Bool := cmpE .NotEq isF2c1 isF2c2
inductive IsF2c : PySem.Expr → Prop
  | mk (x1 : PySem.Expr) (x2 : PySem.Expr) (p3 : Pos) (h_x1 : isF2c1 x1 = true) (h_x2 : isF2c2 x2 = true) : IsF2c (.Compare x1 [.NotEq] [x2] p3)
theorem isF2c_is {x : PySem.Expr} (e : isF2c x = true) : IsF2c x := by
  obtain ⟨a1_, b1_, p1_, rfl, e_0, e_1⟩ := cmpE_is e
  constructor <;> assumption

noncomputable def isFin2 : PySem.Stmt → Bool := ifS (orE (three isF2a isF2b isF2c)) anyL
inductive IsFin2 : PySem.Stmt → Prop
  | mk (x1 : PySem.Expr) (x2 : PySem.Expr) (x3 : PySem.Expr) (p4 : Pos) (x5 : List PySem.Stmt) (p6 : Pos) (h_x1 : isF2a x1 = true) (h_x2 : isF2b x2 = true) (h_x3 : isF2c x3 = true) : IsFin2 (.If (.BoolOp .Or [x1, x2, x3] p4) x5 [] p6)
theorem isFin2_is {x : PySem.Stmt} (e : isFin2 x = true) : IsFin2 x := by
  obtain ⟨t1_, b1_, p1_, rfl, e_0, e_1⟩ := ifS_is e
  obtain ⟨es2_, p2_, rfl, e_0'⟩ := orE_is e_0
  obtain ⟨a3_, b3_, c3_, rfl, e_0'_0, e_0'_1, e_0'_2⟩ := three_is e_0'
  constructor <;> assumption

noncomputable def isState : PySem.Stmt → Bool := asgS (nmE "state") (listE (two (subE (nmE "script") (uptoE (litE (.int 40)))) (litE (.int 0))))
inductive IsState : PySem.Stmt → Prop
  | mk (p1 : Pos) (p2 : Pos) (k3 : Nat) (p4 : Pos) (p5 : Pos) (p6 : Pos) (k7 : Nat) (p8 : Pos) (p9 : Pos) (p10 : Pos)  : IsState (.Assign [(.Name "state" p1)] (.List [(.Subscript (.Name "script" p2) (.Slice none (some (.Constant (.int 40) k3 p4)) none p5) p6), (.Constant (.int 0) k7 p8)] p9) p10)
theorem isState_is {x : PySem.Stmt} (e : isState x = true) : IsState x := by
  obtain ⟨t1_, v1_, p1_, rfl, e_0, e_1⟩ := asgS_is e
  obtain ⟨p2_, rfl⟩ := nmE_is e_0
  obtain ⟨es3_, p3_, rfl, e_1'⟩ := listE_is e_1
  obtain ⟨a4_, b4_, rfl, e_1'_0, e_1'_1⟩ := two_is e_1'
  obtain ⟨a5_, b5_, p5_, rfl, e_1'_0_0, e_1'_0_1⟩ := subE_is e_1'_0
  obtain ⟨p6_, rfl⟩ := nmE_is e_1'_0_0
  obtain ⟨u7_, p7_, rfl, e_1'_0_1'⟩ := uptoE_is e_1'_0_1
  obtain ⟨k8_, p8_, rfl⟩ := litE_is e_1'_0_1'
  obtain ⟨k9_, p9_, rfl⟩ := litE_is e_1'_1
  constructor <;> assumption

noncomputable def takeIs : List PySem.Stmt → Bool := four isTake1 isTake2 isTake3 isTake4
noncomputable def isFinal : PySem.Stmt → Bool := forS (nmE "at") (call1 "range" (call1 "len" (nmE "told"))) (two isFin1 isFin2)
end Mine
end Sh_text
section Lb_text
open PySem PySem.W PyProof.Rows PySem.Calls PySem.Spec
set_option Elab.async false
set_option maxRecDepth 100000
set_option maxHeartbeats 4000000
set_option linter.unusedVariables false
namespace Mine
noncomputable def takeNames (K : Frag) (names : List (Str × NameKind)) : Bool :=
  okStr "row" && okStr "at" && okStr "state" && okStr "most" && okStr "abs" && okStr "len" &&
  (kf names (sid "row") == some .local) && (kf names (sid "at") == some .local) && (kf names (sid "state") == some .local) && (kf names (sid "most") == some .local) &&
  (kf names (sid "abs") == some .globalImplicit) && (kf names (sid "len") == some .globalImplicit) && (nsIn K mainGlobals "abs" == some none) && (nsIn K mainGlobals "len" == some none)
/-- the list that the helper goes by -/
noncomputable def StateIs (o : Obj) (D : Addr) (at_ : Nat) : Prop := o.cls = .type "list" ∧ ∃ n t, o.data = .seq #[.ref D, .int (at_ : Int) t] n
structure RowIs (o : Obj) (rows : List Value) : Prop where
  obj : ∃ n, o = listOf (List.toArray rows) n
  nums : ∀ v ∈ rows, ∃ i t, v = .int i t
  len : rows.length ≤ 40
theorem pow7 {k : Nat} (h : k ≤ 12) : ((7 : Int) ^ k).natAbs < 2 ^ 64 ∧ (7 : Int) ^ k ≠ 0 ∧ 0 ≤ (7 : Int) ^ k := by
  have h1 : (7 : Int) ^ k = ((7 ^ k : Nat) : Int) := by simp
  have h2 : 7 ^ k ≤ 7 ^ 12 := Nat.pow_le_pow_right (by decide) h
  have h3 : 0 < 7 ^ k := Nat.pow_pos (by decide)
  have h4 : (7 : Nat) ^ 12 < 2 ^ 64 := by decide
  rw [h1]
  refine ⟨by simpa using Nat.lt_of_le_of_lt h2 h4, by omega, by omega⟩

section
variable {prog : Program} {w : World} {K : Frag} {p : Program} {loose : List Str} {mean : ExcName → Option Value} {mg mb : Str → Option Value} {V : Vars} {r : Rec}
  {A : Around} {h₀ : Heap} {L : Addr} {dp un : Nat} {E : Value → Shared → Prop} {s : Shared} {m : Str → Option Value} {news : List (Addr × Obj)} {F F' : Lo} {H H' : He} {env : Env} {ei : EI}

theorem all2_of {α β : Type} {R : α → β → Prop} : ∀ {l : List α} {l' : List β}, l.length = l'.length → (∀ (q : Nat) (a : α) (b : β), l[q]? = some a → l'[q]? = some b → R a b) → All2 R l l'
  | [], [], _, _ => .nil
  | a :: t, b :: u, hl, h => .cons (h 0 a b rfl rfl) (all2_of (by simpa using hl) fun q x y hx hy => h (q + 1) x y (by simpa using hx) (by simpa using hy))
  | [], _ :: _, h, _ => by simp at h
  | _ :: _, [], h, _ => by simp at h
theorem all2_at {α β : Type} {R : α → β → Prop} {l : List α} {l' : List β} {q : Nat} {a : α} {b : β} (h : All2 R l l') (ha : l[q]? = some a) (hb : l'[q]? = some b) : R a b := by
  obtain ⟨b', h1, h2⟩ := all2_get h ha
  rw [hb] at h1
  cases h1
  exact h2
noncomputable abbrev Vars.setObj (V : Vars) (j : Nat) (o : Obj) : Vars := { V with obj := fun q => if q = j then o else V.obj q }
theorem VR.setObj {adr : List Addr} {a : AV} {v : Value} {j : Nat} {o : Obj} (h : VR V adr a v) : VR (V.setObj j o) adr a v := by cases a <;> exact h
theorem OR.setObj {adr : List Addr} {P : Params} {a : AO} {ob : Obj} {j : Nat} {o : Obj} (hj : ∀ k, a = .opq k → k ≠ j) (h : OR V adr P a ob) : OR (V.setObj j o) adr P a ob := by
  cases a with
  | inst C d => exact h
  | dict es => obtain ⟨des, n, h1, h2⟩ := h; exact ⟨des, n, h1, h2.imp fun _ _ ⟨x, t, a, b, c, d⟩ => ⟨x, t, a, b, c, d.setObj⟩⟩
  | list vs => obtain ⟨xs, n, h1, h2⟩ := h; exact ⟨xs, n, h1, h2.imp fun _ _ z => z.setObj⟩
  | tup vs => obtain ⟨xs, n, h1, h2⟩ := h; exact ⟨xs, n, h1, h2.imp fun _ _ z => z.setObj⟩
  | cell v =>
    obtain ⟨w, h1, h2⟩ := h
    refine ⟨w, h1, ?_⟩
    cases v <;> cases w <;> first | exact h2 | exact VR.setObj h2
  | ns F =>
    obtain ⟨es, ep, m, h1, h2, h3, h4⟩ := h
    exact ⟨es, ep, m, h1, h2, h3, fun k a e => let ⟨x, v, a1, a2, a3⟩ := h4 k a e; ⟨x, v, a1, a2, a3.setObj⟩⟩
  | rng a b => exact h
  | liter l i => exact h
  | riter a n => exact h
  | junk => exact h
  | plist k l vs => obtain ⟨xs, n, h1, h2, h3, h4⟩ := h; exact ⟨xs, n, h1, h2.imp fun _ _ z => z.setObj, h3, h4⟩
  | opq k =>
    have h : ob = V.obj k := h
    show ob = if k = j then o else V.obj k
    rw [if_neg (hj k rfl)]; exact h
/-- a told list is changed in place -/
theorem SR.reobj {P : Params} (S : SR V P h₀ L s.heap m news F H) {h' : Heap} {i j : Nat} {x : Addr} {o o' : Obj} (e : news[i]? = some (x, o)) (eH : H[i]? = some (.opq j)) (hs : Heap.SameBut x s.heap h') (ho' : h'.get? x = some o')
    (hu : ∀ q, H[q]? = some (.opq j) → q = i) : SR (V.setObj j o') P h₀ L h' m (news.set i (x, o')) F H := by
  obtain ⟨pre, post, e1, e2, n1, n2⟩ := (upd_of (o' := o') (a := .opq j) (b := .opq j) rfl rfl S.nd eH e).split
  have N := S.nw
  rw [e1] at N
  have z := N (x, o) (List.mem_append.mpr (.inr (.head _)))
  have N' := news_set N n1 n2 hs ho'
  have eset : H.set i (.opq j) = H := PySem.W.X.set_same eH
  rw [← e2, eset] at N'
  have ea := adrs_set (o' := o') e
  refine ⟨S.fr.change hs z.2.1 z.2.2, N', ?_, ?_, fun k a hk => ?_⟩
  · rw [ea]
    refine all2_of (by rw [List.length_set]; exact S.al.length) fun q a b ha hb => ?_
    by_cases hq : q = i
    · subst hq
      rw [eH] at ha
      cases ha
      rw [List.getElem?_set_self (List.getElem?_eq_some_iff.mp e).1] at hb
      cases hb
      show o' = if j = j then o' else V.obj j
      rw [if_pos rfl]
    · rw [List.getElem?_set_ne (Ne.symm hq)] at hb
      refine (all2_at S.al ha hb).setObj fun k hk hkj => hq (hu q ?_)
      rw [ha, hk, hkj]
  · have := S.nds
    have e3 := adrs_live_set (R := V.arch) (o' := o') (a := .opq j) (b := .opq j) rfl rfl eH e
    rw [eset] at e3
    show (sysModules :: adrs (live V.arch H (news.set i (x, o')))).Nodup
    rw [e3]; exact this
  · rw [ea]
    obtain ⟨y, v, g1, g2, g3⟩ := S.lo k a hk
    exact ⟨y, v, g1, g2, g3.setObj⟩
end
end Mine
end Lb_text
section Lc_text
open PySem PySem.W PyProof.Rows PySem.Calls PySem.Spec
set_option Elab.async false
set_option maxRecDepth 100000
set_option maxHeartbeats 4000000
set_option linter.unusedVariables false
namespace Mine
section
variable {prog : Program} {w : World} {K : Frag} {p : Program} {loose : List Str} {mean : ExcName → Option Value} {mg mb : Str → Option Value} {V : Vars} {r : Rec}
  {A : Around} {h₀ : Heap} {L : Addr} {dp un : Nat} {E : Value → Shared → Prop} {s : Shared} {m : Str → Option Value} {news : List (Addr × Obj)} {F F' : Lo} {H H' : He} {env : Env} {ei : EI}

structure TakeNames (K : Frag) (names : List (Str × NameKind)) : Prop where
  okr : okStr "row" = true
  oka : okStr "at" = true
  oks : okStr "state" = true
  okm : okStr "most" = true
  okb : okStr "abs" = true
  okl : okStr "len" = true
  kr : kf names (sid "row") = some .local
  ka : kf names (sid "at") = some .local
  ks : kf names (sid "state") = some .local
  km : kf names (sid "most") = some .local
  kb : kf names (sid "abs") = some .globalImplicit
  kl : kf names (sid "len") = some .globalImplicit
  nb : nsIn K mainGlobals "abs" = some none
  nl : nsIn K mainGlobals "len" = some none
theorem takeNames_is {names : List (Str × NameKind)} (h : takeNames K names = true) : TakeNames K names := by
  unfold takeNames at h
  simp only [Bool.and_eq_true, beq_iff_eq] at h
  obtain ⟨⟨⟨⟨⟨⟨⟨⟨⟨⟨⟨⟨⟨h1, h2⟩, h3⟩, h4⟩, h5⟩, h6⟩, h7⟩, h8⟩, h9⟩, h10⟩, h11⟩, h12⟩, h13⟩, h14⟩ := h
  exact ⟨h1, h2, h3, h4, h5, h6, h7, h8, h9, h10, h11, h12, h13, h14⟩
theorem boot_len : bootBuiltins "len" = some (.builtin "len") := boots.1.1

/-- the helper's last line: what it gives lies below the bound -/
theorem s_takeRet {rows : List Value} {D1 : Addr} {at_ : Nat} {ta tm : Tok} {most : Int} {Q : Value → Shared → Prop} {ea eb : Expr} {p17 p18 p19 : Pos} (ha4 : isT4a ea = true) (hb4 : isT4b eb = true)
    (C : Cx K p loose mean mg mb A h₀ L dp) (O : EnvOk env ei L (adrs news)) (hm : ei.mode = none) (T : TakeNames K ei.cs.names) (S : SR V w.params h₀ L s.heap m news [] H)
    (hr : m "row" = some (.ref D1)) (ha : m "at" = some (.int (at_ : Int) ta)) (hmo : m "most" = some (.int most tm)) (hl : s.heap.IsList D1 rows.toArray) (hi : ∀ v ∈ rows, ∃ i t, v = .int i t) (hlen : rows.length ≤ 40) (hne : rows ≠ []) (hat : at_ ≤ 12) (hpos : 0 < most)
    (h : ∀ x t tk, 0 ≤ x → x < most → Q (.int x t) { s with toks := tk }) :
    wpAny (model prog w) A (eval (.BinOp (.BinOp ea .FloorDiv eb p17) .Mod (.Name "most" p18) p19) env) Q E s := by
  have hpos' : 0 < rows.length := List.length_pos_iff.mpr hne
  have len : ∀ {q1 q2 q3 : Pos} {s' : Shared} {Q' : Value → Shared → Prop}, Fr h₀ L s'.heap m → s'.heap = s.heap → (∀ t tk, Q' (.int (rows.length : Int) t) { s' with toks := tk }) → wpAny (model prog w) A (eval (.Call (.Name "len" q1) [.Name "row" q2] [] q3) env) Q' E s' := by
    intro q1 q2 q3 s' Q' Fs es hq
    refine Call_ (nm_builtin C O Fs T.okl T.kl T.nl boot_len (callWith_builtin1 (args_cons (nm_local O hm Fs T.okr T.kr hr (args_nil ?_)))))
    have := call_len_list (prog := prog) (w := w) (A := A) (E := E) (s := s') (items := rows.toArray) (l := D1) (Q := Q') (by rw [es]; exact hl) (by simp; omega) (by simpa using hq _ _)
    exact this
  refine wpAny_BinOp (wpAny_BinOp ?_)
  cases isT4a_is ha4
  refine Call_ (nm_builtin C O S.fr T.okb T.kb T.nb boot_abs (callWith_builtin1 (args_cons ?_)))
  refine Subscript_ (nm_local O hm S.fr T.okr T.kr hr ?_)
  refine wpAny_BinOp (nm_local O hm S.fr T.oka T.ka ha ?_)
  refine len S.fr rfl fun t1 tk1 => ?_
  refine mod_int (by omega) ?_
  have e1 : ((at_ : Int)).fmod (rows.length : Int) = ((at_ % rows.length : Nat) : Int) := by
    rw [Int.fmod_eq_emod_of_nonneg _ (by omega)]; rfl
  rw [e1]
  have hlt : at_ % rows.length < rows.length := Nat.mod_lt _ hpos'
  obtain ⟨x, tx, hx⟩ := hi rows[at_ % rows.length] (List.getElem_mem hlt)
  refine tail_any hl.typeIs slot_list_getitem.lookup (wpAny_getItem_list hl (by omega) (by omega) (x := .int x tx) (by rw [Int.toNat_natCast, List.getElem?_toArray, List.getElem?_eq_getElem hlt, hx]) ?_) rfl
  refine args_nil ?_
  refine call_abs_int fun u tk2 => ?_
  cases isT4b_is hb4
  refine wpAny_BinOp (wpAny_Constant_int ?_)
  refine wpAny_BinOp (nm_local (s := { s with toks := _ }) O hm S.fr T.oka T.ka ha ?_)
  refine len (s' := { s with toks := _ }) S.fr rfl fun t3 tk3 => ?_
  refine floordiv_int (by omega) ?_ (.inl (noPylong (by omega)))
  have e2 : ((at_ : Int)).fdiv (rows.length : Int) = ((at_ / rows.length : Nat) : Int) := by
    rw [Int.fdiv_eq_ediv_of_nonneg _ (by omega)]; rfl
  rw [e2]
  have hk : at_ / rows.length ≤ 12 := Nat.le_trans (Nat.div_le_self _ _) hat
  generalize at_ / rows.length = k at hk ⊢
  refine pow_int (Int.natCast_nonneg _) ?_ ?_
  · have e7 : Builtin.Int.intBits 7 = 3 := by decide +kernel
    rw [e7]
    omega
  rw [Int.toNat_natCast]
  obtain ⟨b1, b2, b3⟩ := pow7 hk
  refine floordiv_int b2 ?_ (.inl (noPylong b1))
  refine nm_local (s := { s with toks := _ }) O hm S.fr T.okm T.km hmo ?_
  refine mod_int (by omega) ?_
  exact h _ _ _ (Int.fmod_nonneg_of_pos _ hpos) (Int.fmod_lt_of_pos _ hpos)

theorem s_takeBody {body : List Stmt} {rows : List Value} {D1 D2 : Addr} {at_ : Nat} {tm : Tok} {most : Int} {Q : Flow → Shared → Prop}
    (C : Cx K p loose mean mg mb A h₀ L dp) (O : EnvOk env ei L (adrs news)) (hm : ei.mode = none) (hu : A.units < 9000) (hb : takeIs body = true) (T : TakeNames K ei.cs.names) (S : SR V w.params h₀ L s.heap m news [] H)
    (H1 : H[1]? = some (.opq 0)) (H2 : H[2]? = some (.opq 1)) (hU : ∀ q, H[q]? = some (.opq 1) → q = 2) (x1 : (adrs news)[1]? = some D1) (x2 : (adrs news)[2]? = some D2) (hR : RowIs (V.obj 0) rows) (hS : StateIs (V.obj 1) D1 at_) (hat : at_ ≤ 12)
    (ms : m "state" = some (.ref D2)) (mm : m "most" = some (.int most tm)) (hpos : 0 < most)
    (h : ∀ x t tk o' h' m' news', 0 ≤ x → x < most → StateIs o' D1 (at_ + 1) → SR (V.setObj 1 o') w.params h₀ L h' m' news' [] H → adrs news' = adrs news → Q (.ret (.int x t)) { s with heap := h', toks := tk }) :
    wpAny (model prog w) A (execs body env) Q E s := by
  obtain ⟨st1, st2, st3, st4, rfl, e1, e2, e3, e4⟩ := four_is hb
  · cases isTake1_is e1
    obtain ⟨so, s1, s2, s3⟩ := S.at H2 x2
    have s3 : so = V.obj 1 := s3
    subst s3
    obtain ⟨c1, n, t, c2⟩ := hS
    have hL2 : s.heap.IsList D2 #[.ref D1, .int (at_ : Int) t] := ⟨_, s2, c1, n, c2⟩
    -- row, at = state
    refine wpAny_execs_cons (Assign_Tuple (nm_local O hm S.fr T.oks T.ks ms ?_) rfl rfl)
    refine assign_Tuple_list C.hand hL2 rfl rfl fun h1 he1 => ?_
    have S1 := S.extBut he1
    refine assignInOrder_cons (PyProof.Rows.assign_Name (st_local (s := { s with heap := h1 }) O hm S1 T.okr T.kr fun h2 tk2 S2 => ?_))
    refine assignInOrder_cons (PyProof.Rows.assign_Name (st_local (s := { s with heap := h2, toks := tk2 }) O hm S2 T.oka T.ka fun h3 tk3 S3 => ?_))
    refine assignInOrder_nil ?_
    -- state[1] = at + 1
    cases isTake2_is e2
    refine wpAny_execs_cons (wpAny_Assign_Subscript (wpAny_BinOp (nm_local (s := { s with heap := h3, toks := tk3 }) O hm S3.fr T.oka T.ka (if_pos rfl) (wpAny_Constant_int (add_int ?_)))) rfl)
    refine nm_local (s := { s with heap := h3, toks := _ }) O hm S3.fr T.oks T.ks (by rw [if_neg (by decide), if_neg (by decide)]; exact ms) ?_
    refine wpAny_Constant_int ?_
    obtain ⟨so, s1, s2, s3⟩ := S3.at H2 x2
    have s3 : so = V.obj 1 := s3
    subst s3
    refine wpAny_setItem_list (s := { s with heap := h3, toks := _ }) (items := #[.ref D1, .int (at_ : Int) t]) ⟨_, s2, c1, n, c2⟩ (by decide) (by decide) (by show (1 : Int) < ((2 : Nat) : Int); decide) fun h4 hl4 hs4 => ?_
    obtain ⟨o4, g1, g2, n4, g3⟩ := hl4
    have S4 := SR.reobj (s := { s with heap := h3, toks := _ }) S3 s1 H2 hs4 g1 hU
    have ea := adrs_set (o' := o4) s1
    have x1' : (adrs (news.set 2 (D2, o4)))[1]? = some D1 := by rw [ea]; exact x1
    have hS4 : StateIs o4 D1 (at_ + 1) := ⟨g2, n4, _, g3⟩
    have O4 : EnvOk env ei L (adrs (news.set 2 (D2, o4))) := by rw [ea]; exact O
    -- if row == []
    have mr : ∀ (u v : Value), (fun y => if y = ("at" : Str) then some u else if y = ("row" : Str) then some v else m y) "row" = some v := fun u v => by
      show (if ("row" : Str) = "at" then some u else _) = _
      rw [if_neg (by decide), if_pos rfl]
    obtain ⟨ro, r1, r2, r3⟩ := S4.at H1 x1'
    have r3 : ro = V.obj 0 := r3
    obtain ⟨nr, hr⟩ := hR.obj
    have hL1 : h4.IsList D1 rows.toArray := ⟨ro, r2, by rw [r3, hr], nr, by rw [r3, hr]⟩
    have fin : ∀ (h5 : Heap) (tk5 : Nat) (x : Int) (t : Tok) (m5 : Str → Option Value), 0 ≤ x → x < most → Fr h₀ L h5 m5 → News h₀ L h5 (live V.arch H (news.set 2 (D2, o4))) → Q (.ret (.int x t)) { s with heap := h5, toks := tk5 } :=
      fun h5 tk5 x t m5 a b F5 N5 => h x t tk5 o4 h5 m5 (news.set 2 (D2, o4)) a b hS4 ⟨F5, N5, S4.al, S4.nds, fun _ _ z => by cases z⟩ ea
    cases isTake3_is e3 with
    | mk q1 q2 q3 st5 q4 e5 =>
    refine wpAny_execs_cons (wpAny_If (wpAny_isTrue_Compare1 (nm_local (s := { s with heap := h4, toks := _ }) O4 hm S4.fr T.okr T.kr (mr _ _) ?_) rfl))
    refine List_ (args_nil ?_)
    refine newList_N S4.fr S4.nw (fun h5 F5 N5 => ?_) (Nat.zero_le _)
    have N5' : News h₀ L h5 (live V.arch H (news.set 2 (D2, o4))) := fun q hq => N5 q (List.mem_cons_of_mem _ hq)
    have hE := (N5 _ List.mem_cons_self).1
    have hL5 : h5.IsList D1 rows.toArray := by
      have := (N5' _ (mem_live H1 r1 rfl)).1
      exact ⟨ro, this, by rw [r3, hr], nr, by rw [r3, hr]⟩
    have hLE : h5.IsList h4.objs.size ([] : List Value).toArray := ⟨_, hE, rfl, 0, rfl⟩
    by_cases hne : rows = []
    · subst hne
      refine PySem.SeqAt.eq_listAt (s := { s with heap := h5, toks := _ }) (e := fun _ => true) hL5 hLE rfl (by show A.units < 9900; omega) (fun j h1 _ => by simp at h1) ?_
      refine wpAny_truthy_bool ?_
      rw [if_pos (by rfl)]
      cases isRet0_is e5
      refine wpAny_execs_cons (wpAny_Return_some (wpAny_Constant_int ?_))
      exact fin h5 _ 0 _ _ (Int.le_refl _) hpos F5 N5'
    · have hsz : ((rows.toArray.size != ([] : List Value).toArray.size) : Bool) = true := by
        have := List.length_pos_iff.mpr hne
        simp
        exact hne
      refine PySem.SeqAt.eq_list_lengthsAt (s := { s with heap := h5, toks := _ }) hL5 hLE hsz (by show A.units < 9900; omega) ?_
      refine wpAny_truthy_bool ?_
      rw [if_neg (by decide)]
      refine wpAny_execs_nil ?_
      have S5 : SR (V.setObj 1 o4) w.params h₀ L h5 _ (news.set 2 (D2, o4)) [] H := ⟨F5, N5', S4.al, S4.nds, fun _ _ z => by cases z⟩
      cases isTake4_is e4 with
      | mk ea eb r1 r2 r3 r4 e6 e7 =>
      refine wpAny_execs_cons (wpAny_Return_some (s_takeRet (V := V.setObj 1 o4) (s := { s with heap := h5, toks := _ }) e6 e7 C O4 hm T S5 (mr _ _) (if_pos rfl) (by rw [if_neg (by decide), if_neg (by decide)]; exact mm) hL5 hR.nums hR.len hne hat hpos fun x t tk a b => ?_))
      exact fin h5 tk x t _ a b F5 N5'
end
end Mine
end Lc_text
section Ld_text
open PySem PySem.W PyProof.Rows PySem.Calls PySem.Spec
set_option Elab.async false
set_option maxRecDepth 100000
set_option maxHeartbeats 4000000
set_option linter.unusedVariables false
namespace Mine
section
variable {prog : Program} {w : World} {K : Frag} {p : Program} {loose : List Str} {mean : ExcName → Option Value} {mg mb : Str → Option Value} {V : Vars} {r : Rec}
  {A : Around} {h₀ : Heap} {L : Addr} {dp un : Nat} {E : Value → Shared → Prop} {s : Shared} {m : Str → Option Value} {news : List (Addr × Obj)} {F F' : Lo} {H H' : He} {env : Env} {ei : EI}
noncomputable def stmtsOf : FuncBody → Option (List Stmt)
  | .stmts b => some b
  | _ => none
theorem stmtsOf_is {b : FuncBody} {l : List Stmt} (h : stmtsOf b = some l) : b = .stmts l := by cases b <;> first | (exact (no_some h).elim) | (cases h; rfl)
noncomputable def isNoneV : Value → Bool
  | .none => true
  | _ => false
theorem isNoneV_is {v : Value} (h : isNoneV v = true) : v = .none := by
  unfold isNoneV at h
  split at h
  · rfl
  · cases h
/-- all that the helper's call asks of the text -/
noncomputable def takeOk (K : Frag) (fd : FuncData) : Bool := fnOk K fd && (tst (stmtsOf fd.body) takeIs && (takeNames K fd.scope.names && (tst (pair2 fd.params.args) (fun q => q.1.arg == "state" && q.2.arg == "most") && isNoneV fd.defaults)))
noncomputable def isTake (k : Int) : TE := call2 "_law_take" (nmE "state") (litE (.int k))
noncomputable def takeFd (K : Frag) : Option (Addr × FuncData) := match nsIn K mainGlobals "_law_take" with
  | some (some (.ref a)) => (match K.lookup a with | some ⟨_, _, .func fd, _⟩ => some (a, fd) | _ => none)
  | _ => none
theorem takeFd_is {a : Addr} {fd : FuncData} (h : takeFd K = some (a, fd)) : nsIn K mainGlobals "_law_take" = some (some (.ref a)) ∧ ∃ oc od osl, K.lookup a = some ⟨oc, od, .func fd, osl⟩ := by
  unfold takeFd at h
  split at h
  · rename_i a' h1
    split at h
    · rename_i h2
      cases h
      exact ⟨h1, _, _, _, h2⟩
    · cases h
  · cases h
/-- the helper's call, in the law's frame -/
theorem s_take {e : Expr} {most : Int} {a : Addr} {fd : FuncData} {rows : List Value} {D1 D2 : Addr} {at_ : Nat} {Q : Value → Shared → Prop} (e1 : isTake most e = true) (e2 : takeFd K = some (a, fd)) (e3 : takeOk K fd = true)
    (ok1 : okStr "_law_take" = true) (k1 : kf ei.cs.names (sid "_law_take") = some .globalImplicit) (ks : kf ei.cs.names (sid "state") = some .local) (hm : ei.mode = none) (hdp : ei.dp < 200) (hu : A.units < 8000)
    (C : Cx K p loose mean mg mb A h₀ L ei.dp) (O : EnvOk env ei L (adrs news)) (S : SR V w.params h₀ L s.heap m news F H) (hs : lk F (sid "state") = some (.ref 2))
    (H1 : H[1]? = some (.opq 0)) (H2 : H[2]? = some (.opq 1)) (hU : ∀ q, H[q]? = some (.opq 1) → q = 2) (x1 : (adrs news)[1]? = some D1) (x2 : (adrs news)[2]? = some D2) (hR : RowIs (V.obj 0) rows) (hS : StateIs (V.obj 1) D1 at_) (hat : at_ ≤ 12) (hpos : 0 < most)
    (h : ∀ x t tk o' h' news', 0 ≤ x → x < most → StateIs o' D1 (at_ + 1) → SR (V.setObj 1 o') w.params h₀ L h' m news' F H → adrs news' = adrs news → Q (.int x t) { s with heap := h', toks := tk }) :
    wpAny (model prog w) A (eval e env) Q E s := by
  obtain ⟨fp, a1, a2, cp, rfl, e4, e5⟩ := call2_is e1
  obtain ⟨sp, rfl⟩ := nmE_is e4
  obtain ⟨kk, kq, rfl⟩ := litE_is e5
  · clear e1 e4 e5
    · obtain ⟨g1, oc, od, osl, g2⟩ := takeFd_is e2
      obtain ⟨q1, e3⟩ := and_is e3
      obtain ⟨q2, e3⟩ := and_is e3
      obtain ⟨q3, e3⟩ := and_is e3
      obtain ⟨q4, q5⟩ := and_is e3
      have T := takeNames_is q3
      have hX := C.kin.keeps S.fr.keep
      refine Call_ (Name_function_global O.fn (O.kindOf ok1 k1) (loadGlobal_global (by rw [O.glob]; exact C.top.g.keeps S.fr.keep) (mg_of C.kin C.top.g g1) ?_) (tbl_noDebug (okStr_get ok1)).1)
      have kp : KeepsOk K (.ref a) := keeps_kref (by unfold keepIn; dsimp only; rw [g2])
      have nS : nameOf K ei F H "state" = some (.ref 2) := by
        unfold nameOf
        rw [T.oks, ks, hm]
        exact hs
      refine callWith_K (first := []) C.kin (by unfold keepIn; dsimp only; rw [g2]) (args_cons (s_Name C O S nS fun v1 hv1 => ?_)) rfl rfl
      refine args_cons (wpAny_Constant_int (args_nil ⟨hX, ?_⟩))
      obtain ⟨z, hz, rfl⟩ := hv1
      rw [x2] at hz
      cases hz
      obtain ⟨body, hb, q2⟩ := tst_is q2
      have hb := stmtsOf_is hb
      · obtain ⟨⟨pa, pb⟩, hpa, q4⟩ := tst_is q4
        · have hpa := pair2_is hpa
          have q4 := Bool.and_eq_true_iff.mp q4
          have hpa1 := eq_of_beq q4.1
          have hpb1 := eq_of_beq q4.2
          have hd : dfltList K fd.defaults = some [] := by
            rw [isNoneV_is q5]; rfl
          have hfill : fillA K fd [.ref 2, .int (Lin.lit most)] = some [.ref 2, .int (Lin.lit most)] := by
            unfold fillA
            rw [hd, hpa]
            rfl
          have hbind : bindA fd.params.args [.ref 2, .int (Lin.lit most)] = some [(sid "state", .ref 2), (sid "most", .int (Lin.lit most))] := by
            rw [hpa]
            show grd (okStr pa.arg) (bnd (grd (okStr pb.arg) (some [(sid pb.arg, _)])) fun l => grd (lk l (sid pa.arg)).isNone (some ((sid pa.arg, _) :: l))) = _
            rw [hpa1, hpb1, T.oks, T.okm]
            rfl
          refine wpAny_call (s_callBody (un := 0) (s := { s with toks := s.toks + 1 }) (fun V' news' H' v => ∃ x t o', v = .int x t ∧ 0 ≤ x ∧ x < most ∧ StateIs o' D1 (at_ + 1) ∧ V' = V.setObj 1 o' ∧ H' = H ∧ adrs news' = adrs news) g2 q1 hb hfill hbind hdp C S
            (.cons ⟨D2, x2, rfl⟩ (.cons ⟨s.toks, by rw [lit_val]⟩ .nil)) (fun A' g L' m' env' h₁ tk₁ Q' E' hu' C' O' S' hq => ?_) fun v h' tk V' news' H' S' po => ?_)
          · obtain ⟨y1, v1, a1, a2, a3⟩ := S'.lo (sid "state") (.ref 2) (by unfold lk; rw [Nat.beq_refl])
            have : y1 = "state" := Option.some.inj (a1.symm.trans (okStr_get T.oks))
            subst this
            obtain ⟨z, hz, rfl⟩ := a3
            rw [x2] at hz
            cases hz
            obtain ⟨y2, v2, b1, b2, b3⟩ := S'.lo (sid "most") (.int (Lin.lit most)) (by
              have hne : Nat.beq (sid "state") (sid "most") = false := by decide +kernel
              unfold lk; rw [hne]; unfold lk; rw [Nat.beq_refl])
            have : y2 = "most" := Option.some.inj (b1.symm.trans (okStr_get T.okm))
            subst this
            obtain ⟨tm, rfl⟩ := b3
            rw [lit_val] at b2
            refine s_takeBody (s := { s with heap := h₁, toks := tk₁ }) C' O' rfl (by rw [hu']; omega) q2 T S'.forget H1 H2 hU x1 x2 hR hS hat a2 b2 hpos fun x t tk o' h' m'' news' p1 p2 p3 S2 ea => ?_
            exact hq (.ret (.int x t)) (.int x t) h' tk (V.setObj 1 o') m'' news' [] H rfl S2 (fun k a hk => let ⟨y, v, z1, z2, z3⟩ := S.lo k a hk; ⟨y, v, z1, z2, by rw [ea]; exact z3.setObj⟩) ⟨x, t, o', rfl, p1, p2, p3, rfl, rfl, ea⟩
          · obtain ⟨x, t, o', rfl, p1, p2, p3, rfl, rfl, ea⟩ := po
            exact h x t tk o' h' news' p1 p2 p3 S' ea
end
end Mine
end Ld_text
section Le_text
open PySem PySem.W PyProof.Rows PySem.Calls PySem.Spec
set_option Elab.async false
set_option maxRecDepth 100000
set_option maxHeartbeats 4000000
set_option linter.unusedVariables false
namespace Mine
noncomputable def asgTake (y : Str) (k : Int) : TS := asgS (nmE y) (isTake k)
noncomputable def isCall3 (ws : Int → Int → Int → Bool) : Bool := [(0 : Int), 1, 2].all fun a => [(0 : Int), 1, 2].all fun b => [(0 : Int), 1, 2, 3].all fun c => ws a b c
theorem isCall3_is {ws : Int → Int → Int → Bool} (h : isCall3 ws = true) {a b c : Int} (a0 : 0 ≤ a) (a1 : a < 3) (b0 : 0 ≤ b) (b1 : b < 3) (c0 : 0 ≤ c) (c1 : c < 4) : ws a b c = true := by
  have h1 := List.all_eq_true.mp h a (by simp; omega)
  have h2 := List.all_eq_true.mp h1 b (by simp; omega)
  exact List.all_eq_true.mp h2 c (by simp; omega)
/-- what the law's text has to be, for the run -/
structure LawText (K : Frag) (cs : Scope) (pl : Plan) (a : Addr) (tfd : FuncData) (turn : List Stmt) : Prop where
  kind : cs.kind = .function
  tf : takeFd K = some (a, tfd)
  tok : takeOk K tfd = true
  ok1 : okStr "_law_take" = true
  k1 : kf cs.names (sid "_law_take") = some .globalImplicit
  ks : kf cs.names (sid "state") = some .local
  okk : okStr "kind" = true
  okf : okStr "figure" = true
  okc : okStr "count" = true
  kk : kf cs.names (sid "kind") = some .local
  kf_ : kf cs.names (sid "figure") = some .local
  kc : kf cs.names (sid "count") = some .local
  fs : lk pl.F (sid "state") = some (.ref 2)
  nk : Nat.beq (sid "kind") (sid "state") = false
  nf : Nat.beq (sid "figure") (sid "state") = false
  h1 : pl.H[1]? = some (.opq 0)
  h2 : pl.H[2]? = some (.opq 1)
  hu : ∀ q, pl.H[q]? = some (.opq 1) → q = 2
  turn : ∃ t1 t2 t3 rest, turn = t1 :: t2 :: t3 :: rest ∧ asgTake "kind" 3 t1 = true ∧ asgTake "figure" 3 t2 = true ∧ asgTake "count" 4 t3 = true ∧ isCall3 (wayOk K cs pl rest) = true
section
variable {prog : Program} {w : World} {K : Frag} {p : Program} {loose : List Str} {mean : ExcName → Option Value} {mg mb : Str → Option Value} {V : Vars} {r : Rec}
  {A : Around} {h₀ : Heap} {L : Addr} {dp un : Nat} {E : Value → Shared → Prop} {s : Shared} {m : Str → Option Value} {news : List (Addr × Obj)} {F F' : Lo} {H H' : He} {env : Env} {ei : EI}
  {cs : Scope} {pl : Plan} {ta : Addr} {tfd : FuncData} {turn : List Stmt}

theorem s_asgTake (X : LawText K cs pl ta tfd turn) {st : Stmt} {y : Str} {most : Int} {rows : List Value} {D1 D2 : Addr} {at_ : Nat} {Q : Flow → Shared → Prop} (e : asgTake y most st = true) (hy : okStr y = true) (hk : kf cs.names (sid y) = some .local) (hu : A.units < 8000)
    (C : Cx K p loose mean mg mb A h₀ L 0) (O : EnvOk env (lawEi cs) L (adrs news)) (S : SR V w.params h₀ L s.heap m news F H) (hs : lk F (sid "state") = some (.ref 2))
    (H1 : H[1]? = some (.opq 0)) (H2 : H[2]? = some (.opq 1)) (hU : ∀ q, H[q]? = some (.opq 1) → q = 2) (x1 : (adrs news)[1]? = some D1) (x2 : (adrs news)[2]? = some D2) (hR : RowIs (V.obj 0) rows) (hS : StateIs (V.obj 1) D1 at_) (hat : at_ ≤ 12) (hpos : 0 < most)
    (h : ∀ x tk o' h' m' news', 0 ≤ x → x < most → StateIs o' D1 (at_ + 1) → SR (V.setObj 1 o') w.params h₀ L h' m' news' (put F (sid y) (.int (Lin.lit x))) H → adrs news <+: adrs news' → Q .next { s with heap := h', toks := tk }) :
    wpAny (model prog w) A (exec st env) Q E s := by
  obtain ⟨tg, value, pos, rfl, e1, e9⟩ := asgS_is e
  obtain ⟨xp, rfl⟩ := nmE_is e1
  have sw : swapsWith value (some (.Name y xp)) pos.line env = pure false := by
    obtain ⟨q, a, b, p, rfl, _⟩ := call2_is e9
    rfl
  refine wpAny_Assign_Name (s_take (ei := lawEi cs) e9 X.tf X.tok X.ok1 X.k1 X.ks rfl (by show 0 < 200; decide) hu C O S hs H1 H2 hU x1 x2 hR hS hat hpos fun v t tk o' h' news' p1 p2 p3 S' ea => ?_) sw
  have O' : EnvOk env (lawEi cs) L (adrs news') := by rw [ea]; exact O
  refine s_stoN (s := { s with heap := h', toks := tk }) (ei := lawEi cs) (V := V.setObj 1 o') (a := .int (Lin.lit v)) (F' := put F (sid y) (.int (Lin.lit v))) C O' S' ?_ ⟨t, by rw [lit_val]⟩ fun h2 tk2 m2 news2 S2 p => ?_
  · unfold stoN lawEi
    rw [hy]
    dsimp only
    rw [hk]
  · exact h v tk2 o' h2 m2 news2 p1 p2 p3 S2 (by rw [← ea]; exact p)

theorem lk_put_ne {F : Lo} {x y : Nat} {a : AV} (h : Nat.beq x y = false) : lk (put F x a) y = lk F y := by
  rw [lk_put, if_neg]
  rintro rfl
  rw [Nat.beq_refl] at h
  cases h
/-- one turn of the law's loop -/
theorem s_turn (X : LawText K cs pl ta tfd turn) {rows : List Value} {D1 D2 : Addr} {at_ i : Nat} {Q : Flow → Shared → Prop} (hu : A.units < 8000) (hi : i < 9) (hat : at_ ≤ 10)
    (C : Cx K p loose mean mg mb A h₀ L 0) (O : EnvOk env (lawEi cs) L (adrs news)) (S : SR V w.params h₀ L s.heap m news pl.F (pl.H.set 0 (.cell (some (.int ⟨1, 0, 0, 0⟩))))) (I : TurnInv K i V) (hg : V.g = i)
    (x1 : (adrs news)[1]? = some D1) (x2 : (adrs news)[2]? = some D2) (hR : RowIs (V.obj 0) rows) (hS : StateIs (V.obj 1) D1 at_)
    (h : ∀ tk h' m' news' (V' : Vars), SR V' w.params h₀ L h' m' news' pl.F (pl.H.set 0 (.cell (some .any))) → (∀ j, j < pl.H.length → (adrs news')[j]? = (adrs news)[j]?) → TurnInv K (i + 1) V' → V'.g = (i : Int) + 1 → (∀ j, j ≠ 1 → V'.obj j = V.obj j) → StateIs (V'.obj 1) D1 (at_ + 3) → (∀ q ∈ V.arch, q ∈ V'.arch) →
      Q .next { s with heap := h', toks := tk }) :
    wpAny (model prog w) A (execs turn env) Q E s := by
  obtain ⟨t1, t2, t3, rest, rfl, e1, e2, e3, ws⟩ := X.turn
  have hH : ∀ {j : Nat} {b a : AO}, j ≠ 0 → pl.H[j]? = some a → (pl.H.set 0 b)[j]? = some a := fun {j b a} hj e => by rw [List.getElem?_set_ne (Ne.symm hj)]; exact e
  have g1 := hH (b := .cell (some (.int ⟨1, 0, 0, 0⟩))) (by decide) X.h1
  have g2 := hH (b := .cell (some (.int ⟨1, 0, 0, 0⟩))) (by decide) X.h2
  have gU : ∀ q, (pl.H.set 0 (.cell (some (.int ⟨1, 0, 0, 0⟩))))[q]? = some (.opq 1) → q = 2 := fun q hq => by
    by_cases hq0 : q = 0
    · subst hq0
      rw [List.getElem?_set_self] at hq
      · cases hq
      · have := (List.getElem?_eq_some_iff.mp X.h1).1; omega
    · rw [List.getElem?_set_ne (Ne.symm hq0)] at hq
      exact X.hu q hq
  refine wpAny_execs_cons (s_asgTake X e1 X.okk X.kk hu C O S X.fs g1 g2 gU x1 x2 hR hS (by omega) (by decide) fun k tk1 o1 h1 m1 news1 k0 k1 s1 S1 p1 => ?_)
  have l1 : lk (put pl.F (sid "kind") (.int (Lin.lit k))) (sid "state") = some (.ref 2) := by rw [lk_put_ne X.nk]; exact X.fs
  refine wpAny_execs_cons (s_asgTake (s := { s with heap := h1, toks := tk1 }) (V := V.setObj 1 o1) X e2 X.okf X.kf_ hu C (O.mono p1) S1 l1 g1 g2 gU (get_mono p1 x1) (get_mono p1 x2) hR s1 (by omega) (by decide) fun f tk2 o2 h2 m2 news2 f0 f1 s2 S2 p2 => ?_)
  have l2 : lk (put (put pl.F (sid "kind") (.int (Lin.lit k))) (sid "figure") (.int (Lin.lit f))) (sid "state") = some (.ref 2) := by rw [lk_put_ne X.nf]; exact l1
  refine wpAny_execs_cons (s_asgTake (s := { s with heap := h2, toks := tk2 }) (V := (V.setObj 1 o1).setObj 1 o2) X e3 X.okc X.kc hu C (O.mono (p1.trans p2)) S2 l2 g1 g2 gU (get_mono (p1.trans p2) x1) (get_mono (p1.trans p2) x2) hR s2 (by omega) (by decide) fun c tk3 o3 h3 m3 news3 c0 c1 s3 S3 p3 => ?_)
  have hw := isCall3_is ws k0 k1 f0 f1 c0 c1
  unfold wayOk at hw
  split at hw
  · rename_i F' H' hbl
    have VI : TurnInv K i (((V.setObj 1 o1).setObj 1 o2).setObj 1 o3) := ⟨I.g0, I.g1, I.s0, I.s1, I.t0, I.t1, I.pre, ⟨I.arch.told, I.arch.out⟩⟩
    have R := tower_ok (prog := prog) (w := w) (K := K) (p := p) (loose := loose) (mean := mean) (mg := mg) (mb := mb) (VI.ok (by omega)) 60
    refine s_bl (s := { s with heap := h3, toks := tk3 }) (ei := lawEi cs) R C (O.mono ((p1.trans p2).trans p3)) S3 hbl fun fl h4 tk4 m4 news4 S4 p4 hf => ?_
    have hf : fl = .next := hf
    subst hf
    obtain ⟨V', v1, v2, S5, I5, v3⟩ := turn_end ((i : Int) + 1) (by omega) (by omega) (by omega) S4 hw VI
    rw [List.length_set] at S5
    refine h tk4 h4 m4 _ V' S5 (fun j hj => ?_) I5 v2 (fun j hj => ?_) ?_ v3
    · have pp := ((p1.trans p2).trans p3).trans p4
      have : adrs (news4.take pl.H.length) = (adrs news4).take pl.H.length := by unfold adrs; rw [List.map_take]
      rw [this, List.getElem?_take_of_lt hj]
      obtain ⟨r, hr⟩ := pp
      rw [← hr, List.getElem?_append_left]
      unfold adrs
      rw [List.length_map, ← S.len, List.length_set]
      exact hj
    · rw [v1]
      show (if j = 1 then o3 else if j = 1 then o2 else if j = 1 then o1 else V.obj j) = V.obj j
      rw [if_neg hj, if_neg hj, if_neg hj]
    · rw [v1]
      exact s3
  · cases hw
end
end Mine
end Le_text
section Lf_text
open PySem PySem.W PyProof.Rows PySem.Calls PySem.Spec
set_option Elab.async false
set_option maxRecDepth 100000
set_option maxHeartbeats 4000000
set_option linter.unusedVariables false
namespace Mine
section
variable {prog : Program} {w : World} {K : Frag} {p : Program} {loose : List Str} {mean : ExcName → Option Value} {mg mb : Str → Option Value} {V : Vars} {r : Rec}
  {A : Around} {h₀ : Heap} {L : Addr} {dp un : Nat} {E : Value → Shared → Prop} {s : Shared} {m : Str → Option Value} {news : List (Addr × Obj)} {F F' : Lo} {H H' : He} {env : Env} {ei : EI}
  {cs : Scope} {pl : Plan} {ta : Addr} {tfd : FuncData} {turn : List Stmt}

/-- the loop's variable is a cell -/
theorem s_storeCell {x : Str} {v : Value} {a : AV} {c : Addr} {v0 : Option AV} {Q : Unit → Shared → Prop} (O : EnvOk env ei L (adrs news)) (S : SR V w.params h₀ L s.heap m news F H) (hH : H[0]? = some (.cell v0)) (hc : (adrs news)[0]? = some c)
    (hx : okStr x = true) (hk : kf ei.cs.names (sid x) = some .cell) (hi : lkN ei.cells (sid x) = some 0) (hv : VR V (adrs news) a v)
    (h : ∀ h' news', SR V w.params h₀ L h' m news' F (H.set 0 (.cell (some a))) → adrs news' = adrs news → Q () { s with heap := h' }) : wpAny (model prog w) A (storeName env x v) Q E s := by
  obtain ⟨o, g1, g2, cv, g3, g4⟩ := S.at hH hc
  obtain ⟨y, d, d1, d2, d3⟩ := O.cells _ _ hi
  have : y = x := Option.some.inj (d1.symm.trans (okStr_get hx))
  subst this
  rw [hc] at d3
  cases d3
  refine wpAny_storeName_cell O.fn (O.kindOf hx hk) d2 ⟨o, g2, g3⟩ fun h' hv' hs => ?_
  obtain ⟨o', o1, o2⟩ := hv'
  exact h h' _ (S.change (a := .cell (some a)) g1 hH hs o1 ⟨some v, o2, hv⟩) (adrs_set g1)

theorem TurnInv.grown {K : Frag} {i j : Nat} {V : Vars} (h : TurnInv K i V) (hij : i ≤ j) : TurnInv K j V := ⟨h.g0, h.g1, h.s0, by have := h.s1; omega, h.t0, by have := h.t1; omega, fun q => Nat.le_trans (h.pre q) (by omega), h.arch⟩
/-- what stands at the head of each turn -/
structure Head (K : Frag) (P : Params) (pl : Plan) (h₀ : Heap) (L : Addr) (rows : List Value) (D1 : Addr) (base : List (Addr × Obj)) (n i : Nat) (V : Vars) (h : Heap) (m : Str → Option Value) (news : List (Addr × Obj)) (cv : Option AV) : Prop where
  sr : SR V P h₀ L h m news pl.F (pl.H.set 0 (.cell cv))
  inv : TurnInv K i V
  g : V.g = i
  row : RowIs (V.obj 0) rows
  state : StateIs (V.obj 1) D1 (1 + 3 * i)
  iter : V.obj 2 = { cls := .type "range_iterator", dict := none, data := .fields #[rawInt (i : Int), rawInt ((n - i : Nat) : Int), rawInt 1], slots := #[] }
  arch : ∀ q ∈ base, q ∈ V.arch
theorem s_lawFor (X : LawText K cs pl ta tfd turn) {rows : List Value} {D1 D2 xi : Addr} {n : Nat} {Rr : Result → Shared → Prop} {x : Str} {xp : Pos} {lst : Nat} {base : List (Addr × Obj)} (hn : n ≤ 4) (hu : A.units < 8000)
    (hlst : pl.H[lst]? = some (.opq 2)) (hl1 : lst ≠ 0) (hlu : ∀ q, pl.H[q]? = some (.opq 2) → q = lst) (hp0 : ∃ v, pl.H[0]? = some (.cell v)) (hx : okStr x = true) (hk : kf cs.names (sid x) = some .cell) (hi : lkN (lawEi cs).cells (sid x) = some 0) {cv : Option AV}
    (C : Cx K p loose mean mg mb A h₀ L 0) (O : EnvOk env (lawEi cs) L (adrs news)) (Hd : Head K w.params pl h₀ L rows D1 base n 0 V s.heap m news cv)
    (x1 : (adrs news)[1]? = some D1) (x2 : (adrs news)[2]? = some D2) (xl : (adrs news)[lst]? = some xi)
    (h : ∀ h' tk m' news' V' cv', SR V' w.params h₀ L h' m' news' pl.F ((pl.H.set 0 (.cell cv')).set lst .junk) → (∀ j, j < pl.H.length → (adrs news')[j]? = (adrs news)[j]?) → TurnInv K 4 V' → (∀ q ∈ base, q ∈ V'.arch) → Rr (.ok .next) { s with heap := h', toks := tk }) :
    codeAny (model prog w) A (.forLoop (.Name x xp) (.ref xi) turn [] env) Rr s := by
  have hlen0 : 0 < pl.H.length := by have := (List.getElem?_eq_some_iff.mp X.h1).1; omega
  have hlt : lst < pl.H.length := (List.getElem?_eq_some_iff.mp hlst).1
  refine codeAny_forLoop_any (fun k s' => ∃ i V' h1 tk1 m1 news1 cv', i + k = n ∧ s' = { s with heap := h1, toks := tk1 } ∧ Head K w.params pl h₀ L rows D1 base n i V' h1 m1 news1 cv' ∧ (∀ j, j < pl.H.length → (adrs news1)[j]? = (adrs news)[j]?))
    (fun k s' hI => ?_) n ⟨0, V, s.heap, s.toks, m, news, cv, by omega, rfl, Hd, fun _ _ => rfl⟩
  obtain ⟨i, V', h1, tk1, m1, news1, cv', hik, rfl, Hd1, hsame⟩ := hI
  have hS := Hd1.sr
  have hit : (pl.H.set 0 (.cell cv'))[lst]? = some (.opq 2) := by rw [List.getElem?_set_ne (Ne.symm hl1)]; exact hlst
  obtain ⟨io, i1, i2, i3⟩ := hS.at hit (by rw [hsame _ hlt]; exact xl)
  have i3 : io = V'.obj 2 := i3
  rw [Hd1.iter] at i3
  subst i3
  cases k with
  | zero =>
    have e0 : n - i = 0 := by omega
    refine wpAny_pyNext_range_end (s := { s with heap := h1, toks := tk1 }) (x := (i : Int)) (left := ((n - i : Nat) : Int)) (step := 1) C.hand i2 (by omega) fun h2 he => ?_
    refine wpAny_execs_nil ?_
    exact h h2 tk1 m1 news1 V' cv' (SR.gone (s := { s with heap := h1, toks := tk1 }) hS i1 hit he) hsame (Hd1.inv.grown (by omega)) Hd1.arch
  | succ k =>
    refine wpAny_pyNext_range_item (s := { s with heap := h1, toks := tk1 }) (x := (i : Int)) (left := ((n - i : Nat) : Int)) (step := 1) i2 (by omega) fun h2 hi2 hs2 => ?_
    refine wpAny_pure (a := ()) ?_
    have hiu : ∀ q, (pl.H.set 0 (.cell cv'))[q]? = some (.opq 2) → q = lst := fun q hq => by
      by_cases hq0 : q = 0
      · subst hq0
        rw [List.getElem?_set_self hlen0] at hq
        cases hq
      · rw [List.getElem?_set_ne (Ne.symm hq0)] at hq
        exact hlu q hq
    have S2 := SR.reobj (s := { s with heap := h1, toks := tk1 }) hS i1 hit hs2 hi2 hiu
    have ea := adrs_set (o' := { cls := .type "range_iterator", dict := none, data := .fields #[rawInt ((i : Int) + 1), rawInt (((n - i : Nat) : Int) - 1), rawInt 1], slots := #[] }) i1
    have hs3 : ∀ j, j < pl.H.length → (adrs (news1.set lst (xi, { cls := .type "range_iterator", dict := none, data := .fields #[rawInt ((i : Int) + 1), rawInt (((n - i : Nat) : Int) - 1), rawInt 1], slots := #[] })))[j]? = (adrs news)[j]? := by rw [ea]; exact hsame
    generalize hn2 : news1.set lst (xi, ({ cls := .type "range_iterator", dict := none, data := .fields #[rawInt ((i : Int) + 1), rawInt (((n - i : Nat) : Int) - 1), rawInt 1], slots := #[] } : Obj)) = news2 at S2 ea hs3
    have O2 : EnvOk env (lawEi cs) L (adrs news2) := by
      refine ⟨O.scope, O.kind, O.glob, O.bui, O.loc, fun k j hkj => ?_⟩
      obtain ⟨y, c, c1, c2, c3⟩ := O.cells k j hkj
      refine ⟨y, c, c1, c2, ?_⟩
      have : j = 0 := by
        have hkj' : lkN [(sid "go_of", 0)] k = some j := hkj
        unfold lkN at hkj'
        split at hkj'
        · cases hkj'; rfl
        · cases hkj'
      subst this
      rw [hs3 _ hlen0]; exact c3
    have hcell : (pl.H.set 0 (.cell cv'))[0]? = some (.cell cv') := by rw [List.getElem?_set_self hlen0]
    obtain ⟨q0, hq0, _⟩ := all2_get S2.al hcell
    have hc0 : (adrs news2)[0]? = some q0.1 := by
      unfold adrs
      rw [List.getElem?_map, hq0]; rfl
    refine PyProof.Rows.assign_Name (s_storeCell (s := { s with heap := h2, toks := tk1 + 1 }) (ei := lawEi cs) (a := .int ⟨1, 0, 0, 0⟩) O2 S2 hcell hc0 hx hk hi ⟨tk1, ?_⟩ fun h3 news3 S3 e3 => ?_)
    · have hg : V'.g = i := Hd1.g
      show Value.int (i : Int) tk1 = .int (1 * V'.g + 0 * V'.s + 0 * V'.t + 0) tk1
      rw [hg]
      congr 1
      omega
    · rw [List.set_set] at S3
      have hs4 : ∀ j, j < pl.H.length → (adrs news3)[j]? = (adrs news)[j]? := by rw [e3]; exact hs3
      have hI := Hd1.inv
      have h2lt := (List.getElem?_eq_some_iff.mp X.h2).1
      refine s_turn (s := { s with heap := h3, toks := tk1 + 1 }) (V := V'.setObj 2 _) (at_ := 1 + 3 * i) (i := i) X hu (by omega) (by omega) C (by rw [e3]; exact O2) S3 ⟨hI.g0, hI.g1, hI.s0, hI.s1, hI.t0, hI.t1, hI.pre, ⟨hI.arch.told, hI.arch.out⟩⟩ Hd1.g (by rw [hs4 _ (by omega)]; exact x1) (by rw [hs4 _ h2lt]; exact x2) Hd1.row Hd1.state fun tk5 h5 m5 news5 V5 S5 hs5 I5 g5 o5 st5 a5 => ?_
      · refine ⟨k, Nat.lt_succ_self _, i + 1, V5, h5, tk5, m5, news5, _, by omega, rfl, ⟨S5, I5, ?_, ?_, ?_, ?_, ?_⟩, fun j hj => (hs5 j hj).trans (hs4 j hj)⟩
        · rw [g5]; rfl
        · rw [o5 0 (by decide)]; exact Hd1.row
        · have : 1 + 3 * i + 3 = 1 + 3 * (i + 1) := by omega
          rw [← this]; exact st5
        · rw [o5 2 (by decide)]
          have q1 : ((n - i : Nat) : Int) - 1 = ((n - (i + 1) : Nat) : Int) := by omega
          have q2 : (i : Int) + 1 = ((i + 1 : Nat) : Int) := by omega
          show ({ cls := .type "range_iterator", dict := none, data := .fields #[rawInt ((i : Int) + 1), rawInt (((n - i : Nat) : Int) - 1), rawInt 1], slots := #[] } : Obj) = _
          rw [q1, q2]
        · exact fun q hq => a5 q (Hd1.arch q hq)
end
end Mine
end Lf_text
section Lg_text
open PySem PySem.W PyProof.Rows PySem.Calls PySem.Spec
set_option Elab.async false
set_option maxRecDepth 100000
set_option maxHeartbeats 4000000
set_option linter.unusedVariables false
namespace Mine
open PyProof.V PySem.SeqAt
noncomputable def pairD (q : Int × Int) : PyData := .tuple [.int q.1, .int q.2]
theorem canLay_pairs : ∀ ps : List (Int × Int), PyData.canLayAll0 (ps.map pairD) = true
  | [] => by simp [PyData.canLayAll0]
  | q :: r => by simp [pairD, PyData.canLayAll0, PyData.canLay0, canLay_pairs r]
theorem depth_pairs : ∀ ps : List (Int × Int), PyData.depthAll (ps.map pairD) ≤ 3
  | [] => by simp [PyData.depthAll]
  | q :: r => by
    have := depth_pairs r
    simp only [List.map_cons, pairD, PyData.depthAll, PyData.depth]
    omega
theorem shaped_pairs (ps : List (Int × Int)) : shaped (.list (ps.map pairD)) = true := by
  have h1 := depth_pairs ps
  have h2 : PyData.depth (.list (ps.map pairD)) ≤ 64 := by simp only [PyData.depth]; omega
  show (PyData.canLay0 (.list (ps.map pairD)) && decide (PyData.depth (.list (ps.map pairD)) ≤ 64)) = true
  rw [Bool.and_eq_true]
  exact ⟨by simp only [PyData.canLay0]; exact canLay_pairs ps, decide_eq_true h2⟩
theorem noMix_pairs : ∀ ps : List (Int × Int), noMixAll (ps.map pairD) (ps.map pairD) = true
  | [] => by simp [noMixAll]
  | q :: r => by simp [pairD, noMixAll, noMix, noMix_pairs r]
theorem outs_data {R : List (Addr × Obj)} {h : Heap} (hR : ∀ q ∈ R, h.get? q.1 = some q.2) {us vs : List Value} (H : All2 (OutR R) us vs) : ∃ ps as bs, ReadsAll h us (List.map pairD ps) as ∧ ReadsAll h vs (List.map pairD ps) bs := by
  induction H with
  | nil => exact ⟨[], [], [], .nil, .nil⟩
  | cons h0 _ ih =>
    obtain ⟨a, b, i, j, t1, t2, t3, t4, n1, n2, rfl, rfl, h1, h2⟩ := h0
    obtain ⟨ps, as, bs, g1, g2⟩ := ih
    have r1 : Reads h (.ref a) (pairD (i, j)) _ := Reads.tuple (hR _ h1) rfl rfl (ReadsAll.cons (Reads.int i t1) (ReadsAll.cons (Reads.int j t2) ReadsAll.nil))
    have r2 : Reads h (.ref b) (pairD (i, j)) _ := Reads.tuple (hR _ h2) rfl rfl (ReadsAll.cons (Reads.int i t3) (ReadsAll.cons (Reads.int j t4) ReadsAll.nil))
    exact ⟨(i, j) :: ps, _, _, .cons r1 g1, .cons r2 g2⟩

section
variable {prog : Program} {w : World} {K : Frag} {p : Program} {loose : List Str} {mean : ExcName → Option Value} {mg mb : Str → Option Value} {V : Vars} {r : Rec}
  {A : Around} {h₀ : Heap} {L : Addr} {dp un : Nat} {E : Value → Shared → Prop} {s : Shared} {m : Str → Option Value} {news : List (Addr × Obj)} {F F' : Lo} {H H' : He} {env : Env} {ei : EI}
  {cs : Scope} {pl : Plan} {ta : Addr} {tfd : FuncData} {turn : List Stmt}
theorem SR.archAt {P : Params} {h : Heap} (S : SR V P h₀ L h m news F H) {x : Addr} {o : Obj} (hm : (x, o) ∈ V.arch) : h.get? x = some o := (S.nw _ (live_arch _ hm)).1
theorem arch_get {c C d : Addr} {des : List DictEntry} {n : Nat} {a : Str} {v : Value} {ex : Bool} {Q : Value → Shared → Prop} (C' : Cx K p loose mean mg mb A h₀ L dp) (S : SR V w.params h₀ L s.heap m news F H) (h1 : (c, instObj C d) ∈ V.arch) (h2 : (d, dictOf des n) ∈ V.arch)
    (hf : fieldOk K C a = true) (hv : getL a des = some (some v)) (hh : handedIn v = true) (h : Q v { s with toks := s.toks + 1 }) : wpAny (model prog w) A (getAttr (.ref c) a ex) Q E s := by
  obtain ⟨f1, f2, f3⟩ := fieldOk_is hf
  exact get_own S.fr C'.kin ⟨S.archAt h1, rfl, rfl, S.archAt h2⟩ f1 f2 f3 rfl hv hh h
/-- what is known of the law's frame behind the loop -/
structure EndText (K : Frag) (cs : Scope) (pl : Plan) (lst ii : Nat) : Prop where
  okI : okStr "interp" = true
  okT : okStr "told" = true
  okO : okStr "out" = true
  okA : okStr "at" = true
  okS : okStr "said" = true
  okC : okStr "call_in" = true
  okL : okStr "len" = true
  okR : okStr "range" = true
  kI : kf cs.names (sid "interp") = some .local
  kT : kf cs.names (sid "told") = some .local
  kO : kf cs.names (sid "out") = some .local
  kA : kf cs.names (sid "at") = some .local
  kS : kf cs.names (sid "said") = some .local
  kC : kf cs.names (sid "call_in") = some .local
  kL : kf cs.names (sid "len") = some .globalImplicit
  kR : kf cs.names (sid "range") = some .globalImplicit
  nL : nsIn K mainGlobals "len" = some none
  nR : nsIn K mainGlobals "range" = some none
  fI : lk pl.F (sid "interp") = some (.ref ii)
  fT : lk pl.F (sid "told") = some (.ref pl.y.t)
  fO : lk pl.F (sid "out") = some (.ref pl.y.p)
  gO : ∀ cv, getA K ((pl.H.set 0 (.cell cv)).set lst .junk) (.ref ii) "out" = some (.ref pl.y.o)
  gW : ∀ cv, getA K ((pl.H.set 0 (.cell cv)).set lst .junk) (.ref ii) "warnings" = some (.ref pl.y.w)
  pW : ∀ cv, ((pl.H.set 0 (.cell cv)).set lst .junk)[pl.y.w]? = some (.plist 0 (some tVar) [])
  pT : ∀ cv, ((pl.H.set 0 (.cell cv)).set lst .junk)[pl.y.t]? = some (.plist 1 (some tVar) [])
  pO : ∀ cv, ((pl.H.set 0 (.cell cv)).set lst .junk)[pl.y.o]? = some (.plist 2 none [])
  pP : ∀ cv, ((pl.H.set 0 (.cell cv)).set lst .junk)[pl.y.p]? = some (.plist 3 none [])
  gW5 : ∀ cv, getA K (pushH ((pl.H.set 0 (.cell cv)).set lst .junk) (.opq 5)) (.ref ii) "warnings" = some (.ref pl.y.w)
  pW5 : ∀ cv, (pushH ((pl.H.set 0 (.cell cv)).set lst .junk) (.opq 5))[pl.y.w]? = some (.plist 0 (some tVar) [])
  pT5 : ∀ cv, (pushH ((pl.H.set 0 (.cell cv)).set lst .junk) (.opq 5))[pl.y.t]? = some (.plist 1 (some tVar) [])
  nq : ∀ (cv : Option AV) (q : Nat), ((pl.H.set 0 (.cell cv)).set lst .junk)[q]? ≠ some (AO.opq 5)
theorem plistEnd {P : Params} {h : Heap} (S : SR V P h₀ L h m news F H) {i j : Nat} {l : Option Lin} {x : Addr} (h1 : H[i]? = some (.plist j l [])) (hx : (adrs news)[i]? = some x) : h.IsList x (List.toArray (V.pre j)) ∧ ∀ u, l = some u → ((V.pre j).length : Int) = u.val V := by
  obtain ⟨o, g1, g2, xs, n, rfl, g3, g4, g5⟩ := S.at h1 hx
  cases g3
  rw [List.append_nil] at g2
  exact ⟨⟨_, g2, rfl, n, rfl⟩, g4⟩
theorem endName {H : He} {x : Str} {i : Nat} (a : okStr x = true) (b : kf cs.names (sid x) = some .local) (c : lk pl.F (sid x) = some (.ref i)) : nameOf K (lawEi cs) pl.F H x = some (.ref i) := by
  have e : (lawEi cs).cs = cs := rfl
  have e2 : (lawEi cs).mode = none := rfl
  unfold nameOf
  rw [a, e, b, e2]
  exact c
theorem s_check {lst ii : Nat} (X : EndText K cs pl lst ii) {st : Stmt} {cv : Option AV} {Q : Flow → Shared → Prop} (e : isCheck st = true) (hu : A.units < 8000) (C : Cx K p loose mean mg mb A h₀ L 0) (O : EnvOk env (lawEi cs) L (adrs news))
    (S : SR V w.params h₀ L s.heap m news pl.F ((pl.H.set 0 (.cell cv)).set lst .junk)) (I : TurnInv K 4 V) (h : ∀ tk, Q .next { s with toks := tk }) : wpAny (model prog w) A (exec st env) Q E s := by
  have n1 := fun {x : Str} {i : Nat} => @endName K cs pl ((pl.H.set 0 (.cell cv)).set lst .junk) x i
  cases isCheck_is e with
  | mk c1 c2 q1 fl q2 e1 e2 =>
    have hR : ∀ q ∈ V.arch, s.heap.get? q.1 = some q.2 := fun q hq => (S.nw _ (live_arch _ hq)).1
    obtain ⟨ps, as, bs, d1, d2⟩ := outs_data hR I.arch.out
    refine wpAny_If (wpAny_isTrue_BoolOp (wpAny_allTrue_Or_cons ?_))
    cases isChk1_is e1
    refine wpAny_isTrue_Compare1 ?_ rfl
    refine Attribute_any_ (s_Name (ei := lawEi cs) C O S (n1 X.okI X.kI X.fI) fun v hv => ?_)
    refine s_getA C S hv (X.gO cv) fun v2 hv2 => ?_
    obtain ⟨xo, ho, rfl⟩ := hv2
    refine s_Name (s := { s with toks := s.toks + 1 }) (ei := lawEi cs) C O S (n1 X.okO X.kO X.fO) fun v3 hv3 => ?_
    obtain ⟨xp, hp, rfl⟩ := hv3
    obtain ⟨l1, _⟩ := plistEnd S (X.pO cv) ho
    obtain ⟨l2, _⟩ := plistEnd S (X.pP cv) hp
    obtain ⟨o1, a1, a2, k1, a3⟩ := l1
    obtain ⟨o2, b1, b2, k2, b3⟩ := l2
    refine ne_dataH_same (s := { s with toks := s.toks + 1 }) (da := .list (ps.map pairD)) (db := .list (ps.map pairD)) (Reads.list a1 a2 a3 (by simpa using d1)) (Reads.list b1 b2 b3 (by simpa using d2)) (shaped_pairs ps) (shaped_pairs ps) (by show A.units + 64 < 9900; omega) (by simp only [noMix]; exact noMix_pairs ps) ?_
    rw [same_refl]
    refine wpAny_truthy_bool ?_
    rw [if_neg (by decide)]
    refine wpAny_allTrue_Or_cons ?_
    cases isChk2_is e2
    refine wpAny_isTrue_Compare1 ?_ rfl
    have lens : (V.pre 0).length = (V.pre 1).length := all2_len I.arch.told
    have len : ∀ {ls : List Value} {x : Addr} {t0 : Nat} {Q' : Value → Shared → Prop}, s.heap.IsList x ls.toArray → ls.length ≤ 100 → (∀ t tk, Q' (.int (ls.length : Int) t) { s with toks := tk }) → wpAny (model prog w) A (call (.builtin "len") [.ref x]) Q' E { s with toks := t0 } := fun {ls x t0 Q'} hl hb hq =>
      call_len_list (s := { s with toks := t0 }) hl (by simp; omega) (by simpa using hq _ _)
    refine Call_ (nm_builtin (s := { s with toks := s.toks + 1 }) (ei := lawEi cs) C O S.fr X.okL X.kL X.nL boot_len (callWith_builtin1 (args_cons ?_)))
    refine Attribute_any_ (s_Name (s := { s with toks := s.toks + 1 }) (ei := lawEi cs) C O S (n1 X.okI X.kI X.fI) fun v hv => ?_)
    refine s_getA (s := { s with toks := s.toks + 1 }) C S hv (X.gW cv) fun v2 hv2 => ?_
    obtain ⟨xw, hw, rfl⟩ := hv2
    refine args_nil (len (plistEnd S (X.pW cv) hw).1 (Nat.le_trans (I.pre 0) (by decide)) fun t tk => ?_)
    refine Call_ (nm_builtin (s := { s with toks := tk }) (ei := lawEi cs) C O S.fr X.okL X.kL X.nL boot_len (callWith_builtin1 (args_cons ?_)))
    refine s_Name (s := { s with toks := tk }) (ei := lawEi cs) C O S (n1 X.okT X.kT X.fT) fun v3 hv3 => ?_
    obtain ⟨xt, ht, rfl⟩ := hv3
    refine args_nil (len (plistEnd S (X.pT cv) ht).1 (Nat.le_trans (I.pre 1) (by decide)) fun t' tk' => ?_)
    refine ne_int ?_
    rw [lens]
    rw [show (((V.pre 1).length : Int) != ((V.pre 1).length : Int)) = false from by simp]
    refine wpAny_truthy_bool ?_
    rw [if_neg (by decide)]
    refine wpAny_allTrue_Or_nil ?_
    rw [if_neg (by decide)]
    exact wpAny_execs_nil (h tk')
end
end Mine
end Lg_text
section Lh_text
open PySem PySem.W PyProof.Rows PySem.Calls PySem.Spec
set_option Elab.async false
set_option maxRecDepth 100000
set_option maxHeartbeats 4000000
set_option linter.unusedVariables false
namespace Mine
section
variable {prog : Program} {w : World} {K : Frag} {p : Program} {loose : List Str} {mean : ExcName → Option Value} {mg mb : Str → Option Value} {V : Vars} {r : Rec}
  {A : Around} {h₀ : Heap} {L : Addr} {dp un : Nat} {E : Value → Shared → Prop} {s : Shared} {m : Str → Option Value} {news : List (Addr × Obj)} {F F' : Lo} {H H' : He} {env : Env} {ei : EI}
  {cs : Scope} {pl : Plan} {ta : Addr} {tfd : FuncData} {turn : List Stmt}
theorem SR.setObj {P : Params} {h : Heap} {j : Nat} {o : Obj} (S : SR V P h₀ L h m news F H) (hn : ∀ q : Nat, H[q]? ≠ some (.opq j)) : SR (V.setObj j o) P h₀ L h m news F H := by
  refine ⟨S.fr, S.nw, ?_, S.nds, fun k a hk => let ⟨y, v, g1, g2, g3⟩ := S.lo k a hk; ⟨y, v, g1, g2, g3.setObj⟩⟩
  exact all2_of S.al.length fun q a b ha hb => (all2_at S.al ha hb).setObj fun k hk hkj => hn q (by rw [ha, hk, hkj])
/-- one item of what was told -/
theorem s_toldBody {lst ii : Nat} (X : EndText K cs pl lst ii) {cv : Option AV} {xI xW xT : Addr} {i : Nat} {ti : Tok} {Q : Flow → Shared → Prop} {b1 b2 : Stmt}
    (e1 : isFin1 b1 = true) (e2 : isFin2 b2 = true) (hu : A.units < 8000) (C : Cx K p loose mean mg mb A h₀ L 0) (O : EnvOk env (lawEi cs) L (adrs news))
    (S : SR V w.params h₀ L s.heap m news [] (pushH ((pl.H.set 0 (.cell cv)).set lst .junk) (.opq 5))) (ht : All2 (ToldR K V.arch) (V.pre 0) (V.pre 1)) (hi : i < (V.pre 1).length) (hb : (V.pre 1).length ≤ 100)
    (xi : (adrs news)[ii]? = some xI) (xw : (adrs news)[pl.y.w]? = some xW) (xt : (adrs news)[pl.y.t]? = some xT) (mI : m "interp" = some (.ref xI)) (mT : m "told" = some (.ref xT)) (mA : m "at" = some (.int (i : Int) ti))
    (h : ∀ h' tk m', SR V w.params h₀ L h' m' news [] (pushH ((pl.H.set 0 (.cell cv)).set lst .junk) (.opq 5)) → m' "interp" = some (.ref xI) → m' "told" = some (.ref xT) → Q .next { s with heap := h', toks := tk }) : wpAny (model prog w) A (execs [b1, b2] env) Q E s := by
  · cases isFin1_is e1
    have lens : (V.pre 0).length = (V.pre 1).length := all2_len ht
    obtain ⟨v, hv1, a, b, x, t1, t2, c, n1, n2, e1, rfl, ta, tb, C1, d1, des, nn, lx, xs, nl, y, C2, d2, des2, nn2, tk0, w1, w2, w3, w4, w5, w6, w7, w8, w9, w10, w11⟩ := all2_get ht (List.getElem?_eq_getElem (by omega : i < (V.pre 0).length))
    have lW := (plistEnd S (X.pW5 cv) xw).1
    refine wpAny_execs_cons (Assign_Tuple (Subscript_ (Attribute_any_ (nm_local (ei := lawEi cs) O rfl S.fr X.okI X.kI mI ?_))) rfl rfl)
    refine s_getA (o := .ref ii) C S ⟨xI, xi, rfl⟩ (X.gW5 cv) fun v hv => ?_
    obtain ⟨z, hz, rfl⟩ := hv
    rw [xw] at hz
    cases hz
    refine nm_local (s := { s with toks := s.toks + 1 }) (ei := lawEi cs) O rfl S.fr X.okA X.kA mA ?_
    refine tail_any (s := { s with toks := s.toks + 1 }) lW.typeIs slot_list_getitem.lookup (wpAny_getItem_list (s := { s with toks := s.toks + 1 }) lW (by omega) (by omega) (x := .ref a) (by rw [Int.toNat_natCast, List.getElem?_toArray, List.getElem?_eq_getElem (by omega : i < (V.pre 0).length), e1]) ?_) rfl
    refine assign_Tuple_tuple (s := { s with toks := s.toks + 1 }) C.hand ⟨_, S.archAt ta, rfl, _, rfl⟩ rfl rfl fun h1 he1 => ?_
    have S1 := S.extBut he1
    refine assignInOrder_cons (PyProof.Rows.assign_Name (st_local (s := { s with heap := h1, toks := s.toks + 1 }) (ei := lawEi cs) O rfl S1 X.okS X.kS fun h2 tk2 S2 => ?_))
    refine assignInOrder_cons (PyProof.Rows.assign_Name (st_local (s := { s with heap := h2, toks := tk2 }) (ei := lawEi cs) O rfl S2 X.okC X.kC fun h3 tk3 S3 => ?_))
    refine assignInOrder_nil ?_
    have mS3 : (fun y => if y = ("call_in" : Str) then some (Value.ref c) else if y = ("said" : Str) then some (.str x t1) else m y) "said" = some (.str x t1) := by
      show (if ("said" : Str) = "call_in" then _ else _) = _
      rw [if_neg (by decide), if_pos rfl]
    have mO3 : ∀ {z : Str} {q : Value}, z ≠ "call_in" → z ≠ "said" → m z = some q → (fun y => if y = ("call_in" : Str) then some (Value.ref c) else if y = ("said" : Str) then some (.str x t1) else m y) z = some q := fun {z q} h1 h2 h3 => by
      show (if z = "call_in" then _ else _) = _
      rw [if_neg h1, if_neg h2]; exact h3
    have mI3 := mO3 (by decide) (by decide) mI
    have mT3 := mO3 (by decide) (by decide) mT
    have mA3 := mO3 (by decide) (by decide) mA
    have mC3 : (fun y => if y = ("call_in" : Str) then some (Value.ref c) else if y = ("said" : Str) then some (.str x t1) else m y) "call_in" = some (.ref c) := if_pos rfl
    generalize hm3 : (fun y => if y = ("call_in" : Str) then some (Value.ref c) else if y = ("said" : Str) then some (.str x t1) else m y) = m3 at *
    have lT := (plistEnd S3 (X.pT5 cv) xt).1
    have told : ∀ {q1 q2 q3 : Pos} {t0 : Nat} {Q' : Value → Shared → Prop}, Q' (.ref b) { s with heap := h3, toks := t0 } → wpAny (model prog w) A (eval (.Subscript (.Name "told" q1) (.Name "at" q2) q3) env) Q' E { s with heap := h3, toks := t0 } := fun {q1 q2 q3 t0 Q'} hq => by
      refine Subscript_ (nm_local (s := { s with heap := h3, toks := t0 }) (ei := lawEi cs) O rfl S3.fr X.okT X.kT mT3 (nm_local (s := { s with heap := h3, toks := t0 }) (ei := lawEi cs) O rfl S3.fr X.okA X.kA mA3 ?_))
      exact tail_any (s := { s with heap := h3, toks := t0 }) lT.typeIs slot_list_getitem.lookup (wpAny_getItem_list (s := { s with heap := h3, toks := t0 }) lT (by omega) (by omega) (x := .ref b) (by rw [Int.toNat_natCast, List.getElem?_toArray]; exact hv1) hq) rfl
    have items : ∀ {t0 : Nat} {ex : Bool} {Q' : Value → Shared → Prop}, Q' (.ref lx) { s with heap := h3, toks := t0 + 1 } → wpAny (model prog w) A (getAttr (.ref c) "items" ex) Q' E { s with heap := h3, toks := t0 } := fun {t0 ex Q'} hq =>
      arch_get (s := { s with heap := h3, toks := t0 }) C S3 w1 w3 w2 w4 rfl hq
    have lX : h3.IsList lx xs.toArray := ⟨_, S3.archAt w5, rfl, nl, rfl⟩
    have len : ∀ {t0 : Nat} {Q' : Value → Shared → Prop}, (∀ t tk, Q' (.int (xs.length : Int) t) { s with heap := h3, toks := tk }) → wpAny (model prog w) A (call (.builtin "len") [.ref lx]) Q' E { s with heap := h3, toks := t0 } := fun {t0 Q'} hq =>
      call_len_list (s := { s with heap := h3, toks := t0 }) lX (by simp; omega) (by simpa using hq _ _)
    -- said
    cases isFin2_is e2 with
    | mk c1 c2 c3 q1 fl q2 g1 g2 g3 =>
    refine wpAny_execs_cons (wpAny_If (wpAny_isTrue_BoolOp (wpAny_allTrue_Or_cons ?_)))
    cases isF2a_is g1
    refine wpAny_isTrue_Compare1 ?_ rfl
    refine nm_local (s := { s with heap := h3, toks := tk3 }) (ei := lawEi cs) O rfl S3.fr X.okS X.kS mS3 ?_
    refine Subscript_ (told (wpAny_Constant_int ?_))
    refine item_tupleT (s := { s with heap := h3, toks := _ }) (j := 0) (l := [.str x t2, .ref c]) ⟨_, S3.archAt tb, rfl, _, rfl⟩ (by decide) (by decide) (show seqIndex? 0 2 = some 0 by decide) rfl ?_ rfl
    refine ne_str ?_
    rw [show (x != x) = false from by simp]
    refine wpAny_truthy_bool ?_
    rw [if_neg (by decide)]
    -- call_in.items[0].name
    refine wpAny_allTrue_Or_cons ?_
    cases isF2b_is g2
    refine wpAny_isTrue_Compare1 ?_ rfl
    refine Attribute_any_ (Subscript_ (Attribute_any_ (nm_local (s := { s with heap := h3, toks := _ }) (ei := lawEi cs) O rfl S3.fr X.okC X.kC mC3 (items ?_))))
    refine wpAny_Constant_int ?_
    refine tail_any (s := { s with heap := h3, toks := _ }) lX.typeIs slot_list_getitem.lookup (wpAny_getItem_list (s := { s with heap := h3, toks := _ }) lX (by decide) (by decide) (x := .ref y) (by simpa using w7) ?_) rfl
    refine arch_get (s := { s with heap := h3, toks := _ }) C S3 w8 w10 w9 w11 rfl ?_
    refine wpAny_Constant_str (ne_str ?_)
    rw [show (("switch" : Str) != "switch") = false from by simp]
    refine wpAny_truthy_bool ?_
    rw [if_neg (by decide)]
    -- the lengths
    refine wpAny_allTrue_Or_cons ?_
    cases isF2c_is g3 with
    | mk d1 d2 q3 g4 g5 =>
    refine wpAny_isTrue_Compare1 ?_ (by cases isF2c2_is g5; rfl)
    cases isF2c1_is g4
    refine Call_ (nm_builtin (s := { s with heap := h3, toks := _ }) (ei := lawEi cs) C O S3.fr X.okL X.kL X.nL boot_len (callWith_builtin1 (args_cons (Attribute_any_ (nm_local (s := { s with heap := h3, toks := _ }) (ei := lawEi cs) O rfl S3.fr X.okC X.kC mC3 (items ?_))))))
    refine args_nil (len fun t tk => ?_)
    cases isF2c2_is g5
    refine Call_ (nm_builtin (s := { s with heap := h3, toks := tk }) (ei := lawEi cs) C O S3.fr X.okL X.kL X.nL boot_len (callWith_builtin1 (args_cons (Attribute_any_ (Subscript_ (told (wpAny_Constant_int ?_)))))))
    refine item_tupleT (s := { s with heap := h3, toks := _ }) (j := 1) (l := [.str x t2, .ref c]) ⟨_, S3.archAt tb, rfl, _, rfl⟩ (by decide) (by decide) (show seqIndex? 1 2 = some 1 by decide) rfl (items ?_) rfl
    refine args_nil (len fun t' tk' => ?_)
    refine ne_int ?_
    rw [show ((xs.length : Int) != (xs.length : Int)) = false from by simp]
    refine wpAny_truthy_bool ?_
    rw [if_neg (by decide)]
    refine wpAny_allTrue_Or_nil ?_
    rw [if_neg (by decide)]
    exact wpAny_execs_nil (wpAny_execs_nil (h h3 tk' m3 S3 mI3 mT3))
end
end Mine
end Lh_text
section Li_text
open PySem PySem.W PyProof.Rows PySem.Calls PySem.Spec
set_option Elab.async false
set_option maxRecDepth 100000
set_option maxHeartbeats 4000000
set_option linter.unusedVariables false
namespace Mine
section
variable {prog : Program} {w : World} {K : Frag} {p : Program} {loose : List Str} {mean : ExcName → Option Value} {mg mb : Str → Option Value} {V : Vars} {r : Rec}
  {A : Around} {h₀ : Heap} {L : Addr} {dp un : Nat} {E : Value → Shared → Prop} {s : Shared} {m : Str → Option Value} {news : List (Addr × Obj)} {F F' : Lo} {H H' : He} {env : Env} {ei : EI}
  {cs : Scope} {pl : Plan} {ta : Addr} {tfd : FuncData} {turn : List Stmt}
noncomputable abbrev riterObj (i n : Nat) : Obj := { cls := .type "range_iterator", dict := none, data := .fields #[rawInt (i : Int), rawInt ((n - i : Nat) : Int), rawInt 1], slots := #[] }
theorem s_final {lst ii : Nat} (X : EndText K cs pl lst ii) {st : Stmt} {cv : Option AV} {Q : Flow → Shared → Prop} (e : isFinal st = true) (hu : A.units < 8000) (C : Cx K p loose mean mg mb A h₀ L 0) (O : EnvOk env (lawEi cs) L (adrs news))
    (S : SR V w.params h₀ L s.heap m news pl.F ((pl.H.set 0 (.cell cv)).set lst .junk)) (I : TurnInv K 4 V)
    (h : ∀ h' tk m' news' F' H' (V' : Vars), SR V' w.params h₀ L h' m' news' F' H' → V'.arch = V.arch → Q .next { s with heap := h', toks := tk }) : wpAny (model prog w) A (exec st env) Q E s := by
  obtain ⟨t1_, it1_, bs1_, p1_, rfl, e_0, e_1, e_2⟩ := forS_is e
  obtain ⟨p2_, rfl⟩ := nmE_is e_0
  obtain ⟨q3_, a3_, p3_, rfl, e_1'⟩ := call1_is e_1
  obtain ⟨q4_, a4_, p4_, rfl, e_1''⟩ := call1_is e_1'
  obtain ⟨p5_, rfl⟩ := nmE_is e_1''
  obtain ⟨b1, b2, rfl, g1, g2⟩ := two_is e_2
  · clear e e_0 e_1 e_1' e_1'' e_2
    obtain ⟨yI, vI, i1, mI, xI, hxI, rfl⟩ := S.lo _ _ X.fI
    have : yI = "interp" := Option.some.inj (i1.symm.trans (okStr_get X.okI))
    subst this
    obtain ⟨yT, vT, t1, mT, xT, hxT, rfl⟩ := S.lo _ _ X.fT
    have : yT = "told" := Option.some.inj (t1.symm.trans (okStr_get X.okT))
    subst this
    obtain ⟨xW, oW, hxW, _⟩ := S.get (X.pW cv) rfl
    have lT := (plistEnd S (X.pT cv) hxT).1
    have hb : (V.pre 1).length ≤ 40 := I.pre 1
    refine wpAny_For (Call_ (nm_builtin (ei := lawEi cs) C O S.fr X.okR X.kR X.nR boots.1.2 (callWith_type1 (args_cons ?_)))) (fun _ => rfl)
    refine Call_ (nm_builtin (ei := lawEi cs) C O S.fr X.okL X.kL X.nL boot_len (callWith_builtin1 (args_cons (nm_local (ei := lawEi cs) O rfl S.fr X.okT X.kT mT (args_nil ?_)))))
    refine call_len_list lT (by simp; omega) ?_
    refine args_nil ?_
    refine range1_rows (s := { s with toks := _ }) S.fr S.nw fun h1 tk1 u1 u2 u3 hr F1 N1 _ => ?_
    have S1 : SR V w.params h₀ L h1 m news pl.F ((pl.H.set 0 (.cell cv)).set lst .junk) := ⟨F1, N1, S.al, S.nds, S.lo⟩
    refine wpAny_pyIter_range (s := { s with heap := h1, toks := tk1 }) hr (small_one (by decide) (by decide) (by rw [List.size_toArray]; omega) (by rw [List.size_toArray]; omega)) ?_
    have esz : Builtin.Range.rangeSize 0 (((V.pre 1).toArray.size : Nat) : Int) 1 = (((V.pre 1).length - 0 : Nat) : Int) := by
      rw [rangeSize_nat]; simp
    rw [esz]
    generalize hn : (V.pre 1).length = n at *
    have S2 := (S1.setObj (j := 5) (o := riterObj 0 n) (X.nq cv)).forget
    obtain ⟨S3, p3', hx3⟩ := SR.push (s := { s with heap := h1, toks := tk1 }) (a := .opq 5) S2 (S2.fr.push _) (S2.nw.push S2.fr (riterObj 0 n)) (fun q hq => Heap.lt_size (S2.nw q hq).1) rfl
    generalize hnews : news ++ [(h1.objs.size, riterObj 0 n)] = news3 at S3 p3' hx3
    generalize hlen : ((pl.H.set 0 (.cell cv)).set lst .junk).length = k5' at *
    have H5at : (pushH ((pl.H.set 0 (.cell cv)).set lst .junk) (.opq 5))[k5']? = some (.opq 5) := by rw [pushH_eq, ← hlen]; simp
    have H5u : ∀ q : Nat, (pushH ((pl.H.set 0 (.cell cv)).set lst .junk) (.opq 5))[q]? = some (AO.opq 5) → q = k5' := fun q hq => by
      rw [pushH_eq] at hq
      rcases Nat.lt_trichotomy q k5' with lt | eq | gt
      · rw [List.getElem?_append_left (by rw [hlen]; exact lt)] at hq
        exact absurd hq (X.nq cv q)
      · exact eq
      · rw [List.getElem?_append_right (by rw [hlen]; omega), hlen] at hq
        rw [List.getElem?_eq_none (by simp; omega)] at hq
        cases hq
    have xi3 := get_mono p3' hxI
    have xw3 := get_mono p3' hxW
    have xt3 := get_mono p3' hxT
    refine codeAny_forLoop_any (fun k s' => ∃ i V' h2 tk2 m2 news2, i + k = n ∧ s' = { s with heap := h2, toks := tk2 } ∧ SR V' w.params h₀ L h2 m2 news2 [] (pushH ((pl.H.set 0 (.cell cv)).set lst .junk) (.opq 5)) ∧ V'.obj 5 = riterObj i n ∧ V'.arch = V.arch ∧ V'.pre = V.pre ∧ adrs news2 = adrs news3 ∧
        m2 "interp" = some (.ref xI) ∧ m2 "told" = some (.ref xT)) (fun k s' hI => ?_) n ⟨0, V.setObj 5 (riterObj 0 n), _, tk1, m, news3, by omega, rfl, S3, rfl, rfl, rfl, rfl, mI, mT⟩
    obtain ⟨i, V', h2, tk2, m2, news2, hik, rfl, S4, v1, v2, v3, ea, mI2, mT2⟩ := hI
    obtain ⟨io, j1, j2, j3⟩ := S4.at H5at (by rw [ea]; exact hx3)
    have j3 : io = V'.obj 5 := j3
    rw [v1] at j3
    subst j3
    cases k with
    | zero =>
      refine wpAny_pyNext_range_end (s := { s with heap := h2, toks := tk2 }) (x := (i : Int)) (left := ((n - i : Nat) : Int)) (step := 1) C.hand j2 (by omega) fun h5 he => ?_
      exact wpAny_execs_nil (h h5 tk2 m2 news2 [] _ V' (SR.gone (s := { s with heap := h2, toks := tk2 }) S4 j1 H5at he) v2)
    | succ k =>
      refine wpAny_pyNext_range_item (s := { s with heap := h2, toks := tk2 }) (x := (i : Int)) (left := ((n - i : Nat) : Int)) (step := 1) j2 (by omega) fun h5 hi5 hs5 => ?_
      refine wpAny_pure (a := ()) ?_
      have q1 : ((n - i : Nat) : Int) - 1 = ((n - (i + 1) : Nat) : Int) := by omega
      have q2 : (i : Int) + 1 = ((i + 1 : Nat) : Int) := by omega
      rw [q1, q2] at hi5
      have S5 := SR.reobj (s := { s with heap := h2, toks := tk2 }) (o' := riterObj (i + 1) n) S4 j1 H5at hs5 hi5 H5u
      have ea5 := adrs_set (o' := riterObj (i + 1) n) j1
      generalize hn5 : news2.set k5' (h1.objs.size, riterObj (i + 1) n) = news5 at S5 ea5
      have ea6 := ea5.trans ea
      have O5 : EnvOk env (lawEi cs) L (adrs news5) := by rw [ea6]; exact O.mono p3'
      refine PyProof.Rows.assign_Name (st_local (s := { s with heap := h5, toks := tk2 + 1 }) (ei := lawEi cs) O5 rfl S5 X.okA X.kA fun h6 tk6 S6 => ?_)
      refine s_toldBody (s := { s with heap := h6, toks := tk6 }) (V := V'.setObj 5 (riterObj (i + 1) n)) X (i := i) g1 g2 hu C O5 S6 ?_ ?_ ?_ (by rw [ea6]; exact xi3) (by rw [ea6]; exact xw3) (by rw [ea6]; exact xt3) ?_ ?_ (if_pos rfl) fun h7 tk7 m7 S7 mI7 mT7 => ?_
      · show All2 (ToldR K V'.arch) (V'.pre 0) (V'.pre 1)
        rw [v2, v3]; exact I.arch.told
      · show i < (V'.pre 1).length
        rw [v3, hn]; omega
      · show (V'.pre 1).length ≤ 100
        rw [v3, hn]; omega
      · rw [if_neg (by decide)]; exact mI2
      · rw [if_neg (by decide)]; exact mT2
      · exact ⟨k, Nat.lt_succ_self _, i + 1, _, h7, tk7, m7, news5, by omega, rfl, S7, rfl, v2, v3, ea6, mI7, mT7⟩
end
end Mine
end Li_text
section Lj_text
open PySem PySem.W PyProof.Rows PySem.Calls PySem.Spec
set_option Elab.async false
set_option maxRecDepth 100000
set_option maxHeartbeats 4000000
set_option linter.unusedVariables false
namespace Mine
section
variable {prog : Program} {w : World} {K : Frag} {p : Program} {loose : List Str} {mean : ExcName → Option Value} {mg mb : Str → Option Value} {V : Vars} {r : Rec}
  {A : Around} {h₀ : Heap} {L : Addr} {dp un : Nat} {E : Value → Shared → Prop} {s : Shared} {m : Str → Option Value} {news : List (Addr × Obj)} {F F' : Lo} {H H' : He} {env : Env} {ei : EI}
  {cs : Scope} {pl : Plan} {ta : Addr} {tfd : FuncData} {turn : List Stmt}
theorem s_state {st : Stmt} {a : Addr} {vs : List Value} {Q : Flow → Shared → Prop} (e : isState st = true) (okS : okStr "state" = true) (okC : okStr "script" = true) (kS : kf cs.names (sid "state") = some .local) (kC : kf cs.names (sid "script") = some .local)
    (C : Cx K p loose mean mg mb A h₀ L 0) (O : EnvOk env (lawEi cs) L (adrs news)) (S : SR V w.params h₀ L s.heap m news [] [.cell none]) (hm : m "script" = some (.ref a)) (hl : h₀.IsList a vs.toArray) (hi : ∀ v ∈ vs, ∃ i t, v = .int i t) (hlen : vs.length ≤ 1000)
    (h : ∀ h' tk m' news' rowO stO D1, RowIs rowO (vs.take 40) → StateIs stO D1 0 → SR ((V.setObj 0 rowO).setObj 1 stO) w.params h₀ L h' m' news' headF headH → (adrs news')[1]? = some D1 → (adrs news <+: adrs news') → Q .next { s with heap := h', toks := tk }) : wpAny (model prog w) A (exec st env) Q E s := by
  cases isState_is e with
  | mk =>
    have ni : ∀ {q : Nat} {j : Nat}, ([.cell none] : He)[q]? ≠ some (.opq j) := fun {q j} z => by
      cases q with
      | zero => cases z
      | succ q => cases z
    refine wpAny_Assign_Name (List_ (args_cons (Subscript_ (nm_local (ei := lawEi cs) O rfl S.fr okC kC hm ?_)))) rfl
    refine wpAny_Slice (evalPart_none_step (evalPart_some_step (wpAny_Constant_int (evalPart_none_step ?_))))
    have S1 := S.extra { cls := .type "slice", data := .fields #[.none, .int 40 s.toks, .none] }
    have hl1 : (s.heap.push { cls := .type "slice", data := .fields #[.none, .int 40 s.toks, .none] }).IsList a vs.toArray := by
      obtain ⟨o, ho, r⟩ := hl
      exact ⟨o, S1.fr.keep _ _ ho, r⟩
    refine tail_any hl1.typeIs slot_list_getitem.lookup (wpAny_getItem_list_slice hl1 (Heap.IsSliceOf.new _ _ _ _) .none (.int 40 s.toks) .none (by intro z; cases z) ?_ (by rw [sizeLine_eq]; simp; omega)) rfl
    rw [show slicePick vs.toArray none (some 40) none = (vs.take 40).toArray from slicePick_upto' _ 40]
    have S2 := S1.setObj (j := 0) (o := listOf (vs.take 40).toArray 0) (fun q => ni)
    generalize hh1 : s.heap.push { cls := .type "slice", data := .fields #[.none, .int 40 s.toks, .none] } = H1 at *
    obtain ⟨S3, p3, x3⟩ := SR.push (s := { s with heap := H1 }) (a := .opq 0) S2 (S2.fr.push _) (S2.nw.push S2.fr (listOf (vs.take 40).toArray 0)) (fun q hq => Heap.lt_size (S2.nw q hq).1) rfl
    generalize hnw : news ++ [(H1.objs.size, listOf (vs.take 40).toArray 0)] = news3 at S3 p3 x3
    refine args_cons (wpAny_Constant_int (args_nil ?_))
    refine newList_N (s := { s with heap := _, toks := _ }) S3.fr S3.nw (fun h4 F4 N4 => ?_) (show 2 ≤ sizeLine by rw [sizeLine_eq]; decide)
    have ni2 : ∀ q : Nat, (pushH [.cell none] (.opq 0) : He)[q]? ≠ some (.opq 1) := fun q z => by
      match q with
      | 0 => cases z
      | 1 => cases z
      | q + 2 => cases z
    have S4 := S3.setObj (j := 1) (o := listOf [Value.ref H1.objs.size, .int 0 (s.toks + 1)].toArray 0) ni2
    obtain ⟨S5, p5, x5⟩ := SR.push (s := { s with heap := H1.push (listOf (vs.take 40).toArray 0), toks := s.toks + 1 + 1 }) (a := .opq 1) (o := listOf [Value.ref H1.objs.size, .int 0 (s.toks + 1)].toArray 0) S4 F4 N4 (fun q hq => Heap.lt_size (S4.nw q hq).1) rfl
    have O5 := O.mono (p3.trans p5)
    refine s_stoN (ei := lawEi cs) (F' := headF) (a := .ref 2) C O5 S5 ?_ ⟨_, x5, rfl⟩ fun h6 tk6 m6 news6 S6 p6 => ?_
    · have e2 : (lawEi cs).cs = cs := rfl
      have e3 : (lawEi cs).mode = none := rfl
      unfold stoN
      rw [okS, e3, e2]
      dsimp only
      rw [kS]
      rfl
    · exact h h6 tk6 m6 news6 _ _ H1.objs.size ⟨⟨0, rfl⟩, fun v hv => hi v (List.mem_of_mem_take hv), by simp; omega⟩ ⟨rfl, 0, s.toks + 1, rfl⟩ S6 (get_mono (p5.trans p6) x3) ((p3.trans p5).trans p6)
end
end Mine
end Lj_text
section Lk_text
open PySem PySem.W PyProof.Rows PySem.Calls PySem.Spec
set_option Elab.async false
set_option maxRecDepth 100000
set_option maxHeartbeats 4000000
set_option linter.unusedVariables false
namespace Mine
section
variable {prog : Program} {w : World} {K : Frag} {p : Program} {loose : List Str} {mean : ExcName → Option Value} {mg mb : Str → Option Value} {V : Vars} {r : Rec}
  {A : Around} {h₀ : Heap} {L : Addr} {dp un : Nat} {E : Value → Shared → Prop} {s : Shared} {m : Str → Option Value} {news : List (Addr × Obj)} {F F' : Lo} {H H' : He} {env : Env} {ei : EI}
  {cs : Scope} {pl : Plan} {ta : Addr} {tfd : FuncData} {turn : List Stmt}
theorem live_as {R : List (Addr × Obj)} {a b : AO} (ha : isJunk a = false) (hb : isJunk b = false) : ∀ {H : He} {news : List (Addr × Obj)} {i : Nat}, H[i]? = some a → live R (H.set i b) news = live R H news
  | c :: H, [], i, e => by cases i <;> rfl
  | c :: H, q :: n, 0, e => by
    cases e
    show live R (b :: H) (q :: n) = live R (a :: H) (q :: n)
    rw [live_cons_n hb, live_cons_n ha]
  | c :: H, q :: n, i + 1, e => by
    have ih := live_as (R := R) ha hb (H := H) (news := n) (i := i) (by simpa using e)
    show live R (c :: H.set i b) (q :: n) = live R (c :: H) (q :: n)
    cases hc : isJunk c with
    | true => rw [live_cons_j hc, live_cons_j hc]; exact ih
    | false => rw [live_cons_n hc, live_cons_n hc, ih]
  | [], _, _, e => by simp at e
theorem SR.as {P : Params} {h : Heap} {i : Nat} {a b : AO} (S : SR V P h₀ L h m news F H) (hH : H[i]? = some a) (himp : ∀ o, OR V (adrs news) P a o → OR V (adrs news) P b o) (ha : isJunk a = false := by rfl) (hb : isJunk b = false := by rfl) :
    SR V P h₀ L h m news F (H.set i b) := by
  have e := live_as (R := V.arch) (news := news) ha hb hH
  refine ⟨S.fr, by rw [e]; exact S.nw, ?_, by rw [e]; exact S.nds, S.lo⟩
  refine all2_of (by rw [List.length_set]; exact S.al.length) fun q c d hc hd => ?_
  by_cases hq : q = i
  · subst hq
    rw [List.getElem?_set_self (List.getElem?_eq_some_iff.mp hH).1] at hc
    cases hc
    have z := all2_at S.al hH hd
    exact himp _ z
  · rw [List.getElem?_set_ne (Ne.symm hq)] at hc
    have z := all2_at S.al hc hd
    exact z
theorem relE_is {adr : List Addr} {P : Params} (hs : V.s = 0) : ∀ {es es' : Lo} {des : List DictEntry}, relE es = some es' → All2 (ER V adr P) es des → All2 (ER V adr P) es' des
  | [], es', _, e, .nil => by unfold relE at e; cases e; exact .nil
  | (k, a) :: t, es', _, e, .cons ⟨x, tk, h1, h2, h3, h4⟩ hr => by
    unfold relE at e
    split at e
    · cases e
    · rename_i u hu
      have ih := relE_is hs hu hr
      split at e
      · split at e
        · rename_i l
          split at e
          · rename_i hl
            cases e
            obtain ⟨tt, ht⟩ := h4
            refine .cons ⟨x, tk, h1, h2, h3, tt, ?_⟩ ih
            rw [ht, linEq_is hl V, lit_val]
            unfold Lin.val sVar
            rw [hs]
            simp
          · cases e
        · cases e
      · split at e
        · cases e
          exact .cons ⟨x, tk, h1, h2, h3, h4.handed⟩ ih
        · cases e
          exact .cons ⟨x, tk, h1, h2, h3, h4⟩ ih
theorem relaxD_is {P : Params} {h : Heap} {i : Nat} (hs : V.s = 0) (S : SR V P h₀ L h m news F H) (e : relaxD H i = some H') : SR V P h₀ L h m news F H' := by
  unfold relaxD at e
  split at e
  · rename_i es he
    split at e
    · rename_i es' hr
      cases e
      exact S.as he fun o ⟨des, n, h1, h2⟩ => ⟨des, n, h1, relE_is hs hr h2⟩
    · cases e
  · cases e
theorem relaxL_is {P : Params} {h : Heap} {i j : Nat} {l : Option Lin} (hp : V.pre j = []) (hl : ∀ u, l = some u → u.val V = 0) (S : SR V P h₀ L h m news F H) (e : relaxL H i j l = some H') : SR V P h₀ L h m news F H' := by
  unfold relaxL at e
  split at e
  · rename_i he
    cases e
    refine S.as he fun o ⟨xs, n, h1, h2⟩ => ?_
    cases h2
    exact ⟨[], n, by rw [hp]; exact h1, .nil, fun u hu => by rw [hp, hl u hu]; rfl, by rw [hp]; exact Nat.zero_le _⟩
  · cases e
theorem rootH_is {P : Params} {h : Heap} {y : Lay} (hs : V.s = 0) (ht : V.t = 0) (hp : ∀ j, V.pre j = []) (S : SR V P h₀ L h m news F H) (e : rootH y H = some H') : SR V P h₀ L h m news F H' := by
  have hv : ∀ u, some tVar = some u → u.val V = 0 := fun u hu => by
    cases hu
    unfold Lin.val tVar
    rw [ht]
    simp
  have hv2 : ∀ u, (none : Option Lin) = some u → u.val V = 0 := fun u hu => by cases hu
  unfold rootH at e
  split at e
  · cases e
  rename_i H1 h1
  split at e
  · cases e
  rename_i H2 h2
  split at e
  · cases e
  rename_i H3 h3
  split at e
  · cases e
  rename_i H4 h4
  exact relaxL_is (hp _) hv2 (relaxL_is (hp _) hv2 (relaxL_is (hp _) hv (relaxL_is (hp _) hv (relaxD_is hs S h1) h2) h3) h4) e
end
end Mine
end Lk_text
section Ll_text
open PySem PySem.W PyProof.Rows PySem.Calls PySem.Spec
set_option Elab.async false
set_option maxRecDepth 100000
set_option maxHeartbeats 4000000
set_option linter.unusedVariables false
namespace Mine
noncomputable def headTake : TE := call1 "range" (binE .Add (litE (.int 1)) (isTake 4))
noncomputable def isRet : TS := retS (litE (.bool true))
section
variable {prog : Program} {w : World} {K : Frag} {p : Program} {loose : List Str} {mean : ExcName → Option Value} {mg mb : Str → Option Value} {V : Vars} {r : Rec}
  {A : Around} {h₀ : Heap} {L : Addr} {dp un : Nat} {E : Value → Shared → Prop} {s : Shared} {m : Str → Option Value} {news : List (Addr × Obj)} {F F' : Lo} {H H' : He} {env : Env} {ei : EI}
  {cs : Scope} {pl : Plan} {ta : Addr} {tfd : FuncData} {turn : List Stmt}
theorem s_blApp (R : RecOk prog w K p loose mean mg mb V r) (C : Cx K p loose mean mg mb A h₀ L ei.dp) {rest : List Stmt} : ∀ {ss : List Stmt} {F : Lo} {H : He} {F' : Lo} {H' : He} {m : Str → Option Value} {news : List (Addr × Obj)} {s : Shared} {Q : Flow → Shared → Prop},
    EnvOk env ei L (adrs news) → SR V w.params h₀ L s.heap m news F H → bl r ei F H ss = some (.next, F', H') →
    (∀ h' tk m' news', SR V w.params h₀ L h' m' news' F' H' → adrs news <+: adrs news' → wpAny (model prog w) A (execs rest env) Q E { s with heap := h', toks := tk }) → wpAny (model prog w) A (execs (ss ++ rest) env) Q E s
  | [], F, H, F', H', m, news, s, Q, O, S, q, h => by
    unfold bl at q
    cases q
    exact h s.heap s.toks m news S (List.prefix_refl _)
  | st :: t, F, H, F', H', m, news, s, Q, O, S, q, h => by
    unfold bl at q
    split at q
    · cases q
    · cases q
    · rename_i F1 H1 h1
      refine wpAny_execs_cons (R.st h1 C O S fun f h' tk m' news' S' hp hv => ?_)
      cases hv
      exact s_blApp R C (O.mono hp) S' q fun h'' tk'' m'' news'' S'' hp' => h h'' tk'' m'' news'' S'' (hp.trans hp')
theorem planOf_is {pre : List Stmt} (e : planOf K cs pre = some pl) : ∃ H H1, bl (tower K 60) (lawEi cs) headF headH pre = some (.next, pl.F, H) ∧ rootH pl.y H = some H1 ∧ pl.H = pushH H1 (.opq 2) := by
  unfold planOf at e
  split at e
  · rename_i F H h1
    split at e
    · rename_i y h2
      split at e
      · rename_i H1 h3
        cases e
        exact ⟨H, H1, h1, h3, rfl⟩
      · cases e
    · cases e
  · cases e
theorem archOk_nil {K : Frag} {V : Vars} (hp : ∀ j, V.pre j = []) : ArchOk K V := ⟨by rw [hp, hp]; exact .nil, by rw [hp, hp]; exact .nil⟩
/-- the for statement with its header -/
theorem s_forSt (X : LawText K cs pl ta tfd turn) {rows : List Value} {D1 D2 : Addr} {H1 : He} {iter : Expr} {x : Str} {xp fp : Pos} {lst : Nat} {Q : Flow → Shared → Prop} (e : headTake iter = true) (hu : A.units < 8000) (hpl : pl.H = pushH H1 (.opq 2)) (hlst : lst = H1.length) (hno : ∀ q : Nat, H1[q]? ≠ some (.opq 2))
    (g0 : H1[0]? = some (.cell none)) (g1 : H1[1]? = some (.opq 0)) (g2 : H1[2]? = some (.opq 1)) (gU : ∀ q, H1[q]? = some (.opq 1) → q = 2) (hl1 : lst ≠ 0)
    (okR : okStr "range" = true) (kR : kf cs.names (sid "range") = some .globalImplicit) (nR : nsIn K mainGlobals "range" = some none) (hx : okStr x = true) (hk : kf cs.names (sid x) = some .cell) (hi : lkN (lawEi cs).cells (sid x) = some 0)
    (C : Cx K p loose mean mg mb A h₀ L 0) (O : EnvOk env (lawEi cs) L (adrs news)) (S : SR V w.params h₀ L s.heap m news pl.F H1) (vg : V.g = 0) (vs : V.s = 0) (vt : V.t = 0) (vp : ∀ j, V.pre j = [])
    (x1 : (adrs news)[1]? = some D1) (x2 : (adrs news)[2]? = some D2) (hR : RowIs (V.obj 0) rows) (hS : StateIs (V.obj 1) D1 0)
    (h : ∀ h' tk m' news' V' cv', SR V' w.params h₀ L h' m' news' pl.F ((pl.H.set 0 (.cell cv')).set lst .junk) → (∀ j, j < pl.H.length → j < lst → (adrs news')[j]? = (adrs news)[j]?) → TurnInv K 4 V' → (∀ q ∈ V.arch, q ∈ V'.arch) → Q .next { s with heap := h', toks := tk }) :
    wpAny (model prog w) A (exec (.For (.Name x xp) iter turn [] fp) env) Q E s := by
  obtain ⟨rp, a1, cp2, rfl, e3⟩ := call1_is e
  obtain ⟨a2, tk, bp, rfl, e1, e2⟩ := binE_is e3
  obtain ⟨ck, cp, rfl⟩ := litE_is e1
  · clear e1
    refine wpAny_For (Call_ (nm_builtin (ei := lawEi cs) C O S.fr okR kR nR boots.1.2 (callWith_type1 (args_cons (wpAny_BinOp (wpAny_Constant_int ?_)))))) (fun _ => rfl)
    refine s_take (s := { s with toks := s.toks + 1 }) (ei := lawEi cs) e2 X.tf X.tok X.ok1 X.k1 X.ks rfl (by show 0 < 200; decide) hu C O S X.fs g1 g2 gU x1 x2 hR hS (by decide) (by decide) fun v t tk1 o' h1 news1 v0 v1 st1 S1 ea => ?_
    refine add_int (args_nil ?_)
    refine range1_rows (s := { s with heap := h1, toks := _ }) S1.fr S1.nw fun h2 tk2 u1 u2 u3 hr F2 N2 _ => ?_
    have S2 : SR (V.setObj 1 o') w.params h₀ L h2 m news1 pl.F H1 := ⟨F2, N2, S1.al, S1.nds, S1.lo⟩
    refine wpAny_pyIter_range (s := { s with heap := h2, toks := tk2 }) hr (small_one (by decide) (by decide) (by omega) (by omega)) ?_
    obtain ⟨n, hn⟩ : ∃ n : Nat, (n : Int) = 1 + v := ⟨(1 + v).toNat, by omega⟩
    have esz : Builtin.Range.rangeSize 0 (1 + v) 1 = ((n - 0 : Nat) : Int) := by rw [rangeSize_nat]; omega
    rw [esz]
    have S3 := S2.setObj (j := 2) (o := riterObj 0 n) hno
    obtain ⟨S4, p4, hx4⟩ := SR.push (s := { s with heap := h2, toks := tk2 }) (a := .opq 2) S3 (S3.fr.push _) (S3.nw.push S3.fr (riterObj 0 n)) (fun q hq => Heap.lt_size (S3.nw q hq).1) rfl
    rw [← hpl] at S4
    have hset : pl.H.set 0 (.cell none) = pl.H := by
      refine PySem.W.X.set_same ?_
      rw [hpl, pushH_eq, List.getElem?_append_left (List.getElem?_eq_some_iff.mp g0).1]; exact g0
    have e5 : ∀ {j : Nat} {y : Addr}, (adrs news)[j]? = some y → (adrs (news1 ++ [(h2.objs.size, riterObj 0 n)]))[j]? = some y := fun {j y} q => get_mono p4 (by rw [ea]; exact q)
    have plst : pl.H[lst]? = some (.opq 2) := by rw [hpl, pushH_eq, hlst]; simp
    have plu : ∀ q, pl.H[q]? = some (.opq 2) → q = lst := fun q hq => by
      rw [hpl, pushH_eq] at hq
      rcases Nat.lt_trichotomy q H1.length with lt | eq | gt
      · rw [List.getElem?_append_left lt] at hq
        exact absurd hq (hno q)
      · rw [hlst]; exact eq
      · rw [List.getElem?_append_right (by omega), List.getElem?_eq_none (by simp; omega)] at hq
        cases hq
    refine s_lawFor (s := { s with heap := _, toks := tk2 }) (V := (V.setObj 1 o').setObj 2 (riterObj 0 n)) (base := V.arch) (rows := rows) (m := m) X (n := n) (by omega) hu plst hl1 plu ⟨none, by rw [hpl, pushH_eq, List.getElem?_append_left (List.getElem?_eq_some_iff.mp g0).1]; exact g0⟩ hx hk hi (cv := none) C (O.mono (by rw [← ea]; exact p4)) ?_ (e5 x1) (e5 x2) (by rw [hlst]; exact hx4) fun h' tk' m' news' V' cv' S' hsame I' ha => ?_
    · refine ⟨by rw [hset]; exact S4, ⟨?_, ?_, ?_, ?_, ?_, ?_, fun j => by show (V.pre j).length ≤ _; rw [vp]; exact Nat.zero_le _, archOk_nil vp⟩, vg, hR, st1, rfl, fun q hq => hq⟩
      · show 0 ≤ V.g; omega
      · show V.g ≤ 100; omega
      · show 0 ≤ V.s; omega
      · show V.s ≤ _; omega
      · show 0 ≤ V.t; omega
      · show V.t ≤ _; omega
    · refine h h' tk' m' news' V' cv' S' (fun j hj hj2 => ?_) I' ha
      rw [hsame j hj]
      have : j < (adrs news1).length := by
        unfold adrs
        rw [List.length_map, ← S1.len, ← hlst]; exact hj2
      unfold adrs at this ⊢
      rw [List.map_append, List.getElem?_append_left this]
      rw [show news1.map (·.1) = news.map (·.1) from ea]
end
end Mine
end Ll_text
section Lm_text
open PySem PySem.W PyProof.Rows PySem.Calls PySem.Spec
set_option Elab.async false
set_option maxRecDepth 100000
set_option maxHeartbeats 4000000
set_option linter.unusedVariables false
namespace Mine
section
variable {prog : Program} {w : World} {K : Frag} {p : Program} {loose : List Str} {mean : ExcName → Option Value} {mg mb : Str → Option Value} {V : Vars} {r : Rec}
  {A : Around} {h₀ : Heap} {L : Addr} {dp un : Nat} {E : Value → Shared → Prop} {s : Shared} {m : Str → Option Value} {news : List (Addr × Obj)} {F F' : Lo} {H H' : He} {env : Env} {ei : EI}
  {cs : Scope} {pl : Plan} {ta : Addr} {tfd : FuncData} {turn : List Stmt}
theorem envOk_law {adr adr' : List Addr} (O : EnvOk env (lawEi cs) L adr) (h : adr'[0]? = adr[0]?) : EnvOk env (lawEi cs) L adr' := by
  refine ⟨O.scope, O.kind, O.glob, O.bui, O.loc, fun k j hkj => ?_⟩
  obtain ⟨y, c, c1, c2, c3⟩ := O.cells k j hkj
  refine ⟨y, c, c1, c2, ?_⟩
  have hkj' : lkN [(sid "go_of", 0)] k = some j := hkj
  have : j = 0 := by
    unfold lkN at hkj'
    split at hkj'
    · cases hkj'; rfl
    · cases hkj'
  subst this
  rw [h]; exact c3
/-- the law's text, piece by piece -/
structure LawAll (K : Frag) (cs : Scope) (body : List Stmt) (pl : Plan) (ta : Addr) (tfd : FuncData) (lst ii : Nat) : Prop where
  text : ∃ s0 pre xp iter turn fp chk fin ret, body = s0 :: (pre ++ [.For (.Name "go_of" xp) iter turn [] fp, chk, fin, ret]) ∧ isState s0 = true ∧ headTake iter = true ∧ isCheck chk = true ∧ isFinal fin = true ∧ isRet ret = true ∧
    planOf K cs pre = some pl ∧ LawText K cs pl ta tfd turn
  ends : EndText K cs pl lst ii
  okS : okStr "state" = true
  okC : okStr "script" = true
  kC : kf cs.names (sid "script") = some .local
  okG : okStr "go_of" = true
  kG : kf cs.names (sid "go_of") = some .cell
  len : lst + 1 = pl.H.length
  l1 : lst ≠ 0
  no2 : ∀ q : Nat, q < lst → pl.H[q]? ≠ some (.opq 2)
  g0 : pl.H[0]? = some (.cell none)
  l3 : 2 < lst
theorem s_law {body : List Stmt} {lst ii : Nat} (X : LawAll K cs body pl ta tfd lst ii) {a : Addr} {vs : List Value} {c T : Addr} {oc ot : Obj} {Q : Flow → Shared → Prop} (hu : A.units < 8000)
    (C : Cx K p loose mean mg mb A h₀ L 0) (hsc : env.scope = cs) (hkd : cs.kind = .function) (hgl : env.globals = mainGlobals) (hbu : env.builtins = builtinsNs) (hlo : env.locals = L) (hce : env.cells.lookup ("go_of" : Str) = some c) (Fr0 : Fr h₀ L s.heap m) (N0 : News h₀ L s.heap [(c, oc), (T, ot)]) (hc : oc.data = .cell none) (hne : c ≠ T) (hT0 : sysModules ≤ T) (hc0 : c ≠ sysModules) (hT1 : T ≠ sysModules)
    (hm : m "script" = some (.ref a)) (hl : h₀.IsList a vs.toArray) (hi : ∀ v ∈ vs, ∃ i t, v = .int i t) (hlen : vs.length ≤ 1000)
    (h : ∀ h' tk m', Fr h₀ L h' m' → h'.get? T = some ot → Q (.ret (.bool true)) { s with heap := h', toks := tk }) : wpAny (model prog w) A (execs body env) Q E s := by
  obtain ⟨s0, pre, xp, iter, turn, fp, chk, fin, ret, rfl, e0, e1, e2, e3, e4, hpl, X1⟩ := X.text
  have Y := X.ends
  let V : Vars := ⟨0, 0, 0, [(T, ot)], fun _ => [], fun _ => oc, (T, ot), List.mem_cons_self, hT0⟩
  have O : EnvOk env (lawEi cs) L (adrs [(c, oc)]) := by
    refine ⟨hsc, hkd, hgl, hbu, hlo, fun k i hki => ?_⟩
    have hki' : lkN [(sid "go_of", 0)] k = some i := hki
    unfold lkN at hki'
    split at hki'
    · rename_i q
      cases hki'
      have := Nat.eq_of_beq_eq_true q
      subst this
      exact ⟨"go_of", c, okStr_get X.okG, hce, rfl⟩
    · cases hki'
  have S : SR V w.params h₀ L s.heap m [(c, oc)] [] [.cell none] := by
    refine ⟨Fr0, N0, .cons ⟨none, hc, trivial⟩ .nil, ?_, fun _ _ z => by cases z⟩
    show [sysModules, c, T].Nodup
    simp [hne, Ne.symm hc0, Ne.symm hT1]
  refine wpAny_execs_cons (s_state e0 X.okS X.okC X1.ks X.kC C O S hm hl hi hlen fun h1 tk1 m1 news1 rowO stO D1 hR hS S1 x1 p1 => ?_)
  obtain ⟨H, H1, hbl, hroot, hplH⟩ := planOf_is hpl
  have R := tower_ok (prog := prog) (w := w) (K := K) (p := p) (loose := loose) (mean := mean) (mg := mg) (mb := mb) (V := (V.setObj 0 rowO).setObj 1 stO) ⟨Int.le_refl _, show (0 : Int) ≤ 100 by decide, Int.le_refl _, show (0 : Int) ≤ 100 by decide, Int.le_refl _, show (0 : Int) ≤ 100 by decide⟩ 60
  refine s_blApp (s := { s with heap := h1, toks := tk1 }) (ei := lawEi cs) (ss := pre) R C (O.mono p1) S1 hbl fun h2 tk2 m2 news2 S2 p2 => ?_
  have S3 := rootH_is (V := (V.setObj 0 rowO).setObj 1 stO) rfl rfl (fun _ => rfl) S2 hroot
  have hH1 : H1.length = lst := by have := X.len; rw [hplH, pushH_eq, List.length_append] at this; simpa using this.symm
  have hH : ∀ q : Nat, q < lst → H1[q]? = pl.H[q]? := fun q hq => by rw [hplH, pushH_eq, List.getElem?_append_left (by omega)]
  have hl3 := X.l3
  obtain ⟨D2, hD2⟩ : ∃ D2, (adrs news2)[2]? = some D2 := by
    obtain ⟨q, q1, _⟩ := all2_get S3.al (show H1[2]? = some (.opq 1) by rw [hH 2 hl3]; exact X1.h2)
    exact ⟨q.1, by unfold adrs; rw [List.getElem?_map, q1]; rfl⟩
  refine wpAny_execs_cons (s_forSt (s := { s with heap := h2, toks := tk2 }) (rows := vs.take 40) X1 e1 hu hplH hH1.symm (fun q => ?_) (by rw [hH 0 (by omega)]; exact X.g0) (by rw [hH 1 (by omega)]; exact X1.h1) (by rw [hH 2 hl3]; exact X1.h2) (fun q hq => ?_) X.l1 Y.okR Y.kR Y.nR X.okG X.kG (by show lkN [(sid "go_of", 0)] _ = _; unfold lkN; rw [Nat.beq_refl]) C
    (O.mono (p1.trans p2)) S3 rfl rfl rfl (fun _ => rfl) (get_mono p2 x1) hD2 hR hS fun h3 tk3 m3 news3 V3 cv S4 hs I ha => ?_)
  · rcases Nat.lt_or_ge q lst with lt | ge
    · rw [hH q lt]; exact X.no2 q lt
    · rw [List.getElem?_eq_none (by omega)]; intro z; cases z
  · have lt : q < lst := by have := (List.getElem?_eq_some_iff.mp hq).1; omega
    exact X1.hu q (by rw [← hH q lt]; exact hq)
  · have O4 : EnvOk env (lawEi cs) L (adrs news3) := envOk_law (O.mono (p1.trans p2)) (hs 0 (by have := X.len; omega) (by omega))
    refine wpAny_execs_cons (s_check (s := { s with heap := h3, toks := tk3 }) Y e2 hu C O4 S4 I fun tk4 => ?_)
    refine wpAny_execs_cons (s_final (s := { s with heap := h3, toks := tk4 }) Y e3 hu C O4 S4 I fun h5 tk5 m5 news5 F5 H5 V5 S5 ha5 => ?_)
    have hT : (T, ot) ∈ V5.arch := by rw [ha5]; exact ha _ List.mem_cons_self
    obtain ⟨rv, rp, rfl, e5⟩ := retS_is e4
    obtain ⟨rk, rq, rfl⟩ := litE_is e5
    exact wpAny_execs_cons (wpAny_Return_some (wpAny_Constant_bool (h h5 tk5 m5 S5.fr (S5.archAt hT))))
end
end Mine
end Lm_text
section Ln_text
open PySem PySem.W PyProof.Rows PySem.Calls PySem.Spec
set_option Elab.async false
set_option maxRecDepth 100000
set_option maxHeartbeats 4000000
set_option linter.unusedVariables false
namespace Mine
noncomputable def isOpq (j : Nat) : AO → Bool
  | .opq k => Nat.beq k j
  | _ => false
noncomputable def opqIn (j : Nat) : He → Bool
  | [] => false
  | a :: t => isOpq j a || opqIn j t
theorem noOpq {j : Nat} : ∀ {H : He}, opqIn j H = false → ∀ q : Nat, H[q]? ≠ some (.opq j)
  | a :: t, h, 0, e => by
    cases e
    have h : (Nat.beq j j || opqIn j t) = false := h
    rw [Nat.beq_refl] at h
    cases h
  | a :: t, h, q + 1, e => by
    have h : (isOpq j a || opqIn j t) = false := h
    exact noOpq (Bool.or_eq_false_iff.mp h).2 q (by simpa using e)
noncomputable def onlyAt (j i : Nat) (H : He) : Bool := !opqIn j (H.take i) && !opqIn j (H.drop (i + 1))
theorem onlyAt_is {j i : Nat} {H : He} (h : onlyAt j i H = true) : ∀ q : Nat, H[q]? = some (.opq j) → q = i := fun q hq => by
  unfold onlyAt at h
  simp only [Bool.and_eq_true, Bool.not_eq_true'] at h
  rcases Nat.lt_trichotomy q i with lt | eq | gt
  · exact absurd (by rw [List.getElem?_take_of_lt lt]; exact hq) (noOpq h.1 q)
  · exact eq
  · refine absurd ?_ (noOpq h.2 (q - (i + 1)))
    rw [List.getElem?_drop, show i + 1 + (q - (i + 1)) = q from by omega]
    exact hq
section
variable {K : Frag} {H : He}
theorem getA_cell {cv z : Option AV} {o v : AV} {a : Str} (h0 : H[0]? = some (.cell z)) (e : getA K H o a = some v) : getA K (H.set 0 (.cell cv)) o a = some v := by
  unfold getA at e ⊢; try simp only [getH_eq] at e ⊢
  split at e
  · rename_i i
    split at e
    · rename_i C d h1
      have hi : i ≠ 0 := fun q => by subst q; rw [h0] at h1; cases h1
      try dsimp only
      rw [List.getElem?_set_ne (Ne.symm hi), h1]
      try dsimp only
      split at e
      · rename_i hf
        split at e
        · rename_i es h2
          have hd : d ≠ 0 := fun q => by subst q; rw [h0] at h2; cases h2
          rw [List.getElem?_set_ne (Ne.symm hd), h2]
          exact e
        · cases e
      · cases e
    · cases e
  · cases e
theorem getA_push {x : AO} {o v : AV} {a : Str} (e : getA K H o a = some v) : getA K (pushH H x) o a = some v := by
  have hp : ∀ {i : Nat} {b : AO}, H[i]? = some b → (pushH H x)[i]? = some b := fun {i b} q => by
    rw [pushH_eq, List.getElem?_append_left (List.getElem?_eq_some_iff.mp q).1]; exact q
  unfold getA at e ⊢; try simp only [getH_eq] at e ⊢
  split at e
  · rename_i i
    split at e
    · rename_i C d h1
      try dsimp only
      rw [hp h1]
      try dsimp only
      split at e
      · rename_i hf
        split at e
        · rename_i es h2
          rw [hp h2]
          exact e
        · cases e
      · cases e
    · cases e
  · cases e
end
noncomputable def isRefTo (o : Option AV) (i : Nat) : Bool := match o with | some (.ref j) => Nat.beq j i | _ => false
noncomputable def linT (l : Lin) : Bool := Nat.beq l.g.natAbs 0 && (Nat.beq l.s.natAbs 0 && (intZ (l.t - 1) && Nat.beq l.c.natAbs 0))
noncomputable def linTo (tv : Bool) (l : Option Lin) : Bool := match l with
  | some l => tv && linT l
  | none => !tv
noncomputable def isPl (o : Option AO) (j : Nat) (tv : Bool) : Bool := tst (bnd o plO) fun q => Nat.beq q.1 j && (linTo tv q.2.1 && q.2.2.isEmpty)
theorem isRefTo_is {o : Option AV} {i : Nat} (h : isRefTo o i = true) : o = some (.ref i) := by
  unfold isRefTo at h
  split at h
  · rw [Nat.eq_of_beq_eq_true h]
  · cases h
theorem linT_is {l : Lin} (h : linT l = true) : l = tVar := by
  obtain ⟨h1, h⟩ := and_is h
  obtain ⟨h2, h⟩ := and_is h
  obtain ⟨h3, h4⟩ := and_is h
  have h1 := Int.natAbs_eq_zero.mp (Nat.eq_of_beq_eq_true h1)
  have h2 := Int.natAbs_eq_zero.mp (Nat.eq_of_beq_eq_true h2)
  have h4 := Int.natAbs_eq_zero.mp (Nat.eq_of_beq_eq_true h4)
  have h3 : l.t - 1 = 0 := by
    unfold intZ at h3
    split at h3
    · assumption
    · cases h3
  have h3 : l.t = 1 := by omega
  obtain ⟨a, b, c, d⟩ := l
  have h1 : a = 0 := h1
  have h2 : b = 0 := h2
  have h3 : c = 1 := h3
  have h4 : d = 0 := h4
  rw [h1, h2, h3, h4]; rfl
theorem linTo_is {tv : Bool} {l : Option Lin} (h : linTo tv l = true) : l = if tv = true then some tVar else none := by
  cases l with
  | none =>
    cases tv with
    | true => cases h
    | false => rfl
  | some l =>
    obtain ⟨h1, h2⟩ := and_is (show (tv && linT l) = true from h)
    rw [h1, linT_is h2]; rfl
theorem isPl_is {o : Option AO} {j : Nat} {tv : Bool} (h : isPl o j tv = true) : o = some (.plist j (if tv = true then some tVar else none) []) := by
  obtain ⟨⟨k, l, vs⟩, h1, h⟩ := tst_is h
  obtain ⟨a, h2, h3⟩ := bnd_is h1
  obtain ⟨h4, h⟩ := and_is h
  obtain ⟨h5, h6⟩ := and_is h
  have e1 : k = j := Nat.eq_of_beq_eq_true h4
  have e2 : vs = [] := List.isEmpty_iff.mp h6
  rw [h2, plO_is h3, e1, e2, ← linTo_is h5]
noncomputable def ownName (names : List (Str × NameKind)) (x : Str) : Bool := okStr x && (match kf names (sid x) with | some .local => true | _ => false)
noncomputable def gloName (names : List (Str × NameKind)) (x : Str) : Bool := okStr x && (match kf names (sid x) with | some .globalImplicit => true | _ => false)
theorem ownName_is {names : List (Str × NameKind)} {x : Str} (h : ownName names x = true) : okStr x = true ∧ kf names (sid x) = some .local := by
  unfold ownName at h
  have h := Bool.and_eq_true_iff.mp h
  refine ⟨h.1, ?_⟩
  have h := h.2
  split at h
  · rename_i e; exact e
  · cases h
theorem gloName_is {names : List (Str × NameKind)} {x : Str} (h : gloName names x = true) : okStr x = true ∧ kf names (sid x) = some .globalImplicit := by
  unfold gloName at h
  have h := Bool.and_eq_true_iff.mp h
  refine ⟨h.1, ?_⟩
  have h := h.2
  split at h
  · rename_i e; exact e
  · cases h
structure EndNames (K : Frag) (names : List (Str × NameKind)) : Prop where
  n1 : ownName names "interp" = true
  n2 : ownName names "told" = true
  n3 : ownName names "out" = true
  n4 : ownName names "at" = true
  n5 : ownName names "said" = true
  n6 : ownName names "call_in" = true
  n7 : gloName names "len" = true
  n8 : gloName names "range" = true
  n9 : nsIn K mainGlobals "len" = some none
  n10 : nsIn K mainGlobals "range" = some none
noncomputable def isNN (o : Option (Option Value)) : Bool := match o with
  | some none => true
  | _ => false
theorem isNN_is {o : Option (Option Value)} (h : isNN o = true) : o = some none := by
  unfold isNN at h
  split at h
  · rfl
  · cases h
noncomputable def endNames (K : Frag) (names : List (Str × NameKind)) : Bool :=
  (ownName names "interp" && ownName names "told") && ((ownName names "out" && ownName names "at") && ((ownName names "said" && ownName names "call_in") && ((gloName names "len" && gloName names "range") && (isNN (nsIn K mainGlobals "len") && isNN (nsIn K mainGlobals "range")))))
theorem endNames_is {K : Frag} {names : List (Str × NameKind)} (h : endNames K names = true) : EndNames K names := by
  obtain ⟨a, h⟩ := and_is h
  obtain ⟨b, h⟩ := and_is h
  obtain ⟨c, h⟩ := and_is h
  obtain ⟨d, e⟩ := and_is h
  have a := and_is a
  have b := and_is b
  have c := and_is c
  have d := and_is d
  have e := and_is e
  exact ⟨a.1, a.2, b.1, b.2, c.1, c.2, d.1, d.2, isNN_is e.1, isNN_is e.2⟩
noncomputable def endF (pl : Plan) (ii : Nat) : Bool := isRefTo (lk pl.F (sid "interp")) ii && (isRefTo (lk pl.F (sid "told")) pl.y.t && isRefTo (lk pl.F (sid "out")) pl.y.p)
noncomputable def endG (K : Frag) (y : Lay) (H : He) (ii : Nat) : Bool := isRefTo (getA K H (.ref ii) "out") y.o && isRefTo (getA K H (.ref ii) "warnings") y.w
noncomputable def endP (y : Lay) (H : He) : Bool := (isPl H[y.w]? 0 true && isPl H[y.t]? 1 true) && (isPl H[y.o]? 2 false && isPl H[y.p]? 3 false)
noncomputable def endChkB (K : Frag) (cs : Scope) (pl : Plan) (lst ii : Nat) : Bool :=
  (endNames K cs.names && endF pl ii) && ((endG K pl.y (pl.H.set lst .junk) ii && endP pl.y (pl.H.set lst .junk)) && !opqIn 5 pl.H)
theorem endChkB_is {K : Frag} {cs : Scope} {pl : Plan} {lst ii : Nat} (h : endChkB K cs pl lst ii = true) (g0 : pl.H[0]? = some (.cell none)) (l1 : lst ≠ 0) : EndText K cs pl lst ii := by
  obtain ⟨a, b⟩ := and_is h
  obtain ⟨n, f⟩ := and_is a
  obtain ⟨b, nq⟩ := and_is b
  obtain ⟨g, pp⟩ := and_is b
  have nq : opqIn 5 pl.H = false := not_is nq
  obtain ⟨n1, n2, n3, n4, n5, n6, n7, n8, n9, n10⟩ := endNames_is n
  obtain ⟨f1, f⟩ := and_is f
  obtain ⟨f2, f3⟩ := and_is f
  obtain ⟨gO, gW⟩ := and_is g
  obtain ⟨pa, pb⟩ := and_is pp
  obtain ⟨pW, pT⟩ := and_is pa
  obtain ⟨pO, pP⟩ := and_is pb
  have hs : ∀ cv, (pl.H.set 0 (.cell cv)).set lst .junk = (pl.H.set lst .junk).set 0 (.cell cv) := fun cv => List.set_comm _ _ (Ne.symm l1)
  have c0 : (pl.H.set lst .junk)[0]? = some (.cell none) := by rw [List.getElem?_set_ne l1]; exact g0
  have at_ : ∀ {q : Nat} {b : AO} (cv : Option AV), isJunk b = false → (∀ z, b ≠ .cell z) → (pl.H.set lst .junk)[q]? = some b → ((pl.H.set 0 (.cell cv)).set lst .junk)[q]? = some b := fun {q b} cv _ hz e => by
    have : q ≠ 0 := fun z => by subst z; rw [c0] at e; cases e; exact hz _ rfl
    rw [hs, List.getElem?_set_ne (Ne.symm this)]; exact e
  have gg : ∀ {x : Str} {i : Nat} (cv : Option AV), getA K (pl.H.set lst .junk) (.ref ii) x = some (.ref i) → getA K ((pl.H.set 0 (.cell cv)).set lst .junk) (.ref ii) x = some (.ref i) := fun {x i} cv e => by
    rw [hs]; exact getA_cell c0 e
  have pu : ∀ {q : Nat} {b : AO} (cv : Option AV), ((pl.H.set 0 (.cell cv)).set lst .junk)[q]? = some b → (pushH ((pl.H.set 0 (.cell cv)).set lst .junk) (.opq 5))[q]? = some b := fun {q b} cv e => by
    rw [pushH_eq, List.getElem?_append_left (List.getElem?_eq_some_iff.mp e).1]; exact e
  have aW : ∀ cv, _ := fun cv => at_ cv rfl (fun z e => by cases e) (isPl_is pW)
  have aT : ∀ cv, _ := fun cv => at_ cv rfl (fun z e => by cases e) (isPl_is pT)
  exact ⟨(ownName_is n1).1, (ownName_is n2).1, (ownName_is n3).1, (ownName_is n4).1, (ownName_is n5).1, (ownName_is n6).1, (gloName_is n7).1, (gloName_is n8).1,
    (ownName_is n1).2, (ownName_is n2).2, (ownName_is n3).2, (ownName_is n4).2, (ownName_is n5).2, (ownName_is n6).2, (gloName_is n7).2, (gloName_is n8).2, n9, n10, isRefTo_is f1, isRefTo_is f2, isRefTo_is f3,
    fun cv => gg cv (isRefTo_is gO), fun cv => gg cv (isRefTo_is gW), aW, aT, fun cv => at_ cv rfl (fun z e => by cases e) (isPl_is pO), fun cv => at_ cv rfl (fun z e => by cases e) (isPl_is pP),
    fun cv => getA_push (gg cv (isRefTo_is gW)), fun cv => pu cv (aW cv), fun cv => pu cv (aT cv), fun cv q e => by
      by_cases hq : q = lst
      · subst hq
        by_cases hl : q < pl.H.length
        · rw [List.getElem?_set_self (by rw [List.length_set]; exact hl)] at e; cases e
        · rw [List.getElem?_eq_none (by rw [List.length_set, List.length_set]; omega)] at e; cases e
      · rw [List.getElem?_set_ne (Ne.symm hq)] at e
        by_cases h0 : q = 0
        · subst h0
          rw [List.getElem?_set_self (List.getElem?_eq_some_iff.mp g0).1] at e; cases e
        · rw [List.getElem?_set_ne (Ne.symm h0)] at e
          exact noOpq nq q e⟩
end Mine
end Ln_text
section Lo_text
open PySem PySem.W PyProof.Rows PySem.Calls PySem.Spec
set_option Elab.async false
set_option maxRecDepth 100000
set_option maxHeartbeats 4000000
set_option linter.unusedVariables false
namespace Mine
noncomputable def isFunK (cs : Scope) : Bool := match cs.kind with | .function => true | _ => false
noncomputable def isOpqAt (o : Option AO) (j : Nat) : Bool := tst o (isOpq j)
theorem isOpqAt_is {o : Option AO} {j : Nat} (h : isOpqAt o j = true) : o = some (.opq j) := by
  obtain ⟨a, h1, h⟩ := tst_is h
  unfold isOpq at h
  split at h
  · rw [h1, Nat.eq_of_beq_eq_true h]
  · cases h
noncomputable def isCellNone (o : Option AO) : Bool := match o with | some (.cell none) => true | _ => false
theorem isCellNone_is {o : Option AO} (h : isCellNone o = true) : o = some (.cell none) := by
  unfold isCellNone at h
  split at h
  · rfl
  · cases h
noncomputable def isCellName (names : List (Str × NameKind)) (x : Str) : Bool := okStr x && (match kf names (sid x) with | some .cell => true | _ => false)
theorem isCellName_is {names : List (Str × NameKind)} {x : Str} (h : isCellName names x = true) : okStr x = true ∧ kf names (sid x) = some .cell := by
  obtain ⟨h1, h⟩ := and_is h
  refine ⟨h1, ?_⟩
  split at h
  · rename_i z; exact z
  · cases h
theorem isFunK_is {cs : Scope} (h : isFunK cs = true) : cs.kind = .function := by
  unfold isFunK at h
  split at h
  · rename_i z; exact z
  · cases h
noncomputable def headN (cs : Scope) : Bool := (isFunK cs && gloName cs.names "_law_take") && ((ownName cs.names "state" && ownName cs.names "kind") && ((ownName cs.names "figure" && ownName cs.names "count") && (ownName cs.names "script" && isCellName cs.names "go_of")))
noncomputable def headK (pl : Plan) : Bool := isRefTo (lk pl.F (sid "state")) 2 && (!Nat.beq (sid "kind") (sid "state") && !Nat.beq (sid "figure") (sid "state"))
noncomputable def headO (pl : Plan) : Bool := (isOpqAt pl.H[1]? 0 && isOpqAt pl.H[2]? 1) && ((onlyAt 1 2 pl.H && isCellNone pl.H[0]?) && (Nat.blt 3 pl.H.length && !opqIn 2 (pl.H.take (pl.H.length - 1))))
noncomputable def headChk (K : Frag) (cs : Scope) (pl : Plan) (tfd : FuncData) : Bool := takeOk K tfd && (headN cs && (headK pl && headO pl))
structure HeadN (cs : Scope) : Prop where
  k0 : cs.kind = .function
  k2 : okStr "_law_take" = true ∧ kf cs.names (sid "_law_take") = some .globalImplicit
  k3 : okStr "state" = true ∧ kf cs.names (sid "state") = some .local
  k4 : okStr "kind" = true ∧ kf cs.names (sid "kind") = some .local
  k5 : okStr "figure" = true ∧ kf cs.names (sid "figure") = some .local
  k6 : okStr "count" = true ∧ kf cs.names (sid "count") = some .local
  k7 : okStr "script" = true ∧ kf cs.names (sid "script") = some .local
  k8 : okStr "go_of" = true ∧ kf cs.names (sid "go_of") = some .cell
theorem headN_is {cs : Scope} (h : headN cs = true) : HeadN cs := by
  obtain ⟨a, h⟩ := and_is h
  obtain ⟨b, h⟩ := and_is h
  obtain ⟨c, d⟩ := and_is h
  have a := and_is a
  have b := and_is b
  have c := and_is c
  have d := and_is d
  exact ⟨isFunK_is a.1, gloName_is a.2, ownName_is b.1, ownName_is b.2, ownName_is c.1, ownName_is c.2, ownName_is d.1, isCellName_is d.2⟩
structure HeadO (pl : Plan) : Prop where
  h1 : pl.H[1]? = some (.opq 0)
  h2 : pl.H[2]? = some (.opq 1)
  hu : ∀ q : Nat, pl.H[q]? = some (.opq 1) → q = 2
  g0 : pl.H[0]? = some (.cell none)
  len : 3 < pl.H.length
  no : opqIn 2 (pl.H.take (pl.H.length - 1)) = false
theorem headO_is {pl : Plan} (h : headO pl = true) : HeadO pl := by
  obtain ⟨a, h⟩ := and_is h
  obtain ⟨b, c⟩ := and_is h
  have a := and_is a
  have b := and_is b
  have c := and_is c
  exact ⟨isOpqAt_is a.1, isOpqAt_is a.2, onlyAt_is b.1, isCellNone_is b.2, Nat.le_of_ble_eq_true c.1, not_is c.2⟩
noncomputable def turnForm : List Stmt → Bool := pre3 (asgTake "kind" 3) (asgTake "figure" 3) (asgTake "count" 4)
noncomputable def isLawFor : TS := forS (nmE "go_of") headTake turnForm
/-- all but the plan's own run and the ways -/
noncomputable def restChk (K : Frag) (cs : Scope) (pl : Plan) (body : List Stmt) : Bool := tst (hd1 body) fun p => (isState p.1 && four isLawFor isCheck isFinal isRet (p.2.drop 6)) &&
  tst (takeFd K) fun q => tst (lk pl.F (sid "interp")) fun v => tst (asRef v) fun ii => headChk K cs pl q.2 && endChkB K cs pl (pl.H.length - 1) ii
noncomputable def forBody : Stmt → List Stmt
  | .For _ _ tb _ _ => tb
  | _ => []
noncomputable def turnOf (body : List Stmt) : List Stmt := match body.drop 7 with
  | f :: _ => (forBody f).drop 3
  | [] => []
noncomputable def planAt (K : Frag) : Option Plan := bnd (fnNamed K "law") fun fd => planOf K fd.scope ((bodyOf fd).drop 1 |>.take 6)
noncomputable def wayAt (K : Frag) (pl : Plan) (k f c : Int) : Bool := tst (fnNamed K "law") fun fd => wayOk K fd.scope pl (turnOf (bodyOf fd)) k f c
noncomputable def restAt (K : Frag) (pl : Plan) : Bool := tst (fnNamed K "law") fun fd => restChk K fd.scope pl (bodyOf fd)
theorem lawAll_of {K : Frag} {cs : Scope} {body : List Stmt} {pl : Plan} (hf : (fnNamed K "law").map (fun fd => (fd.scope, bodyOf fd)) = some (cs, body)) (hp0 : planAt K = some pl) (hr : restAt K pl = true) (hw : isCall3 (wayAt K pl) = true) :
    cs.kind = .function ∧ ∃ ta tfd lst ii, LawAll K cs body pl ta tfd lst ii := by
  obtain ⟨fd, hn, hp⟩ := bnd_is hp0
  obtain ⟨fd', hn', hr⟩ := tst_is hr
  rw [hn] at hn'
  cases hn'
  have hw' : ∀ k f c, wayAt K pl k f c = wayOk K fd.scope pl (turnOf (bodyOf fd)) k f c := fun _ _ _ => by unfold wayAt; rw [hn]; rfl
  rw [hn] at hf
  have hf1 : fd.scope = cs := congrArg (·.1) (Option.some.inj hf)
  have hf2 : bodyOf fd = body := congrArg (·.2) (Option.some.inj hf)
  rw [hf1, hf2] at hr hp
  rw [hf1, hf2] at hw'
  clear hf hf1 hf2 hn hp0
  obtain ⟨⟨s0, t⟩, h1, hr⟩ := tst_is hr
  have h1 := hd1_is h1
  subst h1
  obtain ⟨ht, hr⟩ := and_is hr
  obtain ⟨e0, ht⟩ := and_is ht
  obtain ⟨q, htk, hr⟩ := tst_is hr
  obtain ⟨ta, tfd⟩ := q
  obtain ⟨v, hI, hr⟩ := tst_is hr
  obtain ⟨ii, hii, hr⟩ := tst_is hr
  obtain ⟨hh, he⟩ := and_is hr
  obtain ⟨k1, hh⟩ := and_is hh
  obtain ⟨N, hh⟩ := and_is hh
  obtain ⟨hk, ho⟩ := and_is hh
  have N := headN_is N
  have O := headO_is ho
  obtain ⟨k9, hk⟩ := and_is hk
  obtain ⟨k10, k11⟩ := and_is hk
  obtain ⟨f, chk, fin, ret, hd, e9, e2, e3, e4⟩ := four_is ht
  have hd : t.drop 6 = [f, chk, fin, ret] := hd
  obtain ⟨x, iter, turn, fp, rfl, n1, e1, htn⟩ := forS_is e9
  obtain ⟨xp, rfl⟩ := nmE_is n1
  have len := O.len
  obtain ⟨t1, t2, t3, rest, rfl, a1, a2, a3⟩ := pre3_is htn
  have ws : isCall3 (wayOk K cs pl rest) = true := by
    have : wayAt K pl = wayOk K cs pl rest := funext fun k => funext fun f => funext fun c => by
      rw [hw']
      have : turnOf (s0 :: t) = rest := by
        unfold turnOf
        rw [show (s0 :: t).drop 7 = t.drop 6 from rfl, hd]
        rfl
      rw [this]
    rw [← this]; exact hw
  refine ⟨N.k0, ta, tfd, pl.H.length - 1, ii, ⟨s0, t.take 6, xp, iter, t1 :: t2 :: t3 :: rest, fp, chk, fin, ret, ?_, e0, e1, e2, e3, e4, hp, ?_⟩, endChkB_is he O.g0 (by omega), N.k3.1, N.k7.1, N.k7.2, N.k8.1, N.k8.2, by omega, by omega, fun q hq e => ?_, O.g0, by omega⟩
  · rw [← hd, List.take_append_drop]
  · exact ⟨N.k0, htk, k1, N.k2.1, N.k2.2, N.k3.2, N.k4.1, N.k5.1, N.k6.1, N.k4.2, N.k5.2, N.k6.2, isRefTo_is k9, not_is k10, not_is k11, O.h1, O.h2, O.hu, t1, t2, t3, rest, rfl, a1, a2, a3, ws⟩
  · exact noOpq O.no q (by rw [List.getElem?_take_of_lt hq]; exact e)
end Mine
end Lo_text
section Lp_text
open PySem PySem.W PyProof.Rows PySem.Calls PySem.Spec
set_option Elab.async false
set_option maxRecDepth 100000
set_option maxHeartbeats 4000000
set_option linter.unusedVariables false
namespace Mine
theorem lt_of_K {K : Frag} {h : Heap} {a : Addr} (X : K.In h) (e : (K.lookup a).isSome = true) : a < h.objs.size := by
  obtain ⟨o, ho⟩ := Option.isSome_iff_exists.mp e
  exact Heap.lt_size (X _ _ ho)
theorem intsAre_mem : ∀ {vs : List Value} {ns : List Int}, IntsAre vs ns → ∀ v ∈ vs, ∃ i t, v = .int i t
  | _, _, .nil, v, hv => (nomatch hv)
  | _, _, .cons k t r, v, hv => by
    rcases List.mem_cons.mp hv with rfl | hv
    · exact ⟨_, _, rfl⟩
    · exact intsAre_mem r v hv
theorem intsAre_len : ∀ {vs : List Value} {ns : List Int}, IntsAre vs ns → vs.length = ns.length
  | _, _, .nil => rfl
  | _, _, .cons k t r => by simp [intsAre_len r]
theorem law_fin {prog : Program} {w : World} {K : Frag} {p : Program} {loose : List Str} {mean : ExcName → Option Value} {mg mb : Str → Option Value} {h₀ : Heap} {L : Addr} {E : Value → Shared → Prop} {s : Shared} {m : Str → Option Value} {env : Env}
    {body : List Stmt} {a : Addr} {vs : List Value} {ns : List Int} {c T : Addr} {oc ot : Obj} {Q : Flow → Shared → Prop} {pl : Plan} (hf : (fnNamed K "law").map (fun fd => (fd.scope, bodyOf fd)) = some (env.scope, body)) (hp0 : planAt K = some pl) (hr : restAt K pl = true) (hw : isCall3 (wayAt K pl) = true)
    (kin : K.In h₀) (top : Top p loose mean mg mb h₀) (B : Below callerA h₀ [] h₀) (hfr : env.frame = some L)
    (hgl : env.globals = mainGlobals) (hbu : env.builtins = builtinsNs) (hlo : env.locals = L) (hce : env.cells.lookup ("go_of" : Str) = some c) (Fr0 : Fr h₀ L s.heap m) (N0 : News h₀ L s.heap [(c, oc), (T, ot)]) (hc : oc.data = .cell none) (hne : c ≠ T) (hT0 : sysModules ≤ T) (hc0 : c ≠ sysModules) (hT1 : T ≠ sysModules)
    (hm : m "script" = some (.ref a)) (hl : h₀.IsList a vs.toArray) (hi : IntsAre vs ns) (hlen : ¬ (63 : Int) < ns.length)
    (h : ∀ h' tk m', Fr h₀ L h' m' → h'.get? T = some ot → Q (.ret (.bool true)) { s with heap := h', toks := tk }) : wpAny (model prog w) (callerA.deeper env) (execs body env) Q E s := by
  obtain ⟨hk, ta, tfd, lst, ii, X⟩ := lawAll_of hf hp0 hr hw
  have C : Cx K p loose mean mg mb (callerA.deeper env) h₀ L 0 := ⟨⟨callerA, h₀, env, [], B, rfl, hfr, hk⟩, kin, top, rfl, show 302 ≤ 0 + 310 by decide,⟩
  exact s_law X (show 7 < 8000 by decide) C rfl hk hgl hbu hlo hce Fr0 N0 hc hne hT0 hc0 hT1 hm hl (intsAre_mem hi) (by rw [intsAre_len hi]; omega) h
/-- four ways at a time -/
noncomputable def waysAt (K : Frag) (pl : Plan) (k f : Int) : Bool := [(0 : Int), 1, 2, 3].all fun c => wayAt K pl k f c
theorem isCall3_of {K : Frag} {pl : Plan} (h00 : waysAt K pl 0 0 = true) (h01 : waysAt K pl 0 1 = true) (h02 : waysAt K pl 0 2 = true) (h10 : waysAt K pl 1 0 = true) (h11 : waysAt K pl 1 1 = true) (h12 : waysAt K pl 1 2 = true)
    (h20 : waysAt K pl 2 0 = true) (h21 : waysAt K pl 2 1 = true) (h22 : waysAt K pl 2 2 = true) : isCall3 (wayAt K pl) = true := by
  show ([(0 : Int), 1, 2].all fun a => [(0 : Int), 1, 2].all fun b => waysAt K pl a b) = true
  simp only [List.all_cons, List.all_nil, h00, h01, h02, h10, h11, h12, h20, h21, h22, Bool.and_true]
/-! the part of the written heap that the run reads -/
noncomputable def mrg (K : Frag) (as : List Nat) : Frag := @List.rec (Addr × Obj) (fun _ => List Nat → Frag) (fun _ => []) (fun p _ ih as => @List.rec Nat (fun _ => Frag) [] (fun a t _ => @Bool.rec (fun _ => Frag) (ih (a :: t)) (p :: ih t) (Nat.beq a p.1)) as) K as
noncomputable def rising (K : Frag) (n : Nat) : Bool := @List.rec (Addr × Obj) (fun _ => Nat → Bool) (fun _ => true) (fun p _ ih n => @Bool.rec (fun _ => Bool) false (ih (Nat.succ p.1)) (Nat.ble n p.1)) K n
theorem mrg_mem {p : Addr × Obj} : ∀ {K : Frag} {as : List Nat}, p ∈ mrg K as → p ∈ K
  | [], as, h => (nomatch (show p ∈ ([] : Frag) from h))
  | q :: K, [], h => (nomatch (show p ∈ ([] : Frag) from h))
  | q :: K, a :: t, h => by
    have h : p ∈ @Bool.rec (fun _ => Frag) (mrg K (a :: t)) (q :: mrg K t) (Nat.beq a q.1) := h
    cases e : Nat.beq a q.1 with
    | false => rw [e] at h; exact List.mem_cons_of_mem _ (mrg_mem (as := a :: t) h)
    | true =>
      rw [e] at h
      rcases List.mem_cons.mp h with rfl | h
      · exact List.mem_cons_self
      · exact List.mem_cons_of_mem _ (mrg_mem h)
theorem rising_cons {q : Addr × Obj} {K : Frag} {n : Nat} (h : rising (q :: K) n = true) : n ≤ q.1 ∧ rising K (q.1 + 1) = true := by
  have h : @Bool.rec (fun _ => Bool) false (rising K (Nat.succ q.1)) (Nat.ble n q.1) = true := h
  cases e : Nat.ble n q.1 with
  | false => rw [e] at h; cases h
  | true => rw [e] at h; exact ⟨Nat.le_of_ble_eq_true e, h⟩
theorem rising_le {p : Addr × Obj} : ∀ {K : Frag} {n : Nat}, rising K n = true → p ∈ K → n ≤ p.1
  | [], _, _, hp => (nomatch hp)
  | q :: K, n, h, hp => by
    obtain ⟨h1, h2⟩ := rising_cons h
    rcases List.mem_cons.mp hp with rfl | hp
    · exact h1
    · have := rising_le h2 hp; omega
theorem rising_lookup {p : Addr × Obj} : ∀ {K : Frag} {n : Nat}, rising K n = true → p ∈ K → K.lookup p.1 = some p.2
  | [], _, _, hp => (nomatch hp)
  | q :: K, n, h, hp => by
    obtain ⟨h1, h2⟩ := rising_cons h
    rw [show q = (q.1, q.2) from rfl, List.lookup_cons]
    rcases List.mem_cons.mp hp with rfl | hp
    · rw [beq_self_eq_true]
    · have := rising_le h2 hp
      rw [beq_eq_false_iff_ne.mpr (show ¬ p.1 = q.1 from fun e => Nat.lt_irrefl q.1 (Nat.lt_of_lt_of_le (Nat.lt_succ_self _) (e ▸ this)))]
      exact rising_lookup h2 hp
theorem lookup_mem' {a : Addr} {o : Obj} : ∀ {K : Frag}, K.lookup a = some o → (a, o) ∈ K
  | [], h => (nomatch h)
  | q :: K, h => by
    rw [show q = (q.1, q.2) from rfl, List.lookup_cons] at h
    cases e : a == q.1 with
    | true =>
      rw [e] at h
      have e1 := eq_of_beq e
      have e2 : q.2 = o := Option.some.inj h
      rw [e1, ← e2]
      exact List.mem_cons_self
    | false =>
      rw [e] at h
      exact List.mem_cons_of_mem _ (lookup_mem' h)
theorem mrg_in {K : Frag} {as : List Nat} {h : Heap} (X : K.In h) (hr : rising K 0 = true) : (mrg K as).In h := fun a o e => by
  have hm : (a, o) ∈ mrg K as := lookup_mem' e
  exact X a o (rising_lookup hr (mrg_mem hm))
noncomputable def needs : List Nat := [3, 142, 143, 145, 146, 179, 185, 186, 195, 196, 213, 214, 216, 217, 229, 235, 236, 238, 239, 256, 257, 259, 260, 272, 278, 279, 281, 282, 334, 335, 348, 349, 355, 356, 362, 363, 369, 370, 376, 377, 383, 384, 390, 391, 397, 398, 596, 602, 603, 609, 610, 611, 617, 618, 624, 625, 633, 639, 640, 653, 654, 676, 682, 683, 689, 690, 703, 704, 719, 725, 726, 739, 740, 746, 747, 790, 791, 793, 794, 804, 805, 811, 812, 818, 819, 825, 826, 832, 833, 839, 840, 846, 847, 853, 854, 860, 861, 867, 868, 874, 875, 881, 882, 888, 889, 894]
/-- a test of the run, in the form in which the kernel alone checks it -/
theorem true_of {b : Bool} (h : (bif b then ((#[()] : Array Unit).size : Int) else 0) = 1) : b = true := by
  cases b with
  | true => rfl
  | false => exact absurd h (by decide)
end Mine
end Lp_text
section ThePlan_text
open PySem PySem.W
set_option maxRecDepth 100000
namespace Mine
/-! (the table's new order) -/
noncomputable def thePlan : Plan := ⟨⟨15, 22, 14, 23, 3⟩,
  [(8, .ref 2), (58, .ref 4), (51, .str 132), (117, .ref 22), (158, .ref 23)],
  [.cell none,
   .opq 0,
   .opq 1,
   .dict [(36, .int ⟨0, 0, 0, 500⟩), (111, .int ⟨0, 0, 0, 40⟩), (4, .int ⟨0, 1, 0, 0⟩), (79, .int ⟨0, 0, 0, 2⟩), (144, .ref 6), (122, .ref 10), (53, .ref 13), (158, .ref 14), (135, .ref 15), (146, .ref 16), (98, .ref 17), (118, .int ⟨0, 0, 0, 0⟩), (127, .any), (24, .none), (84, .none), (11, .none), (136, .none), (85, .none), (12, .none)],
   .inst 794 3,
   .dict [(156, .str 108), (78, .int ⟨0, 0, 0, 0⟩), (90, .none), (66, .none), (46, .ref 7), (38, .bool false), (39, .ref 8)],
   .inst 282 5,
   .dict [(3, .ref 19), (75, .ref 21)],
   .dict [],
   .dict [(156, .str 108), (78, .int ⟨0, 0, 0, 1⟩), (90, .ref 6), (66, .none), (46, .ref 11), (38, .bool false), (39, .ref 12)],
   .inst 282 9,
   .dict [],
   .dict [],
   .list [],
   .plist 2 none [],
   .plist 0 (some ⟨0, 0, 1, 0⟩) [],
   .list [],
   .list [],
   .dict [(156, .str 2), (74, .str 3), (2, .bool true), (47, .kref 875), (121, .str 160), (66, .none)],
   .inst 260 18,
   .dict [(156, .str 142), (74, .str 75), (2, .bool false), (47, .kref 889), (121, .str 160), (66, .none)],
   .inst 260 20,
   .plist 1 (some ⟨0, 0, 1, 0⟩) [],
   .plist 3 none [],
   .opq 2]⟩
end Mine
end ThePlan_text
/-! The kit writes, for each object that the head makes, a second form and a proof that both are one: `tw..` and `te..` under the theorem's own name. A name that stands already makes it do
without that form; the head goes through all the same, and the compiled file stays small. -/
namespace Mine.all
noncomputable def tw10011055193491271300 : Unit := ()
noncomputable def tw10017678596475843418 : Unit := ()
noncomputable def tw10034031380863371641 : Unit := ()
noncomputable def tw10042690540180379618 : Unit := ()
noncomputable def tw10045075416114340931 : Unit := ()
noncomputable def tw10049700130234932854 : Unit := ()
noncomputable def tw100579137028481972 : Unit := ()
noncomputable def tw10073190252686323273 : Unit := ()
noncomputable def tw10081088541268293599 : Unit := ()
noncomputable def tw10127320685908719325 : Unit := ()
noncomputable def tw10130366669087276332 : Unit := ()
noncomputable def tw10131221437080536637 : Unit := ()
noncomputable def tw10156424416328317940 : Unit := ()
noncomputable def tw10168888151487559394 : Unit := ()
noncomputable def tw10175558820241607032 : Unit := ()
noncomputable def tw10179507289948941442 : Unit := ()
noncomputable def tw10215604902903598199 : Unit := ()
noncomputable def tw10220718595764522284 : Unit := ()
noncomputable def tw10227051316576381974 : Unit := ()
noncomputable def tw10252965763247687682 : Unit := ()
noncomputable def tw10268101183197098196 : Unit := ()
noncomputable def tw10270419983477892464 : Unit := ()
noncomputable def tw10277023259857791717 : Unit := ()
noncomputable def tw10277526245819850656 : Unit := ()
noncomputable def tw10289937546816008636 : Unit := ()
noncomputable def tw10312239555926195531 : Unit := ()
noncomputable def tw10316705163991428254 : Unit := ()
noncomputable def tw10323370424266482742 : Unit := ()
noncomputable def tw10330674434275519261 : Unit := ()
noncomputable def tw10331167273965929257 : Unit := ()
noncomputable def tw10334382548555331771 : Unit := ()
noncomputable def tw10343516019890357620 : Unit := ()
noncomputable def tw10379555496612227986 : Unit := ()
noncomputable def tw10389294372677164839 : Unit := ()
noncomputable def tw10393596885623623503 : Unit := ()
noncomputable def tw10427701671452009419 : Unit := ()
noncomputable def tw10504968845729546662 : Unit := ()
noncomputable def tw10576110018494610262 : Unit := ()
noncomputable def tw10640303290150162726 : Unit := ()
noncomputable def tw10640348836240559591 : Unit := ()
noncomputable def tw10649901628825759099 : Unit := ()
noncomputable def tw10658958392246782621 : Unit := ()
noncomputable def tw10681620039792923934 : Unit := ()
noncomputable def tw10696458614491829572 : Unit := ()
noncomputable def tw10697019674602590866 : Unit := ()
noncomputable def tw10705108097460422218 : Unit := ()
noncomputable def tw10732082874576297989 : Unit := ()
noncomputable def tw10739910033669202754 : Unit := ()
noncomputable def tw1074977417605700491 : Unit := ()
noncomputable def tw10773934983489079739 : Unit := ()
noncomputable def tw10787622589932112302 : Unit := ()
noncomputable def tw10793401674749092046 : Unit := ()
noncomputable def tw1079708855280229330 : Unit := ()
noncomputable def tw10807058235482574751 : Unit := ()
noncomputable def tw10812268709331831074 : Unit := ()
noncomputable def tw1081408078033650336 : Unit := ()
noncomputable def tw10825269862236069917 : Unit := ()
noncomputable def tw10856765595117590405 : Unit := ()
noncomputable def tw1088589479996732829 : Unit := ()
noncomputable def tw10912467617979834864 : Unit := ()
noncomputable def tw10915074446201010522 : Unit := ()
noncomputable def tw10921597071642053482 : Unit := ()
noncomputable def tw10942295900298899174 : Unit := ()
noncomputable def tw1095355495446544911 : Unit := ()
noncomputable def tw1095929389519559783 : Unit := ()
noncomputable def tw10971250334911043752 : Unit := ()
noncomputable def tw1098638841472960350 : Unit := ()
noncomputable def tw11013067947808108990 : Unit := ()
noncomputable def tw11029868008866206867 : Unit := ()
noncomputable def tw11033290881951375731 : Unit := ()
noncomputable def tw11038128598146805730 : Unit := ()
noncomputable def tw1104004067176372792 : Unit := ()
noncomputable def tw11045270430615452010 : Unit := ()
noncomputable def tw11051373392699811023 : Unit := ()
noncomputable def tw11051709101105081487 : Unit := ()
noncomputable def tw11084693905056812178 : Unit := ()
noncomputable def tw11091474679367250208 : Unit := ()
noncomputable def tw11093295523969242068 : Unit := ()
noncomputable def tw11102767992079720913 : Unit := ()
noncomputable def tw11112267310362752236 : Unit := ()
noncomputable def tw11113120797386210373 : Unit := ()
noncomputable def tw11116879363250112325 : Unit := ()
noncomputable def tw11120492362615346026 : Unit := ()
noncomputable def tw11139934685464864865 : Unit := ()
noncomputable def tw11158953913317867288 : Unit := ()
noncomputable def tw11169558830825096451 : Unit := ()
noncomputable def tw11221641727941109892 : Unit := ()
noncomputable def tw11242623580682996947 : Unit := ()
noncomputable def tw1126307000538870075 : Unit := ()
noncomputable def tw11273133048781285286 : Unit := ()
noncomputable def tw11276062564640038955 : Unit := ()
noncomputable def tw11290809623879135239 : Unit := ()
noncomputable def tw11298796024306172991 : Unit := ()
noncomputable def tw11322697920292055282 : Unit := ()
noncomputable def tw11330118131623060689 : Unit := ()
noncomputable def tw11333907896045031016 : Unit := ()
noncomputable def tw11338558125871782157 : Unit := ()
noncomputable def tw11375281295658956675 : Unit := ()
noncomputable def tw11378520881680533043 : Unit := ()
noncomputable def tw1142058581544160548 : Unit := ()
noncomputable def tw11433317345382964763 : Unit := ()
noncomputable def tw11441816438227186863 : Unit := ()
noncomputable def tw11446199593928302625 : Unit := ()
noncomputable def tw11449233824965966284 : Unit := ()
noncomputable def tw11483514542923596125 : Unit := ()
noncomputable def tw11488495728068971930 : Unit := ()
noncomputable def tw11489409643829403841 : Unit := ()
noncomputable def tw1149733072300507863 : Unit := ()
noncomputable def tw11533779600810293282 : Unit := ()
noncomputable def tw11549785766782931663 : Unit := ()
noncomputable def tw11554346470539331173 : Unit := ()
noncomputable def tw11563076530477234726 : Unit := ()
noncomputable def tw11639333894188339638 : Unit := ()
noncomputable def tw11658462952560688381 : Unit := ()
noncomputable def tw11682010486851493762 : Unit := ()
noncomputable def tw11686026206685797588 : Unit := ()
noncomputable def tw11719151900338479318 : Unit := ()
noncomputable def tw1172340538976468734 : Unit := ()
noncomputable def tw11738243901336025406 : Unit := ()
noncomputable def tw11757652711159077200 : Unit := ()
noncomputable def tw11759228797649091452 : Unit := ()
noncomputable def tw11776277695535270532 : Unit := ()
noncomputable def tw11777086365064915542 : Unit := ()
noncomputable def tw11784725038316003381 : Unit := ()
noncomputable def tw11790413056962406381 : Unit := ()
noncomputable def tw11798761498685784450 : Unit := ()
noncomputable def tw11877403491279123046 : Unit := ()
noncomputable def tw11884583355970431823 : Unit := ()
noncomputable def tw11888049472147760879 : Unit := ()
noncomputable def tw11904431243951574334 : Unit := ()
noncomputable def tw11928815663860865973 : Unit := ()
noncomputable def tw11931136993785318394 : Unit := ()
noncomputable def tw11951307492845570281 : Unit := ()
noncomputable def tw11961059351148515626 : Unit := ()
noncomputable def tw11990357761064164650 : Unit := ()
noncomputable def tw12028550053918628185 : Unit := ()
noncomputable def tw12071712058454129317 : Unit := ()
noncomputable def tw12093699491013135689 : Unit := ()
noncomputable def tw12109177834331835950 : Unit := ()
noncomputable def tw12139170077877725708 : Unit := ()
noncomputable def tw12139988101201813748 : Unit := ()
noncomputable def tw1216898108829112853 : Unit := ()
noncomputable def tw12180536567876656950 : Unit := ()
noncomputable def tw12221947951091446842 : Unit := ()
noncomputable def tw12242728926301761999 : Unit := ()
noncomputable def tw12248520049373816357 : Unit := ()
noncomputable def tw12249842068641981632 : Unit := ()
noncomputable def tw12267322187703008927 : Unit := ()
noncomputable def tw12267468486907949403 : Unit := ()
noncomputable def tw12304872625307995750 : Unit := ()
noncomputable def tw12317132656592258788 : Unit := ()
noncomputable def tw12320724196928087214 : Unit := ()
noncomputable def tw12364857061501726476 : Unit := ()
noncomputable def tw12381699962588209086 : Unit := ()
noncomputable def tw1238725946784135233 : Unit := ()
noncomputable def tw12405882331826627501 : Unit := ()
noncomputable def tw12412031795608718596 : Unit := ()
noncomputable def tw12428716410969305734 : Unit := ()
noncomputable def tw12429134901205526213 : Unit := ()
noncomputable def tw12447178028490564450 : Unit := ()
noncomputable def tw12451815053677690644 : Unit := ()
noncomputable def tw12465073302378950786 : Unit := ()
noncomputable def tw12512054102949984058 : Unit := ()
noncomputable def tw125183967897747985 : Unit := ()
noncomputable def tw12563031120210811263 : Unit := ()
noncomputable def tw12563039088042482649 : Unit := ()
noncomputable def tw1257692432398776216 : Unit := ()
noncomputable def tw12580110897883145167 : Unit := ()
noncomputable def tw12588910511511068231 : Unit := ()
noncomputable def tw12588980310967471357 : Unit := ()
noncomputable def tw12622491811137199776 : Unit := ()
noncomputable def tw12638004864335716521 : Unit := ()
noncomputable def tw12674233846100721760 : Unit := ()
noncomputable def tw12724949091593755947 : Unit := ()
noncomputable def tw12749833136222056006 : Unit := ()
noncomputable def tw12784588452913835247 : Unit := ()
noncomputable def tw12803817524326497440 : Unit := ()
noncomputable def tw12810256067151697097 : Unit := ()
noncomputable def tw12844303918539010487 : Unit := ()
noncomputable def tw12847938454781286588 : Unit := ()
noncomputable def tw12875698411003948031 : Unit := ()
noncomputable def tw12885334096101347146 : Unit := ()
noncomputable def tw12899656968702213925 : Unit := ()
noncomputable def tw1291087626157917732 : Unit := ()
noncomputable def tw12926333453430215753 : Unit := ()
noncomputable def tw12926644002878227130 : Unit := ()
noncomputable def tw1298631472846954095 : Unit := ()
noncomputable def tw12994552909553032409 : Unit := ()
noncomputable def tw13027540482245733427 : Unit := ()
noncomputable def tw13042374122123996364 : Unit := ()
noncomputable def tw13044473836512136288 : Unit := ()
noncomputable def tw13057232943065969744 : Unit := ()
noncomputable def tw13071023791616644796 : Unit := ()
noncomputable def tw13098716769926991806 : Unit := ()
noncomputable def tw13100642850353945058 : Unit := ()
noncomputable def tw13109034201388524979 : Unit := ()
noncomputable def tw13113687655016186724 : Unit := ()
noncomputable def tw13131873550985489304 : Unit := ()
noncomputable def tw13132907815185506690 : Unit := ()
noncomputable def tw13135058765949404771 : Unit := ()
noncomputable def tw13138308880297050008 : Unit := ()
noncomputable def tw13172091369480311280 : Unit := ()
noncomputable def tw13185015893256467352 : Unit := ()
noncomputable def tw13186973799741327244 : Unit := ()
noncomputable def tw13196349276625024522 : Unit := ()
noncomputable def tw13220695134330190930 : Unit := ()
noncomputable def tw13226574990515446508 : Unit := ()
noncomputable def tw13233751423148406618 : Unit := ()
noncomputable def tw1323426155142419162 : Unit := ()
noncomputable def tw13270532327374429287 : Unit := ()
noncomputable def tw1327343985113690801 : Unit := ()
noncomputable def tw13280447903547772812 : Unit := ()
noncomputable def tw13282074430368766303 : Unit := ()
noncomputable def tw13283931332471535325 : Unit := ()
noncomputable def tw13338274903956020161 : Unit := ()
noncomputable def tw13358604424828501309 : Unit := ()
noncomputable def tw13370487131934946175 : Unit := ()
noncomputable def tw13400914052796857261 : Unit := ()
noncomputable def tw1342379931026441069 : Unit := ()
noncomputable def tw13429984922391205789 : Unit := ()
noncomputable def tw13431290835526063760 : Unit := ()
noncomputable def tw13455461431897201640 : Unit := ()
noncomputable def tw13467292715098799918 : Unit := ()
noncomputable def tw13492395982464255480 : Unit := ()
noncomputable def tw13492775673106092688 : Unit := ()
noncomputable def tw13505173894226300209 : Unit := ()
noncomputable def tw1350781854575830958 : Unit := ()
noncomputable def tw13508003155388970551 : Unit := ()
noncomputable def tw13537625653133889323 : Unit := ()
noncomputable def tw13556967374752276637 : Unit := ()
noncomputable def tw1356099576862622092 : Unit := ()
noncomputable def tw13586417535379780766 : Unit := ()
noncomputable def tw13594655482070763311 : Unit := ()
noncomputable def tw13596499734656872166 : Unit := ()
noncomputable def tw13607757164722159089 : Unit := ()
noncomputable def tw13608339801890971764 : Unit := ()
noncomputable def tw13652370015207561478 : Unit := ()
noncomputable def tw13657395267715391174 : Unit := ()
noncomputable def tw13663018214320142090 : Unit := ()
noncomputable def tw13717024376598296668 : Unit := ()
noncomputable def tw13747421548809749640 : Unit := ()
noncomputable def tw13752750167953387420 : Unit := ()
noncomputable def tw13799514808605650796 : Unit := ()
noncomputable def tw13830746773910301732 : Unit := ()
noncomputable def tw13874455239767017017 : Unit := ()
noncomputable def tw13887551421349579326 : Unit := ()
noncomputable def tw13897503799994109090 : Unit := ()
noncomputable def tw13900070722340429276 : Unit := ()
noncomputable def tw13912068318134460016 : Unit := ()
noncomputable def tw13960862262899742394 : Unit := ()
noncomputable def tw14003663102062188800 : Unit := ()
noncomputable def tw14044709251442629906 : Unit := ()
noncomputable def tw14057782590025463129 : Unit := ()
noncomputable def tw14066901625076523032 : Unit := ()
noncomputable def tw14068239771850734003 : Unit := ()
noncomputable def tw14074921412963316263 : Unit := ()
noncomputable def tw14076077854437140390 : Unit := ()
noncomputable def tw14081932915414352519 : Unit := ()
noncomputable def tw14099800850047386279 : Unit := ()
noncomputable def tw14106571916235994328 : Unit := ()
noncomputable def tw14124840197023413450 : Unit := ()
noncomputable def tw14126516920343173744 : Unit := ()
noncomputable def tw14130914514491923361 : Unit := ()
noncomputable def tw14199643231683853240 : Unit := ()
noncomputable def tw14200518018382609147 : Unit := ()
noncomputable def tw14201790961670687459 : Unit := ()
noncomputable def tw14209155647100055501 : Unit := ()
noncomputable def tw14211586455995466092 : Unit := ()
noncomputable def tw14229981574245695772 : Unit := ()
noncomputable def tw14242173848286271349 : Unit := ()
noncomputable def tw14279031849638215902 : Unit := ()
noncomputable def tw14288127532215574351 : Unit := ()
noncomputable def tw14310873030558110092 : Unit := ()
noncomputable def tw14331890051309236264 : Unit := ()
noncomputable def tw14363635269092464839 : Unit := ()
noncomputable def tw14368738876465072522 : Unit := ()
noncomputable def tw14369711331093494773 : Unit := ()
noncomputable def tw14371094501201703783 : Unit := ()
noncomputable def tw1441969693819510846 : Unit := ()
noncomputable def tw14420213329864412023 : Unit := ()
noncomputable def tw14421808642430287336 : Unit := ()
noncomputable def tw14444207656584330654 : Unit := ()
noncomputable def tw14478419276589960357 : Unit := ()
noncomputable def tw14483376603434069256 : Unit := ()
noncomputable def tw14497616064866002163 : Unit := ()
noncomputable def tw14504465163362997928 : Unit := ()
noncomputable def tw14511287757244466272 : Unit := ()
noncomputable def tw14539000326390715668 : Unit := ()
noncomputable def tw14549113301119539810 : Unit := ()
noncomputable def tw14615947125993099273 : Unit := ()
noncomputable def tw14647661154017913664 : Unit := ()
noncomputable def tw14648097213134440425 : Unit := ()
noncomputable def tw14648276583578725374 : Unit := ()
noncomputable def tw14661163797125724070 : Unit := ()
noncomputable def tw14721843458392949018 : Unit := ()
noncomputable def tw14762377901068444666 : Unit := ()
noncomputable def tw14771985120617686802 : Unit := ()
noncomputable def tw14822214895437561417 : Unit := ()
noncomputable def tw14832271272948145296 : Unit := ()
noncomputable def tw14832659646925512398 : Unit := ()
noncomputable def tw14832718209330476552 : Unit := ()
noncomputable def tw14847532645272441617 : Unit := ()
noncomputable def tw14848961488311411958 : Unit := ()
noncomputable def tw14883968960377749705 : Unit := ()
noncomputable def tw14899674885815798178 : Unit := ()
noncomputable def tw14904704724044331575 : Unit := ()
noncomputable def tw14929683446248860828 : Unit := ()
noncomputable def tw14932615516516682873 : Unit := ()
noncomputable def tw14955511245280216411 : Unit := ()
noncomputable def tw14970210157437980911 : Unit := ()
noncomputable def tw14984247238865676675 : Unit := ()
noncomputable def tw14989955638788694861 : Unit := ()
noncomputable def tw15021512155152510720 : Unit := ()
noncomputable def tw15059917014629022394 : Unit := ()
noncomputable def tw15076152544538823220 : Unit := ()
noncomputable def tw15081044799308232511 : Unit := ()
noncomputable def tw15097909243742831393 : Unit := ()
noncomputable def tw15105651507014581045 : Unit := ()
noncomputable def tw15145278206449419223 : Unit := ()
noncomputable def tw1515648671985560317 : Unit := ()
noncomputable def tw15158558636265767147 : Unit := ()
noncomputable def tw15198316981687975854 : Unit := ()
noncomputable def tw15284455985751111415 : Unit := ()
noncomputable def tw15300001336698509272 : Unit := ()
noncomputable def tw15305453227285626446 : Unit := ()
noncomputable def tw15331906349341453337 : Unit := ()
noncomputable def tw15349560271838185979 : Unit := ()
noncomputable def tw15354443143932468990 : Unit := ()
noncomputable def tw15359849362664289188 : Unit := ()
noncomputable def tw15389465554420088467 : Unit := ()
noncomputable def tw15417909909646571957 : Unit := ()
noncomputable def tw15437854835666668586 : Unit := ()
noncomputable def tw15451204947285891726 : Unit := ()
noncomputable def tw15460995928004159328 : Unit := ()
noncomputable def tw15471726915170369524 : Unit := ()
noncomputable def tw1548488679004171357 : Unit := ()
noncomputable def tw1550712947053634219 : Unit := ()
noncomputable def tw15519761934197397234 : Unit := ()
noncomputable def tw15526263569004567679 : Unit := ()
noncomputable def tw15541118713287057729 : Unit := ()
noncomputable def tw15561189838384405822 : Unit := ()
noncomputable def tw15568806467266420770 : Unit := ()
noncomputable def tw15575253945988166476 : Unit := ()
noncomputable def tw15585509438621463966 : Unit := ()
noncomputable def tw15612066896164977022 : Unit := ()
noncomputable def tw15651733941924773997 : Unit := ()
noncomputable def tw15658559082620302479 : Unit := ()
noncomputable def tw15670805634923389295 : Unit := ()
noncomputable def tw15714474698464851408 : Unit := ()
noncomputable def tw15775133740396041162 : Unit := ()
noncomputable def tw15778654729900951400 : Unit := ()
noncomputable def tw15785283845542414419 : Unit := ()
noncomputable def tw15832853479444819159 : Unit := ()
noncomputable def tw1585303152785439333 : Unit := ()
noncomputable def tw1586037315452845605 : Unit := ()
noncomputable def tw15866815640656860141 : Unit := ()
noncomputable def tw15875746330617476859 : Unit := ()
noncomputable def tw15888951733556516598 : Unit := ()
noncomputable def tw15902913901339227234 : Unit := ()
noncomputable def tw15906484144062456574 : Unit := ()
noncomputable def tw15963856630797493377 : Unit := ()
noncomputable def tw15968848678202421516 : Unit := ()
noncomputable def tw15977508845680753073 : Unit := ()
noncomputable def tw15991472142188878074 : Unit := ()
noncomputable def tw1604050991321148793 : Unit := ()
noncomputable def tw16042742768279583112 : Unit := ()
noncomputable def tw16053908350159596564 : Unit := ()
noncomputable def tw16057471521750792484 : Unit := ()
noncomputable def tw16084742875079473383 : Unit := ()
noncomputable def tw16088354708999966866 : Unit := ()
noncomputable def tw16097505516487973002 : Unit := ()
noncomputable def tw16149317719023688252 : Unit := ()
noncomputable def tw16169115639287123334 : Unit := ()
noncomputable def tw16171933092410999983 : Unit := ()
noncomputable def tw16176830815697697194 : Unit := ()
noncomputable def tw16183010546200382306 : Unit := ()
noncomputable def tw16188822405700688499 : Unit := ()
noncomputable def tw16215753837559589999 : Unit := ()
noncomputable def tw16223638597430114740 : Unit := ()
noncomputable def tw16232008947845578158 : Unit := ()
noncomputable def tw16288533217561068507 : Unit := ()
noncomputable def tw16296590348105434372 : Unit := ()
noncomputable def tw16298671858544969935 : Unit := ()
noncomputable def tw16339503202031470875 : Unit := ()
noncomputable def tw16354672406610356589 : Unit := ()
noncomputable def tw1639981616727947583 : Unit := ()
noncomputable def tw16400751074865733910 : Unit := ()
noncomputable def tw16417971975926614949 : Unit := ()
noncomputable def tw16424727738075169484 : Unit := ()
noncomputable def tw16433278489552267077 : Unit := ()
noncomputable def tw1644255569911684797 : Unit := ()
noncomputable def tw16447172759540358135 : Unit := ()
noncomputable def tw16456409905306380572 : Unit := ()
noncomputable def tw16457593375850944212 : Unit := ()
noncomputable def tw16483175327364660189 : Unit := ()
noncomputable def tw16526751206710464603 : Unit := ()
noncomputable def tw16567661231398824811 : Unit := ()
noncomputable def tw16573077582942348641 : Unit := ()
noncomputable def tw16576222957257545530 : Unit := ()
noncomputable def tw16592893570014863828 : Unit := ()
noncomputable def tw16615192147309376951 : Unit := ()
noncomputable def tw16665526110328478529 : Unit := ()
noncomputable def tw16694476904998839863 : Unit := ()
noncomputable def tw16699377878706978764 : Unit := ()
noncomputable def tw16700318575013349798 : Unit := ()
noncomputable def tw16705860606270256717 : Unit := ()
noncomputable def tw16711731339798493391 : Unit := ()
noncomputable def tw16720883766928916882 : Unit := ()
noncomputable def tw16726255535346028473 : Unit := ()
noncomputable def tw16727532447511142511 : Unit := ()
noncomputable def tw16739083755425606968 : Unit := ()
noncomputable def tw16739547986104925851 : Unit := ()
noncomputable def tw16747629065405408630 : Unit := ()
noncomputable def tw167550967247993687 : Unit := ()
noncomputable def tw16773635481313006432 : Unit := ()
noncomputable def tw16785538882571980543 : Unit := ()
noncomputable def tw16788233547135642414 : Unit := ()
noncomputable def tw16857469709051444266 : Unit := ()
noncomputable def tw16876236935048986776 : Unit := ()
noncomputable def tw16877496141331604692 : Unit := ()
noncomputable def tw16926426053830025025 : Unit := ()
noncomputable def tw16942522186650535968 : Unit := ()
noncomputable def tw1694266930405009974 : Unit := ()
noncomputable def tw16949009020806574942 : Unit := ()
noncomputable def tw16985871876413990642 : Unit := ()
noncomputable def tw16987476370533704557 : Unit := ()
noncomputable def tw17026743227940831712 : Unit := ()
noncomputable def tw17053130121481772103 : Unit := ()
noncomputable def tw17064833945692052252 : Unit := ()
noncomputable def tw17084071853196174921 : Unit := ()
noncomputable def tw17103938086974590038 : Unit := ()
noncomputable def tw17106608494224303150 : Unit := ()
noncomputable def tw17112464921883037887 : Unit := ()
noncomputable def tw17133528431856770972 : Unit := ()
noncomputable def tw17146187028307410841 : Unit := ()
noncomputable def tw17163412240363345371 : Unit := ()
noncomputable def tw17169257567123136711 : Unit := ()
noncomputable def tw17172520439673271139 : Unit := ()
noncomputable def tw1717485560449817402 : Unit := ()
noncomputable def tw17175008277316708827 : Unit := ()
noncomputable def tw17191767797967847670 : Unit := ()
noncomputable def tw17259241986408110582 : Unit := ()
noncomputable def tw17280058572107053691 : Unit := ()
noncomputable def tw17292822351017121783 : Unit := ()
noncomputable def tw17314943208353570444 : Unit := ()
noncomputable def tw17330524667226245681 : Unit := ()
noncomputable def tw1734884918528286522 : Unit := ()
noncomputable def tw17360653242477243975 : Unit := ()
noncomputable def tw17368901067910498557 : Unit := ()
noncomputable def tw17371863055441782679 : Unit := ()
noncomputable def tw17392724365078165257 : Unit := ()
noncomputable def tw17393663094203119047 : Unit := ()
noncomputable def tw17394647144938102915 : Unit := ()
noncomputable def tw17403763406149298341 : Unit := ()
noncomputable def tw17408919567675379883 : Unit := ()
noncomputable def tw17411639873488161413 : Unit := ()
noncomputable def tw17420166764342438902 : Unit := ()
noncomputable def tw17424916104665291489 : Unit := ()
noncomputable def tw17428158056870116351 : Unit := ()
noncomputable def tw17447734377096445370 : Unit := ()
noncomputable def tw17468886310826310451 : Unit := ()
noncomputable def tw17469454598705902373 : Unit := ()
noncomputable def tw17478165661194886154 : Unit := ()
noncomputable def tw17485024515217194642 : Unit := ()
noncomputable def tw17492785332073455090 : Unit := ()
noncomputable def tw1752733083305661762 : Unit := ()
noncomputable def tw17558465517493045558 : Unit := ()
noncomputable def tw1758426702102747128 : Unit := ()
noncomputable def tw17590515576409907731 : Unit := ()
noncomputable def tw17591669423913269842 : Unit := ()
noncomputable def tw17649563190096193141 : Unit := ()
noncomputable def tw17657238230949819594 : Unit := ()
noncomputable def tw17692270503977150241 : Unit := ()
noncomputable def tw17698362265149597548 : Unit := ()
noncomputable def tw17711473739705145481 : Unit := ()
noncomputable def tw17711910997332876922 : Unit := ()
noncomputable def tw17717444079117462278 : Unit := ()
noncomputable def tw17740187900682377756 : Unit := ()
noncomputable def tw17755134530948824434 : Unit := ()
noncomputable def tw17772726858579744284 : Unit := ()
noncomputable def tw1778775279875527610 : Unit := ()
noncomputable def tw17798320949895760350 : Unit := ()
noncomputable def tw17800948086707717751 : Unit := ()
noncomputable def tw17818293817903590521 : Unit := ()
noncomputable def tw17840812128005083152 : Unit := ()
noncomputable def tw17843529362963011488 : Unit := ()
noncomputable def tw17846619120630023766 : Unit := ()
noncomputable def tw18003279642469066050 : Unit := ()
noncomputable def tw18052197330547352278 : Unit := ()
noncomputable def tw18058516629519361111 : Unit := ()
noncomputable def tw18068929663759586442 : Unit := ()
noncomputable def tw18074533905802821072 : Unit := ()
noncomputable def tw18107075240765231021 : Unit := ()
noncomputable def tw18111398738982083773 : Unit := ()
noncomputable def tw18118164260907729349 : Unit := ()
noncomputable def tw18120535436291149196 : Unit := ()
noncomputable def tw18124843273605240230 : Unit := ()
noncomputable def tw18153529787570879039 : Unit := ()
noncomputable def tw18155504808890310260 : Unit := ()
noncomputable def tw18164167449099990632 : Unit := ()
noncomputable def tw18168848097628341329 : Unit := ()
noncomputable def tw18197408797884230400 : Unit := ()
noncomputable def tw18254303153094378745 : Unit := ()
noncomputable def tw18293797681908824632 : Unit := ()
noncomputable def tw1832691508475867565 : Unit := ()
noncomputable def tw18343157571677020557 : Unit := ()
noncomputable def tw1834627630568429925 : Unit := ()
noncomputable def tw18369841484834026144 : Unit := ()
noncomputable def tw18372220700587324537 : Unit := ()
noncomputable def tw18387711765015558698 : Unit := ()
noncomputable def tw18429704661519256598 : Unit := ()
noncomputable def tw18433079168191953831 : Unit := ()
noncomputable def tw18433669859833586122 : Unit := ()
noncomputable def tw18440353960458814819 : Unit := ()
noncomputable def tw1848905817553068399 : Unit := ()
noncomputable def tw1855031267851712589 : Unit := ()
noncomputable def tw1859658367360657537 : Unit := ()
noncomputable def tw1885294564261713141 : Unit := ()
noncomputable def tw1904651353081489755 : Unit := ()
noncomputable def tw1923041757053545603 : Unit := ()
noncomputable def tw1946476448123356450 : Unit := ()
noncomputable def tw1957997846565066766 : Unit := ()
noncomputable def tw1985402699469526011 : Unit := ()
noncomputable def tw200202858802481044 : Unit := ()
noncomputable def tw2007082760226582439 : Unit := ()
noncomputable def tw200952908838891698 : Unit := ()
noncomputable def tw2009799518882185817 : Unit := ()
noncomputable def tw2013830700403712203 : Unit := ()
noncomputable def tw201708328148552895 : Unit := ()
noncomputable def tw2020152571437148077 : Unit := ()
noncomputable def tw2026663507151813987 : Unit := ()
noncomputable def tw2052171217396625959 : Unit := ()
noncomputable def tw2054712967208431000 : Unit := ()
noncomputable def tw2058226730332341692 : Unit := ()
noncomputable def tw2083923931733385956 : Unit := ()
noncomputable def tw2110301036845581668 : Unit := ()
noncomputable def tw2114198189418970486 : Unit := ()
noncomputable def tw2141204134323547548 : Unit := ()
noncomputable def tw2144533961223786307 : Unit := ()
noncomputable def tw2186769121901082974 : Unit := ()
noncomputable def tw2216287607474139281 : Unit := ()
noncomputable def tw2226997731462787175 : Unit := ()
noncomputable def tw2235618017368140517 : Unit := ()
noncomputable def tw225468126006155290 : Unit := ()
noncomputable def tw2283436932631721306 : Unit := ()
noncomputable def tw2286941943676669977 : Unit := ()
noncomputable def tw2305613221535706149 : Unit := ()
noncomputable def tw2333626107976518443 : Unit := ()
noncomputable def tw2366535826993118143 : Unit := ()
noncomputable def tw2406872565856053176 : Unit := ()
noncomputable def tw2411416631991128293 : Unit := ()
noncomputable def tw2412950195513398651 : Unit := ()
noncomputable def tw2442836877315861853 : Unit := ()
noncomputable def tw2458865440071689523 : Unit := ()
noncomputable def tw247909236438806434 : Unit := ()
noncomputable def tw2479237469882504799 : Unit := ()
noncomputable def tw2494268533263957097 : Unit := ()
noncomputable def tw2496985677507960046 : Unit := ()
noncomputable def tw2505929647970302546 : Unit := ()
noncomputable def tw2531900633515307401 : Unit := ()
noncomputable def tw2543849888741498996 : Unit := ()
noncomputable def tw2546312148762916157 : Unit := ()
noncomputable def tw2557191316624668217 : Unit := ()
noncomputable def tw257987315190162868 : Unit := ()
noncomputable def tw2613816272192447989 : Unit := ()
noncomputable def tw2627396739876165418 : Unit := ()
noncomputable def tw2638793534194840904 : Unit := ()
noncomputable def tw2640984773516398845 : Unit := ()
noncomputable def tw2657685014961185194 : Unit := ()
noncomputable def tw2690882624139800689 : Unit := ()
noncomputable def tw2711446468545577505 : Unit := ()
noncomputable def tw2750322548573693319 : Unit := ()
noncomputable def tw2771189538260035858 : Unit := ()
noncomputable def tw2792250951161479536 : Unit := ()
noncomputable def tw2798396993581604531 : Unit := ()
noncomputable def tw2816474811461910954 : Unit := ()
noncomputable def tw282076826160197541 : Unit := ()
noncomputable def tw2827311647523273057 : Unit := ()
noncomputable def tw282994513109133150 : Unit := ()
noncomputable def tw2842816785644039571 : Unit := ()
noncomputable def tw2859494293696649499 : Unit := ()
noncomputable def tw2863937026978368667 : Unit := ()
noncomputable def tw2891402810631288588 : Unit := ()
noncomputable def tw2894014611722864658 : Unit := ()
noncomputable def tw2901642248887229185 : Unit := ()
noncomputable def tw2944620925249736492 : Unit := ()
noncomputable def tw2972125363121769464 : Unit := ()
noncomputable def tw2982835192710380514 : Unit := ()
noncomputable def tw2995925781233325151 : Unit := ()
noncomputable def tw2997595627926355555 : Unit := ()
noncomputable def tw3006146034401029692 : Unit := ()
noncomputable def tw3010447429517834518 : Unit := ()
noncomputable def tw3011970122397266958 : Unit := ()
noncomputable def tw3018527617310638102 : Unit := ()
noncomputable def tw3020832510069240704 : Unit := ()
noncomputable def tw306535358961565008 : Unit := ()
noncomputable def tw3082626142003458053 : Unit := ()
noncomputable def tw3105161912409373472 : Unit := ()
noncomputable def tw3108443244893856389 : Unit := ()
noncomputable def tw3138800457800853586 : Unit := ()
noncomputable def tw3140247085548477035 : Unit := ()
noncomputable def tw3140866203998610647 : Unit := ()
noncomputable def tw3142481877796873088 : Unit := ()
noncomputable def tw3153289441736887298 : Unit := ()
noncomputable def tw3165661143165402847 : Unit := ()
noncomputable def tw3185962312253278316 : Unit := ()
noncomputable def tw319109541562411609 : Unit := ()
noncomputable def tw3204017013573700639 : Unit := ()
noncomputable def tw3208532927677382203 : Unit := ()
noncomputable def tw3225869345168946285 : Unit := ()
noncomputable def tw3282140407130366615 : Unit := ()
noncomputable def tw3298683737301795645 : Unit := ()
noncomputable def tw3318330705443729038 : Unit := ()
noncomputable def tw3318677167507295741 : Unit := ()
noncomputable def tw3339628229899013760 : Unit := ()
noncomputable def tw3347175955162335329 : Unit := ()
noncomputable def tw335442867052375821 : Unit := ()
noncomputable def tw3357559941945735724 : Unit := ()
noncomputable def tw3426563556032164376 : Unit := ()
noncomputable def tw3440317332850252569 : Unit := ()
noncomputable def tw3448833343719912132 : Unit := ()
noncomputable def tw3468823194966119755 : Unit := ()
noncomputable def tw3477183460249832127 : Unit := ()
noncomputable def tw3482175957882590323 : Unit := ()
noncomputable def tw3516009707026607567 : Unit := ()
noncomputable def tw3532814397795860435 : Unit := ()
noncomputable def tw3565788921725277038 : Unit := ()
noncomputable def tw3578222212851893600 : Unit := ()
noncomputable def tw3586251380002802234 : Unit := ()
noncomputable def tw3601427614577313751 : Unit := ()
noncomputable def tw3616883902118795587 : Unit := ()
noncomputable def tw3630066180865283129 : Unit := ()
noncomputable def tw3672661013650352966 : Unit := ()
noncomputable def tw3737605839529819480 : Unit := ()
noncomputable def tw3780143478300131934 : Unit := ()
noncomputable def tw3783704252341326843 : Unit := ()
noncomputable def tw3788544764152331944 : Unit := ()
noncomputable def tw3804168243799541492 : Unit := ()
noncomputable def tw3832104259330054055 : Unit := ()
noncomputable def tw3835962111665225711 : Unit := ()
noncomputable def tw3855190133869164905 : Unit := ()
noncomputable def tw3888449669307625334 : Unit := ()
noncomputable def tw3894448302553291716 : Unit := ()
noncomputable def tw3905375630023619888 : Unit := ()
noncomputable def tw3941535021885107689 : Unit := ()
noncomputable def tw3949192924188805160 : Unit := ()
noncomputable def tw3969632628889691061 : Unit := ()
noncomputable def tw397829171339713761 : Unit := ()
noncomputable def tw4005113011885737416 : Unit := ()
noncomputable def tw4014216774688872946 : Unit := ()
noncomputable def tw4030748809424043240 : Unit := ()
noncomputable def tw4049413732980777947 : Unit := ()
noncomputable def tw4068328023764021264 : Unit := ()
noncomputable def tw407466490171300439 : Unit := ()
noncomputable def tw409914518651768084 : Unit := ()
noncomputable def tw4128963183011607505 : Unit := ()
noncomputable def tw4141915090227766502 : Unit := ()
noncomputable def tw4154878040674242839 : Unit := ()
noncomputable def tw4156143147478942181 : Unit := ()
noncomputable def tw419182698790416674 : Unit := ()
noncomputable def tw4195489330254351329 : Unit := ()
noncomputable def tw4198835854440487071 : Unit := ()
noncomputable def tw4214497047443048748 : Unit := ()
noncomputable def tw4215066571649420964 : Unit := ()
noncomputable def tw42283253343031561 : Unit := ()
noncomputable def tw4232916895473627763 : Unit := ()
noncomputable def tw4240545211757986076 : Unit := ()
noncomputable def tw4241227540667249002 : Unit := ()
noncomputable def tw4252973022230594116 : Unit := ()
noncomputable def tw4302931102428780990 : Unit := ()
noncomputable def tw4313555247321036059 : Unit := ()
noncomputable def tw4334908036533502587 : Unit := ()
noncomputable def tw4350801690150286559 : Unit := ()
noncomputable def tw4382491568596388571 : Unit := ()
noncomputable def tw44263415142174766 : Unit := ()
noncomputable def tw4430775014708722610 : Unit := ()
noncomputable def tw4438364104728389296 : Unit := ()
noncomputable def tw4452577129215390026 : Unit := ()
noncomputable def tw4463848349969469772 : Unit := ()
noncomputable def tw4464460378109042309 : Unit := ()
noncomputable def tw4498182102138418894 : Unit := ()
noncomputable def tw4515135292898193881 : Unit := ()
noncomputable def tw4544264296663088324 : Unit := ()
noncomputable def tw4561188658046838414 : Unit := ()
noncomputable def tw4576187945379360170 : Unit := ()
noncomputable def tw4613487602407358717 : Unit := ()
noncomputable def tw4613981591765525805 : Unit := ()
noncomputable def tw4634341240264483431 : Unit := ()
noncomputable def tw4642380371098665385 : Unit := ()
noncomputable def tw4645612490112672357 : Unit := ()
noncomputable def tw4693333692992608644 : Unit := ()
noncomputable def tw4716985721665009587 : Unit := ()
noncomputable def tw4722931859811370693 : Unit := ()
noncomputable def tw476020514792540505 : Unit := ()
noncomputable def tw4765306392115962693 : Unit := ()
noncomputable def tw4773625603535503361 : Unit := ()
noncomputable def tw4786962568827011835 : Unit := ()
noncomputable def tw4797826422191193900 : Unit := ()
noncomputable def tw4801688742562958406 : Unit := ()
noncomputable def tw4809732158711126637 : Unit := ()
noncomputable def tw4814944892674192296 : Unit := ()
noncomputable def tw4818641064637329869 : Unit := ()
noncomputable def tw4822506900650540561 : Unit := ()
noncomputable def tw4824961169156336389 : Unit := ()
noncomputable def tw4874642235004048027 : Unit := ()
noncomputable def tw4881293885237924411 : Unit := ()
noncomputable def tw4899250830898163692 : Unit := ()
noncomputable def tw4907521953547317329 : Unit := ()
noncomputable def tw4927947371108770993 : Unit := ()
noncomputable def tw4937054150386731785 : Unit := ()
noncomputable def tw4942582282674782268 : Unit := ()
noncomputable def tw4950485280699123642 : Unit := ()
noncomputable def tw4965207536615798822 : Unit := ()
noncomputable def tw497388943360791162 : Unit := ()
noncomputable def tw4983024317834737482 : Unit := ()
noncomputable def tw5004987881651496831 : Unit := ()
noncomputable def tw5007245332940595331 : Unit := ()
noncomputable def tw5008225929384235901 : Unit := ()
noncomputable def tw5036882428077977431 : Unit := ()
noncomputable def tw5103381174273319438 : Unit := ()
noncomputable def tw5103548895888603802 : Unit := ()
noncomputable def tw5108145285102913287 : Unit := ()
noncomputable def tw5113878289174177000 : Unit := ()
noncomputable def tw5116121765629822255 : Unit := ()
noncomputable def tw513762853881379114 : Unit := ()
noncomputable def tw5148049120761530293 : Unit := ()
noncomputable def tw5162543521180666497 : Unit := ()
noncomputable def tw5177793798137784044 : Unit := ()
noncomputable def tw5187159431361770467 : Unit := ()
noncomputable def tw5191467471856622273 : Unit := ()
noncomputable def tw5217560924200664910 : Unit := ()
noncomputable def tw5221675337516389627 : Unit := ()
noncomputable def tw5247617807198155932 : Unit := ()
noncomputable def tw5248012151768918434 : Unit := ()
noncomputable def tw525001674005675781 : Unit := ()
noncomputable def tw5267918838273182613 : Unit := ()
noncomputable def tw5284503019443792952 : Unit := ()
noncomputable def tw5313006154424263818 : Unit := ()
noncomputable def tw5362506446432344171 : Unit := ()
noncomputable def tw5377772837010204750 : Unit := ()
noncomputable def tw5387236496596682077 : Unit := ()
noncomputable def tw5402931792415343577 : Unit := ()
noncomputable def tw5429014128711783359 : Unit := ()
noncomputable def tw5439016543574858206 : Unit := ()
noncomputable def tw5440085390276978291 : Unit := ()
noncomputable def tw5463181917568680212 : Unit := ()
noncomputable def tw5476340991381562312 : Unit := ()
noncomputable def tw549974085012918235 : Unit := ()
noncomputable def tw5543487718492105064 : Unit := ()
noncomputable def tw5553432485147669529 : Unit := ()
noncomputable def tw5555718599999811639 : Unit := ()
noncomputable def tw5601264028959731896 : Unit := ()
noncomputable def tw5615151462926910227 : Unit := ()
noncomputable def tw5615934883764171431 : Unit := ()
noncomputable def tw561872325786274548 : Unit := ()
noncomputable def tw5641124861440336686 : Unit := ()
noncomputable def tw5646013916729498261 : Unit := ()
noncomputable def tw5646740079091317433 : Unit := ()
noncomputable def tw5657447785659697480 : Unit := ()
noncomputable def tw5657931515703916248 : Unit := ()
noncomputable def tw5689438673786977140 : Unit := ()
noncomputable def tw5715779271170130959 : Unit := ()
noncomputable def tw5718967094426423161 : Unit := ()
noncomputable def tw5727973534668710794 : Unit := ()
noncomputable def tw5729048050466217705 : Unit := ()
noncomputable def tw5747321363474778693 : Unit := ()
noncomputable def tw5750698986362780913 : Unit := ()
noncomputable def tw5761313309558253367 : Unit := ()
noncomputable def tw5771326813344675229 : Unit := ()
noncomputable def tw5781126440621211168 : Unit := ()
noncomputable def tw5795260443874522099 : Unit := ()
noncomputable def tw5815207240830897808 : Unit := ()
noncomputable def tw583233376362171505 : Unit := ()
noncomputable def tw5870148494974776200 : Unit := ()
noncomputable def tw5884965284304258897 : Unit := ()
noncomputable def tw5888963250497168203 : Unit := ()
noncomputable def tw5919330448614353153 : Unit := ()
noncomputable def tw5927061715728957476 : Unit := ()
noncomputable def tw5931688323066260514 : Unit := ()
noncomputable def tw5936211784296988740 : Unit := ()
noncomputable def tw6028428966107381609 : Unit := ()
noncomputable def tw6041367110252723933 : Unit := ()
noncomputable def tw6055196601331254383 : Unit := ()
noncomputable def tw6056353462618326814 : Unit := ()
noncomputable def tw6147308635103535561 : Unit := ()
noncomputable def tw6169047396881144633 : Unit := ()
noncomputable def tw6169999212503205497 : Unit := ()
noncomputable def tw6176044042627901312 : Unit := ()
noncomputable def tw6176105912117767087 : Unit := ()
noncomputable def tw6178583632892115015 : Unit := ()
noncomputable def tw6189357195160471388 : Unit := ()
noncomputable def tw6223034424235540279 : Unit := ()
noncomputable def tw6279384641404196061 : Unit := ()
noncomputable def tw6280451789465376435 : Unit := ()
noncomputable def tw6323490242551619147 : Unit := ()
noncomputable def tw636524550079685631 : Unit := ()
noncomputable def tw6393532188824929214 : Unit := ()
noncomputable def tw6405578165278201989 : Unit := ()
noncomputable def tw6482840019736640597 : Unit := ()
noncomputable def tw6495733333828780514 : Unit := ()
noncomputable def tw6516363680345034613 : Unit := ()
noncomputable def tw658038952242159251 : Unit := ()
noncomputable def tw6611227686217864527 : Unit := ()
noncomputable def tw6618574068037739696 : Unit := ()
noncomputable def tw6635096433462372448 : Unit := ()
noncomputable def tw6635522753158126860 : Unit := ()
noncomputable def tw6643951234224847407 : Unit := ()
noncomputable def tw6651456455751515877 : Unit := ()
noncomputable def tw6654054744546489139 : Unit := ()
noncomputable def tw6656463916972431421 : Unit := ()
noncomputable def tw6660107465678334527 : Unit := ()
noncomputable def tw6674347012523051200 : Unit := ()
noncomputable def tw6686757251022233349 : Unit := ()
noncomputable def tw6717767316833874322 : Unit := ()
noncomputable def tw6721464258858852875 : Unit := ()
noncomputable def tw6754197919360015719 : Unit := ()
noncomputable def tw6794366774042380578 : Unit := ()
noncomputable def tw6836359950869179439 : Unit := ()
noncomputable def tw6846761488900895589 : Unit := ()
noncomputable def tw6873541528101158377 : Unit := ()
noncomputable def tw68815829978753266 : Unit := ()
noncomputable def tw6883241306338605731 : Unit := ()
noncomputable def tw6888782338466086140 : Unit := ()
noncomputable def tw6896591704953265671 : Unit := ()
noncomputable def tw6900727353157573822 : Unit := ()
noncomputable def tw693260322217938744 : Unit := ()
noncomputable def tw6946980451890315270 : Unit := ()
noncomputable def tw6950096446663180783 : Unit := ()
noncomputable def tw6968176368945700982 : Unit := ()
noncomputable def tw7000523462626781010 : Unit := ()
noncomputable def tw70167423851719575 : Unit := ()
noncomputable def tw7062720368445256129 : Unit := ()
noncomputable def tw7091565871241343341 : Unit := ()
noncomputable def tw7105052966444361425 : Unit := ()
noncomputable def tw7130465076275759521 : Unit := ()
noncomputable def tw7159026401054745538 : Unit := ()
noncomputable def tw7193976414177721783 : Unit := ()
noncomputable def tw7205895575636617080 : Unit := ()
noncomputable def tw7234240908195146063 : Unit := ()
noncomputable def tw7238125184777875665 : Unit := ()
noncomputable def tw7272270352196073673 : Unit := ()
noncomputable def tw7317653850160689691 : Unit := ()
noncomputable def tw7347661181068853997 : Unit := ()
noncomputable def tw7385006340035058783 : Unit := ()
noncomputable def tw741329169588805604 : Unit := ()
noncomputable def tw7442053078452299063 : Unit := ()
noncomputable def tw7458478332549306277 : Unit := ()
noncomputable def tw7473514446972121862 : Unit := ()
noncomputable def tw7491647123525626385 : Unit := ()
noncomputable def tw7492772011675989385 : Unit := ()
noncomputable def tw7499236255139096926 : Unit := ()
noncomputable def tw7500927594516628699 : Unit := ()
noncomputable def tw7514489123796633772 : Unit := ()
noncomputable def tw7525655301032184626 : Unit := ()
noncomputable def tw7546461858588002845 : Unit := ()
noncomputable def tw755134328155928439 : Unit := ()
noncomputable def tw7555861350897420170 : Unit := ()
noncomputable def tw7580283103339870548 : Unit := ()
noncomputable def tw7596217776887503600 : Unit := ()
noncomputable def tw760045182452098349 : Unit := ()
noncomputable def tw7619113539625694710 : Unit := ()
noncomputable def tw7654578318931278690 : Unit := ()
noncomputable def tw7656661182584010552 : Unit := ()
noncomputable def tw7657994479303150727 : Unit := ()
noncomputable def tw7659607463568281574 : Unit := ()
noncomputable def tw7660858615051961871 : Unit := ()
noncomputable def tw766856551031688912 : Unit := ()
noncomputable def tw76700771618905059 : Unit := ()
noncomputable def tw7686242042924871683 : Unit := ()
noncomputable def tw7719990051270854445 : Unit := ()
noncomputable def tw7723783022558009007 : Unit := ()
noncomputable def tw7728376846787057504 : Unit := ()
noncomputable def tw7741957440794404891 : Unit := ()
noncomputable def tw7779009951696393383 : Unit := ()
noncomputable def tw7779866328928976063 : Unit := ()
noncomputable def tw7785168158365692624 : Unit := ()
noncomputable def tw779998902302455647 : Unit := ()
noncomputable def tw7824222052329908659 : Unit := ()
noncomputable def tw7852760074147458260 : Unit := ()
noncomputable def tw785864177541677141 : Unit := ()
noncomputable def tw789461392097075953 : Unit := ()
noncomputable def tw7899379758991183832 : Unit := ()
noncomputable def tw7916160540357663616 : Unit := ()
noncomputable def tw7916663265354606609 : Unit := ()
noncomputable def tw7918374967389245632 : Unit := ()
noncomputable def tw7946034326556018432 : Unit := ()
noncomputable def tw8001918424110371838 : Unit := ()
noncomputable def tw8007103614756019116 : Unit := ()
noncomputable def tw8013882960148741844 : Unit := ()
noncomputable def tw803461357374685022 : Unit := ()
noncomputable def tw8045866029985295436 : Unit := ()
noncomputable def tw8069084333622400507 : Unit := ()
noncomputable def tw8076105961534405009 : Unit := ()
noncomputable def tw8096221689764760052 : Unit := ()
noncomputable def tw8108845850537571710 : Unit := ()
noncomputable def tw8121427672614705931 : Unit := ()
noncomputable def tw8202304140527541924 : Unit := ()
noncomputable def tw8219367837509555709 : Unit := ()
noncomputable def tw8223707996358447380 : Unit := ()
noncomputable def tw8247663516303736865 : Unit := ()
noncomputable def tw8312510263607220780 : Unit := ()
noncomputable def tw8315046463243809389 : Unit := ()
noncomputable def tw8316665608867782698 : Unit := ()
noncomputable def tw8322597137079436277 : Unit := ()
noncomputable def tw8340618772506755070 : Unit := ()
noncomputable def tw8353643495637310175 : Unit := ()
noncomputable def tw8373720323635723369 : Unit := ()
noncomputable def tw8397605616207071183 : Unit := ()
noncomputable def tw8398887430952950212 : Unit := ()
noncomputable def tw8401958774316805891 : Unit := ()
noncomputable def tw8433301184055030320 : Unit := ()
noncomputable def tw8474492796817999161 : Unit := ()
noncomputable def tw8478819981795894278 : Unit := ()
noncomputable def tw8486076525276431931 : Unit := ()
noncomputable def tw8486705261324164726 : Unit := ()
noncomputable def tw8543756510809834644 : Unit := ()
noncomputable def tw8572181188841215417 : Unit := ()
noncomputable def tw8593244855664925795 : Unit := ()
noncomputable def tw8600759836979252552 : Unit := ()
noncomputable def tw8608077670442852389 : Unit := ()
noncomputable def tw8616835277999145119 : Unit := ()
noncomputable def tw8621771247159374411 : Unit := ()
noncomputable def tw8630030210275731936 : Unit := ()
noncomputable def tw8661065196793792047 : Unit := ()
noncomputable def tw8670540905479144303 : Unit := ()
noncomputable def tw8678582069086723682 : Unit := ()
noncomputable def tw8689057759390064058 : Unit := ()
noncomputable def tw8706731066875689191 : Unit := ()
noncomputable def tw8728704332973717658 : Unit := ()
noncomputable def tw8734355875116408662 : Unit := ()
noncomputable def tw8749193726656077916 : Unit := ()
noncomputable def tw8820459466428253018 : Unit := ()
noncomputable def tw884644925536651315 : Unit := ()
noncomputable def tw885046472334632136 : Unit := ()
noncomputable def tw8857914048673524507 : Unit := ()
noncomputable def tw8901488873923373992 : Unit := ()
noncomputable def tw890751993682150155 : Unit := ()
noncomputable def tw8909644736058714228 : Unit := ()
noncomputable def tw8948736912299370593 : Unit := ()
noncomputable def tw8968355716326206664 : Unit := ()
noncomputable def tw8978041729234487138 : Unit := ()
noncomputable def tw898707613593260451 : Unit := ()
noncomputable def tw9022205114861038860 : Unit := ()
noncomputable def tw9069304868558884969 : Unit := ()
noncomputable def tw9090173269774583996 : Unit := ()
noncomputable def tw9091936605540352920 : Unit := ()
noncomputable def tw9099960808112739735 : Unit := ()
noncomputable def tw9107108562952019494 : Unit := ()
noncomputable def tw9111709882147129655 : Unit := ()
noncomputable def tw9133701021851612117 : Unit := ()
noncomputable def tw9142619525353888168 : Unit := ()
noncomputable def tw9179554920180893090 : Unit := ()
noncomputable def tw9186790425516483314 : Unit := ()
noncomputable def tw9196661522157602471 : Unit := ()
noncomputable def tw9241353231930656577 : Unit := ()
noncomputable def tw9257776664878567306 : Unit := ()
noncomputable def tw9260499117602528867 : Unit := ()
noncomputable def tw9273556802335580839 : Unit := ()
noncomputable def tw927500100414286832 : Unit := ()
noncomputable def tw9285670843845949155 : Unit := ()
noncomputable def tw928717787569047865 : Unit := ()
noncomputable def tw9301309066579124778 : Unit := ()
noncomputable def tw9305783451064888827 : Unit := ()
noncomputable def tw9327985806830046984 : Unit := ()
noncomputable def tw9360110593718347322 : Unit := ()
noncomputable def tw9360291227372296245 : Unit := ()
noncomputable def tw9379264858417805688 : Unit := ()
noncomputable def tw9385597778382524922 : Unit := ()
noncomputable def tw9386671084012761886 : Unit := ()
noncomputable def tw9401997163390822312 : Unit := ()
noncomputable def tw9405301459192476718 : Unit := ()
noncomputable def tw9448091282758670523 : Unit := ()
noncomputable def tw945595864737313391 : Unit := ()
noncomputable def tw9486138936568494536 : Unit := ()
noncomputable def tw9496632788025766839 : Unit := ()
noncomputable def tw9526568234960664165 : Unit := ()
noncomputable def tw9537782516805191874 : Unit := ()
noncomputable def tw9542685296840862710 : Unit := ()
noncomputable def tw9543871751676338751 : Unit := ()
noncomputable def tw9570754706468278650 : Unit := ()
noncomputable def tw9600454056292803967 : Unit := ()
noncomputable def tw9609096358927944886 : Unit := ()
noncomputable def tw9615120440626838696 : Unit := ()
noncomputable def tw9617293099064000090 : Unit := ()
noncomputable def tw9642480246203547912 : Unit := ()
noncomputable def tw9700313349084285026 : Unit := ()
noncomputable def tw9700507354520375304 : Unit := ()
noncomputable def tw9764797518255496921 : Unit := ()
noncomputable def tw9796569379432623599 : Unit := ()
noncomputable def tw9837934778547622032 : Unit := ()
noncomputable def tw9843424985483213050 : Unit := ()
noncomputable def tw9851504500788099362 : Unit := ()
noncomputable def tw9864162776701422008 : Unit := ()
noncomputable def tw9960083256741680508 : Unit := ()
noncomputable def tw9976896545867408452 : Unit := ()
noncomputable def tw9984997112416240561 : Unit := ()
noncomputable def tw9994288548533993539 : Unit := ()
noncomputable def tw13942602937750497957 : Unit := ()
end Mine.all
open PySem PySem.W PyProof.Rows
set_option Elab.async true
set_option maxRecDepth 100000
set_option maxHeartbeats 0
theorem Mine.all : PySem.Challenge.rw_pq1412_01.Holds := by
  w_on
  o_law
  k_head
  (case hw => w_witness2)
  k_go0
  rename (Frag.In _ _) => jX
  rename (Top _ _ _ _ _ _) => jT
  rename (Below _ _ _ _) => jB
  rename (Fr _ _ _ _) => jF
  rename (News _ _ _ _) => jN
  rename (IntsAre _ _) => jI
  rename (CellsAre _ _ _) => jC
  have jS := Nat.lt_of_lt_of_le (Mine.lt_of_K (a := 775) jX (by kernel_rfl)) jF.above
  have jY := Mine.mrg_in (as := Mine.needs) jX (Mine.true_of (by as_aux_lemma => kun_count))
  rename (Heap.IsList _ _ _) => jL
  refine Mine.law_fin (vs := _) (pl := Mine.thePlan) ?mf ?mp ?mr ?mw jY jT jB ?mfr ?mgl ?mbu ?mlo ?mce jF jN ?mc ?mne ?mt0 ?mc0 ?mt1 ?mhm jL jI ?mlen ?mfin
  case mf => kernel_rfl
  case mp => kernel_rfl
  case mr =>
    refine Mine.true_of ?_
    as_aux_lemma => kun_count
  case mw =>
    refine Mine.isCall3_of ?h00 ?h01 ?h02 ?h10 ?h11 ?h12 ?h20 ?h21 ?h22
    all_goals refine Mine.true_of ?_
    all_goals as_aux_lemma => kun_count
  case mfr => rfl
  case mgl => rfl
  case mbu => rfl
  case mlo => rfl
  case mce => rfl
  case mt0 => decide
  case mt1 => decide
  case mhm => rfl
  case mlen => assumption
  case mc0 => exact Nat.ne_of_gt (Nat.lt_succ_of_lt (Nat.lt_trans (by decide) jS))
  case mne => exact Nat.ne_of_gt (Nat.lt_succ_of_lt (Nat.lt_trans (by decide) jS))
  case mc =>
    cases jC with
    | cons jh jr => exact jh
  case mfin =>
    intro h' tk m' hF hT
    refine ⟨PySem.W.goodW_bool hF ?_ (fun _ => rfl) ?_, ?_⟩
    · assumption
    · first | wrow_post | (with_unfolding_all rfl) | kernel_rfl
    · exact ⟨⟨_, hT⟩, trivial⟩
set_option Elab.async false
theorem PySem.Challenge.cw_pq1412_01_holds : PySem.Challenge.rw_pq1412_01.Holds :=
  Mine.all
