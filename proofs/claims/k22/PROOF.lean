import PyProof.Rows.All
import Wide.All
import OpenK.AllK
import Wide.FinOn
import HandS.ForMost
import HandS.ForExc
import HandS.TryMany
import HandS.IsInst
import HandS.TupAny
import HandS.TupMul
import HandS.Style
import PyProof.SumWalkG
import PyProof.WalksMore
import KE.SortData
import HandS.ExcIs
import HandS.Wide
import HandS.SortInts
import HandS.Rev
import HandS.Deep
import HandS.Text
import HandS.SortKw
import KE.DataMinMax
import KE.DataCmp
import HandS.Iter
import HandS.DictTup
import HandS.Conv
import KE.KDictKeyed
import KE.KEqDict
import HandS.TupSets
import HandS.DictSubView
import KE.KDictDisplayH
import KE.KDictOf
import KE.KDictWalk
import HandS.NoneIn
import KE.GoesRaise
import PySem.Challenge.RW_slidebox_k22_whole_lattice_rule
set_option Elab.async false
set_option linter.all false
set_option maxRecDepth 100000
set_option maxHeartbeats 4000000
/-! Mini, part 1: results, how a tree of data lies in the heap, what is known of the slots. -/
namespace Mi
open PySem L2

abbrev D := PyData
abbrev En := List (Option D)
abbrev Fg := PySem.W.Frag

/-- a result: none told, a value, an error of the c-th class -/
inductive ER (A : Type) where
  | stuck
  | val (a : A)
  | exn (c : Nat)

namespace ER
def bind {A B : Type} (r : ER A) (f : A → ER B) : ER B := match r with
  | .stuck => .stuck
  | .val a => f a
  | .exn c => .exn c
def ok {A : Type} (r : ER A) (P : A → Prop) (N : Nat → Prop) : Prop := match r with
  | .stuck => False
  | .val a => P a
  | .exn c => N c
def map {A B : Type} (r : ER A) (f : A → B) : ER B := r.bind fun a => .val (f a)
@[simp] theorem bind_val {A B : Type} (a : A) (f : A → ER B) : (ER.val a).bind f = f a := rfl
@[simp] theorem bind_stuck {A B : Type} (f : A → ER B) : (ER.stuck : ER A).bind f = .stuck := rfl
@[simp] theorem bind_exn {A B : Type} (c : Nat) (f : A → ER B) : (ER.exn c : ER A).bind f = .exn c := rfl
theorem ok_bind {A B : Type} {r : ER A} {f : A → ER B} {P : B → Prop} {N : Nat → Prop} (h : (r.bind f).ok P N) : r.ok (fun a => (f a).ok P N) N := by
  cases r <;> exact h
theorem ok_mono {A : Type} {r : ER A} {P P' : A → Prop} {N N' : Nat → Prop} (h : r.ok P N) (hp : ∀ a, r = .val a → P a → P' a) (hn : ∀ c, N c → N' c) : r.ok P' N' := by
  cases r with
  | stuck => exact h
  | val a => exact hp a rfl h
  | exn c => exact hn c h
end ER

/-- a list that stands as long as what is locked stands -/
def ExL (K : Fg) (H : Hp) (a : Addr) (xs : List V) : Prop :=
  SqL K H a xs ∧ ∀ G : Hp, (∀ b o u, H b = some (.frz o u) → G b = some (.frz o u)) → SqL K G a xs

/-- the script, locked -/
def lck (ns : List Int) : D := .dict (ns.map fun i => (.none, .int i))
/-! dicts whose keys are tuples of whole numbers, whose values are whole numbers or bools -/
abbrev Sc := Sum Int Bool
def scV : Sc → V
  | .inl i => .int i
  | .inr b => .bl b
def scD : Sc → D
  | .inl i => .int i
  | .inr b => .bool b
def unS : D → Option Sc
  | .int i => some (.inl i)
  | .bool b => some (.inr b)
  | _ => none
def kyD (k : List Int) : D := .tuple (k.map .int)
def unI : List D → Option (List Int)
  | [] => some []
  | .int i :: l => (unI l).map (i :: ·)
  | _ => none
def unK : D → Option (List Int)
  | .tuple l => unI l
  | _ => none
/-- a dict's tree: a head that no script has, then its pairs -/
def dct (l : List (List Int × Sc)) : D := .dict ((.bool true, .none) :: l.map fun p => (kyD p.1, scD p.2))
def unP : List (D × D) → Option (List (List Int × Sc))
  | [] => some []
  | p :: l => (unK p.1).bind fun k => (unS p.2).bind fun v => (unP l).map ((k, v) :: ·)
def unD : D → Option (List (List Int × Sc))
  | .dict ((.bool true, .none) :: l) => unP l
  | _ => none
theorem unI_map : ∀ k : List Int, unI (k.map .int) = some k
  | [] => rfl
  | i :: k => by rw [List.map_cons, unI, unI_map k]; rfl
theorem unI_of : ∀ {l : List D} {k : List Int}, unI l = some k → l = k.map .int
  | [], _, h => by cases h; rfl
  | .int i :: l, k, h => by
    obtain ⟨m, h1, rfl⟩ := Option.map_eq_some_iff.mp (show (unI l).map (i :: ·) = some k from h)
    rw [unI_of h1]; rfl
  | .none :: _, _, h => by cases h
  | .bool _ :: _, _, h => by cases h
  | .str _ :: _, _, h => by cases h
  | .tuple _ :: _, _, h => by cases h
  | .list _ :: _, _, h => by cases h
  | .dict _ :: _, _, h => by cases h
@[simp] theorem unK_ky (k : List Int) : unK (kyD k) = some k := unI_map k
theorem unK_of {d : D} {k : List Int} (h : unK d = some k) : d = kyD k := by
  cases d with
  | tuple l => rw [unI_of (show unI l = some k from h)]; rfl
  | _ => cases h
@[simp] theorem unS_sc (v : Sc) : unS (scD v) = some v := by cases v <;> rfl
theorem unS_of {d : D} {v : Sc} (h : unS d = some v) : d = scD v := by
  cases d with
  | int i => cases h; rfl
  | bool b => cases h; rfl
  | _ => cases h
theorem unP_map : ∀ l : List (List Int × Sc), unP (l.map fun p => (kyD p.1, scD p.2)) = some l
  | [] => rfl
  | p :: l => by rw [List.map_cons, unP, unK_ky, unS_sc, unP_map l]; rfl
theorem unP_of : ∀ {l : List (D × D)} {m : List (List Int × Sc)}, unP l = some m → l = m.map fun p => (kyD p.1, scD p.2)
  | [], _, h => by cases h; rfl
  | p :: l, m, h => by
    obtain ⟨k, h1, h⟩ := Option.bind_eq_some_iff.mp (show (unK p.1).bind _ = some m from h)
    obtain ⟨v, h2, h⟩ := Option.bind_eq_some_iff.mp h
    obtain ⟨n, h3, rfl⟩ := Option.map_eq_some_iff.mp h
    rw [List.map_cons, ← unP_of h3, ← unK_of h1, ← unS_of h2]
@[simp] theorem unD_dct (l : List (List Int × Sc)) : unD (dct l) = some l := unP_map l
theorem unD_of {d : D} {l : List (List Int × Sc)} (h : unD d = some l) : d = dct l := by
  unfold unD at h
  split at h
  · rw [unP_of h]; rfl
  · cases h
theorem dct_inj {l m : List (List Int × Sc)} (h : dct l = dct m) : l = m := by
  have := congrArg unD h
  rw [unD_dct, unD_dct] at this
  exact Option.some.inj this
theorem lck_dct {ns : List Int} {l : List (List Int × Sc)} : lck ns ≠ dct l := by
  intro h
  cases ns with
  | nil => unfold lck dct at h; cases h
  | cons n ns => unfold lck dct at h; rw [List.map_cons] at h; injection h with h; cases h
/-- a dict's tree, no script's -/
def isDc : D → Bool
  | .dict ((.bool _, _) :: _) => true
  | _ => false
theorem isDc_dct (l : List (List Int × Sc)) : isDc (dct l) = true := rfl
theorem isDc_lck (ns : List Int) : isDc (lck ns) = false := by cases ns <;> rfl
def hI (k : List Int) : Int := PySem.reduceHash (PySem.Builtin.Tuple.tupleHashOf (k.map PySem.hashInt))
/-- the dict at a: of each entry its key, the key's tuple, its value; where the tuples stand is told elsewhere -/
def DctR (a : Addr) (L : List (List Int × Addr × Sc)) (h : PySem.Heap) : Prop :=
  L.length ≤ sizeLine ∧ (a == PySem.sysModules) = false ∧ ∃ xs : List (List Int × Addr × Value), Paired (fun p q => p.1 = q.1 ∧ p.2.1 = q.2.1 ∧ RelV (scV p.2.2) q.2.2) L xs ∧
    ∃ o es ep, h.get? a = some o ∧ o.ExactDict ∧ o.data = .dict es ep ∧ es.toList = xs.map (fun x => (⟨hI x.1, .ref x.2.1, x.2.2⟩ : PySem.DictEntry)) ∧ (xs.map (·.1)).Nodup
def DctO (a : Addr) (L : List (List Int × Addr × Sc)) : HO := .ext (DctR a L)
/-- what may be written: a list, a dict -/
inductive MO : HO → Prop
  | l (xs : List V) : MO (.lst xs)
  | d (φ : PySem.Heap → Prop) : MO (.ext φ)

mutual
/-- at v stands the tree d; F: the addresses of its lists and dicts, from the left -/
inductive Rep (K : Fg) (H : Hp) : V → D → List Addr → Prop
  | non : Rep K H .non .none []
  | bl (b : Bool) : Rep K H (.bl b) (.bool b) []
  | int (i : Int) : Rep K H (.int i) (.int i) []
  | str (x : Str) : Rep K H (.str x) (.str x) []
  | tup {a : Addr} {vs : List V} {ds : List D} {F : List Addr} : SqT K H a vs → RepL K H vs ds F → Rep K H (.ref a) (.tuple ds) F
  | ext {a : Addr} {ns : List Int} : ExL K H a (ns.map V.int) → Rep K H (.ref a) (lck ns) []
  | lst {a : Addr} {vs : List V} {ds : List D} {F : List Addr} : H a = some (.lst vs) → RepL K H vs ds F → Rep K H (.ref a) (.list ds) (a :: F)
  | dct {a : Addr} {L : List (List Int × Addr × Sc)} : H a = some (DctO a L) → (∀ p ∈ L, SqT K H p.2.1 (p.1.map V.int)) → Rep K H (.ref a) (dct (L.map fun p => (p.1, p.2.2))) [a]
inductive RepL (K : Fg) (H : Hp) : List V → List D → List Addr → Prop
  | nil : RepL K H [] [] []
  | cons {v : V} {vs : List V} {d : D} {ds : List D} {F G : List Addr} : Rep K H v d F → RepL K H vs ds G → RepL K H (v :: vs) (d :: ds) (F ++ G)
end

/-- behind a step that may change the lists at O -/
def Stp (O : List Addr) (H G : Hp) : Prop := ∀ b o, H b = some o → b ∉ O → G b = some o
def AllL (H : Hp) (O : List Addr) : Prop := ∀ b ∈ O, ∃ m : {o : HO // MO o}, H b = some m.1
theorem Stp.frz {O : List Addr} {H G : Hp} (p : Stp O H G) (l : AllL H O) : ∀ b o u, H b = some (.frz o u) → G b = some (.frz o u) := fun b o u e => p b _ e fun hb => by
  obtain ⟨⟨m, q⟩, e2⟩ := l b hb
  rw [e] at e2
  cases e2
  cases q
theorem Stp.rdT {O : List Addr} {H G : Hp} (p : Stp O H G) (l : AllL H O) {K : Fg} {a : Addr} {xs : List V} (h : SqT K H a xs) : SqT K G a xs := by
  rcases h with (h | ⟨o, h⟩) | h
  · exact .inl (.inl (p a _ h fun hb => by
      obtain ⟨⟨m, q⟩, e2⟩ := l a hb
      rw [h] at e2
      cases e2
      cases q))
  · exact .inl (.inr ⟨o, p.frz l _ _ _ h⟩)
  · exact .inr h
theorem ExL.stp {O : List Addr} {H G : Hp} {K : Fg} {a : Addr} {xs : List V} (p : Stp O H G) (l : AllL H O) (h : ExL K H a xs) : ExL K G a xs :=
  ⟨h.2 G (p.frz l), fun G' k => h.2 G' fun b o u e => k b o u (p.frz l b o u e)⟩
section
variable {K : Fg} {H G : Hp} {O : List Addr}
mutual
theorem Rep.stp (p : Stp O H G) (l : AllL H O) : ∀ (d : D) (v : V) (F : List Addr), Rep K H v d F → (∀ b ∈ F, b ∉ O) → Rep K G v d F
  | .none, _, _, h, _ => by cases h; exact .non
  | .bool _, _, _, h, _ => by cases h; exact .bl _
  | .int _, _, _, h, _ => by cases h; exact .int _
  | .str _, _, _, h, _ => by cases h; exact .str _
  | .tuple ds, _, _, h, dj => by
    cases h with
    | tup hs hl => exact .tup (p.rdT l hs) (RepL.stp p l ds _ _ hl dj)
  | .list ds, _, _, h, dj => by
    cases h with
    | lst hs hl => exact .lst (p _ _ hs (dj _ List.mem_cons_self)) (RepL.stp p l ds _ _ hl fun b hb => dj b (List.mem_cons_of_mem _ hb))
  | .dict _, _, _, h, dj => by
    cases h with
    | ext hs => exact .ext (hs.stp p l)
    | dct hs hk => exact .dct (p _ _ hs (dj _ List.mem_cons_self)) fun q hq => p.rdT l (hk q hq)
theorem RepL.stp (p : Stp O H G) (l : AllL H O) : ∀ (ds : List D) (vs : List V) (F : List Addr), RepL K H vs ds F → (∀ b ∈ F, b ∉ O) → RepL K G vs ds F
  | [], _, _, h, _ => by cases h; exact .nil
  | d :: ds, _, _, h, dj => by
    cases h with
    | cons h1 h2 => exact .cons (Rep.stp p l d _ _ h1 fun b hb => dj b (List.mem_append_left _ hb)) (RepL.stp p l ds _ _ h2 fun b hb => dj b (List.mem_append_right _ hb))
end
theorem same_stp (s : Same H G) : Stp [] H G := fun b o e _ => s b o e
theorem Rep.same {v : V} {d : D} {F : List Addr} (h : Rep K H v d F) (s : Same H G) : Rep K G v d F := Rep.stp (O := []) (same_stp s) (fun _ z => nomatch z) d v F h fun _ _ z => nomatch z
theorem RepL.same {vs : List V} {ds : List D} {F : List Addr} (h : RepL K H vs ds F) (s : Same H G) : RepL K G vs ds F := RepL.stp (O := []) (same_stp s) (fun _ z => nomatch z) ds vs F h fun _ _ z => nomatch z
mutual
theorem Rep.nodes : ∀ (d : D) (v : V) (F : List Addr), Rep K H v d F → AllL H F
  | .none, _, _, h => by cases h; exact fun _ z => nomatch z
  | .bool _, _, _, h => by cases h; exact fun _ z => nomatch z
  | .int _, _, _, h => by cases h; exact fun _ z => nomatch z
  | .str _, _, _, h => by cases h; exact fun _ z => nomatch z
  | .tuple ds, _, _, h => by
    cases h with
    | tup hs hl => exact RepL.nodes ds _ _ hl
  | .list ds, _, _, h => by
    cases h with
    | lst hs hl =>
      intro b hb
      rcases List.mem_cons.mp hb with rfl | hb
      · exact ⟨⟨_, .l _⟩, hs⟩
      · exact RepL.nodes ds _ _ hl b hb
  | .dict _, _, _, h => by
    cases h with
    | ext hs => exact fun _ z => (nomatch z)
    | dct hs hk =>
      intro b hb
      rw [List.mem_singleton] at hb
      subst hb
      exact ⟨⟨_, .d _⟩, hs⟩
theorem RepL.nodes : ∀ (ds : List D) (vs : List V) (F : List Addr), RepL K H vs ds F → AllL H F
  | [], _, _, h => by cases h; exact fun _ z => nomatch z
  | d :: ds, _, _, h => by
    cases h with
    | cons h1 h2 =>
      intro b hb
      rcases List.mem_append.mp hb with hb | hb
      · exact Rep.nodes d _ _ h1 b hb
      · exact RepL.nodes ds _ _ h2 b hb
end
/-! data that == compares -/
mutual
theorem Rep.dp : ∀ (d : D) (v : V) (F : List Addr), Rep K H v d F → d.canLay0 = true → Dp K H v d
  | .none, _, _, h, _ => by cases h; exact .non
  | .bool _, _, _, h, _ => by cases h; exact .bl _
  | .int _, _, _, h, _ => by cases h; exact .int _
  | .str _, _, _, h, _ => by cases h; exact .str _
  | .tuple ds, _, _, h, c => by
    cases h with
    | tup hs hl => exact .tup hs (RepL.dp ds _ _ hl (by simpa [PyData.canLay0] using c))
  | .list ds, _, _, h, c => by
    cases h with
    | lst hs hl => exact .lst (SqL.of hs) (RepL.dp ds _ _ hl (by simpa [PyData.canLay0] using c))
  | .dict _, _, _, h, c => by simp [PyData.canLay0] at c
theorem RepL.dp : ∀ (ds : List D) (vs : List V) (F : List Addr), RepL K H vs ds F → PyData.canLayAll0 ds = true → DpAll K H vs ds
  | [], _, _, h, _ => by cases h; exact .nil
  | d :: ds, _, _, h, c => by
    cases h with
    | cons h1 h2 =>
      simp [PyData.canLayAll0] at c
      exact .cons (Rep.dp d _ _ h1 c.1) (RepL.dp ds _ _ h2 c.2)
end

/-! ### no list within -/
mutual
def plain : D → Bool
  | .none | .bool _ | .int _ | .str _ => true
  | .tuple xs => plainL xs
  | .list _ => false
  | .dict ((.bool _, _) :: _) => false
  | .dict _ => true
def plainL : List D → Bool
  | [] => true
  | x :: xs => plain x && plainL xs
end
@[simp] theorem plain_none : plain .none = true := by simp [plain]
@[simp] theorem plain_bool (b : Bool) : plain (.bool b) = true := by simp [plain]
@[simp] theorem plain_int (i : Int) : plain (.int i) = true := by simp [plain]
@[simp] theorem plain_str (s : Str) : plain (.str s) = true := by simp [plain]
@[simp] theorem plain_tuple (l : List D) : plain (.tuple l) = plainL l := by simp [plain]
@[simp] theorem plain_list (l : List D) : plain (.list l) = false := by simp [plain]
@[simp] theorem plainL_nil : plainL [] = true := by simp [plainL]
@[simp] theorem plainL_cons (x : D) (l : List D) : plainL (x :: l) = (plain x && plainL l) := by simp [plainL]
theorem plainL_all : ∀ l : List D, plainL l = l.all plain
  | [] => by simp
  | x :: l => by simp [plainL_all l]
mutual
theorem Rep.plain : ∀ (d : D) (v : V) (F : List Addr), Rep K H v d F → Mi.plain d = true → F = []
  | .none, _, _, h, _ => by cases h; rfl
  | .bool _, _, _, h, _ => by cases h; rfl
  | .int _, _, _, h, _ => by cases h; rfl
  | .str _, _, _, h, _ => by cases h; rfl
  | .tuple ds, _, _, h, q => by
    cases h with
    | tup hs hl => exact RepL.plain ds _ _ hl (by simpa using q)
  | .list ds, _, _, h, q => by simp at q
  | .dict _, _, _, h, q => by
    cases h with
    | ext hs => rfl
    | dct hs hk => simp [Mi.dct, Mi.plain] at q
theorem RepL.plain : ∀ (ds : List D) (vs : List V) (F : List Addr), RepL K H vs ds F → Mi.plainL ds = true → F = []
  | [], _, _, h, _ => by cases h; rfl
  | d :: ds, _, _, h, q => by
    cases h with
    | cons h1 h2 =>
      simp at q
      rw [Rep.plain d _ _ h1 q.1, RepL.plain ds _ _ h2 q.2]
      rfl
end

/-! ### rows of values -/
theorem Rep.dctE {v : V} {l : List (List Int × Sc)} {F : List Addr} (h : Rep K H v (Mi.dct l) F) : ∃ a L, v = .ref a ∧ F = [a] ∧ H a = some (DctO a L) ∧ (∀ p ∈ L, SqT K H p.2.1 (p.1.map V.int)) ∧ (L.map fun p => (p.1, p.2.2)) = l := by
  generalize hd : Mi.dct l = d at h
  cases h with
  | ext hs => exact absurd hd.symm lck_dct
  | dct hs hk => exact ⟨_, _, rfl, rfl, hs, hk, (dct_inj hd).symm⟩
  | _ => cases hd
theorem Rep.lckE {v : V} {ns : List Int} {F : List Addr} (h : Rep K H v (lck ns) F) : ∃ a, v = .ref a ∧ F = [] ∧ ExL K H a (ns.map V.int) := by
  generalize hd : lck ns = d at h
  cases h with
  | @ext a ms hs =>
    have : ns = ms := by
      injection hd with hd
      have := congrArg (List.map fun p : D × D => match p.2 with | .int i => i | _ => 0) hd
      simpa [Function.comp_def] using this
    subst this
    exact ⟨_, rfl, rfl, hs⟩
  | dct hs hk => exact absurd hd lck_dct
  | _ => cases hd
theorem RepL.len {vs : List V} {ds : List D} {F : List Addr} (h : RepL K H vs ds F) : vs.length = ds.length := by
  induction ds generalizing vs F with
  | nil => cases h; rfl
  | cons d ds ih =>
    cases h with
    | cons h1 h2 => simp [ih h2]
/-- a part of a footprint -/
def Sub (F G : List Addr) : Prop := (∀ a ∈ F, a ∈ G) ∧ (G.Nodup → F.Nodup)
theorem Sub.refl (F : List Addr) : Sub F F := ⟨fun _ h => h, fun h => h⟩
theorem Sub.nil {F : List Addr} : Sub [] F := ⟨fun _ h => (nomatch h), fun _ => List.nodup_nil⟩
theorem Sub.trans {A B C : List Addr} (a : Sub A B) (b : Sub B C) : Sub A C := ⟨fun x h => b.1 x (a.1 x h), fun h => a.2 (b.2 h)⟩
theorem Sub.of {F G : List Addr} (h : F.Sublist G) : Sub F G := ⟨fun _ m => h.subset m, fun n => n.sublist h⟩
theorem RepL.get {vs : List V} {ds : List D} {F : List Addr} (h : RepL K H vs ds F) {i : Nat} {d : D} (e : ds[i]? = some d) : ∃ v Fi, vs[i]? = some v ∧ Rep K H v d Fi ∧ Fi.Sublist F := by
  induction ds generalizing vs F i with
  | nil => simp at e
  | cons x ds ih =>
    cases h with
    | cons h1 h2 =>
      cases i with
      | zero =>
        simp at e
        subst e
        exact ⟨_, _, rfl, h1, List.sublist_append_left _ _⟩
      | succ i =>
        obtain ⟨v, Fi, e1, r, s⟩ := ih h2 (by simpa using e)
        exact ⟨v, Fi, by simpa using e1, r, s.trans (List.sublist_append_right _ _)⟩
theorem RepL.app {vs ws : List V} {ds es : List D} {F G : List Addr} (h : RepL K H vs ds F) (g : RepL K H ws es G) : RepL K H (vs ++ ws) (ds ++ es) (F ++ G) := by
  induction ds generalizing vs F with
  | nil => cases h; exact g
  | cons x ds ih =>
    cases h with
    | cons h1 h2 =>
      rw [List.append_assoc]
      exact .cons h1 (ih h2)
theorem RepL.one {v : V} {d : D} {F : List Addr} (h : Rep K H v d F) : RepL K H [v] [d] F := by
  have := RepL.cons h (.nil (K := K) (H := H))
  rwa [List.append_nil] at this
theorem RepL.drop {vs : List V} {ds : List D} {F : List Addr} (n : Nat) (h : RepL K H vs ds F) : ∃ G, RepL K H (vs.drop n) (ds.drop n) G ∧ G.Sublist F := by
  induction n generalizing vs ds F with
  | zero => exact ⟨F, h, List.Sublist.refl _⟩
  | succ n ih =>
    cases h with
    | nil => exact ⟨[], .nil, List.Sublist.refl _⟩
    | cons h1 h2 =>
      obtain ⟨G, g, s⟩ := ih h2
      exact ⟨G, g, s.trans (List.sublist_append_right _ _)⟩
theorem RepL.take {vs : List V} {ds : List D} {F : List Addr} (n : Nat) (h : RepL K H vs ds F) : ∃ G, RepL K H (vs.take n) (ds.take n) G ∧ G.Sublist F := by
  induction n generalizing vs ds F with
  | zero => exact ⟨[], .nil, List.nil_sublist _⟩
  | succ n ih =>
    cases h with
    | nil => exact ⟨[], .nil, List.Sublist.refl _⟩
    | cons h1 h2 =>
      obtain ⟨G, g, s⟩ := ih h2
      exact ⟨_, .cons h1 g, List.Sublist.append (List.Sublist.refl _) s⟩
theorem RepL.rev {vs : List V} {ds : List D} {F : List Addr} (h : RepL K H vs ds F) : ∃ G, RepL K H vs.reverse ds.reverse G ∧ G.Perm F := by
  induction ds generalizing vs F with
  | nil => cases h; exact ⟨[], .nil, List.Perm.refl _⟩
  | cons x ds ih =>
    cases h with
    | @cons v vs _ _ F1 F2 h1 h2 =>
      obtain ⟨G, g, s⟩ := ih h2
      refine ⟨G ++ F1, ?_, (List.perm_append_comm).trans (List.Perm.append_left _ s)⟩
      rw [List.reverse_cons, List.reverse_cons]
      exact g.app (.one h1)
/-- cut at the i-th -/
theorem RepL.cut {vs : List V} {ds : List D} {F : List Addr} (h : RepL K H vs ds F) {i : Nat} {d : D} (e : ds[i]? = some d) :
    ∃ v F1 F2 F3, vs[i]? = some v ∧ F = F1 ++ (F2 ++ F3) ∧ RepL K H (vs.take i) (ds.take i) F1 ∧ Rep K H v d F2 ∧ RepL K H (vs.drop (i + 1)) (ds.drop (i + 1)) F3 := by
  induction ds generalizing vs F i with
  | nil => simp at e
  | cons x ds ih =>
    cases h with
    | @cons v vs _ _ G1 G2 h1 h2 =>
      cases i with
      | zero =>
        simp at e
        subst e
        exact ⟨v, [], G1, G2, rfl, rfl, .nil, h1, by simpa using h2⟩
      | succ i =>
        obtain ⟨v', F1, F2, F3, e1, e2, r1, r2, r3⟩ := ih h2 (by simpa using e)
        exact ⟨v', G1 ++ F1, F2, F3, by simpa using e1, by rw [e2, List.append_assoc], by simpa using RepL.cons h1 r1, r2, by simpa using r3⟩
theorem set_cut {A : Type} {l : List A} {i : Nat} {x : A} (h : i < l.length) : l.set i x = l.take i ++ (x :: l.drop (i + 1)) := by
  induction l generalizing i with
  | nil => simp at h
  | cons a l ih =>
    cases i with
    | zero => simp
    | succ i => simp [ih (by simpa using h)]
end
end Mi

namespace Mi
open PySem L2

/-- how new a result is: all its lists new | its own list new, those within not our own | none our own | any -/
inductive Kd where | fr | f1 | sh | bo
  deriving DecidableEq
/-- whose a slot's lists are: the slot's alone (ow; io: a parameter's, handed back), its own list alone (o1), not ours (sh), any (bo) -/
inductive Md where | ow | o1 | io | sh | bo
  deriving DecidableEq
def Kd.cat : Kd → Kd → Kd
  | .fr, .fr => .fr
  | .bo, _ => .bo
  | _, .bo => .bo
  | _, _ => .sh
/-- of a new list's items: how new the list is -/
def Kd.top : Kd → Kd
  | .fr => .fr
  | .bo => .bo
  | _ => .f1
def Kd.mx : Kd → Kd
  | .bo => .bo
  | _ => .sh

def KOk (k : Kd) (H : Hp) (O : List Addr) (v : V) (F : List Addr) : Prop := match k with
  | .fr => F.Nodup ∧ ∀ a ∈ F, H a = none
  | .f1 => ∃ a F', v = .ref a ∧ F = a :: F' ∧ H a = none ∧ ∀ b ∈ F', b ≠ a ∧ b ∉ O
  | .sh => ∀ a ∈ F, a ∉ O
  | .bo => True
/-- of several values -/
def KLk (k : Kd) (H : Hp) (O : List Addr) (F : List Addr) : Prop := match k with
  | .fr => F.Nodup ∧ ∀ a ∈ F, H a = none
  | .f1 => ∀ a ∈ F, a ∉ O
  | .sh => ∀ a ∈ F, a ∉ O
  | .bo => True
def SlotOk (m : Md) (v : V) (F Oi O : List Addr) : Prop := match m with
  | .ow => Oi = F
  | .io => Oi = F
  | .o1 => ∃ a F', v = .ref a ∧ F = a :: F' ∧ Oi = [a] ∧ ∀ b ∈ F', b ∉ O
  | .sh => Oi = [] ∧ ∀ b ∈ F, b ∉ O
  | .bo => Oi = []

structure EnvR (K : Fg) (H : Hp) (ms : List Md) (r : En) (s : L2.St) (O : List (List Addr)) (Og : Addr → Prop) : Prop where
  ls : s.length = r.length
  lo : O.length = r.length
  lm : ms.length = r.length
  sl : ∀ (i : Nat) (d : D), r[i]? = some (some d) → ∃ v F m Oi, s[i]? = some (some v) ∧ Rep K H v d F ∧ (∀ a ∈ F, Og a) ∧ ms[i]? = some m ∧ O[i]? = some Oi ∧ SlotOk m v F Oi O.flatten
  no : ∀ i : Nat, r[i]? = some none → O[i]? = some []
  nd : O.flatten.Nodup
  fg : ∀ a, H a = none → Og a

section
variable {K : Fg} {H G : Hp} {ms : List Md} {r : En} {s : L2.St} {O : List (List Addr)} {Og : Addr → Prop}
theorem EnvR.same (e : EnvR K H ms r s O Og) (p : Same H G) : EnvR K G ms r s O Og :=
  ⟨e.ls, e.lo, e.lm, fun i d h => by
    obtain ⟨v, F, m, Oi, h1, h2, h3⟩ := e.sl i d h
    exact ⟨v, F, m, Oi, h1, h2.same p, h3⟩, e.no, e.nd, fun a h => e.fg a (p.free h)⟩
/-- what is ours is a list that is tracked -/
theorem EnvR.own (e : EnvR K H ms r s O Og) : AllL H O.flatten := by
  intro a ha
  obtain ⟨Oi, h1, h2⟩ := List.mem_flatten.mp ha
  obtain ⟨i, hi, rfl⟩ := List.mem_iff_getElem.mp h1
  have hr : i < r.length := by rw [← e.lo]; exact hi
  have q : O[i]? = some O[i] := List.getElem?_eq_getElem hi
  cases hd : r[i] with
  | none =>
    have := e.no i (by rw [List.getElem?_eq_getElem hr, hd])
    rw [q] at this
    have z := Option.some.inj this
    rw [z] at h2
    cases h2
  | some d =>
    obtain ⟨v, F, m, Oj, h3, h4, h5, h6, h7, h8⟩ := e.sl i d (by rw [List.getElem?_eq_getElem hr, hd])
    rw [q] at h7
    have z := Option.some.inj h7
    rw [z] at h2
    have nodes := Rep.nodes d v F h4
    unfold SlotOk at h8
    cases m with
    | ow => exact nodes a (by rw [← h8]; exact h2)
    | io => exact nodes a (by rw [← h8]; exact h2)
    | o1 =>
      obtain ⟨b, F', _, e2, e3, _⟩ := h8
      rw [e3] at h2
      rw [List.mem_singleton.mp h2]
      exact nodes b (by rw [e2]; exact List.mem_cons_self)
    | sh => rw [h8.1] at h2; cases h2
    | bo => rw [h8] at h2; cases h2
theorem EnvR.old (e : EnvR K H ms r s O Og) {a : Addr} (h : H a = none) : a ∉ O.flatten := fun hm => by
  obtain ⟨xs, q⟩ := e.own a hm
  rw [h] at q
  cases q
theorem KOk.shOf (e : EnvR K H ms r s O Og) {k : Kd} {v : V} {F : List Addr} (h : KOk k H O.flatten v F) (n : k ≠ .bo) : ∀ a ∈ F, a ∉ O.flatten := by
  cases k with
  | fr => exact fun a ha => e.old (h.2 a ha)
  | f1 =>
    obtain ⟨b, F', _, e2, h3, h4⟩ := h
    rw [e2]
    intro a ha
    rcases List.mem_cons.mp ha with rfl | ha
    · exact e.old h3
    · exact (h4 a ha).2
  | sh => exact h
  | bo => exact absurd rfl n
theorem KLk.shOf (e : EnvR K H ms r s O Og) {k : Kd} {F : List Addr} (h : KLk k H O.flatten F) (n : k ≠ .bo) : ∀ a ∈ F, a ∉ O.flatten := by
  cases k with
  | fr => exact fun a ha => e.old (h.2 a ha)
  | f1 => exact h
  | sh => exact h
  | bo => exact absurd rfl n
theorem KOk.nil {k : Kd} {A : List Addr} {v : V} (h : k ≠ .f1) : KOk k H A v [] := by
  cases k with
  | fr => exact ⟨List.nodup_nil, fun _ z => (nomatch z)⟩
  | f1 => exact absurd rfl h
  | sh => exact fun _ z => (nomatch z)
  | bo => trivial
/-- a result stays as new when seen from ahead -/
theorem KOk.back {k : Kd} {A : List Addr} {v : V} {F : List Addr} (p : Same H G) (h : KOk k G A v F) : KOk k H A v F := by
  cases k with
  | fr => exact ⟨h.1, fun a ha => p.free (h.2 a ha)⟩
  | f1 =>
    obtain ⟨b, F', e1, e2, h3, h4⟩ := h
    exact ⟨b, F', e1, e2, p.free h3, h4⟩
  | sh => exact h
  | bo => trivial
theorem KLk.back {k : Kd} {A : List Addr} {F : List Addr} (p : Same H G) (h : KLk k G A F) : KLk k H A F := by
  cases k with
  | fr => exact ⟨h.1, fun a ha => p.free (h.2 a ha)⟩
  | f1 => exact h
  | sh => exact h
  | bo => trivial
end

/-! ### the readings -/
def canE (K : Fg) (cl : Nat → Addr) (W : WX) (ms : List Md) (f : En → ER D) (k : Kd) : TE := fun s H Q => ∃ r O Og, EnvR K H ms r s O Og ∧
  (f r).ok (fun d => ∀ v G F, Same H G → Rep K G v d F → (∀ a ∈ F, Og a) → KOk k H O.flatten v F → Q v G) fun c => ∀ G, Same H G → W (.ref (cl c)) none s G
def canT (K : Fg) (cl : Nat → Addr) (W : WX) (ms : List Md) (f : En → ER D) : TT := fun s H Q => ∃ r O Og, EnvR K H ms r s O Og ∧
  (f r).ok (fun d => ∃ b, d = .bool b ∧ ∀ G, Same H G → Q b G) fun c => ∀ G, Same H G → W (.ref (cl c)) none s G
def canA (K : Fg) (cl : Nat → Addr) (W : WX) (ms : List Md) (f : En → ER (List D)) (k : Kd) : TA := fun s H Q => ∃ r O Og, EnvR K H ms r s O Og ∧
  (f r).ok (fun ds => ∀ vs G F, Same H G → RepL K G vs ds F → (∀ a ∈ F, Og a) → KLk k H O.flatten F → Q vs G) fun c => ∀ G, Same H G → W (.ref (cl c)) none s G

def IE (X : Cx) (cl : Nat → Addr) (W : WX) (ms : List Md) (e : Expr) (f : En → ER D) (k : Kd) : Prop := PE X e (canE X.K cl W ms f k)
def IT (X : Cx) (cl : Nat → Addr) (W : WX) (ms : List Md) (e : Expr) (f : En → ER D) : Prop := PT X e (canT X.K cl W ms f)
def IA (X : Cx) (cl : Nat → Addr) (W : WX) (ms : List Md) (es : List Expr) (f : En → ER (List D)) (k : Kd) : Prop := PA X es (canA X.K cl W ms f k)

theorem pe_imp {X : Cx} {e : Expr} {t u : TE} (h : PE X e t) (i : ∀ s H Q, u s H Q → t s H Q) : PE X e u := ⟨fun pins s z H Q I q => h.run pins s z H Q I (i _ _ _ q)⟩
theorem pt_imp {X : Cx} {e : Expr} {t u : TT} (h : PT X e t) (i : ∀ s H Q, u s H Q → t s H Q) : PT X e u := ⟨fun pins s z H Q I q => h.run pins s z H Q I (i _ _ _ q)⟩
theorem pw_imp {X : Cx} {e : Expr} {t u : TT} (h : PW X e t) (i : ∀ s H Q, u s H Q → t s H Q) : PW X e u := ⟨fun wh pins s z H Q I q => h.run wh pins s z H Q I (i _ _ _ q)⟩
theorem pa_imp {X : Cx} {e : List Expr} {t u : TA} (h : PA X e t) (i : ∀ s H Q, u s H Q → t s H Q) : PA X e u := ⟨fun pos pins s z H Q I q => h.run pos pins s z H Q I (i _ _ _ q)⟩

/-! ### operations on trees -/
def LIM : Nat := 100000
theorem lim_line {n : Nat} (h : n ≤ LIM) : n ≤ sizeLine := Nat.le_trans h (by decide)
def ER.of {A : Type} : Option A → ER A
  | none => .stuck
  | some a => .val a
@[simp] theorem ER.of_some {A : Type} (a : A) : ER.of (some a) = .val a := rfl
@[simp] theorem ER.of_none {A : Type} : ER.of (none : Option A) = .stuck := rfl
theorem ER.ok_of {A : Type} {o : Option A} {P : A → Prop} {N : Nat → Prop} (h : (ER.of o).ok P N) : ∃ a, o = some a ∧ P a := by
  cases o with
  | none => exact h.elim
  | some a => exact ⟨a, rfl, h⟩
def un (h : D → Option D) (f : En → ER D) : En → ER D := fun r => (f r).bind fun a => .of (h a)
def bi (h : D → D → Option D) (f g : En → ER D) : En → ER D := fun r => (f r).bind fun a => (g r).bind fun b => .of (h a b)
def var (i : Nat) : En → ER D := fun r => match r[i]? with
  | some (some d) => .val d
  | _ => .stuck
def cst (d : D) : En → ER D := fun _ => .val d

section
variable {X : Cx} {cl : Nat → Addr} {W : WX} {ms : List Md}

theorem i_var {i : Nat} {x : Str} {pos : Pos} (hN : X.N[i]? = some x := by rfl) (hv : Vis X.env.scope x := by first | exact Or.inl rfl | exact Or.inr (Or.inl rfl) | exact Or.inr (Or.inr rfl)) (hd : (x == ("__debug__" : Str)) = false := by decide)
    (hcd : (x == ("__classdict__" : Str)) = false := by decide) : IE X cl W ms (.Name x pos) (var i) .bo := by
  refine pe_imp (pe_var hN hv hd hcd) fun s H Q ⟨r, O, Og, e, h⟩ => ?_
  unfold var at h
  split at h
  · rename_i d hr
    obtain ⟨v, F, m, Oi, h1, h2, h3, h4⟩ := e.sl i d hr
    exact ⟨v, h1, h v H F (Same.refl H) h2 h3 trivial⟩
  · exact h.elim
/-- of a slot whose lists aren't ours -/
theorem i_vars {i : Nat} {x : Str} {pos : Pos} (hm : ms[i]? = some .sh := by rfl) (hN : X.N[i]? = some x := by rfl) (hv : Vis X.env.scope x := by first | exact Or.inl rfl | exact Or.inr (Or.inl rfl) | exact Or.inr (Or.inr rfl)) (hd : (x == ("__debug__" : Str)) = false := by decide)
    (hcd : (x == ("__classdict__" : Str)) = false := by decide) : IE X cl W ms (.Name x pos) (var i) .sh := by
  refine pe_imp (pe_var hN hv hd hcd) fun s H Q ⟨r, O, Og, e, h⟩ => ?_
  unfold var at h
  split at h
  · rename_i d hr
    obtain ⟨v, F, m, Oi, h1, h2, h3, h4, h5, h6⟩ := e.sl i d hr
    rw [hm] at h4
    cases h4
    exact ⟨v, h1, h v H F (Same.refl H) h2 h3 h6.2⟩
  · exact h.elim
theorem i_cst {e : Expr} {v : V} {d : D} (h : PE X e (tC v)) (q : ∀ K H, Rep K H v d []) : IE X cl W ms e (cst d) .fr := by
  refine pe_imp h fun s H Q ⟨r, O, Og, e, h⟩ => ?_
  exact h v H [] (Same.refl H) (q _ _) (fun _ z => (nomatch z)) (KOk.nil (by decide))
theorem i_int {i : Int} {j : Nat} {pos : Pos} : IE X cl W ms (.Constant (.int i) j pos) (cst (.int i)) .fr := i_cst pe_int fun _ _ => .int _
theorem i_bl {b : Bool} {j : Nat} {pos : Pos} : IE X cl W ms (.Constant (.bool b) j pos) (cst (.bool b)) .fr := i_cst pe_bl fun _ _ => .bl _
theorem i_non {j : Nat} {pos : Pos} : IE X cl W ms (.Constant .none j pos) (cst .none) .fr := i_cst pe_non fun _ _ => .non
theorem i_str {x : Str} {j : Nat} {pos : Pos} : IE X cl W ms (.Constant (.str x) j pos) (cst (.str x)) .fr := i_cst pe_str fun _ _ => .str _
/-- a whole number of the module -/
theorem i_glob {x : Str} {i : Int} {t : Tok} {pos : Pos} (hm : X.mg x = some (.int i t)) (hg : Gl X x := by rfl) (hd : (x == ("__debug__" : Str)) = false := by decide) : IE X cl W ms (.Name x pos) (cst (.int i)) .fr :=
  i_cst (pe_glob (v := .int i) hg hm ⟨_, rfl⟩ hd) fun _ _ => .int _
/-- a weaker word on how new it is -/
theorem i_bo {e : Expr} {f : En → ER D} {k : Kd} (h : IE X cl W ms e f k) : IE X cl W ms e f .bo :=
  pe_imp h fun s H Q ⟨r, O, Og, e, h⟩ => ⟨r, O, Og, e, ER.ok_mono h (fun d _ q v G F a b c _ => q v G F a b c trivial) fun _ n => n⟩
end
end Mi

namespace Mi
open PySem L2

section
variable {K : Fg} {cl : Nat → Addr} {W : WX} {ms : List Md} {H : Hp} {s : L2.St} {r : En} {O : List (List Addr)} {Og : Addr → Prop} {f g : En → ER D} {ka kb : Kd}
/-- what is wanted of an error -/
abbrev Nx (cl : Nat → Addr) (W : WX) (s : L2.St) (H : Hp) : Nat → Prop := fun c => ∀ G, Same H G → W (.ref (cl c)) none s G
theorem Nx.on {H1 : Hp} {c : Nat} (n : Nx cl W s H c) (p : Same H H1) : Nx cl W s H1 c := fun G q => n G (p.trans q)
theorem one_ {B : Type} {p : D → ER B} {P : B → Prop} {R : V → Hp → Prop} (e : EnvR K H ms r s O Og) (h : ((f r).bind p).ok P (Nx cl W s H))
    (fin : ∀ d v G F, (p d).ok P (Nx cl W s H) → Same H G → Rep K G v d F → (∀ a ∈ F, Og a) → KOk ka H O.flatten v F → R v G) : canE K cl W ms f ka s H R :=
  ⟨r, O, Og, e, ER.ok_mono (ER.ok_bind h) (fun d _ q v G F a b c k => fin d v G F q a b c k) fun _ n => n⟩
theorem two_ {B : Type} {p : D → D → ER B} {P : B → Prop} {R : V → V → Hp → Prop} (e : EnvR K H ms r s O Og) (h : ((f r).bind fun a => (g r).bind fun b => p a b).ok P (Nx cl W s H))
    (fin : ∀ d1 d2 v1 v2 G J F1 F2, (p d1 d2).ok P (Nx cl W s H) → Same H G → Same G J → Rep K G v1 d1 F1 → Rep K J v2 d2 F2 → (∀ a ∈ F1, Og a) → (∀ a ∈ F2, Og a) → KOk ka H O.flatten v1 F1 → KOk kb G O.flatten v2 F2 → R v1 v2 J) :
    canE K cl W ms f ka s H fun v1 G => canE K cl W ms g kb s G fun v2 J => R v1 v2 J :=
  one_ e h fun d1 v1 G F1 q a b c k => ⟨r, O, Og, e.same a, ER.ok_mono (ER.ok_bind q) (fun d2 _ q2 v2 J F2 a2 b2 c2 k2 => fin d1 d2 v1 v2 G J F1 F2 q2 a a2 b b2 c c2 k k2) fun _ n => Nx.on n a⟩
end

/-! ### operations whose value has no list -/
/-- a one-place, a two-place rule by trees -/
def Sc1 (K : Fg) (q : V → Hp → VK → Prop) (h : D → Option D) : Prop := ∀ (G : Hp) (v : V) (a : D) (F : List Addr) (d : D) (Q : VK), h a = some d → Rep K G v a F → (∀ v, Rep K G v d [] → Q v G) → q v G Q
def Sc2 (K : Fg) (q : R2) (h : D → D → Option D) : Prop := ∀ (G : Hp) (v u : V) (a b : D) (F E : List Addr) (d : D) (Q : VK), h a b = some d → Rep K G v a F → Rep K G u b E → (∀ v, Rep K G v d [] → Q v G) → q v u G Q
section
variable {X : Cx} {cl : Nat → Addr} {W : WX} {ms : List Md} {a b : Expr} {f g : En → ER D} {ka kb : Kd} {pos : Pos}
theorem op2 {q : R2} {h : D → D → Option D} (hd : Sc2 X.K q h) {s : L2.St} {H : Hp} {Q : VK} (w : canE X.K cl W ms (bi h f g) .fr s H Q) : tOp q (canE X.K cl W ms f ka) (canE X.K cl W ms g kb) s H Q := by
  obtain ⟨r, O, Og, e, w⟩ := w
  refine two_ e w fun d1 d2 v1 v2 G J F1 F2 o a1 a2 r1 r2 _ _ _ _ => ?_
  obtain ⟨d, hh, o⟩ := ER.ok_of o
  exact hd J v1 v2 d1 d2 F1 F2 d Q hh (r1.same a2) r2 fun v rv => o v J [] (a1.trans a2) rv (fun _ z => (nomatch z)) (KOk.nil (by decide))
theorem i_bin0 {op : Operator} {q : R2} {h : D → D → Option D} (ho : OpR X (binaryOp op) q) (hd : Sc2 X.K q h) (ha : IE X cl W ms a f ka) (hb : IE X cl W ms b g kb) : IE X cl W ms (.BinOp a op b pos) (bi h f g) .fr :=
  pe_imp (pe_op ho ha hb) fun _ _ _ w => op2 hd w
theorem i_cmp0 {op : CmpOp} {q : R2} {h : D → D → Option D} (ho : OpR X (compareOp op) q) (hd : Sc2 X.K q h) (ha : IE X cl W ms a f ka) (hb : IE X cl W ms b g kb) (hm : behindInMarks op b = false) : IE X cl W ms (.Compare a [op] [b] pos) (bi h f g) .fr :=
  pe_imp (pe_cmpR ho ha hb hm) fun _ _ _ w => op2 hd w
/-- the same as a test -/
theorem t_cmp0 {op : CmpOp} {q : R2} {h : D → D → Option D} (ho : OpR X (compareOp op) q) (hd : Sc2 X.K q h) (ha : IE X cl W ms a f ka) (hb : IE X cl W ms b g kb) (hm : behindInMarks op b = false) : IT X cl W ms (.Compare a [op] [b] pos) (bi h f g) :=
  pt_imp (pt_cmpR ho ha hb hm) fun s H Q w => by
    obtain ⟨r, O, Og, e, w⟩ := w
    show tOp q _ _ s H _
    refine two_ e w fun d1 d2 v1 v2 G J F1 F2 o a1 a2 r1 r2 _ _ _ _ => ?_
    obtain ⟨d, hh, b, rfl, o⟩ := ER.ok_of o
    refine hd J v1 v2 d1 d2 F1 F2 _ _ hh (r1.same a2) r2 fun v rv => ?_
    cases rv
    exact ⟨b, rfl, o J (a1.trans a2)⟩
/-- a value that is True or False as a test -/
theorem t_val {k : Kd} (h : IE X cl W ms a f k) (he : ∀ whole, isTrue a X.env whole = (do let v ← whole; standAt a.pos; holding [v] (truthy v)) := by intro _; rfl) : IT X cl W ms a f :=
  pt_imp (pt_val h he) fun s H Q w => by
    obtain ⟨r, O, Og, e, w⟩ := w
    refine ⟨r, O, Og, e, ER.ok_mono w (fun d _ o v G F p rv _ _ => ?_) fun _ n => n⟩
    obtain ⟨b, rfl, o⟩ := o
    cases rv
    exact ⟨b, rfl, o G p⟩
theorem i_un0 {op : UnaryOp} {q : V → Hp → VK → Prop} {h : D → Option D} (ho : UnR X (unaryOp op) q) (hd : Sc1 X.K q h) (ha : IE X cl W ms a f ka) : IE X cl W ms (.UnaryOp op a pos) (un h f) .fr :=
  pe_imp (pe_un ho ha) fun s H Q w => by
    obtain ⟨r, O, Og, e, w⟩ := w
    show tUn q _ s H Q
    refine one_ e w fun d v G F o p rv _ _ => ?_
    obtain ⟨x, hh, o⟩ := ER.ok_of o
    exact hd G v d F x Q hh rv fun u ru => o u G [] p ru (fun _ z => (nomatch z)) (KOk.nil (by decide))
end

/-! ### whole numbers -/
def nn (h : Int → Int → Option D) : D → D → Option D
  | .int i, .int j => h i j
  | _, _ => none
@[simp] theorem nn_int (h : Int → Int → Option D) (i j : Int) : nn h (.int i) (.int j) = h i j := rfl
def dSub := nn fun i j => some (.int (i - j))
def dAddI := nn fun i j => some (.int (i + j))
def small (i : Int) : Bool := decide (-(2 ^ 64) < i ∧ i < 2 ^ 64)
def dMul := nn fun i j => if small i || small j then some (.int (i * j)) else none
def dMod := nn fun i j => if j = 0 then none else some (.int (i.fmod j))
def dLt := nn fun i j => some (.bool (decide (i < j)))
def dLe := nn fun i j => some (.bool (decide (i ≤ j)))
def dGt := nn fun i j => some (.bool (decide (j < i)))
def dGe := nn fun i j => some (.bool (decide (j ≤ i)))
def dNeg : D → Option D
  | .int i => some (.int (-i))
  | _ => none
theorem sc_I {C : Int → Int → Prop} {K : Fg} {g : Int → Int → V} {h : Int → Int → Option D} (hg : ∀ i j d, h i j = some d → C i j ∧ ∀ G, Rep K G (g i j) d []) : Sc2 K (rI C g) (nn h) := by
  intro G v u a b F E d Q e ra rb q
  cases a with
  | int i =>
    cases b with
    | int j =>
      cases ra
      cases rb
      obtain ⟨c, x⟩ := hg i j d e
      exact ⟨i, j, rfl, rfl, c, q _ (x G)⟩
    | _ => cases e
  | _ => cases e
theorem sc_I0 {K : Fg} {g : Int → Int → V} {h : Int → Int → Option D} (hg : ∀ i j d, h i j = some d → ∀ G, Rep K G (g i j) d []) : Sc2 K (rI0 g) (nn h) := by
  intro G v u a b F E d Q e ra rb q
  cases a with
  | int i =>
    cases b with
    | int j =>
      cases ra
      cases rb
      exact ⟨i, j, rfl, rfl, q _ (hg i j d e G)⟩
    | _ => cases e
  | _ => cases e
section
variable {X : Cx} {cl : Nat → Addr} {W : WX} {ms : List Md} {a b : Expr} {f g : En → ER D} {ka kb : Kd} {pos : Pos}
theorem i_addI (ha : IE X cl W ms a f ka) (hb : IE X cl W ms b g kb) : IE X cl W ms (.BinOp a .Add b pos) (bi dAddI f g) .fr := i_bin0 op_add (sc_I0 fun i j d e G => by cases e; exact .int _) ha hb
theorem i_sub (ha : IE X cl W ms a f ka) (hb : IE X cl W ms b g kb) : IE X cl W ms (.BinOp a .Sub b pos) (bi dSub f g) .fr := i_bin0 op_sub (sc_I0 fun i j d e G => by cases e; exact .int _) ha hb
theorem small_of {i : Int} (h : small i = true) : -(2 ^ 64) < i ∧ i < 2 ^ 64 := of_decide_eq_true h
theorem i_mul (ha : IE X cl W ms a f ka) (hb : IE X cl W ms b g kb) : IE X cl W ms (.BinOp a .Mult b pos) (bi dMul f g) .fr := i_bin0 op_mul (sc_I fun i j d e => by
  split at e
  · rename_i hc
    cases e
    rw [Bool.or_eq_true] at hc
    exact ⟨hc.imp small_of small_of, fun G => .int _⟩
  · cases e) ha hb
theorem i_mod (ha : IE X cl W ms a f ka) (hb : IE X cl W ms b g kb) : IE X cl W ms (.BinOp a .Mod b pos) (bi dMod f g) .fr := i_bin0 op_modN (sc_I fun i j d e => by
  split at e
  · cases e
  · rename_i hc
    cases e
    exact ⟨hc, fun G => .int _⟩) ha hb
theorem i_lt (ha : IE X cl W ms a f ka) (hb : IE X cl W ms b g kb) : IE X cl W ms (.Compare a [.Lt] [b] pos) (bi dLt f g) .fr := i_cmp0 op_lt (sc_I0 fun i j d e G => by cases e; exact .bl _) ha hb (nomark _)
theorem i_le (ha : IE X cl W ms a f ka) (hb : IE X cl W ms b g kb) : IE X cl W ms (.Compare a [.LtE] [b] pos) (bi dLe f g) .fr := i_cmp0 op_le (sc_I0 fun i j d e G => by cases e; exact .bl _) ha hb (nomark _)
theorem i_gt (ha : IE X cl W ms a f ka) (hb : IE X cl W ms b g kb) : IE X cl W ms (.Compare a [.Gt] [b] pos) (bi dGt f g) .fr := i_cmp0 op_gt (sc_I0 fun i j d e G => by cases e; exact .bl _) ha hb (nomark _)
theorem i_ge (ha : IE X cl W ms a f ka) (hb : IE X cl W ms b g kb) : IE X cl W ms (.Compare a [.GtE] [b] pos) (bi dGe f g) .fr := i_cmp0 op_ge (sc_I0 fun i j d e G => by cases e; exact .bl _) ha hb (nomark _)
theorem t_lt (ha : IE X cl W ms a f ka) (hb : IE X cl W ms b g kb) : IT X cl W ms (.Compare a [.Lt] [b] pos) (bi dLt f g) := t_cmp0 op_lt (sc_I0 fun i j d e G => by cases e; exact .bl _) ha hb (nomark _)
theorem t_le (ha : IE X cl W ms a f ka) (hb : IE X cl W ms b g kb) : IT X cl W ms (.Compare a [.LtE] [b] pos) (bi dLe f g) := t_cmp0 op_le (sc_I0 fun i j d e G => by cases e; exact .bl _) ha hb (nomark _)
theorem t_gt (ha : IE X cl W ms a f ka) (hb : IE X cl W ms b g kb) : IT X cl W ms (.Compare a [.Gt] [b] pos) (bi dGt f g) := t_cmp0 op_gt (sc_I0 fun i j d e G => by cases e; exact .bl _) ha hb (nomark _)
theorem t_ge (ha : IE X cl W ms a f ka) (hb : IE X cl W ms b g kb) : IT X cl W ms (.Compare a [.GtE] [b] pos) (bi dGe f g) := t_cmp0 op_ge (sc_I0 fun i j d e G => by cases e; exact .bl _) ha hb (nomark _)
theorem i_neg (ha : IE X cl W ms a f ka) : IE X cl W ms (.UnaryOp .USub a pos) (un dNeg f) .fr := i_un0 un_neg (fun G v a F d Q e ra q => by
  cases a with
  | int i => cases ra; cases e; exact ⟨i, rfl, q _ (.int _)⟩
  | _ => cases e) ha
end

/-! ### comparisons of any data -/
def dEqB (a b : D) : Option Bool := match a, b with
  | .dict ns, .list [] => if isDc (.dict ns) = true then none else some ns.isEmpty
  | a, b => if SeqAt.shaped a && SeqAt.shaped b then some (PyData.eqv a b) else none
def dEq (a b : D) : Option D := (dEqB a b).map PyData.bool
def dNe (a b : D) : Option D := (dEqB a b).map fun x => .bool (!x)
def isN : D → Bool
  | .none => true
  | _ => false
def dIs (a b : D) : Option D := match b with
  | .none => some (.bool (isN a))
  | .bool y => (match a with | .bool x => some (.bool (decide (x = y))) | _ => none)
  | _ => none
def dNot (a b : D) : Option D := match b with
  | .none => some (.bool (!isN a))
  | .bool y => (match a with | .bool x => some (.bool (!decide (x = y))) | _ => none)
  | _ => none
section
variable {X : Cx} {cl : Nat → Addr} {W : WX} {ms : List Md} {a b : Expr} {f g : En → ER D} {ka kb : Kd} {pos : Pos} {k : Nat}
theorem room_eq (hr : Room k X.A) : X.A.units + 64 < cLine := hr.units
theorem dEqB_of {K : Fg} {G : Hp} {v u : V} {a b : D} {F E : List Addr} {x : Bool} (e : dEqB a b = some x) (ra : Rep K G v a F) (rb : Rep K G u b E) :
    ∃ d e, Dp K G v d ∧ Dp K G u e ∧ SeqAt.shaped d = true ∧ SeqAt.shaped e = true ∧ PyData.eqv d e = x := by
  unfold dEqB at e
  split at e
  · cases ra with
    | dct hs hk => cases e
    | @ext p ns hs =>
      rw [show isDc (.dict (ns.map fun i => ((.none : D), .int i))) = false from isDc_lck ns] at e
      have e : some (ns.map fun i => ((.none : D), (.int i : D))).isEmpty = some x := e
      cases rb with
      | lst hb hl =>
        cases hl
        have hall : ∀ ns : List Int, DpAll K G (ns.map V.int) (ns.map PyData.int) := fun ns => by
          induction ns with
          | nil => exact .nil
          | cons n ns ih => exact .cons (.int n) ih
        have hc : ∀ ns : List Int, PyData.canLayAll0 (ns.map PyData.int) = true ∧ PyData.depthAll (ns.map PyData.int) = 0 := fun ns => by
          induction ns with
          | nil => simp [PyData.canLayAll0, PyData.depthAll]
          | cons n ns ih => simp [PyData.canLayAll0, PyData.depthAll, PyData.canLay0, PyData.depth, ih]
        refine ⟨.list (ns.map PyData.int), .list [], .lst hs.1 (hall ns), .lst (SqL.of hb) .nil, ?_, by decide +kernel, ?_⟩
        · unfold SeqAt.shaped
          rw [Bool.and_eq_true]
          exact ⟨by simp [PyData.canLay0, (hc ns).1], decide_eq_true (by simp [PyData.depth, (hc ns).2])⟩
        · cases e
          cases ns <;> simp [PyData.eqv, PyData.eqvAll]
  · split at e
    · rename_i hc
      cases e
      rw [Bool.and_eq_true] at hc
      exact ⟨a, b, Rep.dp _ _ _ ra (SeqAt.canLay_of_shaped hc.1), Rep.dp _ _ _ rb (SeqAt.canLay_of_shaped hc.2), hc.1, hc.2, rfl⟩
    · cases e
theorem sc_eq {K : Fg} : Sc2 K (rEqD K) dEq := fun G v u a b F E d Q e ra rb q => by
  unfold dEq at e
  obtain ⟨x, e1, rfl⟩ := Option.map_eq_some_iff.mp e
  obtain ⟨d, c, h1, h2, h3, h4, rfl⟩ := dEqB_of e1 ra rb
  exact ⟨d, c, h1, h2, h3, h4, q _ (.bl _)⟩
theorem sc_ne {K : Fg} : Sc2 K (rNeD K) dNe := fun G v u a b F E d Q e ra rb q => by
  unfold dNe at e
  obtain ⟨x, e1, rfl⟩ := Option.map_eq_some_iff.mp e
  obtain ⟨d, c, h1, h2, h3, h4, rfl⟩ := dEqB_of e1 ra rb
  exact ⟨d, c, h1, h2, h3, h4, q _ (.bl _)⟩
theorem i_eq (hr : Room k X.A) (ha : IE X cl W ms a f ka) (hb : IE X cl W ms b g kb) : IE X cl W ms (.Compare a [.Eq] [b] pos) (bi dEq f g) .fr := i_cmp0 (op_eqD hr.units) sc_eq ha hb (nomark _)
theorem i_ne (hr : Room k X.A) (ha : IE X cl W ms a f ka) (hb : IE X cl W ms b g kb) : IE X cl W ms (.Compare a [.NotEq] [b] pos) (bi dNe f g) .fr := i_cmp0 (op_neD hr.units) sc_ne ha hb (nomark _)
theorem t_eq (hr : Room k X.A) (ha : IE X cl W ms a f ka) (hb : IE X cl W ms b g kb) : IT X cl W ms (.Compare a [.Eq] [b] pos) (bi dEq f g) := t_cmp0 (op_eqD hr.units) sc_eq ha hb (nomark _)
theorem t_ne (hr : Room k X.A) (ha : IE X cl W ms a f ka) (hb : IE X cl W ms b g kb) : IT X cl W ms (.Compare a [.NotEq] [b] pos) (bi dNe f g) := t_cmp0 (op_neD hr.units) sc_ne ha hb (nomark _)
theorem isN_of {K : Fg} {G : Hp} {v : V} {a : D} {F : List Addr} (r : Rep K G v a F) : decide (v = .non) = isN a := by
  cases r <;> simp [isN, lck, Mi.dct]
theorem op_isD : OpR X (compareOp .Is) (fun x y H Q => (y = .non ∧ Q (.bl (decide (x = .non))) H) ∨ rIsB x y H Q) := op_isN.or op_isBl
theorem op_notD : OpR X (compareOp .IsNot) (fun x y H Q => (y = .non ∧ Q (.bl (!decide (x = .non))) H) ∨ rNotB x y H Q) := op_notN.or op_notBl
theorem sc_is {K : Fg} : Sc2 K (fun x y H Q => (y = .non ∧ Q (.bl (decide (x = .non))) H) ∨ rIsB x y H Q) dIs := fun G v u a b F E d Q e ra rb q => by
  cases b with
  | none => cases rb; cases e; exact .inl ⟨rfl, by rw [isN_of ra]; exact q _ (.bl _)⟩
  | bool y =>
    cases a with
    | bool x => cases rb; cases ra; cases e; exact .inr ⟨x, y, rfl, rfl, q _ (.bl _)⟩
    | _ => cases e
  | _ => cases e
theorem sc_not {K : Fg} : Sc2 K (fun x y H Q => (y = .non ∧ Q (.bl (!decide (x = .non))) H) ∨ rNotB x y H Q) dNot := fun G v u a b F E d Q e ra rb q => by
  cases b with
  | none => cases rb; cases e; exact .inl ⟨rfl, by rw [isN_of ra]; exact q _ (.bl _)⟩
  | bool y =>
    cases a with
    | bool x => cases rb; cases ra; cases e; exact .inr ⟨x, y, rfl, rfl, q _ (.bl _)⟩
    | _ => cases e
  | _ => cases e
theorem i_is (ha : IE X cl W ms a f ka) (hb : IE X cl W ms b g kb) : IE X cl W ms (.Compare a [.Is] [b] pos) (bi dIs f g) .fr := i_cmp0 op_isD sc_is ha hb (nomark _)
theorem i_nis (ha : IE X cl W ms a f ka) (hb : IE X cl W ms b g kb) : IE X cl W ms (.Compare a [.IsNot] [b] pos) (bi dNot f g) .fr := i_cmp0 op_notD sc_not ha hb (nomark _)
theorem t_is (ha : IE X cl W ms a f ka) (hb : IE X cl W ms b g kb) : IT X cl W ms (.Compare a [.Is] [b] pos) (bi dIs f g) := t_cmp0 op_isD sc_is ha hb (nomark _)
theorem t_nis (ha : IE X cl W ms a f ka) (hb : IE X cl W ms b g kb) : IT X cl W ms (.Compare a [.IsNot] [b] pos) (bi dNot f g) := t_cmp0 op_notD sc_not ha hb (nomark _)
end

/-! ### and, or, not -/
def tand (f g : En → ER D) : En → ER D := fun r => (f r).bind fun d => match d with
  | .bool true => g r
  | .bool false => .val (.bool false)
  | _ => .stuck
def tor (f g : En → ER D) : En → ER D := fun r => (f r).bind fun d => match d with
  | .bool true => .val (.bool true)
  | .bool false => g r
  | _ => .stuck
def dNo : D → Option D
  | .bool b => some (.bool (!b))
  | _ => none
section
variable {X : Cx} {cl : Nat → Addr} {W : WX} {ms : List Md} {a b : Expr} {rest : List Expr} {f g : En → ER D} {ka kb : Kd} {pos : Pos}
def IW (X : Cx) (cl : Nat → Addr) (W : WX) (ms : List Md) (e : Expr) (f : En → ER D) : Prop := PW X e (canT X.K cl W ms f)
theorem t_w (h : IW X cl W ms a f) : IT X cl W ms a f := PW.pt h
theorem w_and1 (h : IT X cl W ms a f) : IW X cl W ms (.BoolOp .And [a] pos) f := pw_and1 h
theorem w_or1 (h : IT X cl W ms a f) : IW X cl W ms (.BoolOp .Or [a] pos) f := pw_or1 h
theorem w_and (ha : IT X cl W ms a f) (hb : IW X cl W ms (.BoolOp .And (b :: rest) pos) g) : IW X cl W ms (.BoolOp .And (a :: b :: rest) pos) (tand f g) :=
  pw_imp (pw_and ha hb) fun s H Q ⟨r, O, Og, e, w⟩ => ⟨r, O, Og, e, ER.ok_mono (ER.ok_bind w) (fun d _ o => by
    cases d with
    | bool x =>
      refine ⟨x, rfl, fun G p => ?_⟩
      cases x with
      | true => exact iteT ⟨r, O, Og, e.same p, ER.ok_mono o (fun d _ ⟨y, q1, q2⟩ => ⟨y, q1, fun J p2 => q2 J (p.trans p2)⟩) fun _ n => Nx.on n p⟩
      | false =>
        obtain ⟨y, q1, q2⟩ := o
        cases q1
        exact iteF (q2 G p)
    | _ => exact o.elim) fun _ n => n⟩
theorem w_or (ha : IT X cl W ms a f) (hb : IW X cl W ms (.BoolOp .Or (b :: rest) pos) g) : IW X cl W ms (.BoolOp .Or (a :: b :: rest) pos) (tor f g) :=
  pw_imp (pw_or ha hb) fun s H Q ⟨r, O, Og, e, w⟩ => ⟨r, O, Og, e, ER.ok_mono (ER.ok_bind w) (fun d _ o => by
    cases d with
    | bool x =>
      refine ⟨x, rfl, fun G p => ?_⟩
      cases x with
      | false => exact iteF ⟨r, O, Og, e.same p, ER.ok_mono o (fun d _ ⟨y, q1, q2⟩ => ⟨y, q1, fun J p2 => q2 J (p.trans p2)⟩) fun _ n => Nx.on n p⟩
      | true =>
        obtain ⟨y, q1, q2⟩ := o
        cases q1
        exact iteT (q2 G p)
    | _ => exact o.elim) fun _ n => n⟩
theorem t_not (h : IT X cl W ms a f) : IT X cl W ms (.UnaryOp .Not a pos) (un dNo f) :=
  pt_imp (pt_not h) fun s H Q ⟨r, O, Og, e, w⟩ => ⟨r, O, Og, e, ER.ok_mono (ER.ok_bind w) (fun d _ o => by
    obtain ⟨x, e1, o⟩ := ER.ok_of o
    obtain ⟨b, rfl, q⟩ := o
    cases d with
    | bool y => cases e1; exact ⟨y, rfl, q⟩
    | _ => cases e1) fun _ n => n⟩
/-- as values -/
theorem i_one {op : BoolOp} (h : IE X cl W ms a f ka) : IE X cl W ms (.BoolOp op [a] pos) f ka := pe_one h
theorem i_and (ha : IE X cl W ms a f ka) (hb : IE X cl W ms (.BoolOp .And (b :: rest) pos) g kb) : IE X cl W ms (.BoolOp .And (a :: b :: rest) pos) (tand f g) .bo :=
  pe_imp (pe_and ha hb) fun s H Q ⟨r, O, Og, e, w⟩ => ⟨r, O, Og, e, ER.ok_mono (ER.ok_bind w) (fun d _ o v G F p rv _ _ => by
    cases d with
    | bool x =>
      cases rv
      refine ⟨x, rfl, ?_⟩
      cases x with
      | true => exact iteT ⟨r, O, Og, e.same p, ER.ok_mono o (fun d _ q u J E p2 ru og _ => q u J E (p.trans p2) ru og trivial) fun _ n => Nx.on n p⟩
      | false => exact iteF (o _ G [] p (.bl _) (fun _ z => (nomatch z)) trivial)
    | _ => exact o.elim) fun _ n => n⟩
theorem i_or (ha : IE X cl W ms a f ka) (hb : IE X cl W ms (.BoolOp .Or (b :: rest) pos) g kb) : IE X cl W ms (.BoolOp .Or (a :: b :: rest) pos) (tor f g) .bo :=
  pe_imp (pe_or ha hb) fun s H Q ⟨r, O, Og, e, w⟩ => ⟨r, O, Og, e, ER.ok_mono (ER.ok_bind w) (fun d _ o v G F p rv _ _ => by
    cases d with
    | bool x =>
      cases rv
      refine ⟨x, rfl, ?_⟩
      cases x with
      | false => exact iteF ⟨r, O, Og, e.same p, ER.ok_mono o (fun d _ q u J E p2 ru og _ => q u J E (p.trans p2) ru og trivial) fun _ n => Nx.on n p⟩
      | true => exact iteT (o _ G [] p (.bl _) (fun _ z => (nomatch z)) trivial)
    | _ => exact o.elim) fun _ n => n⟩
theorem i_no (h : IE X cl W ms a f ka) : IE X cl W ms (.UnaryOp .Not a pos) (un dNo f) .fr :=
  pe_imp (pe_not h) fun s H Q ⟨r, O, Og, e, w⟩ => ⟨r, O, Og, e, ER.ok_mono (ER.ok_bind w) (fun d _ o v G F p rv _ _ => by
    obtain ⟨x, e1, o⟩ := ER.ok_of o
    cases d with
    | bool y => cases rv; cases e1; exact ⟨y, rfl, o _ G [] p (.bl _) (fun _ z => (nomatch z)) (KOk.nil (by decide))⟩
    | _ => cases e1) fun _ n => n⟩
end
end Mi

namespace Mi
open PySem L2

theorem Same.new {H : Hp} {p : Addr} {o : HO} (h : H p = none) : Same H (upd H p o) := fun b u e => by
  rw [upd_ne (ne_of_none e h)]
  exact e
theorem sqT_new {K : Fg} {H : Hp} {p : Addr} {vs : List V} : SqT K (upd H p (.tup vs)) p vs := .inl (.inl upd_same)

/-! ### what a tree of a kind lies as -/
section
variable {K : Fg} {H : Hp} {v : V} {F : List Addr}
theorem Rep.tupE {ds : List D} (h : Rep K H v (.tuple ds) F) : ∃ a vs, v = .ref a ∧ SqT K H a vs ∧ RepL K H vs ds F := by
  cases h with
  | tup hs hl => exact ⟨_, _, rfl, hs, hl⟩
theorem Rep.lstE {ds : List D} (h : Rep K H v (.list ds) F) : ∃ a vs E, v = .ref a ∧ H a = some (.lst vs) ∧ RepL K H vs ds E ∧ F = a :: E := by
  cases h with
  | lst hs hl => exact ⟨_, _, _, rfl, hs, hl, rfl⟩
theorem Rep.intE {i : Int} (h : Rep K H v (.int i) F) : v = .int i ∧ F = [] := by
  cases h
  exact ⟨rfl, rfl⟩
end

/-! ### arguments -/
def anil : En → ER (List D) := fun _ => .val []
def acons (f : En → ER D) (g : En → ER (List D)) : En → ER (List D) := fun r => (f r).bind fun d => (g r).bind fun ds => .val (d :: ds)
section
variable {X : Cx} {cl : Nat → Addr} {W : WX} {ms : List Md} {a : Expr} {es : List Expr} {f : En → ER D} {g : En → ER (List D)} {ka kb : Kd}
theorem a_nil : IA X cl W ms [] anil .fr := pa_imp pa_nil fun s H Q ⟨r, O, Og, e, w⟩ => w [] H [] (Same.refl H) .nil (fun _ z => (nomatch z)) ⟨List.nodup_nil, fun _ z => (nomatch z)⟩
theorem KLk.cat {H G : Hp} {ms : List Md} {s : L2.St} {r : En} {O : List (List Addr)} {Og : Addr → Prop} (e : EnvR X.K H ms r s O Og) (p : Same H G) {v : V} {F E : List Addr} (n : AllL G F) (h1 : KOk ka H O.flatten v F) (h2 : KLk kb G O.flatten E) : KLk (ka.cat kb) H O.flatten (F ++ E) := by
  have eG := e.same p
  have both : ka ≠ .bo → kb ≠ .bo → ∀ a ∈ F ++ E, a ∉ O.flatten := fun n1 n2 a ha => by
    rcases List.mem_append.mp ha with ha | ha
    · exact KOk.shOf e h1 n1 a ha
    · exact KLk.shOf eG h2 n2 a ha
  cases ka <;> cases kb <;> first
    | exact trivial
    | exact both (by decide) (by decide)
    | skip
  refine ⟨List.nodup_append.mpr ⟨h1.1, h2.1, fun a ha b hb q => ?_⟩, fun a ha => ?_⟩
  · obtain ⟨xs, z⟩ := n a ha
    rw [q, h2.2 b hb] at z
    cases z
  · rcases List.mem_append.mp ha with ha | ha
    · exact h1.2 a ha
    · exact p.free (h2.2 a ha)
theorem a_cons (ha : IE X cl W ms a f ka) (hr : IA X cl W ms es g kb) (hs : starEach (a :: es) X.env = (false, eval a X.env) :: starEach es X.env := by rfl) : IA X cl W ms (a :: es) (acons f g) (ka.cat kb) :=
  pa_imp (pa_cons ha hr hs) fun s H Q ⟨r, O, Og, e, w⟩ => by
    show tCons _ _ s H Q
    refine one_ e w fun d v G F q p rv og kv => ⟨r, O, Og, e.same p, ER.ok_mono (ER.ok_bind q) (fun ds _ q2 vs J E p2 rvs og2 kvs => ?_) fun _ n => Nx.on n p⟩
    refine q2 (v :: vs) J (F ++ E) (p.trans p2) (.cons (rv.same p2) rvs) (fun a ha => ?_) (KLk.cat e p (Rep.nodes _ _ _ rv) kv kvs)
    rcases List.mem_append.mp ha with ha | ha
    · exact og a ha
    · exact og2 a ha
end

/-! ### displays -/
def ltup (g : En → ER (List D)) : En → ER D := fun r => (g r).bind fun ds => .of (if ds.length ≤ LIM then some (.tuple ds) else none)
def llst (g : En → ER (List D)) : En → ER D := fun r => (g r).bind fun ds => .of (if ds.length ≤ LIM then some (.list ds) else none)
def Kd.tp : Kd → Kd
  | .fr => .fr
  | .bo => .bo
  | _ => .sh
section
variable {X : Cx} {cl : Nat → Addr} {W : WX} {ms : List Md} {es : List Expr} {g : En → ER (List D)} {k : Kd} {pos : Pos}
theorem KLk.tup {H : Hp} {ms : List Md} {s : L2.St} {r : En} {O : List (List Addr)} {Og : Addr → Prop} (e : EnvR X.K H ms r s O Og) {v : V} {F : List Addr} (h : KLk k H O.flatten F) : KOk k.tp H O.flatten v F := by
  cases k with
  | fr => exact h
  | f1 => exact h
  | sh => exact h
  | bo => trivial
theorem KLk.lst {H G : Hp} {ms : List Md} {s : L2.St} {r : En} {O : List (List Addr)} {Og : Addr → Prop} (e : EnvR X.K H ms r s O Og) (p : Same H G) {a : Addr} (ha : G a = none) {F : List Addr} (n : AllL G F) (h : KLk k H O.flatten F) : KOk k.top H O.flatten (.ref a) (a :: F) := by
  have nm : ∀ b ∈ F, b ≠ a := fun b hb q => by
    obtain ⟨xs, z⟩ := n b hb
    rw [q, ha] at z
    cases z
  cases k with
  | fr => exact ⟨List.nodup_cons.mpr ⟨fun hm => nm a hm rfl, h.1⟩, fun b hb => by
      rcases List.mem_cons.mp hb with rfl | hb
      · exact p.free ha
      · exact h.2 b hb⟩
  | f1 => exact ⟨a, F, rfl, rfl, p.free ha, fun b hb => ⟨nm b hb, h b hb⟩⟩
  | sh => exact ⟨a, F, rfl, rfl, p.free ha, fun b hb => ⟨nm b hb, h b hb⟩⟩
  | bo => trivial
theorem ifL {n : Nat} {d x : D} (h : (if n ≤ LIM then some d else none) = some x) : n ≤ LIM ∧ x = d := by
  split at h
  · cases h
    exact ⟨by assumption, rfl⟩
  · cases h
theorem i_tup {j} (h : IA X cl W ms es g k) : IE X cl W ms (.Tuple es j pos) (ltup g) k.tp :=
  pe_imp (pe_tup h) fun s H Q ⟨r, O, Og, e, w⟩ => ⟨r, O, Og, e, ER.ok_mono (ER.ok_bind w) (fun ds _ q vs G F p rv og kv => by
    obtain ⟨x, h1, q⟩ := ER.ok_of q
    obtain ⟨hl, rfl⟩ := ifL h1
    refine ⟨by rw [rv.len]; exact lim_line hl, fun a ha => ?_⟩
    exact q _ _ F (p.trans (Same.new ha)) (.tup sqT_new (rv.same (Same.new ha))) og (KLk.tup e kv)) fun _ n => n⟩
theorem i_lst (h : IA X cl W ms es g k) : IE X cl W ms (.List es pos) (llst g) k.top :=
  pe_imp (pe_lst h) fun s H Q ⟨r, O, Og, e, w⟩ => ⟨r, O, Og, e, ER.ok_mono (ER.ok_bind w) (fun ds _ q vs G F p rv og kv => by
    obtain ⟨x, h1, q⟩ := ER.ok_of q
    obtain ⟨hl, rfl⟩ := ifL h1
    refine ⟨by rw [rv.len]; exact lim_line hl, fun a ha => ?_⟩
    refine q _ _ (a :: F) (p.trans (Same.new ha)) (.lst upd_same (rv.same (Same.new ha))) (fun b hb => ?_) (KLk.lst e p ha (RepL.nodes _ _ _ rv) kv)
    rcases List.mem_cons.mp hb with rfl | hb
    · exact e.fg _ (p.free ha)
    · exact og b hb) fun _ n => n⟩
end

/-! ### subscripts -/
def dIdx : D → D → Option D
  | .list l, .int i => atI l i
  | .tuple l, .int i => atI l i
  | .dict l, .int i => if isDc (.dict l) = true then none else (atI l i).map (·.2)
  | .str x, .int i => if x.length ≤ LIM then (atI x.cps.toList i).map fun c => .str ⟨#[c]⟩ else none
  | _, _ => none
def Kd.el : Kd → Kd
  | .fr => .fr
  | .bo => .bo
  | _ => .sh
theorem atI_rep {K : Fg} {H : Hp} {vs : List V} {ds : List D} {F : List Addr} (h : RepL K H vs ds F) {i : Int} {d : D} (e : atI ds i = some d) : ∃ v E, atI vs i = some v ∧ Rep K H v d E ∧ E.Sublist F := by
  unfold atI at e
  cases hj : ixN ds.length i with
  | none => rw [hj] at e; cases e
  | some j =>
    rw [hj] at e
    obtain ⟨v, E, h1, h2, h3⟩ := h.get (i := j) e
    refine ⟨v, E, ?_, h2, h3⟩
    unfold atI
    rw [h.len, hj]
    exact h1
theorem atI_map {A B : Type} (f : A → B) (l : List A) (i : Int) : atI (l.map f) i = (atI l i).map f := by
  unfold atI
  rw [List.length_map]
  cases ixN l.length i with
  | none => rfl
  | some j => simp
theorem KOk.part {k : Kd} {K : Fg} {H : Hp} {ms : List Md} {s : L2.St} {r : En} {O : List (List Addr)} {Og : Addr → Prop} (e : EnvR K H ms r s O Og) {v u : V} {F E : List Addr} (h : KOk k H O.flatten v F) (p : Mi.Sub E F) : KOk k.el H O.flatten u E := by
  cases k with
  | fr => exact ⟨p.2 h.1, fun a ha => h.2 a (p.1 a ha)⟩
  | f1 => exact fun a ha => KOk.shOf e h (by decide) a (p.1 a ha)
  | sh => exact fun a ha => h a (p.1 a ha)
  | bo => trivial
section
variable {X : Cx} {cl : Nat → Addr} {W : WX} {ms : List Md} {a b : Expr} {f g : En → ER D} {ka kb : Kd} {pos p2 : Pos}
theorem ix_of {K : Fg} {G : Hp} {v u : V} {d1 d2 d : D} {F E : List Addr} (h : dIdx d1 d2 = some d) (r1 : Rep K G v d1 F) (r2 : Rep K G u d2 E) : ∃ x F', (∀ Q : VK, Q x G → rIx K v u G Q) ∧ Rep K G x d F' ∧ F'.Sublist F := by
  cases d2 with
  | int i =>
    obtain ⟨rfl, _⟩ := r2.intE
    cases d1 with
    | list l =>
      obtain ⟨a, vs, E', rfl, h1, h2, rfl⟩ := r1.lstE
      obtain ⟨x, F', h3, h4, h5⟩ := atI_rep h2 h
      exact ⟨x, F', fun Q q => .inl ⟨a, vs, i, x, rfl, rfl, SqL.of h1, h3, q⟩, h4, h5.trans (List.sublist_cons_self _ _)⟩
    | tuple l =>
      obtain ⟨a, vs, rfl, h1, h2⟩ := r1.tupE
      obtain ⟨x, F', h3, h4, h5⟩ := atI_rep h2 h
      exact ⟨x, F', fun Q q => .inr (.inl ⟨a, vs, i, x, rfl, rfl, h1, h3, q⟩), h4, h5⟩
    | dict l =>
      cases r1 with
      | dct hs hk => cases h
      | @ext a ns hs =>
        rw [show dIdx (.dict (ns.map fun i => ((.none : D), .int i))) (.int i) = (atI (ns.map fun i => ((.none : D), (.int i : D))) i).map (·.2) from if_neg (by rw [show isDc (.dict (ns.map fun i => ((.none : D), .int i))) = false from isDc_lck ns]; decide), atI_map, Option.map_map] at h
        obtain ⟨z, e1, e2⟩ := Option.map_eq_some_iff.mp h
        refine ⟨.int z, [], fun Q q => .inl ⟨a, ns.map V.int, i, .int z, rfl, rfl, hs.1, by rw [atI_map, e1]; rfl, q⟩, ?_, List.Sublist.refl _⟩
        cases e2
        exact .int z
    | str x =>
      have h' : (if x.length ≤ LIM then (atI x.cps.toList i).map fun c => (PyData.str ⟨#[c]⟩) else none) = some d := h
      split at h'
      · rename_i hl
        obtain ⟨c, e1, rfl⟩ := Option.map_eq_some_iff.mp h'
        cases r1
        exact ⟨.str ⟨#[c]⟩, [], fun Q q => .inr (.inr ⟨x, i, c, rfl, rfl, lim_line hl, e1, q⟩), .str _, List.nil_sublist _⟩
      · cases h'
    | _ => cases h
  | _ => cases d1 <;> cases h
theorem i_ix (ha : IE X cl W ms a f ka) (hb : IE X cl W ms b g kb) (hs : PlainIx b := by exact fun _ _ => rfl) : IE X cl W ms (.Subscript a b pos) (bi dIdx f g) ka.el :=
  pe_imp (pe_ix ix_seq ha hb hs) fun s H Q ⟨r, O, Og, e, w⟩ => by
    show tOp _ _ _ s H Q
    refine two_ e w fun d1 d2 v1 v2 G J F1 F2 o a1 a2 r1 r2 g1 g2 k1 k2 => ?_
    obtain ⟨d, hh, o⟩ := ER.ok_of o
    obtain ⟨x, F', h1, h2, h3⟩ := ix_of hh (r1.same a2) r2
    exact h1 Q (o x J F' (a1.trans a2) h2 (fun a ha => g1 a (h3.subset ha)) (KOk.part e k1 (Mi.Sub.of h3)))

/-! ### slices -/
def canO (K : Fg) (cl : Nat → Addr) (W : WX) (ms : List Md) (f : En → ER (Option Int)) : TO := fun s H Q => ∃ r O Og, EnvR K H ms r s O Og ∧ (f r).ok (fun o => ∀ G, Same H G → Q o G) (Nx cl W s H)
def IO (X : Cx) (cl : Nat → Addr) (W : WX) (ms : List Md) (e : Option Expr) (f : En → ER (Option Int)) : Prop := PO X e (canO X.K cl W ms f)
def onone : En → ER (Option Int) := fun _ => .val none
def osome (f : En → ER D) : En → ER (Option Int) := fun r => (f r).bind fun d => match d with
  | .int i => .val (some i)
  | _ => .stuck
theorem o_none : IO X cl W ms none onone := ⟨fun pins s z H Q I ⟨r, O, Og, e, w⟩ => po_none.run pins s z H Q I (w H (Same.refl H))⟩
theorem o_some (h : IE X cl W ms a f ka) : IO X cl W ms (some a) (osome f) := ⟨fun pins s z H Q I ⟨r, O, Og, e, w⟩ => (po_some h).run pins s z H Q I
  ⟨r, O, Og, e, ER.ok_mono (ER.ok_bind w) (fun d _ q v G F p rv _ _ => by
    cases d with
    | int i =>
      cases rv
      exact ⟨i, rfl, q G p⟩
    | _ => exact q.elim) fun _ n => n⟩⟩
def cutD {A : Type} (xs : List A) (lo hi : Option Int) : List A := (xs.drop (HT.sIx xs.length 0 lo)).take (HT.sIx xs.length xs.length hi - HT.sIx xs.length 0 lo)
theorem RepL.cutD {K : Fg} {H : Hp} {vs : List V} {ds : List D} {F : List Addr} (h : RepL K H vs ds F) (lo hi : Option Int) : ∃ E, RepL K H (cutV vs lo hi) (Mi.cutD ds lo hi) E ∧ E.Sublist F := by
  unfold cutV Mi.cutD
  rw [h.len]
  obtain ⟨E, h1, h2⟩ := h.drop (HT.sIx ds.length 0 lo)
  obtain ⟨E', h3, h4⟩ := h1.take (HT.sIx ds.length ds.length hi - HT.sIx ds.length 0 lo)
  exact ⟨E', h3, h4.trans h2⟩
theorem cutD_whole {A : Type} {xs : List A} {lo hi : Option Int} (h : HT.sIx xs.length 0 lo = 0 ∧ HT.sIx xs.length xs.length hi = xs.length) : Mi.cutD xs lo hi = xs := by
  unfold Mi.cutD
  rw [h.1, h.2, List.drop_zero, Nat.sub_zero, List.take_length]
def sl (h : D → Option Int → Option Int → Option D) (f : En → ER D) (lo hi : En → ER (Option Int)) : En → ER D := fun r => (f r).bind fun d => (lo r).bind fun x => (hi r).bind fun y => .of (h d x y)
def dSlT (d : D) (lo hi : Option Int) : Option D := match d with
  | .tuple l => some (.tuple (Mi.cutD l lo hi))
  | _ => none
def dSlL (d : D) (lo hi : Option Int) : Option D := match d with
  | .list l => some (.list (Mi.cutD l lo hi))
  | _ => none
variable {lo hi : Option Expr} {fl fh : En → ER (Option Int)}
theorem sl_ {rr : V → Option Int → Option Int → Hp → VK → Prop} {h : D → Option Int → Option Int → Option D} {k : Kd} {s : L2.St} {H : Hp} {Q : VK} (w : canE X.K cl W ms (sl h f fl fh) k s H Q)
    (fin : ∀ r O Og d v G F lo hi x, EnvR X.K H ms r s O Og → h d lo hi = some x → Same H G → Rep X.K G v d F → (∀ a ∈ F, Og a) → (∃ J, KOk ka J O.flatten v F ∧ Same H J ∧ Same J G) → (∀ u J E, Same H J → Rep X.K J u x E → (∀ a ∈ E, Og a) → KOk k H O.flatten u E → Q u J) → rr v lo hi G Q) :
    tSl rr (canE X.K cl W ms f ka) (canO X.K cl W ms fl) (canO X.K cl W ms fh) s H Q := by
  obtain ⟨r, O, Og, e, w⟩ := w
  refine one_ e w fun d v G F q p rv og kv => ⟨r, O, Og, e.same p, ER.ok_mono (ER.ok_bind q) (fun x _ q J p2 => ⟨r, O, Og, (e.same p).same p2, ER.ok_mono (ER.ok_bind q) (fun y _ q L p3 => ?_) fun _ n => Nx.on (Nx.on n p) p2⟩) fun _ n => Nx.on n p⟩
  obtain ⟨z, h1, q⟩ := ER.ok_of q
  exact fin r O Og d v L F x y z e h1 ((p.trans p2).trans p3) ((rv.same p2).same p3) og ⟨H, kv, Same.refl H, (p.trans p2).trans p3⟩ q
theorem i_slT (ha : IE X cl W ms a f ka) (hl : IO X cl W ms lo fl) (hh : IO X cl W ms hi fh) : IE X cl W ms (.Subscript a (.Slice lo hi none p2) pos) (sl dSlT f fl fh) ka.el :=
  pe_imp (pe_slice sl_tupA ha hl hh) fun s H Q w => sl_ w fun r O Og d v G F lo hi x e h p rv og ⟨J, kv, p1, p2⟩ q => by
    cases d with
    | tuple l =>
      cases h
      obtain ⟨a, vs, rfl, h1, h2⟩ := rv.tupE
      refine ⟨a, vs, rfl, h1, fun hw => ?_, fun _ b hb => ?_⟩
      · rw [h2.len] at hw
        exact q _ G F p (by rw [cutD_whole hw]; exact rv) og (KOk.part e (kv.back p1) (Mi.Sub.refl F))
      · obtain ⟨E, h3, h4⟩ := h2.cutD lo hi
        exact q _ _ E (p.trans (Same.new hb)) (.tup sqT_new (h3.same (Same.new hb))) (fun a ha => og a (h4.subset ha)) (KOk.part e (kv.back p1) (Mi.Sub.of h4))
    | _ => cases h
/-- the items of a list, in a new list -/
theorem KOk.newL {k : Kd} {K : Fg} {H G : Hp} {ms : List Md} {s : L2.St} {r : En} {O : List (List Addr)} {Og : Addr → Prop} (e : EnvR K H ms r s O Og) (p : Same H G) {v : V} {b : Addr} {F E : List Addr} (hb : G b = none) (n : AllL G E) (h : KOk k H O.flatten v F) (q : Mi.Sub E F) :
    KOk k.top H O.flatten (.ref b) (b :: E) := by
  have nm : ∀ c ∈ E, c ≠ b := fun c hc z => by
    obtain ⟨xs, y⟩ := n c hc
    rw [z, hb] at y
    cases y
  cases k with
  | fr => exact ⟨List.nodup_cons.mpr ⟨fun hm => nm b hm rfl, q.2 h.1⟩, fun c hc => by
      rcases List.mem_cons.mp hc with rfl | hc
      · exact p.free hb
      · exact h.2 c (q.1 c hc)⟩
  | f1 => exact ⟨b, E, rfl, rfl, p.free hb, fun c hc => ⟨nm c hc, KOk.shOf e h (by decide) c (q.1 c hc)⟩⟩
  | sh => exact ⟨b, E, rfl, rfl, p.free hb, fun c hc => ⟨nm c hc, h c (q.1 c hc)⟩⟩
  | bo => trivial
theorem og_cons {K : Fg} {H : Hp} {ms : List Md} {s : L2.St} {r : En} {O : List (List Addr)} {Og : Addr → Prop} (e : EnvR K H ms r s O Og) {b : Addr} {E : List Addr} (hb : H b = none) (h : ∀ a ∈ E, Og a) : ∀ a ∈ b :: E, Og a := fun c hc => by
  rcases List.mem_cons.mp hc with rfl | hc
  · exact e.fg _ hb
  · exact h c hc
theorem i_slL (ha : IE X cl W ms a f ka) (hl : IO X cl W ms lo fl) (hh : IO X cl W ms hi fh) : IE X cl W ms (.Subscript a (.Slice lo hi none p2) pos) (sl dSlL f fl fh) ka.top :=
  pe_imp (pe_slice sl_list ha hl hh) fun s H Q w => sl_ w fun r O Og d v G F lo hi x e h p rv og ⟨J, kv, p1, p2⟩ q => by
    cases d with
    | list l =>
      cases h
      obtain ⟨a, vs, E, rfl, h1, h2, rfl⟩ := rv.lstE
      refine ⟨a, vs, rfl, SqL.of h1, fun b hb => ?_⟩
      obtain ⟨E', h3, h4⟩ := h2.cutD lo hi
      have sub : E'.Sublist (a :: E) := h4.trans (List.sublist_cons_self _ _)
      exact q _ _ (b :: E') (p.trans (Same.new hb)) (.lst upd_same (h3.same (Same.new hb))) (og_cons e (p.free hb) fun c hc => og c (sub.subset hc)) (KOk.newL e p hb (RepL.nodes _ _ _ h3) (kv.back p1) (Mi.Sub.of sub))
    | _ => cases h
def dRevL : D → Option D
  | .list l => some (.list l.reverse)
  | _ => none
theorem i_revL {k : Nat} {p1 p2 p3 : Pos} (ha : IE X cl W ms a f ka) : IE X cl W ms (.Subscript a (.Slice none none (some (.UnaryOp .USub (.Constant (.int 1) k p1) p2)) p3) pos) (un dRevL f) ka.top :=
  pe_imp (pe_revL ha) fun s H Q ⟨r, O, Og, e, w⟩ => by
    show tRevL X.K _ s H Q
    refine one_ e w fun d v G F q p rv og kv => ?_
    obtain ⟨x, h, q⟩ := ER.ok_of q
    cases d with
    | list l =>
      cases h
      obtain ⟨a, vs, E, rfl, h1, h2, rfl⟩ := rv.lstE
      refine ⟨a, vs, rfl, SqL.of h1, fun b hb => ?_⟩
      obtain ⟨E', h3, h4⟩ := h2.rev
      have sub : Mi.Sub E' (a :: E) := ⟨fun c hc => List.mem_cons_of_mem _ (h4.subset hc), fun n => h4.nodup_iff.mpr (List.nodup_cons.mp n).2⟩
      exact q _ _ (b :: E') (p.trans (Same.new hb)) (.lst upd_same (h3.same (Same.new hb))) (og_cons e (p.free hb) fun c hc => og c (sub.1 c hc)) (KOk.newL e p hb (RepL.nodes _ _ _ h3) kv sub)
    | _ => cases h
end

/-! ### + of any kind; of lists -/
def dAdd : D → D → Option D
  | .int i, .int j => some (.int (i + j))
  | .str x, .str y => if x.length + y.length ≤ LIM then some (.str (x ++ y)) else none
  | .tuple x, .tuple y => if x.length + y.length ≤ LIM then some (.tuple (x ++ y)) else none
  | _, _ => none
def dCat : D → D → Option D
  | .list x, .list y => if x.length + y.length ≤ LIM then some (.list (x ++ y)) else none
  | _, _ => none
section
variable {X : Cx} {cl : Nat → Addr} {W : WX} {ms : List Md} {a b : Expr} {f g : En → ER D} {ka kb : Kd} {pos p2 : Pos}
theorem KOk.cat {H G : Hp} {ms : List Md} {s : L2.St} {r : En} {O : List (List Addr)} {Og : Addr → Prop} (e : EnvR X.K H ms r s O Og) (p : Same H G) {v u w : V} {F E : List Addr} (n : AllL G F) (h1 : KOk ka H O.flatten v F) (h2 : KOk kb G O.flatten u E) : KOk (ka.cat kb) H O.flatten w (F ++ E) := by
  have eG := e.same p
  have both : ka ≠ .bo → kb ≠ .bo → ∀ a ∈ F ++ E, a ∉ O.flatten := fun n1 n2 a ha => by
    rcases List.mem_append.mp ha with ha | ha
    · exact KOk.shOf e h1 n1 a ha
    · exact KOk.shOf eG h2 n2 a ha
  cases ka <;> cases kb <;> first
    | exact trivial
    | exact both (by decide) (by decide)
    | skip
  refine ⟨List.nodup_append.mpr ⟨h1.1, h2.1, fun a ha b hb q => ?_⟩, fun a ha => ?_⟩
  · obtain ⟨xs, z⟩ := n a ha
    rw [q, h2.2 b hb] at z
    cases z
  · rcases List.mem_append.mp ha with ha | ha
    · exact h1.2 a ha
    · exact p.free (h2.2 a ha)
theorem Kd.cat_f1 (a b : Kd) : a.cat b ≠ .f1 := by cases a <;> cases b <;> decide
def rAddD (K : Fg) : R2 := fun x y H Q => (rI0 (fun i j => .int (i + j)) x y H Q ∨ (∃ i j, x = .str i ∧ y = .str j ∧ i.length + j.length ≤ sizeLine ∧ Q (.str (i ++ j)) H)) ∨ rCatA K x y H Q
theorem op_addD : OpR X (binaryOp .Add) (rAddD X.K) := (op_add.or op_add_str).or op_catA
theorem i_add (ha : IE X cl W ms a f ka) (hb : IE X cl W ms b g kb) : IE X cl W ms (.BinOp a .Add b pos) (bi dAdd f g) (ka.cat kb) :=
  pe_imp (pe_op op_addD ha hb) fun s H Q ⟨r, O, Og, e, w⟩ => by
    show tOp _ _ _ s H Q
    refine two_ e w fun d1 d2 v1 v2 G J F1 F2 o a1 a2 r1 r2 g1 g2 k1 k2 => ?_
    obtain ⟨d, hh, o⟩ := ER.ok_of o
    cases d1 with
    | int i =>
      cases d2 with
      | int j =>
        cases hh
        cases r1
        cases r2
        exact .inl (.inl ⟨i, j, rfl, rfl, o _ J [] (a1.trans a2) (.int _) (fun _ z => (nomatch z)) (KOk.nil (Kd.cat_f1 _ _))⟩)
      | _ => cases hh
    | str i =>
      cases d2 with
      | str j =>
        obtain ⟨hl, rfl⟩ := ifL hh
        cases r1
        cases r2
        exact .inl (.inr ⟨i, j, rfl, rfl, lim_line hl, o _ J [] (a1.trans a2) (.str _) (fun _ z => (nomatch z)) (KOk.nil (Kd.cat_f1 _ _))⟩)
      | _ => cases hh
    | tuple x =>
      cases d2 with
      | tuple y =>
        obtain ⟨hl, rfl⟩ := ifL hh
        obtain ⟨a, vs, rfl, h1, h2⟩ := (r1.same a2).tupE
        obtain ⟨b, us, rfl, h3, h4⟩ := r2.tupE
        have og : ∀ a ∈ F1 ++ F2, Og a := fun a ha => (List.mem_append.mp ha).elim (g1 a) (g2 a)
        have kk : ∀ w, KOk (ka.cat kb) H O.flatten w (F1 ++ F2) := fun w => KOk.cat e a1 (Rep.nodes _ _ _ r1) k1 k2
        have rr : RepL X.K J (vs ++ us) (x ++ y) (F1 ++ F2) := h2.app h4
        refine .inr ⟨a, b, vs, us, rfl, rfl, h1, h3, by rw [h2.len, h4.len]; exact lim_line hl, fun hx => ?_, fun _ hy => ?_, fun _ _ c hc => ?_⟩
        · subst hx
          exact o _ J (F1 ++ F2) (a1.trans a2) (.tup h3 rr) og (kk _)
        · subst hy
          rw [List.append_nil] at rr
          exact o _ J (F1 ++ F2) (a1.trans a2) (.tup h1 rr) og (kk _)
        · exact o _ _ (F1 ++ F2) ((a1.trans a2).trans (Same.new hc)) (.tup sqT_new (rr.same (Same.new hc))) og (kk _)
      | _ => cases hh
    | _ => cases d2 <;> cases hh
theorem i_cat (ha : IE X cl W ms a f ka) (hb : IE X cl W ms b g kb) : IE X cl W ms (.BinOp a .Add b pos) (bi dCat f g) (ka.cat kb).top :=
  pe_imp (pe_op op_cat ha hb) fun s H Q ⟨r, O, Og, e, w⟩ => by
    show tOp _ _ _ s H Q
    refine two_ e w fun d1 d2 v1 v2 G J F1 F2 o a1 a2 r1 r2 g1 g2 k1 k2 => ?_
    obtain ⟨d, hh, o⟩ := ER.ok_of o
    cases d1 with
    | list x =>
      cases d2 with
      | list y =>
        obtain ⟨hl, rfl⟩ := ifL hh
        have n1 := Rep.nodes _ _ _ r1
        obtain ⟨a, vs, E1, rfl, h1, h2, e1⟩ := (r1.same a2).lstE
        obtain ⟨b, us, E2, rfl, h3, h4, e2⟩ := r2.lstE
        refine ⟨a, b, vs, us, rfl, rfl, h1, h3, by rw [h2.len, h4.len]; exact lim_line hl, fun c hc => ?_⟩
        have rr := h2.app h4
        have sub : (E1 ++ E2).Sublist (F1 ++ F2) := by
          rw [e1, e2]
          exact List.Sublist.append (List.sublist_cons_self _ _) (List.sublist_cons_self _ _)
        refine o _ _ (c :: (E1 ++ E2)) ((a1.trans a2).trans (Same.new hc)) (.lst upd_same (rr.same (Same.new hc))) (og_cons e ((a1.trans a2).free hc) fun z hz => (List.mem_append.mp (sub.subset hz)).elim (g1 z) (g2 z)) ?_
        exact KOk.newL (v := V.non) e (a1.trans a2) hc (RepL.nodes _ _ _ rr) (KOk.cat e a1 n1 k1 k2) (Mi.Sub.of sub)
      | _ => cases hh
    | _ => cases d2 <;> cases hh
end

end Mi

namespace Mi
open PySem L2

/-! ### slots set -/
section
variable {K : Fg} {H : Hp} {ms : List Md} {r : En} {s : L2.St} {O : List (List Addr)} {Og : Addr → Prop}
/-- a slot that owns nothing takes a value -/
theorem EnvR.put (e : EnvR K H ms r s O Og) {x : Nat} {d : D} {v : V} {F : List Addr} (hm : ms[x]? = some .bo ∨ (ms[x]? = some .sh ∧ ∀ a ∈ F, a ∉ O.flatten)) (rv : Rep K H v d F) (og : ∀ a ∈ F, Og a) : EnvR K H ms (r.set x (some d)) (s.set x (some v)) O Og := by
  have hx : x < ms.length := by
    rcases hm with h | ⟨h, _⟩ <;> exact (List.getElem?_eq_some_iff.mp h).1
  have hxr : x < r.length := by rw [← e.lm]; exact hx
  have hxs : x < s.length := by rw [e.ls]; exact hxr
  have hxo : x < O.length := by rw [e.lo]; exact hxr
  have ho : O[x]? = some [] := by
    cases hr : r[x] with
    | none => exact e.no x (by rw [List.getElem?_eq_getElem hxr, hr])
    | some d' =>
      obtain ⟨v', F', m, Oi, _, _, _, h4, h5, h6⟩ := e.sl x d' (by rw [List.getElem?_eq_getElem hxr, hr])
      rw [h5]
      rcases hm with h | ⟨h, _⟩
      · rw [h] at h4
        cases h4
        exact congrArg _ h6
      · rw [h] at h4
        cases h4
        exact congrArg _ h6.1
  refine ⟨by rw [List.length_set, List.length_set]; exact e.ls, by rw [List.length_set]; exact e.lo, by rw [List.length_set]; exact e.lm, fun i d' h => ?_, fun i h => ?_, e.nd, e.fg⟩
  · by_cases hi : x = i
    · subst hi
      rw [List.getElem?_set_self hxr] at h
      cases h
      rcases hm with q | ⟨q, q2⟩
      · exact ⟨v, F, .bo, [], List.getElem?_set_self hxs, rv, og, q, ho, rfl⟩
      · exact ⟨v, F, .sh, [], List.getElem?_set_self hxs, rv, og, q, ho, rfl, q2⟩
    · rw [List.getElem?_set_ne hi] at h
      obtain ⟨v', F', m, Oi, h1, h2⟩ := e.sl i d' h
      exact ⟨v', F', m, Oi, by rw [List.getElem?_set_ne hi]; exact h1, h2⟩
  · by_cases hi : x = i
    · subst hi
      rw [List.getElem?_set_self hxr] at h
      cases h
    · rw [List.getElem?_set_ne hi] at h
      exact e.no i h
/-- fewer origins, where what is held is among them -/
theorem EnvR.less (e : EnvR K H ms r s O Og) {G : Hp} (p : Same H G) {Pg : Addr → Prop} (h : ∀ a, Og a → (∃ o, H a = some o) → Pg a) (h2 : ∀ a, G a = none → Pg a) : EnvR K G ms r s O Pg :=
  ⟨e.ls, e.lo, e.lm, fun i d q => by
    obtain ⟨v, F, m, Oi, h1, h3, h4, h5⟩ := e.sl i d q
    exact ⟨v, F, m, Oi, h1, h3.same p, fun a ha => h a (h4 a ha) (by
      obtain ⟨xs, z⟩ := Rep.nodes _ _ _ h3 a ha
      exact ⟨_, z⟩), h5⟩, e.no, e.nd, h2⟩
end

/-! ### what is walked -/
/-- J walks vs as long as S holds; S asks the lists at fp to stay -/
structure Walk (J : It) (vs : List V) (fp : List Addr) (S : Hp → Prop) : Prop where
  go : ∀ H i, S H → i < vs.length → J.go i H
  yld : ∀ H i x H', S H → i < vs.length → J.yld i H x H' → H' = H ∧ vs[i]? = some x
  stop : ∀ H i, S H → vs.length ≤ i → J.stop i H
  keep : ∀ H G O, S H → Stp O H G → AllL H O → (∀ b ∈ fp, b ∉ O) → S G
  node : ∀ H, S H → AllL H fp
theorem walk_l {K : Fg} {a : Addr} {vs : List V} : Walk (Itl K a) vs [a] (fun H => H a = some (.lst vs)) where
  go := fun H i h hi => ⟨vs, vs[i], SqL.of h, by simp [hi]⟩
  yld := fun H i x H' h _ y => ⟨y.1, y.2 vs (SqL.of h)⟩
  stop := fun H i h hi => ⟨vs, SqL.of h, hi⟩
  keep := fun H G O h p l n => p a _ h (n a (List.mem_singleton.mpr rfl))
  node := fun H h b hb => by rw [List.mem_singleton.mp hb]; exact ⟨⟨_, .l _⟩, h⟩
theorem walk_t {K : Fg} {a : Addr} {vs : List V} : Walk (Itt K a) vs [] (fun H => SqT K H a vs) where
  go := fun H i h hi => ⟨vs, vs[i], h, by simp [hi]⟩
  yld := fun H i x H' h _ y => ⟨y.1, y.2 vs h⟩
  stop := fun H i h hi => ⟨vs, h, hi⟩
  keep := fun H G O h p l n => p.rdT l h
  node := fun _ _ _ z => (nomatch z)
def ivs (lo : Int) (n : Nat) : List V := (List.range n).map fun i => V.int (lo + (i : Nat))
def ids (lo : Int) (n : Nat) : List D := (List.range n).map fun i => .int (lo + (i : Nat))
theorem ivs_len (lo : Int) (n : Nat) : (ivs lo n).length = n := by simp [ivs]
theorem walk_r {lo : Int} {n : Nat} : Walk (Itr lo n) (ivs lo n) [] (fun _ => True) where
  go := fun H i _ hi => by rw [ivs_len] at hi; exact hi
  yld := fun H i x H' _ hi y => ⟨y.1, by
    rw [ivs_len] at hi
    rw [y.2]
    simp [ivs, hi]⟩
  stop := fun H i _ hi => by rw [ivs_len] at hi; exact hi
  keep := fun _ _ _ _ _ _ _ => trivial
  node := fun _ _ _ z => (nomatch z)
theorem rep_ids (K : Fg) (H : Hp) : ∀ (l : List Nat) (lo : Int), RepL K H (l.map fun i => V.int (lo + (i : Nat))) (l.map fun i => .int (lo + (i : Nat))) []
  | [], _ => .nil
  | i :: l, lo => .cons (.int _) (rep_ids K H l lo)

def canI (K : Fg) (cl : Nat → Addr) (W : WX) (ms : List Md) (f : En → ER (List D)) (k : Kd) : TI := fun s H R => ∃ r O Og, EnvR K H ms r s O Og ∧
  (f r).ok (fun ds => ∀ J vs fp S F G, Same H G → Walk J vs fp S → S G → RepL K G vs ds F → (∀ a ∈ fp ++ F, Og a) → (k ≠ .bo → ∀ a ∈ fp ++ F, a ∉ O.flatten) → R J G) (Nx cl W s H)
def II (X : Cx) (cl : Nat → Addr) (W : WX) (ms : List Md) (tg iter : Expr) (f : En → ER (List D)) (k : Kd) : Prop := PI X tg iter (canI X.K cl W ms f k)
def seqOf : D → ER (List D)
  | .list l => .val l
  | .tuple l => .val l
  | _ => .stuck
def its (f : En → ER D) : En → ER (List D) := fun r => (f r).bind seqOf
def okR (i : Int) : Bool := decide (-100000 ≤ i ∧ i ≤ 100000)
def dRng1 : List D → Option (List D)
  | [.int i] => if okR i then some (ids 0 i.toNat) else none
  | _ => none
def dRng2 : List D → Option (List D)
  | [.int i, .int j] => if okR i && okR j then some (ids i (j - i).toNat) else none
  | _ => none
def rng1 (g : En → ER (List D)) : En → ER (List D) := fun r => (g r).bind fun ds => .of (dRng1 ds)
def rng2 (g : En → ER (List D)) : En → ER (List D) := fun r => (g r).bind fun ds => .of (dRng2 ds)
def iSeq (K : Fg) (tl : TE) : TI := fun s H R => tl s H fun x H1 => ∃ a, x = .ref a ∧ ((∃ xs, SqL K H1 a xs ∧ R (Itl K a) H1) ∨ ∃ xs, SqT K H1 a xs ∧ R (Itt K a) H1)
section
variable {X : Cx} {cl : Nat → Addr} {W : WX} {ms : List Md} {tg a b : Expr} {f g : En → ER D} {ka kb : Kd} {p pos : Pos}
theorem pi_seq {l : Expr} {tl : TE} (hl : PE X l tl) : PI X tg l (iSeq X.K tl) := by
  refine ⟨fun pins s z H R I h => ?_⟩
  refine thn (hl.run pins s z H _ I h) fun v s1 ⟨x, H1, I1, r1, q1⟩ => ?_
  obtain ⟨a, rfl, q | q⟩ := q1
  · obtain ⟨xs, hq, q⟩ := q
    have hl' : ∀ w s, RelV (.ref a) w → Inv X pins z H1 s → wpAny (model X.prog X.w) X.A (pyIter w) (PIE X pins z tg R) X.xe s := fun w s rw' I => by
      cases rw'
      obtain ⟨its, rv, p, hz⟩ := I.list hq
      refine wpAny_pyIter_list p.isList ?_
      refine ⟨s.heap.objs.size, [s.heap.objs.size], _, _, H1, rfl, I.kept (t' := s.toks) fun b o e => Heap.get?_push_of_some _ e, turn_list a _, ⟨_, Heap.get?_push_size _ rfl, rfl, rfl⟩, fun b hb => ?_, q⟩
      have e : b = s.heap.objs.size := by simpa using hb
      subst e
      exact I.fpOk (Nat.le_refl _) (I.hok.fresh (Nat.le_refl _))
    exact hl' v s1 r1 I1
  · obtain ⟨xs, hq, q⟩ := q
    have hl' : ∀ w s, RelV (.ref a) w → Inv X pins z H1 s → wpAny (model X.prog X.w) X.A (pyIter w) (PIE X pins z tg R) X.xe s := fun w s rw' I => by
      cases rw'
      obtain ⟨its, rv, p, hz⟩ := I.tuple hq
      refine PySem.wpAny_pyIter_tuple (show s.heap.IsTuple a its.toArray from p) ?_
      refine ⟨s.heap.objs.size, [s.heap.objs.size], _, _, H1, rfl, I.kept (t' := s.toks) fun b o e => Heap.get?_push_of_some _ e, turn_tuple a _, ⟨_, Heap.get?_push_size _ rfl, rfl, rfl⟩, fun b hb => ?_, q⟩
      have e : b = s.heap.objs.size := by simpa using hb
      subst e
      exact I.fpOk (Nat.le_refl _) (I.hok.fresh (Nat.le_refl _))
    exact hl' v s1 r1 I1
theorem pi_imp {e : Expr} {t u : TI} (h : PI X tg e t) (i : ∀ s H Q, u s H Q → t s H Q) : PI X tg e u := ⟨fun pins s z H Q I q => h.run pins s z H Q I (i _ _ _ q)⟩
theorem it_seq (h : IE X cl W ms a f ka) : II X cl W ms tg a (its f) ka :=
  pi_imp (pi_seq h) fun s H R ⟨r, O, Og, e, w⟩ => by
    show iSeq X.K _ s H R
    refine one_ e w fun d v G F q p rv og kv => ?_
    cases d with
    | list l =>
      obtain ⟨a, vs, E, rfl, h1, h2, rfl⟩ := rv.lstE
      exact ⟨a, rfl, .inl ⟨vs, SqL.of h1, q _ vs [a] _ E G p walk_l h1 h2 og fun n => KOk.shOf e kv n⟩⟩
    | tuple l =>
      obtain ⟨a, vs, rfl, h1, h2⟩ := rv.tupE
      exact ⟨a, rfl, .inr ⟨vs, h1, q _ vs [] _ F G p walk_t h1 h2 og fun n => KOk.shOf e kv n⟩⟩
    | _ => exact q.elim
theorem okR_of {i : Int} (h : okR i = true) : -(2 ^ 62) ≤ i ∧ i < 2 ^ 62 := by
  have := of_decide_eq_true h
  omega
theorem dRng1_of {ds x : List D} (h : dRng1 ds = some x) : ∃ i, ds = [.int i] ∧ okR i = true ∧ x = ids 0 i.toNat := by
  unfold dRng1 at h
  split at h
  · split at h
    · rename_i i hi
      cases h
      exact ⟨i, rfl, hi, rfl⟩
    · cases h
  · cases h
theorem dRng2_of {ds x : List D} (h : dRng2 ds = some x) : ∃ i j, ds = [.int i, .int j] ∧ okR i = true ∧ okR j = true ∧ x = ids i (j - i).toNat := by
  unfold dRng2 at h
  split at h
  · split at h
    · rename_i i j hi
      cases h
      rw [Bool.and_eq_true] at hi
      exact ⟨i, j, rfl, hi.1, hi.2, rfl⟩
    · cases h
  · cases h
theorem RepL.ints {K : Fg} {H : Hp} {vs : List V} {i : Int} {F : List Addr} (h : RepL K H vs [.int i] F) : vs = [.int i] := by
  cases h with
  | cons r1 r2 =>
    cases r2
    cases r1
    rfl
theorem RepL.ints2 {K : Fg} {H : Hp} {vs : List V} {i j : Int} {F : List Addr} (h : RepL K H vs [.int i, .int j] F) : vs = [.int i, .int j] := by
  cases h with
  | cons r1 r2 =>
    cases r1
    rw [r2.ints]
variable {ga : En → ER (List D)}
theorem it_rng1 (hm : X.mg "range" = none) (h : IA X cl W ms [a] ga ka) (hg : Gl X "range" := by rfl) (hs : starEach [a] X.env = [(false, eval a X.env)] := by rfl) : II X cl W ms tg (.Call (.Name "range" p) [a] [] pos) (rng1 ga) .fr :=
  pi_imp (pi_range1 hg hm h hs) fun s H R ⟨r, O, Og, e, w⟩ => ⟨r, O, Og, e, ER.ok_mono (ER.ok_bind w) (fun ds _ q vs G F p rv og kv => by
    obtain ⟨x, h1, q⟩ := ER.ok_of q
    obtain ⟨i, rfl, hi, rfl⟩ := dRng1_of h1
    obtain ⟨b1, b2⟩ := okR_of hi
    exact ⟨i, rv.ints, b1, b2, q _ _ [] _ [] G p walk_r trivial (rep_ids _ _ _ _) (fun _ z => (nomatch z)) fun _ _ z => (nomatch z)⟩) fun _ n => n⟩
theorem it_rng2 (hm : X.mg "range" = none) (h : IA X cl W ms [a, b] ga ka) (hg : Gl X "range" := by rfl) (hs : starEach [a, b] X.env = [(false, eval a X.env), (false, eval b X.env)] := by rfl) (hs2 : starEach [b] X.env = [(false, eval b X.env)] := by rfl) : II X cl W ms tg (.Call (.Name "range" p) [a, b] [] pos) (rng2 ga) .fr :=
  pi_imp (pi_range2 hg hm h hs hs2) fun s H R ⟨r, O, Og, e, w⟩ => ⟨r, O, Og, e, ER.ok_mono (ER.ok_bind w) (fun ds _ q vs G F p rv og kv => by
    obtain ⟨x, h1, q⟩ := ER.ok_of q
    obtain ⟨i, j, rfl, hi, hj, rfl⟩ := dRng2_of h1
    obtain ⟨b1, b2⟩ := okR_of hi
    obtain ⟨b3, b4⟩ := okR_of hj
    exact ⟨i, j, rv.ints2, ⟨b1, b2, b3, b4⟩, q _ _ [] _ [] G p walk_r trivial (rep_ids _ _ _ _) (fun _ z => (nomatch z)) fun _ _ z => (nomatch z)⟩) fun _ n => n⟩
end

/-! ### comprehensions -/
def lcGo (x : Nat) (t e : En → ER D) (r : En) : List D → ER (List D)
  | [] => .val []
  | d :: ds => match t (r.set x (some d)) with
    | .val (.bool true) => (match e (r.set x (some d)) with
      | .val y => (lcGo x t e r ds).bind fun ys => .val (y :: ys)
      | _ => .stuck)
    | .val (.bool false) => lcGo x t e r ds
    | _ => .stuck
def lc (x : Nat) (f : En → ER (List D)) (t e : En → ER D) : En → ER D := fun r => (f r).bind fun ds => (lcGo x t e r ds).bind fun ys => .of (if ds.length ≤ LIM then some (.list ys) else none)
theorem lcGo_len {x : Nat} {t e : En → ER D} {r : En} : ∀ {ds ys : List D}, lcGo x t e r ds = .val ys → ys.length ≤ ds.length
  | [], ys, h => by
    cases h
    exact Nat.le_refl _
  | d :: ds, ys, h => by
    unfold lcGo at h
    split at h
    · split at h
      · cases q : lcGo x t e r ds with
        | val zs =>
          rw [q] at h
          cases h
          simpa using lcGo_len q
        | stuck => rw [q] at h; cases h
        | exn c => rw [q] at h; cases h
      · cases h
    · exact Nat.le_trans (lcGo_len h) (Nat.le_succ _)
    · cases h
/-- around a comprehension's body nothing is let out -/
abbrev W0 : WX := fun _ _ _ _ => False
/-- how the items are held in a comprehension's own slot -/
def LcM (ms : List Md) (x : Nat) (k : Kd) : Prop := ms[x]? = some .bo ∨ (ms[x]? = some .sh ∧ k ≠ .bo)
section
variable {K : Fg} {cl : Nat → Addr} {W : WX} {ms : List Md} {x : Nat} {f : En → ER (List D)} {t e : En → ER D} {k ke : Kd}
/-- what has been made behind some items -/
structure LcInv (K : Fg) (H : Hp) (ms : List Md) (r : En) (s : L2.St) (O : List (List Addr)) (Og : Addr → Prop) (ke : Kd) (L : Addr) (S : Hp → Prop) (F : List Addr) (vs : List V) (ds ys : List D) (G : Hp) : Prop where
  same : Same H G
  st : S G
  src : RepL K G vs ds F
  made : ∃ us E, G L = some (.lst us) ∧ RepL K G us ys E ∧ (∀ a ∈ E, Og a ∧ a ≠ L) ∧ KLk ke H O.flatten E
theorem lc_red (hm : LcM ms x k) {s : L2.St} {H : Hp} {Q : VK} (w : canE K cl W ms (lc x f t e) ke.top s H Q) : tLc (canI K cl W ms f k) (gName x) (canT K cl W0 ms t) (canE K cl W0 ms e ke) [x] s H Q := by
  obtain ⟨r, O, Og, en, w⟩ := w
  refine ⟨r, O, Og, en, ER.ok_mono (ER.ok_bind w) (fun ds _ q J vs fp S F G p wk hS rv og nb L hL => ?_) fun _ n => n⟩
  have q := ER.ok_bind q
  cases hgo : lcGo x t e r ds with
  | stuck => rw [hgo] at q; exact q.elim
  | exn c =>
    exfalso
    have : ∀ ds : List D, lcGo x t e r ds ≠ .exn c := fun ds => by
      induction ds with
      | nil => intro h; cases h
      | cons d ds ih =>
        intro h
        unfold lcGo at h
        split at h
        · split at h
          · cases q : lcGo x t e r ds with
            | val zs => rw [q] at h; cases h
            | stuck => rw [q] at h; cases h
            | exn c' => rw [q] at h; cases h; exact ih q
          · cases h
        · exact ih h
        · cases h
    exact this ds hgo
  | val ys =>
    rw [hgo] at q
    obtain ⟨z, hz, q⟩ := ER.ok_of q
    obtain ⟨hlen, rfl⟩ := ifL hz
    have hHL : H L = none := p.free hL
    have hsame0 : Same G (upd G L (.lst [])) := Same.new hL
    have lstep : ∀ {J1 : Hp} {us us' : List V}, J1 L = some (.lst us) → Stp [L] J1 (upd J1 L (.lst us')) ∧ AllL J1 [L] := fun {J1 us us'} h => ⟨fun b o hb nb => by
      rw [upd_ne (fun z => nb (by rw [z]; exact List.mem_singleton.mpr rfl))]
      exact hb, fun b hb => by rw [List.mem_singleton.mp hb]; exact ⟨⟨_, .l us⟩, h⟩⟩
    have fpL : ∀ b ∈ fp, b ∉ [L] := fun b hb z => by
      obtain ⟨xs, y⟩ := wk.node _ hS b hb
      rw [List.mem_singleton.mp z, hL] at y
      cases y
    have nFL : ∀ b ∈ F, b ∉ [L] := fun b hb z => by
      obtain ⟨xs, y⟩ := RepL.nodes _ _ _ rv b hb
      rw [List.mem_singleton.mp z, hL] at y
      cases y
    refine ⟨fun i m G1 => m = vs.length - i ∧ i ≤ vs.length ∧ ∃ done rest, lcGo x t e r (ds.drop i) = .val rest ∧ ys = done ++ rest ∧ done.length ≤ i ∧ LcInv K H ms r s O Og ke L S F vs ds done G1,
      ⟨vs.length, by simp, Nat.zero_le _, [], ys, hgo, rfl, Nat.le_refl _, p.trans hsame0, wk.keep _ _ [] hS (same_stp hsame0) (fun _ z => (nomatch z)) (fun _ _ z => nomatch z), rv.same hsame0, [], [], upd_same, .nil, (fun _ z => (nomatch z)), ?_⟩, ?_⟩
    · cases ke with
      | fr => exact ⟨List.nodup_nil, fun _ z => (nomatch z)⟩
      | f1 => exact fun _ z => (nomatch z)
      | sh => exact fun _ z => (nomatch z)
      | bo => trivial
    · rintro i m G1 ⟨rfl, hi, done, rest, hrest, hys, hdl, inv⟩
      obtain ⟨us, E, hL1, rE, oE, kE⟩ := inv.made
      by_cases hlt : i < vs.length
      · refine .inr ⟨wk.go _ _ inv.st hlt, fun G2 => ∃ done rest, lcGo x t e r (ds.drop (i + 1)) = .val rest ∧ ys = done ++ rest ∧ done.length ≤ i + 1 ∧ LcInv K H ms r s O Og ke L S F vs ds done G2,
          fun G2 h2 => ⟨vs.length - (i + 1), by omega, rfl, hlt, h2⟩, fun v G2 hy => ?_⟩
        obtain ⟨rfl, hv⟩ := wk.yld _ _ _ _ inv.st hlt hy
        have hd : i < ds.length := by rw [← rv.len]; exact hlt
        obtain ⟨v', Fi, e1, rvi, sbi⟩ := inv.src.get (i := i) (d := ds[i]) (List.getElem?_eq_getElem hd)
        rw [hv] at e1
        cases e1
        show wipe ((wipe s [x]).set x (some v)) [x] = wipe s [x] ∧ _
        refine ⟨by show (List.set (List.set (List.set s x none) x (some v)) x none) = List.set s x none; rw [List.set_set, List.set_set], ?_⟩
        have hset : (wipe s [x]).set x (some v) = s.set x (some v) := by show (List.set (List.set s x none) x (some v)) = _; rw [List.set_set]
        rw [hset]
        have en2 : EnvR K G2 ms r s O (fun a => Og a ∧ a ≠ L) := en.less inv.same (fun a h1 ⟨o, h2⟩ => ⟨h1, fun z => by rw [z, hHL] at h2; cases h2⟩) fun a ha => ⟨en.fg a (inv.same.free ha), fun z => by rw [z, hL1] at ha; cases ha⟩
        have en3 : EnvR K G2 ms (r.set x (some ds[i])) (s.set x (some v)) O (fun a => Og a ∧ a ≠ L) := by
          refine en2.put (F := Fi) ?_ rvi fun a ha => ⟨og a (List.mem_append_right _ (sbi.subset ha)), fun z => nFL a (sbi.subset ha) (by rw [z]; exact List.mem_singleton.mpr rfl)⟩
          rcases hm with h | ⟨h, h2⟩
          · exact .inl h
          · exact .inr ⟨h, fun a ha => nb h2 a (List.mem_append_right _ (sbi.subset ha))⟩
        rw [List.drop_eq_getElem_cons hd] at hrest
        unfold lcGo at hrest
        cases ht : t (r.set x (some ds[i])) with
        | stuck => rw [ht] at hrest; cases hrest
        | exn c => rw [ht] at hrest; cases hrest
        | val b =>
          rw [ht] at hrest
          cases b with
          | bool b =>
            refine ⟨_, O, _, en3, ?_⟩
            rw [ht]
            refine ⟨b, rfl, fun G3 p3 => ?_⟩
            cases b with
            | false =>
              refine iteF ⟨done, rest, hrest, hys, by omega, inv.same.trans p3, wk.keep _ _ [] inv.st (same_stp p3) (fun _ z => (nomatch z)) (fun _ _ z => nomatch z), inv.src.same p3, us, E, p3 _ _ hL1, rE.same p3, oE, kE⟩
            | true =>
              refine iteT ⟨_, O, _, en3.same p3, ?_⟩
              cases he : e (r.set x (some ds[i])) with
              | stuck => simp only [he] at hrest; cases hrest
              | exn c => simp only [he] at hrest; cases hrest
              | val y =>
                simp only [he] at hrest
                cases hr2 : lcGo x t e r (ds.drop (i + 1)) with
                | stuck => rw [hr2] at hrest; cases hrest
                | exn c => rw [hr2] at hrest; cases hrest
                | val rest2 =>
                  rw [hr2] at hrest
                  cases hrest
                  intro u G4 F4 p4 ru og4 k4
                  have hL4 := p4 _ _ (p3 _ _ hL1)
                  have hus : us.length ≤ LIM := by
                    rw [rE.len]
                    omega
                  refine ⟨us, hL4, Nat.lt_of_le_of_lt hus (by decide), done ++ [y], rest2, rfl, by rw [hys, List.append_assoc]; rfl, by rw [List.length_append, List.length_singleton]; omega, ?_⟩
                  obtain ⟨st1, st2⟩ := lstep (us' := us ++ [u]) hL4
                  have p34 := p3.trans p4
                  have hu4 : ∀ a ∈ F4, a ∉ [L] := fun a ha z => (og4 a ha).2 (List.mem_singleton.mp z)
                  refine ⟨fun b o hb => ?_, wk.keep _ _ [L] (wk.keep _ _ [] inv.st (same_stp p34) (fun _ z => (nomatch z)) fun _ _ z => nomatch z) st1 st2 fpL, RepL.stp st1 st2 _ _ _ (inv.src.same p34) nFL, us ++ [u], E ++ F4, upd_same, ?_, ?_, ?_⟩
                  · rw [upd_ne (ne_of_none hb hHL)]
                    exact p34 _ _ (inv.same _ _ hb)
                  · refine RepL.stp st1 st2 _ _ _ ((rE.same p34).app (.one ru)) fun a ha => ?_
                    rcases List.mem_append.mp ha with ha | ha
                    · exact fun z => (oE a ha).2 (List.mem_singleton.mp z)
                    · exact hu4 a ha
                  · intro a ha
                    rcases List.mem_append.mp ha with ha | ha
                    · exact oE a ha
                    · exact og4 a ha
                  · have nE := RepL.nodes _ _ _ rE
                    have k4' : KOk ke H O.flatten u F4 := k4.back (inv.same.trans p3)
                    cases ke with
                    | fr =>
                      refine ⟨List.nodup_append.mpr ⟨kE.1, k4'.1, fun a ha b hb z => ?_⟩, fun a ha => ?_⟩
                      · obtain ⟨xs, y1⟩ := nE a ha
                        have := k4.2 b hb
                        rw [← z, p3 _ _ y1] at this
                        cases this
                      · rcases List.mem_append.mp ha with ha | ha
                        · exact kE.2 a ha
                        · exact k4'.2 a ha
                    | f1 =>
                      intro a ha
                      rcases List.mem_append.mp ha with ha | ha
                      · exact kE a ha
                      · exact KOk.shOf en k4' (by decide) a ha
                    | sh =>
                      intro a ha
                      rcases List.mem_append.mp ha with ha | ha
                      · exact kE a ha
                      · exact k4' a ha
                    | bo => trivial
          | _ => cases hrest
      · have e0 : i = vs.length := by omega
        subst e0
        refine .inl ⟨wk.stop _ _ inv.st (Nat.le_refl _), ?_⟩
        rw [rv.len, List.drop_length] at hrest
        cases hrest
        rw [List.append_nil] at hys
        subst hys
        refine q (.ref L) G1 (L :: E) inv.same (.lst hL1 rE) (og_cons en hHL fun a ha => (oE a ha).1) ?_
        have nE := RepL.nodes _ _ _ rE
        cases ke with
        | fr => exact ⟨List.nodup_cons.mpr ⟨fun hm => (oE L hm).2 rfl, kE.1⟩, fun b hb => by
            rcases List.mem_cons.mp hb with rfl | hb
            · exact hHL
            · exact kE.2 b hb⟩
        | f1 => exact ⟨L, E, rfl, rfl, hHL, fun b hb => ⟨(oE b hb).2, kE b hb⟩⟩
        | sh => exact ⟨L, E, rfl, rfl, hHL, fun b hb => ⟨(oE b hb).2, kE b hb⟩⟩
        | bo => trivial
end
end Mi

namespace Mi
open PySem L2

/-! ### comprehensions as expressions -/
section
variable {X : Cx} {cl : Nat → Addr} {W : WX} {ms : List Md} {x i : Nat} {f : En → ER (List D)} {t e : En → ER D} {k ke : Kd} {elt iter : Expr} {ifs : List Expr} {scope : Scope} {y z : Str} {py pz pos spos : Pos}
abbrev BC (X : Cx) (P : Cx → Prop) (scope : Scope) : Prop := ∀ (s : Shared) (H : Hp) (C : Addr) (l : List (Str × Addr)) (fp : List Addr), P (X.blk s H scope (compEnvC scope l C X.env) fp)
theorem i_lc (hm : LcM ms x k) (hi : II X cl W ms (.Name y py) iter f k) (ok : BlkOk X.N X.env.scope scope [(y, x)]) (hN : X.N.Nodup) (hc : X.calm = true)
    (hg : ∀ (s : Shared) (H : Hp) (C : Addr) (l : List (Str × Addr)) (fp : List Addr), PG (X.blk s H scope (compEnvC scope l C X.env) fp) (.Name y py) (gName x))
    (ht : ∀ (s : Shared) (H : Hp) (C : Addr) (l : List (Str × Addr)) (fp : List Addr), PTs (X.blk s H scope (compEnvC scope l C X.env) fp) ifs (canT X.K cl W0 ms t))
    (he : ∀ (s : Shared) (H : Hp) (C : Addr) (l : List (Str × Addr)) (fp : List Addr), IE (X.blk s H scope (compEnvC scope l C X.env) fp) cl W0 ms elt e ke) (hs : ∀ x, foldedSetIterable iter X.env x = pure x := by intro _; rfl) :
    IE X cl W ms (.ListComp elt [⟨.Name y py, iter, ifs, 0⟩] scope pos) (lc x f t e) ke.top :=
  pe_imp (pe_lc (te := canE X.K cl W0 ms e ke) hc hN hi ok hg ht he hs) fun s H Q w => lc_red hm w
/-- name = [..], on one line -/
theorem set_lc (hm : LcM ms x k) (hi : II X cl W ms (.Name y py) iter f k) (ok : BlkOk X.N X.env.scope scope [(y, x)]) (hN : X.N.Nodup) (hc : X.calm = true)
    (hg : ∀ (s : Shared) (H : Hp) (C : Addr) (l : List (Str × Addr)) (fp : List Addr), PG (X.blk s H scope (compEnvC scope l C X.env) fp) (.Name y py) (gName x))
    (ht : ∀ (s : Shared) (H : Hp) (C : Addr) (l : List (Str × Addr)) (fp : List Addr), PTs (X.blk s H scope (compEnvC scope l C X.env) fp) ifs (canT X.K cl W0 ms t))
    (he : ∀ (s : Shared) (H : Hp) (C : Addr) (l : List (Str × Addr)) (fp : List Addr), IE (X.blk s H scope (compEnvC scope l C X.env) fp) cl W0 ms elt e ke)
    (hz : X.N[i]? = some z) (hzl : X.env.scope.names.lookup z = some .local) (hsw : swapsWith (.ListComp elt [⟨.Name y py, iter, ifs, 0⟩] scope pos) (some (.Name z pz)) spos.line X.env = pure true) (hs : ∀ x, foldedSetIterable iter X.env x = pure x := by intro _; rfl) :
    PS X (.Assign [.Name z pz] (.ListComp elt [⟨.Name y py, iter, ifs, 0⟩] scope pos) spos) (tAsg (canE X.K cl W ms (lc x f t e) ke.top) (gName i)) := by
  have h := ps_setLc (te := canE X.K cl W0 ms e ke) hc hN hz hzl hsw hi ok hg ht he hs
  exact ⟨fun pins s z H D I q => h.run pins s z H D I (lc_red hm q)⟩
theorem ts_nil : PTs X [] (canT X.K cl W ms (cst (.bool true))) := ⟨fun pins s z H Q I ⟨r, O, Og, e, b, h1, h2⟩ => pts_nil.run pins s z H Q I (by cases h1; exact h2 H (Same.refl H))⟩
theorem ts_one {c : Expr} (h : IT X cl W ms c t) : PTs X [c] (canT X.K cl W ms t) := pts_one h
end

/-! ### calls of the text's own defs -/
/-- what a def gives: its value and its handed-back lists, or an error -/
inductive FR where
  | stuck
  | ret (d : D) (outs : List D)
  | exn (c : Nat)
def FR.er : FR → ER D
  | .stuck => .stuck
  | .ret d _ => .val d
  | .exn c => .exn c
def callF (F : List D → FR) (g : En → ER (List D)) : En → ER D := fun r => (g r).bind fun ds => (F ds).er
/-- what a def hands back is new (true), or may hold what was handed in -/
def ResOk (rk : Bool) (H : Hp) (A E : List Addr) : Prop := if rk then E.Nodup ∧ ∀ a ∈ E, H a = none else ∀ a ∈ E, H a = none ∨ a ∈ A
/-- the promise of a def that changes nothing that is handed in -/
def spN (K : Fg) (cl : Nat → Addr) (n : Nat) (F : List D → FR) (rk : Bool) : Sp := fun vs H Q E => ∃ ds A, ds.length = n ∧ RepL K H vs ds A ∧
  match F ds with
  | .stuck => False
  | .ret d _ => ∀ v G B, Same H G → Rep K G v d B → ResOk rk H A B → Q v G
  | .exn c => ∀ G, Same H G → E (.ref (cl c)) none G
def Kd.res (rk : Bool) (k : Kd) : Kd := if rk then .fr else k.mx
section
variable {X : Cx} {cl : Nat → Addr} {W : WX} {ms : List Md} {e : Expr} {es : List Expr} {g : En → ER (List D)} {ka : Kd} {k n : Nat} {fa : Addr} {fd : FuncData} {ps : List Str} {F : List D → FR} {rk : Bool} {x : Str} {p pos : Pos}
theorem i_call (hF : FnOk X.prog X.w X.K X.mg X.base (L2.CX X.prog X.w) k fa fd ps (spN X.K cl n F rk)) (hr : Room k X.A) (hm : X.mg x = some (.ref fa)) (hk : PySem.W.keepIn X.K (.ref fa) = true) (hb : Binds X.K fd ps []) (tk : Takes X W)
    (ha : IA X cl W ms (e :: es) g ka) (hn : ∀ r ds, g r = .val ds → ds.length = n) (hg : Gl X x := by rfl) (hdb : (x == ("__debug__" : Str)) = false := by decide) (he : starEach (e :: es) X.env = (false, eval e X.env) :: starEach es X.env := by rfl) (hpl : (backTo pos (starEach es X.env)).any (·.1) = false := by rfl) :
    IE X cl W ms (.Call (.Name x p) (e :: es) [] pos) (callF F g) (Kd.res rk ka) :=
  pe_imp (pe_callS hF hr hg hm hk hb (fun s => passAt tk s) ha hdb he hpl) fun s H Q ⟨r, O, Og, en, w⟩ => ⟨r, O, Og, en, ER.ok_mono (ER.ok_bind w) (fun ds hds q vs G A p rv og kv => by
    refine ⟨ds, A, hn _ _ hds, rv, ?_⟩
    cases hf : F ds with
    | stuck => rw [hf] at q; exact q.elim
    | exn c => rw [hf] at q; exact fun J p2 => q J (p.trans p2)
    | ret d o =>
      rw [hf] at q
      intro v J B p2 rv2 res
      refine q v J B (p.trans p2) rv2 (fun a ha => ?_) ?_
      · unfold ResOk at res
        split at res
        · exact en.fg a (p.free (res.2 a ha))
        · rcases res a ha with h | h
          · exact en.fg a (p.free h)
          · exact og a h
      · unfold ResOk at res
        unfold Kd.res
        split at res
        · rename_i h
          rw [if_pos h]
          exact ⟨res.1, fun a ha => p.free (res.2 a ha)⟩
        · rename_i h
          rw [if_neg h]
          by_cases hb : ka = .bo
          · subst hb
            trivial
          · have : KOk .sh H O.flatten v B := fun a ha => by
              rcases res a ha with h | h
              · exact en.old (p.free h)
              · exact KLk.shOf en kv hb a h
            cases ka <;> first | exact this | exact absurd rfl hb) fun _ n => n⟩
end

/-! ### results of statements -/
inductive SR where
  | stuck
  | nx (r : En)
  | ret (d : D) (r : En)
  | exn (c : Nat) (r : En)
def SR.ok (a : SR) (P : En → Prop) (R : D → En → Prop) (N : Nat → En → Prop) : Prop := match a with
  | .stuck => False
  | .nx r => P r
  | .ret d r => R d r
  | .exn c r => N c r
theorem SR.ok_mono {a : SR} {P P' : En → Prop} {R R' : D → En → Prop} {N N' : Nat → En → Prop} (h : a.ok P R N) (hp : ∀ r, a = .nx r → P r → P' r) (hr : ∀ d r, R d r → R' d r) (hn : ∀ c r, N c r → N' c r) : a.ok P' R' N' := by
  cases a with
  | stuck => exact h
  | nx r => exact hp r rfl h
  | ret d r => exact hr d r h
  | exn c r => exact hn c r h
/-- a value, then a statement's result -/
def ER.toS (a : ER D) (r : En) (f : D → SR) : SR := match a with
  | .stuck => .stuck
  | .val d => f d
  | .exn c => .exn c r
@[simp] theorem ER.toS_val (d : D) (r : En) (f : D → SR) : (ER.val d).toS r f = f d := rfl
@[simp] theorem ER.toS_stuck (r : En) (f : D → SR) : (ER.stuck : ER D).toS r f = .stuck := rfl
@[simp] theorem ER.toS_exn (c : Nat) (r : En) (f : D → SR) : (ER.exn c : ER D).toS r f = .exn c r := rfl
theorem ER.ok_toS {a : ER D} {r : En} {f : D → SR} {P : En → Prop} {R : D → En → Prop} {N : Nat → En → Prop} (h : (a.toS r f).ok P R N) : a.ok (fun d => (f d).ok P R N) (fun c => N c r) := by
  cases a <;> exact h

/-- what a statement does to slots and heap -/
structure Trn (ms : List Md) (s t : L2.St) (H G : Hp) (O P : List Addr) : Prop where
  fr : Stp O H G
  dom : ∀ b o, H b = some o → ∃ o', G b = some o'
  new : ∀ b ∈ P, b ∈ O ∨ H b = none
  io : ∀ i : Nat, ms[i]? = some .io → t[i]? = s[i]?
theorem Trn.refl {ms : List Md} {s : L2.St} {H : Hp} {O : List Addr} : Trn ms s s H H O O := ⟨fun _ _ h _ => h, fun _ o h => ⟨o, h⟩, fun _ h => .inl h, fun _ _ => rfl⟩
theorem Trn.free {ms : List Md} {s t : L2.St} {H G : Hp} {O P : List Addr} (h : Trn ms s t H G O P) {a : Addr} (e : G a = none) : H a = none := by
  cases q : H a with
  | none => rfl
  | some o =>
    obtain ⟨o', z⟩ := h.dom a o q
    rw [e] at z
    cases z
theorem Trn.trans {ms : List Md} {s t u : L2.St} {H G J : Hp} {O P R : List Addr} (a : Trn ms s t H G O P) (b : Trn ms t u G J P R) : Trn ms s u H J O R where
  fr := fun c o h hc => b.fr c o (a.fr c o h hc) fun hp => by
    rcases a.new c hp with q | q
    · exact hc q
    · rw [h] at q
      cases q
  dom := fun c o h => by
    obtain ⟨o1, h1⟩ := a.dom c o h
    exact b.dom c o1 h1
  new := fun c hc => by
    rcases b.new c hc with q | q
    · exact a.new c q
    · exact .inr (a.free q)
  io := fun i hi => (b.io i hi).trans (a.io i hi)
theorem Trn.same {ms : List Md} {s : L2.St} {H G : Hp} {O : List Addr} (p : Same H G) : Trn ms s s H G O O := ⟨fun b o h _ => p b o h, fun b o h => ⟨o, p b o h⟩, fun _ h => .inl h, fun _ _ => rfl⟩
/-- the lists of the slots that are handed back -/
def ioN (ms : List Md) (O : List (List Addr)) : List Addr := ((ms.zip O).map fun p => if p.1 = .io then p.2 else []).flatten
/-- what may be handed back -/
def RtOk (rk : Bool) (H : Hp) (O N F : List Addr) : Prop := (∀ a ∈ F, a ∉ N) ∧ (rk = true → F.Nodup ∧ ∀ a ∈ F, H a = none ∨ a ∈ O)
/-- between statements no borrowed slot is filled -/
def NB (ms : List Md) (r : En) : Prop := ∀ i : Nat, ms[i]? = some .bo → ∀ d, r[i]? ≠ some (some d)
structure EnvS (K : Fg) (H : Hp) (ms : List Md) (r : En) (s : L2.St) (O : List (List Addr)) (Og : Addr → Prop) : Prop where
  env : EnvR K H ms r s O Og
  nb : NB ms r
theorem EnvS.same {K : Fg} {H G : Hp} {ms : List Md} {r : En} {s : L2.St} {O : List (List Addr)} {Og : Addr → Prop} (e : EnvS K H ms r s O Og) (p : Same H G) : EnvS K G ms r s O Og := ⟨e.env.same p, e.nb⟩
theorem NB.set {ms : List Md} {r : En} (h : NB ms r) {x : Nat} {o : Option D} (hx : ms[x]? ≠ some .bo) : NB ms (r.set x o) := fun i hi d => by
  rw [List.getElem?_set_ne (fun z => hx (by rw [z]; exact hi))]
  exact h i hi d
def canS (K : Fg) (cl : Nat → Addr) (W : WX) (ms : List Md) (rk : Bool) (f : En → SR) : TS := fun Dd s H => ∃ r O Og, EnvS K H ms r s O Og ∧
  (f r).ok (fun r' => ∀ s' G P, EnvS K G ms r' s' P Og → Trn ms s s' H G O.flatten P.flatten → Dd.nx s' G)
    (fun d r' => ∀ v s' G P F, EnvS K G ms r' s' P Og → Trn ms s s' H G O.flatten P.flatten → Rep K G v d F → (∀ a ∈ F, Og a) → RtOk rk H O.flatten (ioN ms P) F → Dd.rt v G)
    fun c r' => ∀ s' G P, EnvS K G ms r' s' P Og → Trn ms s s' H G O.flatten P.flatten → W (.ref (cl c)) none s' G
def IS (X : Cx) (cl : Nat → Addr) (W : WX) (ms : List Md) (rk : Bool) (st : Stmt) (f : En → SR) : Prop := PS X st (canS X.K cl W ms rk f)
def ISs (X : Cx) (cl : Nat → Addr) (W : WX) (ms : List Md) (rk : Bool) (st : List Stmt) (f : En → SR) : Prop := PSs X st (canS X.K cl W ms rk f)
theorem ps_imp {X : Cx} {e : Stmt} {t u : TS} (h : PS X e t) (i : ∀ D s H, u D s H → t D s H) : PS X e u := ⟨fun pins s z H D I q => h.run pins s z H D I (i _ _ _ q)⟩
theorem pss_imp {X : Cx} {e : List Stmt} {t u : TS} (h : PSs X e t) (i : ∀ D s H, u D s H → t D s H) : PSs X e u := ⟨fun pins s z H D I q => h.run pins s z H D I (i _ _ _ q)⟩

def seq (f g : En → SR) : En → SR := fun r => match f r with
  | .nx r' => g r'
  | a => a
def skip : En → SR := fun r => .nx r
def ifS (t : En → ER D) (f g : En → SR) : En → SR := fun r => (t r).toS r fun d => match d with
  | .bool true => f r
  | .bool false => g r
  | _ => .stuck
def retS (f : En → ER D) : En → SR := fun r => (f r).toS r fun d => .ret d r
def exprS (f : En → ER D) : En → SR := fun r => (f r).toS r fun _ => .nx r
def asg (x : Nat) (f : En → ER D) : En → SR := fun r => (f r).toS r fun d => .nx (r.set x (some d))
/-- where the value has no list -/
def asgP (x : Nat) (f : En → ER D) : En → SR := fun r => (f r).toS r fun d => if plain d then .nx (r.set x (some d)) else .stuck
def raiseS (c : Nat) : En → SR := fun r => .exn c r
section
variable {X : Cx} {cl : Nat → Addr} {W : WX} {ms : List Md} {rk : Bool} {st : Stmt} {rest sa sb : List Stmt} {f g : En → SR} {a : Expr} {t e : En → ER D} {k : Kd} {x : Nat} {pos : Pos}
theorem Trn.rt {s t : L2.St} {H G : Hp} {O P N F : List Addr} (h : Trn ms s t H G O P) (q : RtOk rk G P N F) : RtOk rk H O N F := ⟨q.1, fun z => ⟨(q.2 z).1, fun b hb => by
  rcases (q.2 z).2 b hb with q | q
  · exact .inl (h.free q)
  · rcases h.new b q with y | y
    · exact .inr y
    · exact .inl y⟩⟩
theorem canS_from {K : Fg} {Dd : Ends} {s t : L2.St} {H G : Hp} {r r' : En} {O P : List (List Addr)} {Og : Addr → Prop} (en : EnvS K G ms r' t P Og) (tr : Trn ms s t H G O.flatten P.flatten)
    (w : (g r').ok (fun r' => ∀ s' G P, EnvS K G ms r' s' P Og → Trn ms s s' H G O.flatten P.flatten → Dd.nx s' G)
    (fun d r' => ∀ v s' G P F, EnvS K G ms r' s' P Og → Trn ms s s' H G O.flatten P.flatten → Rep K G v d F → (∀ a ∈ F, Og a) → RtOk rk H O.flatten (ioN ms P) F → Dd.rt v G)
    fun c r' => ∀ s' G P, EnvS K G ms r' s' P Og → Trn ms s s' H G O.flatten P.flatten → W (.ref (cl c)) none s' G) : canS K cl W ms rk g Dd t G :=
  ⟨r', P, Og, en, SR.ok_mono w (fun r2 _ q s' J R e2 t2 => q s' J R e2 (tr.trans t2)) (fun d r2 q v s' J R F e2 t2 rv og rt => q v s' J R F e2 (tr.trans t2) rv og (tr.rt rt)) fun c r2 q s' J R e2 t2 => q s' J R e2 (tr.trans t2)⟩
theorem ss_nil : ISs X cl W ms rk [] skip := pss_imp pss_nil fun D s H ⟨r, O, Og, en, w⟩ => w s H O en Trn.refl
theorem ss_cons (h1 : IS X cl W ms rk st f) (h2 : ISs X cl W ms rk rest g) : ISs X cl W ms rk (st :: rest) (seq f g) :=
  pss_imp (pss_cons h1 h2) fun D s H ⟨r, O, Og, en, w⟩ => ⟨r, O, Og, en, by
    unfold seq at w
    cases hf : f r with
    | stuck => rw [hf] at w; exact w
    | nx r' =>
      rw [hf] at w
      exact fun s' G P e2 tr => canS_from (r := r) e2 tr w
    | ret d r' => rw [hf] at w; exact w
    | exn c r' => rw [hf] at w; exact w⟩
theorem ss_one (h1 : IS X cl W ms rk st f) : ISs X cl W ms rk [st] f := pss_one h1
theorem s_if (hc : IT X cl W ms a t) (h1 : ISs X cl W ms rk sa f) (h2 : ISs X cl W ms rk sb g) : IS X cl W ms rk (.If a sa sb pos) (ifS t f g) :=
  ps_imp (ps_if hc h1 h2) fun D s H ⟨r, O, Og, en, w⟩ => ⟨r, O, Og, en.env, ER.ok_mono (ER.ok_toS w) (fun d _ q => by
    cases d with
    | bool b =>
      refine ⟨b, rfl, fun G p => ?_⟩
      cases b with
      | true => exact iteT (canS_from (r := r) (en.same p) (Trn.same p) q)
      | false => exact iteF (canS_from (r := r) (en.same p) (Trn.same p) q)
    | _ => exact q.elim) fun c q G p => q s G O (en.same p) (Trn.same p)⟩
theorem s_expr (h : IE X cl W ms a e k) (hs : swapsWith a none pos.line X.env = pure false := by rfl) : IS X cl W ms rk (.Expr a pos) (exprS e) :=
  ps_imp (ps_expr h hs) fun D s H ⟨r, O, Og, en, w⟩ => ⟨r, O, Og, en.env, ER.ok_mono (ER.ok_toS w) (fun d _ q v G F p _ _ _ => q s G O (en.same p) (Trn.same p)) fun c q G p => q s G O (en.same p) (Trn.same p)⟩
/-- an ordinary store to a name -/
theorem set_ {i : Nat} {y : Str} {py : Pos} (hN : X.N.Nodup) (hi : X.N[i]? = some y) (hx : Loc X.env.scope y) (h : IE X cl W ms a e k) (hs : swapsWith a (some (.Name y py)) pos.line X.env = pure false := by rfl) (hf : X.fn y = true ∨ X.env.scope.names.lookup y = some .local := by first | exact .inl rfl | exact .inr rfl) :
    PS X (.Assign [.Name y py] a pos) (tAsg (canE X.K cl W ms e k) (gName i)) := ps_set hN hi hx h hs hf
theorem Trn.put {s : L2.St} {H G : Hp} {O : List Addr} {v : V} (p : Same H G) (hm : ms[x]? ≠ some .io) : Trn ms s (s.set x (some v)) H G O O := ⟨fun b o h _ => p b o h, fun b o h => ⟨o, p b o h⟩, fun _ h => .inl h, fun i hi => by
  rw [List.getElem?_set_ne (fun z => hm (by rw [z]; exact hi))]⟩
theorem s_asg (h : PS X st (tAsg (canE X.K cl W ms e k) (gName x))) (hm : ms[x]? = some .sh) (hk : k ≠ .bo) : IS X cl W ms rk st (asg x e) :=
  ps_imp h fun D s H ⟨r, O, Og, en, w⟩ => ⟨r, O, Og, en.env, ER.ok_mono (ER.ok_toS w) (fun d _ q v G F p rv og kv => q (s.set x (some v)) G O ⟨(en.env.same p).put (.inr ⟨hm, KOk.shOf en.env kv hk⟩) rv og, en.nb.set (by rw [hm]; decide)⟩ (Trn.put p (by rw [hm]; decide))) fun c q G p => q s G O (en.same p) (Trn.same p)⟩
theorem s_asgP (h : PS X st (tAsg (canE X.K cl W ms e k) (gName x))) (hm : ms[x]? = some .sh) : IS X cl W ms rk st (asgP x e) :=
  ps_imp h fun D s H ⟨r, O, Og, en, w⟩ => ⟨r, O, Og, en.env, ER.ok_mono (ER.ok_toS w) (fun d _ q v G F p rv og kv => by
    split at q
    · rename_i hp
      have hF := Rep.plain _ _ _ rv hp
      exact q (s.set x (some v)) G O ⟨(en.env.same p).put (.inr ⟨hm, by rw [hF]; exact fun _ z => (nomatch z)⟩) rv og, en.nb.set (by rw [hm]; decide)⟩ (Trn.put p (by rw [hm]; decide))
    · exact q.elim) fun c q G p => q s G O (en.same p) (Trn.same p)⟩
theorem ioN_sub (ms : List Md) (O : List (List Addr)) : ∀ a ∈ ioN ms O, a ∈ O.flatten := fun a ha => by
  obtain ⟨l, hl, ha⟩ := List.mem_flatten.mp ha
  obtain ⟨⟨m, F⟩, hp, rfl⟩ := List.mem_map.mp hl
  dsimp only at ha
  split at ha
  · exact List.mem_flatten.mpr ⟨F, (List.of_mem_zip hp).2, ha⟩
  · cases ha
theorem ioN_none {ms : List Md} {O : List (List Addr)} (h : ms.all (· ≠ .io) = true) : ioN ms O = [] := by
  unfold ioN
  rw [List.flatten_eq_nil_iff]
  intro l hl
  obtain ⟨⟨m, F⟩, hp, rfl⟩ := List.mem_map.mp hl
  have := List.all_eq_true.mp h m (List.of_mem_zip hp).1
  rw [if_neg (by simpa using this)]
/-- new lists are handed back -/
theorem s_retF (h : IE X cl W ms a e .fr) : IS X cl W ms rk (.Return (some a) pos) (retS e) :=
  ps_imp (ps_ret h) fun D s H ⟨r, O, Og, en, w⟩ => ⟨r, O, Og, en.env, ER.ok_mono (ER.ok_toS w) (fun d _ q v G F p rv og kv => q v s G O F (en.same p) (Trn.same p) rv og ⟨fun b hb z => en.env.old (kv.2 b hb) (ioN_sub _ _ _ z), fun _ => ⟨kv.1, fun b hb => .inl (kv.2 b hb)⟩⟩) fun c q G p => q s G O (en.same p) (Trn.same p)⟩
theorem s_ret (h : IE X cl W ms a e k) (hk : k ≠ .bo ∨ ms.all (· ≠ .io) = true) : IS X cl W ms false (.Return (some a) pos) (retS e) :=
  ps_imp (ps_ret h) fun D s H ⟨r, O, Og, en, w⟩ => ⟨r, O, Og, en.env, ER.ok_mono (ER.ok_toS w) (fun d _ q v G F p rv og kv => q v s G O F (en.same p) (Trn.same p) rv og ⟨fun b hb z => by
    rcases hk with hk | hk
    · exact KOk.shOf en.env kv hk b hb (ioN_sub _ _ _ z)
    · rw [ioN_none hk] at z
      exact (List.not_mem_nil z).elim, fun z => Bool.noConfusion z⟩) fun c q G p => q s G O (en.same p) (Trn.same p)⟩
theorem s_raise {c : Nat} (hc : X.calm = true) (tk : Takes X W) (he : PMk X a (fun _ H Q => Q (.ref (cl c)) none H)) : IS X cl W ms rk (.Raise (some a) none pos) (raiseS c) :=
  ps_imp (ps_raise hc tk he) fun D s H ⟨r, O, Og, en, w⟩ => w s H O en Trn.refl
end
end Mi

namespace Mi
open PySem L2

/-! ### lists of footprints -/
theorem fl_ne {A : Type} : ∀ {O : List (List A)} {i j : Nat} {P Q : List A}, O.flatten.Nodup → O[i]? = some P → O[j]? = some Q → i ≠ j → ∀ a ∈ P, a ∉ Q
  | [], i, j, P, Q, _, h, _, _ => by simp at h
  | L :: O, i, j, P, Q, nd, h1, h2, ne => by
    rw [List.flatten_cons, List.nodup_append] at nd
    obtain ⟨_, n2, n3⟩ := nd
    have mem : ∀ {k : Nat} {R : List A}, O[k]? = some R → ∀ a ∈ R, a ∈ O.flatten := fun {k R} h a ha => List.mem_flatten.mpr ⟨R, List.mem_of_getElem? h, ha⟩
    cases i with
    | zero =>
      cases j with
      | zero => exact absurd rfl ne
      | succ j =>
        cases h1
        exact fun a ha hb => n3 a ha a (mem (by simpa using h2) a hb) rfl
    | succ i =>
      cases j with
      | zero =>
        cases h2
        exact fun a ha hb => n3 a hb a (mem (by simpa using h1) a ha) rfl
      | succ j => exact fl_ne n2 (by simpa using h1) (by simpa using h2) (fun z => ne (by rw [z]))
theorem mem_fl {A : Type} {O : List (List A)} {i : Nat} {P : List A} (h : O[i]? = some P) {a : A} (ha : a ∈ P) : a ∈ O.flatten := List.mem_flatten.mpr ⟨P, List.mem_of_getElem? h, ha⟩
theorem fl_ix {A : Type} {O : List (List A)} {a : A} (h : a ∈ O.flatten) : ∃ (i : Nat) (P : List A), O[i]? = some P ∧ a ∈ P := by
  obtain ⟨P, hP, ha⟩ := List.mem_flatten.mp h
  obtain ⟨i, hi, e⟩ := List.mem_iff_getElem.mp hP
  exact ⟨i, P, by rw [List.getElem?_eq_getElem hi, e], ha⟩
theorem fl_nd {A : Type} : ∀ {O : List (List A)} {i : Nat} {P : List A}, O.flatten.Nodup → O[i]? = some P → P.Nodup
  | [], i, P, _, h => by simp at h
  | L :: O, i, P, nd, h => by
    rw [List.flatten_cons, List.nodup_append] at nd
    cases i with
    | zero => cases h; exact nd.1
    | succ i => exact fl_nd nd.2.1 (by simpa using h)
/-- one footprint replaced -/
theorem fl_set {A : Type} : ∀ {O : List (List A)} {i : Nat} {P Q : List A}, O.flatten.Nodup → O[i]? = some P → Q.Nodup → (∀ a ∈ Q, a ∈ P ∨ a ∉ O.flatten) → (O.set i Q).flatten.Nodup
  | [], i, P, Q, _, h, _, _ => by simp at h
  | L :: O, i, P, Q, nd, h, nq, hq => by
    rw [List.flatten_cons] at nd hq
    obtain ⟨n1, n2, n3⟩ := List.nodup_append.mp nd
    cases i with
    | zero =>
      cases h
      rw [List.set_cons_zero, List.flatten_cons, List.nodup_append]
      refine ⟨nq, n2, fun a ha b hb z => ?_⟩
      subst z
      rcases hq a ha with q | q
      · exact n3 a q a hb rfl
      · exact q (List.mem_append_right _ hb)
    | succ i =>
      rw [List.set_cons_succ, List.flatten_cons, List.nodup_append]
      have h' : O[i]? = some P := by simpa using h
      refine ⟨n1, fl_set n2 h' nq (fun a ha => (hq a ha).imp id fun q z => q (List.mem_append_right _ z)), fun a ha b hb z => ?_⟩
      subst z
      obtain ⟨j, R, hj, hb⟩ := fl_ix hb
      by_cases e : i = j
      · subst e
        rw [List.getElem?_set_self (List.getElem?_eq_some_iff.mp h').1] at hj
        cases hj
        rcases hq a hb with q | q
        · exact n3 a ha a (mem_fl h' q) rfl
        · exact q (List.mem_append_left _ ha)
      · rw [List.getElem?_set_ne e] at hj
        exact n3 a ha a (mem_fl hj hb) rfl
theorem set_self {A : Type} {l : List A} {i : Nat} {x : A} (h : l[i]? = some x) : l.set i x = l := by
  obtain ⟨hi, e⟩ := List.getElem?_eq_some_iff.mp h
  rw [← e]
  exact List.set_getElem_self hi

/-! ### some slots of ours are changed at once -/
section
variable {K : Fg} {H J : Hp} {ms : List Md} {r r' : En} {s s' : L2.St} {O P : List (List Addr)} {Og : Addr → Prop}
/-- the lists of the slots of I -/
def InO (I : Nat → Prop) (O : List (List Addr)) (a : Addr) : Prop := ∃ (i : Nat) (A : List Addr), I i ∧ O[i]? = some A ∧ a ∈ A
theorem EnvR.upd (en : EnvR K H ms r s O Og) (nb : NB ms r) (I : Nat → Prop) {C : List Addr} (hC : ∀ b ∈ C, InO I O b) (st : Stp C H J) (dom : ∀ b o, H b = some o → ∃ o', J b = some o')
    (l1 : r'.length = r.length) (l2 : s'.length = s.length) (l3 : P.length = O.length) (out : ∀ i, ¬ I i → r'[i]? = r[i]? ∧ s'[i]? = s[i]? ∧ P[i]? = O[i]?)
    (inn : ∀ i, I i → (∀ d, r'[i]? = some (some d) → ∃ v F m Pi, s'[i]? = some (some v) ∧ Rep K J v d F ∧ (∀ a ∈ F, Og a) ∧ ms[i]? = some m ∧ P[i]? = some Pi ∧ SlotOk m v F Pi P.flatten) ∧ (r'[i]? = some none → P[i]? = some []))
    (new : ∀ i A, I i → P[i]? = some A → ∀ a ∈ A, InO I O a ∨ H a = none) (nd : P.flatten.Nodup) : EnvR K J ms r' s' P Og := by
  have hO : ∀ b ∈ C, b ∈ O.flatten := fun b hb => by
    obtain ⟨i, A, _, h2, h3⟩ := hC b hb
    exact mem_fl h2 h3
  have al : AllL H C := fun b hb => en.own b (hO b hb)
  have isP : ∀ a ∈ P.flatten, a ∈ O.flatten ∨ H a = none := fun a ha => by
    obtain ⟨i, A, h1, h2⟩ := fl_ix ha
    by_cases hi : I i
    · rcases new i A hi h1 a h2 with ⟨j, B, _, h3, h4⟩ | q
      · exact .inl (mem_fl h3 h4)
      · exact .inr q
    · rw [(out i hi).2.2] at h1
      exact .inl (mem_fl h1 h2)
  refine ⟨by rw [l1, l2]; exact en.ls, by rw [l1, l3]; exact en.lo, by rw [l1]; exact en.lm, fun i d h => ?_, fun i h => ?_, nd, fun a ha => en.fg a ?_⟩
  · by_cases hi : I i
    · exact (inn i hi).1 d h
    · obtain ⟨o1, o2, o3⟩ := out i hi
      rw [o1] at h
      obtain ⟨v, F, m, Oi, h1, h2, h3, h4, h5, h6⟩ := en.sl i d h
      have offC : (∀ b ∈ F, b ∉ O.flatten) → ∀ b ∈ F, b ∉ C := fun q b hb z => q b hb (hO b z)
      have own : Oi = F → ∀ b ∈ F, b ∉ C := fun q b hb z => by
        obtain ⟨j, A, g1, g2, g3⟩ := hC b z
        exact fl_ne en.nd h5 g2 (fun e => hi (by rw [e]; exact g1)) b (by rw [q]; exact hb) g3
      have nP : (∀ b ∈ F, b ∉ O.flatten) → ∀ b ∈ F, b ∉ P.flatten := fun q b hb z => by
        rcases isP b z with y | y
        · exact q b hb y
        · obtain ⟨xs, w⟩ := Rep.nodes _ _ _ h2 b hb
          rw [y] at w
          cases w
      cases m with
      | ow => exact ⟨v, F, .ow, Oi, by rw [o2]; exact h1, Rep.stp st al _ _ _ h2 (own h6), h3, h4, by rw [o3]; exact h5, h6⟩
      | io => exact ⟨v, F, .io, Oi, by rw [o2]; exact h1, Rep.stp st al _ _ _ h2 (own h6), h3, h4, by rw [o3]; exact h5, h6⟩
      | sh => exact ⟨v, F, .sh, Oi, by rw [o2]; exact h1, Rep.stp st al _ _ _ h2 (offC h6.2), h3, h4, by rw [o3]; exact h5, h6.1, nP h6.2⟩
      | o1 =>
        obtain ⟨a, F', e1, e2, e3, e4⟩ := h6
        have hF : ∀ b ∈ F, b ∉ C := fun b hb z => by
          rw [e2] at hb
          rcases List.mem_cons.mp hb with rfl | hb
          · obtain ⟨j, A, g1, g2, g3⟩ := hC b z
            exact fl_ne en.nd h5 g2 (fun e => hi (by rw [e]; exact g1)) b (by rw [e3]; exact List.mem_singleton.mpr rfl) g3
          · exact e4 b hb (hO b z)
        refine ⟨v, F, .o1, Oi, by rw [o2]; exact h1, Rep.stp st al _ _ _ h2 hF, h3, h4, by rw [o3]; exact h5, a, F', e1, e2, e3, fun b hb z => ?_⟩
        rcases isP b z with y | y
        · exact e4 b hb y
        · obtain ⟨xs, w⟩ := Rep.nodes _ _ _ h2 b (by rw [e2]; exact List.mem_cons_of_mem _ hb)
          rw [y] at w
          cases w
      | bo => exact absurd h (nb i h4 d)
  · by_cases hi : I i
    · exact (inn i hi).2 h
    · obtain ⟨o1, o2, o3⟩ := out i hi
      rw [o3]
      exact en.no i (by rw [← o1]; exact h)
  · cases q : H a with
    | none => rfl
    | some o =>
      obtain ⟨o', z⟩ := dom a o q
      rw [ha] at z
      cases z
/-- one slot of ours -/
theorem EnvS.wr (en : EnvS K H ms r s O Og) {x : Nat} {m : Md} {Ox A F : List Addr} {d : D} {v : V} (hm : ms[x]? = some m) (hm2 : m = .ow ∨ m = .io ∨ m = .o1) (hO : O[x]? = some Ox) (st : Stp Ox H J) (dom : ∀ b o, H b = some o → ∃ o', J b = some o')
    (rv : Rep K J v d F) (og : ∀ a ∈ F, Og a) (ok : SlotOk m v F A (O.set x A).flatten) (nd : A.Nodup) (new : ∀ a ∈ A, a ∈ Ox ∨ H a = none) (io : m = .io → s[x]? = some (some v)) :
    EnvS K J ms (r.set x (some d)) (s.set x (some v)) (O.set x A) Og ∧ Trn ms s (s.set x (some v)) H J O.flatten (O.set x A).flatten := by
  have hx : x < ms.length := (List.getElem?_eq_some_iff.mp hm).1
  have hxr : x < r.length := by rw [← en.env.lm]; exact hx
  have hxs : x < s.length := by rw [en.env.ls]; exact hxr
  have hxo : x < O.length := by rw [en.env.lo]; exact hxr
  have sub : ∀ b ∈ Ox, b ∈ O.flatten := fun b hb => mem_fl hO hb
  have nmb : ms[x]? ≠ some .bo := by
    rw [hm]
    rcases hm2 with h | h | h <;> rw [h] <;> decide
  refine ⟨⟨en.env.upd en.nb (fun i => i = x) (C := Ox) (fun b hb => ⟨x, Ox, rfl, hO, hb⟩) st dom (by rw [List.length_set]) (by rw [List.length_set]) (by rw [List.length_set])
    (fun i hi => ⟨List.getElem?_set_ne (fun z => hi z.symm), List.getElem?_set_ne (fun z => hi z.symm), List.getElem?_set_ne (fun z => hi z.symm)⟩) (fun i hi => ?_) (fun i B hi hB a ha => ?_) ?_, en.nb.set nmb⟩, ?_⟩
  · subst hi
    refine ⟨fun d' h => ?_, fun h => ?_⟩
    · rw [List.getElem?_set_self hxr] at h
      cases h
      exact ⟨v, F, m, A, List.getElem?_set_self hxs, rv, og, hm, List.getElem?_set_self hxo, ok⟩
    · rw [List.getElem?_set_self hxr] at h
      cases h
  · subst hi
    rw [List.getElem?_set_self hxo] at hB
    cases hB
    exact (new a ha).imp (fun q => ⟨i, Ox, rfl, hO, q⟩) id
  · exact fl_set en.env.nd hO nd fun a ha => (new a ha).imp id fun q => en.env.old q
  · refine ⟨fun b o h n => st b o h fun z => n (sub b z), dom, fun b hb => ?_, fun i hi => ?_⟩
    · obtain ⟨i, B, h1, h2⟩ := fl_ix hb
      by_cases hi : x = i
      · subst hi
        rw [List.getElem?_set_self hxo] at h1
        cases h1
        exact (new b h2).imp (sub b) id
      · rw [List.getElem?_set_ne hi] at h1
        exact .inl (mem_fl h1 h2)
    · by_cases hx2 : x = i
      · subst hx2
        rw [hm] at hi
        cases hi
        rw [List.getElem?_set_self hxs, io rfl]
      · rw [List.getElem?_set_ne hx2]
/-- what a slot of ours holds -/
theorem EnvR.at_ (en : EnvR K H ms r s O Og) {x : Nat} {d : D} (hd : r[x]? = some (some d)) (hm : ms[x]? = some .ow ∨ ms[x]? = some .io) : ∃ v F, s[x]? = some (some v) ∧ Rep K H v d F ∧ (∀ a ∈ F, Og a) ∧ O[x]? = some F ∧ F.Nodup := by
  obtain ⟨v, F, m, Oi, h1, h2, h3, h4, h5, h6⟩ := en.sl x d hd
  have e : Oi = F := by
    rcases hm with h | h <;> (rw [h] at h4; cases h4; exact h6)
  subst e
  exact ⟨v, Oi, h1, h2, h3, h5, fl_nd en.nd h5⟩
theorem EnvR.at1 (en : EnvR K H ms r s O Og) {x : Nat} {d : D} (hd : r[x]? = some (some d)) (hm : ms[x]? = some .o1) : ∃ a F', s[x]? = some (some (.ref a)) ∧ Rep K H (.ref a) d (a :: F') ∧ (∀ b ∈ a :: F', Og b) ∧ O[x]? = some [a] ∧ ∀ b ∈ F', b ∉ O.flatten := by
  obtain ⟨v, F, m, Oi, h1, h2, h3, h4, h5, h6⟩ := en.sl x d hd
  rw [hm] at h4
  cases h4
  obtain ⟨a, F', rfl, rfl, rfl, h7⟩ := h6
  exact ⟨a, F', h1, h2, h3, h5, h7⟩
end

/-! ### stores to names of ours -/
section
variable {X : Cx} {cl : Nat → Addr} {W : WX} {ms : List Md} {rk : Bool} {st : Stmt} {e : En → ER D} {k : Kd} {x y : Nat} {pos : Pos}
theorem EnvR.oix {K : Fg} {H : Hp} {r : En} {s : L2.St} {O : List (List Addr)} {Og : Addr → Prop} (en : EnvR K H ms r s O Og) {m : Md} (hm : ms[x]? = some m) : ∃ Ox, O[x]? = some Ox := by
  have : x < O.length := by rw [en.lo, ← en.lm]; exact (List.getElem?_eq_some_iff.mp hm).1
  exact ⟨O[x], List.getElem?_eq_getElem this⟩
/-- all of it new -/
theorem s_asgF (h : PS X st (tAsg (canE X.K cl W ms e .fr) (gName x))) (hm : ms[x]? = some .ow) : IS X cl W ms rk st (asg x e) :=
  ps_imp h fun D s H ⟨r, O, Og, en, w⟩ => ⟨r, O, Og, en.env, ER.ok_mono (ER.ok_toS w) (fun d _ q v G F p rv og kv => by
    obtain ⟨Ox, hO⟩ := en.env.oix hm
    obtain ⟨e2, t2⟩ := en.wr hm (.inl rfl) hO (A := F) (J := G) (fun b o h _ => p b o h) (fun b o h => ⟨o, p b o h⟩) rv og rfl kv.1 (fun a ha => .inr (kv.2 a ha)) (fun z => by cases z)
    exact q _ G _ e2 t2) fun c q G p => q s G O (en.same p) (Trn.same p)⟩
/-- its own list new -/
theorem s_asg1 (h : PS X st (tAsg (canE X.K cl W ms e .f1) (gName x))) (hm : ms[x]? = some .o1) : IS X cl W ms rk st (asg x e) :=
  ps_imp h fun D s H ⟨r, O, Og, en, w⟩ => ⟨r, O, Og, en.env, ER.ok_mono (ER.ok_toS w) (fun d _ q v G F p rv og kv => by
    obtain ⟨Ox, hO⟩ := en.env.oix hm
    obtain ⟨a, F', rfl, rfl, h3, h4⟩ := kv
    have off : ∀ b ∈ F', b ∉ (O.set x [a]).flatten := fun b hb z => by
      obtain ⟨i, B, g1, g2⟩ := fl_ix z
      by_cases hi : x = i
      · subst hi
        rw [List.getElem?_set_self (List.getElem?_eq_some_iff.mp hO).1] at g1
        cases g1
        exact (h4 b hb).1 (List.mem_singleton.mp g2)
      · rw [List.getElem?_set_ne hi] at g1
        exact (h4 b hb).2 (mem_fl g1 g2)
    obtain ⟨e2, t2⟩ := en.wr hm (.inr (.inr rfl)) hO (A := [a]) (J := G) (fun b o h _ => p b o h) (fun b o h => ⟨o, p b o h⟩) rv og ⟨a, F', rfl, rfl, rfl, off⟩ (by simp) (fun b hb => .inr (by rw [List.mem_singleton.mp hb]; exact h3)) (fun z => by cases z)
    exact q _ G _ e2 t2) fun c q G p => q s G O (en.same p) (Trn.same p)⟩
/-- y's list goes to x -/
def asgM (x y : Nat) : En → SR := fun r => match r[y]? with
  | some (some d) => .nx ((r.set y none).set x (some d))
  | _ => .stuck
theorem EnvS.gone {K : Fg} {H : Hp} {r : En} {s : L2.St} {O : List (List Addr)} {Og : Addr → Prop} (en : EnvS K H ms r s O Og) {m : Md} (hm : ms[y]? = some m) (hb : m ≠ .bo) : EnvS K H ms (r.set y none) s (O.set y []) Og ∧ Trn ms s s H H O.flatten (O.set y []).flatten := by
  obtain ⟨Oy, hO⟩ := en.env.oix hm
  have hy : y < ms.length := (List.getElem?_eq_some_iff.mp hm).1
  have hyr : y < r.length := by rw [← en.env.lm]; exact hy
  have hyo : y < O.length := by rw [en.env.lo]; exact hyr
  refine ⟨⟨en.env.upd en.nb (fun i => i = y) (C := []) (fun b hb => nomatch hb) (fun b o h _ => h) (fun b o h => ⟨o, h⟩) (by rw [List.length_set]) rfl (by rw [List.length_set])
    (fun i hi => ⟨List.getElem?_set_ne (fun z => hi z.symm), rfl, List.getElem?_set_ne (fun z => hi z.symm)⟩) (fun i hi => ?_) (fun i B hi hB a ha => ?_) ?_, en.nb.set (by rw [hm]; exact fun z => hb (Option.some.inj z))⟩, ?_⟩
  · subst hi
    refine ⟨fun d' h => ?_, fun _ => List.getElem?_set_self hyo⟩
    rw [List.getElem?_set_self hyr] at h
    cases h
  · subst hi
    rw [List.getElem?_set_self hyo] at hB
    have z := Option.some.inj hB
    rw [← z] at ha
    cases ha
  · exact fl_set en.env.nd hO List.nodup_nil fun a ha => nomatch ha
  · refine ⟨fun b o h _ => h, fun b o h => ⟨o, h⟩, fun b hb => ?_, fun _ _ => rfl⟩
    obtain ⟨i, B, h1, h2⟩ := fl_ix hb
    by_cases hi : y = i
    · subst hi
      rw [List.getElem?_set_self hyo] at h1
      cases h1
      cases h2
    · rw [List.getElem?_set_ne hi] at h1
      exact .inl (mem_fl h1 h2)
theorem s_asgM (h : PS X st (tAsg (tVar y) (gName x))) (hy : ms[y]? = some .ow ∨ ms[y]? = some .o1) (hx : ms[x]? = some .sh ∨ (ms[x]? = some .ow ∧ ms[y]? = some .ow)) (ne : x ≠ y) : IS X cl W ms rk st (asgM x y) :=
  ps_imp h fun D s H ⟨r, O, Og, en, w⟩ => by
    unfold asgM at w
    split at w
    · rename_i d hd
      have hgone : EnvS X.K H ms (r.set y none) s (O.set y []) Og ∧ Trn ms s s H H O.flatten (O.set y []).flatten := by
        rcases hy with h | h
        · exact en.gone h (by decide)
        · exact en.gone h (by decide)
      obtain ⟨g1, g2⟩ := hgone
      have sub : ∀ b ∈ (O.set y []).flatten, b ∈ O.flatten ∧ ∀ Oy, O[y]? = some Oy → b ∉ Oy := fun b hb => by
        obtain ⟨i, B, h1, h2⟩ := fl_ix hb
        by_cases hi : y = i
        · subst hi
          rw [List.getElem?_set] at h1
          simp only [if_true] at h1
          split at h1
          · cases h1; cases h2
          · cases h1
        · rw [List.getElem?_set_ne hi] at h1
          exact ⟨mem_fl h1 h2, fun Oy hO => fl_ne en.env.nd h1 hO (fun z => hi z.symm) b h2⟩
      have main : ∃ v F, s[y]? = some (some v) ∧ Rep X.K H v d F ∧ (∀ a ∈ F, Og a) ∧ (∀ b ∈ F, b ∉ (O.set y []).flatten) ∧ (ms[y]? = some .ow → F.Nodup ∧ O[y]? = some F) := by
        rcases hy with h | h
        · obtain ⟨v, F, h1, h2, h3, h4, h5⟩ := en.env.at_ hd (.inl h)
          exact ⟨v, F, h1, h2, h3, fun b hb z => (sub b z).2 F h4 hb, fun _ => ⟨h5, h4⟩⟩
        · obtain ⟨a, F', h1, h2, h3, h4, h5⟩ := en.env.at1 hd h
          refine ⟨.ref a, a :: F', h1, h2, h3, fun b hb z => ?_, fun q => by rw [h] at q; cases q⟩
          rcases List.mem_cons.mp hb with rfl | hb
          · exact (sub b z).2 [b] h4 (List.mem_singleton.mpr rfl)
          · exact h5 b hb (sub b z).1
      obtain ⟨v, F, h1, h2, h3, h4, h5⟩ := main
      refine ⟨v, h1, ?_⟩
      rcases hx with hx | ⟨hx, hy'⟩
      · exact w _ H _ ⟨g1.env.put (.inr ⟨hx, h4⟩) h2 h3, g1.nb.set (by rw [hx]; decide)⟩ (g2.trans (Trn.put (Same.refl H) (by rw [hx]; decide)))
      · obtain ⟨h6, h7⟩ := h5 hy'
        obtain ⟨Ox, hO⟩ := g1.env.oix hx
        have tr : ∀ a ∈ F, ∃ o, H a = some o := fun a ha => by
          obtain ⟨xs, z⟩ := Rep.nodes _ _ _ h2 a ha
          exact ⟨_, z⟩
        -- as a new one, seen from ahead of the move
        obtain ⟨Ox', hO'⟩ := en.env.oix hx
        have hxy : x ≠ y := ne
        have hxr : x < r.length := by rw [← en.env.lm]; exact (List.getElem?_eq_some_iff.mp hx).1
        have hyr : y < r.length := by rw [← en.env.lm]; exact (List.getElem?_eq_some_iff.mp hy').1
        have hxo : x < O.length := by rw [en.env.lo]; exact hxr
        have hyo : y < O.length := by rw [en.env.lo]; exact hyr
        have hxs : x < s.length := by rw [en.env.ls]; exact hxr
        have ndP : ((O.set y []).set x F).flatten.Nodup := fl_set g1.env.nd hO h6 fun a ha => .inr (h4 a ha)
        refine w (s.set x (some v)) H ((O.set y []).set x F) ⟨en.env.upd en.nb (fun i => i = x ∨ i = y) (C := []) (fun b hb => nomatch hb) (fun b o h _ => h) (fun b o h => ⟨o, h⟩) (by simp) (by simp) (by simp)
          (fun i hi => ?_) (fun i hi => ?_) (fun i B hi hB a ha => ?_) ndP, (en.nb.set (by rw [hy']; decide)).set (by rw [hx]; decide)⟩ ?_
        · have e1 : x ≠ i := fun z => hi (.inl z.symm)
          have e2 : y ≠ i := fun z => hi (.inr z.symm)
          exact ⟨by rw [List.getElem?_set_ne e1, List.getElem?_set_ne e2], List.getElem?_set_ne e1, by rw [List.getElem?_set_ne e1, List.getElem?_set_ne e2]⟩
        · rcases hi with rfl | rfl
          · refine ⟨fun d' h => ?_, fun h => ?_⟩
            · rw [List.getElem?_set_self (by simpa using hxr)] at h
              cases h
              exact ⟨v, F, .ow, F, List.getElem?_set_self hxs, h2, h3, hx, List.getElem?_set_self (by simpa using hxo), rfl⟩
            · rw [List.getElem?_set_self (by simpa using hxr)] at h
              cases h
          · refine ⟨fun d' h => ?_, fun _ => by rw [List.getElem?_set_ne hxy, List.getElem?_set_self hyo]⟩
            rw [List.getElem?_set_ne hxy, List.getElem?_set_self hyr] at h
            cases h
        · rcases hi with rfl | rfl
          · rw [List.getElem?_set_self (by simpa using hxo)] at hB
            cases hB
            exact .inl ⟨y, F, .inr rfl, h7, ha⟩
          · rw [List.getElem?_set_ne hxy, List.getElem?_set_self hyo] at hB
            cases hB
            cases ha
        · refine ⟨fun b o h _ => h, fun b o h => ⟨o, h⟩, fun b hb => ?_, fun i hi => ?_⟩
          · obtain ⟨i, B, e1, e2⟩ := fl_ix hb
            by_cases hi : x = i
            · subst hi
              rw [List.getElem?_set_self (by simpa using hxo)] at e1
              cases e1
              exact .inl (mem_fl h7 e2)
            · rw [List.getElem?_set_ne hi] at e1
              exact .inl (sub b (mem_fl e1 e2)).1
          · rw [List.getElem?_set_ne (fun z => by rw [z, hi] at hx; cases hx)]
    · exact w.elim
end
end Mi

namespace Mi
open PySem L2

/-! ### lists of ours written -/
section
variable {K : Fg} {H : Hp} {ms : List Md} {r : En} {s : L2.St} {O : List (List Addr)} {Og : Addr → Prop} {x : Nat} {l : List D}
theorem stp1 {G : Hp} {a : Addr} {vs us : List V} (h : G a = some (.lst vs)) : Stp [a] G (upd G a (.lst us)) ∧ AllL G [a] :=
  ⟨fun b o hb nb => by
    rw [upd_ne (fun z => nb (by rw [z]; exact List.mem_singleton.mpr rfl))]
    exact hb, fun b hb => by rw [List.mem_singleton.mp hb]; exact ⟨⟨_, .l vs⟩, h⟩⟩
theorem RepL.off {G : Hp} {a : Addr} {vs us ws : List V} {ds : List D} {E : List Addr} (h : RepL K G ws ds E) (ha : G a = some (.lst vs)) (n : a ∉ E) : RepL K (upd G a (.lst us)) ws ds E :=
  RepL.stp (stp1 (us := us) ha).1 (stp1 (us := us) ha).2 _ _ _ h fun b hb z => n (by rw [← List.mem_singleton.mp z]; exact hb)
theorem Rep.off {G : Hp} {a : Addr} {vs us : List V} {v : V} {d : D} {E : List Addr} (h : Rep K G v d E) (ha : G a = some (.lst vs)) (n : a ∉ E) : Rep K (upd G a (.lst us)) v d E :=
  Rep.stp (stp1 (us := us) ha).1 (stp1 (us := us) ha).2 _ _ _ h fun b hb z => n (by rw [← List.mem_singleton.mp z]; exact hb)
theorem dom_upd {G : Hp} {a : Addr} {us : List V} (p : Same H G) : ∀ b o, H b = some o → ∃ o', upd G a (.lst us) b = some o' := fun b o h => by
  by_cases e : b = a
  · subst e
    exact ⟨_, upd_same⟩
  · exact ⟨o, by rw [upd_ne e]; exact p b o h⟩
theorem stp_upd {G : Hp} {a : Addr} {us : List V} {C : List Addr} (p : Same H G) (h : a ∈ C) : Stp C H (upd G a (.lst us)) := fun b o hb nb => by
  rw [upd_ne (fun z => nb (by rw [z]; exact h))]
  exact p b o hb
/-- its own list -/
theorem EnvS.w0 (en : EnvS K H ms r s O Og) (hm : ms[x]? = some .ow ∨ ms[x]? = some .io) (hd : r[x]? = some (some (.list l))) : ∃ a vs E, s[x]? = some (some (.ref a)) ∧ H a = some (.lst vs) ∧ RepL K H vs l E ∧ a ∉ E ∧ E.Nodup ∧ (∀ c ∈ E, Og c) ∧
    ∀ G us l' E', Same H G → RepL K (upd G a (.lst us)) us l' E' → E'.Nodup → a ∉ E' → (∀ c ∈ E', c ∈ E ∨ H c = none) → (∀ c ∈ E', Og c) →
      EnvS K (upd G a (.lst us)) ms (r.set x (some (.list l'))) s (O.set x (a :: E')) Og ∧ Trn ms s s H (upd G a (.lst us)) O.flatten (O.set x (a :: E')).flatten := by
  obtain ⟨v, F, h1, h2, h3, h4, h5⟩ := en.env.at_ hd hm
  obtain ⟨a, vs, E, rfl, g1, g2, rfl⟩ := h2.lstE
  obtain ⟨n1, n2⟩ := List.nodup_cons.mp h5
  refine ⟨a, vs, E, h1, g1, g2, n1, n2, fun c hc => h3 c (List.mem_cons_of_mem _ hc), fun G us l' E' p rl nd na sub og => ?_⟩
  have key : ∀ m, ms[x]? = some m → (m = .ow ∨ m = .io) → EnvS K (upd G a (.lst us)) ms (r.set x (some (.list l'))) (s.set x (some (.ref a))) (O.set x (a :: E')) Og ∧ Trn ms s (s.set x (some (.ref a))) H (upd G a (.lst us)) O.flatten (O.set x (a :: E')).flatten := fun m hm' hm2 =>
    en.wr hm' (hm2.imp id .inl) h4 (stp_upd p List.mem_cons_self) (dom_upd p) (.lst upd_same rl) (fun c hc => by
      rcases List.mem_cons.mp hc with rfl | hc
      · exact h3 _ List.mem_cons_self
      · exact og c hc) (by rcases hm2 with rfl | rfl <;> rfl) (List.nodup_cons.mpr ⟨na, nd⟩) (fun c hc => by
      rcases List.mem_cons.mp hc with rfl | hc
      · exact .inl List.mem_cons_self
      · exact (sub c hc).imp (List.mem_cons_of_mem _) id) (fun _ => h1)
  rw [set_self h1] at key
  rcases hm with h | h
  · exact key .ow h (.inl rfl)
  · exact key .io h (.inr rfl)
/-- the list that is its j-th item -/
theorem EnvS.w1 (en : EnvS K H ms r s O Og) (hm : ms[x]? = some .ow ∨ ms[x]? = some .io) (hd : r[x]? = some (some (.list l))) {j : Nat} {m : List D} (hj : l[j]? = some (.list m)) : ∃ a vs b ws M, s[x]? = some (some (.ref a)) ∧ H a = some (.lst vs) ∧ vs.length = l.length ∧ vs[j]? = some (.ref b) ∧ H b = some (.lst ws) ∧ RepL K H ws m M ∧ b ∉ M ∧ M.Nodup ∧ (∀ c ∈ M, Og c) ∧
    ∀ G us m' M', Same H G → RepL K (upd G b (.lst us)) us m' M' → M'.Nodup → b ∉ M' → (∀ c ∈ M', c ∈ M ∨ H c = none) → (∀ c ∈ M', Og c) →
      ∃ P, EnvS K (upd G b (.lst us)) ms (r.set x (some (.list (l.set j (.list m'))))) s P Og ∧ Trn ms s s H (upd G b (.lst us)) O.flatten P.flatten := by
  obtain ⟨v, F, h1, h2, h3, h4, h5⟩ := en.env.at_ hd hm
  obtain ⟨a, vs, E, rfl, g1, g2, rfl⟩ := h2.lstE
  obtain ⟨n1, n2⟩ := List.nodup_cons.mp h5
  obtain ⟨u, E1, E2, E3, c1, rfl, c3, c4, c5⟩ := g2.cut hj
  obtain ⟨b, ws, M, rfl, d1, d2, rfl⟩ := c4.lstE
  have nE : (E1 ++ (b :: M ++ E3)).Nodup := n2
  obtain ⟨k1, k2, k3⟩ := List.nodup_append.mp nE
  obtain ⟨k4, k5, k6⟩ := List.nodup_append.mp k2
  obtain ⟨k7, k8⟩ := List.nodup_cons.mp k4
  have ab : a ≠ b := fun z => n1 (by rw [z]; exact List.mem_append_right _ (List.mem_append_left _ List.mem_cons_self))
  have bE1 : b ∉ E1 := fun z => k3 b z b (List.mem_append_left _ List.mem_cons_self) rfl
  have bE3 : b ∉ E3 := fun z => k6 b List.mem_cons_self b z rfl
  have lj : j < l.length := (List.getElem?_eq_some_iff.mp hj).1
  have vl : vs.length = l.length := g2.len
  refine ⟨a, vs, b, ws, M, h1, g1, vl, c1, d1, d2, k7, k8, fun c hc => h3 c (List.mem_cons_of_mem _ (List.mem_append_right _ (List.mem_append_left _ (List.mem_cons_of_mem _ hc)))), fun G us m' M' p rl nd na sub og => ?_⟩
  have ga := p _ _ g1
  have gb := p _ _ d1
  have ga' : upd G b (.lst us) a = some (.lst vs) := by rw [upd_ne ab]; exact ga
  have tracked : ∀ c, c ∈ a :: (E1 ++ (b :: M ++ E3)) → H c ≠ none := fun c hc z => by
    obtain ⟨xs, q⟩ := Rep.nodes _ _ _ h2 c hc
    rw [z] at q
    cases q
  have mem1 : ∀ c ∈ E1, c ∈ a :: (E1 ++ (b :: M ++ E3)) := fun c hc => List.mem_cons_of_mem _ (List.mem_append_left _ hc)
  have mem3 : ∀ c ∈ E3, c ∈ a :: (E1 ++ (b :: M ++ E3)) := fun c hc => List.mem_cons_of_mem _ (List.mem_append_right _ (List.mem_append_right _ hc))
  have memM : ∀ c ∈ M, c ∈ a :: (E1 ++ (b :: M ++ E3)) := fun c hc => List.mem_cons_of_mem _ (List.mem_append_right _ (List.mem_append_left _ (List.mem_cons_of_mem _ hc)))
  have r1 := (c3.same p).off (us := us) gb bE1
  have r3 := (c5.same p).off (us := us) gb bE3
  have hvs : vs = vs.take j ++ (.ref b :: vs.drop (j + 1)) := by
    have := set_cut (l := vs) (x := V.ref b) (by rw [vl]; exact lj)
    rw [set_self c1] at this
    exact this
  have nM1 : ∀ c ∈ M', c ∉ E1 := fun c hc z => by
    rcases sub c hc with q | q
    · exact k3 c z c (List.mem_append_left _ (List.mem_cons_of_mem _ q)) rfl
    · exact tracked c (mem1 c z) q
  have nM3 : ∀ c ∈ M', c ∉ E3 := fun c hc z => by
    rcases sub c hc with q | q
    · exact k6 c (List.mem_cons_of_mem _ q) c z rfl
    · exact tracked c (mem3 c z) q
  have nMa : a ∉ M' := fun hc => by
    rcases sub a hc with q | q
    · exact n1 (List.mem_append_right _ (List.mem_append_left _ (List.mem_cons_of_mem _ q)))
    · exact tracked a List.mem_cons_self q
  have rv : Rep K (upd G b (.lst us)) (.ref a) (.list (l.set j (.list m'))) (a :: (E1 ++ (b :: M' ++ E3))) := by
    refine .lst ga' ?_
    rw [hvs, set_cut lj]
    exact r1.app (.cons (.lst upd_same rl) r3)
  have memN : ∀ c ∈ a :: (E1 ++ (b :: M' ++ E3)), c ∈ a :: (E1 ++ (b :: M ++ E3)) ∨ c ∈ M' := fun c hc => by
    simp only [List.mem_cons, List.mem_append] at hc ⊢
    rcases hc with h | h | (h | h) | h
    · exact .inl (.inl h)
    · exact .inl (.inr (.inl h))
    · exact .inl (.inr (.inr (.inl (.inl h))))
    · exact .inr h
    · exact .inl (.inr (.inr (.inr h)))
  have ndN : (a :: (E1 ++ (b :: M' ++ E3))).Nodup := by
    refine List.nodup_cons.mpr ⟨fun hc => ?_, List.nodup_append.mpr ⟨k1, List.nodup_append.mpr ⟨List.nodup_cons.mpr ⟨na, nd⟩, k5, fun c hc e he z => ?_⟩, fun c hc e he z => ?_⟩⟩
    · rcases List.mem_append.mp hc with q | q
      · exact n1 (List.mem_append_left _ q)
      · rcases List.mem_append.mp q with q | q
        · rcases List.mem_cons.mp q with q | q
          · exact ab q
          · exact nMa q
        · exact n1 (List.mem_append_right _ (List.mem_append_right _ q))
    · subst z
      rcases List.mem_cons.mp hc with q | q
      · exact bE3 (by rw [← q]; exact he)
      · exact nM3 c q he
    · subst z
      rcases List.mem_append.mp he with q | q
      · rcases List.mem_cons.mp q with q | q
        · exact bE1 (by rw [← q]; exact hc)
        · exact nM1 c q hc
      · exact k3 c hc c (List.mem_append_right _ q) rfl
  have key : ∀ m2, ms[x]? = some m2 → (m2 = .ow ∨ m2 = .io) → EnvS K (upd G b (.lst us)) ms (r.set x (some (.list (l.set j (.list m'))))) (s.set x (some (.ref a))) (O.set x (a :: (E1 ++ (b :: M' ++ E3)))) Og ∧ Trn ms s (s.set x (some (.ref a))) H (upd G b (.lst us)) O.flatten (O.set x (a :: (E1 ++ (b :: M' ++ E3)))).flatten := fun m2 hm' hm2 =>
    en.wr hm' (hm2.imp id .inl) h4 (stp_upd p (List.mem_cons_of_mem _ (List.mem_append_right _ (List.mem_append_left _ List.mem_cons_self)))) (dom_upd p) rv (fun c hc => by
      rcases memN c hc with q | q
      · exact h3 c q
      · exact og c q) (by rcases hm2 with rfl | rfl <;> rfl) ndN (fun c hc => by
      rcases memN c hc with q | q
      · exact .inl q
      · exact (sub c q).imp (memM c) id) (fun _ => h1)
  rw [set_self h1] at key
  rcases hm with h | h
  · exact ⟨_, key .ow h (.inl rfl)⟩
  · exact ⟨_, key .io h (.inr rfl)⟩
/-- its own list, the items not ours -/
theorem EnvS.w01 (en : EnvS K H ms r s O Og) (hm : ms[x]? = some .o1) (hd : r[x]? = some (some (.list l))) : ∃ a vs E, s[x]? = some (some (.ref a)) ∧ H a = some (.lst vs) ∧ RepL K H vs l E ∧ a ∉ E ∧ (∀ c ∈ E, Og c ∧ c ∉ O.flatten) ∧
    ∀ G us l' E', Same H G → RepL K (upd G a (.lst us)) us l' E' → a ∉ E' → (∀ c ∈ E', c ∉ O.flatten) → (∀ c ∈ E', Og c) →
      EnvS K (upd G a (.lst us)) ms (r.set x (some (.list l'))) s O Og ∧ Trn ms s s H (upd G a (.lst us)) O.flatten O.flatten := by
  obtain ⟨a, F', h1, h2, h3, h4, h5⟩ := en.env.at1 hd hm
  obtain ⟨a', vs, E, e1, g1, g2, e2⟩ := h2.lstE
  cases e1
  cases e2
  have aO : a ∈ O.flatten := mem_fl h4 (List.mem_singleton.mpr rfl)
  refine ⟨a, vs, F', h1, g1, g2, fun z => h5 a z aO, fun c hc => ⟨h3 c (List.mem_cons_of_mem _ hc), h5 c hc⟩, fun G us l' E' p rl na off og => ?_⟩
  have key := en.wr (d := .list l') (v := .ref a) (F := a :: E') (A := [a]) hm (.inr (.inr rfl)) h4 (stp_upd (us := us) p (List.mem_singleton.mpr rfl)) (dom_upd p) (.lst upd_same rl) (fun c hc => by
      rcases List.mem_cons.mp hc with rfl | hc
      · exact h3 _ List.mem_cons_self
      · exact og c hc) (by rw [set_self h4]; exact ⟨a, E', rfl, rfl, rfl, off⟩) (by simp) (fun c hc => .inl hc) (fun z => by cases z)
  rw [set_self h1, set_self h4] at key
  exact key
end

/-! ### x.append(e), x[i].append(e) -/
def lstAt (r : En) (x : Nat) (f : List D → SR) : SR := match r[x]? with
  | some (some (.list l)) => f l
  | _ => .stuck
/-- with a value that has no list -/
def appP (x : Nat) (e : En → ER D) : En → SR := fun r => lstAt r x fun l => (e r).toS r fun d => if plain d && decide (l.length < LIM) then .nx (r.set x (some (.list (l ++ [d])))) else .stuck
/-- with a new value -/
def appF (x : Nat) (e : En → ER D) : En → SR := fun r => lstAt r x fun l => (e r).toS r fun d => if decide (l.length < LIM) then .nx (r.set x (some (.list (l ++ [d])))) else .stuck
def ixOf (d : D) (n : Nat) : Option Nat := match d with
  | .int i => ixN n i
  | _ => none
/-- the list at a place of a list -/
def lst1 (r : En) (x : Nat) (l : List D) (i : ER D) (f : Nat → List D → SR) : SR := i.toS r fun d => match ixOf d l.length with
  | some j => (match l[j]? with
    | some (.list m) => f j m
    | _ => .stuck)
  | none => .stuck
def app1P (x : Nat) (i e : En → ER D) : En → SR := fun r => lstAt r x fun l => lst1 r x l (i r) fun j m => (e r).toS r fun d => if plain d && decide (m.length < LIM) then .nx (r.set x (some (.list (l.set j (.list (m ++ [d])))))) else .stuck
theorem lt_line {n : Nat} (h : n < LIM) : n < sizeLine := Nat.lt_of_lt_of_le h (by decide)
theorem lstAt_ok {r : En} {x : Nat} {f : List D → SR} {P : En → Prop} {R : D → En → Prop} {N : Nat → En → Prop} (h : (lstAt r x f).ok P R N) : ∃ l, r[x]? = some (some (.list l)) ∧ (f l).ok P R N := by
  unfold lstAt at h
  split at h
  · rename_i l hl
    exact ⟨l, hl, h⟩
  · exact h.elim
section
variable {X : Cx} {cl : Nat → Addr} {W : WX} {ms : List Md} {rk : Bool} {st : Stmt} {e i j : En → ER D} {k ki kj : Kd} {x : Nat}
theorem s_appP (h : PS X st (tDrop (tBM X.K "list" rAppend (tVar x) (tCons (canE X.K cl W ms e k) tNil)))) (hm : ms[x]? = some .ow ∨ ms[x]? = some .io) : IS X cl W ms rk st (appP x e) :=
  ps_imp h fun D s H ⟨r, O, Og, en, w⟩ => by
    obtain ⟨l, hl, w⟩ := lstAt_ok w
    obtain ⟨a, vs, E, h1, h2, h3, h4, h5, h6, h7⟩ := en.w0 hm hl
    refine ⟨.ref a, h1, .inl ⟨rfl, vs, SqL.of h2⟩, r, O, Og, en.env, ER.ok_mono (ER.ok_toS w) (fun d _ q v G F p rv og kv => ?_) fun c q G p => q s G O (en.same p) (Trn.same p)⟩
    split at q
    · rename_i hc
      rw [Bool.and_eq_true, decide_eq_true_eq] at hc
      have hF := Rep.plain _ _ _ rv hc.1
      subst hF
      refine ⟨a, vs, v, rfl, rfl, p _ _ h2, lt_line (by rw [h3.len]; exact hc.2), ?_⟩
      obtain ⟨g1, g2⟩ := h7 G (vs ++ [v]) (l ++ [d]) E p (by
        have := ((h3.same p).app (.one rv)).off (us := vs ++ [v]) (p _ _ h2) (by rw [List.append_nil]; exact h4)
        rwa [List.append_nil] at this) h5 h4 (fun c hc => .inl hc) h6
      exact q _ _ _ g1 g2
    · exact q.elim
theorem s_appF (h : PS X st (tDrop (tBM X.K "list" rAppend (tVar x) (tCons (canE X.K cl W ms e .fr) tNil)))) (hm : ms[x]? = some .ow ∨ ms[x]? = some .io) : IS X cl W ms rk st (appF x e) :=
  ps_imp h fun D s H ⟨r, O, Og, en, w⟩ => by
    obtain ⟨l, hl, w⟩ := lstAt_ok w
    obtain ⟨a, vs, E, h1, h2, h3, h4, h5, h6, h7⟩ := en.w0 hm hl
    refine ⟨.ref a, h1, .inl ⟨rfl, vs, SqL.of h2⟩, r, O, Og, en.env, ER.ok_mono (ER.ok_toS w) (fun d _ q v G F p rv og kv => ?_) fun c q G p => q s G O (en.same p) (Trn.same p)⟩
    split at q
    · rename_i hc
      rw [decide_eq_true_eq] at hc
      refine ⟨a, vs, v, rfl, rfl, p _ _ h2, lt_line (by rw [h3.len]; exact hc), ?_⟩
      have aF : a ∉ F := fun z => by
        have := kv.2 a z
        rw [h2] at this
        cases this
      have aEF : a ∉ E ++ F := fun z => (List.mem_append.mp z).elim h4 aF
      obtain ⟨g1, g2⟩ := h7 G (vs ++ [v]) (l ++ [d]) (E ++ F) p (((h3.same p).app (.one rv)).off (us := vs ++ [v]) (p _ _ h2) aEF) (List.nodup_append.mpr ⟨h5, kv.1, fun c hc b hb z => by
        subst z
        obtain ⟨xs, y⟩ := RepL.nodes _ _ _ h3 c hc
        rw [kv.2 c hb] at y
        cases y⟩) aEF (fun c hc => (List.mem_append.mp hc).imp id (kv.2 c)) (fun c hc => (List.mem_append.mp hc).elim (h6 c) (og c))
      exact q _ _ _ g1 g2
    · exact q.elim
/-- to a list whose items aren't ours -/
theorem s_app1 (h : PS X st (tDrop (tBM X.K "list" rAppend (tVar x) (tCons (canE X.K cl W ms e k) tNil)))) (hm : ms[x]? = some .o1) (hk : k ≠ .bo) : IS X cl W ms rk st (appF x e) :=
  ps_imp h fun D s H ⟨r, O, Og, en, w⟩ => by
    obtain ⟨l, hl, w⟩ := lstAt_ok w
    obtain ⟨a, vs, E, h1, h2, h3, h4, h6, h7⟩ := en.w01 hm hl
    have aO : a ∈ O.flatten := by
      obtain ⟨a', F', g1, _, _, g4, _⟩ := en.env.at1 hl hm
      rw [h1] at g1
      cases g1
      exact mem_fl g4 (List.mem_singleton.mpr rfl)
    refine ⟨.ref a, h1, .inl ⟨rfl, vs, SqL.of h2⟩, r, O, Og, en.env, ER.ok_mono (ER.ok_toS w) (fun d _ q v G F p rv og kv => ?_) fun c q G p => q s G O (en.same p) (Trn.same p)⟩
    split at q
    · rename_i hc
      rw [decide_eq_true_eq] at hc
      have nF := KOk.shOf en.env kv hk
      refine ⟨a, vs, v, rfl, rfl, p _ _ h2, lt_line (by rw [h3.len]; exact hc), ?_⟩
      have aEF : a ∉ E ++ F := fun z => (List.mem_append.mp z).elim h4 fun y => nF a y aO
      obtain ⟨g1, g2⟩ := h7 G (vs ++ [v]) (l ++ [d]) (E ++ F) p (((h3.same p).app (.one rv)).off (us := vs ++ [v]) (p _ _ h2) aEF) aEF (fun c hc => (List.mem_append.mp hc).elim (fun z => (h6 c z).2) (nF c)) (fun c hc => (List.mem_append.mp hc).elim (fun z => (h6 c z).1) (og c))
      exact q _ _ _ g1 g2
    · exact q.elim
theorem ix1_of {n : Nat} {d : D} {q : Nat} (h : ixOf d n = some q) : ∃ z, d = .int z ∧ ixN n z = some q := by
  unfold ixOf at h
  split at h
  · exact ⟨_, rfl, h⟩
  · cases h
theorem lst1_ok {r : En} {x : Nat} {l : List D} {a : ER D} {f : Nat → List D → SR} {P : En → Prop} {R : D → En → Prop} {N : Nat → En → Prop} (h : (lst1 r x l a f).ok P R N) : a.ok (fun d => ∃ z q m, d = .int z ∧ ixN l.length z = some q ∧ l[q]? = some (.list m) ∧ (f q m).ok P R N) (fun c => N c r) :=
  ER.ok_mono (ER.ok_toS h) (fun d _ w => by
    split at w
    · rename_i q hq
      obtain ⟨z, rfl, hz⟩ := ix1_of hq
      split at w
      · rename_i m hm
        exact ⟨z, q, m, rfl, hz, hm, w⟩
      · exact w.elim
    · exact w.elim) fun _ n => n
theorem s_app1P (h : PS X st (tDrop (tBM X.K "list" rAppend (tOp (rIx X.K) (tVar x) (canE X.K cl W ms i ki)) (tCons (canE X.K cl W ms e k) tNil)))) (hm : ms[x]? = some .ow ∨ ms[x]? = some .io) : IS X cl W ms rk st (app1P x i e) :=
  ps_imp h fun D s H ⟨r, O, Og, en, w⟩ => by
    obtain ⟨l, hl, w⟩ := lstAt_ok w
    obtain ⟨v0, F0, hs0, _⟩ := en.env.at_ hl hm
    refine ⟨v0, hs0, r, O, Og, en.env, ER.ok_mono (lst1_ok w) (fun d _ hq v G F p rv og kv => ?_) fun c q G p => q s G O (en.same p) (Trn.same p)⟩
    obtain ⟨z, q, m, rfl, hz, hm1, w⟩ := hq
    cases rv
    have en1 := en.same p
    obtain ⟨a, vs, b, ws, M, h1, h2, hlen, h3, h4, h5, h6, h7, h8, h9⟩ := en1.w1 hm hl hm1
    rw [hs0] at h1
    cases h1
    refine .inl ⟨a, vs, z, .ref b, rfl, rfl, SqL.of h2, ?_, ?_⟩
    · unfold atI
      rw [hlen, hz]
      exact h3
    refine ⟨.inl ⟨rfl, ws, SqL.of h4⟩, r, O, Og, en1.env, ER.ok_mono (ER.ok_toS w) (fun d _ w v J F p2 rv og kv => ?_) fun c q J p2 => q s J O (en1.same p2) (Trn.same (p.trans p2))⟩
    split at w
    · rename_i hc
      rw [Bool.and_eq_true, decide_eq_true_eq] at hc
      have hF := Rep.plain _ _ _ rv hc.1
      subst hF
      refine ⟨b, ws, v, rfl, rfl, p2 _ _ h4, lt_line (by rw [h5.len]; exact hc.2), ?_⟩
      obtain ⟨P, g1, g2⟩ := h9 J (ws ++ [v]) (m ++ [d]) M p2 (by
        have := ((h5.same p2).app (.one rv)).off (us := ws ++ [v]) (p2 _ _ h4) (by rw [List.append_nil]; exact h6)
        rwa [List.append_nil] at this) h7 h6 (fun c hc => .inl hc) h8
      exact w _ _ _ g1 ((Trn.same p).trans g2)
    · exact w.elim
end
end Mi

namespace Mi
open PySem L2

/-! ### list.extend with a tuple -/
section
theorem mt_tupX (l : Addr) (items : Array Value) (n : Nat) (b : Addr) (items2 : Array Value) (n2 : Nat) (dd : Option Addr) (sl : Array (Option Value)) (hs0 : ¬(!items.isEmpty && Builtin.List.listTooLong (items.size + items2.size)) = true) (hs1 : items.size ≤ sizeLine) (hs2 : items.size + items2.size ≤ sizeLine + 1) :
    Meets (Builtin.«list.extend» ⟨[.ref l, .ref b], []⟩) (fun _ R s => s.heap.get? l = some { cls := .type "list", dict := none, data := .seq items n, slots := #[] } ∧ s.heap.get? b = some { cls := .type "tuple", dict := dd, data := .seq items2 n2, slots := sl } ∧
      R (.ok (.ret Value.none)) { s with heap := s.heap.update l (Obj.mapSeq fun x => x ++ items2), toks := s.toks }) :=
  .of_wp fun prog w A R s h => by
    obtain ⟨hp, g, d, tk, os⟩ := s
    obtain ⟨hl, hb, h⟩ := h
    have f1 := AutoSeq1.idx_int
    have f2 := AutoSeq1.sub_tuple_tuple
    have f3 := AutoSeq1.sub_list_list
    have f4 := AutoSeq1.sub_tuple_list
    have f5 := AutoSeq1.sub_list_tuple
    have hz' : (items ++ items2).size ≤ sizeLine + 1 := by
      rw [Array.size_append]
      exact hs2
    wp_walk using (wpAny_updateSeq hl rfl (hz := hs1) (_hz' := hz')), wpAny_loadPart' hl, wpAny_loadPart' hb
    exact ⟨_, rfl, h⟩
variable {X : Cx}
def rExtT (K : Fg) : V → List V → Hp → VK → Prop := fun x vs H Q => ∃ l b xs zs, x = .ref l ∧ vs = [.ref b] ∧ H l = some (.lst xs) ∧ SqT K H b zs ∧ xs.length + zs.length ≤ sizeLine ∧ Q .non (upd H l (.lst (xs ++ zs)))
theorem mt_extT : MtM X "list.extend" (rExtT X.K) := by
  intro pins s z H x vs v us Q I rx rv h
  obtain ⟨l, b, xs, zs, rfl, rfl, hH, hB, hz, q⟩ := h
  cases rx
  obtain ⟨u, rfl, ru⟩ := rv.one
  cases ru
  obtain ⟨_, its, n, r, hl, e⟩ := I.lstM hH
  obtain ⟨its2, r2, ⟨⟨cls, dd, data, sl⟩, ho, hc, n2, hd⟩, hz2⟩ := I.tuple hB
  simp only at hc hd
  subst hc hd
  have hl2 := r2.length
  have hsz : its.toArray.size + its2.toArray.size ≤ sizeLine := by rw [List.size_toArray, List.size_toArray]; omega
  have hlong : ¬ (!its.toArray.isEmpty && Builtin.List.listTooLong (its.toArray.size + its2.toArray.size)) = true := by
    rw [notLongL hsz, Bool.and_false]
    exact Bool.false_ne_true
  refine call_meets PySem.F.slot_list_extend ⟨_, e, rfl⟩ PySem.F.entry_list_extend (PySem.F.args_list_extend_2 _ _) (mt_tupX l its.toArray n b its2.toArray n2 dd sl hlong (by rw [List.size_toArray]; omega) (by omega)) ⟨e, ho, ?_⟩
  refine ⟨.non, _, I.lset (its' := its ++ its2) (t' := s.toks) hH e (by simp) (r.append r2) ?_, rfl, q⟩
  rw [List.length_append]
  omega
def rExtD (K : Fg) : V → List V → Hp → VK → Prop := fun x vs H Q => rExtend x vs H Q ∨ rExtT K x vs H Q
theorem mt_extD : MtM X "list.extend" (rExtD X.K) := fun pins s z H x vs v us Q I rx rv h => h.elim (mt_extend pins s z H x vs v us Q I rx rv) (mt_extT pins s z H x vs v us Q I rx rv)
end

/-! ### statements that write lists of ours -/
def itemsOf : D → Option (List D)
  | .list m => some m
  | .tuple m => some m
  | _ => none
def extP (x : Nat) (e : En → ER D) : En → SR := fun r => lstAt r x fun l => (e r).toS r fun d => match itemsOf d with
  | some m => if plainL m && decide (l.length + m.length < LIM) then .nx (r.set x (some (.list (l ++ m)))) else .stuck
  | none => .stuck
def extF (x : Nat) (e : En → ER D) : En → SR := fun r => lstAt r x fun l => (e r).toS r fun d => match itemsOf d with
  | some m => if decide (l.length + m.length < LIM) then .nx (r.set x (some (.list (l ++ m)))) else .stuck
  | none => .stuck
/-- a value without lists, or a new list of such -/
def plainI : D → Bool
  | .list m => plainL m
  | d => plain d
def setP (x : Nat) (i e : En → ER D) : En → SR := fun r => (e r).toS r fun d => lstAt r x fun l => (i r).toS r fun z => match ixOf z l.length with
  | some q => if plain d then .nx (r.set x (some (.list (l.set q d)))) else .stuck
  | none => .stuck
/-- a new list of values without lists goes in -/
def setN (x : Nat) (i e : En → ER D) : En → SR := fun r => (e r).toS r fun d => lstAt r x fun l => (i r).toS r fun z => match ixOf z l.length with
  | some q => if plainI d then .nx (r.set x (some (.list (l.set q d)))) else .stuck
  | none => .stuck
def setO (x : Nat) (i e : En → ER D) : En → SR := fun r => (e r).toS r fun d => lstAt r x fun l => (i r).toS r fun z => match ixOf z l.length with
  | some q => .nx (r.set x (some (.list (l.set q d))))
  | none => .stuck
def set1P (x : Nat) (i j e : En → ER D) : En → SR := fun r => (e r).toS r fun d => lstAt r x fun l => lst1 r x l (i r) fun q m => (j r).toS r fun z => match ixOf z m.length with
  | some t => if plain d then .nx (r.set x (some (.list (l.set q (.list (m.set t d)))))) else .stuck
  | none => .stuck
/-- y = x[i].pop() -/
def pop1 (y x : Nat) (i : En → ER D) : En → SR := fun r => lstAt r x fun l => lst1 r x l (i r) fun q m => match m.getLast? with
  | some d => if plain d then .nx ((r.set x (some (.list (l.set q (.list m.dropLast))))).set y (some d)) else .stuck
  | none => .stuck
/-- x[i].pop() -/
def pop1E (x : Nat) (i : En → ER D) : En → SR := fun r => lstAt r x fun l => lst1 r x l (i r) fun q m => match m.getLast? with
  | some _ => .nx (r.set x (some (.list (l.set q (.list m.dropLast)))))
  | none => .stuck
def popIx (z : D) (n : Nat) : Option Nat := match z with
  | .int i => if okR i then seqIndex? i n else none
  | _ => none
theorem popIx_of {z : D} {n q : Nat} (h : popIx z n = some q) : ∃ i, z = .int i ∧ okR i = true ∧ seqIndex? i n = some q := by
  unfold popIx at h
  split at h
  · split at h
    · exact ⟨_, rfl, by assumption, h⟩
    · cases h
  · cases h
/-- y.append(x.pop(i)) -/
def appPop (y x : Nat) (i : En → ER D) : En → SR := fun r => lstAt r y fun k => lstAt r x fun l => (i r).toS r fun z => match popIx z l.length with
  | some q => (match l[q]? with
      | some d => if plain d && decide (k.length < LIM) then .nx ((r.set x (some (.list (l.eraseIdx q)))).set y (some (.list (k ++ [d])))) else .stuck
      | none => .stuck)
  | none => .stuck
section
variable {X : Cx} {cl : Nat → Addr} {W : WX} {ms : List Md} {rk : Bool} {st : Stmt} {e i j : En → ER D} {k ki kj : Kd} {x y : Nat}
theorem itemsOf_rep {K : Fg} {H : Hp} {v : V} {d : D} {F : List Addr} {m : List D} (h : itemsOf d = some m) (rv : Rep K H v d F) : ∃ b ws M, v = .ref b ∧ (H b = some (.lst ws) ∨ SqT K H b ws) ∧ RepL K H ws m M ∧ M.Sublist F := by
  cases d with
  | list l =>
    cases h
    obtain ⟨b, ws, M, rfl, h1, h2, rfl⟩ := rv.lstE
    exact ⟨b, ws, M, rfl, .inl h1, h2, List.sublist_cons_self _ _⟩
  | tuple l =>
    cases h
    obtain ⟨b, ws, rfl, h1, h2⟩ := rv.tupE
    exact ⟨b, ws, F, rfl, .inr h1, h2, List.Sublist.refl _⟩
  | _ => cases h
theorem ext_go {K : Fg} {H : Hp} {a b : Addr} {vs ws : List V} {Q : VK} (h1 : H a = some (.lst vs)) (h2 : H b = some (.lst ws) ∨ SqT K H b ws) (hz : vs.length + ws.length < LIM) (q : Q .non (upd H a (.lst (vs ++ ws)))) : rExtD K (.ref a) [.ref b] H Q := by
  have hz' : vs.length + ws.length ≤ sizeLine := lim_line (Nat.le_of_lt hz)
  rcases h2 with h | h
  · exact .inl ⟨a, b, vs, ws, rfl, rfl, h1, h, hz', q⟩
  · exact .inr ⟨a, b, vs, ws, rfl, rfl, h1, h, hz', q⟩
theorem s_extP (h : PS X st (tDrop (tBM X.K "list" (rExtD X.K) (tVar x) (tCons (canE X.K cl W ms e k) tNil)))) (hm : ms[x]? = some .ow ∨ ms[x]? = some .io) : IS X cl W ms rk st (extP x e) :=
  ps_imp h fun D s H ⟨r, O, Og, en, w⟩ => by
    obtain ⟨l, hl, w⟩ := lstAt_ok w
    obtain ⟨a, vs, E, h1, h2, h3, h4, h5, h6, h7⟩ := en.w0 hm hl
    refine ⟨.ref a, h1, .inl ⟨rfl, vs, SqL.of h2⟩, r, O, Og, en.env, ER.ok_mono (ER.ok_toS w) (fun d _ q v G F p rv og kv => ?_) fun c q G p => q s G O (en.same p) (Trn.same p)⟩
    split at q
    · rename_i m hm'
      split at q
      · rename_i hc
        rw [Bool.and_eq_true, decide_eq_true_eq] at hc
        obtain ⟨b, ws, M, rfl, g1, g2, g3⟩ := itemsOf_rep hm' rv
        have hM := RepL.plain _ _ _ g2 hc.1
        subst hM
        refine ext_go (p _ _ h2) g1 (by rw [h3.len, g2.len]; exact hc.2) ?_
        obtain ⟨t1, t2⟩ := h7 G (vs ++ ws) (l ++ m) E p (by
          have := ((h3.same p).app g2).off (us := vs ++ ws) (p _ _ h2) (by rw [List.append_nil]; exact h4)
          rwa [List.append_nil] at this) h5 h4 (fun c hc => .inl hc) h6
        exact q _ _ _ t1 t2
      · exact q.elim
    · exact q.elim
theorem s_ext1 (h : PS X st (tDrop (tBM X.K "list" (rExtD X.K) (tVar x) (tCons (canE X.K cl W ms e k) tNil)))) (hm : ms[x]? = some .o1) (hk : k ≠ .bo) : IS X cl W ms rk st (extF x e) :=
  ps_imp h fun D s H ⟨r, O, Og, en, w⟩ => by
    obtain ⟨l, hl, w⟩ := lstAt_ok w
    obtain ⟨a, vs, E, h1, h2, h3, h4, h6, h7⟩ := en.w01 hm hl
    have aO : a ∈ O.flatten := by
      obtain ⟨a', F', g1, _, _, g4, _⟩ := en.env.at1 hl hm
      rw [h1] at g1
      cases g1
      exact mem_fl g4 (List.mem_singleton.mpr rfl)
    refine ⟨.ref a, h1, .inl ⟨rfl, vs, SqL.of h2⟩, r, O, Og, en.env, ER.ok_mono (ER.ok_toS w) (fun d _ q v G F p rv og kv => ?_) fun c q G p => q s G O (en.same p) (Trn.same p)⟩
    split at q
    · rename_i m hm'
      split at q
      · rename_i hc
        rw [decide_eq_true_eq] at hc
        obtain ⟨b, ws, M, rfl, g1, g2, g3⟩ := itemsOf_rep hm' rv
        have nF := KOk.shOf en.env kv hk
        have nM : ∀ c ∈ M, c ∉ O.flatten := fun c hc => nF c (g3.subset hc)
        refine ext_go (p _ _ h2) g1 (by rw [h3.len, g2.len]; exact hc) ?_
        have aEF : a ∉ E ++ M := fun z => (List.mem_append.mp z).elim h4 fun y => nM a y aO
        obtain ⟨t1, t2⟩ := h7 G (vs ++ ws) (l ++ m) (E ++ M) p (((h3.same p).app g2).off (us := vs ++ ws) (p _ _ h2) aEF) aEF (fun c hc => (List.mem_append.mp hc).elim (fun z => (h6 c z).2) (nM c)) (fun c hc => (List.mem_append.mp hc).elim (fun z => (h6 c z).1) fun z => og c (g3.subset z))
        exact q _ _ _ t1 t2
      · exact q.elim
    · exact q.elim
theorem RepL.set_ {K : Fg} {H : Hp} {vs : List V} {ds : List D} {E : List Addr} (h : RepL K H vs ds E) {q : Nat} (hq : q < ds.length) {v : V} {d : D} {F : List Addr} (rv : Rep K H v d F) : ∃ E1 E2 E3, E = E1 ++ (E2 ++ E3) ∧ RepL K H (vs.set q v) (ds.set q d) (E1 ++ (F ++ E3)) := by
  obtain ⟨u, E1, E2, E3, c1, c2, c3, c4, c5⟩ := h.cut (List.getElem?_eq_getElem hq)
  refine ⟨E1, E2, E3, c2, ?_⟩
  rw [set_cut hq, set_cut (by rw [h.len]; exact hq)]
  exact c3.app (.cons rv c5)
/-- an item of its own list; F: nothing, or what is new -/
theorem set_go {s : L2.St} {H : Hp} {r : En} {O : List (List Addr)} {Og : Addr → Prop} (en : EnvS X.K H ms r s O Og) (hm : ms[x]? = some .ow ∨ ms[x]? = some .io) {L : List Mi.D} (hl : r[x]? = some (some (.list L))) {G : Hp} (p : Same H G) {v : V} {d : Mi.D} {F : List Addr} (rv : Rep X.K G v d F) (og : ∀ a ∈ F, Og a) (nd : F.Nodup) (nw : ∀ a ∈ F, H a = none)
    {J : Hp} (p2 : Same G J) {z : Int} {q : Nat} (hz : ixN L.length z = some q) {Q : L2.St → Hp → Prop} (fin : ∀ J P, EnvS X.K J ms (r.set x (some (.list (L.set q d)))) s P Og → Trn ms s s H J O.flatten P.flatten → Q s J) :
    ∃ v0, s[x]? = some (some v0) ∧ rSetL v0 (.int z) v J (fun J' => Q s J') := by
  obtain ⟨a, vs, E, h1, h2, h3, h4, h5, h6, h7⟩ := en.w0 hm hl
  have hq : q < L.length := (ixN_seq hz).2.1
  have aF : a ∉ F := fun z => by
    have := nw a z
    rw [h2] at this
    cases this
  have hJ := (p.trans p2) _ _ h2
  obtain ⟨E1, E2, E3, e1, e2⟩ := ((h3.same p).same p2).set_ hq (rv.same p2)
  have sub : ∀ c, c ∈ E1 ++ (F ++ E3) → c ∈ E ∨ c ∈ F := fun c hc => by
    rw [e1]
    simp only [List.mem_append] at hc ⊢
    rcases hc with h | h | h
    · exact .inl (.inl h)
    · exact .inr h
    · exact .inl (.inr (.inr h))
  have aN : a ∉ E1 ++ (F ++ E3) := fun hc => (sub a hc).elim h4 aF
  have tr : ∀ c ∈ E, c ∉ F := fun c hc hf => by
    obtain ⟨xs, y⟩ := RepL.nodes _ _ _ h3 c hc
    rw [nw c hf] at y
    cases y
  have ndN : (E1 ++ (F ++ E3)).Nodup := by
    rw [e1] at h5 tr
    obtain ⟨k1, k2, k3⟩ := List.nodup_append.mp h5
    obtain ⟨k4, k5, k6⟩ := List.nodup_append.mp k2
    refine List.nodup_append.mpr ⟨k1, List.nodup_append.mpr ⟨nd, k5, fun c hc b hb z => ?_⟩, fun c hc b hb z => ?_⟩
    · subst z
      exact tr c (List.mem_append_right _ (List.mem_append_right _ hb)) hc
    · subst z
      rcases List.mem_append.mp hb with hb | hb
      · exact tr c (List.mem_append_left _ hc) hb
      · exact k3 c hc c (List.mem_append_right _ hb) rfl
  obtain ⟨t1, t2⟩ := h7 J (vs.set q v) (L.set q d) _ (p.trans p2) (e2.off (us := vs.set q v) hJ aN) ndN aN (fun c hc => (sub c hc).imp id (nw c)) (fun c hc => (sub c hc).elim (h6 c) (og c))
  exact ⟨.ref a, h1, a, vs, z, q, rfl, rfl, hJ, by rw [h3.len]; exact hz, fin _ _ t1 t2⟩
theorem s_setP (h : PS X st (tAsg (canE X.K cl W ms e k) (gSub (tVar x) (canE X.K cl W ms i ki) rSetL))) (hm : ms[x]? = some .ow ∨ ms[x]? = some .io) : IS X cl W ms rk st (setP x i e) :=
  ps_imp h fun D s H ⟨r, O, Og, en, w⟩ => ⟨r, O, Og, en.env, ER.ok_mono (ER.ok_toS w) (fun d _ w v G F p rv og kv => by
    obtain ⟨l, hl, w⟩ := lstAt_ok w
    obtain ⟨v0, _, hs0, _⟩ := en.env.at_ hl hm
    refine ⟨v0, hs0, r, O, Og, en.env.same p, ER.ok_mono (ER.ok_toS w) (fun z _ w u J _ p2 rz _ _ => ?_) fun c q J p2 => q s J O (en.same (p.trans p2)) (Trn.same (p.trans p2))⟩
    split at w
    · rename_i q hq
      obtain ⟨n, rfl, hn⟩ := ix1_of hq
      cases rz
      split at w
      · rename_i hp
        have hF := Rep.plain _ _ _ rv hp
        subst hF
        obtain ⟨v1, g1, g2⟩ := set_go en hm hl p rv og List.nodup_nil (fun _ y => nomatch y) p2 hn (Q := fun _ J => D.nx s J) fun J P t1 t2 => w s J P t1 t2
        rw [hs0] at g1
        cases g1
        exact g2
      · exact w.elim
    · exact w.elim) fun c q G p => q s G O (en.same p) (Trn.same p)⟩
theorem s_setN (h : PS X st (tAsg (canE X.K cl W ms e k) (gSub (tVar x) (canE X.K cl W ms i ki) rSetL))) (hk : k = .f1 ∨ k = .fr) (hm : ms[x]? = some .ow ∨ ms[x]? = some .io) : IS X cl W ms rk st (setN x i e) :=
  ps_imp h fun D s H ⟨r, O, Og, en, w⟩ => ⟨r, O, Og, en.env, ER.ok_mono (ER.ok_toS w) (fun d _ w v G F p rv og kv => by
    obtain ⟨l, hl, w⟩ := lstAt_ok w
    obtain ⟨v0, _, hs0, _⟩ := en.env.at_ hl hm
    refine ⟨v0, hs0, r, O, Og, en.env.same p, ER.ok_mono (ER.ok_toS w) (fun z _ w u J _ p2 rz _ _ => ?_) fun c q J p2 => q s J O (en.same (p.trans p2)) (Trn.same (p.trans p2))⟩
    split at w
    · rename_i q hq
      obtain ⟨n, rfl, hn⟩ := ix1_of hq
      cases rz
      split at w
      · rename_i hp
        have hF : F.Nodup ∧ ∀ a ∈ F, H a = none := by
          cases d with
          | list m =>
            obtain ⟨b, ws, M, rfl, g1, g2, rfl⟩ := rv.lstE
            have hM := RepL.plain _ _ _ g2 hp
            subst hM
            refine ⟨by simp, fun a ha => ?_⟩
            rw [List.mem_singleton.mp ha]
            rcases hk with hk | hk
            · subst hk
              obtain ⟨a', F', e1, e2, e3, _⟩ := kv
              cases e1
              exact e3
            · subst hk
              exact kv.2 b List.mem_cons_self
          | dict m => rw [Rep.plain _ _ _ rv hp]; exact ⟨List.nodup_nil, fun _ y => nomatch y⟩
          | tuple m => rw [Rep.plain _ _ _ rv hp]; exact ⟨List.nodup_nil, fun _ y => nomatch y⟩
          | none => rw [Rep.plain _ _ _ rv hp]; exact ⟨List.nodup_nil, fun _ y => nomatch y⟩
          | bool m => rw [Rep.plain _ _ _ rv hp]; exact ⟨List.nodup_nil, fun _ y => nomatch y⟩
          | int m => rw [Rep.plain _ _ _ rv hp]; exact ⟨List.nodup_nil, fun _ y => nomatch y⟩
          | str m => rw [Rep.plain _ _ _ rv hp]; exact ⟨List.nodup_nil, fun _ y => nomatch y⟩
        obtain ⟨v1, g1, g2⟩ := set_go en hm hl p rv og hF.1 hF.2 p2 hn (Q := fun _ J => D.nx s J) fun J P t1 t2 => w s J P t1 t2
        rw [hs0] at g1
        cases g1
        exact g2
      · exact w.elim
    · exact w.elim) fun c q G p => q s G O (en.same p) (Trn.same p)⟩
theorem s_setO (h : PS X st (tAsg (canE X.K cl W ms e k) (gSub (tVar x) (canE X.K cl W ms i ki) rSetL))) (hk : k ≠ .bo) (hm : ms[x]? = some .o1) : IS X cl W ms rk st (setO x i e) :=
  ps_imp h fun D s H ⟨r, O, Og, en, w⟩ => ⟨r, O, Og, en.env, ER.ok_mono (ER.ok_toS w) (fun d _ w v G F p rv og kv => by
    obtain ⟨l, hl, w⟩ := lstAt_ok w
    obtain ⟨a, vs, E, h1, h2, h3, h4, h6, h7⟩ := en.w01 hm hl
    have aO : a ∈ O.flatten := by
      obtain ⟨a', F', g1, _, _, g4, _⟩ := en.env.at1 hl hm
      rw [h1] at g1
      cases g1
      exact mem_fl g4 (List.mem_singleton.mpr rfl)
    refine ⟨.ref a, h1, r, O, Og, en.env.same p, ER.ok_mono (ER.ok_toS w) (fun z _ w u J _ p2 rz _ _ => ?_) fun c q J p2 => q s J O (en.same (p.trans p2)) (Trn.same (p.trans p2))⟩
    split at w
    · rename_i q hq
      obtain ⟨n, rfl, hn⟩ := ix1_of hq
      cases rz
      have hq2 : q < l.length := (ixN_seq hn).2.1
      have nF := KOk.shOf en.env kv hk
      have hJ := (p.trans p2) _ _ h2
      obtain ⟨E1, E2, E3, e1, e2⟩ := ((h3.same p).same p2).set_ hq2 (rv.same p2)
      have sub : ∀ c, c ∈ E1 ++ (F ++ E3) → c ∈ E ∨ c ∈ F := fun c hc => by
        rw [e1]
        simp only [List.mem_append] at hc ⊢
        rcases hc with h | h | h
        · exact .inl (.inl h)
        · exact .inr h
        · exact .inl (.inr (.inr h))
      have aN : a ∉ E1 ++ (F ++ E3) := fun hc => (sub a hc).elim h4 fun y => nF a y aO
      obtain ⟨t1, t2⟩ := h7 J (vs.set q v) (l.set q d) _ (p.trans p2) (e2.off (us := vs.set q v) hJ aN) aN (fun c hc => (sub c hc).elim (fun y => (h6 c y).2) (nF c)) (fun c hc => (sub c hc).elim (fun y => (h6 c y).1) (og c))
      exact ⟨a, vs, n, q, rfl, rfl, hJ, by rw [h3.len]; exact hn, w _ _ _ t1 t2⟩
    · exact w.elim) fun c q G p => q s G O (en.same p) (Trn.same p)⟩
theorem s_set1P (h : PS X st (tAsg (canE X.K cl W ms e k) (gSub (tOp (rIx X.K) (tVar x) (canE X.K cl W ms i ki)) (canE X.K cl W ms j kj) rSetL))) (hm : ms[x]? = some .ow ∨ ms[x]? = some .io) : IS X cl W ms rk st (set1P x i j e) :=
  ps_imp h fun D s H ⟨r, O, Og, en, w⟩ => ⟨r, O, Og, en.env, ER.ok_mono (ER.ok_toS w) (fun d _ w v G F p rv og kv => by
    obtain ⟨l, hl, w⟩ := lstAt_ok w
    obtain ⟨v0, _, hs0, _⟩ := en.env.at_ hl hm
    refine ⟨v0, hs0, r, O, Og, en.env.same p, ER.ok_mono (lst1_ok w) (fun d2 _ hq u J F2 p2 rz _ _ => ?_) fun c q J p2 => q s J O (en.same (p.trans p2)) (Trn.same (p.trans p2))⟩
    obtain ⟨z, q, m, rfl, hz, hm1, w⟩ := hq
    cases rz
    have en1 := en.same (p.trans p2)
    obtain ⟨a, vs, b, ws, M, h1, h2, hlen, h3, h4, h5, h6, h7, h8, h9⟩ := en1.w1 hm hl hm1
    rw [hs0] at h1
    cases h1
    refine .inl ⟨a, vs, z, .ref b, rfl, rfl, SqL.of h2, ?_, ?_⟩
    · unfold atI
      rw [hlen, hz]
      exact h3
    refine ⟨r, O, Og, en1.env, ER.ok_mono (ER.ok_toS w) (fun d3 _ w u3 L _ p3 rz3 _ _ => ?_) fun c q L p3 => q s L O (en1.same p3) (Trn.same ((p.trans p2).trans p3))⟩
    split at w
    · rename_i t ht
      obtain ⟨n, rfl, hn⟩ := ix1_of ht
      cases rz3
      split at w
      · rename_i hp
        have hF := Rep.plain _ _ _ rv hp
        subst hF
        have hL := p3 _ _ h4
        obtain ⟨E1, E2, E3, e1, e2⟩ := (h5.same p3).set_ (ixN_seq hn).2.1 ((rv.same p2).same p3)
        have sub : ∀ c, c ∈ E1 ++ ([] ++ E3) → c ∈ M := fun c hc => by
          rw [e1]
          simp only [List.mem_append] at hc ⊢
          rcases hc with h | h | h
          · exact .inl h
          · cases h
          · exact .inr (.inr h)
        have bN : b ∉ E1 ++ ([] ++ E3) := fun hc => h6 (sub b hc)
        have ndN : (E1 ++ ([] ++ E3)).Nodup := by
          rw [e1] at h7
          exact h7.sublist (List.Sublist.append (List.Sublist.refl _) (List.Sublist.append (List.nil_sublist _) (List.Sublist.refl _)))
        obtain ⟨P, t1, t2⟩ := h9 L (ws.set t v) (m.set t d) _ p3 (e2.off (us := ws.set t v) hL bN) ndN bN (fun c hc => .inl (sub c hc)) (fun c hc => h8 c (sub c hc))
        exact ⟨b, ws, n, t, rfl, rfl, hL, by rw [h5.len]; exact hn, w _ _ _ t1 ((Trn.same (p.trans p2)).trans t2)⟩
      · exact w.elim
    · exact w.elim) fun c q G p => q s G O (en.same p) (Trn.same p)⟩
theorem RepL.last {K : Fg} {H : Hp} {vs : List V} {ds : List D} {E : List Addr} (h : RepL K H vs ds E) {d : D} (e : ds.getLast? = some d) : ∃ v E1 F, vs[vs.length - 1]? = some v ∧ Rep K H v d F ∧ RepL K H vs.dropLast ds.dropLast E1 ∧ E = E1 ++ F := by
  have hn : ds ≠ [] := fun z => by rw [z] at e; cases e
  have hl : 0 < ds.length := List.length_pos_iff.mpr hn
  have e' : ds[ds.length - 1]? = some d := by rw [← List.getLast?_eq_getElem?]; exact e
  obtain ⟨v, E1, E2, E3, c1, c2, c3, c4, c5⟩ := h.cut e'
  have h0 : ds.length - 1 + 1 = ds.length := by omega
  rw [h0, List.drop_length, ← h.len, List.drop_length] at c5
  cases c5
  refine ⟨v, E1, E2, by rw [h.len]; exact c1, c4, ?_, by rw [c2, List.append_nil]⟩
  rw [List.dropLast_eq_take, List.dropLast_eq_take, h.len]
  exact c3
theorem pop_go {D : Ends} {s : L2.St} {H : Hp} {r : En} {O : List (List Addr)} {Og : Addr → Prop} (en : EnvS X.K H ms r s O Og) (hm : ms[x]? = some .ow ∨ ms[x]? = some .io) {Q : V → Hp → Prop} {F : Nat → List Mi.D → SR} {Pp : En → Prop} {Rr : Mi.D → En → Prop} {Nn : Nat → En → Prop} {l : List Mi.D} (hl : r[x]? = some (some (.list l)))
    (w : (lst1 r x l (i r) F).ok Pp Rr Nn) (exn : ∀ c G, Nn c r → Same H G → W (.ref (cl c)) none s G)
    (fin : ∀ q m, l[q]? = some (.list m) → (F q m).ok Pp Rr Nn → ∃ d, m.getLast? = some d ∧ ∀ v J P E G, Same H G → Rep X.K G v d E → EnvS X.K J ms (r.set x (some (.list (l.set q (.list m.dropLast))))) s P Og → Trn ms s s H J O.flatten P.flatten → (∀ (pl : plain d = true), Rep X.K J v d []) → Q v J) :
    tBM0 X.K "list" rPop (tOp (rIx X.K) (tVar x) (canE X.K cl W ms i ki)) s H Q := by
  obtain ⟨v0, _, hs0, _⟩ := en.env.at_ hl hm
  refine ⟨v0, hs0, r, O, Og, en.env, ER.ok_mono (lst1_ok w) (fun d2 _ hq u J F2 p rz _ _ => ?_) fun c n G p => exn c G n p⟩
  obtain ⟨z, q, m, rfl, hz, hm1, w⟩ := hq
  cases rz
  have en1 := en.same p
  obtain ⟨a, vs, b, ws, M, h1, h2, hlen, h3, h4, h5, h6, h7, h8, h9⟩ := en1.w1 hm hl hm1
  rw [hs0] at h1
  cases h1
  refine .inl ⟨a, vs, z, .ref b, rfl, rfl, SqL.of h2, ?_, ?_⟩
  · unfold atI
    rw [hlen, hz]
    exact h3
  obtain ⟨d, hd, fin⟩ := fin q m hm1 w
  obtain ⟨v, E1, Fl, c1, c2, c3, c4⟩ := h5.last hd
  have sub : ∀ c ∈ E1, c ∈ M := fun c hc => by rw [c4]; exact List.mem_append_left _ hc
  have bN : b ∉ E1 := fun hc => h6 (sub b hc)
  obtain ⟨P, t1, t2⟩ := h9 J ws.dropLast m.dropLast E1 (Same.refl J) (c3.off (us := ws.dropLast) h4 bN) (by rw [c4] at h7; exact (List.nodup_append.mp h7).1) bN (fun c hc => .inl (sub c hc)) (fun c hc => h8 c (sub c hc))
  refine ⟨.inl ⟨rfl, ws, SqL.of h4⟩, b, ws, v, rfl, rfl, h4, c1, fin v _ P Fl J p c2 t1 ((Trn.same p).trans t2) fun pl => ?_⟩
  have hF := Rep.plain _ _ _ c2 pl
  subst hF
  exact c2.off h4 (fun z => nomatch z)
theorem s_pop1 (h : PS X st (tAsg (tBM0 X.K "list" rPop (tOp (rIx X.K) (tVar x) (canE X.K cl W ms i ki))) (gName y))) (hm : ms[x]? = some .ow ∨ ms[x]? = some .io) (hy : ms[y]? = some .sh) : IS X cl W ms rk st (pop1 y x i) :=
  ps_imp h fun D s H ⟨r, O, Og, en, w⟩ => by
    obtain ⟨l, hl, w⟩ := lstAt_ok w
    refine pop_go (D := D) en hm hl w (fun c G n p => n s G O (en.same p) (Trn.same p)) fun q m hq w => ?_
    split at w
    · rename_i d hd
      refine ⟨d, hd, fun v J P E G p rv t1 t2 pl => ?_⟩
      split at w
      · rename_i hp
        refine w _ J P ⟨t1.env.put (.inr ⟨hy, ?_⟩) (pl hp) (fun _ z => nomatch z), t1.nb.set (by rw [hy]; decide)⟩ (t2.trans (Trn.put (Same.refl J) (by rw [hy]; decide)))
        exact fun _ z => nomatch z
      · exact w.elim
    · exact w.elim
theorem s_pop1E (h : PS X st (tDrop (tBM0 X.K "list" rPop (tOp (rIx X.K) (tVar x) (canE X.K cl W ms i ki))))) (hm : ms[x]? = some .ow ∨ ms[x]? = some .io) : IS X cl W ms rk st (pop1E x i) :=
  ps_imp h fun D s H ⟨r, O, Og, en, w⟩ => by
    obtain ⟨l, hl, w⟩ := lstAt_ok w
    refine pop_go (D := D) (Q := fun _ J => D.nx s J) en hm hl w (fun c G n p => n s G O (en.same p) (Trn.same p)) fun q m hq w => ?_
    split at w
    · rename_i d hd
      exact ⟨d, hd, fun v J P E G p rv t1 t2 pl => w _ J P t1 t2⟩
    · exact w.elim
theorem RepL.erase {K : Fg} {H : Hp} {vs : List V} {ds : List D} {E : List Addr} (h : RepL K H vs ds E) {q : Nat} {d : D} (e : ds[q]? = some d) : ∃ v E' F, vs[q]? = some v ∧ Rep K H v d F ∧ RepL K H (vs.eraseIdx q) (ds.eraseIdx q) E' ∧ Mi.Sub E' E := by
  obtain ⟨v, E1, E2, E3, c1, c2, c3, c4, c5⟩ := h.cut e
  refine ⟨v, E1 ++ E3, E2, c1, c4, ?_, ?_⟩
  · rw [List.eraseIdx_eq_take_drop_succ, List.eraseIdx_eq_take_drop_succ]
    exact c3.app c5
  · rw [c2]
    exact Mi.Sub.of (List.Sublist.append (List.Sublist.refl _) (List.sublist_append_right _ _))
theorem s_appPop (h : PS X st (tDrop (tBM X.K "list" rAppend (tVar y) (tCons (tBM X.K "list" rPopAt (tVar x) (tCons (canE X.K cl W ms i ki) tNil)) tNil)))) (hx : ms[x]? = some .ow) (hy : ms[y]? = some .ow) (ne : x ≠ y) : IS X cl W ms rk st (appPop y x i) :=
  ps_imp h fun D s H ⟨r, O, Og, en, w⟩ => by
    obtain ⟨k, hk, w⟩ := lstAt_ok w
    obtain ⟨l, hl, w⟩ := lstAt_ok w
    obtain ⟨b, us, Eb, b1, b2, _⟩ := en.w0 (.inl hy) hk
    obtain ⟨a, vs, E, a1, a2, a3, a4, a5, a6, a7⟩ := en.w0 (.inl hx) hl
    refine ⟨.ref b, b1, .inl ⟨rfl, us, SqL.of b2⟩, .ref a, a1, .inl ⟨rfl, vs, SqL.of a2⟩, r, O, Og, en.env, ER.ok_mono (ER.ok_toS w) (fun z _ w u J F p rz _ _ => ?_) fun c q G p => q s G O (en.same p) (Trn.same p)⟩
    split at w
    · rename_i q hq0
      obtain ⟨n, rfl, hsm, hq⟩ := popIx_of hq0
      cases rz
      split at w
      · rename_i d hd
        split at w
        · rename_i hc
          · rw [Bool.and_eq_true, decide_eq_true_eq] at hc
            obtain ⟨hp, hlen⟩ := hc
            obtain ⟨v, E', Fv, g1, g2, g3, g4⟩ := (a3.same p).erase hd
            have hF := Rep.plain _ _ _ g2 hp
            subst hF
            have aJ := p _ _ a2
            have aN : a ∉ E' := fun hm => a4 (g4.1 a hm)
            obtain ⟨t1, t2⟩ := a7 J (vs.eraseIdx q) (l.eraseIdx q) E' p (g3.off (us := vs.eraseIdx q) aJ aN) (g4.2 a5) aN (fun c hc => .inl (g4.1 c hc)) (fun c hc => a6 c (g4.1 c hc))
            have rv' : Rep X.K (upd J a (.lst (vs.eraseIdx q))) v d [] := g2.off aJ (fun z => nomatch z)
            have bnd : -(2 ^ 63) ≤ n ∧ n < 2 ^ 63 := by
              have := okR_of hsm
              omega
            refine ⟨a, vs, n, q, v, rfl, rfl, aJ, bnd.1, bnd.2, by rw [a3.len]; exact hq, g1, ?_⟩
            have hk' : (r.set x (some (.list (l.eraseIdx q))))[y]? = some (some (.list k)) := by rw [List.getElem?_set_ne ne]; exact hk
            obtain ⟨b', us', Eb', c1, c2, c3, c4, c5, c6, c7⟩ := t1.w0 (.inl hy) hk'
            rw [b1] at c1
            cases c1
            have bN : b ∉ Eb' ++ [] := by rw [List.append_nil]; exact c4
            refine ⟨b, us', v, rfl, rfl, c2, lt_line (by rw [c3.len]; exact hlen), ?_⟩
            obtain ⟨t3, t4⟩ := c7 _ (us' ++ [v]) (k ++ [d]) Eb' (Same.refl _) (by
              have := (c3.app (.one rv')).off (us := us' ++ [v]) c2 bN
              rwa [List.append_nil] at this) c5 c4 (fun c hc => .inl hc) c6
            exact w _ _ _ t3 (t2.trans t4)
        · exact w.elim
      · exact w.elim
    · exact w.elim
end
end Mi

namespace Mi
open PySem PySem.Spec L2

/-! ### loops -/
def forL (x : Nat) (b : En → SR) : List D → En → SR
  | [], r => .nx r
  | d :: ds, r => match b (r.set x (some d)) with
    | .nx r' => forL x b ds r'
    | a => a
def forS (x : Nat) (f : En → ER (List D)) (b : En → SR) : En → SR := fun r => match f r with
  | .stuck => .stuck
  | .val ds => forL x b ds r
  | .exn c => .exn c r
def whileL (t : En → ER D) (b : En → SR) : Nat → En → SR
  | 0, _ => .stuck
  | n + 1, r => (t r).toS r fun d => match d with
    | .bool true => (match b r with
      | .nx r' => whileL t b n r'
      | a => a)
    | .bool false => .nx r
    | _ => .stuck
def FUEL : Nat := 100000
def whileS (t : En → ER D) (b : En → SR) : En → SR := whileL t b FUEL
section
variable {X : Cx} {cl : Nat → Addr} {W : WX} {ms : List Md} {rk : Bool} {tg iter c : Expr} {body : List Stmt} {f : En → ER (List D)} {t : En → ER D} {b : En → SR} {k : Kd} {x : Nat} {pos : Pos}
/-- what is wanted behind, seen from (s, H, O) -/
abbrev Nxt (K : Fg) (ms : List Md) (Og : Addr → Prop) (s : L2.St) (H : Hp) (A : List Addr) (Q : L2.St → Hp → Prop) : En → Prop := fun r' => ∀ s' G P, EnvS K G ms r' s' P Og → Trn ms s s' H G A P.flatten → Q s' G
abbrev Rtt (K : Fg) (ms : List Md) (rk : Bool) (Og : Addr → Prop) (s : L2.St) (H : Hp) (A : List Addr) (Q : VK) : D → En → Prop := fun d r' => ∀ v s' G P F, EnvS K G ms r' s' P Og → Trn ms s s' H G A P.flatten → Rep K G v d F → (∀ a ∈ F, Og a) → RtOk rk H A (ioN ms P) F → Q v G
abbrev Exx (K : Fg) (cl : Nat → Addr) (W : WX) (ms : List Md) (Og : Addr → Prop) (s : L2.St) (H : Hp) (A : List Addr) : Nat → En → Prop := fun c r' => ∀ s' G P, EnvS K G ms r' s' P Og → Trn ms s s' H G A P.flatten → W (.ref (cl c)) none s' G
theorem sr_move {K : Fg} {Og : Addr → Prop} {s u : L2.St} {H G : Hp} {A B : List Addr} {Q : L2.St → Hp → Prop} {R : VK} {a : SR} (tr : Trn ms s u H G A B) (h : a.ok (Nxt K ms Og s H A Q) (Rtt K ms rk Og s H A R) (Exx K cl W ms Og s H A)) :
    a.ok (Nxt K ms Og u G B Q) (Rtt K ms rk Og u G B R) (Exx K cl W ms Og u G B) :=
  SR.ok_mono h (fun r2 _ q s' J R e2 t2 => q s' J R e2 (tr.trans t2)) (fun d r2 q v s' J R F e2 t2 rv og rt => q v s' J R F e2 (tr.trans t2) rv og (tr.rt rt)) fun c r2 q s' J R e2 t2 => q s' J R e2 (tr.trans t2)
theorem s_for (hp : PassesOwn (model X.prog X.w) X.A X.env X.xe) (hc : X.calm = true) (hi : II X cl W ms tg iter f k) (hk : k ≠ .bo) (hm : ms[x]? = some .sh) (hg : PG X tg (gName x)) (hb : ISs X cl W ms rk body b) (hs : ∀ x, foldedSetIterable iter X.env x = pure x := by intro _; rfl) : IS X cl W ms rk (.For tg iter body [] pos) (forS x f b) :=
  ps_imp (ps_for hp hc hi hg hb hs) fun D s H ⟨r, O, Og, en, w⟩ => by
    refine ⟨r, O, Og, en.env, ?_⟩
    unfold forS at w
    cases hf : f r with
    | stuck => rw [hf] at w; exact w
    | exn c => rw [hf] at w; exact fun G p => w s G O (en.same p) (Trn.same p)
    | val ds =>
      rw [hf] at w
      intro J vs fp S F G p wk hS rv og nb
      have nb := nb hk
      have w1 : (forL x b ds r).ok (Nxt X.K ms Og s G O.flatten D.nx) (Rtt X.K ms rk Og s G O.flatten D.rt) (Exx X.K cl W ms Og s G O.flatten) := sr_move (Trn.same p) w
      have en1 := en.same p
      have tracked : ∀ a ∈ fp ++ F, ∃ m : {o : HO // MO o}, G a = some m.1 := fun a ha => (List.mem_append.mp ha).elim (fun h => wk.node _ hS a h) fun h => RepL.nodes _ _ _ rv a h
      refine ⟨fun i m s' G1 => m = vs.length - i ∧ i ≤ vs.length ∧ ∃ r' P, EnvS X.K G1 ms r' s' P Og ∧ Trn ms s s' G G1 O.flatten P.flatten ∧ S G1 ∧ RepL X.K G1 vs ds F ∧
          (forL x b (ds.drop i) r').ok (Nxt X.K ms Og s G O.flatten D.nx) (Rtt X.K ms rk Og s G O.flatten D.rt) (Exx X.K cl W ms Og s G O.flatten),
        ⟨vs.length, by simp, Nat.zero_le _, r, O, en1, Trn.refl, hS, rv, w1⟩, ?_⟩
      rintro i m s' G1 ⟨rfl, hi', r', P, e1, t1, h1, h2, h3⟩
      have offP : ∀ a ∈ fp ++ F, a ∉ P.flatten := fun a ha hm => by
        rcases t1.new a hm with q | q
        · exact nb a ha q
        · obtain ⟨xs, z⟩ := tracked a ha
          rw [q] at z
          cases z
      by_cases hlt : i < vs.length
      · refine .inr ⟨wk.go _ _ h1 hlt, fun s2 G2 => ∃ r' P, EnvS X.K G2 ms r' s2 P Og ∧ Trn ms s s2 G G2 O.flatten P.flatten ∧ S G2 ∧ RepL X.K G2 vs ds F ∧
          (forL x b (ds.drop (i + 1)) r').ok (Nxt X.K ms Og s G O.flatten D.nx) (Rtt X.K ms rk Og s G O.flatten D.rt) (Exx X.K cl W ms Og s G O.flatten), fun s2 G2 h => ⟨vs.length - (i + 1), by omega, rfl, hlt, h⟩, fun v G2 hy => ?_⟩
        obtain ⟨rfl, hv⟩ := wk.yld _ _ _ _ h1 hlt hy
        have hd : i < ds.length := by rw [← rv.len]; exact hlt
        obtain ⟨v', Fi, q1, q2, q3⟩ := h2.get (i := i) (d := ds[i]) (List.getElem?_eq_getElem hd)
        rw [hv] at q1
        cases q1
        show canS X.K cl W ms rk b _ (s'.set x (some v)) G2
        have inF : ∀ a ∈ Fi, a ∈ fp ++ F := fun a ha => List.mem_append_right _ (q3.subset ha)
        have e2 : EnvS X.K G2 ms (r'.set x (some ds[i])) (s'.set x (some v)) P Og := ⟨e1.env.put (.inr ⟨hm, fun a ha => offP a (inF a ha)⟩) q2 fun a ha => og a (inF a ha), e1.nb.set (by rw [hm]; decide)⟩
        have t2 : Trn ms s (s'.set x (some v)) G G2 O.flatten P.flatten := t1.trans (Trn.put (Same.refl _) (by rw [hm]; decide))
        refine ⟨r'.set x (some ds[i]), P, Og, e2, ?_⟩
        rw [List.drop_eq_getElem_cons hd] at h3
        unfold forL at h3
        cases hbr : b (r'.set x (some ds[i])) with
        | stuck => rw [hbr] at h3; exact h3
        | ret d r2 => rw [hbr] at h3; exact sr_move (a := .ret d r2) t2 h3
        | exn c r2 => rw [hbr] at h3; exact sr_move (a := .exn c r2) t2 h3
        | nx r2 =>
          rw [hbr] at h3
          intro s3 G3 P3 e3 t3
          have al := e2.env.own
          exact ⟨r2, P3, e3, t2.trans t3, wk.keep _ _ P.flatten h1 t3.fr al fun a ha => offP a (List.mem_append_left _ ha), RepL.stp t3.fr al _ _ _ h2 fun a ha => offP a (List.mem_append_right _ ha), h3⟩
      · have e0 : i = vs.length := by omega
        subst e0
        rw [rv.len, List.drop_length] at h3
        exact .inl ⟨wk.stop _ _ h1 (Nat.le_refl _), h3 s' G1 P e1 t1⟩
theorem s_while (hp : PassesOwn (model X.prog X.w) X.A X.env X.xe) (hc : IT X cl W ms c t) (hb : ISs X cl W ms rk body b) : IS X cl W ms rk (.While c body [] pos) (whileS t b) :=
  ps_imp (ps_while hp hc hb) fun D s H ⟨r, O, Og, en, w⟩ => by
    refine ⟨fun m s' G => ∃ r' P, EnvS X.K G ms r' s' P Og ∧ Trn ms s s' H G O.flatten P.flatten ∧ (whileL t b m r').ok (Nxt X.K ms Og s H O.flatten D.nx) (Rtt X.K ms rk Og s H O.flatten D.rt) (Exx X.K cl W ms Og s H O.flatten), ⟨FUEL, r, O, en, Trn.refl, w⟩, ?_⟩
    rintro m s' G ⟨r', P, e1, t1, h⟩
    cases m with
    | zero => exact h.elim
    | succ m =>
      refine ⟨r', P, Og, e1.env, ER.ok_mono (ER.ok_toS h) (fun d _ q => ?_) fun c q G2 p2 => q s' G2 P (e1.same p2) (t1.trans (Trn.same p2))⟩
      cases d with
      | bool y =>
        refine ⟨y, rfl, fun G2 p2 => ?_⟩
        have t2 := t1.trans (Trn.same (ms := ms) (s := s') (O := P.flatten) p2)
        cases y with
        | false => exact iteF (q s' G2 P (e1.same p2) t2)
        | true =>
          refine iteT ⟨fun s2 G3 => ∃ r' P, EnvS X.K G3 ms r' s2 P Og ∧ Trn ms s s2 H G3 O.flatten P.flatten ∧ (whileL t b m r').ok (Nxt X.K ms Og s H O.flatten D.nx) (Rtt X.K ms rk Og s H O.flatten D.rt) (Exx X.K cl W ms Og s H O.flatten), fun s2 G3 h => ⟨m, Nat.lt_succ_self _, h⟩, r', P, Og, e1.same p2, ?_⟩
          dsimp only at q
          cases hbr : b r' with
          | stuck => rw [hbr] at q; exact q
          | ret d r2 => rw [hbr] at q; exact sr_move (a := .ret d r2) t2 q
          | exn c r2 => rw [hbr] at q; exact sr_move (a := .exn c r2) t2 q
          | nx r2 =>
            rw [hbr] at q
            exact fun s3 G3 P3 e3 t3 => ⟨r2, P3, e3, t2.trans t3, q⟩
      | _ => exact q.elim
end

/-! ### defs that change nothing that is handed in -/
/-- the run of a body over n slots -/
def runF (n : Nat) (b : En → SR) (ds : List D) : FR := match b (ds.map some ++ List.replicate (n - ds.length) none) with
  | .stuck => .stuck
  | .nx _ => .ret .none []
  | .ret d _ => .ret d []
  | .exn c _ => .exn c
theorem envS_start {K : Fg} {H : Hp} {ds : List D} {vs : List V} {A : List Addr} {N : List Str} {ms : List Md} (rv : RepL K H vs ds A) (hN : ms.length = N.length) (hl : ds.length ≤ N.length) (hsh : ∀ i, i < ds.length → ms[i]? = some .sh) :
    EnvS K H ms (ds.map some ++ List.replicate (N.length - ds.length) none) (L2.start N vs) (List.replicate N.length []) (fun a => a ∈ A ∨ H a = none) := by
  have hfl : (List.replicate N.length ([] : List Addr)).flatten = [] := by simp
  have hlen : (ds.map some ++ List.replicate (N.length - ds.length) (none : Option D)).length = N.length := by simp; omega
  refine ⟨⟨?_, by rw [hlen, List.length_replicate], by rw [hlen]; exact hN, fun i d h => ?_, fun i h => ?_, by rw [hfl]; exact List.nodup_nil, fun a h => .inr h⟩, fun i hi d h => ?_⟩
  · rw [hlen]
    unfold L2.start
    rw [List.length_append, List.length_map, List.length_replicate, rv.len]
    omega
  · have hi : i < ds.length := by
      by_cases hi : i < ds.length
      · exact hi
      · rw [List.getElem?_append_right (by simpa using hi), List.getElem?_replicate] at h
        split at h <;> cases h
    have hd : ds[i]? = some d := by
      rw [List.getElem?_append_left (by simpa using hi), List.getElem?_map] at h
      cases e : ds[i]? with
      | none => rw [e] at h; cases h
      | some x => rw [e] at h; cases h; rfl
    obtain ⟨v, F, h1, h2, h3⟩ := rv.get hd
    refine ⟨v, F, .sh, [], ?_, h2, fun a ha => .inl (h3.subset ha), hsh i hi, ?_, rfl, fun b _ => by rw [hfl]; exact fun z => (nomatch z)⟩
    · unfold L2.start
      rw [List.getElem?_append_left (by rw [List.length_map, rv.len]; exact hi), List.getElem?_map, h1]
      rfl
    · rw [List.getElem?_replicate, if_pos (by omega)]
  · rw [List.getElem?_replicate, if_pos]
    have := (List.getElem?_eq_some_iff.mp h).1
    rw [hlen] at this
    exact this
  · have hi2 : i < ds.length := by
      by_cases hi2 : i < ds.length
      · exact hi2
      · rw [List.getElem?_append_right (by simpa using hi2), List.getElem?_replicate] at h
        split at h <;> cases h
    rw [hsh i hi2] at hi
    cases hi
section
variable {P : Program} {w : World} {K : Fg} {mg : Str → Option Value} {base : Heap} {cl : Nat → Addr}
/-- THE RULE: a def whose body has the reading b -/
theorem fn_N {x qual : Str} {st : Stmt} {f : Addr} {fd : FuncData} {N ps : List Str} {k : Nat} {ms : List Md} {rk : Bool} {b : En → SR} (F : Fun K x qual st f fd) (S : FnScope N ps (defScope st)) (hN : ms.length = N.length) (hp : ps.length ≤ N.length) (hsh : ∀ i, i < ps.length → ms[i]? = some .sh) (hio : ms.all (· ≠ .io) = true)
    (hbody : ∀ (cdv : Value) (A : Around) (outer : List Env) (s : Shared) (H : Hp) (E : XK), Room k (A.deeper (PyProof.Rows.envOfC qual (defScope st) s.heap.objs.size f cdv)) →
      ISs (cxOf (L2.CX P w) P w K mg base N qual (defScope st) f cdv A outer s H E) cl (fun c d _ H => E c d H) ms rk (defBody st) b) : FnOk P w K mg base (L2.CX P w) (k + 1) f fd ps (spN K cl ps.length (runF N.length b) rk) := by
  refine F.okX S (fun vs H Q E h => ?_) (fun cdv A outer s H vs Q E hr h => ⟨_, hbody cdv A outer s H E hr, ?_⟩)
  · obtain ⟨ds, A, h1, h2, _⟩ := h
    rw [h2.len, h1]
  · obtain ⟨ds, A, h1, h2, h3⟩ := h
    have en := envS_start (N := N) (ms := ms) h2 hN (by rw [h1]; exact hp) (fun i hi => hsh i (by rw [← h1]; exact hi))
    have hfl : (List.replicate N.length ([] : List Addr)).flatten = [] := by simp
    refine ⟨_, _, _, en, ?_⟩
    rw [hfl]
    unfold runF at h3
    cases hb : b (ds.map some ++ List.replicate (N.length - ds.length) none) with
    | stuck => rw [hb] at h3; exact h3
    | nx r =>
      rw [hb] at h3
      intro s' G P' e2 t2
      refine h3 .non G [] (fun a o h => t2.fr a o h (fun z => nomatch z)) .non ?_
      unfold ResOk
      split
      · exact ⟨List.nodup_nil, fun _ z => nomatch z⟩
      · exact fun _ z => nomatch z
    | ret d r =>
      rw [hb] at h3
      intro v s' G P' B e2 t2 rv og rt
      refine h3 v G B (fun a o h => t2.fr a o h (fun z => nomatch z)) rv ?_
      unfold ResOk
      split
      · rename_i hrk
        exact ⟨(rt.2 hrk).1, fun a ha => by
          rcases (rt.2 hrk).2 a ha with q | q
          · exact q
          · cases q⟩
      · exact fun a ha => (og a ha).symm
    | exn c r =>
      rw [hb] at h3
      intro s' G P' e2 t2
      exact h3 G fun a o h => t2.fr a o h (fun z => nomatch z)
end
end Mi

namespace Mi
open PySem PySem.Spec PyProof.Rows L2

/-! ### built-ins of one argument -/
section
variable {X : Cx} {cl : Nat → Addr} {W : WX} {ms : List Md} {a b : Expr} {f g : En → ER D} {ka kb : Kd} {x : Str} {p pos : Pos} {id T : String} {rr : List V → Hp → VK → Prop}
theorem i_b1 {h : D → Option D} (hc : CallR X (.builtin id) rr) (hd : Sc1 X.K (fun v H Q => rr [v] H Q) h) (hv : bootBuiltins x = some (.builtin id)) (hm : X.mg x = none) (ha : IE X cl W ms a f ka) (hg : Gl X x := by rfl) (hn : x ≠ "__name__" := by decide) (hdb : (x == ("__debug__" : Str)) = false := by decide)
    (he : starEach [a] X.env = (false, eval a X.env) :: starEach [] X.env := by rfl) (hpl : (backTo pos (starEach [] X.env)).any (·.1) = false := by rfl) : IE X cl W ms (.Call (.Name x p) [a] [] pos) (un h f) .fr :=
  pe_imp (pe_callB hc hg hm hv (pa_cons ha pa_nil he) hn hdb he hpl) fun s H Q ⟨r, O, Og, e, w⟩ => by
    show canE _ _ _ _ _ _ s H _
    refine one_ e w fun d v G F o p rv _ _ => ?_
    obtain ⟨y, hh, o⟩ := ER.ok_of o
    exact hd G v d F y Q hh rv fun u ru => o u G [] p ru (fun _ z => (nomatch z)) (KOk.nil (by decide))
theorem i_t1 {h : D → Option D} (hc : CallR X (.type T) rr) (hd : Sc1 X.K (fun v H Q => rr [v] H Q) h) (hv : bootBuiltins x = some (.type T)) (hm : X.mg x = none) (ha : IE X cl W ms a f ka) (hg : Gl X x := by rfl) (hn : x ≠ "__name__" := by decide) (hdb : (x == ("__debug__" : Str)) = false := by decide)
    (he : starEach [a] X.env = (false, eval a X.env) :: starEach [] X.env := by rfl) (hpl : (backTo pos (starEach [] X.env)).any (·.1) = false := by rfl) : IE X cl W ms (.Call (.Name x p) [a] [] pos) (un h f) .fr :=
  pe_imp (pe_callTy hc hg hm hv (pa_cons ha pa_nil he) hn hdb he hpl) fun s H Q ⟨r, O, Og, e, w⟩ => by
    show canE _ _ _ _ _ _ s H _
    refine one_ e w fun d v G F o p rv _ _ => ?_
    obtain ⟨y, hh, o⟩ := ER.ok_of o
    exact hd G v d F y Q hh rv fun u ru => o u G [] p ru (fun _ z => (nomatch z)) (KOk.nil (by decide))
theorem i_b2 {h : D → D → Option D} (hc : CallR X (.builtin id) rr) (hd : Sc2 X.K (fun v u H Q => rr [v, u] H Q) h) (hv : bootBuiltins x = some (.builtin id)) (hm : X.mg x = none) (ha : IE X cl W ms a f ka) (hb : IE X cl W ms b g kb) (hg : Gl X x := by rfl) (hn : x ≠ "__name__" := by decide) (hdb : (x == ("__debug__" : Str)) = false := by decide)
    (he2 : starEach [b] X.env = (false, eval b X.env) :: starEach [] X.env := by rfl) (he : starEach [a, b] X.env = (false, eval a X.env) :: starEach [b] X.env := by rfl) (hpl : (backTo pos (starEach [b] X.env)).any (·.1) = false := by rfl) : IE X cl W ms (.Call (.Name x p) [a, b] [] pos) (bi h f g) .fr :=
  pe_imp (pe_callB hc hg hm hv (pa_cons ha (pa_cons hb pa_nil he2) he) hn hdb he hpl) fun s H Q ⟨r, O, Og, e, w⟩ => by
    show canE _ _ _ _ _ _ s H _
    refine two_ e w fun d1 d2 v1 v2 G J F1 F2 o a1 a2 r1 r2 _ _ _ _ => ?_
    obtain ⟨d, hh, o⟩ := ER.ok_of o
    exact hd J v1 v2 d1 d2 F1 F2 d Q hh (r1.same a2) r2 fun v rv => o v J [] (a1.trans a2) rv (fun _ z => (nomatch z)) (KOk.nil (by decide))
end

/-! ### len, isinstance, sum, min, max, int, str -/
def dLen : D → Option D
  | .list l => some (.int l.length)
  | .tuple l => some (.int l.length)
  | .dict l => if isDc (.dict l) = true then none else some (.int l.length)
  | .str x => if x.length ≤ LIM then some (.int x.length) else none
  | _ => none
inductive Ty where | int | bool | str | list | tuple
def Ty.nm : Ty → String
  | .int => "int" | .bool => "bool" | .str => "str" | .list => "list" | .tuple => "tuple"
def tyN : D → String
  | .none => "NoneType" | .bool _ => "bool" | .int _ => "int" | .str _ => "str" | .list _ => "list" | .tuple _ => "tuple" | .dict l => if isDc (.dict l) = true then "dict" else "list"
def isT : Ty → D → Bool
  | .int, .int _ => true
  | .int, .bool _ => true
  | .bool, .bool _ => true
  | .str, .str _ => true
  | .list, .list _ => true
  | .list, .dict l => !isDc (.dict l)
  | .tuple, .tuple _ => true
  | _, _ => false
def dIsi (T : Ty) (d : D) : Option D := some (.bool (isT T d))
theorem kitB_isT : ∀ (T : Ty) (d : D), kitB (tyN d) T.nm = some (isT T d) := by
  intro T d
  cases d with
  | dict l =>
    rw [tyN]
    cases hd : isDc (.dict l) <;> cases T <;> simp only [isT, hd, Ty.nm] <;> decide +kernel
  | _ => cases T <;> (show kitB _ _ = some _) <;> (simp only [tyN, Ty.nm, isT]; decide +kernel)
/-- isinstance, of our dicts too -/
def rIsiD (K : Fg) : List V → Hp → VK → Prop := fun xs H Q => rIsi K xs H Q ∨ ∃ (a : Addr) (L : List (List Int × Addr × Sc)) (c : V) (u : Value) (b : Bool), xs = [.ref a, c] ∧ ClsV c u ∧ H a = some (DctO a L) ∧ PySem.W.kitOne K (.type "dict") u = some b ∧ Q (.bl b) H
theorem call_isiD {X : Cx} : CallR X (.builtin "isinstance") (rIsiD X.K) := by
  intro pins s σ H xs us Q I r h
  rcases h with h | ⟨a, L, c, u, b, rfl, k, ha, e, q⟩
  · exact call_isi pins s σ H xs us Q I r h
  · obtain ⟨u1, u2, rfl, r1, r2⟩ := vals2 r
    have e2 := k.eq r2
    subst e2
    cases (show u1 = Value.ref a from r1)
    obtain ⟨⟨_, _, _, _, o, es, ep, h1, h2, _⟩, _⟩ := (show ObjOk X.prog X.w H s.heap a (DctO a L) from I.hok a _ ha)
    exact PySem.W.kia_one PySem.W.kitx_dict I.kIn ⟨o, h1, h2.1⟩ e (fun z => nomatch z) fun tk => ⟨.bl b, H, I.tok tk, rfl, q⟩
theorem tyx_of {K : Fg} {G : Hp} {v : V} {d : D} {F : List Addr} (r : Rep K G v d F) : TyX K G v (.type (tyN d)) ∨ ∃ a L, v = .ref a ∧ G a = some (DctO a L) ∧ tyN d = "dict" := by
  cases r with
  | dct hs hk => exact .inr ⟨_, _, rfl, hs, rfl⟩
  | ext hs =>
    left
    rw [show tyN (lck _) = "list" from if_neg (by rw [show isDc (.dict _) = false from isDc_lck _]; decide)]
    rcases hs.1 with (h | ⟨o, h⟩) | ⟨o, its, n, hk, hc, _⟩
    · exact .base (.lst h)
    · exact .base (.frz h)
    · exact .kList hk hc
  | non => exact .inl (.base .non)
  | bl b => exact .inl (.base (.bl b))
  | int i => exact .inl (.base (.int i))
  | str x => exact .inl (.base (.str x))
  | lst h _ => exact .inl (.base (.lst h))
  | tup hs _ =>
    left
    rcases hs with (h | ⟨o, h⟩) | ⟨o, its, n, hk, hc, _⟩
    · exact .base (.tup h)
    · exact .fTuple h
    · exact .kTuple hk hc
def dInts : List D → Option (List Int)
  | [] => some []
  | .int i :: l => (dInts l).map (i :: ·)
  | _ => none
theorem dInts_map : ∀ l : List Int, dInts (l.map .int) = some l
  | [] => rfl
  | i :: l => by simp [dInts, dInts_map l]
theorem dInts_of : ∀ {l : List D} {ns : List Int}, dInts l = some ns → l = ns.map .int
  | [], ns, h => by cases h; rfl
  | d :: l, ns, h => by
    cases d with
    | int i =>
      obtain ⟨m, h1, rfl⟩ := Option.map_eq_some_iff.mp (show (dInts l).map (i :: ·) = some ns from h)
      rw [dInts_of h1]
      rfl
    | _ => cases h
theorem rep_ints {K : Fg} {H : Hp} : ∀ {ns : List Int} {vs : List V} {F : List Addr}, RepL K H vs (ns.map .int) F → vs = ns.map V.int
  | [], vs, F, h => by cases h; rfl
  | i :: ns, vs, F, h => by
    cases h with
    | cons r1 r2 =>
      cases r1
      rw [rep_ints r2]
      rfl
def dSum (d : D) : Option D := match itemsOf d with
  | some l => (dInts l).map fun ns => .int ns.sum
  | none => none
def dMin2 := nn fun i j => some (.int (if j < i then j else i))
def dMax2 := nn fun i j => some (.int (if j > i then j else i))
def dInt : D → Option D
  | .int i => some (.int i)
  | .bool k => some (.int (if k then 1 else 0))
  | _ => none
def rSumT (K : Fg) : List V → Hp → VK → Prop := fun vs H Q => ∃ (a : Addr) (ns : List Int), vs = [V.ref a] ∧ (SqL K H a (ns.map V.int) ∨ SqT K H a (ns.map V.int)) ∧ Q (.int ns.sum) H
section
variable {X : Cx} {cl : Nat → Addr} {W : WX} {ms : List Md} {a b : Expr} {f g : En → ER D} {ka kb : Kd} {x : Str} {p pos p2 : Pos}
theorem i_len (hm : X.mg "len" = none) (ha : IE X cl W ms a f ka) (hg : Gl X "len" := by rfl) (he : starEach [a] X.env = (false, eval a X.env) :: starEach [] X.env := by rfl) (hpl : (backTo pos (starEach [] X.env)).any (·.1) = false := by rfl) : IE X cl W ms (.Call (.Name "len" p) [a] [] pos) (un dLen f) .fr :=
  i_b1 (CallR.or call_len_seq call_len_str) (fun G v d F y Q h rv q => by
    cases d with
    | list l =>
      cases h
      obtain ⟨a, vs, E, rfl, h1, h2, rfl⟩ := rv.lstE
      exact .inl ⟨a, vs, rfl, .inl (SqL.of h1), by rw [h2.len]; exact q _ (.int _)⟩
    | tuple l =>
      cases h
      obtain ⟨a, vs, rfl, h1, h2⟩ := rv.tupE
      exact .inl ⟨a, vs, rfl, .inr h1, by rw [h2.len]; exact q _ (.int _)⟩
    | dict l =>
      cases rv with
      | dct hs hk => cases h
      | @ext a ns hs =>
        have h : (if isDc (lck ns) = true then none else some (PyData.int (ns.map fun i => ((.none : D), (.int i : D))).length)) = some y := h
        rw [isDc_lck, if_neg (by decide)] at h
        cases h
        refine .inl ⟨a, ns.map V.int, rfl, .inl hs.1, ?_⟩
        have := q (.int ((ns.map V.int).length : Nat)) (by rw [List.length_map, List.length_map]; exact .int _)
        exact this
    | str x =>
      have h' : (if x.length ≤ LIM then some (PyData.int x.length) else none) = some y := h
      split at h'
      · rename_i hl
        cases h'
        cases rv
        exact .inr ⟨x, rfl, lim_line hl, q _ (.int _)⟩
      · cases h'
    | _ => cases h) PySem.boot_len hm ha hg (by decide) (by decide) he hpl
theorem i_isi (T : Ty) {y : Str} (hy : bootBuiltins y = some (.type T.nm)) (hmy : X.mg y = none) (hm : X.mg "isinstance" = none) (ha : IE X cl W ms a f ka) (hg : Gl X "isinstance" := by rfl) (hgy : Gl X y := by rfl) (hn : y ≠ "__name__" := by decide) (hdb : (y == ("__debug__" : Str)) = false := by decide)
    (he2 : starEach [.Name y p2] X.env = (false, eval (.Name y p2) X.env) :: starEach [] X.env := by rfl) (he : starEach [a, .Name y p2] X.env = (false, eval a X.env) :: starEach [.Name y p2] X.env := by rfl) (hpl : (backTo pos (starEach [.Name y p2] X.env)).any (·.1) = false := by rfl) :
    IE X cl W ms (.Call (.Name "isinstance" p) [a, .Name y p2] [] pos) (un (dIsi T) f) .fr :=
  pe_imp (pe_callB call_isiD hg hm (by decide +kernel) (pa_cons ha (pa_cons (pe_bltn (v := .ty T.nm) hgy hmy hy rfl hn hdb) pa_nil he2) he) (by decide) (by decide) he hpl) fun s H Q ⟨r, O, Og, e, w⟩ => by
    show canE _ _ _ _ _ _ s H _
    refine one_ e w fun d v G F o p rv _ _ => ?_
    rcases tyx_of rv with ty | ⟨a, L, rfl, ha, ty⟩
    · exact .inl ⟨v, .ty T.nm, .type (tyN d), .type T.nm, isT T d, rfl, .ty _, ty, kit_ty (kitB_isT T d), o (.bl _) G [] p (.bl _) (fun _ z => (nomatch z)) (KOk.nil (by decide))⟩
    exact .inr ⟨a, L, .ty T.nm, .type T.nm, isT T d, rfl, .ty _, ha, kit_ty (by rw [← ty]; exact kitB_isT T d), o (.bl _) G [] p (.bl _) (fun _ z => (nomatch z)) (KOk.nil (by decide))⟩
theorem sum_tup {prog : Program} {w : World} {A : Around} {E : Value → Shared → Prop} {s : Shared} {l : Addr} {its : List Value} {ns : List Int} {Q : Value → Shared → Prop} (hh : A.handled = none) (hl : s.heap.IsTuple l its.toArray) (hi : IntsAre its ns)
    (h : ∀ h' tk t', (∀ b o, s.heap.get? b = some o → h'.get? b = some o) → Q (.int ns.sum t') { s with heap := h', toks := tk }) : wpAny (model prog w) A (call (.builtin "sum") [.ref l]) Q E s := by
  obtain ⟨xs, e⟩ := hi.allInts.items
  have hn : numsOf (intItems xs).toList = ns := by rw [← e]; exact hi.numsOf
  rw [nums_intItems] at hn
  rw [e] at hl
  have hlt : l < s.heap.objs.size := by obtain ⟨_, e, _⟩ := hl; exact Heap.lt_size e
  refine call_sum_walkG (wpAny_pyIter_tuple hl ?_)
  refine ⟨s.heap.objs.size, _, _, _, _, _, numAt xs, rfl, Walks.tuple (A := A.in1) hh s.heap.objs.size l (Nat.ne_of_lt hlt) (intItems xs), ⟨⟨_, Heap.get?_push_size _ rfl, rfl, rfl⟩, hl.at fun o e => Heap.get?_push_of_some _ e⟩, fun b hb => ?_, (fun _ _ => intItems_at), fun h' tk t' hk => ?_⟩
  · show b < (s.heap.push _).objs.size
    rw [Heap.size_push]
    simp only [List.mem_cons, List.not_mem_nil, or_false] at hb
    rcases hb with rfl | rfl
    · exact Nat.lt_succ_self _
    · exact Nat.lt_succ_of_lt hlt
  · have q := h h' tk t' fun b o e => hk b o (fun hm => Nat.ne_of_lt (Heap.lt_size e) (List.mem_singleton.mp hm)) (Heap.get?_push_of_some _ e)
    have e1 : preSum (numAt xs) (intItems xs).size = ns.sum := by
      rw [preSum_eq, List.take_of_length_le (by simp [intItems]), hn]
    rw [e1]
    exact q
theorem cr_sumT (hc : X.calm = true) : CallR X (.builtin "sum") (rSumT X.K) := by
  intro pins s z H vs us Q I r h
  obtain ⟨a, ns, rfl, hs | hs, q⟩ := h
  · exact cr_sum hc pins s z H _ us Q I r ⟨a, ns, rfl, hs, q⟩
  · obtain ⟨its, rv, hl, _⟩ := I.tuple hs
    rw [Vals.ref1 r]
    exact sum_tup (I.ok.hd hc) hl (intsAre_of rv) fun h' tk t' hk => ⟨.int _, H, I.kept hk, ⟨_, rfl⟩, q⟩
theorem i_sum (hm : X.mg "sum" = none) (hc : X.calm = true) (ha : IE X cl W ms a f ka) (hg : Gl X "sum" := by rfl) (he : starEach [a] X.env = (false, eval a X.env) :: starEach [] X.env := by rfl) (hpl : (backTo pos (starEach [] X.env)).any (·.1) = false := by rfl) : IE X cl W ms (.Call (.Name "sum" p) [a] [] pos) (un dSum f) .fr :=
  i_b1 (cr_sumT hc) (fun G v d F y Q h rv q => by
    unfold dSum at h
    split at h
    · rename_i l hl
      obtain ⟨ns, h1, rfl⟩ := Option.map_eq_some_iff.mp h
      obtain ⟨b, ws, M, rfl, g1, g2, _⟩ := itemsOf_rep hl rv
      rw [dInts_of h1] at g2
      rw [rep_ints g2] at g1
      exact ⟨b, ns, rfl, g1.imp SqL.of id, q _ (.int _)⟩
    · cases h) (by decide +kernel) hm ha hg (by decide) (by decide) he hpl
theorem sc_min2 {K : Fg} : Sc2 K (fun v u H Q => ∃ i j, [v, u] = [V.int i, V.int j] ∧ Q (.int (if j < i then j else i)) H) dMin2 := fun G v u a b F E d Q e ra rb q => by
  cases a with
  | int i =>
    cases b with
    | int j => cases ra; cases rb; cases e; exact ⟨i, j, rfl, q _ (.int _)⟩
    | _ => cases e
  | _ => cases e
theorem sc_max2 {K : Fg} : Sc2 K (fun v u H Q => ∃ i j, [v, u] = [V.int i, V.int j] ∧ Q (.int (if j > i then j else i)) H) dMax2 := fun G v u a b F E d Q e ra rb q => by
  cases a with
  | int i =>
    cases b with
    | int j => cases ra; cases rb; cases e; exact ⟨i, j, rfl, q _ (.int _)⟩
    | _ => cases e
  | _ => cases e
theorem i_min2 (hm : X.mg "min" = none) (hc : X.calm = true) (ha : IE X cl W ms a f ka) (hb : IE X cl W ms b g kb) (hg : Gl X "min" := by rfl)
    (he2 : starEach [b] X.env = (false, eval b X.env) :: starEach [] X.env := by rfl) (he : starEach [a, b] X.env = (false, eval a X.env) :: starEach [b] X.env := by rfl) (hpl : (backTo pos (starEach [b] X.env)).any (·.1) = false := by rfl) : IE X cl W ms (.Call (.Name "min" p) [a, b] [] pos) (bi dMin2 f g) .fr :=
  i_b2 (call_min2 hc) sc_min2 (by decide +kernel) hm ha hb hg (by decide) (by decide) he2 he hpl
theorem i_max2 (hm : X.mg "max" = none) (hc : X.calm = true) (ha : IE X cl W ms a f ka) (hb : IE X cl W ms b g kb) (hg : Gl X "max" := by rfl)
    (he2 : starEach [b] X.env = (false, eval b X.env) :: starEach [] X.env := by rfl) (he : starEach [a, b] X.env = (false, eval a X.env) :: starEach [b] X.env := by rfl) (hpl : (backTo pos (starEach [b] X.env)).any (·.1) = false := by rfl) : IE X cl W ms (.Call (.Name "max" p) [a, b] [] pos) (bi dMax2 f g) .fr :=
  i_b2 (call_max2 hc) sc_max2 (by decide +kernel) hm ha hb hg (by decide) (by decide) he2 he hpl
theorem i_intOf (hm : X.mg "int" = none) (ha : IE X cl W ms a f ka) (hg : Gl X "int" := by rfl) (he : starEach [a] X.env = (false, eval a X.env) :: starEach [] X.env := by rfl) (hpl : (backTo pos (starEach [] X.env)).any (·.1) = false := by rfl) : IE X cl W ms (.Call (.Name "int" p) [a] [] pos) (un dInt f) .fr :=
  i_t1 call_int1 (fun G v d F y Q h rv q => by
    cases d with
    | int i => cases rv; cases h; exact .inl ⟨i, rfl, q _ (.int _)⟩
    | bool k => cases rv; cases h; exact .inr ⟨k, rfl, q _ (.int _)⟩
    | _ => cases h) (by decide +kernel) hm ha hg (by decide) (by decide) he hpl

/-! ### tuple(..), list(..) -/
def dTup : D → Option D
  | .list l => some (.tuple l)
  | .tuple l => some (.tuple l)
  | _ => none
def dLst : D → Option D
  | .list l => some (.list l)
  | .tuple l => some (.list l)
  | _ => none
theorem i_tuple (hm : X.mg "tuple" = none) (ha : IE X cl W ms a f ka) (hg : Gl X "tuple" := by rfl) (he : starEach [a] X.env = (false, eval a X.env) :: starEach [] X.env := by rfl) (hpl : (backTo pos (starEach [] X.env)).any (·.1) = false := by rfl) : IE X cl W ms (.Call (.Name "tuple" p) [a] [] pos) (un dTup f) ka.el :=
  pe_imp (pe_callTy call_tuple_of hg hm (by decide +kernel) (pa_cons ha pa_nil he) (by decide) (by decide) he hpl) fun s H Q ⟨r, O, Og, e, w⟩ => by
    show canE _ _ _ _ _ _ s H _
    refine one_ e w fun d v G F o p rv og kv => ?_
    obtain ⟨y, hh, o⟩ := ER.ok_of o
    cases d with
    | list l =>
      cases hh
      obtain ⟨a, vs, E, rfl, h1, h2, rfl⟩ := rv.lstE
      refine ⟨a, vs, rfl, .inl ⟨SqL.of h1, fun b hb => ?_⟩⟩
      exact o _ _ E (p.trans (Same.new hb)) (.tup sqT_new (h2.same (Same.new hb))) (fun c hc => og c (List.mem_cons_of_mem _ hc)) (KOk.part e kv (Mi.Sub.of (List.sublist_cons_self _ _)))
    | tuple l =>
      cases hh
      obtain ⟨a, vs, rfl, h1, h2⟩ := rv.tupE
      exact ⟨a, vs, rfl, .inr ⟨h1, o _ G F p rv og (KOk.part e kv (Mi.Sub.refl _))⟩⟩
    | _ => cases hh
theorem i_list (hm : X.mg "list" = none) (ha : IE X cl W ms a f ka) (hg : Gl X "list" := by rfl) (he : starEach [a] X.env = (false, eval a X.env) :: starEach [] X.env := by rfl) (hpl : (backTo pos (starEach [] X.env)).any (·.1) = false := by rfl) : IE X cl W ms (.Call (.Name "list" p) [a] [] pos) (un dLst f) ka.top :=
  pe_imp (pe_callTy call_list_of hg hm (by decide +kernel) (pa_cons ha pa_nil he) (by decide) (by decide) he hpl) fun s H Q ⟨r, O, Og, e, w⟩ => by
    show canE _ _ _ _ _ _ s H _
    refine one_ e w fun d v G F o p rv og kv => ?_
    obtain ⟨y, hh, o⟩ := ER.ok_of o
    have main : ∀ l, itemsOf d = some l → y = .list l → ∃ p_1 ys, [v] = [V.ref p_1] ∧ (SqL X.K G p_1 ys ∨ SqT X.K G p_1 ys) ∧ ∀ l, G l = none → Q (.ref l) (upd G l (.lst ys)) := fun l hl hy => by
      subst hy
      obtain ⟨b, ws, M, rfl, g1, g2, g3⟩ := itemsOf_rep hl rv
      refine ⟨b, ws, rfl, g1.imp SqL.of (fun q => q), fun c hc => ?_⟩
      exact o _ _ (c :: M) (p.trans (Same.new hc)) (.lst upd_same (g2.same (Same.new hc))) (og_cons e (p.free hc) fun z hz => og z (g3.subset hz)) (KOk.newL e p hc (RepL.nodes _ _ _ g2) kv (Mi.Sub.of g3))
    cases d with
    | list l => cases hh; exact main l rfl rfl
    | tuple l => cases hh; exact main l rfl rfl
    | _ => cases hh
end
end Mi

namespace Mi
open PySem PySem.Spec L2

/-! ### defs that change lists that are handed in -/
/-- arguments place by place -/
inductive RepP (K : Fg) (H : Hp) : List V → List D → List (List Addr) → Prop
  | nil : RepP K H [] [] []
  | cons {v : V} {vs : List V} {d : D} {ds : List D} {F : List Addr} {Fs : List (List Addr)} : Rep K H v d F → RepP K H vs ds Fs → RepP K H (v :: vs) (d :: ds) (F :: Fs)
theorem RepP.len {K : Fg} {H : Hp} {vs : List V} {ds : List D} {Fs : List (List Addr)} (h : RepP K H vs ds Fs) : vs.length = ds.length ∧ Fs.length = ds.length := by
  induction h with
  | nil => exact ⟨rfl, rfl⟩
  | cons _ _ ih => exact ⟨by simp [ih.1], by simp [ih.2]⟩
theorem RepP.get {K : Fg} {H : Hp} {vs : List V} {ds : List D} {Fs : List (List Addr)} (h : RepP K H vs ds Fs) {i : Nat} {d : D} (e : ds[i]? = some d) : ∃ v F, vs[i]? = some v ∧ Fs[i]? = some F ∧ Rep K H v d F := by
  induction h generalizing i with
  | nil => simp at e
  | cons r _ ih =>
    cases i with
    | zero =>
      simp at e
      subst e
      exact ⟨_, _, rfl, rfl, r⟩
    | succ i =>
      obtain ⟨v, F, h1, h2, h3⟩ := ih (by simpa using e)
      exact ⟨v, F, by simpa using h1, by simpa using h2, h3⟩
theorem RepP.same {K : Fg} {H G : Hp} {vs : List V} {ds : List D} {Fs : List (List Addr)} (h : RepP K H vs ds Fs) (p : Same H G) : RepP K G vs ds Fs := by
  induction h with
  | nil => exact .nil
  | cons r _ ih => exact .cons (r.same p) ih
/-- the places that are handed back -/
def pick {A : Type} : List Bool → List A → List A
  | true :: b, x :: l => x :: pick b l
  | false :: b, _ :: l => pick b l
  | _, _ => []
/-- the promise of a def that changes the lists at the places io -/
def spI (K : Fg) (cl : Nat → Addr) (io : List Bool) (F : List D → FR) : Sp := fun vs H Q E => ∃ ds Fs, ds.length = io.length ∧ RepP K H vs ds Fs ∧ (pick io Fs).flatten.Nodup ∧ (∀ a ∈ (pick (io.map (!·)) Fs).flatten, a ∉ (pick io Fs).flatten) ∧
  match F ds with
  | .stuck => False
  | .ret d outs => ∀ v G B Gs, Stp (pick io Fs).flatten H G → (∀ b o, H b = some o → ∃ o', G b = some o') → Rep K G v d B → RepP K G (pick io vs) outs Gs → Gs.flatten.Nodup →
      (∀ a ∈ Gs.flatten, a ∈ (pick io Fs).flatten ∨ H a = none) → (∀ a ∈ B, (a ∈ Fs.flatten ∨ H a = none) ∧ a ∉ Gs.flatten) → Q v G
  | .exn c => ∀ G, Same H G → E (.ref (cl c)) none G
/-- the io slots' lists, when they come first to last among the slots -/
def outsOf : List Md → En → Option (List D)
  | .io :: m, some d :: r => (outsOf m r).map (d :: ·)
  | .io :: _, _ => none
  | _ :: m, _ :: r => outsOf m r
  | _, _ => some []
def runI (ms : List Md) (b : En → SR) (ds : List D) : FR := match b (ds.map some ++ List.replicate (ms.length - ds.length) none) with
  | .stuck => .stuck
  | .nx r => (match outsOf ms r with | some o => .ret .none o | none => .stuck)
  | .ret d r => (match outsOf ms r with | some o => .ret d o | none => .stuck)
  | .exn _ _ => .stuck
def mdOf : Bool → Md
  | true => .io
  | false => .sh
section
variable {K : Fg} {H : Hp} {N : List Str}
def O0 (io : List Bool) (Fs : List (List Addr)) (n : Nat) : List (List Addr) := (List.zipWith (fun b F => if b then F else []) io Fs) ++ List.replicate n []
theorem zip_fl : ∀ (io : List Bool) (Fs : List (List Addr)), (List.zipWith (fun b F => if b = true then F else []) io Fs).flatten = (pick io Fs).flatten
  | [], _ => by simp [pick]
  | true :: io, [] => by simp [pick]
  | false :: io, [] => by simp [pick]
  | true :: io, F :: Fs => by simp [pick, zip_fl io Fs]
  | false :: io, F :: Fs => by simp [pick, zip_fl io Fs]
theorem O0_fl (io : List Bool) (Fs : List (List Addr)) (n : Nat) : (O0 io Fs n).flatten = (pick io Fs).flatten := by
  unfold O0
  rw [List.flatten_append, zip_fl]
  simp
theorem envS_startI {vs : List V} {ds : List D} {Fs : List (List Addr)} {io : List Bool} {ms : List Md} (rv : RepP K H vs ds Fs) (hl : ds.length = io.length) (hms : ms = io.map mdOf ++ ms.drop io.length) (hN : ms.length = N.length) (hle : io.length ≤ N.length)
    (nd : (pick io Fs).flatten.Nodup) (dj : ∀ a ∈ (pick (io.map (!·)) Fs).flatten, a ∉ (pick io Fs).flatten) :
    EnvS K H ms (ds.map some ++ List.replicate (ms.length - ds.length) none) (L2.start N vs) (O0 io Fs (N.length - io.length)) (fun a => a ∈ Fs.flatten ∨ H a = none) := by
  obtain ⟨l1, l2⟩ := rv.len
  have hlen : (ds.map some ++ List.replicate (ms.length - ds.length) (none : Option D)).length = N.length := by simp; omega
  have hO : (O0 io Fs (N.length - io.length)).length = N.length := by
    unfold O0
    rw [List.length_append, List.length_zipWith, List.length_replicate, l2, hl]
    omega
  have inN : ∀ (i : Nat) (d : D), (ds.map some ++ List.replicate (ms.length - ds.length) (none : Option D))[i]? = some (some d) → i < ds.length ∧ ds[i]? = some d := fun i d h => by
    by_cases hi : i < ds.length
    · rw [List.getElem?_append_left (by simpa using hi), List.getElem?_map] at h
      cases e : ds[i]? with
      | none => rw [e] at h; cases h
      | some x => rw [e] at h; cases h; exact ⟨hi, rfl⟩
    · rw [List.getElem?_append_right (by simpa using hi), List.getElem?_replicate] at h
      split at h <;> cases h
  have mdAt : ∀ i (hi : i < io.length), ms[i]? = some (mdOf io[i]) := fun i hi => by
    rw [hms, List.getElem?_append_left (by simpa using hi), List.getElem?_map, List.getElem?_eq_getElem hi]
    rfl
  have oAt : ∀ i (hi : i < io.length) F, Fs[i]? = some F → (O0 io Fs (N.length - io.length))[i]? = some (if io[i] = true then F else []) := fun i hi F hF => by
    unfold O0
    rw [List.getElem?_append_left (by rw [List.length_zipWith, l2, hl]; omega), List.getElem?_zipWith, List.getElem?_eq_getElem hi, hF]
  have notIo : ∀ (io : List Bool) (Fs : List (List Addr)) (i : Nat) (hi : i < io.length) F, Fs[i]? = some F → io[i] = false → ∀ a ∈ F, a ∈ (pick (io.map (!·)) Fs).flatten := fun io => by
    induction io with
    | nil => intro Fs i hi; simp at hi
    | cons b io ih =>
      intro Fs i hi F hF hb a ha
      cases Fs with
      | nil => simp at hF
      | cons G Fs =>
        cases i with
        | zero =>
          simp at hF hb
          subst hF hb
          simp [pick]
          exact .inl ha
        | succ i =>
          have := ih Fs i (by simpa using hi) F (by simpa using hF) (by simpa using hb) a ha
          cases b with
          | true => simpa [pick] using this
          | false =>
            simp only [List.map_cons, Bool.not_false, pick, List.flatten_cons, List.mem_append]
            exact .inr this
  refine ⟨⟨?_, by rw [hlen]; exact hO, by rw [hlen]; exact hN, fun i d h => ?_, fun i h => ?_, by rw [O0_fl]; exact nd, fun a h => .inr h⟩, fun i hi d h => ?_⟩
  · rw [hlen]
    unfold L2.start
    rw [List.length_append, List.length_map, List.length_replicate, l1]
    omega
  · obtain ⟨hi, hd⟩ := inN i d h
    obtain ⟨v, F, h1, h2, h3⟩ := rv.get hd
    have hio : i < io.length := by omega
    refine ⟨v, F, mdOf io[i], _, ?_, h3, fun a ha => .inl (mem_fl h2 ha), mdAt i hio, oAt i hio F h2, ?_⟩
    · unfold L2.start
      rw [List.getElem?_append_left (by rw [List.length_map, l1]; exact hi), List.getElem?_map, h1]
      rfl
    · cases hb : io[i] with
      | true => rw [if_pos rfl]; rfl
      | false =>
        rw [if_neg Bool.false_ne_true]
        exact ⟨rfl, fun a ha => by rw [O0_fl]; exact dj a (notIo io Fs i hio F h2 hb a ha)⟩
  · have hi : ¬ i < ds.length := fun hi => by
      rw [List.getElem?_append_left (by simpa using hi), List.getElem?_map, List.getElem?_eq_getElem hi] at h
      cases h
    have hi2 : i < N.length := by
      have := (List.getElem?_eq_some_iff.mp h).1
      rwa [hlen] at this
    unfold O0
    rw [List.getElem?_append_right (by rw [List.length_zipWith, l2, hl]; omega), List.getElem?_replicate, if_pos (by rw [List.length_zipWith, l2, hl]; omega)]
  · obtain ⟨h1, h2⟩ := inN i d h
    rw [mdAt i (by omega)] at hi
    cases hb : io[i] <;> (rw [hb] at hi; cases hi)
theorem outs_nil : ∀ (ms : List Md) (r : En), (∀ m ∈ ms, m ≠ .io) → r.length = ms.length → outsOf ms r = some [] := fun ms => by
  induction ms with
  | nil => intro r _ _; cases r <;> simp [outsOf]
  | cons m ms ih =>
    intro r hm hr
    cases r with
    | nil => simp at hr
    | cons x r =>
      have := hm m List.mem_cons_self
      cases m <;> first | exact absurd rfl this | (simp only [outsOf]; exact ih r (fun q hq => hm q (List.mem_cons_of_mem _ hq)) (by simpa using hr))
theorem ioN_cons (m : Md) (ms : List Md) (F : List Addr) (P : List (List Addr)) : ioN (m :: ms) (F :: P) = (if m = .io then F else []) ++ ioN ms P := by
  simp [ioN]
/-- what the io slots hold in the end -/
theorem outs_of : ∀ (io : List Bool) (ms : List Md) (r : En) (s : L2.St) (P : List (List Addr)) (vs : List V) (outs : List D),
    ms = io.map mdOf ++ ms.drop io.length → (∀ m ∈ ms.drop io.length, m ≠ .io) → (∀ (i : Nat) (d : D), ms[i]? = some .io → r[i]? = some (some d) → ∃ v F, s[i]? = some (some v) ∧ Rep K H v d F ∧ P[i]? = some F) →
    r.length = ms.length → P.length = ms.length → (∀ (i : Nat) v, ms[i]? = some .io → vs[i]? = some v → s[i]? = some (some v)) → vs.length = io.length → outsOf ms r = some outs →
    RepP K H (pick io vs) outs (pick io P) ∧ (pick io P).flatten = ioN ms P := by
  intro io
  induction io with
  | nil =>
    intro ms r s P vs outs h1 h2 h3 h4 h5 h6 h8 h9
    have hh : ∀ m ∈ ms, m ≠ .io := by simpa using h2
    rw [outs_nil ms r hh h4] at h9
    cases h9
    refine ⟨by simp [pick]; exact .nil, ?_⟩
    simp only [pick, List.flatten_nil]
    exact (ioN_none (List.all_eq_true.mpr fun m hm => by simpa using hh m hm)).symm
  | cons b io ih =>
    intro ms r s P vs outs h1 h2 h3 h4 h5 h6 h8 h9
    cases ms with
    | nil => simp at h1
    | cons m ms =>
      rw [List.map_cons, List.cons_append, List.length_cons, List.drop_succ_cons] at h1
      injection h1 with hm h1
      rw [List.length_cons, List.drop_succ_cons] at h2
      cases r with
      | nil => simp at h4
      | cons r0 r =>
        cases P with
        | nil => simp at h5
        | cons P0 P =>
          cases vs with
          | nil => simp at h8
          | cons v0 vs =>
            have rest : ∀ outs, outsOf ms r = some outs → RepP K H (pick io vs) outs (pick io P) ∧ (pick io P).flatten = ioN ms P := fun outs ho =>
              ih ms r (s.drop 1) P vs outs h1 h2 (fun i d g1 g2 => by
                obtain ⟨v, F, q1, q2, q3⟩ := h3 (i + 1) d (by simpa using g1) (by simpa using g2)
                exact ⟨v, F, by rw [List.getElem?_drop, Nat.add_comm]; exact q1, q2, by simpa using q3⟩) (by simpa using h4) (by simpa using h5) (fun i v g1 g2 => by
                have := h6 (i + 1) v (by simpa using g1) (by simpa using g2)
                rw [List.getElem?_drop, Nat.add_comm]
                exact this) (by simpa using h8) ho
            cases b with
            | false =>
              have hm' : m = .sh := hm
              subst hm'
              simp only [outsOf] at h9
              obtain ⟨g1, g2⟩ := rest outs h9
              refine ⟨by simpa [pick] using g1, ?_⟩
              rw [ioN_cons, if_neg (by decide), List.nil_append]
              simpa [pick] using g2
            | true =>
              have hm' : m = .io := hm
              subst hm'
              cases r0 with
              | none => simp [outsOf] at h9
              | some d =>
                simp only [outsOf] at h9
                obtain ⟨o, ho, rfl⟩ := Option.map_eq_some_iff.mp h9
                obtain ⟨g1, g2⟩ := rest o ho
                obtain ⟨v, F, q1, q2, q3⟩ := h3 0 d rfl rfl
                have q4 := h6 0 v0 rfl rfl
                rw [q1] at q4
                cases q4
                cases q3
                refine ⟨by simp only [pick]; exact .cons q2 g1, ?_⟩
                rw [ioN_cons, if_pos rfl, ← g2]
                simp [pick]
end
section
variable {P : Program} {w : World} {K : Fg} {mg : Str → Option Value} {base : Heap} {cl : Nat → Addr}
/-- THE RULE for such a def -/
theorem fn_I {x qual : Str} {st : Stmt} {f : Addr} {fd : FuncData} {N ps : List Str} {k : Nat} {ms : List Md} {io : List Bool} {b : En → SR} (F : Fun K x qual st f fd) (S : FnScope N ps (defScope st)) (hN : ms.length = N.length) (hp : ps.length ≤ N.length) (hio : io.length = ps.length) (hms : ms = io.map mdOf ++ ms.drop io.length) (hms2 : (ms.drop io.length).all (· ≠ .io) = true)
    (hbody : ∀ (cdv : Value) (A : Around) (outer : List Env) (s : Shared) (H : Hp) (E : XK), Room k (A.deeper (PyProof.Rows.envOfC qual (defScope st) s.heap.objs.size f cdv)) →
      ISs (cxOf (L2.CX P w) P w K mg base N qual (defScope st) f cdv A outer s H E) cl (fun c d _ H => E c d H) ms false (defBody st) b) : FnOk P w K mg base (L2.CX P w) (k + 1) f fd ps (spI K cl io (runI ms b)) := by
  refine F.okX S (fun vs H Q E h => ?_) (fun cdv A outer s H vs Q E hr h => ⟨_, hbody cdv A outer s H E hr, ?_⟩)
  · obtain ⟨ds, Fs, h1, h2, _⟩ := h
    rw [h2.len.1, h1, hio]
  · obtain ⟨ds, Fs, h1, h2, nd, dj, h3⟩ := h
    have en := envS_startI (N := N) (ms := ms) h2 h1 hms hN (by omega) nd dj
    have hfl := O0_fl io Fs (N.length - io.length)
    have hm2 : ∀ m ∈ ms.drop io.length, m ≠ .io := fun m hm => by simpa using List.all_eq_true.mp hms2 m hm
    have vsl : vs.length = io.length := by rw [h2.len.1, h1]
    have io0 : ∀ (i : Nat) v, ms[i]? = some .io → vs[i]? = some v → (L2.start N vs)[i]? = some (some v) := fun i v _ hv => by
      have hi := (List.getElem?_eq_some_iff.mp hv).1
      unfold L2.start
      rw [List.getElem?_append_left (by simpa using hi), List.getElem?_map, hv]
      rfl
    have fin : ∀ (d : D) (r : En) (s' : L2.St) (G : Hp) (R : List (List Addr)) (v : V) (B : List Addr) (o : List D), outsOf ms r = some o → (∀ v G B Gs, Stp (pick io Fs).flatten H G → (∀ b o, H b = some o → ∃ o', G b = some o') → Rep K G v d B → RepP K G (pick io vs) o Gs → Gs.flatten.Nodup →
        (∀ a ∈ Gs.flatten, a ∈ (pick io Fs).flatten ∨ H a = none) → (∀ a ∈ B, (a ∈ Fs.flatten ∨ H a = none) ∧ a ∉ Gs.flatten) → Q v G) → EnvS K G ms r s' R (fun a => a ∈ Fs.flatten ∨ H a = none) → Trn ms (L2.start N vs) s' H G (O0 io Fs (N.length - io.length)).flatten R.flatten →
        Rep K G v d B → (∀ a ∈ B, a ∈ Fs.flatten ∨ H a = none) → (∀ a ∈ B, a ∉ ioN ms R) → Q v G := fun d r s' G R v B o ho q e2 t2 rv og nio => by
      obtain ⟨g1, g2⟩ := outs_of (K := K) (H := G) io ms r s' R vs o hms hm2 (fun i d hm hd => by
        obtain ⟨v, F, m, Pi, q1, q2, _, q4, q5, q6⟩ := e2.env.sl i d hd
        rw [hm] at q4
        cases q4
        have q6' : Pi = F := q6
        subst q6'
        exact ⟨v, Pi, q1, q2, q5⟩) (by rw [e2.env.lm]) (by rw [e2.env.lo, e2.env.lm]) (fun i v hm hv => by rw [t2.io i hm]; exact io0 i v hm hv) vsl ho
      rw [hfl] at t2
      have subR : ∀ a ∈ (pick io R).flatten, a ∈ R.flatten := fun a ha => by rw [g2] at ha; exact ioN_sub _ _ a ha
      refine q v G B (pick io R) t2.fr t2.dom rv g1 ?_ (fun a ha => t2.new a (subR a ha)) fun a ha => ⟨og a ha, by rw [g2]; exact nio a ha⟩
      -- a choice of the footprints has no place twice
      have pk : ∀ (io : List Bool) (R : List (List Addr)), R.flatten.Nodup → (pick io R).flatten.Nodup ∧ ∀ a ∈ (pick io R).flatten, a ∈ R.flatten := fun io => by
        induction io with
        | nil => intro R _; simp [pick]
        | cons b io ih =>
          intro R nd
          cases R with
          | nil => cases b <;> simp [pick]
          | cons A R =>
            rw [List.flatten_cons] at nd
            obtain ⟨n1, n2, n3⟩ := List.nodup_append.mp nd
            obtain ⟨i1, i2⟩ := ih R n2
            cases b with
            | false => exact ⟨by simpa [pick] using i1, fun a ha => by rw [List.flatten_cons]; exact List.mem_append_right _ (i2 a (by simpa [pick] using ha))⟩
            | true =>
              simp only [pick, List.flatten_cons]
              refine ⟨List.nodup_append.mpr ⟨n1, i1, fun a ha b hb => n3 a ha b (i2 b hb)⟩, fun a ha => ?_⟩
              rcases List.mem_append.mp ha with h | h
              · exact List.mem_append_left _ h
              · exact List.mem_append_right _ (i2 a h)
      exact (pk io R e2.env.nd).1
    refine ⟨_, _, _, en, ?_⟩
    unfold runI at h3
    cases hb : b (ds.map some ++ List.replicate (ms.length - ds.length) none) with
    | stuck => rw [hb] at h3; exact h3
    | exn c r => rw [hb] at h3; exact h3.elim
    | nx r =>
      rw [hb] at h3
      intro s' G R e2 t2
      cases ho : outsOf ms r with
      | none => simp only [ho] at h3
      | some o =>
        simp only [ho] at h3
        exact fin .none r s' G R .non [] o ho h3 e2 t2 .non (fun _ z => nomatch z) fun _ z => nomatch z
    | ret d r =>
      rw [hb] at h3
      intro v s' G R B e2 t2 rv og rt
      cases ho : outsOf ms r with
      | none => simp only [ho] at h3
      | some o =>
        simp only [ho] at h3
        exact fin d r s' G R v B o ho h3 e2 t2 rv og rt.1
end
end Mi

namespace Mi
open PySem PySem.Spec L2

/-! ### several footprints replaced -/
def emp : List Nat → List (List Addr) → List (List Addr)
  | [], O => O
  | x :: ys, O => emp ys (O.set x [])
def putF : List Nat → List (List Addr) → List (List Addr) → List (List Addr)
  | x :: ys, G :: Gs, E => putF ys Gs (E.set x G)
  | _, _, E => E
theorem emp_len : ∀ (ys : List Nat) (O : List (List Addr)), (emp ys O).length = O.length
  | [], O => rfl
  | x :: ys, O => by unfold emp; rw [emp_len ys, List.length_set]
theorem putF_len : ∀ (ys : List Nat) (Gs E : List (List Addr)), (putF ys Gs E).length = E.length
  | [], _, E => by simp [putF]
  | x :: ys, [], E => by simp [putF]
  | x :: ys, G :: Gs, E => by unfold putF; rw [putF_len ys, List.length_set]
theorem emp_ix : ∀ (ys : List Nat) (O : List (List Addr)) (i : Nat), i < O.length → (emp ys O)[i]? = if i ∈ ys then some [] else O[i]?
  | [], O, i, _ => by simp [emp]
  | x :: ys, O, i, h => by
    unfold emp
    rw [emp_ix ys _ i (by rw [List.length_set]; exact h)]
    by_cases h1 : i ∈ ys
    · rw [if_pos h1, if_pos (List.mem_cons_of_mem _ h1)]
    · rw [if_neg h1]
      by_cases h2 : i = x
      · subst h2
        rw [if_pos List.mem_cons_self, List.getElem?_set_self h]
      · rw [if_neg (by simp [h1, h2]), List.getElem?_set_ne (fun z => h2 z.symm)]
theorem emp_fl : ∀ (ys : List Nat) (O : List (List Addr)), O.flatten.Nodup → (emp ys O).flatten.Nodup ∧ (∀ a ∈ (emp ys O).flatten, a ∈ O.flatten ∧ ∀ x ∈ ys, ∀ F, O[x]? = some F → a ∉ F)
  | [], O, nd => ⟨nd, fun a ha => ⟨ha, fun x hx => nomatch hx⟩⟩
  | x :: ys, O, nd => by
    have nd1 : (O.set x []).flatten.Nodup := by
      by_cases hx : x < O.length
      · exact fl_set nd (List.getElem?_eq_getElem hx) List.nodup_nil fun a ha => nomatch ha
      · rw [List.set_eq_of_length_le (by omega)]
        exact nd
    obtain ⟨h1, h2⟩ := emp_fl ys (O.set x []) nd1
    refine ⟨h1, fun a ha => ?_⟩
    obtain ⟨h3, h4⟩ := h2 a ha
    obtain ⟨i, B, g1, g2⟩ := fl_ix h3
    have hi : x ≠ i := fun z => by
      subst z
      have hx : x < (O.set x []).length := (List.getElem?_eq_some_iff.mp g1).1
      rw [List.length_set] at hx
      rw [List.getElem?_set_self hx] at g1
      cases g1
      cases g2
    rw [List.getElem?_set_ne hi] at g1
    refine ⟨mem_fl g1 g2, fun y hy F hF hm => ?_⟩
    rcases List.mem_cons.mp hy with rfl | hy
    · exact fl_ne nd g1 hF (fun z => hi z.symm) a g2 hm
    · by_cases hxy : x = y
      · subst hxy
        exact fl_ne nd g1 hF (fun z => hi z.symm) a g2 hm
      · exact h4 y hy F (by rw [List.getElem?_set_ne hxy]; exact hF) hm
theorem putF_out : ∀ (ys : List Nat) (Gs E : List (List Addr)) (i : Nat), i ∉ ys → (putF ys Gs E)[i]? = E[i]?
  | [], _, E, i, _ => by simp [putF]
  | x :: ys, [], E, i, _ => by simp [putF]
  | x :: ys, G :: Gs, E, i, h => by
    unfold putF
    rw [putF_out ys Gs _ i (fun z => h (List.mem_cons_of_mem _ z)), List.getElem?_set_ne (fun z => h (by rw [z]; exact List.mem_cons_self))]
theorem putF_in : ∀ (ys : List Nat) (Gs E : List (List Addr)) (j x : Nat) (G : List Addr), ys.Nodup → ys[j]? = some x → Gs[j]? = some G → x < E.length → (putF ys Gs E)[x]? = some G
  | [], _, E, j, x, G, _, h, _, _ => by simp at h
  | y :: ys, [], E, j, x, G, _, _, h, _ => by simp at h
  | y :: ys, G0 :: Gs, E, j, x, G, nd, h1, h2, h3 => by
    obtain ⟨n1, n2⟩ := List.nodup_cons.mp nd
    unfold putF
    cases j with
    | zero =>
      cases h1
      cases h2
      rw [putF_out ys Gs _ _ n1, List.getElem?_set_self h3]
    | succ j => exact putF_in ys Gs _ j x G n2 (by simpa using h1) (by simpa using h2) (by rw [List.length_set]; exact h3)
theorem putF_fl : ∀ (ys : List Nat) (Gs E : List (List Addr)), E.flatten.Nodup → Gs.flatten.Nodup → (∀ a ∈ Gs.flatten, a ∉ E.flatten) → (∀ x ∈ ys, E[x]? = some []) → ys.Nodup → (putF ys Gs E).flatten.Nodup ∧ ∀ a ∈ (putF ys Gs E).flatten, a ∈ Gs.flatten ∨ a ∈ E.flatten
  | [], _, E, h1, _, _, _, _ => ⟨by simpa [putF] using h1, fun a ha => .inr (by simpa [putF] using ha)⟩
  | x :: ys, [], E, h1, _, _, _, _ => ⟨by simpa [putF] using h1, fun a ha => .inr (by simpa [putF] using ha)⟩
  | x :: ys, G :: Gs, E, h1, h2, h3, h4, h5 => by
    obtain ⟨n1, n2⟩ := List.nodup_cons.mp h5
    rw [List.flatten_cons] at h2 h3
    obtain ⟨k1, k2, k3⟩ := List.nodup_append.mp h2
    have ex := h4 x List.mem_cons_self
    have nd1 := fl_set h1 ex k1 fun a ha => .inr (h3 a (List.mem_append_left _ ha))
    have mem1 : ∀ a ∈ (E.set x G).flatten, a ∈ G ∨ a ∈ E.flatten := fun a ha => by
      obtain ⟨i, B, g1, g2⟩ := fl_ix ha
      by_cases hi : x = i
      · subst hi
        rw [List.getElem?_set_self (List.getElem?_eq_some_iff.mp ex).1] at g1
        cases g1
        exact .inl g2
      · rw [List.getElem?_set_ne hi] at g1
        exact .inr (mem_fl g1 g2)
    obtain ⟨r1, r2⟩ := putF_fl ys Gs (E.set x G) nd1 k2 (fun a ha z => by
      rcases mem1 a z with q | q
      · exact k3 a q a ha rfl
      · exact h3 a (List.mem_append_right _ ha) q) (fun y hy => by
      rw [List.getElem?_set_ne (fun z => n1 (by rw [z]; exact hy))]
      exact h4 y (List.mem_cons_of_mem _ hy)) n2
    refine ⟨r1, fun a ha => ?_⟩
    rw [List.flatten_cons]
    rcases r2 a ha with q | q
    · exact .inl (List.mem_append_right _ q)
    · rcases mem1 a q with q | q
      · exact .inl (List.mem_append_left _ q)
      · exact .inr q
def setAll : List Nat → List D → En → En
  | x :: ys, d :: ds, r => setAll ys ds (r.set x (some d))
  | _, _, r => r
theorem setAll_len : ∀ (ys : List Nat) (ds : List D) (r : En), (setAll ys ds r).length = r.length
  | [], _, r => by simp [setAll]
  | x :: ys, [], r => by simp [setAll]
  | x :: ys, d :: ds, r => by unfold setAll; rw [setAll_len ys, List.length_set]
theorem setAll_out : ∀ (ys : List Nat) (ds : List D) (r : En) (i : Nat), i ∉ ys → (setAll ys ds r)[i]? = r[i]?
  | [], _, r, i, _ => by simp [setAll]
  | x :: ys, [], r, i, _ => by simp [setAll]
  | x :: ys, d :: ds, r, i, h => by
    unfold setAll
    rw [setAll_out ys ds _ i (fun z => h (List.mem_cons_of_mem _ z)), List.getElem?_set_ne (fun z => h (by rw [z]; exact List.mem_cons_self))]
theorem setAll_in : ∀ (ys : List Nat) (ds : List D) (r : En) (j x : Nat) (d : D), ys.Nodup → ys[j]? = some x → ds[j]? = some d → x < r.length → (setAll ys ds r)[x]? = some (some d)
  | [], _, r, j, x, d, _, h, _, _ => by simp at h
  | y :: ys, [], r, j, x, d, _, _, h, _ => by simp at h
  | y :: ys, d0 :: ds, r, j, x, d, nd, h1, h2, h3 => by
    obtain ⟨n1, n2⟩ := List.nodup_cons.mp nd
    unfold setAll
    cases j with
    | zero =>
      cases h1
      cases h2
      rw [setAll_out ys ds _ _ n1, List.getElem?_set_self h3]
    | succ j => exact setAll_in ys ds _ j x d n2 (by simpa using h1) (by simpa using h2) (by rw [List.length_set]; exact h3)

/-! ### the arguments of such a call -/
inductive AB (K : Fg) (s : L2.St) (r : En) (O : List (List Addr)) (G : Hp) : List (Option Nat) → List V → List D → List (List Addr) → Prop
  | nil : AB K s r O G [] [] [] []
  | val {v : V} {d : D} {F : List Addr} {xs : List (Option Nat)} {vs : List V} {ds : List D} {Fs : List (List Addr)} : Rep K G v d F → (∀ a ∈ F, a ∉ O.flatten) → AB K s r O G xs vs ds Fs → AB K s r O G (none :: xs) (v :: vs) (d :: ds) (F :: Fs)
  | slot {x : Nat} {v : V} {d : D} {F : List Addr} {xs : List (Option Nat)} {vs : List V} {ds : List D} {Fs : List (List Addr)} : s[x]? = some (some v) → r[x]? = some (some d) → O[x]? = some F → Rep K G v d F → AB K s r O G xs vs ds Fs → AB K s r O G (some x :: xs) (v :: vs) (d :: ds) (F :: Fs)
theorem AB.same {K : Fg} {s : L2.St} {r : En} {O : List (List Addr)} {G J : Hp} {xs : List (Option Nat)} {vs : List V} {ds : List D} {Fs : List (List Addr)} (h : AB K s r O G xs vs ds Fs) (p : Same G J) : AB K s r O J xs vs ds Fs := by
  induction h with
  | nil => exact .nil
  | val r n _ ih => exact .val (r.same p) n ih
  | slot a b c d _ ih => exact .slot a b c (d.same p) ih
def canB (K : Fg) (cl : Nat → Addr) (W : WX) (ms : List Md) (g : En → ER (List D)) (xs : List (Option Nat)) : TA := fun s H Q => ∃ r O Og, EnvR K H ms r s O Og ∧
  (g r).ok (fun ds => ∀ vs Fs G, Same H G → AB K s r O G xs vs ds Fs → (∀ a ∈ Fs.flatten, Og a) → Q vs G) (Nx cl W s H)
def IB (X : Cx) (cl : Nat → Addr) (W : WX) (ms : List Md) (es : List Expr) (g : En → ER (List D)) (xs : List (Option Nat)) : Prop := PA X es (canB X.K cl W ms g xs)
section
variable {X : Cx} {cl : Nat → Addr} {W : WX} {ms : List Md} {a : Expr} {es : List Expr} {f : En → ER D} {g : En → ER (List D)} {ka : Kd} {xs : List (Option Nat)}
theorem b_nil : IB X cl W ms [] anil [] := pa_imp pa_nil fun s H Q ⟨r, O, Og, e, w⟩ => w [] [] H (Same.refl H) .nil fun _ z => nomatch z
theorem b_cons (ha : IE X cl W ms a f ka) (hk : ka ≠ .bo) (hr : IB X cl W ms es g xs) (hs : starEach (a :: es) X.env = (false, eval a X.env) :: starEach es X.env := by rfl) : IB X cl W ms (a :: es) (acons f g) (none :: xs) :=
  pa_imp (pa_cons ha hr hs) fun s H Q ⟨r, O, Og, e, w⟩ => by
    show tCons _ _ s H Q
    refine one_ e w fun d v G F q p rv og kv => ⟨r, O, Og, e.same p, ER.ok_mono (ER.ok_bind q) (fun ds _ q2 vs Fs J p2 ab og2 => ?_) fun _ n => Nx.on n p⟩
    refine q2 (v :: vs) (F :: Fs) J (p.trans p2) (.val (rv.same p2) (KOk.shOf e kv hk) ab) fun b hb => ?_
    rw [List.flatten_cons] at hb
    exact (List.mem_append.mp hb).elim (og b) (og2 b)
theorem b_slot {x : Nat} {n : Str} {pos : Pos} (hm : ms[x]? = some .ow ∨ ms[x]? = some .io) (hr : IB X cl W ms es g xs) (hN : X.N[x]? = some n := by rfl) (hv : Vis X.env.scope n := by first | exact Or.inl rfl | exact Or.inr (Or.inl rfl) | exact Or.inr (Or.inr rfl)) (hd : (n == ("__debug__" : Str)) = false := by decide)
    (hcd : (n == ("__classdict__" : Str)) = false := by decide) (hs : starEach (.Name n pos :: es) X.env = (false, eval (.Name n pos) X.env) :: starEach es X.env := by rfl) : IB X cl W ms (.Name n pos :: es) (acons (var x) g) (some x :: xs) :=
  pa_imp (pa_cons (pe_var hN hv hd hcd) hr hs) fun s H Q ⟨r, O, Og, e, w⟩ => by
    have w := ER.ok_bind w
    unfold var at w
    split at w
    · rename_i d hd'
      obtain ⟨v, F, h1, h2, h3, h4, h5⟩ := e.at_ hd' hm
      refine ⟨v, h1, r, O, Og, e, ER.ok_mono (ER.ok_bind w) (fun ds _ q2 vs Fs J p2 ab og2 => ?_) fun _ n => n⟩
      refine q2 (v :: vs) (F :: Fs) J p2 (.slot h1 hd' h4 (h2.same p2) ab) fun b hb => ?_
      rw [List.flatten_cons] at hb
      exact (List.mem_append.mp hb).elim (h3 b) (og2 b)
    · exact w.elim
end
def ysOf (xs : List (Option Nat)) : List Nat := xs.filterMap id
def ioOf (xs : List (Option Nat)) : List Bool := xs.map (·.isSome)
section
variable {K : Fg} {H G : Hp} {ms : List Md} {s : L2.St} {r : En} {O : List (List Addr)} {Og : Addr → Prop} {xs : List (Option Nat)} {vs : List V} {ds : List D} {Fs : List (List Addr)}
theorem AB.repP (h : AB K s r O H xs vs ds Fs) : RepP K H vs ds Fs ∧ ds.length = (ioOf xs).length ∧ (∀ a ∈ (pick ((ioOf xs).map (!·)) Fs).flatten, a ∉ O.flatten) ∧
    (ysOf xs).length = (pick (ioOf xs) Fs).length ∧ (∀ (j y : Nat), (ysOf xs)[j]? = some y → ∃ v d F, s[y]? = some (some v) ∧ r[y]? = some (some d) ∧ O[y]? = some F ∧ (pick (ioOf xs) vs)[j]? = some v ∧ (pick (ioOf xs) Fs)[j]? = some F) := by
  induction h with
  | nil => exact ⟨.nil, rfl, by simp [ioOf, pick], by simp [ysOf, ioOf, pick], by simp [ysOf]⟩
  | @val v d F xs vs ds Fs rv nv _ ih =>
    obtain ⟨i1, i2, i3, i4, i5⟩ := ih
    refine ⟨.cons rv i1, by simp [ioOf] at i2 ⊢; exact i2, fun a ha => ?_, by simpa [ysOf, ioOf, pick] using i4, fun j y hj => by simpa [ysOf, ioOf, pick] using i5 j y (by simpa [ysOf] using hj)⟩
    simp only [ioOf, List.map_cons, Option.isSome_none, Bool.not_false, pick, List.flatten_cons, List.mem_append] at ha
    rcases ha with ha | ha
    · exact nv a ha
    · exact i3 a ha
  | @slot x v d F xs vs ds Fs h1 h2 h3 h4 _ ih =>
    obtain ⟨i1, i2, i3, i4, i5⟩ := ih
    refine ⟨.cons h4 i1, by simp [ioOf] at i2 ⊢; exact i2, fun a ha => i3 a (by simpa [ioOf, pick] using ha), by simpa [ysOf, ioOf, pick] using i4, fun j y hj => ?_⟩
    cases j with
    | zero =>
      simp [ysOf] at hj
      subst hj
      exact ⟨v, d, F, h1, h2, h3, by simp [ioOf, pick], by simp [ioOf, pick]⟩
    | succ j => simpa [ysOf, ioOf, pick] using i5 j y (by simpa [ysOf] using hj)
theorem pick_len {A B : Type} : ∀ (b : List Bool) (l : List A) (m : List B), l.length = m.length → (pick b l).length = (pick b m).length
  | [], _, _, _ => by simp [pick]
  | true :: b, [], [], _ => by simp [pick]
  | false :: b, [], [], _ => by simp [pick]
  | true :: b, x :: l, y :: m, h => by simp [pick, pick_len b l m (by simpa using h)]
  | false :: b, x :: l, y :: m, h => by simp [pick, pick_len b l m (by simpa using h)]
  | b :: _, [], _ :: _, h => by simp at h
  | b :: _, _ :: _, [], h => by simp at h
/-- behind such a call -/
theorem EnvS.io (en : EnvS K H ms r s O Og) (ab : AB K s r O H xs vs ds Fs) (nd : (ysOf xs).Nodup) (hm : ∀ y ∈ ysOf xs, ms[y]? = some .ow ∨ ms[y]? = some .io) {outs : List D} {Gs : List (List Addr)} (st : Stp (pick (ioOf xs) Fs).flatten H G) (dom : ∀ b o, H b = some o → ∃ o', G b = some o')
    (rp : RepP K G (pick (ioOf xs) vs) outs Gs) (gn : Gs.flatten.Nodup) (gs : ∀ a ∈ Gs.flatten, a ∈ (pick (ioOf xs) Fs).flatten ∨ H a = none) (og : ∀ a ∈ Fs.flatten, Og a) :
    EnvS K G ms (setAll (ysOf xs) outs r) s (putF (ysOf xs) Gs (emp (ysOf xs) O)) Og ∧ Trn ms s s H G O.flatten (putF (ysOf xs) Gs (emp (ysOf xs) O)).flatten ∧ ∀ a ∈ (putF (ysOf xs) Gs (emp (ysOf xs) O)).flatten, a ∈ Gs.flatten ∨ (a ∈ O.flatten ∧ a ∉ (pick (ioOf xs) Fs).flatten) := by
  obtain ⟨r1, r2, r3, r4, r5⟩ := ab.repP
  obtain ⟨l1, l2⟩ := rp.len
  have lv : (pick (ioOf xs) vs).length = (pick (ioOf xs) Fs).length := pick_len _ _ _ (by rw [r1.len.1, r1.len.2])
  have ylo : (ysOf xs).length = outs.length := by rw [← l1, lv, r4]
  have lt : ∀ y ∈ ysOf xs, y < O.length := fun y hy => by
    have : y < ms.length := by rcases hm y hy with h | h <;> exact (List.getElem?_eq_some_iff.mp h).1
    rw [en.env.lo, ← en.env.lm]
    exact this
  have C_in : ∀ b ∈ (pick (ioOf xs) Fs).flatten, ∃ y F, y ∈ ysOf xs ∧ O[y]? = some F ∧ b ∈ F := fun b hb => by
    obtain ⟨j, B, g1, g2⟩ := fl_ix hb
    have hj : j < (ysOf xs).length := by rw [r4]; exact (List.getElem?_eq_some_iff.mp g1).1
    obtain ⟨v, d, F, q1, q2, q3, q4, q5⟩ := r5 j _ (List.getElem?_eq_getElem hj)
    rw [g1] at q5
    cases q5
    exact ⟨_, B, List.getElem_mem hj, q3, g2⟩
  obtain ⟨e1, e2⟩ := emp_fl (ysOf xs) O en.env.nd
  have ge : ∀ a ∈ Gs.flatten, a ∉ (emp (ysOf xs) O).flatten := fun a ha z => by
    obtain ⟨z1, z2⟩ := e2 a z
    rcases gs a ha with q | q
    · obtain ⟨y, F, y1, y2, y3⟩ := C_in a q
      exact z2 y y1 F y2 y3
    · exact en.env.old q z1
  have ee : ∀ x ∈ ysOf xs, (emp (ysOf xs) O)[x]? = some [] := fun x hx => by rw [emp_ix _ _ _ (lt x hx), if_pos hx]
  obtain ⟨p1, p2⟩ := putF_fl (ysOf xs) Gs _ e1 gn ge ee nd
  have inn : ∀ y ∈ ysOf xs, ∃ v d F, s[y]? = some (some v) ∧ (setAll (ysOf xs) outs r)[y]? = some (some d) ∧ (putF (ysOf xs) Gs (emp (ysOf xs) O))[y]? = some F ∧ Rep K G v d F ∧ F ∈ Gs := fun y hy => by
    obtain ⟨j, hj, e⟩ := List.mem_iff_getElem.mp hy
    have hy' : (ysOf xs)[j]? = some y := by rw [List.getElem?_eq_getElem hj, e]
    obtain ⟨v, d0, F0, q1, q2, q3, q4, q5⟩ := r5 j y hy'
    have ho : j < outs.length := by rw [← ylo]; exact hj
    obtain ⟨v', F, w1, w2, w3⟩ := rp.get (List.getElem?_eq_getElem ho)
    rw [q4] at w1
    cases w1
    refine ⟨v, outs[j], F, q1, setAll_in _ _ _ j y _ nd hy' (List.getElem?_eq_getElem ho) (by rw [← en.env.lo]; exact lt y hy), putF_in _ _ _ j y F nd hy' w2 (by rw [emp_len]; exact lt y hy), w3, List.mem_of_getElem? w2⟩
  have mb : ∀ y ∈ ysOf xs, ms[y]? ≠ some .bo := fun y hy => by rcases hm y hy with h | h <;> rw [h] <;> decide
  refine ⟨⟨en.env.upd en.nb (fun i => i ∈ ysOf xs) (C := (pick (ioOf xs) Fs).flatten) (fun b hb => ?_) st dom (setAll_len _ _ _) rfl (by rw [putF_len, emp_len]) (fun i hi => ⟨setAll_out _ _ _ _ hi, rfl, ?_⟩) (fun i hi => ?_) (fun i A hi hA a ha => ?_) p1, fun i hi d => ?_⟩, ⟨fun b o hb nb => st b o hb fun z => ?_, dom, fun b hb => ?_, fun _ _ => rfl⟩, fun a ha => ?_⟩
  · obtain ⟨y, F, h1, h2, h3⟩ := C_in b hb
    exact ⟨y, F, h1, h2, h3⟩
  · rw [putF_out _ _ _ _ hi]
    by_cases hlt : i < O.length
    · rw [emp_ix _ _ _ hlt, if_neg hi]
    · rw [List.getElem?_eq_none (by rw [emp_len]; omega), List.getElem?_eq_none (by omega)]
  · obtain ⟨v, d, F, q1, q2, q3, q4, q5⟩ := inn i hi
    refine ⟨fun d' h => ?_, fun h => ?_⟩
    · rw [q2] at h
      cases h
      have ogF : ∀ a ∈ F, Og a := fun a ha => by
        rcases gs a (List.mem_flatten.mpr ⟨F, q5, ha⟩) with z | z
        · refine og a ?_
          have : ∀ (b : List Bool) (L : List (List Addr)), a ∈ (pick b L).flatten → a ∈ L.flatten := fun b => by
            induction b with
            | nil => intro L h; simp [pick] at h
            | cons x b ih =>
              intro L h
              cases L with
              | nil => cases x <;> simp [pick] at h
              | cons B L =>
                rw [List.flatten_cons, List.mem_append]
                cases x with
                | false => exact .inr (ih L (by simpa [pick] using h))
                | true =>
                  simp only [pick, List.flatten_cons, List.mem_append] at h
                  exact h.imp id (ih L)
          exact this _ _ z
        · exact en.env.fg a z
      rcases hm i hi with h | h
      · exact ⟨v, F, .ow, F, q1, q4, ogF, h, q3, rfl⟩
      · exact ⟨v, F, .io, F, q1, q4, ogF, h, q3, rfl⟩
    · rw [q2] at h
      cases h
  · obtain ⟨v, d, F, q1, q2, q3, q4, q5⟩ := inn i hi
    rw [q3] at hA
    cases hA
    refine (gs a (List.mem_flatten.mpr ⟨_, q5, ha⟩)).imp (fun z => ?_) id
    obtain ⟨y, F, h1, h2, h3⟩ := C_in a z
    exact ⟨y, F, h1, h2, h3⟩
  · by_cases hy : i ∈ ysOf xs
    · exact absurd hi (mb i hy)
    · rw [setAll_out _ _ _ _ hy]
      exact en.nb i hi d
  · obtain ⟨y, F, h1, h2, h3⟩ := C_in b z
    exact nb (mem_fl h2 h3)
  · rcases p2 b hb with q | q
    · refine (gs b q).imp (fun z => ?_) id
      obtain ⟨y, F, h1, h2, h3⟩ := C_in b z
      exact mem_fl h2 h3
    · exact .inl (e2 b q).1
  · refine (p2 a ha).imp id fun q => ⟨(e2 a q).1, fun z => ?_⟩
    obtain ⟨y, F, h1, h2, h3⟩ := C_in a z
    exact (e2 a q).2 y h1 F h2 h3
end
end Mi

namespace Mi
open PySem PySem.Spec L2

/-! ### calls that change lists of ours -/
theorem AB.nodup {K : Fg} {H : Hp} {s : L2.St} {r : En} {O : List (List Addr)} {xs : List (Option Nat)} {vs : List V} {ds : List D} {Fs : List (List Addr)} (h : AB K s r O H xs vs ds Fs) (nd : O.flatten.Nodup) :
    (ysOf xs).Nodup → (pick (ioOf xs) Fs).flatten.Nodup ∧ ∀ a ∈ (pick (ioOf xs) Fs).flatten, ∃ y F, y ∈ ysOf xs ∧ O[y]? = some F ∧ a ∈ F := by
  induction h with
  | nil => intro _; exact ⟨by simp [ioOf, pick], fun a ha => by simp [ioOf, pick] at ha⟩
  | val _ _ _ ih => intro n; simpa [ysOf, ioOf, pick] using ih (by simpa [ysOf] using n)
  | @slot x v d F xs vs ds Fs h1 h2 h3 h4 _ ih =>
    intro n
    have n' : x ∉ ysOf xs ∧ (ysOf xs).Nodup := by simpa [ysOf] using n
    obtain ⟨i1, i2⟩ := ih n'.2
    have e : pick (ioOf (some x :: xs)) (F :: Fs) = F :: pick (ioOf xs) Fs := by simp [ioOf, pick]
    rw [e, List.flatten_cons]
    have ey : ysOf (some x :: xs) = x :: ysOf xs := by simp [ysOf]
    rw [ey]
    refine ⟨List.nodup_append.mpr ⟨fl_nd nd h3, i1, fun a ha b hb z => ?_⟩, fun a ha => ?_⟩
    · subst z
      obtain ⟨y, F', y1, y2, y3⟩ := i2 a hb
      exact fl_ne nd h3 y2 (fun z => n'.1 (by rw [z]; exact y1)) a ha y3
    · rcases List.mem_append.mp ha with ha | ha
      · exact ⟨x, F, List.mem_cons_self, h3, ha⟩
      · obtain ⟨y, F', y1, y2, y3⟩ := i2 a ha
        exact ⟨y, F', List.mem_cons_of_mem _ y1, y2, y3⟩
def ioCall (F : List D → FR) (g : En → ER (List D)) (xs : List (Option Nat)) (r : En) (k : D → En → SR) : SR := match g r with
  | .val ds => (match F ds with
    | .ret d outs => k d (setAll (ysOf xs) outs r)
    | _ => .stuck)
  | .exn c => .exn c r
  | .stuck => .stuck
def asgI (y : Nat) (F : List D → FR) (g : En → ER (List D)) (xs : List (Option Nat)) : En → SR := fun r => ioCall F g xs r fun d r' => .nx (r'.set y (some d))
def exprI (F : List D → FR) (g : En → ER (List D)) (xs : List (Option Nat)) : En → SR := fun r => ioCall F g xs r fun _ r' => .nx r'
/-- x.append(f(..)) -/
def appI (x : Nat) (F : List D → FR) (g : En → ER (List D)) (xs : List (Option Nat)) : En → SR := fun r => lstAt r x fun _ => ioCall F g xs r fun d r' => lstAt r' x fun l => if plain d && decide (l.length < LIM) then .nx (r'.set x (some (.list (l ++ [d])))) else .stuck
section
variable {X : Cx} {cl : Nat → Addr} {W : WX} {ms : List Md} {rk : Bool} {st : Stmt} {g : En → ER (List D)} {xs : List (Option Nat)} {F : List D → FR} {k n : Nat} {fa : Addr} {fd : FuncData} {ps : List Str} {x y : Nat} {e : Expr} {es : List Expr} {c : Str} {p pos : Pos}
theorem pe_io (hF : FnOk X.prog X.w X.K X.mg X.base (L2.CX X.prog X.w) k fa fd ps (spI X.K cl (ioOf xs) F)) (hr : Room k X.A) (hm : X.mg c = some (.ref fa)) (hk : PySem.W.keepIn X.K (.ref fa) = true) (hb : Binds X.K fd ps []) (tk : Takes X W) (ha : IB X cl W ms (e :: es) g xs) (hg : Gl X c := by rfl)
    (hdb : (c == ("__debug__" : Str)) = false := by decide) (he : starEach (e :: es) X.env = (false, eval e X.env) :: starEach es X.env := by rfl) (hpl : (backTo pos (starEach es X.env)).any (·.1) = false := by rfl) :
    PE X (.Call (.Name c p) (e :: es) [] pos) (tCallS (spI X.K cl (ioOf xs) F) (WE W) (canB X.K cl W ms g xs)) := pe_callS hF hr hg hm hk hb (fun s => passAt tk s) ha hdb he hpl
theorem io_go {s : L2.St} {H : Hp} {r : En} {O : List (List Addr)} {Og : Addr → Prop} (en : EnvS X.K H ms r s O Og) (nd : (ysOf xs).Nodup) (hm : ∀ y ∈ ysOf xs, ms[y]? = some .ow ∨ ms[y]? = some .io) {kk : D → En → SR} {Pp : En → Prop} {Rr : D → En → Prop} {Nn : Nat → En → Prop} (w : (ioCall F g xs r kk).ok Pp Rr Nn) (ex : ∀ c, Nn c r → Nx cl W s H c)
    {Q : VK} (fin : ∀ d outs v G B P, (kk d (setAll (ysOf xs) outs r)).ok Pp Rr Nn → EnvS X.K G ms (setAll (ysOf xs) outs r) s P Og → Trn ms s s H G O.flatten P.flatten → Rep X.K G v d B → (∀ a ∈ B, a ∉ P.flatten) → (∀ a ∈ B, Og a) → Q v G) :
    tCallS (spI X.K cl (ioOf xs) F) (WE W) (canB X.K cl W ms g xs) s H Q := by
  refine ⟨r, O, Og, en.env, ?_⟩
  unfold ioCall at w
  cases hg : g r with
  | stuck => rw [hg] at w; exact w
  | exn c => rw [hg] at w; exact ex c w
  | val ds =>
    rw [hg] at w
    intro vs Fs G p ab og
    obtain ⟨r1, r2, r3, r4, r5⟩ := ab.repP
    obtain ⟨n1, n2⟩ := ab.nodup en.env.nd nd
    have inO : ∀ a ∈ (pick (ioOf xs) Fs).flatten, a ∈ O.flatten := fun a ha => by
      obtain ⟨y, F', _, h2, h3⟩ := n2 a ha
      exact mem_fl h2 h3
    have en1 := en.same p
    refine ⟨ds, Fs, r2, r1, n1, fun a ha z => r3 a ha (inO a z), ?_⟩
    cases hf : F ds with
    | stuck => simp only [hf] at w; exact w.elim
    | exn c => simp only [hf] at w; exact w.elim
    | ret d outs =>
      simp only [hf] at w
      intro v J B Gs st dom rv rp gn gs bb
      obtain ⟨e2, t2, q2⟩ := en1.io ab nd hm st dom rp gn gs og
      have split : ∀ (b : List Bool) (L : List (List Addr)) a, b.length = L.length → a ∈ L.flatten → a ∈ (pick b L).flatten ∨ a ∈ (pick (b.map (!·)) L).flatten := fun b => by
        induction b with
        | nil => intro L a hl h; cases L with | nil => simp at h | cons _ _ => simp at hl
        | cons x b ih =>
          intro L a hl h
          cases L with
          | nil => simp at h
          | cons A L =>
            rw [List.flatten_cons, List.mem_append] at h
            cases x with
            | true =>
              simp only [pick, List.map_cons, Bool.not_true, List.flatten_cons, List.mem_append]
              rcases h with h | h
              · exact .inl (.inl h)
              · exact (ih L a (by simpa using hl) h).imp .inr id
            | false =>
              simp only [pick, List.map_cons, Bool.not_false, List.flatten_cons, List.mem_append]
              rcases h with h | h
              · exact .inr (.inl h)
              · exact (ih L a (by simpa using hl) h).imp id .inr
      refine fin d outs v J B _ w e2 ((Trn.same p).trans t2) rv (fun a ha z => ?_) fun a ha => ?_
      · obtain ⟨b1, b2⟩ := bb a ha
        rcases q2 a z with q | ⟨q, q'⟩
        · exact b2 q
        · rcases b1 with b1 | b1
          · rcases split (ioOf xs) Fs a (by rw [r1.len.2, r2]) b1 with y | y
            · exact q' y
            · exact r3 a y q
          · exact en1.env.old b1 q
      · rcases (bb a ha).1 with b1 | b1
        · exact og a b1
        · exact en1.env.fg a b1
theorem s_asgI (h : PS X st (tAsg (tCallS (spI X.K cl (ioOf xs) F) (WE W) (canB X.K cl W ms g xs)) (gName y))) (nd : (ysOf xs).Nodup) (hm : ∀ y ∈ ysOf xs, ms[y]? = some .ow ∨ ms[y]? = some .io) (hy : ms[y]? = some .sh) : IS X cl W ms rk st (asgI y F g xs) :=
  ps_imp h fun D s H ⟨r, O, Og, en, w⟩ => io_go en nd hm w (fun c n G p => n s G O (en.same p) (Trn.same p)) fun d outs v G B P w e2 t2 rv nb og =>
    w _ G P ⟨e2.env.put (.inr ⟨hy, nb⟩) rv og, e2.nb.set (by rw [hy]; decide)⟩ (t2.trans (Trn.put (Same.refl G) (by rw [hy]; decide)))
theorem s_exprI (h : PS X st (tDrop (tCallS (spI X.K cl (ioOf xs) F) (WE W) (canB X.K cl W ms g xs)))) (nd : (ysOf xs).Nodup) (hm : ∀ y ∈ ysOf xs, ms[y]? = some .ow ∨ ms[y]? = some .io) : IS X cl W ms rk st (exprI F g xs) :=
  ps_imp h fun D s H ⟨r, O, Og, en, w⟩ => io_go (Q := fun _ G => D.nx s G) en nd hm w (fun c n G p => n s G O (en.same p) (Trn.same p)) fun d outs v G B P w e2 t2 rv nb og => w s G P e2 t2
theorem s_appI (h : PS X st (tDrop (tBM X.K "list" rAppend (tVar x) (tCons (tCallS (spI X.K cl (ioOf xs) F) (WE W) (canB X.K cl W ms g xs)) tNil)))) (nd : (ysOf xs).Nodup) (hm : ∀ y ∈ ysOf xs, ms[y]? = some .ow ∨ ms[y]? = some .io) (hx : ms[x]? = some .ow ∨ ms[x]? = some .io) (nx : x ∉ ysOf xs) : IS X cl W ms rk st (appI x F g xs) :=
  ps_imp h fun D s H ⟨r, O, Og, en, w⟩ => by
    obtain ⟨l0, hl0, w⟩ := lstAt_ok w
    obtain ⟨a, vs, E, h1, h2, _⟩ := en.w0 hx hl0
    refine ⟨.ref a, h1, .inl ⟨rfl, vs, SqL.of h2⟩, ?_⟩
    refine io_go (Q := fun u G => tNil s G fun xs H2 => rAppend (.ref a) (u :: xs) H2 fun _ H1 => D.nx s H1) en nd hm w (fun c n G p => n s G O (en.same p) (Trn.same p)) fun d outs v G B P w e2 t2 rv nb og => ?_
    obtain ⟨l, hl, w⟩ := lstAt_ok w
    obtain ⟨a', vs', E', g1, g2, g3, g4, g5, g6, g7⟩ := e2.w0 hx hl
    rw [h1] at g1
    cases g1
    split at w
    · rename_i hc
      rw [Bool.and_eq_true, decide_eq_true_eq] at hc
      have hF := Rep.plain _ _ _ rv hc.1
      subst hF
      refine ⟨a, vs', v, rfl, rfl, g2, lt_line (by rw [g3.len]; exact hc.2), ?_⟩
      obtain ⟨t3, t4⟩ := g7 G (vs' ++ [v]) (l ++ [d]) E' (Same.refl G) (by
        have := (g3.app (.one rv)).off (us := vs' ++ [v]) g2 (by rw [List.append_nil]; exact g4)
        rwa [List.append_nil] at this) g5 g4 (fun c hc => .inl hc) g6
      exact w _ _ _ t3 (t2.trans t4)
    · exact w.elim
end

/-! ### a slot of one's own list of others' items -/
def dIdxL : D → D → Option D
  | .list l, .int i => dIdx (.list l) (.int i)
  | _, _ => none
section
variable {X : Cx} {cl : Nat → Addr} {W : WX} {ms : List Md} {b : Expr} {g : En → ER D} {kb : Kd} {x : Nat} {n : Str} {p pos : Pos}
/-- x[b] where the items of x aren't ours -/
theorem i_ix1 (hm : ms[x]? = some .o1) (hb : IE X cl W ms b g kb) (hs : PlainIx b := by exact fun _ _ => rfl) (hN : X.N[x]? = some n := by rfl) (hv : Vis X.env.scope n := by first | exact Or.inl rfl | exact Or.inr (Or.inl rfl) | exact Or.inr (Or.inr rfl)) (hd : (n == ("__debug__" : Str)) = false := by decide)
    (hcd : (n == ("__classdict__" : Str)) = false := by decide) : IE X cl W ms (.Subscript (.Name n p) b pos) (bi dIdxL (var x) g) .sh :=
  pe_imp (pe_ix ix_seq (pe_var hN hv hd hcd) hb hs) fun s H Q ⟨r, O, Og, e, w⟩ => by
    have w := ER.ok_bind w
    unfold var at w
    split at w
    · rename_i d hd'
      obtain ⟨v, F, m, Oi, h1, h2, h3, h4, h5, h6⟩ := e.sl x d hd'
      rw [hm] at h4
      cases h4
      obtain ⟨a, F', rfl, rfl, rfl, h7⟩ := h6
      refine ⟨.ref a, h1, ?_⟩
      show canE _ _ _ _ _ _ s H _
      refine one_ e w fun d2 u G F2 oq p r2 _ _ => ?_
      obtain ⟨z, hh, oz⟩ := ER.ok_of oq
      have h2' := h2.same p
      unfold dIdxL at hh
      split at hh
      · rename_i l i
        obtain ⟨a', vs, E, e1, g1, g2, e2⟩ := h2'.lstE
        cases e1
        cases e2
        cases r2
        obtain ⟨y, E', q1, q2, q3⟩ := atI_rep g2 hh
        exact .inl ⟨a, vs, i, y, rfl, rfl, SqL.of g1, q1, oz y G E' p q2 (fun c hc => h3 c (List.mem_cons_of_mem _ (q3.subset hc))) fun c hc => h7 c (q3.subset hc)⟩
      · cases hh
    · exact w.elim
end
end Mi

/-! Mini, part 15: the defs behind the top, the errors' classes, the law's end -/
namespace Mi
open PySem PySem.Spec L2

/-- a def behind the top, with its promise -/
structure Df (P : Program) (w : World) (K : Fg) (mg : Str → Option Value) (base : Heap) (x : Str) (ps : List Str) (k : Nat) (sp : Sp) : Prop where
  ex : ∃ (fa : Addr) (fd : FuncData), FnOk P w K mg base (L2.CX P w) k fa fd ps sp ∧ mg x = some (.ref fa) ∧ PySem.W.keepIn K (.ref fa) = true ∧ Binds K fd ps []
/-- a def's text behind the top -/
structure Gd (K : Fg) (mg : Str → Option Value) (x : Str) (st : Stmt) (ps : List Str) : Prop where
  ex : ∃ (fa : Addr) (fd : FuncData), Fun K x x st fa fd ∧ mg x = some (.ref fa) ∧ PySem.W.keepIn K (.ref fa) = true ∧ Binds K fd ps []
theorem gd_mk {K : Fg} {mg : Str → Option Value} {h : Heap} {x : Str} {st : Stmt} {ps : List Str} {f : Addr} {oc : Value} {od an : Option Addr} {osl : Array (Option Value)} {kV doc pm cdv ct : Value} (X : K.In h) (G : h.Ns mainGlobals mg)
    (a : PySem.W.nsIn K mainGlobals x = some (some (.ref f))) (l : K.lookup f = some ⟨oc, od, .func (PySem.W.fnOf x x (defArgs st) (defBody st) (defScope st) .none kV doc pm an cdv ct), osl⟩)
    (c : PySem.W.codeIn K cdv x = true) (k : PySem.W.keepIn K (.ref f) = true)
    (hb : ∀ (kV doc pm : Value) (an : Option Addr) (cdv ct : Value) (us : List Value), us.length = ps.length → bindArgs (PySem.W.fnOf x x (defArgs st) (defBody st) (defScope st) .none kV doc pm an cdv ct) ⟨us, []⟩ = pure (ps.zip us)) : Gd K mg x st ps :=
  ⟨f, _, fun_mk l c k, PySem.W.mg_of X G a, k, (fun_mk l c k).binds hb⟩
/-- an own class over ValueError -/
structure Ec (K : Fg) (mg : Str → Option Value) (x : Str) (C : Addr) : Prop where
  g : mg x = some (.ref C)
  q : PySem.W.excIn K C [.type "ValueError", .type "Exception", .type "BaseException", .type "object"] "ValueError.__new__" = true
  kp : PySem.W.keepIn K (.ref C) = true
  bP : PySem.W.subIn K (.ref C) (.type "BaseException") = some true
  tP : PySem.W.typeIn K (.ref C) = some (.type "type")
section
variable {P : Program} {w : World} {K : Fg} {mg : Str → Option Value} {base : Heap} {cl : Nat → Addr}
theorem df_N {x : Str} {st : Stmt} {N ps : List Str} {k : Nat} {ms : List Md} {rk : Bool} {b : En → SR} (g : Gd K mg x st ps) (S : FnScope N ps (defScope st)) (hN : ms.length = N.length) (hp : ps.length ≤ N.length) (hsh : ∀ i, i < ps.length → ms[i]? = some .sh) (hio : ms.all (· ≠ .io) = true)
    (hbody : ∀ (f : Addr) (cdv : Value) (A : Around) (outer : List Env) (s : Shared) (H : Hp) (E : XK), Room k (A.deeper (PyProof.Rows.envOfC x (defScope st) s.heap.objs.size f cdv)) →
      Takes (cxOf (L2.CX P w) P w K mg base N x (defScope st) f cdv A outer s H E) (fun c d _ H => E c d H) →
      PassesOwn (model P w) (A.deeper (PyProof.Rows.envOfC x (defScope st) s.heap.objs.size f cdv)) (PyProof.Rows.envOfC x (defScope st) s.heap.objs.size f cdv) (cxOf (L2.CX P w) P w K mg base N x (defScope st) f cdv A outer s H E).xe →
      ISs (cxOf (L2.CX P w) P w K mg base N x (defScope st) f cdv A outer s H E) cl (fun c d _ H => E c d H) ms rk (defBody st) b) : Df P w K mg base x ps (k + 1) (spN K cl ps.length (runF N.length b) rk) := by
  obtain ⟨f, fd, F, h1, h2, h3⟩ := g.ex
  exact ⟨f, fd, fn_N F S hN hp hsh hio (fun cdv A outer s H E hr => hbody f cdv A outer s H E hr (takes_of rfl rfl rfl rfl) (passes_of rfl)), h1, h2, h3⟩
theorem df_I {x : Str} {st : Stmt} {N ps : List Str} {k : Nat} {ms : List Md} {io : List Bool} {b : En → SR} (g : Gd K mg x st ps) (S : FnScope N ps (defScope st)) (hN : ms.length = N.length) (hp : ps.length ≤ N.length) (hio : io.length = ps.length) (hms : ms = io.map mdOf ++ ms.drop io.length) (hms2 : (ms.drop io.length).all (· ≠ .io) = true)
    (hbody : ∀ (f : Addr) (cdv : Value) (A : Around) (outer : List Env) (s : Shared) (H : Hp) (E : XK), Room k (A.deeper (PyProof.Rows.envOfC x (defScope st) s.heap.objs.size f cdv)) →
      Takes (cxOf (L2.CX P w) P w K mg base N x (defScope st) f cdv A outer s H E) (fun c d _ H => E c d H) →
      PassesOwn (model P w) (A.deeper (PyProof.Rows.envOfC x (defScope st) s.heap.objs.size f cdv)) (PyProof.Rows.envOfC x (defScope st) s.heap.objs.size f cdv) (cxOf (L2.CX P w) P w K mg base N x (defScope st) f cdv A outer s H E).xe →
      ISs (cxOf (L2.CX P w) P w K mg base N x (defScope st) f cdv A outer s H E) cl (fun c d _ H => E c d H) ms false (defBody st) b) : Df P w K mg base x ps (k + 1) (spI K cl io (runI ms b)) := by
  obtain ⟨f, fd, F, h1, h2, h3⟩ := g.ex
  exact ⟨f, fd, fn_I F S hN hp hio hms hms2 (fun cdv A outer s H E hr => hbody f cdv A outer s H E hr (takes_of rfl rfl rfl rfl) (passes_of rfl)), h1, h2, h3⟩
end
section
variable {X : Cx} {cl : Nat → Addr} {W : WX} {ms : List Md} {e : Expr} {es : List Expr} {g : En → ER (List D)} {ka : Kd} {k n : Nat} {ps : List Str} {F : List D → FR} {rk : Bool} {x : Str} {p pos : Pos} {xs : List (Option Nat)} {y : Nat}
/-- a call of a def that changes nothing of ours -/
theorem i_callD (d : Df X.prog X.w X.K X.mg X.base x ps k (spN X.K cl n F rk)) (hr : Room k X.A) (tk : Takes X W)
    (ha : IA X cl W ms (e :: es) g ka) (hn : ∀ r ds, g r = .val ds → ds.length = n) (hg : Gl X x := by rfl) (hdb : (x == ("__debug__" : Str)) = false := by decide) (he : starEach (e :: es) X.env = (false, eval e X.env) :: starEach es X.env := by rfl) (hpl : (backTo pos (starEach es X.env)).any (·.1) = false := by rfl) :
    IE X cl W ms (.Call (.Name x p) (e :: es) [] pos) (callF F g) (Kd.res rk ka) := by
  obtain ⟨fa, fd, hF, hm, hk, hb⟩ := d.ex
  exact i_call hF hr hm hk hb tk ha hn hg hdb he hpl
theorem pe_ioD (d : Df X.prog X.w X.K X.mg X.base x ps k (spI X.K cl (ioOf xs) F)) (hr : Room k X.A) (tk : Takes X W) (ha : IB X cl W ms (e :: es) g xs) (hg : Gl X x := by rfl)
    (hdb : (x == ("__debug__" : Str)) = false := by decide) (he : starEach (e :: es) X.env = (false, eval e X.env) :: starEach es X.env := by rfl) (hpl : (backTo pos (starEach es X.env)).any (·.1) = false := by rfl) :
    PE X (.Call (.Name x p) (e :: es) [] pos) (tCallS (spI X.K cl (ioOf xs) F) (WE W) (canB X.K cl W ms g xs)) := by
  obtain ⟨fa, fd, hF, hm, hk, hb⟩ := d.ex
  exact pe_io hF hr hm hk hb tk ha hg hdb he hpl
theorem s_raiseC {C : Nat} {m : Str} {j : Nat} {p2 pos' : Pos} (E : Ec X.K X.mg x (cl C)) (hc : X.calm = true) (tk : Takes X W) (hg : Gl X x := by rfl) (hdb : (x == ("__debug__" : Str)) = false := by decide) :
    IS X cl W ms rk (.Raise (some (.Call (.Name x p) [.Constant (.str m) j p2] [] pos)) none pos') (raiseS C) :=
  s_raise hc tk (pmk_own PySem.F.excBase_ValueError E.q E.g E.kp (raises_own E.bP E.tP) hg hdb)

/-! methods of lists -/
variable {te : TE} {ti : TE} {a i : Expr} {nm : Str} {pa pn : Pos}
theorem h_app (hx : PE X a ti) (he : PE X e te) (hbase : attributeBase a "append" X.env (eval a X.env) = eval a X.env := by rfl)
    (hfew : ((backTo pos (starEach [e] X.env)).all (fun x => !x.1) && (backToKw pos (keywordEach [] X.env)).all (fun x => x.1.isSome)
      && decide (([e] : List Expr).length + ([] : List Keyword).length + (if ([] : List Keyword).isEmpty then 0 else 1) < 30)) = true := by rfl)
    (hline : (pa.endLine == pos.line) = true := by rfl) (hs : starEach [e] X.env = (false, eval e X.env) :: starEach [] X.env := by rfl) (hplain : (backTo pos (starEach [] X.env)).any (·.1) = false := by rfl)
    (hsw : swapsWith (.Call (.Attribute a "append" pa) [e] [] pos) none p.line X.env = pure false := by rfl) :
    PS X (.Expr (.Call (.Attribute a "append" pa) [e] [] pos) p) (tDrop (tBM X.K "list" rAppend ti (tCons te tNil))) :=
  ps_expr (pe_bm PySem.F.plainAttrs_list PySem.F.slot_list_append PySem.F.type_list_append mt_append hx (pa_cons he pa_nil hs) hbase hfew hline hs hplain) hsw
theorem h_ext (hx : PE X a ti) (he : PE X e te) (hbase : attributeBase a "extend" X.env (eval a X.env) = eval a X.env := by rfl)
    (hfew : ((backTo pos (starEach [e] X.env)).all (fun x => !x.1) && (backToKw pos (keywordEach [] X.env)).all (fun x => x.1.isSome)
      && decide (([e] : List Expr).length + ([] : List Keyword).length + (if ([] : List Keyword).isEmpty then 0 else 1) < 30)) = true := by rfl)
    (hline : (pa.endLine == pos.line) = true := by rfl) (hs : starEach [e] X.env = (false, eval e X.env) :: starEach [] X.env := by rfl) (hplain : (backTo pos (starEach [] X.env)).any (·.1) = false := by rfl)
    (hsw : swapsWith (.Call (.Attribute a "extend" pa) [e] [] pos) none p.line X.env = pure false := by rfl) :
    PS X (.Expr (.Call (.Attribute a "extend" pa) [e] [] pos) p) (tDrop (tBM X.K "list" (rExtD X.K) ti (tCons te tNil))) :=
  ps_expr (pe_bm PySem.F.plainAttrs_list PySem.F.slot_list_extend PySem.F.type_list_extend mt_extD hx (pa_cons he pa_nil hs) hbase hfew hline hs hplain) hsw
theorem h_pop (hx : PE X a ti) (hbase : attributeBase a "pop" X.env (eval a X.env) = eval a X.env := by rfl) (hline : (pa.endLine == pos.line) = true := by rfl) : PE X (.Call (.Attribute a "pop" pa) [] [] pos) (tBM0 X.K "list" rPop ti) :=
  pe_bm0 PySem.F.plainAttrs_list PySem.F.slot_list_pop PySem.F.type_list_pop mt_pop hx hbase hline
theorem h_popAt (hx : PE X a ti) (he : PE X e te) (hbase : attributeBase a "pop" X.env (eval a X.env) = eval a X.env := by rfl)
    (hfew : ((backTo pos (starEach [e] X.env)).all (fun x => !x.1) && (backToKw pos (keywordEach [] X.env)).all (fun x => x.1.isSome)
      && decide (([e] : List Expr).length + ([] : List Keyword).length + (if ([] : List Keyword).isEmpty then 0 else 1) < 30)) = true := by rfl)
    (hline : (pa.endLine == pos.line) = true := by rfl) (hs : starEach [e] X.env = (false, eval e X.env) :: starEach [] X.env := by rfl) (hplain : (backTo pos (starEach [] X.env)).any (·.1) = false := by rfl) :
    PE X (.Call (.Attribute a "pop" pa) [e] [] pos) (tBM X.K "list" rPopAt ti (tCons te tNil)) :=
  pe_bm PySem.F.plainAttrs_list PySem.F.slot_list_pop PySem.F.type_list_pop mt_popAt hx (pa_cons he pa_nil hs) hbase hfew hline hs hplain
end

/-! the law's end -/
def spLaw (K : Fg) : Sp := fun vs H Q _ => ∃ (a : Addr) (ns : List Int), vs = [.ref a] ∧ ExL K H a (ns.map V.int) ∧ ns.length ≤ 63 ∧ ∀ H', Q (.bl true) H'
theorem law_imp {K : Fg} {cl : Nat → Addr} {F : List D → FR} {rk : Bool} (hF : ∀ ns : List Int, ns.length ≤ 63 → F [lck ns] = .ret (.bool true) []) : ∀ vs H Q E, spLaw K vs H Q E → spN K cl 1 F rk vs H Q E := fun vs H Q E ⟨a, ns, e, h, hl, q⟩ => by
  subst e
  refine ⟨[lck ns], [], rfl, .one (.ext h), ?_⟩
  rw [hF ns hl]
  intro v G B _ rv _
  cases rv
  exact q G
theorem exl_of {K : Fg} {H : Hp} {a : Addr} {xs : List V} (o : Only H) (h : SqL K H a xs) : ExL K H a xs := by
  refine ⟨h, fun G q => ?_⟩
  rcases h with (h | ⟨u, h⟩) | h
  · rcases o a with z | ⟨o, y, z⟩ <;> rw [h] at z <;> cases z
  · exact .inl (.inr ⟨u, q _ _ _ h⟩)
  · exact .inr h
theorem walk {l : PySem.W.OpenLaw} {k : Nat} {q : Program} {loose : List Str} {XP : (Str → Option Value) → Heap → Prop} {YP : World → Heap → Prop} {d : DefRec} {K : Params → Fg} {x : Str} (hn : l.most = some 63) (hdf : d.params.defaults = []) (hr : Room k callerA)
    (hY : ∀ (w : World) (h : Heap), YP w h → (K w.params).In h)
    (F : ∀ (w : World) (mg : Str → Option Value) (fa : Addr) (h : Heap), (K w.params).In h → h.Ns mainGlobals mg → mg d.name = some (.ref fa) →
      ∃ fd : FuncData, (∀ (s : Shared) (u : Value), BindsTo s fd ⟨[u], []⟩ [(x, u)]) ∧
        ∀ base : Heap, (K w.params).In base → base.Ns mainGlobals mg → FnOk l.prog w (K w.params) mg base (L2.CX l.prog w) k fa fd [x] (spLaw (K w.params))) :
    PySem.W.WalkO q loose XP YP l.row.toRowW d [] (fun f vs => PySem.call f vs) :=
  L2.walk_of (n := 63) (k := k) (x := x) (CX := fun w => L2.CX l.prog w) (sp := fun w => spLaw (K w.params)) hn (by decide) hdf hr hY F (fun _ H a ns hl o hS => ⟨a, ns, rfl, exl_of o hS, hl, fun _ => rfl⟩) fun w H s e s' ⟨_, _, _, _, _, _, _, _, _, _, _, _, z⟩ => z
end Mi

/-! Mini, part 16: small words for the printed derivations -/
namespace Mi
open PySem PySem.Spec L2
/-- told to be plain -/
def plainE (f : En → ER D) : En → ER D := fun r => (f r).bind fun d => if plain d then .val d else .stuck
/-- a list of plain items -/
def plain1 (f : En → ER D) : En → ER D := fun r => (f r).bind fun d => match d with
  | .list l => if plainL l then .val (.list l) else .stuck
  | _ => .stuck
def arIs (n : Nat) (g : En → ER (List D)) : Prop := ∀ r ds, g r = .val ds → ds.length = n
theorem lenN : arIs 0 anil := fun r ds h => by cases h; rfl
theorem lenC {n : Nat} {f : En → ER D} {g : En → ER (List D)} (h : arIs n g) : arIs (n + 1) (acons f g) := fun r ds e => by
  unfold acons at e
  cases hf : f r with
  | stuck => rw [hf] at e; cases e
  | exn c => rw [hf] at e; cases e
  | val d =>
    rw [hf] at e
    cases hg : g r with
    | stuck => rw [ER.bind_val, hg] at e; cases e
    | exn c => rw [ER.bind_val, hg] at e; cases e
    | val es =>
      rw [ER.bind_val, hg] at e
      cases e
      rw [List.length_cons, h r es hg]
section
variable {X : Cx} {cl : Nat → Addr} {W : WX} {ms : List Md} {a : Expr} {f : En → ER D} {k : Kd} {rk : Bool} {x i : Nat} {n y : Str} {p pos pos' : Pos} {te : TE}
theorem p_var (hN : X.N[x]? = some n := by rfl) (hv : Vis X.env.scope n := by first | exact Or.inl rfl | exact Or.inr (Or.inl rfl) | exact Or.inr (Or.inr rfl)) (hd : (n == ("__debug__" : Str)) = false := by decide) (hcd : (n == ("__classdict__" : Str)) = false := by decide) : PE X (.Name n p) (tVar x) := pe_var hN hv hd hcd
theorem p_set (hN : X.N.Nodup) (he : PE X a te) (hi : X.N[i]? = some y := by rfl) (hx : Loc X.env.scope y := by first | exact Or.inl rfl | exact Or.inr rfl) (hs : swapsWith a (some (.Name y pos')) pos.line X.env = pure false := by rfl) (hf : X.fn y = true ∨ X.env.scope.names.lookup y = some .local := by first | exact .inl rfl | exact .inr rfl) :
    PS X (.Assign [.Name y pos'] a pos) (tAsg te (gName i)) := ps_set hN hi hx he hs hf
theorem p_name (hN : X.N.Nodup) (hi : X.N[i]? = some y := by rfl) (hx : Loc X.env.scope y := by first | exact Or.inl rfl | exact Or.inr rfl) (hf : X.fn y = true ∨ X.env.scope.names.lookup y = some .local := by first | exact .inl rfl | exact .inr rfl) : PG X (.Name y p) (gName i) := pg_name hN hi hx hf
theorem set1 (hN : X.N.Nodup) (h : IE X cl W ms a f k) (hi : X.N[i]? = some y := by rfl) (hx : Loc X.env.scope y := by first | exact Or.inl rfl | exact Or.inr rfl) (hs : swapsWith a (some (.Name y pos')) pos.line X.env = pure false := by rfl) (hf : X.fn y = true ∨ X.env.scope.names.lookup y = some .local := by first | exact .inl rfl | exact .inr rfl) :
    PS X (.Assign [.Name y pos'] a pos) (tAsg (canE X.K cl W ms f k) (gName i)) := ps_set hN hi hx h hs hf
theorem i_globE {x : Str} {i : Int} (hm : ∃ t, X.mg x = some (.int i t)) (hg : Gl X x := by rfl) (hd : (x == ("__debug__" : Str)) = false := by decide) : IE X cl W ms (.Name x pos) (cst (.int i)) .fr := by
  obtain ⟨t, h⟩ := hm
  exact i_glob h hg hd
theorem i_pl (h : IE X cl W ms a f k) : IE X cl W ms a (plainE f) .fr :=
  pe_imp h fun s H Q ⟨r, O, Og, e, w⟩ => ⟨r, O, Og, e, ER.ok_mono (ER.ok_bind w) (fun d _ o v G F q rv og kv => by
    split at o
    · rename_i hp
      have := Rep.plain _ _ _ rv hp
      subst this
      exact o v G [] q rv og (KOk.nil (by decide))
    · exact o.elim) fun _ z => z⟩
theorem i_pl1 (h : IE X cl W ms a f .f1) : IE X cl W ms a (plain1 f) .fr :=
  pe_imp h fun s H Q ⟨r, O, Og, e, w⟩ => ⟨r, O, Og, e, ER.ok_mono (ER.ok_bind w) (fun d _ o v G F q rv og kv => by
    split at o
    · rename_i l
      split at o
      · rename_i hp
        obtain ⟨a, vs, E, e1, g1, g2, e2⟩ := rv.lstE
        subst e1 e2
        have := RepL.plain _ _ _ g2 hp
        subst this
        obtain ⟨b, F', q1, q2, q3, _⟩ := kv
        cases q1
        exact o _ G [a] q rv og ⟨by simp, fun c hc => by rw [List.mem_singleton] at hc; rw [hc]; exact q3⟩
      · exact o.elim
    · exact o.elim) fun _ z => z⟩
theorem s_retO (hm : ms[x]? = some .ow) (hN : X.N[x]? = some n := by rfl) (hv : Vis X.env.scope n := by first | exact Or.inl rfl | exact Or.inr (Or.inl rfl) | exact Or.inr (Or.inr rfl)) (hd : (n == ("__debug__" : Str)) = false := by decide) (hcd : (n == ("__classdict__" : Str)) = false := by decide) :
    IS X cl W ms rk (.Return (some (.Name n p)) pos) (retS (var x)) :=
  ps_imp (ps_ret (pe_var hN hv hd hcd)) fun D s H ⟨r, O, Og, en, w⟩ => by
    unfold retS var at w
    split at w
    · rename_i d hd
      obtain ⟨v, F, h1, h2, h3, h4, h5⟩ := en.env.at_ hd (.inl hm)
      refine ⟨v, h1, w v s H O F en Trn.refl h2 h3 ⟨fun b hb z => ?_, fun _ => ⟨h5, fun b hb => .inr (mem_fl h4 hb)⟩⟩⟩
      unfold ioN at z
      rw [List.mem_flatten] at z
      obtain ⟨P, hP, hb2⟩ := z
      obtain ⟨⟨m, P2⟩, hm2, hP2⟩ := List.mem_map.mp hP
      dsimp only at hP2
      split at hP2
      · rename_i hio
        subst hP2 hio
        obtain ⟨j, hj, hjj⟩ := List.mem_iff_getElem.mp hm2
        rw [List.getElem_zip] at hjj
        injection hjj with q1 q2
        have hj1 : ms[j]? = some .io := by rw [List.getElem?_eq_getElem (by rw [List.length_zip] at hj; omega), q1]
        have hj2 : O[j]? = some P2 := by rw [List.getElem?_eq_getElem (by rw [List.length_zip] at hj; omega), q2]
        refine fl_ne en.env.nd h4 hj2 (fun z => ?_) b hb hb2
        rw [z, hj1] at hm
        cases hm
      · subst hP2
        cases hb2
    · exact w.elim
def dLstP (d : D) : Option D := match itemsOf d with
  | some l => if plainL l then some (.list l) else none
  | none => none
/-- list(x), the items plain -/
theorem i_listP {ka : Kd} (hm : X.mg "list" = none) (ha : IE X cl W ms a f ka) (hg : Gl X "list" := by rfl) (he : starEach [a] X.env = (false, eval a X.env) :: starEach [] X.env := by rfl) (hpl : (backTo pos (starEach [] X.env)).any (·.1) = false := by rfl) : IE X cl W ms (.Call (.Name "list" p) [a] [] pos) (un dLstP f) .fr :=
  pe_imp (pe_callTy call_list_of hg hm (by decide +kernel) (pa_cons ha pa_nil he) (by decide) (by decide) he hpl) fun s H Q ⟨r, O, Og, e, w⟩ => by
    show canE _ _ _ _ _ _ s H _
    refine one_ e w fun d v G F o q rv og kv => ?_
    obtain ⟨y, hh, o⟩ := ER.ok_of o
    unfold dLstP at hh
    split at hh
    · rename_i l hl
      split at hh
      · rename_i hp
        cases hh
        obtain ⟨b, ws, M, rfl, g1, g2, g3⟩ := itemsOf_rep hl rv
        have := RepL.plain _ _ _ g2 hp
        subst this
        refine ⟨b, ws, rfl, g1.imp SqL.of (fun q => q), fun c hc => ?_⟩
        exact o _ _ [c] (q.trans (Same.new hc)) (.lst upd_same (g2.same (Same.new hc))) (og_cons e (q.free hc) fun z hz => by cases hz) ⟨by simp, fun z hz => by rw [List.mem_singleton] at hz; rw [hz]; exact q.free hc⟩
      · cases hh
    · cases hh
end
end Mi

/-! Mini, part 17: how a reading is reckoned out (plain Lean) -/
namespace Mi
open PySem

/-! ### results -/
@[simp] theorem of_some {A : Type} (a : A) : ER.of (some a) = .val a := rfl
@[simp] theorem of_none {A : Type} : ER.of (none : Option A) = .stuck := rfl
def SR.next (a : SR) (g : En → SR) : SR := match a with
  | .nx r => g r
  | .ret d r => .ret d r
  | .exn c r => .exn c r
  | .stuck => .stuck
@[simp] theorem next_nx (r : En) (g : En → SR) : (SR.nx r).next g = g r := rfl
@[simp] theorem next_ret (d : D) (r : En) (g : En → SR) : (SR.ret d r).next g = .ret d r := rfl
@[simp] theorem next_exn (c : Nat) (r : En) (g : En → SR) : (SR.exn c r).next g = .exn c r := rfl
@[simp] theorem next_stuck (g : En → SR) : (SR.stuck).next g = .stuck := rfl
@[simp] theorem next_ite {c : Prop} [Decidable c] (a b : SR) (g : En → SR) : (if c then a else b).next g = if c then a.next g else b.next g := by split <;> rfl
@[simp] theorem bind_ite {A B : Type} {c : Prop} [Decidable c] (a b : ER A) (f : A → ER B) : (if c then a else b).bind f = if c then a.bind f else b.bind f := by split <;> rfl
@[simp] theorem toS_ite {c : Prop} [Decidable c] (a b : ER D) (r : En) (f : D → SR) : (if c then a else b).toS r f = if c then a.toS r f else b.toS r f := by split <;> rfl
def SR.fin (a : SR) : FR := match a with
  | .stuck => .stuck
  | .nx _ => .ret .none []
  | .ret d _ => .ret d []
  | .exn c _ => .exn c
@[simp] theorem fin_nx (r : En) : (SR.nx r).fin = .ret .none [] := rfl
@[simp] theorem fin_ret (d : D) (r : En) : (SR.ret d r).fin = .ret d [] := rfl
@[simp] theorem fin_exn (c : Nat) (r : En) : (SR.exn c r).fin = .exn c := rfl
@[simp] theorem fin_stuck : (SR.stuck).fin = .stuck := rfl
@[simp] theorem fin_ite {c : Prop} [Decidable c] (a b : SR) : (if c then a else b).fin = if c then a.fin else b.fin := by split <;> rfl
theorem runF_eq (n : Nat) (b : En → SR) (ds : List D) : runF n b ds = (b (ds.map some ++ List.replicate (n - ds.length) none)).fin := by
  unfold runF
  cases b (ds.map some ++ List.replicate (n - ds.length) none) <;> rfl
def SR.finI (ms : List Md) (a : SR) : FR := match a with
  | .stuck => .stuck
  | .nx r => (match outsOf ms r with | some o => .ret .none o | none => .stuck)
  | .ret d r => (match outsOf ms r with | some o => .ret d o | none => .stuck)
  | .exn _ _ => .stuck
theorem runI_eq (ms : List Md) (b : En → SR) (ds : List D) : runI ms b ds = (b (ds.map some ++ List.replicate (ms.length - ds.length) none)).finI ms := by
  unfold runI
  cases b (ds.map some ++ List.replicate (ms.length - ds.length) none) <;> rfl
@[simp] theorem er_ret (d : D) (o : List D) : (FR.ret d o).er = .val d := rfl
@[simp] theorem er_exn (c : Nat) : (FR.exn c).er = .exn c := rfl
@[simp] theorem er_stuck : (FR.stuck).er = .stuck := rfl

/-! ### expressions -/
section
variable (f g : En → ER D) (h : D → D → Option D) (u : D → Option D) (r : En) (a : En → ER (List D))
def optER : Option (Option D) → ER D
  | some (some d) => .val d
  | _ => .stuck
@[simp] theorem var_at (i : Nat) : var i r = optER r[i]? := by
  unfold var
  generalize r[i]? = o
  match o with
  | none => rfl
  | some none => rfl
  | some (some d) => rfl
@[simp] theorem optER_some (d : D) : optER (some (some d)) = .val d := rfl
@[simp] theorem bi_at : bi h f g r = (f r).bind fun a => (g r).bind fun b => .of (h a b) := rfl
@[simp] theorem un_at : un u f r = (f r).bind fun a => .of (u a) := rfl
@[simp] theorem cst_at (d : D) : cst d r = .val d := rfl
@[simp] theorem anil_at : anil r = .val [] := rfl
@[simp] theorem acons_at : acons f a r = (f r).bind fun d => (a r).bind fun ds => .val (d :: ds) := rfl
@[simp] theorem ltup_at : ltup a r = (a r).bind fun ds => .of (if ds.length ≤ LIM then some (.tuple ds) else none) := rfl
@[simp] theorem llst_at : llst a r = (a r).bind fun ds => .of (if ds.length ≤ LIM then some (.list ds) else none) := rfl
@[simp] theorem callF_at (F : List D → FR) : callF F a r = (a r).bind fun ds => (F ds).er := rfl
def tandK (d : D) (x : ER D) : ER D := match d with
  | .bool true => x
  | .bool false => .val (.bool false)
  | _ => .stuck
def torK (d : D) (x : ER D) : ER D := match d with
  | .bool true => .val (.bool true)
  | .bool false => x
  | _ => .stuck
@[simp] theorem tand_at : tand f g r = (f r).bind fun d => tandK d (g r) := rfl
@[simp] theorem tor_at : tor f g r = (f r).bind fun d => torK d (g r) := rfl
@[simp] theorem tandK_b (b : Bool) (x : ER D) : tandK (.bool b) x = if b = true then x else .val (.bool false) := by cases b <;> rfl
@[simp] theorem torK_b (b : Bool) (x : ER D) : torK (.bool b) x = if b = true then .val (.bool true) else x := by cases b <;> rfl
@[simp] theorem its_at : its f r = (f r).bind seqOf := rfl
@[simp] theorem seqOf_l (l : List D) : seqOf (.list l) = .val l := rfl
@[simp] theorem seqOf_t (l : List D) : seqOf (.tuple l) = .val l := rfl
@[simp] theorem rng1_at : rng1 a r = (a r).bind fun ds => .of (dRng1 ds) := rfl
@[simp] theorem rng2_at : rng2 a r = (a r).bind fun ds => .of (dRng2 ds) := rfl
@[simp] theorem plainE_at : plainE f r = (f r).bind fun d => if plain d then .val d else .stuck := rfl
theorem plain1_at : plain1 f r = (f r).bind fun d => match d with
  | .list l => if plainL l then .val (.list l) else .stuck
  | _ => .stuck := rfl
@[simp] theorem osome_at : osome f r = (f r).bind fun d => match d with | .int i => .val (some i) | _ => .stuck := by
  unfold osome
  cases f r with
  | val d => cases d <;> rfl
  | _ => rfl
@[simp] theorem onone_at : onone r = .val none := rfl
@[simp] theorem sl_at (q : D → Option Int → Option Int → Option D) (lo hi : En → ER (Option Int)) : sl q f lo hi r = (f r).bind fun d => (lo r).bind fun x => (hi r).bind fun y => .of (q d x y) := rfl
end

/-! ### statements -/
section
variable (f g : En → SR) (t e : En → ER D) (r : En)
@[simp] theorem seq_at : seq f g r = (f r).next g := by
  unfold seq
  cases f r <;> rfl
@[simp] theorem skip_at : skip r = .nx r := rfl
def ifK (d : D) (x y : SR) : SR := match d with
  | .bool true => x
  | .bool false => y
  | _ => .stuck
@[simp] theorem ifS_at : ifS t f g r = (t r).toS r fun d => ifK d (f r) (g r) := by
  unfold ifS
  cases t r with
  | val d => cases d with | bool b => cases b <;> rfl | _ => rfl
  | _ => rfl
@[simp] theorem ifK_b (b : Bool) (x y : SR) : ifK (.bool b) x y = if b = true then x else y := by cases b <;> rfl
@[simp] theorem retS_at : retS e r = (e r).toS r fun d => .ret d r := rfl
@[simp] theorem exprS_at : exprS e r = (e r).toS r fun _ => .nx r := rfl
@[simp] theorem asg_at (x : Nat) : asg x e r = (e r).toS r fun d => .nx (r.set x (some d)) := rfl
@[simp] theorem asgP_at (x : Nat) : asgP x e r = (e r).toS r fun d => if plain d then .nx (r.set x (some d)) else .stuck := rfl
@[simp] theorem raiseS_at (c : Nat) : raiseS c r = .exn c r := rfl
theorem forS_at (x : Nat) (i : En → ER (List D)) (b : En → SR) : forS x i b r = match i r with | .stuck => .stuck | .val ds => forL x b ds r | .exn c => .exn c r := rfl
theorem forS_val {x : Nat} {i : En → ER (List D)} {b : En → SR} {r : En} {ds : List D} (h : i r = .val ds) : forS x i b r = forL x b ds r := by
  unfold forS
  rw [h]
@[simp] theorem forL_nil (x : Nat) (b : En → SR) : forL x b [] r = .nx r := rfl
theorem forL_cons (x : Nat) (b : En → SR) (d : D) (ds : List D) : forL x b (d :: ds) r = (b (r.set x (some d))).next (forL x b ds) := by
  show (match b (r.set x (some d)) with | .nx r' => forL x b ds r' | a => a) = _
  cases b (r.set x (some d)) <;> rfl
theorem whileS_at (b : En → SR) : whileS t b r = whileL t b FUEL r := rfl
theorem while_tt (b : En → SR) (n : Nat) (h : t r = .val (.bool true)) : whileL t b (n + 1) r = (b r).next (whileL t b n) := by
  show (t r).toS r _ = _
  rw [h]
  show (match b r with | .nx r' => whileL t b n r' | a => a) = _
  cases b r <;> rfl
theorem while_ff (b : En → SR) (n : Nat) (h : t r = .val (.bool false)) : whileL t b (n + 1) r = .nx r := by
  show (t r).toS r _ = _
  rw [h]
  rfl
end
theorem lstAt_at {r : En} {x : Nat} {l : List D} {f : List D → SR} (h : r[x]? = some (some (.list l))) : lstAt r x f = f l := by
  unfold lstAt
  rw [h]

/-! ### operations -/
section
variable (i j : Int)
@[simp] theorem dGt_i : dGt (.int i) (.int j) = some (.bool (decide (j < i))) := rfl
@[simp] theorem dLt_i : dLt (.int i) (.int j) = some (.bool (decide (i < j))) := rfl
@[simp] theorem dLe_i : dLe (.int i) (.int j) = some (.bool (decide (i ≤ j))) := rfl
@[simp] theorem dGe_i : dGe (.int i) (.int j) = some (.bool (decide (j ≤ i))) := rfl
@[simp] theorem dSub_i : dSub (.int i) (.int j) = some (.int (i - j)) := rfl
@[simp] theorem dAdd_i : dAdd (.int i) (.int j) = some (.int (i + j)) := rfl
@[simp] theorem dNeg_i : dNeg (.int i) = some (.int (-i)) := rfl
theorem dMul_i (h : small i = true ∨ small j = true) : dMul (.int i) (.int j) = some (.int (i * j)) := by
  show (if (small i || small j) = true then _ else _) = _
  rw [if_pos (by simpa using h)]
theorem dMod_i (h : j ≠ 0) : dMod (.int i) (.int j) = some (.int (i.fmod j)) := by
  show (if j = 0 then _ else _) = _
  rw [if_neg h]
@[simp] theorem dNo_b (b : Bool) : dNo (.bool b) = some (.bool (!b)) := rfl
@[simp] theorem dLen_l (l : List D) : dLen (.list l) = some (.int l.length) := rfl
@[simp] theorem dLen_t (l : List D) : dLen (.tuple l) = some (.int l.length) := rfl
@[simp] theorem dLen_lck (ns : List Int) : dLen (lck ns) = some (.int ns.length) := by
  show (if isDc (lck ns) = true then none else some (PyData.int (ns.map fun i => ((.none : D), (.int i : D))).length)) = _
  rw [isDc_lck, if_neg (by decide), List.length_map]
@[simp] theorem dTup_l (l : List D) : dTup (.list l) = some (.tuple l) := rfl
@[simp] theorem dTup_t (l : List D) : dTup (.tuple l) = some (.tuple l) := rfl
@[simp] theorem dLst_l (l : List D) : dLst (.list l) = some (.list l) := rfl
@[simp] theorem dLst_t (l : List D) : dLst (.tuple l) = some (.list l) := rfl
@[simp] theorem dAdd_t (a b : List D) : dAdd (.tuple a) (.tuple b) = if a.length + b.length ≤ LIM then some (.tuple (a ++ b)) else none := rfl
@[simp] theorem dIsi_at (T : Ty) (d : D) : dIsi T d = some (.bool (isT T d)) := rfl
end
@[simp] theorem isT_ii (i : Int) : isT .int (.int i) = true := rfl
@[simp] theorem isT_bi (i : Int) : isT .bool (.int i) = false := rfl
@[simp] theorem isT_ti (i : Int) : isT .tuple (.int i) = false := rfl
@[simp] theorem isT_tt (l : List D) : isT .tuple (.tuple l) = true := rfl
@[simp] theorem isT_tl (l : List D) : isT .tuple (.list l) = false := rfl
@[simp] theorem isT_ll (l : List D) : isT .list (.list l) = true := rfl
@[simp] theorem isT_lt (l : List D) : isT .list (.tuple l) = false := rfl
@[simp] theorem isT_it (l : List D) : isT .int (.tuple l) = false := rfl
@[simp] theorem isT_il (l : List D) : isT .int (.list l) = false := rfl

/-! ### data -/
abbrev iT (l : List Int) : D := .tuple (l.map .int)
abbrev iL (l : List Int) : D := .list (l.map .int)
abbrev bT (T : List (List Int)) : D := .tuple (T.map iT)
abbrev bL (T : List (List Int)) : D := .list (T.map iL)
theorem atI_nat {A : Type} (l : List A) (k : Nat) : L2.atI l (k : Int) = l[k]? := by
  unfold L2.atI L2.ixN
  rw [if_pos (by omega)]
  by_cases h : k < l.length
  · rw [if_pos (by omega)]
    simp
  · rw [if_neg (by omega)]
    simp
    omega
theorem atI_neg {A : Type} (l : List A) (k : Nat) (h1 : 1 ≤ k) (h2 : k ≤ l.length) : L2.atI l (-(k : Int)) = l[l.length - k]? := by
  unfold L2.atI L2.ixN
  rw [if_neg (by omega), if_pos (by omega)]
  simp only [Option.bind_some]
  congr 1
  omega
theorem dIdx_l (l : List D) (k : Nat) : dIdx (.list l) (.int (k : Int)) = l[k]? := atI_nat l k
theorem dIdx_t (l : List D) (k : Nat) : dIdx (.tuple l) (.int (k : Int)) = l[k]? := atI_nat l k
@[simp] theorem dIdx_l0 (a : D) (l : List D) : dIdx (.list (a :: l)) (.int 0) = some a := dIdx_l (a :: l) 0
@[simp] theorem dIdx_t0 (a : D) (l : List D) : dIdx (.tuple (a :: l)) (.int 0) = some a := dIdx_t (a :: l) 0
@[simp] theorem dIdx_t1 (a b : D) (l : List D) : dIdx (.tuple (a :: b :: l)) (.int 1) = some b := dIdx_t (a :: b :: l) 1
theorem ixN_nat {n k : Nat} (h : k < n) : L2.ixN n (k : Int) = some k := by
  unfold L2.ixN
  rw [if_pos (by omega), if_pos (by omega)]
  simp
theorem okR_nat {n : Nat} (h : n ≤ 100000) : okR (n : Int) = true := by
  unfold okR
  exact decide_eq_true (by omega)
theorem dRng1_nat {n : Nat} (h : n ≤ 100000) : dRng1 [.int (n : Int)] = some (ids 0 n) := by
  show (if okR (n : Int) then some (ids 0 (n : Int).toNat) else none) = _
  rw [if_pos (okR_nat h)]
  rfl
theorem ids_succ (lo : Int) (n : Nat) : ids lo (n + 1) = .int lo :: ids (lo + 1) n := by
  unfold ids
  rw [List.range_succ_eq_map, List.map_cons, List.map_map]
  congr 1
  · simp
  · apply List.map_congr_left
    intro a _
    simp only [Function.comp]
    congr 1
    omega
@[simp] theorem ids_zero (lo : Int) : ids lo 0 = [] := rfl

/-! ### equality of data -/
mutual
/-- no truth value, no table within; depth at most n -/
def nb : Nat → D → Prop
  | _, .none => True
  | _, .bool _ => False
  | _, .int _ => True
  | _, .str _ => False
  | 0, .list _ => False
  | n + 1, .list l => nbL n l
  | 0, .tuple _ => False
  | n + 1, .tuple l => nbL n l
  | _, .dict _ => False
def nbL : Nat → List D → Prop
  | _, [] => True
  | n, x :: l => nb n x ∧ nbL n l
end
@[simp] theorem nb_none (n : Nat) : nb n .none := by unfold nb; trivial
@[simp] theorem nb_int (n : Nat) (i : Int) : nb n (.int i) := by unfold nb; trivial
@[simp] theorem nb_list (n : Nat) (l : List D) : nb (n + 1) (.list l) ↔ nbL n l := by rw [nb]
@[simp] theorem nb_tuple (n : Nat) (l : List D) : nb (n + 1) (.tuple l) ↔ nbL n l := by rw [nb]
theorem nbL_iff {n : Nat} {l : List D} : nbL n l ↔ ∀ x ∈ l, nb n x := by
  induction l with
  | nil => simp [nbL]
  | cons a l ih => simp [nbL, ih]
mutual
theorem nb_lay : ∀ (n : Nat) (d : D), nb n d → d.canLay0 = true ∧ d.depth ≤ n
  | _, .none, _ => ⟨rfl, by show PyData.depth .none ≤ _; rw [PyData.depth]; omega⟩
  | _, .bool _, h => by unfold nb at h; exact h.elim
  | _, .int _, _ => ⟨rfl, by show PyData.depth (.int _) ≤ _; rw [PyData.depth]; omega⟩
  | _, .str _, h => by unfold nb at h; exact h.elim
  | 0, .list _, h => by unfold nb at h; exact h.elim
  | n + 1, .list l, h => by
    rw [nb_list] at h
    obtain ⟨h1, h2⟩ := nbL_lay n l h
    exact ⟨by rw [PyData.canLay0]; exact h1, by rw [PyData.depth]; omega⟩
  | 0, .tuple _, h => by unfold nb at h; exact h.elim
  | n + 1, .tuple l, h => by
    rw [nb_tuple] at h
    obtain ⟨h1, h2⟩ := nbL_lay n l h
    exact ⟨by rw [PyData.canLay0]; exact h1, by rw [PyData.depth]; omega⟩
  | _, .dict _, h => by unfold nb at h; exact h.elim
theorem nbL_lay : ∀ (n : Nat) (l : List D), nbL n l → PyData.canLayAll0 l = true ∧ PyData.depthAll l ≤ n
  | _, [], _ => ⟨rfl, by rw [PyData.depthAll]; omega⟩
  | n, x :: l, h => by
    rw [nbL] at h
    obtain ⟨h1, h2⟩ := nb_lay n x h.1
    obtain ⟨h3, h4⟩ := nbL_lay n l h.2
    exact ⟨by rw [PyData.canLayAll0, h1, h3]; rfl, by rw [PyData.depthAll]; omega⟩
end
mutual
theorem eqv_iff : ∀ (n m : Nat) (a b : D), nb n a → nb m b → (PyData.eqv a b = true ↔ a = b)
  | n, m, .none, b, _, hb => by cases b <;> simp [PyData.eqv]
  | n, m, .int i, b, _, hb => by cases b <;> simp_all [PyData.eqv, nb]
  | n + 1, m, .list l, b, ha, hb => by
    cases b with
    | list k =>
      cases m with
      | zero => unfold nb at hb; exact hb.elim
      | succ m =>
        rw [nb_list] at ha hb
        rw [PyData.eqv, eqvAll_iff n m l k ha hb]
        simp
    | _ => simp [PyData.eqv]
  | n + 1, m, .tuple l, b, ha, hb => by
    cases b with
    | tuple k =>
      cases m with
      | zero => unfold nb at hb; exact hb.elim
      | succ m =>
        rw [nb_tuple] at ha hb
        rw [PyData.eqv, eqvAll_iff n m l k ha hb]
        simp
    | _ => simp [PyData.eqv]
  | _, _, .bool _, _, h, _ => by unfold nb at h; exact h.elim
  | _, _, .str _, _, h, _ => by unfold nb at h; exact h.elim
  | _, _, .dict _, _, h, _ => by unfold nb at h; exact h.elim
  | 0, _, .list _, _, h, _ => by unfold nb at h; exact h.elim
  | 0, _, .tuple _, _, h, _ => by unfold nb at h; exact h.elim
theorem eqvAll_iff : ∀ (n m : Nat) (a b : List D), nbL n a → nbL m b → (PyData.eqvAll a b = true ↔ a = b)
  | n, m, [], [], _, _ => by simp [PyData.eqvAll]
  | n, m, [], _ :: _, _, _ => by simp [PyData.eqvAll]
  | n, m, _ :: _, [], _, _ => by simp [PyData.eqvAll]
  | n, m, x :: a, y :: b, ha, hb => by
    rw [nbL] at ha hb
    rw [PyData.eqvAll, Bool.and_eq_true, eqv_iff n m x y ha.1 hb.1, eqvAll_iff n m a b ha.2 hb.2]
    simp
end
theorem nb_shaped {n : Nat} {d : D} (h : nb n d) (hn : n ≤ 64) : SeqAt.shaped d = true := by
  obtain ⟨h1, h2⟩ := nb_lay n d h
  unfold SeqAt.shaped
  rw [h1, Bool.true_and]
  exact decide_eq_true (by omega)
theorem dEqB_nb {n m : Nat} {a b : D} (ha : nb n a) (hb : nb m b) (hn : n ≤ 64) (hm : m ≤ 64) : dEqB a b = some (PyData.eqv a b) := by
  unfold dEqB
  split
  · rename_i ns
    unfold nb at ha
    exact ha.elim
  · rw [nb_shaped ha hn, nb_shaped hb hm]
    rfl
theorem dEq_yes {n : Nat} {a : D} (ha : nb n a) (hn : n ≤ 64 := by decide) : dEq a a = some (.bool true) := by
  unfold dEq
  rw [dEqB_nb ha ha hn hn, (eqv_iff n n a a ha ha).mpr rfl]
  rfl
theorem dEq_nb {n m : Nat} {a b : D} (ha : nb n a) (hb : nb m b) (hn : n ≤ 64 := by decide) (hm : m ≤ 64 := by decide) (c : Bool) (hc : c = true ↔ a = b) : dEq a b = some (.bool c) := by
  unfold dEq
  rw [dEqB_nb ha hb hn hm]
  have := eqv_iff n m a b ha hb
  have : PyData.eqv a b = c := by
    rw [Bool.eq_iff_iff, this, hc]
  rw [this]
  rfl
theorem dNe_nb {n m : Nat} {a b : D} (ha : nb n a) (hb : nb m b) (hn : n ≤ 64 := by decide) (hm : m ≤ 64 := by decide) (c : Bool) (hc : c = true ↔ a = b) : dNe a b = some (.bool !c) := by
  unfold dNe
  rw [dEqB_nb ha hb hn hm]
  have := eqv_iff n m a b ha hb
  have : PyData.eqv a b = c := by
    rw [Bool.eq_iff_iff, this, hc]
  rw [this]
  rfl
@[simp] theorem nbL_nil (n : Nat) : nbL n [] := by rw [nbL]; trivial
@[simp] theorem nbL_cons (n : Nat) (x : D) (l : List D) : nbL n (x :: l) ↔ nb n x ∧ nbL n l := by rw [nbL]
@[simp] theorem nbL_ints (n : Nat) (l : List Int) : nbL n (l.map .int) := nbL_iff.mpr fun x hx => by
  obtain ⟨i, _, rfl⟩ := List.mem_map.mp hx
  exact nb_int _ _
theorem nb_iT (n : Nat) (l : List Int) : nb (n + 1) (iT l) := by simp
theorem nb_iL (n : Nat) (l : List Int) : nb (n + 1) (iL l) := by simp
@[simp] theorem nbL_rows (n : Nat) (T : List (List Int)) : nbL (n + 1) (T.map iT) := nbL_iff.mpr fun x hx => by
  obtain ⟨i, _, rfl⟩ := List.mem_map.mp hx
  exact nb_iT _ _
@[simp] theorem nbL_rowsL (n : Nat) (T : List (List Int)) : nbL (n + 1) (T.map iL) := nbL_iff.mpr fun x hx => by
  obtain ⟨i, _, rfl⟩ := List.mem_map.mp hx
  exact nb_iL _ _
theorem map_int_inj {a b : List Int} : a.map PyData.int = b.map PyData.int ↔ a = b := by
  constructor
  · intro h
    have := congrArg dInts h
    rw [dInts_map, dInts_map] at this
    injection this
  · rintro rfl; rfl
theorem iT_inj {a b : List Int} : iT a = iT b ↔ a = b := by rw [PyData.tuple.injEq, map_int_inj]
theorem iL_inj {a b : List Int} : iL a = iL b ↔ a = b := by rw [PyData.list.injEq, map_int_inj]
theorem map_iT_inj : ∀ {S T : List (List Int)}, S.map iT = T.map iT ↔ S = T
  | [], [] => by simp
  | [], _ :: _ => by simp
  | _ :: _, [] => by simp
  | a :: S, b :: T => by rw [List.map_cons, List.map_cons, List.cons.injEq, List.cons.injEq, iT_inj, map_iT_inj]
theorem map_iL_inj : ∀ {S T : List (List Int)}, S.map iL = T.map iL ↔ S = T
  | [], [] => by simp
  | [], _ :: _ => by simp
  | _ :: _, [] => by simp
  | a :: S, b :: T => by rw [List.map_cons, List.map_cons, List.cons.injEq, List.cons.injEq, iL_inj, map_iL_inj]
theorem bT_inj {S T : List (List Int)} : bT S = bT T ↔ S = T := by rw [PyData.tuple.injEq, map_iT_inj]
theorem bL_inj {S T : List (List Int)} : bL S = bL T ↔ S = T := by rw [PyData.list.injEq, map_iL_inj]
@[simp] theorem dEq_i (i j : Int) : dEq (.int i) (.int j) = some (.bool (decide (i = j))) := dEq_nb (nb_int 0 i) (nb_int 0 j) (by decide) (by decide) _ (by simp)
@[simp] theorem dNe_i (i j : Int) : dNe (.int i) (.int j) = some (.bool (!decide (i = j))) := dNe_nb (nb_int 0 i) (nb_int 0 j) (by decide) (by decide) _ (by simp)
theorem dEq_iT (a b : List Int) : dEq (iT a) (iT b) = some (.bool (decide (a = b))) := dEq_nb (nb_iT 0 a) (nb_iT 0 b) (by decide) (by decide) _ (by rw [decide_eq_true_eq]; exact iT_inj.symm)
theorem dEq_iL (a b : List Int) : dEq (iL a) (iL b) = some (.bool (decide (a = b))) := dEq_nb (nb_iL 0 a) (nb_iL 0 b) (by decide) (by decide) _ (by rw [decide_eq_true_eq]; exact iL_inj.symm)
theorem dEq_bT (a b : List (List Int)) : dEq (bT a) (bT b) = some (.bool (decide (a = b))) := dEq_nb (n := 2) (m := 2) (by simp) (by simp) (by decide) (by decide) _ (by rw [decide_eq_true_eq]; exact bT_inj.symm)
theorem dEq_lck (ns : List Int) : dEq (lck ns) (.list []) = some (.bool (decide (ns = []))) := by
  unfold dEq dEqB lck
  cases ns <;> rfl
theorem lck_at (ns : List Int) (k : Nat) (h : k < ns.length) : dIdx (lck ns) (.int (k : Int)) = some (.int (ns.getD k 0)) := by
  show (if isDc (lck ns) = true then none else (L2.atI (ns.map fun i => (PyData.none, PyData.int i)) (k : Int)).map (·.2)) = _
  rw [isDc_lck, if_neg (by decide), atI_nat]
  simp [h]
end Mi

/-! Mini, part 18: loops and comprehensions reckoned out -/
namespace Mi
open PySem
theorem forL_find {x : Nat} {b : En → SR} {R : Option D → En} (hR : ∀ v d, (R v).set x (some d) = R (some d)) {p : D → Bool} {o : D → D} : ∀ (ds : List D) (v : Option D), (∀ d ∈ ds, b (R (some d)) = if p d = true then .ret (o d) (R (some d)) else .nx (R (some d))) →
    (∃ d ∈ ds, p d = true ∧ ds.find? p = some d ∧ forL x b ds (R v) = .ret (o d) (R (some d))) ∨ ((∀ d ∈ ds, p d = false) ∧ ∃ v', forL x b ds (R v) = .nx (R v'))
  | [], v, _ => .inr ⟨fun _ h => (nomatch h), v, rfl⟩
  | d :: ds, v, h => by
    have hd := h d List.mem_cons_self
    rw [forL_cons, hR, hd]
    by_cases hp : p d = true
    · rw [if_pos hp]
      exact .inl ⟨d, List.mem_cons_self, hp, by rw [List.find?_cons, hp], rfl⟩
    · rw [if_neg hp, next_nx]
      rcases forL_find hR ds (some d) (fun e he => h e (List.mem_cons_of_mem _ he)) with ⟨e, h1, h2, h3, h4⟩ | ⟨h1, h2⟩
      · exact .inl ⟨e, List.mem_cons_of_mem _ h1, h2, by rw [List.find?_cons, Bool.eq_false_iff.mpr hp]; exact h3, h4⟩
      · exact .inr ⟨fun e he => by
          rcases List.mem_cons.mp he with rfl | he
          · exact Bool.eq_false_iff.mpr hp
          · exact h1 e he, h2⟩
theorem forL_findN {x : Nat} {b : En → SR} {R : Option D → En} (hR : ∀ v d, (R v).set x (some d) = R (some d)) {p : Nat → Bool} {o : Nat → D} : ∀ (n lo : Nat) (v : Option D), (∀ k, lo ≤ k → k < lo + n → b (R (some (.int (k : Int)))) = if p k = true then .ret (o k) (R (some (.int (k : Int)))) else .nx (R (some (.int (k : Int))))) →
    (∃ k, lo ≤ k ∧ k < lo + n ∧ p k = true ∧ (∀ j, lo ≤ j → j < k → p j = false) ∧ forL x b (ids (lo : Int) n) (R v) = .ret (o k) (R (some (.int (k : Int))))) ∨ ((∀ k, lo ≤ k → k < lo + n → p k = false) ∧ ∃ v', forL x b (ids (lo : Int) n) (R v) = .nx (R v'))
  | 0, lo, v, _ => .inr ⟨fun k h1 h2 => by omega, v, rfl⟩
  | n + 1, lo, v, h => by
    have hd := h lo (Nat.le_refl _) (by omega)
    rw [ids_succ, forL_cons, hR, hd]
    by_cases hp : p lo = true
    · rw [if_pos hp]
      exact .inl ⟨lo, Nat.le_refl _, by omega, hp, fun j _ _ => by omega, rfl⟩
    · rw [if_neg hp, next_nx]
      have e1 : ((lo : Int) + 1) = ((lo + 1 : Nat) : Int) := by omega
      rw [e1]
      rcases forL_findN hR n (lo + 1) (some (.int (lo : Int))) (fun k h1 h2 => h k (by omega) (by omega)) with ⟨k, h1, h2, h3, h4, h5⟩ | ⟨h1, h2⟩
      · exact .inl ⟨k, by omega, by omega, h3, fun j q1 q2 => by
          by_cases e : j = lo
          · subst e; exact Bool.eq_false_iff.mpr hp
          · exact h4 j (by omega) q2, h5⟩
      · exact .inr ⟨fun k q1 q2 => by
          by_cases e : k = lo
          · subst e; exact Bool.eq_false_iff.mpr hp
          · exact h1 k (by omega) (by omega), h2⟩
/-- a loop that goes on to its end, over a state -/
theorem forL_fold {S : Type} {x : Nat} {b : En → SR} {R : S → Option D → En} (hR : ∀ s v d, (R s v).set x (some d) = R s (some d)) {st : S → D → S} (I : S → List D → Prop) (hI : ∀ s d ds, I s (d :: ds) → b (R s (some d)) = .nx (R (st s d) (some d)) ∧ I (st s d) ds) :
    ∀ (ds : List D) (s : S) (v : Option D), I s ds → ∃ v', forL x b ds (R s v) = .nx (R (ds.foldl st s) v')
  | [], s, v, _ => ⟨v, rfl⟩
  | d :: ds, s, v, h => by
    obtain ⟨h1, h2⟩ := hI s d ds h
    rw [forL_cons, hR, h1, next_nx]
    exact forL_fold hR I hI ds _ _ h2
/-- the same over a range -/
theorem forL_foldN {S : Type} {x : Nat} {b : En → SR} {R : S → Option D → En} (hR : ∀ s v d, (R s v).set x (some d) = R s (some d)) (st : S → Nat → S) (I : S → Nat → Prop) (N : Nat) (hI : ∀ s k, k < N → I s k → b (R s (some (.int (k : Int)))) = .nx (R (st s k) (some (.int (k : Int)))) ∧ I (st s k) (k + 1)) :
    ∀ (n lo : Nat) (s : S) (v : Option D), lo + n = N → I s lo → ∃ v', forL x b (ids (lo : Int) n) (R s v) = .nx (R ((List.range' lo n).foldl st s) v') ∧ I ((List.range' lo n).foldl st s) N
  | 0, lo, s, v, e, h => ⟨v, rfl, by simpa [← e] using h⟩
  | n + 1, lo, s, v, e, h => by
    obtain ⟨h1, h2⟩ := hI s lo (by omega) h
    rw [ids_succ, forL_cons, hR, h1, next_nx]
    have e1 : ((lo : Int) + 1) = ((lo + 1 : Nat) : Int) := by omega
    rw [e1]
    obtain ⟨v', g1, g2⟩ := forL_foldN hR st I N hI n (lo + 1) (st s lo) (some (.int (lo : Int))) (by omega) h2
    exact ⟨v', by rw [g1, List.range'_succ, List.foldl_cons], by rw [List.range'_succ, List.foldl_cons]; exact g2⟩
theorem lcGo_all {x : Nat} {t e : En → ER D} {r : En} {p : D → Bool} {f : D → D} : ∀ (ds : List D), (∀ d ∈ ds, t (r.set x (some d)) = .val (.bool (p d))) → (∀ d ∈ ds, p d = true → e (r.set x (some d)) = .val (f d)) → lcGo x t e r ds = .val ((ds.filter p).map f)
  | [], _, _ => rfl
  | d :: ds, h1, h2 => by
    have ih := lcGo_all (x := x) (t := t) (e := e) (r := r) (p := p) (f := f) ds (fun d hd => h1 d (List.mem_cons_of_mem _ hd)) fun d hd => h2 d (List.mem_cons_of_mem _ hd)
    unfold lcGo
    rw [h1 d List.mem_cons_self, ih]
    cases hp : p d with
    | false => simp [List.filter, hp]
    | true =>
      rw [h2 d List.mem_cons_self hp]
      simp [List.filter, hp]
theorem lc_val {x : Nat} {i : En → ER (List D)} {t e : En → ER D} {r : En} {p : D → Bool} {f : D → D} {ds : List D} (hi : i r = .val ds) (hl : ds.length ≤ LIM) (h1 : ∀ d ∈ ds, t (r.set x (some d)) = .val (.bool (p d))) (h2 : ∀ d ∈ ds, p d = true → e (r.set x (some d)) = .val (f d)) :
    lc x i t e r = .val (.list ((ds.filter p).map f)) := by
  unfold lc
  rw [hi, ER.bind_val, lcGo_all ds h1 h2, ER.bind_val, if_pos hl]
  rfl
/-- no condition -/
theorem lc_map {x : Nat} {i : En → ER (List D)} {e : En → ER D} {r : En} {f : D → D} {ds : List D} (hi : i r = .val ds) (hl : ds.length ≤ LIM) (h2 : ∀ d ∈ ds, e (r.set x (some d)) = .val (f d)) :
    lc x i (cst (.bool true)) e r = .val (.list (ds.map f)) := by
  have := lc_val (x := x) (i := i) (t := cst (.bool true)) (e := e) (r := r) (p := fun _ => true) (f := f) hi hl (fun _ _ => rfl) fun d hd _ => h2 d hd
  rw [this, List.filter_eq_self.mpr fun _ _ => rfl]
theorem lc_range {x : Nat} {i : En → ER (List D)} {e : En → ER D} {r : En} {f : Nat → D} {n : Nat} (hi : i r = .val (ids 0 n)) (hl : n ≤ LIM) (h2 : ∀ k, k < n → e (r.set x (some (.int (k : Int)))) = .val (f k)) :
    lc x i (cst (.bool true)) e r = .val (.list ((List.range n).map f)) := by
  have e1 : ids 0 n = (List.range n).map fun k => PyData.int ((k : Nat) : Int) := by
    unfold ids
    apply List.map_congr_left
    intro a _
    rw [Int.zero_add]
  have := lc_map (x := x) (i := i) (e := e) (r := r) (f := fun d => match d with | .int z => f z.toNat | _ => .none) hi (by rw [e1]; simpa using hl) (fun d hd => by
    rw [e1] at hd
    obtain ⟨k, hk, rfl⟩ := List.mem_map.mp hd
    rw [h2 k (List.mem_range.mp hk)]
    simp)
  rw [this, e1, List.map_map]
  congr 2
end Mi

/-! Mini, part 19: changes of lists reckoned out -/
namespace Mi
open PySem
section
variable {x : Nat} {e i j : En → ER D} {r : En} {l m : List D} {d : D} {k q : Nat}
theorem appF_val (h : r[x]? = some (some (.list l))) (he : e r = .val d) (hl : l.length < LIM) : appF x e r = .nx (r.set x (some (.list (l ++ [d])))) := by
  unfold appF
  rw [lstAt_at h, he, ER.toS_val, if_pos (decide_eq_true hl)]
theorem appP_val (h : r[x]? = some (some (.list l))) (he : e r = .val d) (hl : l.length < LIM) (hp : plain d = true) : appP x e r = .nx (r.set x (some (.list (l ++ [d])))) := by
  unfold appP
  rw [lstAt_at h, he, ER.toS_val, if_pos (by rw [hp, decide_eq_true hl]; rfl)]
theorem lst1_val {f : Nat → List D → SR} (hi : i r = .val (.int (k : Int))) (hm : l[k]? = some (.list m)) : lst1 r x l (i r) f = f k m := by
  have hk := (List.getElem?_eq_some_iff.mp hm).1
  unfold lst1
  rw [hi, ER.toS_val]
  show (match L2.ixN l.length (k : Int) with | some j => _ | none => _) = _
  rw [ixN_nat hk]
  show (match l[k]? with | some (.list m) => f k m | _ => _) = _
  rw [hm]
theorem app1P_val (h : r[x]? = some (some (.list l))) (hi : i r = .val (.int (k : Int))) (hm : l[k]? = some (.list m)) (he : e r = .val d) (hl : m.length < LIM) (hp : plain d = true) : app1P x i e r = .nx (r.set x (some (.list (l.set k (.list (m ++ [d])))))) := by
  unfold app1P
  rw [lstAt_at h, lst1_val hi hm, he, ER.toS_val, if_pos (by rw [hp, decide_eq_true hl]; rfl)]
theorem set1P_val (h : r[x]? = some (some (.list l))) (hi : i r = .val (.int (k : Int))) (hm : l[k]? = some (.list m)) (hj : j r = .val (.int (q : Int))) (hq : q < m.length) (he : e r = .val d) (hp : plain d = true) : set1P x i j e r = .nx (r.set x (some (.list (l.set k (.list (m.set q d)))))) := by
  unfold set1P
  rw [he, ER.toS_val, lstAt_at h, lst1_val hi hm, hj, ER.toS_val]
  show (match L2.ixN m.length (q : Int) with | some j => _ | none => _) = _
  rw [ixN_nat hq]
  show (if plain d = true then _ else _) = _
  rw [if_pos hp]
theorem setP_val (h : r[x]? = some (some (.list l))) (hi : i r = .val (.int (k : Int))) (hk : k < l.length) (he : e r = .val d) (hp : plain d = true) : setP x i e r = .nx (r.set x (some (.list (l.set k d)))) := by
  unfold setP
  rw [he, ER.toS_val, lstAt_at h, hi, ER.toS_val]
  show (match L2.ixN l.length (k : Int) with | some j => _ | none => _) = _
  rw [ixN_nat hk]
  show (if plain d = true then _ else _) = _
  rw [if_pos hp]
end
theorem ids_map (n : Nat) : ids 0 n = (List.range n).map fun k => PyData.int ((k : Nat) : Int) := by
  unfold ids
  apply List.map_congr_left
  intro a _
  rw [Int.zero_add]
theorem lc_rangeF {x : Nat} {i : En → ER (List D)} {t e : En → ER D} {r : En} {p : Nat → Bool} {f : Nat → D} {n : Nat} (hi : i r = .val (ids 0 n)) (hl : n ≤ LIM) (h1 : ∀ k, k < n → t (r.set x (some (.int (k : Int)))) = .val (.bool (p k))) (h2 : ∀ k, k < n → p k = true → e (r.set x (some (.int (k : Int)))) = .val (f k)) :
    lc x i t e r = .val (.list (((List.range n).filter p).map f)) := by
  have := lc_val (x := x) (i := i) (t := t) (e := e) (r := r) (p := fun d => match d with | .int z => p z.toNat | _ => false) (f := fun d => match d with | .int z => f z.toNat | _ => .none) hi (by rw [ids_map]; simpa using hl) (fun d hd => by
    rw [ids_map] at hd
    obtain ⟨k, hk, rfl⟩ := List.mem_map.mp hd
    rw [h1 k (List.mem_range.mp hk)]
    simp) (fun d hd hp => by
    rw [ids_map] at hd
    obtain ⟨k, hk, rfl⟩ := List.mem_map.mp hd
    rw [h2 k (List.mem_range.mp hk) (by simpa using hp)]
    simp)
  rw [this, ids_map, List.filter_map, List.map_map]
  congr 2
theorem filter_first {p : Nat → Bool} {n k : Nat} (hk : k < n) (hp : p k = true) (h : ∀ j, j < k → p j = false) : ∃ rest, (List.range n).filter p = k :: rest := by
  refine ⟨(List.range' (k + 1) (n - k - 1)).filter p, ?_⟩
  rw [List.filter_eq_cons_iff]
  refine ⟨List.range k, List.range' (k + 1) (n - k - 1), ?_, fun x hx => by rw [h x (List.mem_range.mp hx)]; decide, hp, rfl⟩
  apply List.ext_getElem
  · simp
    omega
  · intro i h1 h2
    simp [List.getElem_append]
    intro hki
    rw [List.getElem_cons]
    split
    · omega
    · simp
      omega
end Mi

/-! Mini, part 20: calls that change lists reckoned out; more of numbers -/
namespace Mi
open PySem
section
variable {F : List D → FR} {g : En → ER (List D)} {xs : List (Option Nat)} {r : En} {ds outs : List D} {d : D} {x y : Nat}
theorem exprI_val (hg : g r = .val ds) (hF : F ds = .ret d outs) : exprI F g xs r = .nx (setAll (ysOf xs) outs r) := by
  unfold exprI ioCall
  rw [hg]
  show (match F ds with | .ret d outs => _ | _ => _) = _
  rw [hF]
theorem asgI_val (hg : g r = .val ds) (hF : F ds = .ret d outs) : asgI y F g xs r = .nx ((setAll (ysOf xs) outs r).set y (some d)) := by
  unfold asgI ioCall
  rw [hg]
  show (match F ds with | .ret d outs => _ | _ => _) = _
  rw [hF]
end
theorem small_of_lt {i : Int} (h1 : -1000000000000 < i) (h2 : i < 1000000000000) : small i = true := by
  unfold small
  exact decide_eq_true ⟨by omega, by omega⟩
theorem fmod_nat (a b : Nat) : (a : Int).fmod (b : Int) = ((a % b : Nat) : Int) := by
  rw [Int.fmod_eq_emod_of_nonneg _ (by omega)]
  rfl
theorem fmod_bds {a b : Int} (h : 0 < b) : 0 ≤ a.fmod b ∧ a.fmod b < b := ⟨Int.fmod_nonneg_of_pos a h, Int.fmod_lt_of_pos a h⟩
@[simp] theorem plainL_app (a b : List D) : plainL (a ++ b) = (plainL a && plainL b) := by
  induction a with
  | nil => simp
  | cons x a ih => simp [ih, Bool.and_assoc]
@[simp] theorem plainL_ints (l : List Int) : plainL (l.map .int) = true := by
  induction l with
  | nil => simp
  | cons x a ih => simp [ih]
@[simp] theorem plainL_rows (T : List (List Int)) : plainL (T.map iT) = true := by
  induction T with
  | nil => simp
  | cons x a ih => simp [ih]
end Mi

/-! Mini, part 21: more operations -/
namespace Mi
open PySem
def dDiv := nn fun i j => if 0 < j ∧ j.natAbs.log2 < 9000 then some (.int (i / j)) else none
def dPow := nn fun i j => if 0 ≤ j ∧ j ≤ 1000 ∧ i.natAbs < 2 ^ 64 then some (.int (i ^ j.toNat)) else none
def dRevT : D → Option D
  | .tuple l => if l.length ≤ LIM then some (.tuple l.reverse) else none
  | _ => none
/-- t * k -/
def dRep (a b : D) : Option D := match a, b with
  | .tuple l, .int k => if l ≠ [] ∧ 2 ≤ k ∧ k ≤ 1000 ∧ l.length ≤ 1000 ∧ plainL l = true then some (.tuple (List.replicate k.toNat l).flatten) else none
  | _, _ => none
def isTup1 : D → Bool
  | .tuple (_ :: _) => true
  | _ => false
def leI (a b : Int) : Bool := decide (a ≤ b)
/-- sorted, of whole numbers -/
def dSort (d : D) : Option D := match itemsOf d with
  | some l => (match dInts l with
    | some ns => some (.list ((ns.mergeSort leI).map .int))
    | none => none)
  | none => none
/-- sorted, of a list of data -/
def dSortD (d : D) : Option D := match d with
  | .list l => if l.length ≤ 1 then some (.list l) else if l.all isTup1 && l.all (fun x => l.all fun y => PySem.W.alike x y) && l.all plain && l.all SeqAt.shaped then some (.list (l.mergeSort (PySem.W.dataLe false id))) else none
  | _ => none
end Mi

/-! Mini, part 22: try -/
namespace Mi
open PySem PySem.Spec L2
/-- the class c is h, or h is the base of all (0) -/
def subc (c h : Nat) : Bool := c == h || h == 0
def SR.quiet : SR → SR
  | .exn _ _ => .stuck
  | a => a
def pickH (c : Nat) : List (Nat × (En → SR)) → Option (En → SR)
  | [] => none
  | (h, f) :: l => if subc c h then some f else pickH c l
def tryS (pr : List Nat) (b : En → SR) (hs : List (Nat × (En → SR))) : En → SR := fun r => match b r with
  | .exn c r' => if pr.contains c then (match pickH c hs with | some f => (f r').quiet | none => .exn c r') else .stuck
  | a => a
section
variable {X : Cx} {cl : Nat → Addr} {W : WX} {ms : List Md} {rk : Bool} {pr : List Nat} {b f : En → SR} {body : List Stmt} {pos : Pos}
inductive HOk (X : Cx) (cl : Nat → Addr) (ms : List Md) (rk : Bool) (pr : List Nat) : List ExceptHandler → List (Nat × (En → SR)) → Prop
  | nil : HOk X cl ms rk pr [] []
  | cons {x : Str} {h : Nat} {f : En → SR} {b₀ : Stmt} {suite : List Stmt} {np pos' : Pos} {hds : List ExceptHandler} {l : List (Nat × (En → SR))} (hc : Names X x (.ref (cl h))) (he : ∀ c ∈ pr, PySem.W.exmOne X.K (.ref (cl c)) (.ref (cl h)) = some (subc c h))
      (hsu : ∀ (a : Addr) (oe : Obj) (pn : List (Addr × Obj)), ISs (X.suite a ((a, oe) :: pn)) cl W0 ms rk (b₀ :: suite) f) (r : HOk X cl ms rk pr hds l) : HOk X cl ms rk pr (.ExceptHandler (some (.Name x np)) none (b₀ :: suite) pos' :: hds) ((h, f) :: l)
def hdl (K : Fg) (cl : Nat → Addr) (ms : List Md) (rk : Bool) : List (Nat × (En → SR)) → List (Value × (Addr → Value → Option Addr → TS))
  | [] => []
  | (h, f) :: l => (.ref (cl h), fun _ _ _ => canS K cl W0 ms rk f) :: hdl K cl ms rk l
theorem HOk.hds {hs : List ExceptHandler} {l : List (Nat × (En → SR))} (h : HOk X cl ms rk pr hs l) : HdsOk X hs (hdl X.K cl ms rk l) := by
  induction h with
  | nil => exact .nil
  | cons hc he hsu r ih => exact .cons hc (fun a oe _ _ pn _ _ => hsu a oe pn) ih
theorem quiet_ok {a : SR} {P : En → Prop} {R : D → En → Prop} {N : Nat → En → Prop} (h : a.quiet.ok P R N) : a.ok P R (fun _ _ => False) := by
  cases a <;> exact h
theorem HOk.catch {hs : List ExceptHandler} {l : List (Nat × (En → SR))} (h : HOk X cl ms rk pr hs l) {c : Nat} (hc : c ∈ pr) {Dd : Ends} {s t : L2.St} {H G : Hp} {r' : En} {O P : List (List Addr)} {Og : Addr → Prop} (en : EnvS X.K G ms r' t P Og) (tr : Trn ms s t H G O.flatten P.flatten)
    (w : (match pickH c l with | some f => (f r').quiet | none => .exn c r').ok (fun r' => ∀ s' G P, EnvS X.K G ms r' s' P Og → Trn ms s s' H G O.flatten P.flatten → Dd.nx s' G)
      (fun d r' => ∀ v s' G P F, EnvS X.K G ms r' s' P Og → Trn ms s s' H G O.flatten P.flatten → Rep X.K G v d F → (∀ a ∈ F, Og a) → RtOk rk H O.flatten (ioN ms P) F → Dd.rt v G)
      (fun c r' => ∀ s' G P, EnvS X.K G ms r' s' P Og → Trn ms s s' H G O.flatten P.flatten → W (.ref (cl c)) none s' G)) : wMany X.K W Dd (hdl X.K cl ms rk l) (.ref (cl c)) none t G := by
  induction h with
  | nil => exact w t G P en tr
  | @cons x h f b₀ suite np pos' hds l hn he hsu r ih =>
    refine ⟨subc c h, he c hc, fun q a _ => ?_, fun q => ih ?_⟩
    · have e : pickH c ((h, f) :: l) = some f := by
        show (if subc c h = true then some f else pickH c l) = _
        rw [if_pos q]
      rw [e] at w
      exact canS_from (r := r') (O := O) en tr (SR.ok_mono (quiet_ok w) (fun _ _ z => z) (fun _ _ z => z) fun _ _ z => z.elim)
    · have e : pickH c ((h, f) :: l) = pickH c l := by
        show (if subc c h = true then some f else pickH c l) = _
        rw [if_neg (by rw [q]; decide)]
      rw [e] at w
      exact w
theorem s_try {h₀ : ExceptHandler} {hds : List ExceptHandler} {l : List (Nat × (En → SR))} (hs : X.stack = X.env :: X.outer) (hf : X.env.frame = some X.env.locals) (tk : Takes X W)
    (hb : ∀ (W : WX) (pn : List (Addr × Obj)) (xe : Value → Shared → Prop), Takes (X.tr pn xe) W → PassesOwn (model X.prog X.w) X.A X.env xe → ISs (X.tr pn xe) cl W ms rk body b) (hh : HOk X cl ms rk pr (h₀ :: hds) l) :
    IS X cl W ms rk (.Try body (h₀ :: hds) [] [] pos) (tryS pr b l) :=
  ps_imp (ps_try_many hs hf tk (tb := fun W => canS X.K cl W ms rk b) hb hh.hds) fun D s H ⟨r, O, Og, en, w⟩ => by
    refine ⟨r, O, Og, en, ?_⟩
    unfold tryS at w
    cases hbr : b r with
    | stuck => rw [hbr] at w; exact w
    | nx r' => rw [hbr] at w; exact w
    | ret d r' => rw [hbr] at w; exact w
    | exn c r' =>
      rw [hbr] at w
      dsimp only at w
      intro s' G P e2 t2
      split at w
      · rename_i hc
        exact hh.catch (by simpa using hc) e2 t2 w
      · exact w.elim
/-! except X as e -/
/-- what an own class says of its instances -/
structure Ex (K : Fg) (C : Addr) : Prop where
  x : ExcC K C
  kv : PySem.W.kitOne K (.ref C) (.type "ValueError") = some true
def tryA (pr : List Nat) (b : En → SR) (h : Nat) (f : En → SR) : En → SR := fun r => match b r with
  | .exn c r' => if pr.contains c then (if subc c h then (f r').quiet else .exn c r') else .stuck
  | a => a
/-- isinstance(e, ValueError), e held -/
theorem pe_isE {a D : Addr} {oe : Obj} {pn : List (Addr × Obj)} {i : Nat} {n : Str} {p p1 p2 p3 : Pos} (C : Ex X.K D) (hz : Zc (.ref D) none oe) (hf : ∃ vs, oe.data = .fields vs) (hm : X.mg "isinstance" = none) (hv : X.mg "ValueError" = none) (hN : X.N[i]? = some n := by rfl) (hvi : Vis X.env.scope n := by first | exact Or.inl rfl | exact Or.inr (Or.inl rfl) | exact Or.inr (Or.inr rfl))
    (hg : Gl X "isinstance" := by rfl) (hgy : Gl X "ValueError" := by rfl) (hd : (n == ("__debug__" : Str)) = false := by decide) (hcd : (n == ("__classdict__" : Str)) = false := by decide)
    (he2 : starEach [.Name "ValueError" p2] X.env = (false, eval (.Name "ValueError" p2) X.env) :: starEach [] X.env := by rfl) (he : starEach [.Name n p1, .Name "ValueError" p2] X.env = (false, eval (.Name n p1) X.env) :: starEach [.Name "ValueError" p2] X.env := by rfl) (hpl : (backTo p3 (starEach [.Name "ValueError" p2] X.env)).any (·.1) = false := by rfl) :
    PE (X.suite a ((a, oe) :: pn)) (.Call (.Name "isinstance" p) [.Name n p1, .Name "ValueError" p2] [] p3) (fun σ H Q => σ[i]? = some (some (.ref a)) ∧ Q (.bl true) H) :=
  pe_imp (pe_callB (call_isE C.x hz hf) hg hm (by decide +kernel) (pa_cons (pe_var (X := X.suite a ((a, oe) :: pn)) hN hvi hd hcd) (pa_cons (pe_bltn (v := .ty "ValueError") hgy hv (by decide +kernel) rfl (by decide) (by decide)) pa_nil he2) he) (by decide) (by decide) he hpl) fun s H Q ⟨h1, h2⟩ =>
    ⟨.ref a, h1, .ty "ValueError", .type "ValueError", true, rfl, fun u r => by cases r; rfl, C.kv, h2⟩
theorem EnvS.hole {K : Fg} {H : Hp} {r : En} {s : L2.St} {O : List (List Addr)} {Og : Addr → Prop} {i : Nat} (en : EnvS K H ms r s O Og) (hr : r[i]? = some none) (u : Option V) : EnvS K H ms r (s.set i u) O Og :=
  ⟨{ en.env with
      ls := by rw [List.length_set]; exact en.env.ls
      sl := fun j d hj => by
        obtain ⟨v, F, m, Oi, h1, h2⟩ := en.env.sl j d hj
        have : i ≠ j := fun e => by rw [← e, hr] at hj; cases hj
        exact ⟨v, F, m, Oi, by rw [List.getElem?_set_ne this]; exact h1, h2⟩ }, en.nb⟩
theorem Trn.hole {s : L2.St} {H : Hp} {O : List Addr} {i : Nat} {u : Option V} (hm : ms[i]? ≠ some .io) : Trn ms s (s.set i u) H H O O := ⟨fun _ _ h _ => h, fun _ o h => ⟨o, h⟩, fun _ h => .inl h, fun j hj => by
  rw [List.getElem?_set_ne (fun e => hm (by rw [e]; exact hj))]⟩
/-- except X as e: return isinstance(e, ValueError) -/
theorem s_tryR {h i : Nat} {x n : Str} {np pos' p p1 p2 p3 rp : Pos} (hs : X.stack = X.env :: X.outer) (hf : X.env.frame = some X.env.locals) (hN : X.N.Nodup) (tk : Takes X W) (hc : Names X x (.ref (cl h))) (he : ∀ c ∈ pr, PySem.W.exmOne X.K (.ref (cl c)) (.ref (cl h)) = some (subc c h)) (hx : ∀ c ∈ pr, Ex X.K (cl c)) (hmi : X.mg "isinstance" = none) (hmv : X.mg "ValueError" = none)
    (hb : ∀ (W : WX) (pn : List (Addr × Obj)) (xe : Value → Shared → Prop), Takes (X.tr pn xe) W → PassesOwn (model X.prog X.w) X.A X.env xe → ISs (X.tr pn xe) cl W ms rk body b) (hi : X.N[i]? = some n) (hln : X.env.kindOf n = some .local) (hl : i < ms.length)
    (hd : (n == ("__debug__" : Str)) = false := by decide) (hcd : (n == ("__classdict__" : Str)) = false := by decide) (hg : Gl X "isinstance" := by rfl) (hgy : Gl X "ValueError" := by rfl)
    (he2 : starEach [.Name "ValueError" p2] X.env = (false, eval (.Name "ValueError" p2) X.env) :: starEach [] X.env := by rfl) (he1 : starEach [.Name n p1, .Name "ValueError" p2] X.env = (false, eval (.Name n p1) X.env) :: starEach [.Name "ValueError" p2] X.env := by rfl) (hpl : (backTo p3 (starEach [.Name "ValueError" p2] X.env)).any (·.1) = false := by rfl) :
    IS X cl W ms rk (.Try body [.ExceptHandler (some (.Name x np)) (some n) [.Return (some (.Call (.Name "isinstance" p) [.Name n p1, .Name "ValueError" p2] [] p3)) rp] pos'] [] [] pos) (tryA pr b h (retS (cst (.bool true)))) :=
  ps_imp (ps_try_as (i := i) (tb := fun W => canS X.K cl W ms rk b) (ts := fun a cls d Dd σ H => ∃ c ∈ pr, cls = .ref (cl c) ∧ d = none ∧ σ[i]? = some (some (.ref a)) ∧ Dd.rt (.bl true) H) hs hf hN hi hln hc tk hb (fun a oe cls d pn hz hf => ⟨fun pins s z H D I q => by
    obtain ⟨c, hc, rfl, rfl, q1, q2⟩ := q
    exact (pss_one (ps_ret (pe_isE (hx c hc) hz hf hmi hmv hi (.inl hln) hg hgy hd hcd he2 he1 hpl))).run pins s z H D I ⟨q1, q2⟩⟩)) fun D s H ⟨r, O, Og, en, w⟩ => by
    refine ⟨r, O, Og, en, ?_⟩
    unfold tryA at w
    cases hbr : b r with
    | stuck => rw [hbr] at w; exact w
    | nx r' => rw [hbr] at w; exact w
    | ret d r' => rw [hbr] at w; exact w
    | exn c r' =>
      rw [hbr] at w
      dsimp only at w
      intro s' G P e2 t2
      split at w
      · rename_i hc
        have hc' : c ∈ pr := by simpa using hc
        refine ⟨subc c h, he c hc', fun q a ha => ?_, fun q => ?_⟩
        · rw [if_pos q] at w
          refine ⟨c, hc', rfl, rfl, ?_, w (.bl true) s' G P [] e2 t2 (.bl true) (fun _ z => nomatch z) ⟨fun _ z => (nomatch z), fun _ => ⟨List.nodup_nil, fun _ z => (nomatch z)⟩⟩⟩
          rw [List.getElem?_set_self]
          have := e2.env.ls
          have := e2.env.lm
          omega
        · rw [if_neg (by rw [q]; decide)] at w
          exact w s' G P e2 t2
      · exact w.elim
/-- x = x + 1, the slot i empty -/
def incS (x i : Nat) : En → SR := fun r => match r[i]? with
  | some none => (match r[x]? with
    | some (some (.int z)) => .nx (r.set x (some (.int (z + 1))))
    | _ => .stuck)
  | _ => .stuck
/-- except X as e: x = x + int(isinstance(e, ValueError)) -/
theorem s_tryI {h i y : Nat} {x n yn : Str} {np pos' p p1 p2 p3 pi pb pa pi2 py py2 : Pos} (hs : X.stack = X.env :: X.outer) (hf : X.env.frame = some X.env.locals) (hN : X.N.Nodup) (tk : Takes X W) (hc : Names X x (.ref (cl h))) (he : ∀ c ∈ pr, PySem.W.exmOne X.K (.ref (cl c)) (.ref (cl h)) = some (subc c h)) (hx : ∀ c ∈ pr, Ex X.K (cl c)) (hmi : X.mg "isinstance" = none) (hmv : X.mg "ValueError" = none) (hmn : X.mg "int" = none)
    (hb : ∀ (W : WX) (pn : List (Addr × Obj)) (xe : Value → Shared → Prop), Takes (X.tr pn xe) W → PassesOwn (model X.prog X.w) X.A X.env xe → ISs (X.tr pn xe) cl W ms rk body b) (hi : X.N[i]? = some n) (hln : X.env.kindOf n = some .local) (hl : i < ms.length) (hmsi : ms[i]? ≠ some .io) (hy : X.N[y]? = some yn) (hly : X.env.kindOf yn = some .local) (hmy : ms[y]? = some .sh) (hne : i ≠ y)
    (hd : (n == ("__debug__" : Str)) = false := by decide) (hcd : (n == ("__classdict__" : Str)) = false := by decide) (hd' : (yn == ("__debug__" : Str)) = false := by decide) (hcd' : (yn == ("__classdict__" : Str)) = false := by decide) (hg : Gl X "isinstance" := by rfl) (hgy : Gl X "ValueError" := by rfl) (hgn : Gl X "int" := by rfl)
    (he2 : starEach [.Name "ValueError" p2] X.env = (false, eval (.Name "ValueError" p2) X.env) :: starEach [] X.env := by rfl) (he1 : starEach [.Name n p1, .Name "ValueError" p2] X.env = (false, eval (.Name n p1) X.env) :: starEach [.Name "ValueError" p2] X.env := by rfl) (hpl : (backTo p3 (starEach [.Name "ValueError" p2] X.env)).any (·.1) = false := by rfl)
    (he3 : starEach [.Call (.Name "isinstance" p) [.Name n p1, .Name "ValueError" p2] [] p3] X.env = (false, eval (.Call (.Name "isinstance" p) [.Name n p1, .Name "ValueError" p2] [] p3) X.env) :: starEach [] X.env := by rfl) (hpl3 : (backTo pi2 (starEach [] X.env)).any (·.1) = false := by rfl)
    (hsw : swapsWith (.BinOp (.Name yn py) .Add (.Call (.Name "int" pi) [.Call (.Name "isinstance" p) [.Name n p1, .Name "ValueError" p2] [] p3] [] pi2) pb) (some (.Name yn py2)) pa.line X.env = pure false := by rfl) :
    IS X cl W ms rk (.Try body [.ExceptHandler (some (.Name x np)) (some n) [.Assign [.Name yn py2] (.BinOp (.Name yn py) .Add (.Call (.Name "int" pi) [.Call (.Name "isinstance" p) [.Name n p1, .Name "ValueError" p2] [] p3] [] pi2) pb) pa] pos'] [] [] pos) (tryA pr b h (incS y i)) :=
  ps_imp (ps_try_as (i := i) (tb := fun W => canS X.K cl W ms rk b) (ts := fun a cls d Dd σ H => ∃ c ∈ pr, cls = .ref (cl c) ∧ d = none ∧ σ[i]? = some (some (.ref a)) ∧ ∃ z : Int, σ[y]? = some (some (.int z)) ∧ Dd.nx (σ.set y (some (.int (z + 1)))) H) hs hf hN hi hln hc tk hb (fun a oe cls d pn hz hf => ⟨fun pins s z H D I q => by
    obtain ⟨c, hc, rfl, rfl, q1, k, q2, q3⟩ := q
    have hE := pe_isE (a := a) (p := p) (p1 := p1) (p2 := p2) (p3 := p3) (pn := pn) (hx c hc) hz hf hmi hmv hi (.inl hln) hg hgy hd hcd he2 he1 hpl
    have hI := pe_callTy (p := pi) (pos := pi2) (X := X.suite a ((a, oe) :: pn)) call_int1 hgn hmn (by decide +kernel) (pa_cons hE pa_nil he3) (by decide) (by decide) he3 hpl3
    have hY := pe_var (X := X.suite a ((a, oe) :: pn)) (pos := py) hy (.inl hly) hd' hcd'
    refine (pss_one (ps_set (X := X.suite a ((a, oe) :: pn)) hN hy (.inl hly) (pe_op op_add hY hI) hsw (.inr hly))).run pins s z H D I ?_
    refine ⟨_, q2, q1, .inr ⟨true, rfl, ?_⟩⟩
    exact ⟨k, 1, rfl, rfl, q3⟩⟩)) fun D s H ⟨r, O, Og, en, w⟩ => by
    refine ⟨r, O, Og, en, ?_⟩
    unfold tryA at w
    cases hbr : b r with
    | stuck => rw [hbr] at w; exact w
    | nx r' => rw [hbr] at w; exact w
    | ret d r' => rw [hbr] at w; exact w
    | exn c r' =>
      rw [hbr] at w
      dsimp only at w
      intro s' G P e2 t2
      split at w
      · rename_i hc
        have hc' : c ∈ pr := by simpa using hc
        refine ⟨subc c h, he c hc', fun q a ha => ?_, fun q => ?_⟩
        · rw [if_pos q] at w
          unfold incS at w
          split at w
          · rename_i hri
            split at w
            · rename_i z hrz
              have := e2.env.ls
              have := e2.env.lm
              obtain ⟨v, F, m, Oi, g1, g2, _⟩ := e2.env.sl y _ hrz
              cases g2
              refine ⟨c, hc', rfl, rfl, by rw [List.getElem?_set_self]; omega, z, by rw [List.getElem?_set_ne hne]; exact g1, ?_⟩
              have e3 : EnvS X.K G ms (r'.set y (some (.int (z + 1)))) (s'.set y (some (.int (z + 1)))) P Og := ⟨e2.env.put (F := []) (.inr ⟨hmy, fun _ z => nomatch z⟩) (.int _) (fun _ z => nomatch z), e2.nb.set (by rw [hmy]; decide)⟩
              have e4 := e3.hole (i := i) (by rw [List.getElem?_set_ne (Ne.symm hne)]; exact hri) none
              have t3 : Trn ms s' (s'.set y (some (V.int (z + 1)))) G G P.flatten P.flatten := Trn.put (Same.refl G) (by rw [hmy]; decide)
              have t4 := (t2.trans t3).trans (Trn.hole (i := i) (u := none) hmsi)
              show D.nx (((s'.set i (some (.ref a))).set y (some (.int (z + 1)))).set i none) G
              rw [List.set_comm _ _ (fun z => hne z), List.set_set]
              exact w _ G P e4 t4
            · exact w.elim
          · exact w.elim
        · rw [if_neg (by rw [q]; decide)] at w
          exact w s' G P e2 t2
      · exact w.elim
end
end Mi

/-! Mini, part 23: //, **, t * k, t[::-1] -/
namespace Mi
open PySem PySem.Spec L2
section
variable {X : Cx} {cl : Nat → Addr} {W : WX} {ms : List Md} {a b : Expr} {f g : En → ER D} {ka kb : Kd} {pos : Pos}
theorem i_div (ha : IE X cl W ms a f ka) (hb : IE X cl W ms b g kb) : IE X cl W ms (.BinOp a .FloorDiv b pos) (bi dDiv f g) .fr := i_bin0 op_fdivW (sc_I fun i j d e => by
  split at e
  · rename_i h
    cases e
    exact ⟨h, fun G => .int _⟩
  · cases e) ha hb
theorem i_pow (ha : IE X cl W ms a f ka) (hb : IE X cl W ms b g kb) : IE X cl W ms (.BinOp a .Pow b pos) (bi dPow f g) .fr := i_bin0 op_pow (sc_I fun i j d e => by
  split at e
  · rename_i h
    cases e
    exact ⟨⟨h.1, by omega, h.2.2⟩, fun G => .int _⟩
  · cases e) ha hb
end
/-! ### t[::-1] -/
section
variable {prog : Program} {w : World} {A : Around} {E : Value → Shared → Prop} {s : Shared}
theorem places_rev (n : Nat) : Builtin.Slice.slicePlaces ((n : Int) - 1) (-1) (-1) = n := by
  unfold Builtin.Slice.slicePlaces
  rw [if_neg (by decide), show (-(-1) : Int) = 1 from rfl, Int.ediv_one]
  split <;> omega
theorem fmap_eq {l : List Nat} {f : Nat → Option Value} {g : Nat → Value} (h : ∀ m ∈ l, f m = some (g m)) : l.filterMap f = l.map g := by
  induction l with
  | nil => rfl
  | cons a l ih => rw [List.filterMap_cons_some (h a List.mem_cons_self), List.map_cons, ih fun m hm => h m (List.mem_cons_of_mem _ hm)]
theorem pick_rev (xs : Array Value) : ((List.range xs.size).filterMap fun (m : Nat) => xs[((xs.size : Int) - 1 + (m : Int) * (-1)).toNat]?).toArray = xs.toList.reverse.toArray := by
  congr 1
  have e : (List.range xs.size).filterMap (fun (m : Nat) => xs[((xs.size : Int) - 1 + (m : Int) * (-1)).toNat]?) = (List.range xs.size).map fun m => xs.toList.reverse.getD m .none := by
    refine fmap_eq fun m hm => ?_
    have hm := List.mem_range.mp hm
    have e2 : ((xs.size : Int) - 1 + (m : Int) * (-1)).toNat = xs.size - 1 - m := by omega
    rw [e2]
    rw [Array.getElem?_eq_getElem (by omega), List.getD_eq_getElem?_getD, List.getElem?_reverse (by simpa using hm), List.getElem?_eq_getElem (by simp; omega)]
    simp
  rw [e]
  apply List.ext_getElem
  · simp
  · intro i h1 h2
    rw [List.getElem_map, List.getElem_range, List.getD_eq_getElem?_getD, List.getElem?_eq_getElem h2]
    rfl
theorem tup_rev {t sl : Addr} {items : Array Value} {v1 v2 v3 : Value} {Q : Value → Shared → Prop} (ht : PyProof.Rows.IsTup s.heap t items) (hs : s.heap.IsSliceOf sl v1 v2 v3) (p1 : IsPart v1 none) (p2 : IsPart v2 none) (p3 : IsPart v3 (some (-1))) (hz : items.size ≤ sizeLine)
    (h : Q (.ref s.heap.objs.size) { s with heap := s.heap.push { cls := .type "tuple", data := .seq items.toList.reverse.toArray } }) : wpAny (model prog w) A (getItem (.ref t) (.ref sl)) Q E s := by
  obtain ⟨o, ho, oc, od⟩ := id hs
  have ts : s.TypeIs (.ref sl) "slice" := ⟨o, ho, oc⟩
  unfold getItem
  with_reducible refine wpAny_holding ?_
  refine wpAny_bind (wpAny_sequenceKey ht.typeIs (by decide) (wpAny_bind (wpAny_callSpecial?_slot (name := Str.ofString "__getitem__") ht.typeIs PyProof.Rows.slot_tuple_getitem (wpAny_call_entry PyProof.Rows.slot_tuple_getitem ht.typeIs PyProof.Rows.entry_tuple_getitem ?_ (PyProof.Rows.args_tuple_getitem _ _)))))
  show wpAny _ _ (Builtin.Tuple.tupleItemsOf (.ref t) >>= _) _ _ s
  refine wpAny_bind (PyProof.Rows.tupleItemsOf_ ht (wpAny_bind (wpAny_typeOf ts ?_)))
  rw [if_pos (by decide)]
  refine wpAny_bind ?_
  unfold Builtin.Slice.sliceApplied Builtin.Slice.sliceFields
  refine wpAny_bind (wpAny_bind (wpAny_field ho od (x := v1) rfl (wpAny_bind (wpAny_field ho od (x := v2) rfl (wpAny_bind (wpAny_field ho od (x := v3) rfl (wpAny_pure ?_)))))))
  refine wpAny_bind (HT.slicePart_ p3 ?_)
  show wpAny _ _ (if ((-1 : Int) == 0) = true then _ else _) _ _ s
  rw [if_neg (by decide)]
  refine wpAny_bind (HT.slicePart_ p1 (wpAny_bind (HT.slicePart_ p2 (wpAny_bind (wpAny_pure ?_)))))
  show wpAny _ _ (pure ((items.size : Int) - 1, (-1 : Int), Builtin.Slice.slicePlaces ((items.size : Int) - 1) (-1) (-1))) _ _ s
  rw [places_rev]
  refine wpAny_pure ?_
  show wpAny _ _ (if ((items.size : Int) - 1 == 0 && (-1 : Int) == 1 && items.size == items.size) = true then _ else _) _ _ s
  rw [if_neg (by rw [show ((-1 : Int) == 1) = false from rfl, Bool.and_false, Bool.false_and]; decide), pick_rev]
  have fits : sizeOk (.seq items.toList.reverse.toArray) := by
    show items.toList.reverse.toArray.size ≤ sizeLine
    simpa using hz
  first
    | exact wpAny_bind (m := Builtin.Tuple.tupleExact _) (wpAny_newObj_type (wpAny_pure ⟨_, rfl, wpAny_pure h⟩) fits)
    | exact wpAny_bind (m := Builtin.Tuple.tupleExact _) (wpAny_newObj_type (wpAny_bind (wpAny_pure (wpAny_pure ⟨_, rfl, wpAny_pure h⟩))) fits)
    | exact wpAny_bind (wpAny_bind (m := Builtin.Tuple.tupleExact _) (wpAny_newObj_type (wpAny_pure (wpAny_pure ⟨_, rfl, wpAny_pure h⟩)) fits))
    | exact wpAny_bind (wpAny_bind (m := Builtin.Tuple.tupleExact _) (wpAny_newObj_type (wpAny_pure ⟨_, rfl, wpAny_pure h⟩) fits))
end
section
variable {X : Cx} {cl : Nat → Addr} {W : WX} {ms : List Md} {a : Expr} {f : En → ER D} {ka : Kd} {pos : Pos}
def tRevT (K : Fg) (te : TE) : TE := fun z H Q => te z H fun x G => ∃ p xs, x = .ref p ∧ SqT K G p xs ∧ ∀ q, G q = none → Q (.ref q) (upd G q (.tup xs.reverse))
theorem pe_revT {te : TE} {j : Nat} {p1 p2 p3 : Pos} (ha : PE X a te) : PE X (.Subscript a (.Slice none none (some (.UnaryOp .USub (.Constant (.int 1) j p1) p2)) p3) pos) (tRevT X.K te) := by
  refine ⟨fun pins s z H Q I h => PyProof.Rows.Subscript_ (thn (ha.run pins s z H _ I h) fun v s1 ⟨x, H1, I1, r1, c, xs, ex, hx, q⟩ => ?_)⟩
  subst ex
  cases r1
  have step : PO X (some (.UnaryOp .USub (.Constant (.int 1) j p1) p2)) (tPart (tUn (rU fun i => .int (-i)) (tC (.int 1)))) := po_some (pe_un un_neg pe_int)
  refine wpAny_Slice (thn (po_none.run pins s1 z H1 (fun o G => o = none ∧ G = H1) I1 ⟨rfl, rfl⟩) fun w1 s2 ⟨l, G2, I2, k1, el, e2⟩ => ?_)
  subst el e2
  refine thn (po_none.run pins s2 z G2 (fun o G => o = none ∧ G = G2) I2 ⟨rfl, rfl⟩) fun w2 s3 ⟨u, G3, I3, k2, eu, e3⟩ => ?_
  subst eu e3
  refine thn (step.run pins s3 z G3 (fun o G => o = some (-1) ∧ G = G3) I3 ⟨1, rfl, -1, rfl, rfl, rfl⟩) fun w3 s4 ⟨o, G4, I4, k3, eo, e4⟩ => ?_
  subst eo e4
  have J : Inv X pins z G4 { s4 with heap := s4.heap.push { cls := .type "slice", data := .fields #[w1, w2, w3] } } := I4.kept (t' := s4.toks) fun b ob e => Heap.get?_push_of_some _ e
  obtain ⟨its, r, ht, hz⟩ := J.tuple hx
  have hsz : its.toArray.size ≤ sizeLine := by
    rw [List.size_toArray, ← r.length]
    exact hz
  refine PyProof.Rows.tail_any (ops := [.ref c, .ref s4.heap.objs.size]) ht.typeIs (PyProof.Rows.slot_tuple_getitem.lookup) ?_ (by with_unfolding_all rfl)
  refine tup_rev ht (Heap.IsSliceOf.new _ w1 w2 w3) k1 k2 k3 hsz ?_
  refine ⟨.ref _, _, J.laid (t' := s4.toks) (o := .tup xs.reverse) (fun b ob e => Heap.get?_push_of_some _ e) (Nat.le_refl _) ?_, rfl, q _ (J.hok.fresh (Nat.le_refl _))⟩
  exact ⟨by rw [List.length_reverse]; exact hz, _, r.reverse, PyProof.Rows.IsTup.new _ _⟩
theorem i_revT {j : Nat} {p1 p2 p3 : Pos} (ha : IE X cl W ms a f ka) : IE X cl W ms (.Subscript a (.Slice none none (some (.UnaryOp .USub (.Constant (.int 1) j p1) p2)) p3) pos) (un dRevT f) ka.el :=
  pe_imp (pe_revT ha) fun s H Q ⟨r, O, Og, e, w⟩ => by
    show tRevT X.K _ s H Q
    refine one_ e w fun d v G F q p rv og kv => ?_
    obtain ⟨x, h, q⟩ := ER.ok_of q
    cases d with
    | tuple l =>
      obtain ⟨hl, rfl⟩ := ifL h
      obtain ⟨b, vs, rfl, h1, h2⟩ := rv.tupE
      refine ⟨b, vs, rfl, h1, fun c hc => ?_⟩
      obtain ⟨E', h3, h4⟩ := h2.rev
      have sub : Mi.Sub E' F := ⟨fun c hc => h4.subset hc, fun n => h4.nodup_iff.mpr n⟩
      exact q _ _ E' (p.trans (Same.new hc)) (.tup sqT_new (h3.same (Same.new hc))) (fun c hc => og c (sub.1 c hc)) (KOk.part e kv sub)
    | _ => cases h
end
end Mi

/-! Mini, part 24: sorted -/
namespace Mi
open PySem PySem.Spec L2
/-- the heap behind collect -/
def colH (h : Heap) (items : Array Value) : Heap := (h.push { cls := .type "list", data := .seq ([] : List Value).toArray }).update h.objs.size (Obj.mapSeq (· ++ items))
theorem colH_size (h : Heap) (items : Array Value) : (colH h items).objs.size = h.objs.size + 1 := by
  unfold colH
  rw [Heap.size_update, PyProof.Rows.size_push']
theorem colH_keep {h : Heap} {items : Array Value} {b : Addr} {u : Obj} (e : h.get? b = some u) : (colH h items).get? b = some u :=
  (Heap.get?_update_other _ _ (Nat.ne_of_gt (Heap.lt_size e))).trans (Heap.get?_push_of_some _ e)
section
variable {prog : Program} {w : World} {A : Around} {E : Value → Shared → Prop} {s : Shared}
theorem collect_tup {Q : List Value → Shared → Prop} {t : Addr} {u : Obj} {items : Array Value} {n : Nat} (h1 : s.heap.get? t = some u) (h2 : u.cls = .type "tuple") (h3 : u.data = .seq items n) (hz : items.size ≤ sizeLine) (q : Q items.toList { s with heap := colH s.heap items }) : wpAny (model prog w) A (collect (.ref t)) Q E s := by
  have g1 : (s.heap.push { cls := .type "list", data := .seq ([] : List Value).toArray }).get? s.heap.objs.size = some { cls := .type "list", data := .seq #[] 0 } := Heap.get?_push_size _ rfl
  have g2 := Heap.get?_update_self (Obj.mapSeq (· ++ items)) g1 rfl
  have rest : wpAny (model prog w) A (load s.heap.objs.size >>= fun o => match o.data with | .seq xs _ => pure xs.toList | _ => unsupported "internal:collect") Q E { s with heap := colH s.heap items } := by
    refine wpAny_bind (wpAny_load g2 (wpAny_pure ?_))
    rw [show ((#[] : Array Value) ++ items).toList = items.toList by simp]
    exact q
  unfold collect
  refine wpAny_bind (wpAny_runValue (codeAny_builtin F.entry_proto_collect ?_))
  rw [Around.under_plainId F.plain_proto_collect _]
  show wpAny _ A.in1 (newList [] >>= fun l => again (.builtin "list.__iadd__" ⟨[l, .ref t], []⟩)) _ _ s
  refine wpAny_bind (wpAny_newObj_type (wpAny_pure ⟨plainId_quiet F.plain_list_iadd _, codeAny_builtin F.entry_list_iadd ?_⟩))
  rw [Around.under_plainId F.plain_list_iadd _]
  refine wpAny_mono (wpAny_extend_seq (hsz := hz) (A := A) (R := fun r z => r = .ok (.ret (.ref s.heap.objs.size)) ∧ z = { s with heap := colH s.heap items })
    (s := { s with heap := s.heap.push { cls := .type "list", data := .seq ([] : List Value).toArray } }) _ t _ 0 (.inr rfl) g1 (Heap.get?_push_of_some _ h1) h2 h3 ⟨rfl, rfl⟩) (fun fin z h => ?_) fun e z h => absurd h.1 (by simp)
  cases fin with
  | done f =>
    obtain ⟨e, rfl⟩ := h
    cases e
    exact rest
  | again c => exact ⟨h.1, codeAny_mono h.2 fun r z' hr => by obtain ⟨rfl, rfl⟩ := hr; exact rest⟩
end
section
variable {X : Cx}
def rSrtT (K : Fg) : List V → Hp → VK → Prop := fun vs H Q => ∃ (a : Addr) (ns : List Int), vs = [V.ref a] ∧ SqT K H a (ns.map V.int) ∧ ∀ (ms : List Int) (p : Addr), ms.Perm ns → ms.Pairwise (· ≤ ·) → H p = none → Q (.ref p) (upd H p (.lst (ms.map V.int)))
theorem cr_sortT : CallR X (.builtin "sorted") (rSrtT X.K) := by
  intro pins s z H vs us Q I r h
  obtain ⟨a, ns, rfl, hs, q⟩ := h
  obtain ⟨its, rv, ⟨o, ho, hc, n, hd⟩, hz⟩ := I.tuple hs
  rw [Vals.ref1 r]
  have hi := rv.ints
  have lz : its.length ≤ sizeLine := by rw [← rv.length]; exact hz
  refine Calls.call_function_entry PyProof.Rows.kind_sorted PyProof.Rows.plain_sorted PyProof.Rows.entry_sorted (PyProof.Rows.args_sorted1 _) ?_
  unfold Builtin.«sorted»
  refine wpAny_bind (m := checkCount "sorted" 1 1 _) (wpAny_pure (wpAny_bind (collect_tup ho hc hd (by rw [List.size_toArray]; exact lz) (wpAny_bind (PySem.wpAny_newList ?_ lz)))))
  obtain ⟨h', eh⟩ : ∃ h', h' = colH s.heap its.toArray := ⟨_, rfl⟩
  have keep : ∀ b u, s.heap.get? b = some u → h'.get? b = some u := fun b u e => by rw [eh]; exact colH_keep e
  have sz : s.heap.objs.size ≤ h'.objs.size := by rw [eh, colH_size]; exact Nat.le_succ _
  rw [← eh]
  have hL : (h'.push { cls := .type "list", data := .seq its.toArray }).get? h'.objs.size = some (PyProof.Rows.seqObj "list" its.toArray 0) := Heap.get?_push_size _ rfl
  refine wpAny_bind (wpAny_holding (PySem.wpAny_call_entry PyProof.Rows.slot_list_sort ⟨_, hL, rfl⟩ PyProof.Rows.entry_list_sort (SrtO.list_sort_ord SrtO.swo_int hL lz (fun h2 => SrtO.ints_sortable hi h2) fun out h1 h2 => ⟨_, rfl, ?_⟩) (PyProof.Rows.args_list_sort _)))
  obtain ⟨k1, k2, k3⟩ := SrtO.ints_out hi h1 h2
  obtain ⟨ep, he⟩ := PyProof.Rows.sortedHeap_at (vs := its) (out := out.toArray) hL
  have hlen : ((out.map SrtO.iv).map V.int).length ≤ sizeLine := by
    rw [List.length_map, k2.length_eq, ← List.length_map (f := V.int)]
    exact hz
  refine wpAny_pure ⟨_, rfl, ?_⟩
  refine ⟨.ref h'.objs.size, upd H h'.objs.size (.lst ((out.map SrtO.iv).map V.int)), I.laid (t' := s.toks) (fun b u hb => ?_) sz ⟨hlen, out, ep, vals_of_ints k1, he⟩, rfl, q _ _ k2 k3 (I.hok.fresh sz)⟩
  have lt := Heap.lt_size (keep b u hb)
  rw [PyProof.Rows.sortedHeap_old (Nat.ne_of_lt lt) (by rw [PyProof.Rows.size_push']; exact Nat.lt_succ_of_lt lt)]
  exact Heap.get?_push_of_some _ (keep b u hb)
theorem leI_sort (ns : List Int) : (ns.mergeSort leI).Perm ns ∧ (ns.mergeSort leI).Pairwise (· ≤ ·) := by
  refine ⟨List.mergeSort_perm ns leI, ?_⟩
  have := List.pairwise_mergeSort (le := leI) (fun a b c h1 h2 => by unfold leI at *; simp at *; omega) (fun a b => by unfold leI; simp; omega) ns
  exact this.imp fun h => by unfold leI at h; simpa using h
theorem sort_eq {ns ms : List Int} (h1 : ms.Perm ns) (h2 : ms.Pairwise (· ≤ ·)) : ms = ns.mergeSort leI := by
  obtain ⟨k1, k2⟩ := leI_sort ns
  exact List.Perm.eq_of_pairwise (fun a b _ _ h1 h2 => Int.le_antisymm h1 h2) h2 k2 (h1.trans k1.symm)
variable {cl : Nat → Addr} {W : WX} {ms : List Md} {a : Expr} {f : En → ER D} {ka : Kd} {k : Nat} {p pos : Pos}
theorem i_sort (hr : Room k X.A) (hm : X.mg "sorted" = none) (ha : IE X cl W ms a f ka) (hg : Gl X "sorted" := by rfl) (he : starEach [a] X.env = (false, eval a X.env) :: starEach [] X.env := by rfl) (hpl : (backTo pos (starEach [] X.env)).any (·.1) = false := by rfl) : IE X cl W ms (.Call (.Name "sorted" p) [a] [] pos) (un dSort f) .fr :=
  pe_imp (pe_callB (CallR.or cr_sortedI cr_sortT) hg hm (by decide +kernel) (pa_cons ha pa_nil he) (by decide) (by decide) he hpl) fun s H Q ⟨r, O, Og, e, w⟩ => by
    show canE _ _ _ _ _ _ s H _
    refine one_ e w fun d v G F o q rv og kv => ?_
    obtain ⟨y, hh, o⟩ := ER.ok_of o
    unfold dSort at hh
    split at hh
    · rename_i l hl
      split at hh
      · rename_i ns hns
        cases hh
        have e1 := dInts_of hns
        subst e1
        obtain ⟨b, ws, M, rfl, g1, g2, g3⟩ := itemsOf_rep hl rv
        have e2 := rep_ints g2
        subst e2
        have fin : ∀ (zs : List Int) (c : Addr), zs.Perm ns → zs.Pairwise (· ≤ ·) → G c = none → Q (.ref c) (upd G c (.lst (zs.map V.int))) := fun zs c h1 h2 hc => by
          have := sort_eq h1 h2
          subst this
          refine o _ _ [c] (q.trans (Same.new hc)) (.lst upd_same ?_) (og_cons e (q.free hc) fun z hz => by cases hz) ⟨by simp, fun z hz => by rw [List.mem_singleton] at hz; rw [hz]; exact q.free hc⟩
          have : ∀ (l : List Int), RepL X.K (upd G c (.lst ((ns.mergeSort leI).map V.int))) (l.map V.int) (l.map .int) [] := fun l => by
            induction l with
            | nil => exact .nil
            | cons z l ih => exact .cons (.int z) ih
          exact this _
        rcases g1 with g1 | g1
        · exact .inl ⟨b, ns, rfl, SqL.of g1, fun zs c h1 h2 hc => fin zs c h1 h2 hc⟩
        · exact .inr ⟨b, ns, rfl, g1, fun zs c h1 h2 hc => fin zs c h1 h2 hc⟩
      · cases hh
    · cases hh
end
/-! ### t * k -/
section
variable {X : Cx} {cl : Nat → Addr} {W : WX} {ms : List Md} {a b : Expr} {f g : En → ER D} {ka kb : Kd} {pos : Pos}
theorem rep_flat {K : Fg} {G : Hp} {vs : List V} {l : List D} (h : RepL K G vs l []) : ∀ n : Nat, RepL K G (List.replicate n vs).flatten (List.replicate n l).flatten []
  | 0 => .nil
  | n + 1 => by
    rw [List.replicate_succ, List.replicate_succ, List.flatten_cons, List.flatten_cons]
    have := h.app (rep_flat h n)
    rwa [List.append_nil] at this
theorem i_rep (ha : IE X cl W ms a f ka) (hb : IE X cl W ms b g kb) : IE X cl W ms (.BinOp a .Mult b pos) (bi dRep f g) .fr :=
  pe_imp (pe_op op_repT ha hb) fun s H Q ⟨r, O, Og, e, w⟩ => by
    show tOp _ _ _ s H Q
    refine two_ e w fun d1 d2 v1 v2 G J F1 F2 o a1 a2 r1 r2 g1 g2 k1 k2 => ?_
    obtain ⟨d, hh, o⟩ := ER.ok_of o
    unfold dRep at hh
    split at hh
    · rename_i l k
      split at hh
      · rename_i hc
        cases hh
        obtain ⟨h1, h2, h3, h4, h5⟩ := hc
        obtain ⟨c, vs, rfl, q1, q2⟩ := (r1.same a2).tupE
        cases r2
        have hF := RepL.plain _ _ _ q2 h5
        subst hF
        refine ⟨c, k, vs, rfl, rfl, q1, fun z => h1 ?_, h2, h3, by rw [q2.len]; exact h4, fun p hp => ?_⟩
        · subst z
          have := q2.len
          exact List.length_eq_zero_iff.mp this.symm
        · exact o _ _ [] ((a1.trans a2).trans (Same.new hp)) (.tup sqT_new ((rep_flat q2 k.toNat).same (Same.new hp))) (fun _ z => nomatch z) (KOk.nil (by decide))
      · cases hh
    · cases hh
end
end Mi

/-! Mini, part 25: a list of ours goes into another of ours -/
namespace Mi
open PySem PySem.Spec L2
/-- x.append(y), y given up -/
def appM (x y : Nat) : En → SR := fun r => lstAt r x fun l => match r[y]? with
  | some (some d) => if decide (l.length < LIM) then .nx ((r.set x (some (.list (l ++ [d])))).set y none) else .stuck
  | _ => .stuck
section
variable {X : Cx} {cl : Nat → Addr} {W : WX} {ms : List Md} {rk : Bool} {st : Stmt} {x y : Nat}
theorem s_appM (h : PS X st (tDrop (tBM X.K "list" rAppend (tVar x) (tCons (tVar y) tNil)))) (hx : ms[x]? = some .ow) (hy : ms[y]? = some .ow) (ne : x ≠ y) : IS X cl W ms rk st (appM x y) :=
  ps_imp h fun D s H ⟨r, O, Og, en, w⟩ => by
    obtain ⟨l, hl, w⟩ := lstAt_ok w
    split at w
    · rename_i d hd
      split at w
      · rename_i hc
        rw [decide_eq_true_eq] at hc
        obtain ⟨v, F, h1, h2, h3, h4, h5⟩ := en.env.at_ hl (.inl hx)
        obtain ⟨a, vs, E, rfl, g1, g2, rfl⟩ := h2.lstE
        obtain ⟨u, Fy, k1, k2, k3, k4, k5⟩ := en.env.at_ hd (.inl hy)
        obtain ⟨n1, n2⟩ := List.nodup_cons.mp h5
        have dj : ∀ c ∈ a :: E, c ∉ Fy := fl_ne en.env.nd h4 k4 ne
        have aEF : a ∉ E ++ Fy := fun z => (List.mem_append.mp z).elim n1 (dj a List.mem_cons_self)
        refine ⟨.ref a, h1, .inl ⟨rfl, vs, SqL.of g1⟩, u, k1, a, vs, u, rfl, rfl, g1, lt_line (by rw [g2.len]; exact hc), ?_⟩
        have hxr : x < r.length := by rw [← en.env.lm]; exact (List.getElem?_eq_some_iff.mp hx).1
        have hyr : y < r.length := by rw [← en.env.lm]; exact (List.getElem?_eq_some_iff.mp hy).1
        have hxo : x < O.length := by rw [en.env.lo]; exact hxr
        have hyo : y < O.length := by rw [en.env.lo]; exact hyr
        have rl : RepL X.K (upd H a (.lst (vs ++ [u]))) (vs ++ [u]) (l ++ [d]) (E ++ Fy) := (g2.app (.one k2)).off (us := vs ++ [u]) g1 aEF
        have nE : (E ++ Fy).Nodup := List.nodup_append.mpr ⟨n2, k5, fun c hc b hb z => dj c (List.mem_cons_of_mem _ hc) (by rw [z]; exact hb)⟩
        have nd1 : (O.set y []).flatten.Nodup := fl_set en.env.nd k4 List.nodup_nil fun _ z => nomatch z
        have hO1 : (O.set y [])[x]? = some (a :: E) := by rw [List.getElem?_set_ne (Ne.symm ne)]; exact h4
        have offY : ∀ c ∈ Fy, c ∉ (O.set y []).flatten := fun c hc z => by
          obtain ⟨i, B, q1, q2⟩ := fl_ix z
          by_cases hi : y = i
          · subst hi
            rw [List.getElem?_set_self hyo] at q1
            cases q1
            cases q2
          · rw [List.getElem?_set_ne hi] at q1
            exact fl_ne en.env.nd k4 q1 hi c hc q2
        have ndP : ((O.set y []).set x (a :: (E ++ Fy))).flatten.Nodup := fl_set nd1 hO1 (List.nodup_cons.mpr ⟨aEF, nE⟩) fun c hc => by
          rcases List.mem_cons.mp hc with rfl | hc
          · exact .inl List.mem_cons_self
          · rcases List.mem_append.mp hc with hc | hc
            · exact .inl (List.mem_cons_of_mem _ hc)
            · exact .inr (offY c hc)
        rw [List.set_comm _ _ ne] at w
        refine w s (upd H a (.lst (vs ++ [u]))) ((O.set y []).set x (a :: (E ++ Fy))) ⟨en.env.upd en.nb (fun i => i = x ∨ i = y) (C := [a]) (fun b hb => ⟨x, a :: E, .inl rfl, h4, by rw [List.mem_singleton] at hb; rw [hb]; exact List.mem_cons_self⟩) (stp_upd (Same.refl H) (List.mem_singleton.mpr rfl)) (dom_upd (Same.refl H)) (by simp) rfl (by simp)
          (fun i hi => ?_) (fun i hi => ?_) (fun i B hi hB c hc => ?_) ndP, (en.nb.set (by rw [hy]; decide)).set (by rw [hx]; decide)⟩ ?_
        · have e1 : x ≠ i := fun z => hi (.inl z.symm)
          have e2 : y ≠ i := fun z => hi (.inr z.symm)
          exact ⟨by rw [List.getElem?_set_ne e1, List.getElem?_set_ne e2], rfl, by rw [List.getElem?_set_ne e1, List.getElem?_set_ne e2]⟩
        · rcases hi with rfl | rfl
          · refine ⟨fun d' h => ?_, fun h => ?_⟩
            · rw [List.getElem?_set_self (by simpa using hxr)] at h
              cases h
              refine ⟨.ref a, a :: (E ++ Fy), .ow, a :: (E ++ Fy), h1, .lst upd_same rl, fun c hc => ?_, hx, List.getElem?_set_self (by simpa using hxo), rfl⟩
              rcases List.mem_cons.mp hc with rfl | hc
              · exact h3 _ List.mem_cons_self
              · exact (List.mem_append.mp hc).elim (fun z => h3 c (List.mem_cons_of_mem _ z)) (k3 c)
            · rw [List.getElem?_set_self (by simpa using hxr)] at h
              cases h
          · refine ⟨fun d' h => ?_, fun _ => by rw [List.getElem?_set_ne ne, List.getElem?_set_self hyo]⟩
            rw [List.getElem?_set_ne ne, List.getElem?_set_self hyr] at h
            cases h
        · rcases hi with rfl | rfl
          · rw [List.getElem?_set_self (by simpa using hxo)] at hB
            cases hB
            rcases List.mem_cons.mp hc with rfl | hc
            · exact .inl ⟨i, c :: E, .inl rfl, h4, List.mem_cons_self⟩
            · rcases List.mem_append.mp hc with hc | hc
              · exact .inl ⟨i, a :: E, .inl rfl, h4, List.mem_cons_of_mem _ hc⟩
              · exact .inl ⟨y, Fy, .inr rfl, k4, hc⟩
          · rw [List.getElem?_set_ne ne, List.getElem?_set_self hyo] at hB
            cases hB
            cases hc
        · refine ⟨fun b o h n => stp_upd (C := O.flatten) (Same.refl H) (mem_fl h4 List.mem_cons_self) b o h n, dom_upd (Same.refl H), fun b hb => ?_, fun _ _ => rfl⟩
          obtain ⟨i, B, e1, e2⟩ := fl_ix hb
          by_cases hi : x = i
          · subst hi
            rw [List.getElem?_set_self (by simpa using hxo)] at e1
            cases e1
            rcases List.mem_cons.mp e2 with rfl | e2
            · exact .inl (mem_fl h4 List.mem_cons_self)
            · rcases List.mem_append.mp e2 with e2 | e2
              · exact .inl (mem_fl h4 (List.mem_cons_of_mem _ e2))
              · exact .inl (mem_fl k4 e2)
          · rw [List.getElem?_set_ne hi] at e1
            by_cases hj : y = i
            · subst hj
              rw [List.getElem?_set_self hyo] at e1
              cases e1
              cases e2
            · rw [List.getElem?_set_ne hj] at e1
              exact .inl (mem_fl e1 e2)
      · exact w.elim
    · exact w.elim
end
end Mi

/-! Mini, part 26: loops as equations -/
namespace Mi
open PySem
/-- what the loop's name holds behind it -/
def lv (v : Option D) (lo n : Nat) : Option D := if n = 0 then v else some (.int ((lo + n - 1 : Nat) : Int))
theorem foldI {S : Type} {st : S → Nat → S} {I : S → Nat → Prop} {N : Nat} : ∀ (n lo : Nat) (s : S), lo + n = N → I s lo → (∀ s k, lo ≤ k → k < N → I s k → I (st s k) (k + 1)) → I ((List.range' lo n).foldl st s) N
  | 0, lo, s, e, h, _ => by rw [← e]; exact h
  | n + 1, lo, s, e, h, q => by
    rw [List.range'_succ, List.foldl_cons]
    exact foldI n (lo + 1) _ (by omega) (q s lo (Nat.le_refl _) (by omega) h) fun s k h1 h2 h3 => q s k (by omega) h2 h3
theorem forL_N {S : Type} {x : Nat} {b : En → SR} {R : S → Option D → En} (hR : ∀ s v d, (R s v).set x (some d) = R s (some d)) {st : S → Nat → S} {I : S → Nat → Prop} {N : Nat} : ∀ (n lo : Nat) (s : S) (v : Option D), lo + n = N → I s lo →
    (∀ s k, lo ≤ k → k < N → I s k → b (R s (some (.int (k : Int)))) = .nx (R (st s k) (some (.int (k : Int)))) ∧ I (st s k) (k + 1)) →
    forL x b (ids (lo : Int) n) (R s v) = .nx (R ((List.range' lo n).foldl st s) (lv v lo n))
  | 0, lo, s, v, e, h, _ => rfl
  | n + 1, lo, s, v, e, h, q => by
    obtain ⟨h1, h2⟩ := q s lo (Nat.le_refl _) (by omega) h
    rw [ids_succ, forL_cons, hR, h1, next_nx]
    have e1 : ((lo : Int) + 1) = ((lo + 1 : Nat) : Int) := by omega
    rw [e1, forL_N hR n (lo + 1) (st s lo) (some (.int (lo : Int))) (by omega) h2 fun s k h1 h2 h3 => q s k (by omega) h2 h3, List.range'_succ, List.foldl_cons]
    congr 2
    unfold lv
    by_cases c : n = 0
    · subst c; simp
    · rw [if_neg c, if_neg (by omega)]
      congr 2
      omega
/-- a loop over a range, to its end -/
theorem for_N {S : Type} {x : Nat} {i : En → ER (List D)} {b : En → SR} {r : En} {lo n : Nat} (R : S → Option D → En) (st : S → Nat → S) (I : S → Nat → Prop) (s : S) (v : Option D) (hi : i r = .val (ids (lo : Int) n)) (hr : r = R s v) (hR : ∀ s v d, (R s v).set x (some d) = R s (some d)) (h0 : I s lo)
    (q : ∀ s k, lo ≤ k → k < lo + n → I s k → b (R s (some (.int (k : Int)))) = .nx (R (st s k) (some (.int (k : Int)))) ∧ I (st s k) (k + 1)) :
    forS x i b r = .nx (R ((List.range' lo n).foldl st s) (lv v lo n)) := by
  rw [forS_val hi, hr]
  exact forL_N hR n lo s v rfl h0 q
/-- a loop over data, to its end -/
def lvD (v : Option D) (ds : List D) : Option D := match ds.getLast? with
  | none => v
  | some d => some d
theorem lvD_cons (v : Option D) (d : D) (ds : List D) : lvD v (d :: ds) = lvD (some d) ds := by
  unfold lvD
  rw [List.getLast?_cons]
  cases ds.getLast? <;> rfl
theorem forL_D {S : Type} {x : Nat} {b : En → SR} {R : S → Option D → En} (hR : ∀ s v d, (R s v).set x (some d) = R s (some d)) {st : S → D → S} {I : S → List D → Prop} : ∀ (ds : List D) (s : S) (v : Option D), I s ds →
    (∀ s d ds, I s (d :: ds) → b (R s (some d)) = .nx (R (st s d) (some d)) ∧ I (st s d) ds) → forL x b ds (R s v) = .nx (R (ds.foldl st s) (lvD v ds))
  | [], s, v, h, _ => rfl
  | d :: ds, s, v, h, q => by
    obtain ⟨h1, h2⟩ := q s d ds h
    rw [forL_cons, hR, h1, next_nx, forL_D hR ds _ _ h2 q, lvD_cons]
    rfl
theorem for_D {S : Type} {x : Nat} {i : En → ER (List D)} {b : En → SR} {r : En} {ds : List D} (R : S → Option D → En) (st : S → D → S) (I : S → List D → Prop) (s : S) (v : Option D) (hi : i r = .val ds) (hr : r = R s v) (hR : ∀ s v d, (R s v).set x (some d) = R s (some d)) (h0 : I s ds)
    (q : ∀ s d ds, I s (d :: ds) → b (R s (some d)) = .nx (R (st s d) (some d)) ∧ I (st s d) ds) :
    forS x i b r = .nx (R (ds.foldl st s) (lvD v ds)) := by
  rw [forS_val hi, hr]
  exact forL_D hR ds s v h0 q
/-- over rows, one by one: the state is told of what is left -/
theorem for_M {A S : Type} {x : Nat} {i : En → ER (List D)} {b : En → SR} {r : En} {l : List A} (f : A → D) (R : S → Option D → En) (st : S → A → S) (I : S → List A → Prop) (s : S) (v : Option D) (hi : i r = .val (l.map f)) (hr : r = R s v) (hR : ∀ s v d, (R s v).set x (some d) = R s (some d)) (h0 : I s l)
    (q : ∀ s a l, I s (a :: l) → b (R s (some (f a))) = .nx (R (st s a) (some (f a))) ∧ I (st s a) l) :
    forS x i b r = .nx (R (l.foldl st s) (lvD v (l.map f))) := by
  rw [forS_val hi, hr]
  clear hi hr
  induction l generalizing s v with
  | nil => rfl
  | cons a l ih =>
    obtain ⟨h1, h2⟩ := q s a l h0
    rw [List.map_cons, forL_cons, hR, h1, next_nx, ih _ _ h2, lvD_cons]
    rfl
/-- a loop that tells yes or no: the first k that fails tells o -/
theorem for_all {S : Type} {x : Nat} {i : En → ER (List D)} {b : En → SR} {r : En} {lo n : Nat} (R : S → Option D → En) (p : Nat → Bool) (o : D) (s : S) (v : Option D) (hi : i r = .val (ids (lo : Int) n)) (hr : r = R s v) (hR : ∀ s v d, (R s v).set x (some d) = R s (some d))
    (q : ∀ s k, lo ≤ k → k < lo + n → (p k = true ∧ ∃ s', b (R s (some (.int (k : Int)))) = .nx (R s' (some (.int (k : Int))))) ∨ (p k = false ∧ ∃ r', b (R s (some (.int (k : Int)))) = .ret o r')) :
    ((∀ k, lo ≤ k → k < lo + n → p k = true) ∧ ∃ s' v', forS x i b r = .nx (R s' v')) ∨ ((∃ k, lo ≤ k ∧ k < lo + n ∧ p k = false) ∧ ∃ r', forS x i b r = .ret o r') := by
  rw [forS_val hi, hr]
  clear hi hr
  induction n generalizing lo s v with
  | zero => exact .inl ⟨fun k h1 h2 => by omega, s, v, rfl⟩
  | succ n ih =>
    have e1 : ((lo : Int) + 1) = ((lo + 1 : Nat) : Int) := by omega
    rw [ids_succ, forL_cons, hR, e1]
    rcases q s lo (Nat.le_refl _) (by omega) with ⟨h1, s', h2⟩ | ⟨h1, r', h2⟩
    · rw [h2, next_nx]
      rcases ih (lo := lo + 1) s' (some (.int (lo : Int))) (fun s k a b => q s k (by omega) (by omega)) with ⟨g1, g2⟩ | ⟨⟨k, a1, a2, a3⟩, g2⟩
      · exact .inl ⟨fun k a b => by
          by_cases c : k = lo
          · rw [c]; exact h1
          · exact g1 k (by omega) (by omega), g2⟩
      · exact .inr ⟨⟨k, by omega, by omega, a3⟩, g2⟩
    · rw [h2]
      exact .inr ⟨⟨lo, Nat.le_refl _, by omega, h1⟩, r', rfl⟩
theorem rng1_val {g : En → ER (List D)} {r : En} {n : Nat} (h : g r = .val [.int (n : Int)]) (hn : n ≤ 100000) : rng1 g r = .val (ids ((0 : Nat) : Int) n) := by
  rw [rng1_at, h, ER.bind_val, dRng1_nat hn]
  rfl
end Mi

/-! Mini, part 27: statements that change lists, step by step -/
namespace Mi
open PySem
def lstK (o : Option (Option D)) (f : List D → SR) : SR := match o with
  | some (some (.list l)) => f l
  | _ => .stuck
theorem lstK_l (l : List D) (f : List D → SR) : lstK (some (some (.list l))) f = f l := rfl
theorem lstAt_k (r : En) (x : Nat) (f : List D → SR) : lstAt r x f = lstK r[x]? f := by
  unfold lstAt lstK
  rfl
def optK {A : Type} (o : Option A) (f : A → SR) : SR := match o with
  | some q => f q
  | none => .stuck
theorem optK_s {A : Type} (q : A) (f : A → SR) : optK (some q) f = f q := rfl
theorem optK_n {A : Type} (f : A → SR) : optK none f = .stuck := rfl
def lsK (o : Option D) (f : List D → SR) : SR := match o with
  | some (.list m) => f m
  | _ => .stuck
theorem lsK_l (m : List D) (f : List D → SR) : lsK (some (.list m)) f = f m := rfl
def dK (o : Option (Option D)) (f : D → SR) : SR := match o with
  | some (some d) => f d
  | _ => .stuck
theorem dK_d (d : D) (f : D → SR) : dK (some (some d)) f = f d := rfl
theorem ixOf_nat {k n : Nat} (h : k < n) : ixOf (.int (k : Int)) n = some k := ixN_nat h
theorem ixOf_zero {n : Nat} (h : 0 < n) : ixOf (.int 0) n = some 0 := ixOf_nat h
section
variable (x y : Nat) (e i j : En → ER D) (r : En)
theorem lst1_k (l : List D) (a : ER D) (f : Nat → List D → SR) : lst1 r x l a f = a.toS r fun d => optK (ixOf d l.length) fun q => lsK l[q]? fun m => f q m := by
  unfold lst1
  congr 1
  funext d
  cases ixOf d l.length with
  | none => rfl
  | some q =>
    show (match l[q]? with | some (.list m) => _ | _ => _) = lsK l[q]? _
    unfold lsK
    rfl
theorem appF_at : appF x e r = lstK r[x]? fun l => (e r).toS r fun d => if l.length < LIM then .nx (r.set x (some (.list (l ++ [d])))) else .stuck := by
  unfold appF
  rw [lstAt_k]
  simp only [decide_eq_true_eq]
theorem appP_at : appP x e r = lstK r[x]? fun l => (e r).toS r fun d => if plain d = true ∧ l.length < LIM then .nx (r.set x (some (.list (l ++ [d])))) else .stuck := by
  unfold appP
  rw [lstAt_k]
  simp only [Bool.and_eq_true, decide_eq_true_eq]
theorem app1P_at : app1P x i e r = lstK r[x]? fun l => (i r).toS r fun d => optK (ixOf d l.length) fun q => lsK l[q]? fun m => (e r).toS r fun d => if plain d = true ∧ m.length < LIM then .nx (r.set x (some (.list (l.set q (.list (m ++ [d])))))) else .stuck := by
  unfold app1P
  rw [lstAt_k]
  simp only [lst1_k, Bool.and_eq_true, decide_eq_true_eq]
theorem setP_at : setP x i e r = (e r).toS r fun d => lstK r[x]? fun l => (i r).toS r fun z => optK (ixOf z l.length) fun q => if plain d = true then .nx (r.set x (some (.list (l.set q d)))) else .stuck := by
  unfold setP
  simp only [lstAt_k]
  congr 1; funext d; congr 1; funext l; congr 1; funext z
  cases ixOf z l.length <;> rfl
theorem set1P_at : set1P x i j e r = (e r).toS r fun d => lstK r[x]? fun l => (i r).toS r fun z => optK (ixOf z l.length) fun q => lsK l[q]? fun m => (j r).toS r fun z => optK (ixOf z m.length) fun p => if plain d = true then .nx (r.set x (some (.list (l.set q (.list (m.set p d)))))) else .stuck := by
  unfold set1P
  simp only [lstAt_k, lst1_k]
  congr 1; funext d; congr 1; funext l; congr 1; funext z; congr 1; funext q; congr 1; funext m; congr 1; funext u
  cases ixOf u m.length <;> rfl
theorem pop1_at : pop1 y x i r = lstK r[x]? fun l => (i r).toS r fun z => optK (ixOf z l.length) fun q => lsK l[q]? fun m => optK m.getLast? fun d => if plain d = true then .nx ((r.set x (some (.list (l.set q (.list m.dropLast))))).set y (some d)) else .stuck := by
  unfold pop1
  simp only [lstAt_k, lst1_k]
  congr 1; funext l; congr 1; funext z; congr 1; funext q; congr 1; funext m
  cases m.getLast? <;> rfl
theorem pop1E_at : pop1E x i r = lstK r[x]? fun l => (i r).toS r fun z => optK (ixOf z l.length) fun q => lsK l[q]? fun m => optK m.getLast? fun _ => .nx (r.set x (some (.list (l.set q (.list m.dropLast))))) := by
  unfold pop1E
  simp only [lstAt_k, lst1_k]
  congr 1; funext l; congr 1; funext z; congr 1; funext q; congr 1; funext m
  cases m.getLast? <;> rfl
theorem extP_at : extP x e r = lstK r[x]? fun l => (e r).toS r fun d => optK (itemsOf d) fun m => if plainL m = true ∧ l.length + m.length < LIM then .nx (r.set x (some (.list (l ++ m)))) else .stuck := by
  unfold extP
  simp only [lstAt_k, Bool.and_eq_true, decide_eq_true_eq]
  congr 1; funext l; congr 1; funext d
  cases itemsOf d <;> rfl
theorem extF_at : extF x e r = lstK r[x]? fun l => (e r).toS r fun d => optK (itemsOf d) fun m => if l.length + m.length < LIM then .nx (r.set x (some (.list (l ++ m)))) else .stuck := by
  unfold extF
  simp only [lstAt_k, decide_eq_true_eq]
  congr 1; funext l; congr 1; funext d
  cases itemsOf d <;> rfl
theorem setN_at : setN x i e r = (e r).toS r fun d => lstK r[x]? fun l => (i r).toS r fun z => optK (ixOf z l.length) fun q => if plainI d = true then .nx (r.set x (some (.list (l.set q d)))) else .stuck := by
  unfold setN
  simp only [lstAt_k]
  congr 1; funext d; congr 1; funext l; congr 1; funext z
  cases ixOf z l.length <;> rfl
theorem setO_at : setO x i e r = (e r).toS r fun d => lstK r[x]? fun l => (i r).toS r fun z => optK (ixOf z l.length) fun q => .nx (r.set x (some (.list (l.set q d)))) := by
  unfold setO
  simp only [lstAt_k]
  congr 1; funext d; congr 1; funext l; congr 1; funext z
  cases ixOf z l.length <;> rfl
theorem appPop_at : appPop y x i r = lstK r[y]? fun k => lstK r[x]? fun l => (i r).toS r fun z => optK (popIx z l.length) fun q => optK l[q]? fun d => if plain d = true ∧ k.length < LIM then .nx ((r.set x (some (.list (l.eraseIdx q)))).set y (some (.list (k ++ [d])))) else .stuck := by
  unfold appPop
  simp only [lstAt_k, Bool.and_eq_true, decide_eq_true_eq]
  congr 1; funext k; congr 1; funext l; congr 1; funext z
  cases popIx z l.length with
  | none => rfl
  | some q =>
    show (match l[q]? with | some d => _ | none => _) = optK (l[q]?) _
    cases l[q]? <;> rfl
theorem appM_at : appM x y r = lstK r[x]? fun l => dK r[y]? fun d => if l.length < LIM then .nx ((r.set x (some (.list (l ++ [d])))).set y none) else .stuck := by
  unfold appM
  simp only [lstAt_k, decide_eq_true_eq]
  refine congrArg (lstK r[x]?) (funext fun l => ?_)
  generalize r[y]? = o
  match o with
  | none => rfl
  | some none => rfl
  | some (some d) => rfl
theorem asgM_at : asgM x y r = dK r[y]? fun d => .nx ((r.set y none).set x (some d)) := by
  unfold asgM
  generalize r[y]? = o
  match o with
  | none => rfl
  | some none => rfl
  | some (some d) => rfl
theorem asgM_some {d : D} (h : r[y]? = some (some d)) : asgM x y r = .nx ((r.set y none).set x (some d)) := by
  unfold asgM
  rw [h]
variable (F : List D → FR) (g : En → ER (List D)) (xs : List (Option Nat))
def frK (a : FR) (f : D → List D → SR) : SR := match a with
  | .ret d o => f d o
  | _ => .stuck
theorem frK_r (d : D) (o : List D) (f : D → List D → SR) : frK (.ret d o) f = f d o := rfl
def gK (a : ER (List D)) (r : En) (f : List D → SR) : SR := match a with
  | .val ds => f ds
  | .exn c => .exn c r
  | .stuck => .stuck
theorem gK_v (ds : List D) (r : En) (f : List D → SR) : gK (.val ds) r f = f ds := rfl
theorem ioCall_k (k : D → En → SR) : ioCall F g xs r k = gK (g r) r fun ds => frK (F ds) fun d o => k d (setAll (ysOf xs) o r) := by
  unfold ioCall gK
  cases g r with
  | val ds =>
    show (match F ds with | .ret d outs => _ | _ => _) = frK (F ds) _
    unfold frK
    rfl
  | _ => rfl
theorem asgI_at : asgI y F g xs r = gK (g r) r fun ds => frK (F ds) fun d o => .nx ((setAll (ysOf xs) o r).set y (some d)) := ioCall_k ..
theorem exprI_at : exprI F g xs r = gK (g r) r fun ds => frK (F ds) fun d o => .nx (setAll (ysOf xs) o r) := ioCall_k ..
theorem appI_at : appI x F g xs r = lstK r[x]? fun _ => gK (g r) r fun ds => frK (F ds) fun d o => lstK (setAll (ysOf xs) o r)[x]? fun l => if plain d = true ∧ l.length < LIM then .nx ((setAll (ysOf xs) o r).set x (some (.list (l ++ [d])))) else .stuck := by
  unfold appI
  simp only [lstAt_k, ioCall_k, Bool.and_eq_true, decide_eq_true_eq]
theorem ysOf_some (n : Nat) (l : List (Option Nat)) : ysOf (some n :: l) = n :: ysOf l := rfl
theorem ysOf_none (l : List (Option Nat)) : ysOf (none :: l) = ysOf l := rfl
theorem ysOf_nil : ysOf [] = [] := rfl
theorem setAll_cons (ys : List Nat) (d : D) (ds : List D) : setAll (x :: ys) (d :: ds) r = setAll ys ds (r.set x (some d)) := rfl
theorem setAll_nil (ds : List D) : setAll [] ds r = r := by unfold setAll; rfl
theorem runF_fin (n : Nat) (b : En → SR) (ds : List D) : runF n b ds = (b (ds.map some ++ List.replicate (n - ds.length) none)).fin := runF_eq n b ds
end
/-! lists of ints -/
theorem dInts_iff (l : List Int) : dInts (l.map .int) = some l := dInts_map l
theorem dSum_iT (l : List Int) : dSum (iT l) = some (.int l.sum) := by
  unfold dSum itemsOf
  show ((dInts (l.map .int)).map fun ns => PyData.int ns.sum) = _
  rw [dInts_map]
  rfl
theorem dSum_iL (l : List Int) : dSum (iL l) = some (.int l.sum) := by
  unfold dSum itemsOf
  show ((dInts (l.map .int)).map fun ns => PyData.int ns.sum) = _
  rw [dInts_map]
  rfl
theorem dSort_iL (l : List Int) : dSort (iL l) = some (iL (l.mergeSort leI)) := by
  unfold dSort itemsOf
  show (match dInts (l.map .int) with | some ns => _ | none => _) = _
  rw [dInts_map]
theorem dSort_iT (l : List Int) : dSort (iT l) = some (iL (l.mergeSort leI)) := by
  unfold dSort itemsOf
  show (match dInts (l.map .int) with | some ns => _ | none => _) = _
  rw [dInts_map]
theorem isT_bb (b : Bool) : isT .bool (.bool b) = true := rfl
theorem itemsOf_l (l : List D) : itemsOf (.list l) = some l := rfl
theorem itemsOf_t (l : List D) : itemsOf (.tuple l) = some l := rfl
theorem dIdxL_l (l : List D) (i : Int) : dIdxL (.list l) (.int i) = dIdx (.list l) (.int i) := rfl
theorem dRevT_t {l : List D} (h : l.length ≤ LIM) : dRevT (.tuple l) = some (.tuple l.reverse) := by
  show (if l.length ≤ LIM then _ else _) = _
  rw [if_pos h]
theorem dRevL_l (l : List D) : dRevL (.list l) = some (.list l.reverse) := rfl
theorem dLenN (l : List D) : dLen (.list l) = some (.int l.length) := rfl
end Mi

/-! Mini, part 28: loops by invariants -/
namespace Mi
open PySem
theorem next_next (a : SR) (f g : En → SR) : (a.next f).next g = a.next fun r => (f r).next g := by cases a <;> rfl
/-- a turn of a loop: it goes on, or tells what is wanted -/
abbrev Turn (P : SR → Prop) (I : En → Prop) (a : SR) : Prop := (∃ r', a = .nx r' ∧ I r') ∨ ∃ d r', a = .ret d r' ∧ P (.ret d r')
section
variable {P : SR → Prop} {x : Nat} {b g : En → SR} {r : En}
theorem forL_inv (I : En → Nat → Prop) : ∀ (n lo : Nat) (r : En), I r lo → (∀ r k, lo ≤ k → k < lo + n → I r k → (∃ r', b (r.set x (some (.int (k : Int)))) = .nx r' ∧ I r' (k + 1)) ∨ ∃ d r', b (r.set x (some (.int (k : Int)))) = .ret d r' ∧ P (.ret d r')) → (∀ r', I r' (lo + n) → P (g r')) → P ((forL x b (ids (lo : Int) n) r).next g)
  | 0, lo, r, h0, _, c => c r h0
  | n + 1, lo, r, h0, q, c => by
    rw [ids_succ, forL_cons, show ((lo : Int) + 1) = ((lo + 1 : Nat) : Int) by omega]
    rcases q r lo (Nat.le_refl _) (by omega) h0 with ⟨r', h1, h2⟩ | ⟨d, r', h1, h2⟩
    · rw [h1, next_nx]
      exact forL_inv I n (lo + 1) r' h2 (fun r k h1 h2 => q r k (by omega) (by omega)) fun r' h => c r' (by rw [show lo + (n + 1) = lo + 1 + n by omega]; exact h)
    · rw [h1]
      exact h2
/-- over a range; what is told within is told -/
theorem for_inv {i : En → ER (List D)} {lo n : Nat} (I : En → Nat → Prop) (hi : i r = .val (ids (lo : Int) n)) (h0 : I r lo)
    (q : ∀ r k, lo ≤ k → k < lo + n → I r k → (∃ r', b (r.set x (some (.int (k : Int)))) = .nx r' ∧ I r' (k + 1)) ∨ ∃ d r', b (r.set x (some (.int (k : Int)))) = .ret d r' ∧ P (.ret d r'))
    (c : ∀ r', I r' (lo + n) → P (g r')) : P ((forS x i b r).next g) := by
  rw [forS_val hi]
  exact forL_inv I n lo r h0 q c
/-- nothing stands behind it -/
theorem for_inv0 {i : En → ER (List D)} {lo n : Nat} (I : En → Nat → Prop) (hi : i r = .val (ids (lo : Int) n)) (h0 : I r lo)
    (q : ∀ r k, lo ≤ k → k < lo + n → I r k → (∃ r', b (r.set x (some (.int (k : Int)))) = .nx r' ∧ I r' (k + 1)) ∨ ∃ d r', b (r.set x (some (.int (k : Int)))) = .ret d r' ∧ P (.ret d r'))
    (c : ∀ r', I r' (lo + n) → P (.nx r')) : P (forS x i b r) := by
  have := for_inv (g := SR.nx) I hi h0 q c
  have e : (forS x i b r).next SR.nx = forS x i b r := by cases forS x i b r <;> rfl
  rwa [e] at this
theorem forL_invM {A : Type} (f : A → D) (I : En → List A → Prop) : ∀ (l : List A) (r : En), I r l → (∀ r a l, I r (a :: l) → (∃ r', b (r.set x (some (f a))) = .nx r' ∧ I r' l) ∨ ∃ d r', b (r.set x (some (f a))) = .ret d r' ∧ P (.ret d r')) → (∀ r', I r' [] → P (g r')) → P ((forL x b (l.map f) r).next g)
  | [], r, h0, _, c => c r h0
  | a :: l, r, h0, q, c => by
    rw [List.map_cons, forL_cons]
    rcases q r a l h0 with ⟨r', h1, h2⟩ | ⟨d, r', h1, h2⟩
    · rw [h1, next_nx]
      exact forL_invM f I l r' h2 q c
    · rw [h1]
      exact h2
/-- over data; the invariant is told of what is left -/
theorem for_invM {A : Type} {i : En → ER (List D)} {l : List A} (f : A → D) (I : En → List A → Prop) (hi : i r = .val (l.map f)) (h0 : I r l)
    (q : ∀ r a l, I r (a :: l) → (∃ r', b (r.set x (some (f a))) = .nx r' ∧ I r' l) ∨ ∃ d r', b (r.set x (some (f a))) = .ret d r' ∧ P (.ret d r'))
    (c : ∀ r', I r' [] → P (g r')) : P ((forS x i b r).next g) := by
  rw [forS_val hi]
  exact forL_invM f I l r h0 q c
theorem for_invM0 {A : Type} {i : En → ER (List D)} {l : List A} (f : A → D) (I : En → List A → Prop) (hi : i r = .val (l.map f)) (h0 : I r l)
    (q : ∀ r a l, I r (a :: l) → (∃ r', b (r.set x (some (f a))) = .nx r' ∧ I r' l) ∨ ∃ d r', b (r.set x (some (f a))) = .ret d r' ∧ P (.ret d r'))
    (c : ∀ r', I r' [] → P (.nx r')) : P (forS x i b r) := by
  have := for_invM (g := SR.nx) f I hi h0 q c
  have e : (forS x i b r).next SR.nx = forS x i b r := by cases forS x i b r <;> rfl
  rwa [e] at this
/-- while: n turns at most -/
theorem whileL_inv {t : En → ER D} (I : En → Nat → Prop) : ∀ (m n : Nat) (r : En), m < n → I r m →
    (∀ r m, I r m → (t r = .val (.bool false) ∧ P (g r)) ∨ (t r = .val (.bool true) ∧ ((∃ r' m', b r = .nx r' ∧ m' < m ∧ I r' m') ∨ ∃ d r', b r = .ret d r' ∧ P (.ret d r')))) → P ((whileL t b n r).next g)
  | m, 0, r, h, _, _ => by omega
  | m, n + 1, r, h, h0, q => by
    rcases q r m h0 with ⟨h1, h2⟩ | ⟨h1, ⟨r', m', h2, h3, h4⟩ | ⟨d, r', h2, h3⟩⟩
    · rw [while_ff _ _ _ _ h1, next_nx]
      exact h2
    · rw [while_tt _ _ _ _ h1, h2, next_nx]
      exact whileL_inv I m' n r' (by omega) h4 q
    · rw [while_tt _ _ _ _ h1, h2]
      exact h3
theorem while_inv {t : En → ER D} (I : En → Nat → Prop) (m : Nat) (hm : m < 100000) (h0 : I r m)
    (q : ∀ r m, I r m → (t r = .val (.bool false) ∧ P (g r)) ∨ (t r = .val (.bool true) ∧ ((∃ r' m', b r = .nx r' ∧ m' < m ∧ I r' m') ∨ ∃ d r', b r = .ret d r' ∧ P (.ret d r')))) : P ((whileS t b r).next g) := by
  rw [whileS_at]
  exact whileL_inv I m FUEL r hm h0 q
theorem while_inv0 {t : En → ER D} (I : En → Nat → Prop) (m : Nat) (hm : m < 100000) (h0 : I r m)
    (q : ∀ r m, I r m → (t r = .val (.bool false) ∧ P (.nx r)) ∨ (t r = .val (.bool true) ∧ ((∃ r' m', b r = .nx r' ∧ m' < m ∧ I r' m') ∨ ∃ d r', b r = .ret d r' ∧ P (.ret d r')))) : P (whileS t b r) := by
  have := while_inv (g := SR.nx) I m hm h0 q
  have e : (whileS t b r).next SR.nx = whileS t b r := by cases whileS t b r <;> rfl
  rwa [e] at this
/-- the same as `Turn`, closed to rewriting -/
inductive Tn (P : SR → Prop) (I : En → Prop) (a : SR) : Prop where
  | go {r' : En} (h : a = .nx r') (k : I r') : Tn P I a
  | tell {d : D} {r' : En} (h : a = .ret d r') (k : P (.ret d r')) : Tn P I a
theorem Tn.turn {P : SR → Prop} {I : En → Prop} {a : SR} (h : Tn P I a) : Turn P I a := by
  cases h with
  | go h k => exact .inl ⟨_, h, k⟩
  | tell h k => exact .inr ⟨_, _, h, k⟩
theorem for_t {i : En → ER (List D)} {lo n : Nat} (I : En → Nat → Prop) (hi : i r = .val (ids (lo : Int) n)) (h0 : I r lo)
    (q : ∀ r k, lo ≤ k → k < lo + n → I r k → Tn P (fun r' => I r' (k + 1)) (b (r.set x (some (.int (k : Int)))))) (c : ∀ r', I r' (lo + n) → P (g r')) : P ((forS x i b r).next g) :=
  for_inv I hi h0 (fun r k h1 h2 h3 => (q r k h1 h2 h3).turn) c
theorem for_t0 {i : En → ER (List D)} {lo n : Nat} (I : En → Nat → Prop) (hi : i r = .val (ids (lo : Int) n)) (h0 : I r lo)
    (q : ∀ r k, lo ≤ k → k < lo + n → I r k → Tn P (fun r' => I r' (k + 1)) (b (r.set x (some (.int (k : Int)))))) (c : ∀ r', I r' (lo + n) → P (.nx r')) : P (forS x i b r) :=
  for_inv0 I hi h0 (fun r k h1 h2 h3 => (q r k h1 h2 h3).turn) c
theorem for_tM {A : Type} {i : En → ER (List D)} {l : List A} (f : A → D) (I : En → List A → Prop) (hi : i r = .val (l.map f)) (h0 : I r l)
    (q : ∀ r a l, I r (a :: l) → Tn P (fun r' => I r' l) (b (r.set x (some (f a))))) (c : ∀ r', I r' [] → P (g r')) : P ((forS x i b r).next g) :=
  for_invM f I hi h0 (fun r a l h => (q r a l h).turn) c
theorem for_tM0 {A : Type} {i : En → ER (List D)} {l : List A} (f : A → D) (I : En → List A → Prop) (hi : i r = .val (l.map f)) (h0 : I r l)
    (q : ∀ r a l, I r (a :: l) → Tn P (fun r' => I r' l) (b (r.set x (some (f a))))) (c : ∀ r', I r' [] → P (.nx r')) : P (forS x i b r) :=
  for_invM0 f I hi h0 (fun r a l h => (q r a l h).turn) c
theorem Tn.whl {I : En → Nat → Prop} {m : Nat} {a : SR} (h : Tn P (fun r' => ∃ m', m' < m ∧ I r' m') a) : (∃ r' m', a = .nx r' ∧ m' < m ∧ I r' m') ∨ ∃ d r', a = .ret d r' ∧ P (.ret d r') := by
  cases h with
  | go h k =>
    obtain ⟨m', k1, k2⟩ := k
    exact .inl ⟨_, m', h, k1, k2⟩
  | tell h k => exact .inr ⟨_, _, h, k⟩
theorem while_t {t : En → ER D} (I : En → Nat → Prop) (m : Nat) (hm : m < 100000) (h0 : I r m)
    (q : ∀ r m, I r m → (t r = .val (.bool false) ∧ P (g r)) ∨ (t r = .val (.bool true) ∧ Tn P (fun r' => ∃ m', m' < m ∧ I r' m') (b r))) : P ((whileS t b r).next g) :=
  while_inv I m hm h0 fun r m h => (q r m h).imp id fun h => ⟨h.1, h.2.whl⟩
theorem while_t0 {t : En → ER D} (I : En → Nat → Prop) (m : Nat) (hm : m < 100000) (h0 : I r m)
    (q : ∀ r m, I r m → (t r = .val (.bool false) ∧ P (.nx r)) ∨ (t r = .val (.bool true) ∧ Tn P (fun r' => ∃ m', m' < m ∧ I r' m') (b r))) : P (whileS t b r) :=
  while_inv0 I m hm h0 fun r m h => (q r m h).imp id fun h => ⟨h.1, h.2.whl⟩
end
theorem lcGo_M {A : Type} (g : A → D) {x : Nat} {t e : En → ER D} {r : En} (p : A → Bool) (f : A → D) : ∀ (l : List A), (∀ a ∈ l, t (r.set x (some (g a))) = .val (.bool (p a))) → (∀ a ∈ l, p a = true → e (r.set x (some (g a))) = .val (f a)) → lcGo x t e r (l.map g) = .val ((l.filter p).map f)
  | [], _, _ => rfl
  | a :: l, h1, h2 => by
    have ih := lcGo_M g (x := x) (t := t) (e := e) (r := r) p f l (fun d hd => h1 d (List.mem_cons_of_mem _ hd)) fun d hd => h2 d (List.mem_cons_of_mem _ hd)
    rw [List.map_cons]
    unfold lcGo
    rw [h1 a List.mem_cons_self, ih]
    cases hp : p a with
    | false => simp [List.filter, hp]
    | true =>
      rw [h2 a List.mem_cons_self hp]
      simp [List.filter, hp]
/-- a comprehension over data of one kind -/
theorem lc_M {A : Type} (g : A → D) {x : Nat} {i : En → ER (List D)} {t e : En → ER D} {r : En} {l : List A} (p : A → Bool) (f : A → D) (hi : i r = .val (l.map g)) (hl : l.length ≤ LIM) (h1 : ∀ a ∈ l, t (r.set x (some (g a))) = .val (.bool (p a))) (h2 : ∀ a ∈ l, p a = true → e (r.set x (some (g a))) = .val (f a)) :
    lc x i t e r = .val (.list ((l.filter p).map f)) := by
  unfold lc
  rw [hi, ER.bind_val, lcGo_M g p f l h1 h2, ER.bind_val, if_pos (by rw [List.length_map]; exact hl)]
  rfl
theorem lc_A {A : Type} (g : A → D) {x : Nat} {i : En → ER (List D)} {e : En → ER D} {r : En} {l : List A} (f : A → D) (hi : i r = .val (l.map g)) (hl : l.length ≤ LIM) (h2 : ∀ a ∈ l, e (r.set x (some (g a))) = .val (f a)) :
    lc x i (cst (.bool true)) e r = .val (.list (l.map f)) := by
  rw [lc_M g (fun _ => true) f hi hl (fun _ _ => rfl) (fun a ha _ => h2 a ha), List.filter_eq_self.mpr fun _ _ => rfl]
end Mi

/-! Mini, part 29: reversed(x) -/
namespace Mi
open PySem PySem.Spec L2
def revOf : D → ER (List D)
  | .list l => .val l.reverse
  | .tuple l => .val l.reverse
  | _ => .stuck
def revs (f : En → ER D) : En → ER (List D) := fun r => (f r).bind revOf
theorem walk_revL {K : Fg} {a : Addr} {vs : List V} {n : Nat} (hn : n = vs.length) : Walk (Itv K a n) vs.reverse [a] (fun H => H a = some (.lst vs)) where
  go := fun H i h hi => by
    rw [List.length_reverse] at hi
    subst hn
    exact ⟨hi, vs, vs[vs.length - 1 - i], SqL.of h, List.getElem?_eq_getElem (by omega)⟩
  yld := fun H i x H' h hi y => ⟨y.1, by
    rw [List.length_reverse] at hi
    subst hn
    rw [List.getElem?_reverse hi]
    exact y.2 vs (SqL.of h)⟩
  stop := fun H i h hi => by
    rw [List.length_reverse] at hi
    subst hn
    exact hi
  keep := fun H G O h p l n => p a _ h (n a (List.mem_singleton.mpr rfl))
  node := fun H h b hb => by rw [List.mem_singleton.mp hb]; exact ⟨⟨_, .l _⟩, h⟩
theorem walk_revT {K : Fg} {a : Addr} {vs : List V} {n : Nat} (hn : n = vs.length) : Walk (RT.ItvT K a n) vs.reverse [] (fun H => SqT K H a vs) where
  go := fun H i h hi => by
    rw [List.length_reverse] at hi
    subst hn
    exact ⟨hi, vs, vs[vs.length - 1 - i], h, List.getElem?_eq_getElem (by omega)⟩
  yld := fun H i x H' h hi y => ⟨y.1, by
    rw [List.length_reverse] at hi
    subst hn
    rw [List.getElem?_reverse hi]
    exact y.2 vs h⟩
  stop := fun H i h hi => by
    rw [List.length_reverse] at hi
    subst hn
    exact hi
  keep := fun H G O h p l n => p.rdT l h
  node := fun _ _ _ z => (nomatch z)
section
variable {X : Cx} {cl : Nat → Addr} {W : WX} {ms : List Md} {tg a : Expr} {f : En → ER D} {ka : Kd} {p pos : Pos}
theorem it_rev (hm : X.mg "reversed" = none) (h : IE X cl W ms a f ka) (hg : Gl X "reversed" := by rfl) (hs : starEach [a] X.env = (false, eval a X.env) :: starEach [] X.env := by rfl) : II X cl W ms tg (.Call (.Name "reversed" p) [a] [] pos) (revs f) ka :=
  pi_imp (RT.pi_revA hg hm h hs) fun s H R ⟨r, O, Og, e, w⟩ => by
    show RT.iRevA X.K _ s H R
    refine one_ e w fun d v G F q p rv og kv => ?_
    cases d with
    | list l =>
      obtain ⟨a, vs, E, rfl, h1, h2, rfl⟩ := rv.lstE
      obtain ⟨E2, h3, h4⟩ := h2.rev
      have mem : ∀ b ∈ [a] ++ E2, b ∈ a :: E := fun b hb => by
        rcases List.mem_append.mp hb with hb | hb
        · rw [List.mem_singleton.mp hb]; exact List.mem_cons_self
        · exact List.mem_cons_of_mem _ (h4.mem_iff.mp hb)
      exact ⟨a, vs, rfl, .inl ⟨SqL.of h1, q _ vs.reverse [a] _ E2 G p (walk_revL rfl) h1 h3 (fun b hb => og b (mem b hb)) fun n b hb => KOk.shOf e kv n b (mem b hb)⟩⟩
    | tuple l =>
      obtain ⟨a, vs, rfl, h1, h2⟩ := rv.tupE
      obtain ⟨E2, h3, h4⟩ := h2.rev
      have mem : ∀ b ∈ [] ++ E2, b ∈ F := fun b hb => h4.mem_iff.mp (by simpa using hb)
      exact ⟨a, vs, rfl, .inr ⟨h1, q _ vs.reverse [] _ E2 G p (walk_revT rfl) h1 h3 (fun b hb => og b (mem b hb)) fun n b hb => KOk.shOf e kv n b (mem b hb)⟩⟩
    | _ => exact q.elim
theorem revs_at (f : En → ER D) (r : En) : revs f r = (f r).bind revOf := rfl
theorem revOf_l (l : List D) : revOf (.list l) = .val l.reverse := rfl
theorem revOf_t (l : List D) : revOf (.tuple l) = .val l.reverse := rfl
end
end Mi

/-! Mini, part 30: in, not in, index -/
namespace Mi
open PySem PySem.Spec L2
/-- is a among the flat items -/
def flatD : D → Bool
  | .none | .bool _ | .int _ | .str _ => true
  | _ => false
/-- == of flat data -/
def eqF : D → D → Bool
  | .none, .none => true
  | .bool a, .bool b => a == b
  | .bool a, .int b => (if a then 1 else 0) == b
  | .int a, .bool b => a == (if b then 1 else 0)
  | .int a, .int b => a == b
  | .str a, .str b => a == b
  | _, _ => false
def inB (a b : D) : Option Bool := match b with
  | .list ds => if flatD a && ds.all flatD then some (ds.any fun z => eqF z a) else if SeqAt.shaped a && SeqAt.shaped (.list ds) then some (ds.any fun z => PyData.eqv z a) else none
  | .tuple ds => if flatD a && ds.all flatD then some (ds.any fun z => eqF z a) else none
  | .str t => (match a with
    | .str s => (match s.cps.toList with
      | [c] => some (decide (c ∈ t.cps.toList))
      | _ => none)
    | _ => none)
  | _ => none
def dIn (a b : D) : Option D := (inB a b).map PyData.bool
def dNin (a b : D) : Option D := (inB a b).map fun x => .bool (!x)
section
variable {K : Fg} {G : Hp}
theorem flat_rep {v : V} {a : D} {F : List Addr} (r : Rep K G v a F) (h : flatD a = true) : flatV v = true := by
  cases a with
  | none => cases r; rfl
  | bool b => cases r; rfl
  | int i => cases r; rfl
  | str s => cases r; rfl
  | _ => cases h
theorem flat_repL : ∀ {ds : List D} {vs : List V} {F : List Addr}, RepL K G vs ds F → ds.all flatD = true → vs.all flatV = true
  | [], _, _, h, _ => by cases h; rfl
  | d :: ds, _, _, h, q => by
    cases h with
    | cons h1 h2 =>
      rw [List.all_cons, Bool.and_eq_true] at q ⊢
      exact ⟨flat_rep h1 q.1, flat_repL h2 q.2⟩
theorem eqF_rep {v u : V} {a b : D} {F E : List Addr} (ra : Rep K G v a F) (rb : Rep K G u b E) (ha : flatD a = true) (hb : flatD b = true) : eqV v u = eqF a b := by
  cases a <;> first | cases ha | skip
  all_goals cases b <;> first | cases hb | skip
  all_goals
    cases ra
    cases rb
    rfl
theorem any_rep {u : V} {a : D} {E : List Addr} (ra : Rep K G u a E) (ha : flatD a = true) : ∀ {ds : List D} {vs : List V} {F : List Addr}, RepL K G vs ds F → ds.all flatD = true → inV u vs = ds.any fun z => eqF z a
  | [], _, _, h, _ => by cases h; rfl
  | d :: ds, _, _, h, q => by
    cases h with
    | cons h1 h2 =>
      rw [List.all_cons, Bool.and_eq_true] at q
      unfold inV
      rw [List.any_cons, List.any_cons, eqF_rep h1 ra q.1 ha]
      have := any_rep ra ha h2 q.2
      unfold inV at this
      rw [this]
def rInS (neg : Bool) : R2 := fun x y H Q => ∃ (c : Nat) (z : Str), x = .str ⟨#[c]⟩ ∧ y = .str z ∧ Q (.bl (if neg then !decide (c ∈ z.cps.toList) else decide (c ∈ z.cps.toList))) H
def rInA (K : Fg) (neg : Bool) : R2 := fun x y H Q => rIn K neg x y H Q ∨ (if neg then rNotInD K x y H Q else rInD K x y H Q) ∨ rInS neg x y H Q
theorem inA_of {v u : V} {a b : D} {F E : List Addr} {x : Bool} (e : inB a b = some x) (ra : Rep K G v a F) (rb : Rep K G u b E) (neg : Bool) (Q : VK) (q : Q (.bl (if neg then !x else x)) G) : rInA K neg v u G Q := by
  have fl : ∀ (ds : List D) (p : Addr) (vs : List V) (M : List Addr), (SqL K G p vs ∨ SqT K G p vs) → RepL K G vs ds M → (flatD a && ds.all flatD) = true → x = (ds.any fun z => eqF z a) → rIn K neg v (.ref p) G Q := fun ds p vs M hs hr hf hx => by
    rw [Bool.and_eq_true] at hf
    refine ⟨p, vs, rfl, hs, flat_rep ra hf.1, flat_repL hr hf.2, ?_⟩
    rw [any_rep ra hf.1 hr hf.2, ← hx]
    exact q
  cases b with
  | list ds =>
    obtain ⟨p, vs, M, rfl, h1, h2, _⟩ := rb.lstE
    unfold inB at e
    dsimp only at e
    split at e
    · rename_i hf
      cases e
      exact .inl (fl ds p vs M (.inl (SqL.of h1)) h2 hf rfl)
    · split at e
      · rename_i hs
        cases e
        rw [Bool.and_eq_true] at hs
        have d1 := Rep.dp a v F ra (SeqAt.canLay_of_shaped hs.1)
        have d2 := Rep.dp (.list ds) _ E rb (SeqAt.canLay_of_shaped hs.2)
        refine .inr (.inl ?_)
        cases neg with
        | true => exact ⟨a, ds, d1, d2, hs.1, hs.2, q⟩
        | false => exact ⟨a, ds, d1, d2, hs.1, hs.2, q⟩
      · cases e
  | tuple ds =>
    obtain ⟨p, vs, rfl, h1, h2⟩ := rb.tupE
    unfold inB at e
    dsimp only at e
    split at e
    · rename_i hf
      cases e
      exact .inl (fl ds p vs E (.inr h1) h2 hf rfl)
    · cases e
  | str t =>
    unfold inB at e
    dsimp only at e
    split at e
    · rename_i s
      split at e
      · rename_i c hc
        cases e
        cases ra
        cases rb
        refine .inr (.inr ⟨c, t, ?_, rfl, q⟩)
        have : s = ⟨#[c]⟩ := by
          cases s with
          | mk cps =>
            congr 1
            rw [← Array.toList_inj]
            exact hc
        rw [this]
      · cases e
    · cases e
  | _ => cases e
theorem op_inA {X : Cx} (hu : X.A.units + 65 < cLine) : OpR X (compareOp .In) (rInA X.K false) := by
  have := (op_in_seq (X := X)).or ((op_inD hu).or (op_in_sign (X := X)))
  exact this
theorem op_notInA {X : Cx} (hu : X.A.units + 65 < cLine) : OpR X (compareOp .NotIn) (rInA X.K true) := by
  have := (op_notIn_seq (X := X)).or ((op_notInD hu).or (op_notIn_sign (X := X)))
  exact this
theorem sc_in : Sc2 K (rInA K false) dIn := fun G v u a b F E d Q e ra rb q => by
  unfold dIn at e
  cases hx : inB a b with
  | none => rw [hx] at e; cases e
  | some x =>
    rw [hx] at e
    cases e
    exact inA_of hx ra rb false Q (q _ (.bl x))
theorem sc_nin : Sc2 K (rInA K true) dNin := fun G v u a b F E d Q e ra rb q => by
  unfold dNin at e
  cases hx : inB a b with
  | none => rw [hx] at e; cases e
  | some x =>
    rw [hx] at e
    cases e
    exact inA_of hx ra rb true Q (q _ (.bl !x))
end
section
variable {X : Cx} {cl : Nat → Addr} {W : WX} {ms : List Md} {a b : Expr} {f g : En → ER D} {ka kb : Kd} {k : Nat} {p pos : Pos}
theorem room_in (hr : Room k X.A) : X.A.units + 65 < cLine := by have := hr.un; omega
theorem i_in (hr : Room k X.A) (ha : IE X cl W ms a f ka) (hb : IE X cl W ms b g kb) (hm : behindInMarks .In b = false := by rfl) : IE X cl W ms (.Compare a [.In] [b] pos) (bi dIn f g) .fr := i_cmp0 (op_inA (room_in hr)) sc_in ha hb hm
theorem i_nin (hr : Room k X.A) (ha : IE X cl W ms a f ka) (hb : IE X cl W ms b g kb) (hm : behindInMarks .NotIn b = false := by rfl) : IE X cl W ms (.Compare a [.NotIn] [b] pos) (bi dNin f g) .fr := i_cmp0 (op_notInA (room_in hr)) sc_nin ha hb hm
theorem t_in (hr : Room k X.A) (ha : IE X cl W ms a f ka) (hb : IE X cl W ms b g kb) (hm : behindInMarks .In b = false := by rfl) : IT X cl W ms (.Compare a [.In] [b] pos) (bi dIn f g) := t_cmp0 (op_inA (room_in hr)) sc_in ha hb hm
theorem t_nin (hr : Room k X.A) (ha : IE X cl W ms a f ka) (hb : IE X cl W ms b g kb) (hm : behindInMarks .NotIn b = false := by rfl) : IT X cl W ms (.Compare a [.NotIn] [b] pos) (bi dNin f g) := t_cmp0 (op_notInA (room_in hr)) sc_nin ha hb hm
end
/-! ### the first place of an equal one -/
def ixOfD (l : List D) (d : D) : Nat := l.findIdx fun z => PyData.eqv z d
def dIndex (a b : D) : Option D := match a with
  | .list ds => if SeqAt.shaped b && SeqAt.shaped (.list ds) && decide (ixOfD ds b < ds.length) then some (.int (ixOfD ds b : Nat)) else none
  | _ => none
def idxE (f g : En → ER D) : En → ER D := fun r => (f r).bind fun d => match d with
  | .list l => (g r).bind fun b => .of (dIndex (.list l) b)
  | _ => .stuck
section
variable {X : Cx} {cl : Nat → Addr} {W : WX} {ms : List Md} {a e : Expr} {f g : En → ER D} {ka kb : Kd} {k : Nat} {p pa pos : Pos}
theorem i_index (hr : Room k X.A) (ha : IE X cl W ms a f ka) (he : IE X cl W ms e g kb) (hbase : attributeBase a "index" X.env (eval a X.env) = eval a X.env := by rfl)
    (hfew : ((backTo pos (starEach [e] X.env)).all (fun x => !x.1) && (backToKw pos (keywordEach [] X.env)).all (fun x => x.1.isSome)
      && decide (([e] : List Expr).length + ([] : List Keyword).length + (if ([] : List Keyword).isEmpty then 0 else 1) < 30)) = true := by rfl)
    (hline : (pa.endLine == pos.line) = true := by rfl) (hs : starEach [e] X.env = (false, eval e X.env) :: starEach [] X.env := by rfl) (hplain : (backTo pos (starEach [] X.env)).any (·.1) = false := by rfl) :
    IE X cl W ms (.Call (.Attribute a "index" pa) [e] [] pos) (idxE f g) .fr :=
  pe_imp (pe_bm PySem.F.plainAttrs_list PySem.F.slot_list_index PySem.F.type_list_index (mt_indexD (room_in hr)) ha (pa_cons he pa_nil hs) hbase hfew hline hs hplain) fun s H Q ⟨r, O, Og, en, w⟩ => by
    show tBM X.K "list" (rIndexD X.K) (canE X.K cl W ms f ka) (tCons (canE X.K cl W ms g kb) tNil) s H Q
    refine one_ en w fun d1 v1 G F1 w2 p1 r1 g1 k1 => ?_
    cases d1 with
    | list l =>
      obtain ⟨c, vs, E, rfl, h1, h2, rfl⟩ := r1.lstE
      refine ⟨.inl ⟨rfl, vs, SqL.of h1⟩, ?_⟩
      show canE X.K cl W ms g kb s G fun v H1 => tNil s H1 fun vs H2 => rIndexD X.K (.ref c) (v :: vs) H2 Q
      refine one_ (en.same p1) (ER.ok_mono w2 (fun _ _ q => q) fun _ n => Nx.on n p1) fun d2 v2 J F2 w3 p2 r2 g2 k2 => ?_
      show rIndexD X.K (.ref c) [v2] J Q
      obtain ⟨y, hh, o⟩ := ER.ok_of w3
      unfold dIndex at hh
      dsimp only at hh
      split at hh
      · rename_i hc
        cases hh
        rw [Bool.and_eq_true, Bool.and_eq_true, decide_eq_true_eq] at hc
        obtain ⟨⟨s1, s2⟩, s3⟩ := hc
        have r1' : Rep X.K J (.ref c) (.list l) (c :: E) := (Rep.lst h1 h2).same p2
        have d1 := Rep.dp (.list l) _ _ r1' (SeqAt.canLay_of_shaped s2)
        have d2' := Rep.dp d2 _ _ r2 (SeqAt.canLay_of_shaped s1)
        refine ⟨c, v2, d2, l, ixOfD l d2, l[ixOfD l d2], rfl, rfl, d1, d2', s2, s1, List.getElem?_eq_getElem s3, ?_, fun m z' hm hz => ?_, ?_⟩
        · exact List.findIdx_getElem (p := fun z => PyData.eqv z d2) (w := s3)
        · have hml := (List.getElem?_eq_some_iff.mp hz)
          obtain ⟨q1, q2⟩ := hml
          have := List.not_of_lt_findIdx (p := fun z => PyData.eqv z d2) (xs := l) (i := m) hm
          rw [q2] at this
          simpa using this
        · exact o (.int (ixOfD l d2 : Nat)) J [] (p1.trans p2) (.int _) (fun _ z => (nomatch z)) (KOk.nil (by decide))
      · cases hh
    | _ => exact w2.elim
end
/-- a new list, of which only the list itself is ours -/
def asL (f : En → ER D) : En → ER D := fun r => (f r).bind fun d => match d with
  | .list l => .val (.list l)
  | _ => .stuck
theorem asL_at (f : En → ER D) (r : En) : asL f r = (f r).bind fun d => match d with
  | .list l => .val (.list l)
  | _ => .stuck := rfl
section
variable {X : Cx} {cl : Nat → Addr} {W : WX} {ms : List Md} {a : Expr} {f : En → ER D}
theorem i_asL (h : IE X cl W ms a f .fr) : IE X cl W ms a (asL f) .f1 :=
  pe_imp h fun s H Q ⟨r, O, Og, e, w⟩ => ⟨r, O, Og, e, ER.ok_mono (ER.ok_bind w) (fun d _ o v G F q rv og kv => by
    cases d with
    | list l =>
      obtain ⟨c, vs, E, rfl, h1, h2, rfl⟩ := rv.lstE
      obtain ⟨k1, k2⟩ := kv
      obtain ⟨n1, n2⟩ := List.nodup_cons.mp k1
      exact o _ G _ q rv og ⟨c, E, rfl, rfl, k2 c List.mem_cons_self, fun b hb => ⟨fun z => n1 (by rw [← z]; exact hb), e.old (k2 b (List.mem_cons_of_mem _ hb))⟩⟩
    | _ => exact o.elim) fun _ n => n⟩
end
theorem idxE_at (f g : En → ER D) (r : En) : idxE f g r = (f r).bind fun d => match d with
  | .list l => (g r).bind fun b => .of (dIndex (.list l) b)
  | _ => .stuck := rfl
end Mi

/-! Mini, part 31: a statement that no script reaches -/
namespace Mi
open PySem PySem.Spec L2
def stuckS : En → SR := fun _ => .stuck
theorem s_stuck {X : Cx} {cl : Nat → Addr} {W : WX} {ms : List Md} {rk : Bool} {st : Stmt} : IS X cl W ms rk st stuckS := ⟨fun _ _ _ _ _ _ q => by
  obtain ⟨r, O, Og, _, h⟩ := q
  exact h.elim⟩
theorem ss_stuck {X : Cx} {cl : Nat → Addr} {W : WX} {ms : List Md} {rk : Bool} {st : List Stmt} : ISs X cl W ms rk st stuckS := ⟨fun _ _ _ _ _ _ q => by
  obtain ⟨r, O, Og, _, h⟩ := q
  exact h.elim⟩
theorem e_stuck {X : Cx} {cl : Nat → Addr} {W : WX} {ms : List Md} {a : Expr} {k : Kd} : IE X cl W ms a (fun _ => ER.stuck) k := ⟨fun _ _ _ _ _ _ q => by
  obtain ⟨r, O, Og, _, h⟩ := q
  exact h.elim⟩
theorem stuckS_at (r : En) : stuckS r = .stuck := rfl
end Mi

/-! Mini, part 32: max(xs, default=d) of ints -/
namespace Mi
open PySem PySem.Spec L2
def maxI (d : Int) : List Int → Int
  | [] => d
  | z :: l => l.foldl max z
def dMaxD (a b : D) : Option D := match a, b with
  | .list l, .int d => (dInts l).map fun ns => .int (maxI d ns)
  | _, _ => none
section
variable {X : Cx}
def rMaxD (K : PySem.W.Frag) : List V → List V → Hp → VK → Prop := fun vs zs H Q => ∃ (a : Addr) (ns : List Int) (d : Int), vs = [V.ref a] ∧ zs = [V.int d] ∧ SqL K H a (ns.map V.int) ∧ Q (.int (maxI d ns)) H
theorem reads_ints {h : Heap} : ∀ {vs : List Value} {ns : List Int}, PyProof.Rows.IntsAre vs ns → ∃ as, ReadsAll h vs (ns.map .int) as := by
  intro vs
  induction vs with
  | nil => intro ns r; cases r; exact ⟨[], .nil⟩
  | cons v vs ih =>
    intro ns r
    cases r with
    | cons z t r =>
      obtain ⟨as, q⟩ := ih r
      exact ⟨_, .cons (.int _ _) q⟩
theorem depth_ints (ns : List Int) : PyData.depthAll (ns.map .int) ≤ 1 := by
  induction ns with
  | nil => simp [PyData.depthAll]
  | cons z ns ih =>
    rw [List.map_cons, PyData.depthAll]
    simp only [PyData.depth]
    omega
theorem cr_maxD {k : Nat} (hr : Room k X.A) : CallRK X (.builtin "max") [Str.ofString "default"] (rMaxD X.K) := by
  intro pins s σ H vs zs us ws Q I r rz h
  obtain ⟨a, ns, d, rfl, rfl, hs, q⟩ := h
  obtain rfl := Vals.ref1 r
  obtain ⟨w1, rfl, e1⟩ := vals1 rz
  obtain ⟨t, rfl⟩ : ∃ t, w1 = Value.int d t := e1
  obtain ⟨its, rv, hl, hz⟩ := I.list hs
  obtain ⟨as, ra⟩ := reads_ints (h := s.heap) rv.ints
  refine PySem.W.max_list_default (xs := ns.map .int) (as := as) hr.hd hl.isList (by simpa using ra) ⟨fun x hx y hy => ?_, fun x hx => ?_⟩ ?_ (fun h0 h' tk hk => ?_) (fun y ys i v h' tk bs e hv rd hk => ?_)
  · obtain ⟨i, _, rfl⟩ := List.mem_map.mp hx
    obtain ⟨j, _, rfl⟩ := List.mem_map.mp hy
    rfl
  · obtain ⟨i, _, rfl⟩ := List.mem_map.mp hx
    intro z
    cases z
  · have := depth_ints ns
    have := hr.un
    omega
  · have e : ns = [] := List.map_eq_nil_iff.mp h0
    subst e
    exact ⟨.int d, H, I.kept hk, ⟨t, rfl⟩, q⟩
  · cases ns with
    | nil => cases e
    | cons z l =>
      cases e
      rw [PySem.W.maxD_ints] at rd
      cases rd
      exact ⟨.int _, H, I.kept hk, ⟨_, rfl⟩, q⟩
variable {cl : Nat → Addr} {W : WX} {ms : List Md} {a b : Expr} {f g : En → ER D} {ka kb : Kd} {k : Nat} {p pos kp : Pos}
theorem i_maxD (hr : Room k X.A) (hm : X.mg "max" = none) (ha : IE X cl W ms a f ka) (hb : IE X cl W ms b g kb) (hg : Gl X "max" := by rfl)
    (he0 : starEach [a] X.env = (false, eval a X.env) :: starEach [] X.env := by rfl)
    (he : backTo pos (starEach [a] X.env) = (false, eval a X.env) :: backTo pos (starEach [] X.env) := by rfl) (hpl : (backTo pos (starEach [a] X.env)).any (·.1) = false := by rfl)
    (hall : (backToKw pos (keywordEach [⟨some "default", b, kp⟩] X.env)).all (·.1.isSome) = true := by rfl) (hnone : (backToKw pos (keywordEach [⟨some "default", b, kp⟩] X.env)).any (·.1.isNone) = false := by rfl) (hks : (backToKw pos (keywordEach [⟨some "default", b, kp⟩] X.env)).filterMap (·.1) = [Str.ofString "default"] := by rfl) :
    IE X cl W ms (.Call (.Name "max" p) [a] [⟨some "default", b, kp⟩] pos) (bi dMaxD f g) .fr :=
  pe_imp (pe_callBK (cr_maxD hr) hg hm (by decide +kernel) (pa_cons ha pa_nil he0) (pk_cons hb pk_nil) (by decide) (by decide) he hpl hall hnone hks) fun s H Q ⟨r, O, Og, e, w⟩ => by
    show canE _ _ _ _ _ _ s H _
    refine two_ e w fun d1 d2 v1 v2 G J F1 F2 o a1 a2 r1 r2 g1 g2 k1 k2 => ?_
    obtain ⟨d, hh, o2⟩ := ER.ok_of o
    unfold dMaxD at hh
    split at hh
    · rename_i l z
      obtain ⟨ns, hns, rfl⟩ := Option.map_eq_some_iff.mp hh
      have e1 := dInts_of hns
      subst e1
      cases r2
      cases (r1.same a2) with
      | lst h1 h2 =>
        have e2 := rep_ints h2
        subst e2
        exact ⟨_, ns, z, rfl, rfl, SqL.of h1, o2 _ J [] (a1.trans a2) (.int _) (fun _ h => nomatch h) ⟨.nil, fun _ h => nomatch h⟩⟩
    · cases hh
end
end Mi

/-! Mini, part 33: a comprehension whose variable is a name of the def as well -/
namespace Mi
open PySem L2
section
variable {K : Fg} {H : Hp} {ms : List Md} {r : En} {s : L2.St} {O : List (List Addr)} {Og : Addr → Prop}
theorem EnvR.putB (e : EnvR K H ms r s O Og) {x : Nat} {d : D} {v : V} {F : List Addr} (hm : ms[x]? = some .sh) (rv : Rep K H v d F) (og : ∀ a ∈ F, Og a) : EnvR K H (ms.set x .bo) (r.set x (some d)) (s.set x (some v)) O Og := by
  have hx : x < ms.length := (List.getElem?_eq_some_iff.mp hm).1
  have hxr : x < r.length := by rw [← e.lm]; exact hx
  have hxs : x < s.length := by rw [e.ls]; exact hxr
  have ho : O[x]? = some [] := by
    cases hr : r[x] with
    | none => exact e.no x (by rw [List.getElem?_eq_getElem hxr, hr])
    | some d' =>
      obtain ⟨v', F', m, Oi, _, _, _, h4, h5, h6⟩ := e.sl x d' (by rw [List.getElem?_eq_getElem hxr, hr])
      rw [h5]
      rw [hm] at h4
      cases h4
      exact congrArg _ h6.1
  refine ⟨by rw [List.length_set, List.length_set]; exact e.ls, by rw [List.length_set]; exact e.lo, by rw [List.length_set, List.length_set]; exact e.lm, fun i d' h => ?_, fun i h => ?_, e.nd, e.fg⟩
  · by_cases hi : x = i
    · subst hi
      rw [List.getElem?_set_self hxr] at h
      cases h
      exact ⟨v, F, .bo, [], List.getElem?_set_self hxs, rv, og, List.getElem?_set_self hx, ho, rfl⟩
    · rw [List.getElem?_set_ne hi] at h
      obtain ⟨v', F', m, Oi, h1, h2, h3, h4, h5⟩ := e.sl i d' h
      exact ⟨v', F', m, Oi, by rw [List.getElem?_set_ne hi]; exact h1, h2, h3, by rw [List.getElem?_set_ne hi]; exact h4, h5⟩
  · by_cases hi : x = i
    · subst hi
      rw [List.getElem?_set_self hxr] at h
      cases h
    · rw [List.getElem?_set_ne hi] at h
      exact e.no i h
end
section
variable {K : Fg} {cl : Nat → Addr} {W : WX} {ms : List Md} {x : Nat} {f : En → ER (List D)} {t e : En → ER D} {k ke : Kd}
theorem lc_redB (hm : ms[x]? = some .sh) {s : L2.St} {H : Hp} {Q : VK} (w : canE K cl W ms (lc x f t e) ke.top s H Q) : tLc (canI K cl W ms f k) (gName x) (canT K cl W0 (ms.set x .bo) t) (canE K cl W0 (ms.set x .bo) e ke) [x] s H Q := by
  obtain ⟨r, O, Og, en, w⟩ := w
  refine ⟨r, O, Og, en, ER.ok_mono (ER.ok_bind w) (fun ds _ q J vs fp S F G p wk hS rv og nb L hL => ?_) fun _ n => n⟩
  have q := ER.ok_bind q
  cases hgo : lcGo x t e r ds with
  | stuck => rw [hgo] at q; exact q.elim
  | exn c =>
    exfalso
    have : ∀ ds : List D, lcGo x t e r ds ≠ .exn c := fun ds => by
      induction ds with
      | nil => intro h; cases h
      | cons d ds ih =>
        intro h
        unfold lcGo at h
        split at h
        · split at h
          · cases q : lcGo x t e r ds with
            | val zs => rw [q] at h; cases h
            | stuck => rw [q] at h; cases h
            | exn c' => rw [q] at h; cases h; exact ih q
          · cases h
        · exact ih h
        · cases h
    exact this ds hgo
  | val ys =>
    rw [hgo] at q
    obtain ⟨z, hz, q⟩ := ER.ok_of q
    obtain ⟨hlen, rfl⟩ := ifL hz
    have hHL : H L = none := p.free hL
    have hsame0 : Same G (upd G L (.lst [])) := Same.new hL
    have lstep : ∀ {J1 : Hp} {us us' : List V}, J1 L = some (.lst us) → Stp [L] J1 (upd J1 L (.lst us')) ∧ AllL J1 [L] := fun {J1 us us'} h => ⟨fun b o hb nb => by
      rw [upd_ne (fun z => nb (by rw [z]; exact List.mem_singleton.mpr rfl))]
      exact hb, fun b hb => by rw [List.mem_singleton.mp hb]; exact ⟨⟨_, .l us⟩, h⟩⟩
    have fpL : ∀ b ∈ fp, b ∉ [L] := fun b hb z => by
      obtain ⟨xs, y⟩ := wk.node _ hS b hb
      rw [List.mem_singleton.mp z, hL] at y
      cases y
    have nFL : ∀ b ∈ F, b ∉ [L] := fun b hb z => by
      obtain ⟨xs, y⟩ := RepL.nodes _ _ _ rv b hb
      rw [List.mem_singleton.mp z, hL] at y
      cases y
    refine ⟨fun i m G1 => m = vs.length - i ∧ i ≤ vs.length ∧ ∃ done rest, lcGo x t e r (ds.drop i) = .val rest ∧ ys = done ++ rest ∧ done.length ≤ i ∧ LcInv K H ms r s O Og ke L S F vs ds done G1,
      ⟨vs.length, by simp, Nat.zero_le _, [], ys, hgo, rfl, Nat.le_refl _, p.trans hsame0, wk.keep _ _ [] hS (same_stp hsame0) (fun _ z => (nomatch z)) (fun _ _ z => nomatch z), rv.same hsame0, [], [], upd_same, .nil, (fun _ z => (nomatch z)), ?_⟩, ?_⟩
    · cases ke with
      | fr => exact ⟨List.nodup_nil, fun _ z => (nomatch z)⟩
      | f1 => exact fun _ z => (nomatch z)
      | sh => exact fun _ z => (nomatch z)
      | bo => trivial
    · rintro i m G1 ⟨rfl, hi, done, rest, hrest, hys, hdl, inv⟩
      obtain ⟨us, E, hL1, rE, oE, kE⟩ := inv.made
      by_cases hlt : i < vs.length
      · refine .inr ⟨wk.go _ _ inv.st hlt, fun G2 => ∃ done rest, lcGo x t e r (ds.drop (i + 1)) = .val rest ∧ ys = done ++ rest ∧ done.length ≤ i + 1 ∧ LcInv K H ms r s O Og ke L S F vs ds done G2,
          fun G2 h2 => ⟨vs.length - (i + 1), by omega, rfl, hlt, h2⟩, fun v G2 hy => ?_⟩
        obtain ⟨rfl, hv⟩ := wk.yld _ _ _ _ inv.st hlt hy
        have hd : i < ds.length := by rw [← rv.len]; exact hlt
        obtain ⟨v', Fi, e1, rvi, sbi⟩ := inv.src.get (i := i) (d := ds[i]) (List.getElem?_eq_getElem hd)
        rw [hv] at e1
        cases e1
        show wipe ((wipe s [x]).set x (some v)) [x] = wipe s [x] ∧ _
        refine ⟨by show (List.set (List.set (List.set s x none) x (some v)) x none) = List.set s x none; rw [List.set_set, List.set_set], ?_⟩
        have hset : (wipe s [x]).set x (some v) = s.set x (some v) := by show (List.set (List.set s x none) x (some v)) = _; rw [List.set_set]
        rw [hset]
        have en2 : EnvR K G2 ms r s O (fun a => Og a ∧ a ≠ L) := en.less inv.same (fun a h1 ⟨o, h2⟩ => ⟨h1, fun z => by rw [z, hHL] at h2; cases h2⟩) fun a ha => ⟨en.fg a (inv.same.free ha), fun z => by rw [z, hL1] at ha; cases ha⟩
        have en3 : EnvR K G2 (ms.set x .bo) (r.set x (some ds[i])) (s.set x (some v)) O (fun a => Og a ∧ a ≠ L) := en2.putB hm (F := Fi) rvi fun a ha => ⟨og a (List.mem_append_right _ (sbi.subset ha)), fun z => nFL a (sbi.subset ha) (by rw [z]; exact List.mem_singleton.mpr rfl)⟩
        rw [List.drop_eq_getElem_cons hd] at hrest
        unfold lcGo at hrest
        cases ht : t (r.set x (some ds[i])) with
        | stuck => rw [ht] at hrest; cases hrest
        | exn c => rw [ht] at hrest; cases hrest
        | val b =>
          rw [ht] at hrest
          cases b with
          | bool b =>
            refine ⟨_, O, _, en3, ?_⟩
            rw [ht]
            refine ⟨b, rfl, fun G3 p3 => ?_⟩
            cases b with
            | false =>
              refine iteF ⟨done, rest, hrest, hys, by omega, inv.same.trans p3, wk.keep _ _ [] inv.st (same_stp p3) (fun _ z => (nomatch z)) (fun _ _ z => nomatch z), inv.src.same p3, us, E, p3 _ _ hL1, rE.same p3, oE, kE⟩
            | true =>
              refine iteT ⟨_, O, _, en3.same p3, ?_⟩
              cases he : e (r.set x (some ds[i])) with
              | stuck => simp only [he] at hrest; cases hrest
              | exn c => simp only [he] at hrest; cases hrest
              | val y =>
                simp only [he] at hrest
                cases hr2 : lcGo x t e r (ds.drop (i + 1)) with
                | stuck => rw [hr2] at hrest; cases hrest
                | exn c => rw [hr2] at hrest; cases hrest
                | val rest2 =>
                  rw [hr2] at hrest
                  cases hrest
                  intro u G4 F4 p4 ru og4 k4
                  have hL4 := p4 _ _ (p3 _ _ hL1)
                  have hus : us.length ≤ LIM := by
                    rw [rE.len]
                    omega
                  refine ⟨us, hL4, Nat.lt_of_le_of_lt hus (by decide), done ++ [y], rest2, rfl, by rw [hys, List.append_assoc]; rfl, by rw [List.length_append, List.length_singleton]; omega, ?_⟩
                  obtain ⟨st1, st2⟩ := lstep (us' := us ++ [u]) hL4
                  have p34 := p3.trans p4
                  have hu4 : ∀ a ∈ F4, a ∉ [L] := fun a ha z => (og4 a ha).2 (List.mem_singleton.mp z)
                  refine ⟨fun b o hb => ?_, wk.keep _ _ [L] (wk.keep _ _ [] inv.st (same_stp p34) (fun _ z => (nomatch z)) fun _ _ z => nomatch z) st1 st2 fpL, RepL.stp st1 st2 _ _ _ (inv.src.same p34) nFL, us ++ [u], E ++ F4, upd_same, ?_, ?_, ?_⟩
                  · rw [upd_ne (ne_of_none hb hHL)]
                    exact p34 _ _ (inv.same _ _ hb)
                  · refine RepL.stp st1 st2 _ _ _ ((rE.same p34).app (.one ru)) fun a ha => ?_
                    rcases List.mem_append.mp ha with ha | ha
                    · exact fun z => (oE a ha).2 (List.mem_singleton.mp z)
                    · exact hu4 a ha
                  · intro a ha
                    rcases List.mem_append.mp ha with ha | ha
                    · exact oE a ha
                    · exact og4 a ha
                  · have nE := RepL.nodes _ _ _ rE
                    have k4' : KOk ke H O.flatten u F4 := k4.back (inv.same.trans p3)
                    cases ke with
                    | fr =>
                      refine ⟨List.nodup_append.mpr ⟨kE.1, k4'.1, fun a ha b hb z => ?_⟩, fun a ha => ?_⟩
                      · obtain ⟨xs, y1⟩ := nE a ha
                        have := k4.2 b hb
                        rw [← z, p3 _ _ y1] at this
                        cases this
                      · rcases List.mem_append.mp ha with ha | ha
                        · exact kE.2 a ha
                        · exact k4'.2 a ha
                    | f1 =>
                      intro a ha
                      rcases List.mem_append.mp ha with ha | ha
                      · exact kE a ha
                      · exact KOk.shOf en k4' (by decide) a ha
                    | sh =>
                      intro a ha
                      rcases List.mem_append.mp ha with ha | ha
                      · exact kE a ha
                      · exact k4' a ha
                    | bo => trivial
          | _ => cases hrest
      · have e0 : i = vs.length := by omega
        subst e0
        refine .inl ⟨wk.stop _ _ inv.st (Nat.le_refl _), ?_⟩
        rw [rv.len, List.drop_length] at hrest
        cases hrest
        rw [List.append_nil] at hys
        subst hys
        refine q (.ref L) G1 (L :: E) inv.same (.lst hL1 rE) (og_cons en hHL fun a ha => (oE a ha).1) ?_
        have nE := RepL.nodes _ _ _ rE
        cases ke with
        | fr => exact ⟨List.nodup_cons.mpr ⟨fun hm => (oE L hm).2 rfl, kE.1⟩, fun b hb => by
            rcases List.mem_cons.mp hb with rfl | hb
            · exact hHL
            · exact kE.2 b hb⟩
        | f1 => exact ⟨L, E, rfl, rfl, hHL, fun b hb => ⟨(oE b hb).2, kE b hb⟩⟩
        | sh => exact ⟨L, E, rfl, rfl, hHL, fun b hb => ⟨(oE b hb).2, kE b hb⟩⟩
        | bo => trivial
end
section
variable {X : Cx} {cl : Nat → Addr} {W : WX} {ms : List Md} {x i : Nat} {f : En → ER (List D)} {t e : En → ER D} {k ke : Kd} {elt iter : Expr} {ifs : List Expr} {scope : Scope} {y z : Str} {py pz pos spos : Pos}
theorem i_lcB (hm : ms[x]? = some .sh) (hi : II X cl W ms (.Name y py) iter f k) (ok : BlkOk X.N X.env.scope scope [(y, x)]) (hN : X.N.Nodup) (hc : X.calm = true)
    (hg : ∀ (s : Shared) (H : Hp) (C : Addr) (l : List (Str × Addr)) (fp : List Addr), PG (X.blk s H scope (compEnvC scope l C X.env) fp) (.Name y py) (gName x))
    (ht : ∀ (s : Shared) (H : Hp) (C : Addr) (l : List (Str × Addr)) (fp : List Addr), PTs (X.blk s H scope (compEnvC scope l C X.env) fp) ifs (canT X.K cl W0 (ms.set x .bo) t))
    (he : ∀ (s : Shared) (H : Hp) (C : Addr) (l : List (Str × Addr)) (fp : List Addr), IE (X.blk s H scope (compEnvC scope l C X.env) fp) cl W0 (ms.set x .bo) elt e ke) (hs : ∀ x, foldedSetIterable iter X.env x = pure x := by intro _; rfl) :
    IE X cl W ms (.ListComp elt [⟨.Name y py, iter, ifs, 0⟩] scope pos) (lc x f t e) ke.top :=
  pe_imp (pe_lc (te := canE X.K cl W0 (ms.set x .bo) e ke) hc hN hi ok hg ht he hs) fun s H Q w => lc_redB hm w
theorem set_lcB (hm : ms[x]? = some .sh) (hi : II X cl W ms (.Name y py) iter f k) (ok : BlkOk X.N X.env.scope scope [(y, x)]) (hN : X.N.Nodup) (hc : X.calm = true)
    (hg : ∀ (s : Shared) (H : Hp) (C : Addr) (l : List (Str × Addr)) (fp : List Addr), PG (X.blk s H scope (compEnvC scope l C X.env) fp) (.Name y py) (gName x))
    (ht : ∀ (s : Shared) (H : Hp) (C : Addr) (l : List (Str × Addr)) (fp : List Addr), PTs (X.blk s H scope (compEnvC scope l C X.env) fp) ifs (canT X.K cl W0 (ms.set x .bo) t))
    (he : ∀ (s : Shared) (H : Hp) (C : Addr) (l : List (Str × Addr)) (fp : List Addr), IE (X.blk s H scope (compEnvC scope l C X.env) fp) cl W0 (ms.set x .bo) elt e ke)
    (hz : X.N[i]? = some z) (hzl : X.env.scope.names.lookup z = some .local) (hsw : swapsWith (.ListComp elt [⟨.Name y py, iter, ifs, 0⟩] scope pos) (some (.Name z pz)) spos.line X.env = pure true) (hs : ∀ x, foldedSetIterable iter X.env x = pure x := by intro _; rfl) :
    PS X (.Assign [.Name z pz] (.ListComp elt [⟨.Name y py, iter, ifs, 0⟩] scope pos) spos) (tAsg (canE X.K cl W ms (lc x f t e) ke.top) (gName i)) := by
  have h := ps_setLc (te := canE X.K cl W0 (ms.set x .bo) e ke) hc hN hz hzl hsw hi ok hg ht he hs
  exact ⟨fun pins s z H D I q => h.run pins s z H D I (lc_redB hm q)⟩
end
end Mi

/-! Mini, part 34: a comprehension whose variable is the name of an owned list as well -/
namespace Mi
open PySem L2
section
variable {K : Fg} {H : Hp} {ms : List Md} {r : En} {s : L2.St} {O : List (List Addr)} {Og : Addr → Prop}
theorem set_nil_sub : ∀ (O : List (List Addr)) (x : Nat), (O.set x []).flatten.Sublist O.flatten
  | [], _ => List.Sublist.refl _
  | a :: O, 0 => by
    show (([] : List Addr) :: O).flatten.Sublist (a ++ O.flatten)
    exact List.sublist_append_right _ _
  | a :: O, x + 1 => by
    show (a ++ (O.set x []).flatten).Sublist (a ++ O.flatten)
    exact List.Sublist.append (List.Sublist.refl _) (set_nil_sub O x)
theorem EnvR.putO (e : EnvR K H ms r s O Og) {x : Nat} {d : D} {v : V} {F : List Addr} (hm : ms[x]? = some .ow) (rv : Rep K H v d F) (og : ∀ a ∈ F, Og a) : EnvR K H (ms.set x .bo) (r.set x (some d)) (s.set x (some v)) (O.set x []) Og := by
  have hx : x < ms.length := (List.getElem?_eq_some_iff.mp hm).1
  have hxr : x < r.length := by rw [← e.lm]; exact hx
  have hxs : x < s.length := by rw [e.ls]; exact hxr
  have hxo : x < O.length := by rw [e.lo]; exact hxr
  have sub := set_nil_sub O x
  refine ⟨by rw [List.length_set, List.length_set]; exact e.ls, by rw [List.length_set, List.length_set]; exact e.lo, by rw [List.length_set, List.length_set]; exact e.lm, fun i d' h => ?_, fun i h => ?_, e.nd.sublist sub, e.fg⟩
  · by_cases hi : x = i
    · subst hi
      rw [List.getElem?_set_self hxr] at h
      cases h
      exact ⟨v, F, .bo, [], List.getElem?_set_self hxs, rv, og, List.getElem?_set_self hx, List.getElem?_set_self hxo, rfl⟩
    · rw [List.getElem?_set_ne hi] at h
      obtain ⟨v', F', m, Oi, h1, h2, h3, h4, h5, h6⟩ := e.sl i d' h
      refine ⟨v', F', m, Oi, by rw [List.getElem?_set_ne hi]; exact h1, h2, h3, by rw [List.getElem?_set_ne hi]; exact h4, by rw [List.getElem?_set_ne hi]; exact h5, ?_⟩
      cases m with
      | ow => exact h6
      | io => exact h6
      | o1 =>
        obtain ⟨a, F2, q1, q2, q3, q4⟩ := h6
        exact ⟨a, F2, q1, q2, q3, fun b hb z => q4 b hb (sub.subset z)⟩
      | sh => exact ⟨h6.1, fun b hb z => h6.2 b hb (sub.subset z)⟩
      | bo => exact h6
  · by_cases hi : x = i
    · subst hi
      rw [List.getElem?_set_self hxr] at h
      cases h
    · rw [List.getElem?_set_ne hi] at h
      rw [List.getElem?_set_ne hi]
      exact e.no i h
end
section
variable {K : Fg} {cl : Nat → Addr} {W : WX} {ms : List Md} {x : Nat} {f : En → ER (List D)} {t e : En → ER D} {k : Kd}
theorem lc_redO (hm : ms[x]? = some .ow) {s : L2.St} {H : Hp} {Q : VK} (w : canE K cl W ms (lc x f t e) Kd.fr.top s H Q) : tLc (canI K cl W ms f k) (gName x) (canT K cl W0 (ms.set x .bo) t) (canE K cl W0 (ms.set x .bo) e .fr) [x] s H Q := by
  obtain ⟨r, O, Og, en, w⟩ := w
  refine ⟨r, O, Og, en, ER.ok_mono (ER.ok_bind w) (fun ds _ q J vs fp S F G p wk hS rv og nb L hL => ?_) fun _ n => n⟩
  have q := ER.ok_bind q
  cases hgo : lcGo x t e r ds with
  | stuck => rw [hgo] at q; exact q.elim
  | exn c =>
    exfalso
    have : ∀ ds : List D, lcGo x t e r ds ≠ .exn c := fun ds => by
      induction ds with
      | nil => intro h; cases h
      | cons d ds ih =>
        intro h
        unfold lcGo at h
        split at h
        · split at h
          · cases q : lcGo x t e r ds with
            | val zs => rw [q] at h; cases h
            | stuck => rw [q] at h; cases h
            | exn c' => rw [q] at h; cases h; exact ih q
          · cases h
        · exact ih h
        · cases h
    exact this ds hgo
  | val ys =>
    rw [hgo] at q
    obtain ⟨z, hz, q⟩ := ER.ok_of q
    obtain ⟨hlen, rfl⟩ := ifL hz
    have hHL : H L = none := p.free hL
    have hsame0 : Same G (upd G L (.lst [])) := Same.new hL
    have lstep : ∀ {J1 : Hp} {us us' : List V}, J1 L = some (.lst us) → Stp [L] J1 (upd J1 L (.lst us')) ∧ AllL J1 [L] := fun {J1 us us'} h => ⟨fun b o hb nb => by
      rw [upd_ne (fun z => nb (by rw [z]; exact List.mem_singleton.mpr rfl))]
      exact hb, fun b hb => by rw [List.mem_singleton.mp hb]; exact ⟨⟨_, .l us⟩, h⟩⟩
    have fpL : ∀ b ∈ fp, b ∉ [L] := fun b hb z => by
      obtain ⟨xs, y⟩ := wk.node _ hS b hb
      rw [List.mem_singleton.mp z, hL] at y
      cases y
    have nFL : ∀ b ∈ F, b ∉ [L] := fun b hb z => by
      obtain ⟨xs, y⟩ := RepL.nodes _ _ _ rv b hb
      rw [List.mem_singleton.mp z, hL] at y
      cases y
    refine ⟨fun i m G1 => m = vs.length - i ∧ i ≤ vs.length ∧ ∃ done rest, lcGo x t e r (ds.drop i) = .val rest ∧ ys = done ++ rest ∧ done.length ≤ i ∧ LcInv K H ms r s O Og .fr L S F vs ds done G1,
      ⟨vs.length, by simp, Nat.zero_le _, [], ys, hgo, rfl, Nat.le_refl _, p.trans hsame0, wk.keep _ _ [] hS (same_stp hsame0) (fun _ z => (nomatch z)) (fun _ _ z => nomatch z), rv.same hsame0, [], [], upd_same, .nil, (fun _ z => (nomatch z)), ?_⟩, ?_⟩
    · exact ⟨List.nodup_nil, fun _ z => (nomatch z)⟩
    · rintro i m G1 ⟨rfl, hi, done, rest, hrest, hys, hdl, inv⟩
      obtain ⟨us, E, hL1, rE, oE, kE⟩ := inv.made
      by_cases hlt : i < vs.length
      · refine .inr ⟨wk.go _ _ inv.st hlt, fun G2 => ∃ done rest, lcGo x t e r (ds.drop (i + 1)) = .val rest ∧ ys = done ++ rest ∧ done.length ≤ i + 1 ∧ LcInv K H ms r s O Og .fr L S F vs ds done G2,
          fun G2 h2 => ⟨vs.length - (i + 1), by omega, rfl, hlt, h2⟩, fun v G2 hy => ?_⟩
        obtain ⟨rfl, hv⟩ := wk.yld _ _ _ _ inv.st hlt hy
        have hd : i < ds.length := by rw [← rv.len]; exact hlt
        obtain ⟨v', Fi, e1, rvi, sbi⟩ := inv.src.get (i := i) (d := ds[i]) (List.getElem?_eq_getElem hd)
        rw [hv] at e1
        cases e1
        show wipe ((wipe s [x]).set x (some v)) [x] = wipe s [x] ∧ _
        refine ⟨by show (List.set (List.set (List.set s x none) x (some v)) x none) = List.set s x none; rw [List.set_set, List.set_set], ?_⟩
        have hset : (wipe s [x]).set x (some v) = s.set x (some v) := by show (List.set (List.set s x none) x (some v)) = _; rw [List.set_set]
        rw [hset]
        have en2 : EnvR K G2 ms r s O (fun a => Og a ∧ a ≠ L) := en.less inv.same (fun a h1 ⟨o, h2⟩ => ⟨h1, fun z => by rw [z, hHL] at h2; cases h2⟩) fun a ha => ⟨en.fg a (inv.same.free ha), fun z => by rw [z, hL1] at ha; cases ha⟩
        have en3 : EnvR K G2 (ms.set x .bo) (r.set x (some ds[i])) (s.set x (some v)) (O.set x []) (fun a => Og a ∧ a ≠ L) := en2.putO hm (F := Fi) rvi fun a ha => ⟨og a (List.mem_append_right _ (sbi.subset ha)), fun z => nFL a (sbi.subset ha) (by rw [z]; exact List.mem_singleton.mpr rfl)⟩
        rw [List.drop_eq_getElem_cons hd] at hrest
        unfold lcGo at hrest
        cases ht : t (r.set x (some ds[i])) with
        | stuck => rw [ht] at hrest; cases hrest
        | exn c => rw [ht] at hrest; cases hrest
        | val b =>
          rw [ht] at hrest
          cases b with
          | bool b =>
            refine ⟨_, O.set x [], _, en3, ?_⟩
            rw [ht]
            refine ⟨b, rfl, fun G3 p3 => ?_⟩
            cases b with
            | false =>
              refine iteF ⟨done, rest, hrest, hys, by omega, inv.same.trans p3, wk.keep _ _ [] inv.st (same_stp p3) (fun _ z => (nomatch z)) (fun _ _ z => nomatch z), inv.src.same p3, us, E, p3 _ _ hL1, rE.same p3, oE, kE⟩
            | true =>
              refine iteT ⟨_, O.set x [], _, en3.same p3, ?_⟩
              cases he : e (r.set x (some ds[i])) with
              | stuck => simp only [he] at hrest; cases hrest
              | exn c => simp only [he] at hrest; cases hrest
              | val y =>
                simp only [he] at hrest
                cases hr2 : lcGo x t e r (ds.drop (i + 1)) with
                | stuck => rw [hr2] at hrest; cases hrest
                | exn c => rw [hr2] at hrest; cases hrest
                | val rest2 =>
                  rw [hr2] at hrest
                  cases hrest
                  intro u G4 F4 p4 ru og4 k4
                  have hL4 := p4 _ _ (p3 _ _ hL1)
                  have hus : us.length ≤ LIM := by
                    rw [rE.len]
                    omega
                  refine ⟨us, hL4, Nat.lt_of_le_of_lt hus (by decide), done ++ [y], rest2, rfl, by rw [hys, List.append_assoc]; rfl, by rw [List.length_append, List.length_singleton]; omega, ?_⟩
                  obtain ⟨st1, st2⟩ := lstep (us' := us ++ [u]) hL4
                  have p34 := p3.trans p4
                  have hu4 : ∀ a ∈ F4, a ∉ [L] := fun a ha z => (og4 a ha).2 (List.mem_singleton.mp z)
                  refine ⟨fun b o hb => ?_, wk.keep _ _ [L] (wk.keep _ _ [] inv.st (same_stp p34) (fun _ z => (nomatch z)) fun _ _ z => nomatch z) st1 st2 fpL, RepL.stp st1 st2 _ _ _ (inv.src.same p34) nFL, us ++ [u], E ++ F4, upd_same, ?_, ?_, ?_⟩
                  · rw [upd_ne (ne_of_none hb hHL)]
                    exact p34 _ _ (inv.same _ _ hb)
                  · refine RepL.stp st1 st2 _ _ _ ((rE.same p34).app (.one ru)) fun a ha => ?_
                    rcases List.mem_append.mp ha with ha | ha
                    · exact fun z => (oE a ha).2 (List.mem_singleton.mp z)
                    · exact hu4 a ha
                  · intro a ha
                    rcases List.mem_append.mp ha with ha | ha
                    · exact oE a ha
                    · exact og4 a ha
                  · have nE := RepL.nodes _ _ _ rE
                    have k4' : KOk .fr H O.flatten u F4 := ⟨k4.1, fun a ha => (inv.same.trans p3).free (k4.2 a ha)⟩
                    refine ⟨List.nodup_append.mpr ⟨kE.1, k4'.1, fun a ha b hb z => ?_⟩, fun a ha => ?_⟩
                    · obtain ⟨xs, y1⟩ := nE a ha
                      have := k4.2 b hb
                      rw [← z, p3 _ _ y1] at this
                      cases this
                    · rcases List.mem_append.mp ha with ha | ha
                      · exact kE.2 a ha
                      · exact k4'.2 a ha
          | _ => cases hrest
      · have e0 : i = vs.length := by omega
        subst e0
        refine .inl ⟨wk.stop _ _ inv.st (Nat.le_refl _), ?_⟩
        rw [rv.len, List.drop_length] at hrest
        cases hrest
        rw [List.append_nil] at hys
        subst hys
        refine q (.ref L) G1 (L :: E) inv.same (.lst hL1 rE) (og_cons en hHL fun a ha => (oE a ha).1) ?_
        have nE := RepL.nodes _ _ _ rE
        exact ⟨List.nodup_cons.mpr ⟨fun hm => (oE L hm).2 rfl, kE.1⟩, fun b hb => by
            rcases List.mem_cons.mp hb with rfl | hb
            · exact hHL
            · exact kE.2 b hb⟩
end
section
variable {X : Cx} {cl : Nat → Addr} {W : WX} {ms : List Md} {x i : Nat} {f : En → ER (List D)} {t e : En → ER D} {k : Kd} {elt iter : Expr} {ifs : List Expr} {scope : Scope} {y z : Str} {py pz pos spos : Pos}
theorem i_lcO (hm : ms[x]? = some .ow) (hi : II X cl W ms (.Name y py) iter f k) (ok : BlkOk X.N X.env.scope scope [(y, x)]) (hN : X.N.Nodup) (hc : X.calm = true)
    (hg : ∀ (s : Shared) (H : Hp) (C : Addr) (l : List (Str × Addr)) (fp : List Addr), PG (X.blk s H scope (compEnvC scope l C X.env) fp) (.Name y py) (gName x))
    (ht : ∀ (s : Shared) (H : Hp) (C : Addr) (l : List (Str × Addr)) (fp : List Addr), PTs (X.blk s H scope (compEnvC scope l C X.env) fp) ifs (canT X.K cl W0 (ms.set x .bo) t))
    (he : ∀ (s : Shared) (H : Hp) (C : Addr) (l : List (Str × Addr)) (fp : List Addr), IE (X.blk s H scope (compEnvC scope l C X.env) fp) cl W0 (ms.set x .bo) elt e .fr) (hs : ∀ x, foldedSetIterable iter X.env x = pure x := by intro _; rfl) :
    IE X cl W ms (.ListComp elt [⟨.Name y py, iter, ifs, 0⟩] scope pos) (lc x f t e) Kd.fr.top :=
  pe_imp (pe_lc (te := canE X.K cl W0 (ms.set x .bo) e .fr) hc hN hi ok hg ht he hs) fun s H Q w => lc_redO hm w
theorem set_lcO (hm : ms[x]? = some .ow) (hi : II X cl W ms (.Name y py) iter f k) (ok : BlkOk X.N X.env.scope scope [(y, x)]) (hN : X.N.Nodup) (hc : X.calm = true)
    (hg : ∀ (s : Shared) (H : Hp) (C : Addr) (l : List (Str × Addr)) (fp : List Addr), PG (X.blk s H scope (compEnvC scope l C X.env) fp) (.Name y py) (gName x))
    (ht : ∀ (s : Shared) (H : Hp) (C : Addr) (l : List (Str × Addr)) (fp : List Addr), PTs (X.blk s H scope (compEnvC scope l C X.env) fp) ifs (canT X.K cl W0 (ms.set x .bo) t))
    (he : ∀ (s : Shared) (H : Hp) (C : Addr) (l : List (Str × Addr)) (fp : List Addr), IE (X.blk s H scope (compEnvC scope l C X.env) fp) cl W0 (ms.set x .bo) elt e .fr)
    (hz : X.N[i]? = some z) (hzl : X.env.scope.names.lookup z = some .local) (hsw : swapsWith (.ListComp elt [⟨.Name y py, iter, ifs, 0⟩] scope pos) (some (.Name z pz)) spos.line X.env = pure true) (hs : ∀ x, foldedSetIterable iter X.env x = pure x := by intro _; rfl) :
    PS X (.Assign [.Name z pz] (.ListComp elt [⟨.Name y py, iter, ifs, 0⟩] scope pos) spos) (tAsg (canE X.K cl W ms (lc x f t e) Kd.fr.top) (gName i)) := by
  have h := ps_setLc (te := canE X.K cl W0 (ms.set x .bo) e .fr) hc hN hz hzl hsw hi ok hg ht he hs
  exact ⟨fun pins s z H D I q => h.run pins s z H D I (lc_redO hm q)⟩
end
end Mi

/-! Mini, part 35: sorted of a list of data -/
namespace Mi
open PySem PySem.Spec L2
def okSort (l : List D) : Bool := decide (l.length ≤ 1) || (l.all isTup1 && l.all (fun x => l.all fun y => PySem.W.alike x y) && l.all fun d => d.canLay0 && decide (d.depth ≤ 16))
def dSortE (d : D) : Option D := match d with
  | .list l => if plainL l && okSort l then some (.list (l.mergeSort (PySem.W.dataLe false id))) else none
  | _ => none
section
variable {X : Cx}
def rSortD (K : Fg) : List V → Hp → VK → Prop := fun vs H Q => ∃ (a : Addr) (xs : List V) (ds : List D), vs = [V.ref a] ∧ SqL K H a xs ∧ xs.length = ds.length ∧ (ds.length ≤ 1 ∨ (DpAll K H xs ds ∧ PySem.W.AllAlike ds ∧ PySem.W.Sortable ds ∧ ∀ d ∈ ds, d.depth ≤ 16)) ∧
  ∀ p : Addr, H p = none → Q (.ref p) (upd H p (.lst (((xs.zip ds).mergeSort (PySem.W.dataLe false fun b => b.2)).map (·.1))))
theorem zip_fst {A B : Type} : ∀ {xs : List A} {ds : List B}, xs.length = ds.length → (xs.zip ds).map (·.1) = xs
  | [], [], _ => rfl
  | x :: xs, d :: ds, h => by rw [List.zip_cons_cons, List.map_cons, zip_fst (by simpa using h)]
theorem zip_snd {A B : Type} : ∀ {xs : List A} {ds : List B}, xs.length = ds.length → (xs.zip ds).map (·.2) = ds
  | [], [], _ => rfl
  | x :: xs, d :: ds, h => by rw [List.zip_cons_cons, List.map_cons, zip_snd (by simpa using h)]
theorem each_zip : ∀ {xs : List V} {us : List Value} {ds : List D}, Vals xs us → xs.length = ds.length → PySem.W.EachIs (fun u (b : V × D) => RelV b.1 u) us (xs.zip ds)
  | _, _, [], .nil, _ => .nil
  | _, _, d :: ds, .cons r rs, h => .cons r (each_zip rs (by simpa using h))
theorem each_reads {pins : _} {σ : _} {s : Shared} {H : Hp} (I : Inv X pins σ H s) : ∀ {xs : List V} {us : List Value} {ds : List D}, Vals xs us → DpAll X.K H xs ds → PySem.W.EachIs (fun u (b : V × D) => ∃ as, Reads s.heap u b.2 as) us (xs.zip ds)
  | _, _, _, .nil, .nil => .nil
  | _, _, _, .cons r rs, .cons q qs => .cons (Dp.reads I _ _ _ q r) (each_reads I rs qs)
theorem vals_each : ∀ {us : List Value} {bs : List (V × D)}, PySem.W.EachIs (fun u (b : V × D) => RelV b.1 u) us bs → Vals (bs.map (·.1)) us
  | _, _, .nil => .nil
  | _, _, .cons r rs => .cons r (vals_each rs)
theorem perm_le1 {A : Type} {a b : List A} (hp : a.Perm b) (h : b.length ≤ 1) : a = b := by
  match b, h, hp with
  | [], _, hp => exact List.perm_nil.mp hp
  | [u], _, hp => exact List.perm_singleton.mp hp
theorem sort_le1 {A : Type} {le : A → A → Bool} {b : List A} (h : b.length ≤ 1) : b.mergeSort le = b := by
  match b, h with
  | [], _ => exact List.mergeSort_nil
  | [u], _ => exact List.mergeSort_singleton u
theorem zip_len {A B : Type} {xs : List A} {ds : List B} (h : xs.length = ds.length) : (xs.zip ds).length = xs.length := by
  rw [List.length_zip, ← h, Nat.min_self]
theorem cr_sortD {k : Nat} (hr : Room k X.A) : CallR X (.builtin "sorted") (rSortD X.K) := by
  intro pins s σ H vs us Q I r h
  obtain ⟨a, xs, ds, rfl, hs, hl, hd, q⟩ := h
  obtain ⟨its, rv, hL, hz⟩ := I.list hs
  rw [Vals.ref1 r]
  have zl := zip_len hl
  have rl := rv.length
  have hlen : (((xs.zip ds).mergeSort (PySem.W.dataLe false fun b => b.2)).map (·.1)).length ≤ sizeLine := by
    rw [List.length_map, List.length_mergeSort, zl]
    exact hz
  rcases hd with hd | ⟨h1, h2, h3, h4⟩
  · refine SrtO.sorted_ord SrtO.swo_int hL.isList (by rw [← rl]; exact hz) (fun h => absurd h (by omega)) fun out o1 o2 => ?_
    have e : out = its := perm_le1 o2.perm (by omega)
    obtain ⟨ep, he'⟩ := PyProof.Rows.sortedAll_at s.heap its out.toArray
    have z := each_zip rv hl
    rw [← sort_le1 (le := PySem.W.dataLe false fun b : V × D => b.2) (b := xs.zip ds) (by omega), ← e] at z
    exact ⟨.ref _, upd H (s.heap.objs.size + 1) (.lst _), I.laid (t' := s.toks) (fun _ _ => PyProof.Rows.sortedAll_old) (Nat.le_succ _) ⟨hlen, out, ep, vals_each z, he'⟩, rfl, q _ (I.hok.fresh (Nat.le_succ _))⟩
  · refine PySem.W.sorted_data (β := V × D) (enc := fun b => b.2) (R := fun u b => RelV b.1 u) (bs := xs.zip ds) hL.isList (each_zip rv hl) (each_reads I rv h1) (by rw [zip_snd hl]; exact h2) (by rw [zip_snd hl]; exact h3) (by rw [zl]; exact hz) (fun b hb => ?_) fun out lo eo => ?_
    · have m : b.2 ∈ ds := by
        rw [← zip_snd hl]
        exact List.mem_map.mpr ⟨b, hb, rfl⟩
      have := h4 _ m
      have := hr.units
      omega
    · obtain ⟨ep, he'⟩ := PyProof.Rows.sortedAll_at s.heap its out.toArray
      exact ⟨.ref _, upd H (s.heap.objs.size + 1) (.lst _), I.laid (t' := s.toks) (fun _ _ => PyProof.Rows.sortedAll_old) (Nat.le_succ _) ⟨hlen, out, ep, vals_each eo, he'⟩, rfl, q _ (I.hok.fresh (Nat.le_succ _))⟩
variable {cl : Nat → Addr} {W : WX} {ms : List Md} {a : Expr} {f : En → ER D} {ka : Kd} {k : Nat} {p pos : Pos}
theorem repL_of {K : Fg} {G : Hp} : ∀ (bs : List (V × D)), (∀ b ∈ bs, Rep K G b.1 b.2 []) → RepL K G (bs.map (·.1)) (bs.map (·.2)) []
  | [], _ => .nil
  | b :: bs, h => .cons (h b List.mem_cons_self) (repL_of bs fun c hc => h c (List.mem_cons_of_mem _ hc))
theorem repL_mem {K : Fg} {G : Hp} : ∀ {vs : List V} {ds : List D} {F : List Addr}, RepL K G vs ds F → F = [] → ∀ b ∈ vs.zip ds, Rep K G b.1 b.2 []
  | _, _, _, .nil, _, b, hb => by cases hb
  | _, _, _, .cons (F := F1) (G := F2) r rs, e, b, hb => by
    obtain ⟨e1, e2⟩ := List.append_eq_nil_iff.mp e
    rw [List.zip_cons_cons] at hb
    rcases List.mem_cons.mp hb with rfl | hb
    · rw [e1] at r
      exact r
    · exact repL_mem rs e2 b hb
theorem canAll : ∀ {l : List D}, (∀ d ∈ l, d.canLay0 = true) → PyData.canLayAll0 l = true
  | [], _ => by simp [PyData.canLayAll0]
  | d :: l, h => by
    rw [PyData.canLayAll0, h d List.mem_cons_self]
    exact canAll fun e he => h e (List.mem_cons_of_mem _ he)
theorem i_sortD (hr : Room k X.A) (hm : X.mg "sorted" = none) (ha : IE X cl W ms a f ka) (hg : Gl X "sorted" := by rfl) (he : starEach [a] X.env = (false, eval a X.env) :: starEach [] X.env := by rfl) (hpl : (backTo pos (starEach [] X.env)).any (·.1) = false := by rfl) : IE X cl W ms (.Call (.Name "sorted" p) [a] [] pos) (un dSortE f) .fr :=
  pe_imp (pe_callB (cr_sortD hr) hg hm (by decide +kernel) (pa_cons ha pa_nil he) (by decide) (by decide) he hpl) fun s H Q ⟨r, O, Og, e, w⟩ => by
    show canE _ _ _ _ _ _ s H _
    refine one_ e w fun d v G F o q rv og kv => ?_
    obtain ⟨y, hh, o⟩ := ER.ok_of o
    unfold dSortE at hh
    split at hh
    · rename_i l
      split at hh
      · rename_i hc
        cases hh
        rw [Bool.and_eq_true] at hc
        obtain ⟨hp, hc⟩ := hc
        cases rv with
        | @lst b ws _ M g1 g2 =>
          have hM := RepL.plain _ _ _ g2 hp
          have hl := g2.len
          refine ⟨b, ws, l, rfl, SqL.of g1, hl, ?_, fun c hcn => ?_⟩
          · unfold okSort at hc
            rw [Bool.or_eq_true] at hc
            rcases hc with hc | hc
            · exact .inl (of_decide_eq_true hc)
            · right
              rw [Bool.and_eq_true, Bool.and_eq_true] at hc
              obtain ⟨⟨c1, c2⟩, c3⟩ := hc
              have c3' := fun d hd => Bool.and_eq_true _ _ ▸ (List.all_eq_true.mp c3 d hd)
              refine ⟨RepL.dp _ _ _ g2 ?_, fun d hd d' hd' => List.all_eq_true.mp (List.all_eq_true.mp c2 d hd) d' hd', .inl fun d hd => ?_, fun d hd => of_decide_eq_true (c3' d hd).2⟩
              · exact canAll fun d hd => (c3' d hd).1
              · have := List.all_eq_true.mp c1 d hd
                match d, this with
                | .tuple (x :: r), _ => exact ⟨x, r, rfl⟩
          · refine o _ _ [c] (q.trans (Same.new hcn)) ?_ (og_cons e (q.free hcn) fun z hz => by cases hz) ⟨by simp, fun z hz => by rw [List.mem_singleton] at hz; rw [hz]; exact q.free hcn⟩
            refine .lst upd_same ?_
            have e2 : l.mergeSort (PySem.W.dataLe false id) = ((ws.zip l).mergeSort (PySem.W.dataLe false fun b => b.2)).map (·.2) := by
              have := PySem.W.sort_maps (r := PySem.W.dataLe false fun b : V × D => b.2) (s := PySem.W.dataLe false id) (l := ws.zip l) (fun b => b.2) (fun _ _ _ _ => rfl)
              rw [zip_snd hl] at this
              exact this.symm
            rw [e2]
            refine repL_of _ fun b hb => ?_
            have hb' := (List.mergeSort_perm _ _).mem_iff.mp hb
            have := repL_mem g2 hM b hb'
            exact this.same (Same.new hcn)
      · cases hh
    · cases hh
end
end Mi

/-! Mini, part 36: <= of data; except X as e: return isinstance(e, Y) and isinstance(e, ValueError) -/
namespace Mi
open PySem PySem.Spec L2
def dLeD (a b : D) : Option D := match a, b with
  | .int i, .int j => some (.bool (decide (i ≤ j)))
  | .tuple xs, .tuple ys => if PySem.W.alike (.tuple xs) (.tuple ys) && PyData.canLay0 (.tuple xs) && PyData.canLay0 (.tuple ys) && decide (PyData.depth (.tuple xs) ≤ 16) then some (.bool (!PySem.W.dataLt (.tuple ys) (.tuple xs))) else none
  | _, _ => none
section
variable {X : Cx} {cl : Nat → Addr} {W : WX} {ms : List Md} {a b : Expr} {f g : En → ER D} {ka kb : Kd} {pos : Pos} {k : Nat}
def rLeD (K : Fg) : R2 := fun x y H Q => ∃ d e, Dp K H x d ∧ Dp K H y e ∧ PySem.W.alike d e = true ∧ d ≠ .none ∧ d.depth ≤ 16 ∧ Q (.bl (!PySem.W.dataLt e d)) H
theorem op_leD (hr : Room k X.A) : OpR X (compareOp .LtE) (rLeD X.K) := by
  intro pins s σ H x y v u Q I rx ry h
  obtain ⟨d, e, h1, h2, h3, h4, h5, q⟩ := h
  obtain ⟨as, r1⟩ := Dp.reads I _ _ _ h1 rx
  obtain ⟨bs, r2⟩ := Dp.reads I _ _ _ h2 ry
  have := hr.units
  exact PySem.W.le_data r1 r2 h3 h4 (by have := Nat.min_le_left d.depth e.depth; omega) ⟨.bl _, H, I, rfl, q⟩
theorem sc_leD {K : Fg} : Sc2 K (fun x y H Q => rI0 (fun i j => .bl (decide (i ≤ j))) x y H Q ∨ rLeD K x y H Q) dLeD := by
  intro G v u a b F E d Q e ra rb q
  unfold dLeD at e
  split at e
  · cases e
    cases ra
    cases rb
    exact .inl ⟨_, _, rfl, rfl, q _ (.bl _)⟩
  · split at e
    · rename_i hc
      cases e
      rw [Bool.and_eq_true, Bool.and_eq_true, Bool.and_eq_true] at hc
      obtain ⟨⟨⟨c1, c2⟩, c3⟩, c4⟩ := hc
      exact .inr ⟨_, _, Rep.dp _ _ _ ra c2, Rep.dp _ _ _ rb c3, c1, (fun z => nomatch z), of_decide_eq_true c4, q _ (.bl _)⟩
    · cases e
  · cases e
theorem i_leD (hr : Room k X.A) (ha : IE X cl W ms a f ka) (hb : IE X cl W ms b g kb) : IE X cl W ms (.Compare a [.LtE] [b] pos) (bi dLeD f g) .fr := i_cmp0 (op_le.or (op_leD hr)) sc_leD ha hb (nomark _)
theorem t_leD (hr : Room k X.A) (ha : IE X cl W ms a f ka) (hb : IE X cl W ms b g kb) : IT X cl W ms (.Compare a [.LtE] [b] pos) (bi dLeD f g) := t_cmp0 (op_le.or (op_leD hr)) sc_leD ha hb (nomark _)
end
section
variable {X : Cx} {cl : Nat → Addr} {W : WX} {ms : List Md} {rk : Bool} {body : List Stmt} {b : En → SR} {pr : List Nat} {pos : Pos}
/-- isinstance(e, Y), e held, Y an own class -/
theorem pe_isE2 {a D C : Addr} {oe : Obj} {pn : List (Addr × Obj)} {i : Nat} {n y : Str} {p p1 p2 p3 : Pos} (Cx' : Ex X.K D) (kc : PySem.W.kitOne X.K (.ref D) (.ref C) = some true) (hz : Zc (.ref D) none oe) (hf : ∃ vs, oe.data = .fields vs) (hm : X.mg "isinstance" = none) (hv : X.mg y = some (.ref C)) (hN : X.N[i]? = some n) (hvi : Vis X.env.scope n)
    (hg : Gl X "isinstance" := by rfl) (hgy : Gl X y := by rfl) (hyd : (y == ("__debug__" : Str)) = false := by decide) (hd : (n == ("__debug__" : Str)) = false := by decide) (hcd : (n == ("__classdict__" : Str)) = false := by decide)
    (he2 : starEach [.Name y p2] X.env = (false, eval (.Name y p2) X.env) :: starEach [] X.env := by rfl) (he : starEach [.Name n p1, .Name y p2] X.env = (false, eval (.Name n p1) X.env) :: starEach [.Name y p2] X.env := by rfl) (hpl : (backTo p3 (starEach [.Name y p2] X.env)).any (·.1) = false := by rfl) :
    PE (X.suite a ((a, oe) :: pn)) (.Call (.Name "isinstance" p) [.Name n p1, .Name y p2] [] p3) (fun σ H Q => σ[i]? = some (some (.ref a)) ∧ Q (.bl true) H) :=
  pe_imp (pe_callB (call_isE Cx'.x hz hf) hg hm (by decide +kernel) (pa_cons (pe_var (X := X.suite a ((a, oe) :: pn)) hN hvi hd hcd) (pa_cons (pe_glob (X := X.suite a ((a, oe) :: pn)) (v := .ref C) hgy hv rfl hyd) pa_nil he2) he) (by decide) (by decide) he hpl) fun s H Q ⟨h1, h2⟩ =>
    ⟨.ref a, h1, .ref C, .ref C, true, rfl, fun u r => by cases r; rfl, kc, h2⟩
/-- except X as e: return isinstance(e, Y) and isinstance(e, ValueError) -/
theorem s_tryR2 {h i c0 : Nat} {x n y : Str} {np pos' p p1 p2 p3 rp q0 q1 q2 q3 bp : Pos} (hs : X.stack = X.env :: X.outer) (hf : X.env.frame = some X.env.locals) (hN : X.N.Nodup) (tk : Takes X W) (hc : Names X x (.ref (cl h))) (he : ∀ c ∈ pr, PySem.W.exmOne X.K (.ref (cl c)) (.ref (cl h)) = some (subc c h)) (hx : ∀ c ∈ pr, Ex X.K (cl c)) (hmi : X.mg "isinstance" = none) (hmv : X.mg "ValueError" = none)
    (hkb : ∀ c ∈ pr, PySem.W.kitOne X.K (.ref (cl c)) (.ref (cl c0)) = some true) (hmy : X.mg y = some (.ref (cl c0)))
    (hb : ∀ (W : WX) (pn : List (Addr × Obj)) (xe : Value → Shared → Prop), Takes (X.tr pn xe) W → PassesOwn (model X.prog X.w) X.A X.env xe → ISs (X.tr pn xe) cl W ms rk body b) (hi : X.N[i]? = some n) (hln : X.env.kindOf n = some .local) (hl : i < ms.length)
    (hd : (n == ("__debug__" : Str)) = false := by decide) (hcd : (n == ("__classdict__" : Str)) = false := by decide) (hg : Gl X "isinstance" := by rfl) (hgy : Gl X "ValueError" := by rfl) (hgb : Gl X y := by rfl) (hyd : (y == ("__debug__" : Str)) = false := by decide)
    (he2 : starEach [.Name "ValueError" p2] X.env = (false, eval (.Name "ValueError" p2) X.env) :: starEach [] X.env := by rfl) (he1 : starEach [.Name n p1, .Name "ValueError" p2] X.env = (false, eval (.Name n p1) X.env) :: starEach [.Name "ValueError" p2] X.env := by rfl) (hpl : (backTo p3 (starEach [.Name "ValueError" p2] X.env)).any (·.1) = false := by rfl)
    (hf2 : starEach [.Name y q2] X.env = (false, eval (.Name y q2) X.env) :: starEach [] X.env := by rfl) (hf1 : starEach [.Name n q1, .Name y q2] X.env = (false, eval (.Name n q1) X.env) :: starEach [.Name y q2] X.env := by rfl) (hfl : (backTo q3 (starEach [.Name y q2] X.env)).any (·.1) = false := by rfl) :
    IS X cl W ms rk (.Try body [.ExceptHandler (some (.Name x np)) (some n) [.Return (some (.BoolOp .And [.Call (.Name "isinstance" q0) [.Name n q1, .Name y q2] [] q3, .Call (.Name "isinstance" p) [.Name n p1, .Name "ValueError" p2] [] p3] bp)) rp] pos'] [] [] pos) (tryA pr b h (retS (cst (.bool true)))) :=
  ps_imp (ps_try_as (i := i) (tb := fun W => canS X.K cl W ms rk b) (ts := fun a cls d Dd σ H => ∃ c ∈ pr, cls = .ref (cl c) ∧ d = none ∧ σ[i]? = some (some (.ref a)) ∧ Dd.rt (.bl true) H) hs hf hN hi hln hc tk hb (fun a oe cls d pn hz hf => ⟨fun pins s z H D I q => by
    obtain ⟨c, hc, rfl, rfl, e1, e2⟩ := q
    have A1 := pe_isE2 (p := q0) (p1 := q1) (p2 := q2) (p3 := q3) (a := a) (pn := pn) (hx c hc) (hkb c hc) hz hf hmi hmy hi (.inl hln) hg hgb hyd hd hcd hf2 hf1 hfl
    have A2 := pe_isE (p := p) (p1 := p1) (p2 := p2) (p3 := p3) (a := a) (pn := pn) (hx c hc) hz hf hmi hmv hi (.inl hln) hg hgy hd hcd he2 he1 hpl
    exact (pss_one (ps_ret (pe_and A1 (pe_one A2)))).run pins s z H D I ⟨e1, true, rfl, iteT ⟨e1, e2⟩⟩⟩)) fun D s H ⟨r, O, Og, en, w⟩ => by
    refine ⟨r, O, Og, en, ?_⟩
    unfold tryA at w
    cases hbr : b r with
    | stuck => rw [hbr] at w; exact w
    | nx r' => rw [hbr] at w; exact w
    | ret d r' => rw [hbr] at w; exact w
    | exn c r' =>
      rw [hbr] at w
      dsimp only at w
      intro s' G P e2 t2
      split at w
      · rename_i hc
        have hc' : c ∈ pr := by simpa using hc
        refine ⟨subc c h, he c hc', fun q a ha => ?_, fun q => ?_⟩
        · rw [if_pos q] at w
          refine ⟨c, hc', rfl, rfl, ?_, w (.bl true) s' G P [] e2 t2 (.bl true) (fun _ z => nomatch z) ⟨fun _ z => (nomatch z), fun _ => ⟨List.nodup_nil, fun _ z => (nomatch z)⟩⟩⟩
          rw [List.getElem?_set_self]
          have := e2.env.ls
          have := e2.env.lm
          omega
        · rw [if_neg (by rw [q]; decide)] at w
          exact w s' G P e2 t2
      · exact w.elim
end
end Mi

/-! Mini, part 37: texts -/
namespace Mi
open PySem PySem.Spec L2
def strM (h : D → D → Option D) (f g : En → ER D) : En → ER D := fun r => (f r).bind fun a => match a with
  | .str x => (g r).bind fun b => .of (h (.str x) b)
  | _ => .stuck
def dStrs : List D → Option (List Str)
  | [] => some []
  | .str x :: l => (dStrs l).map (x :: ·)
  | _ => none
theorem dStrs_of {l : List D} {xs : List Str} (h : dStrs l = some xs) : l = xs.map .str := by
  induction l generalizing xs with
  | nil => cases h; rfl
  | cons d l ih =>
    cases d with
    | str x =>
      obtain ⟨m, h1, rfl⟩ := Option.map_eq_some_iff.mp (show (dStrs l).map (x :: ·) = some xs from h)
      rw [ih h1]
      rfl
    | _ => cases h
theorem rep_strs {K : Fg} {H : Hp} : ∀ {xs : List Str} {vs : List V} {F : List Addr}, RepL K H vs (xs.map .str) F → vs = xs.map V.str
  | [], vs, F, h => by cases h; rfl
  | x :: xs, vs, F, h => by
    cases h with
    | cons r1 r2 =>
      cases r1
      rw [rep_strs r2]
      rfl
theorem strs_rep {K : Fg} {H : Hp} : ∀ (xs : List Str), RepL K H (xs.map V.str) (xs.map .str) []
  | [] => .nil
  | x :: xs => .cons (.str x) (strs_rep xs)
def dSplit (a b : D) : Option D := match a, b with
  | .str x, .str y => if (y.length == 0) = false ∧ x.length + 2 ≤ LIM then some (.list ((Txt.split x y).map .str)) else none
  | _, _ => none
def dJoin (a b : D) : Option D := match a, b with
  | .str x, .list l => (dStrs l).bind fun ys => if (ys.map (·.length)).sum + ys.length * x.length ≤ LIM then some (.str (Txt.join x ys)) else none
  | _, _ => none
def dFind (a b : D) : Option D := match a, b with
  | .str x, .str y => some (.int (Txt.find x y))
  | _, _ => none
def dIntS : D → Option D
  | .str x => if x.length ≤ 640 then (PySem.intText? x).map .int else none
  | _ => none
def dStrI : D → Option D
  | .int i => if i.natAbs < 2 ^ 64 then some (.str (toString i)) else none
  | _ => none
def dSlS (d : D) (lo hi : Option Int) : Option D := match d with
  | .str x => if x.length ≤ LIM then some (.str (cutS x lo hi)) else none
  | _ => none
def itsS (f : En → ER D) : En → ER (List D) := fun r => (f r).bind fun d => match d with
  | .str x => .val (x.cps.toList.map fun c => .str ⟨#[c]⟩)
  | _ => .stuck
section
variable {X : Cx} {cl : Nat → Addr} {W : WX} {ms : List Md} {tg a b : Expr} {f g : En → ER D} {ka kb : Kd} {p pos apos p2 : Pos}
theorem i_strM {id : String} {name : Str} {rr : V → List V → Hp → VK → Prop} {h : D → D → Option D} {k : Kd} (slot : Slot "str" name id) (ty : typeOf (.builtin id) = pure (.type "method_descriptor")) (rule : MtR X id rr)
    (fin : ∀ (s : L2.St) (H : Hp) (Q : VK) r O Og x d2 v2 J F2 y, EnvR X.K H ms r s O Og → h (.str x) d2 = some y → Same H J → Rep X.K J v2 d2 F2 → (∀ u G E, Same H G → Rep X.K G u y E → (∀ a ∈ E, Og a) → KOk k H O.flatten u E → Q u G) → rr (.str x) [v2] J Q)
    (ha : IE X cl W ms a f ka) (hb : IE X cl W ms b g kb) (hs : starEach [b] X.env = [(false, eval b X.env)] := by rfl) (hbase : attributeBase a name X.env (eval a X.env) = eval a X.env := by rfl) (hline : (apos.endLine == pos.line) = true := by rfl) :
    IE X cl W ms (.Call (.Attribute a name apos) [b] [] pos) (strM h f g) k :=
  pe_imp (pe_m1 slot ty rule ha hb hs hbase hline) fun s H Q ⟨r, O, Og, e, w⟩ => by
    show canE _ _ _ _ _ _ s H _
    refine one_ e w fun d v G F q p rv og kv => ?_
    cases d with
    | str x =>
      cases rv
      refine ⟨⟨x, rfl⟩, r, O, Og, e.same p, ER.ok_mono (ER.ok_bind q) (fun d2 _ q2 u J E p2 ru og2 kv2 => ?_) fun _ n => Nx.on n p⟩
      obtain ⟨y, hh, o⟩ := ER.ok_of q2
      exact fin s H Q r O Og x d2 u J E y e hh (p.trans p2) ru o
    | _ => exact q.elim
theorem i_split (ha : IE X cl W ms a f ka) (hb : IE X cl W ms b g kb) (hs : starEach [b] X.env = [(false, eval b X.env)] := by rfl) (hbase : attributeBase a "split" X.env (eval a X.env) = eval a X.env := by rfl) (hline : (apos.endLine == pos.line) = true := by rfl) :
    IE X cl W ms (.Call (.Attribute a "split" apos) [b] [] pos) (strM dSplit f g) .fr :=
  i_strM F.slot_str_split F.type_str_split mt_split (fun s H Q r O Og x d2 v2 J F2 y e hh p rv o => by
    unfold dSplit at hh
    split at hh
    · rename_i x' z hx
      cases hx
      split at hh
      · rename_i hc
        cases hh
        cases rv
        refine ⟨_, _, rfl, rfl, hc.1, lim_line hc.2, fun c hcn => ?_⟩
        exact o _ _ [c] (p.trans (Same.new hcn)) (.lst upd_same (strs_rep _)) (og_cons e (p.free hcn) fun z hz => by cases hz) ⟨by simp, fun z hz => by rw [List.mem_singleton] at hz; rw [hz]; exact p.free hcn⟩
      · cases hh
    · cases hh) ha hb hs hbase hline
theorem i_join (ha : IE X cl W ms a f ka) (hb : IE X cl W ms b g kb) (hs : starEach [b] X.env = [(false, eval b X.env)] := by rfl) (hbase : attributeBase a "join" X.env (eval a X.env) = eval a X.env := by rfl) (hline : (apos.endLine == pos.line) = true := by rfl) :
    IE X cl W ms (.Call (.Attribute a "join" apos) [b] [] pos) (strM dJoin f g) .fr :=
  i_strM F.slot_str_join F.type_str_join mt_join (fun s H Q r O Og x d2 v2 J F2 y e hh p rv o => by
    unfold dJoin at hh
    split at hh
    · rename_i x' l hx
      cases hx
      obtain ⟨ys, h1, hh⟩ := Option.bind_eq_some_iff.mp hh
      split at hh
      · rename_i hc
        cases hh
        have e1 := dStrs_of h1
        subst e1
        obtain ⟨c, vs, E, rfl, g1, g2, rfl⟩ := rv.lstE
        have e2 := rep_strs g2
        subst e2
        exact ⟨_, c, ys, rfl, rfl, .inl (SqL.of g1), Nat.le_trans hc (by decide), o _ J [] p (.str _) (fun _ z => (nomatch z)) (KOk.nil (by decide))⟩
      · cases hh
    · cases hh) ha hb hs hbase hline
theorem i_find (ha : IE X cl W ms a f ka) (hb : IE X cl W ms b g kb) (hs : starEach [b] X.env = [(false, eval b X.env)] := by rfl) (hbase : attributeBase a "find" X.env (eval a X.env) = eval a X.env := by rfl) (hline : (apos.endLine == pos.line) = true := by rfl) :
    IE X cl W ms (.Call (.Attribute a "find" apos) [b] [] pos) (strM dFind f g) .fr :=
  i_strM F.slot_str_find F.type_str_find mt_find (fun s H Q r O Og x d2 v2 J F2 y e hh p rv o => by
    cases d2 with
    | str z =>
      cases hh
      cases rv
      exact ⟨_, _, rfl, rfl, o _ J [] p (.int _) (fun _ z => (nomatch z)) (KOk.nil (by decide))⟩
    | _ => cases hh) ha hb hs hbase hline
theorem i_intS (hm : X.mg "int" = none) (ha : IE X cl W ms a f ka) (hg : Gl X "int" := by rfl) (he : starEach [a] X.env = (false, eval a X.env) :: starEach [] X.env := by rfl) (hpl : (backTo pos (starEach [] X.env)).any (·.1) = false := by rfl) : IE X cl W ms (.Call (.Name "int" p) [a] [] pos) (un dIntS f) .fr :=
  i_t1 call_int_str (fun G v d F y Q h rv q => by
    cases d with
    | str x =>
      cases rv
      unfold dIntS at h
      dsimp only at h
      split at h
      · rename_i hl
        obtain ⟨n, h1, rfl⟩ := Option.map_eq_some_iff.mp h
        exact ⟨x, n, rfl, h1, hl, q _ (.int _)⟩
      · cases h
    | _ => cases h) (by decide +kernel) hm ha hg (by decide) (by decide) he hpl
theorem i_strI (hm : X.mg "str" = none) (ha : IE X cl W ms a f ka) (hg : Gl X "str" := by rfl) (he : starEach [a] X.env = (false, eval a X.env) :: starEach [] X.env := by rfl) (hpl : (backTo pos (starEach [] X.env)).any (·.1) = false := by rfl) : IE X cl W ms (.Call (.Name "str" p) [a] [] pos) (un dStrI f) .fr :=
  i_t1 call_str_int (fun G v d F y Q h rv q => by
    cases d with
    | int i =>
      cases rv
      unfold dStrI at h
      dsimp only at h
      split at h
      · rename_i hl
        cases h
        refine ⟨i, rfl, ?_, q _ (.str _)⟩
        by_cases c : i.natAbs = 0
        · rw [c]; decide
        · exact Nat.lt_trans ((Nat.log2_lt c).mpr hl) (by decide)
      · cases h
    | _ => cases h) (by decide +kernel) hm ha hg (by decide) (by decide) he hpl
variable {lo hi : Option Expr} {fl fh : En → ER (Option Int)}
theorem i_slS (ha : IE X cl W ms a f ka) (hl : IO X cl W ms lo fl) (hh : IO X cl W ms hi fh) : IE X cl W ms (.Subscript a (.Slice lo hi none p2) pos) (sl dSlS f fl fh) .fr :=
  pe_imp (pe_slice sl_str ha hl hh) fun s H Q w => sl_ w fun r O Og d v G F lo hi x e h p rv og ⟨J, kv, p1, p2⟩ q => by
    cases d with
    | str l =>
      cases rv
      unfold dSlS at h
      dsimp only at h
      split at h
      · rename_i hl
        cases h
        exact ⟨l, rfl, lim_line hl, q _ G [] p (.str _) (fun _ z => (nomatch z)) (KOk.nil (by decide))⟩
      · cases h
    | _ => cases h
theorem walk_s {x : Str} : Walk (Its x) (x.cps.toList.map fun c => V.str ⟨#[c]⟩) [] (fun _ => True) where
  go := fun H i _ hi => by
    show i < x.cps.size
    simpa using hi
  yld := fun H i v H' _ hi y => by
    obtain ⟨e, c, h1, rfl⟩ := y
    refine ⟨e, ?_⟩
    rw [List.getElem?_map, ← Array.getElem?_toList] at *
    rw [h1]
    rfl
  stop := fun H i _ hi => by
    show x.cps.size ≤ i
    simpa using hi
  keep := fun _ _ _ _ _ _ _ => trivial
  node := fun _ _ _ z => (nomatch z)
theorem signs_rep {K : Fg} {H : Hp} : ∀ (l : List Nat), RepL K H (l.map fun c => V.str ⟨#[c]⟩) (l.map fun c => .str ⟨#[c]⟩) []
  | [] => .nil
  | c :: l => .cons (.str _) (signs_rep l)
theorem it_str (h : IE X cl W ms a f ka) : II X cl W ms tg a (itsS f) .fr :=
  pi_imp (pi_str h) fun s H R ⟨r, O, Og, e, w⟩ => by
    show iStr _ s H R
    refine one_ e w fun d v G F q p rv og kv => ?_
    cases d with
    | str x =>
      cases rv
      exact ⟨x, rfl, q _ _ [] _ [] G p walk_s trivial (signs_rep _) (fun _ z => (nomatch z)) fun _ _ z => (nomatch z)⟩
    | _ => exact q.elim
end
end Mi

/-! Mini, part 38: dicts whose keys are tuples of whole numbers: the heap's side -/
namespace Mi
open PySem PySem.Spec L2 PyProof.Rows
def anyK {A : Type} (l : List (List Int × A)) (k : List Int) : Bool := l.any fun p => decide (p.1 = k)
def putS (l : List (List Int × Sc)) (k : List Int) (v : Sc) : List (List Int × Sc) := if anyK l k = true then l.map (fun p => if p.1 = k then (p.1, v) else p) else l ++ [(k, v)]
def getS (l : List (List Int × Sc)) (k : List Int) : Option Sc := (l.find? fun p => decide (p.1 = k)).map (·.2)
def delS (l : List (List Int × Sc)) (k : List Int) : List (List Int × Sc) := l.filter fun p => decide (p.1 ≠ k)
abbrev DL := List (List Int × Addr × Sc)
def vw (L : DL) : List (List Int × Sc) := L.map fun p => (p.1, p.2.2)
def putL (L : DL) (k : List Int) (b : Addr) (v : Sc) : DL := if anyK L k = true then L.map (fun p => if p.1 = k then (p.1, p.2.1, v) else p) else L ++ [(k, b, v)]
def delL (L : DL) (k : List Int) : DL := L.filter fun p => decide (p.1 ≠ k)
theorem any_vw (L : DL) (k : List Int) : anyK (vw L) k = anyK L k := by
  unfold anyK vw
  rw [List.any_map]
  rfl
theorem vw_put (L : DL) (k : List Int) (b : Addr) (v : Sc) : vw (putL L k b v) = putS (vw L) k v := by
  unfold putL putS
  rw [any_vw]
  split
  · unfold vw
    rw [List.map_map, List.map_map]
    refine List.map_congr_left fun p _ => ?_
    by_cases h : p.1 = k <;> simp [h]
  · unfold vw
    rw [List.map_append]
    rfl
theorem vw_del (L : DL) (k : List Int) : vw (delL L k) = delS (vw L) k := by
  unfold delL delS vw
  induction L with
  | nil => rfl
  | cons p L ih => by_cases h : p.1 = k <;> simp [List.filter_cons, h] at ih ⊢ <;> exact ih
theorem putL_len (L : DL) (k : List Int) (b : Addr) (v : Sc) : (putL L k b v).length ≤ L.length + 1 := by
  unfold putL
  split
  · rw [List.length_map]; omega
  · rw [List.length_append]; exact Nat.le_refl _
theorem mem_putL {L : DL} {k : List Int} {b : Addr} {v : Sc} {p : List Int × Addr × Sc} (h : p ∈ putL L k b v) : (∃ q ∈ L, q.1 = p.1 ∧ q.2.1 = p.2.1) ∨ (p.1 = k ∧ p.2.1 = b) := by
  unfold putL at h
  split at h
  · obtain ⟨q, hq, e⟩ := List.mem_map.mp h
    refine .inl ⟨q, hq, ?_⟩
    by_cases c : q.1 = k
    · rw [if_pos c] at e; rw [← e]; exact ⟨rfl, rfl⟩
    · rw [if_neg c] at e; rw [← e]; exact ⟨rfl, rfl⟩
  · rcases List.mem_append.mp h with h | h
    · exact .inl ⟨p, h, rfl, rfl⟩
    · rw [List.mem_singleton] at h
      rw [h]
      exact .inr ⟨rfl, rfl⟩
theorem mem_delL {L : DL} {k : List Int} {p : List Int × Addr × Sc} (h : p ∈ delL L k) : p ∈ L := (List.mem_filter.mp h).1

abbrev DRel : DL → List (List Int × Addr × Value) → Prop := Paired fun p q => p.1 = q.1 ∧ p.2.1 = q.2.1 ∧ RelV (scV p.2.2) q.2.2
theorem DRel.val {L : DL} {xs : List (List Int × Addr × Value)} (r : DRel L xs) (k : List Int) : RelO ((getS (vw L) k).map scV) ((atKey xs k).map (·.2)) := by
  induction r with
  | nil => exact True.intro
  | @cons p q ps qs h t ih =>
    obtain ⟨h1, _, h2⟩ := h
    by_cases e : p.1 = k
    · have e' : q.1 = k := h1.symm.trans e
      have b : atKey (q :: qs) k = some q.2 := by simp [atKey, List.find?_cons, e']
      have c : getS (vw (p :: ps)) k = some p.2.2 := by simp [getS, vw, List.find?_cons, e]
      rw [b, c]; exact h2
    · have e' : ¬ q.1 = k := fun z => e (h1.trans z)
      have b : atKey (q :: qs) k = atKey qs k := by simp [atKey, List.find?_cons, e']
      have c : getS (vw (p :: ps)) k = getS (vw ps) k := by simp [getS, vw, List.find?_cons, e]
      rw [b, c]; exact ih
theorem anyK_get (l : List (List Int × Sc)) (k : List Int) : anyK l k = (getS l k).isSome := by
  unfold anyK getS
  induction l with
  | nil => rfl
  | cons p l ih => by_cases h : p.1 = k <;> simp [List.find?_cons, h] at ih ⊢ <;> exact ih
theorem DRel.repl {L : DL} {xs : List (List Int × Addr × Value)} (r : DRel L xs) (k : List Int) {v : Sc} {u : Value} (ry : RelV (scV v) u) : DRel (L.map fun p => if p.1 = k then (p.1, p.2.1, v) else p) (xs.map (putAt k u)) := by
  induction r with
  | nil => exact .nil
  | @cons p q ps qs h t ih =>
    rw [List.map_cons, List.map_cons]
    refine .cons ?_ ih
    obtain ⟨h1, h2, h3⟩ := h
    unfold putAt
    by_cases e : p.1 = k
    · rw [if_pos e, if_pos (h1.symm.trans e)]; exact ⟨h1, h2, ry⟩
    · rw [if_neg e, if_neg (fun z => e (h1.trans z))]; exact ⟨h1, h2, h3⟩
theorem DRel.put {L : DL} {xs : List (List Int × Addr × Value)} (r : DRel L xs) (k : List Int) (b : Addr) {v : Sc} {u : Value} (ry : RelV (scV v) u) : DRel (putL L k b v) (storedH xs k b u) := by
  have e : anyK L k = (atKey xs k).isSome := by
    rw [← any_vw, anyK_get]
    have := (r.val k).isSome_eq
    rwa [Option.isSome_map, Option.isSome_map] at this
  unfold putL storedH
  rw [e]
  by_cases q : (atKey xs k).isSome = true
  · rw [if_pos q, if_pos q]; exact r.repl k ry
  · rw [if_neg q, if_neg q]; exact Paired.snoc r ⟨rfl, rfl, ry⟩
theorem DRel.del {L : DL} {xs : List (List Int × Addr × Value)} (r : DRel L xs) (k : List Int) : DRel (delL L k) (withoutH xs k) := by
  unfold delL withoutH
  induction r with
  | nil => exact .nil
  | @cons p q ps qs h t ih =>
    obtain ⟨h1, h2, h3⟩ := h
    rw [List.filter_cons, List.filter_cons]
    by_cases e : p.1 = k
    · have a : ¬ decide (p.1 ≠ k) = true := by simp [e]
      have b : ¬ decide (q.1 ≠ k) = true := by simp [h1.symm.trans e]
      rw [if_neg a, if_neg b]; exact ih
    · have e' : ¬ q.1 = k := fun z => e (h1.trans z)
      have a : decide (p.1 ≠ k) = true := by simp [e]
      have b : decide (q.1 ≠ k) = true := by simp [e']
      rw [if_pos a, if_pos b]; exact .cons ⟨h1, h2, h3⟩ ih
/-- the keys' tuples -/
def KyOk (K : Fg) (H : Hp) (L : DL) : Prop := ∀ p ∈ L, SqT K H p.2.1 (p.1.map V.int)
abbrev TK (P : Program) (w : World) : HeapKind P w (List Int) := tupleKind (PySem.intKind P w)
theorem items_int {P : Program} {w : World} : ∀ {k : List Int} {us : List Value}, Vals (k.map V.int) us → ItemsAre (PySem.intKind P w) k us
  | [], _, .nil => .nil
  | n :: k, _, .cons r t => by
    obtain ⟨tk, rfl⟩ := r
    exact .cons (PySem.intKind_is P w n tk) (items_int t)
section
variable {X : Cx} {pins : List (Addr × Obj)} {σ : L2.St} {H : Hp} {s : Shared} {a b : Addr} {L : DL} {k : List Int} {A : Around} {E : Value → Shared → Prop}
theorem ky_of (I : Inv X pins σ H s) (h : SqT X.K H b (k.map V.int)) : (TK X.prog X.w).is s.heap k b := by
  obtain ⟨its, r, ⟨o, ho, hc, n, hd⟩, _⟩ := I.tuple h
  exact ⟨o, its.toArray, n, ho, hc, hd, by simpa using items_int r⟩
theorem dc_of (I : Inv X pins σ H s) (e : H a = some (DctO a L)) (ky : KyOk X.K H L) : L.length ≤ sizeLine ∧ (a == sysModules) = false ∧ ∃ xs, DRel L xs ∧ s.heap.DictOfH (TK X.prog X.w) a xs := by
  obtain ⟨⟨z, hd, xs, rel, o, es, ep, h1, h2, h3, h4, h5⟩, _⟩ := (show ObjOk X.prog X.w H s.heap a (DctO a L) from I.hok a _ e)
  refine ⟨z, hd, xs, rel, o, es, ep, h1, h2, h3, h4, fun x hx => ?_, h5⟩
  have all : ∀ {l : DL} {m : List (List Int × Addr × Value)}, DRel l m → (∀ p ∈ l, SqT X.K H p.2.1 (p.1.map V.int)) → ∀ x ∈ m, (TK X.prog X.w).is s.heap x.1 x.2.1 := by
    intro l m q
    induction q with
    | nil => intro _ x hx; exact nomatch hx
    | @cons p q ps qs hq t ih =>
      intro hk x hx
      rcases List.mem_cons.mp hx with e | hx
      · subst e
        have := hk p List.mem_cons_self
        rw [hq.1, hq.2.1] at this
        exact ky_of I this
      · exact ih (fun y hy => hk y (List.mem_cons_of_mem _ hy)) x hx
  exact all rel ky x hx
theorem dc_new {P : Program} {w : World} {H' : Hp} {h' : Heap} {xs : List (List Int × Addr × Value)} (z : L.length ≤ sizeLine) (hd : (a == sysModules) = false) (rel : DRel L xs) (dd : h'.DictOfH (TK P w) a xs) : ObjOk P w H' h' a (DctO a L) := by
  obtain ⟨o, es, ep, h1, h2, h3, h4, _, h5⟩ := dd
  refine ⟨⟨z, hd, xs, rel, o, es, ep, h1, h2, h3, h4, h5⟩, ⟨o, h1⟩, fun g1 g2 q k => ?_⟩
  obtain ⟨z, hd, xs, rel, o, es, ep, h1, r⟩ := q
  exact ⟨z, hd, xs, rel, o, es, ep, k o h1, r⟩
theorem room1 (hu : A.units + 1 < cLine) : (TK X.prog X.w).room A.in1 := tupleKind_room_in1 hu
/-- d.get(k, x) -/
theorem dc_get2 {Q : Value → Shared → Prop} {d : V} {r : Value} (hu : A.units + 1 < cLine) (I : Inv X pins σ H s) (e : H a = some (DctO a L)) (ky : KyOk X.K H L) (kb : SqT X.K H b (k.map V.int)) (rd : RelV d r) (h : ∀ w' s', Inv X pins σ H s' → RelV (((getS (vw L) k).map scV).getD d) w' → Q w' s') :
    wpAny (model X.prog X.w) A (call (.builtin "dict.get") [.ref a, .ref b, r]) Q E s := by
  obtain ⟨z, hd, xs, rel, dd⟩ := dc_of I e ky
  refine call_meetsIn PySem.F.slot_dict_get dd.typeIs PySem.F.entry_dict_get (PySem.F.args_dict_get_3 _ _ _) (meetsH_dict_get_default (TK X.prog X.w) a b hd r) ⟨tupleKind_room_in1 hu, k, xs, ky_of I kb, dd, h _ _ (I.tok _) ?_⟩
  exact (rel.val k).getD rd
/-- k in d -/
theorem dc_in {Q : Value → Shared → Prop} (hu : A.units + 1 < cLine) (I : Inv X pins σ H s) (e : H a = some (DctO a L)) (ky : KyOk X.K H L) (kb : SqT X.K H b (k.map V.int)) (h : ∀ s', Inv X pins σ H s' → Q (.bool (anyK (vw L) k)) s') :
    wpAny (model X.prog X.w) A (compareOp .In (.ref b) (.ref a)) Q E s := by
  obtain ⟨z, hd, xs, rel, dd⟩ := dc_of I e ky
  refine wpAny_in_heap (tupleKind_room_in1 hu) (ky_of I kb) hd dd ?_
  have q := (rel.val k).isSome_eq
  rw [Option.isSome_map, Option.isSome_map] at q
  rw [← q, ← anyK_get]
  exact h _ (I.tok _)
theorem dc_notIn {Q : Value → Shared → Prop} (hu : A.units + 1 < cLine) (I : Inv X pins σ H s) (e : H a = some (DctO a L)) (ky : KyOk X.K H L) (kb : SqT X.K H b (k.map V.int)) (h : ∀ s', Inv X pins σ H s' → Q (.bool (!anyK (vw L) k)) s') :
    wpAny (model X.prog X.w) A (compareOp .NotIn (.ref b) (.ref a)) Q E s := by
  obtain ⟨z, hd, xs, rel, dd⟩ := dc_of I e ky
  refine wpAny_notIn_heap (tupleKind_room_in1 hu) (ky_of I kb) hd dd ?_
  have q := (rel.val k).isSome_eq
  rw [Option.isSome_map, Option.isSome_map] at q
  rw [← q, ← anyK_get]
  exact h _ (I.tok _)
/-- d[k], there -/
theorem dc_getItem {Q : Value → Shared → Prop} {v : Sc} (hu : A.units + 1 < cLine) (I : Inv X pins σ H s) (e : H a = some (DctO a L)) (ky : KyOk X.K H L) (kb : SqT X.K H b (k.map V.int)) (l : getS (vw L) k = some v) (h : ∀ w' s', Inv X pins σ H s' → RelV (scV v) w' → Q w' s') :
    wpAny (model X.prog X.w) A (getItem (.ref a) (.ref b)) Q E s := by
  obtain ⟨z, hd, xs, rel, dd⟩ := dc_of I e ky
  obtain ⟨w', hw, rw'⟩ := RelO.some_of (v := scV v) (o := (atKey xs k).map (·.2)) (by have := rel.val k; rw [l] at this; exact this)
  obtain ⟨p, hp, hp2⟩ := Option.map_eq_some_iff.mp hw
  refine wpAny_getItem_heap (tupleKind_room_in1 hu) (ky_of I kb) dd hp ?_
  rw [hp2]
  exact h w' _ (I.tok _) rw'
/-- d[k] = v -/
theorem dc_setItem {Q : Unit → Shared → Prop} {v : Sc} {u : Value} (hu : A.units + 1 < cLine) (I : Inv X pins σ H s) (e : H a = some (DctO a L)) (ky : KyOk X.K H L) (kb : SqT X.K H b (k.map V.int)) (hz : L.length < sizeLine) (rv : RelV (scV v) u) (h : ∀ s', Inv X pins σ (upd H a (DctO a (putL L k b v))) s' → Q () s') :
    wpAny (model X.prog X.w) A (setItem (.ref a) (.ref b) u) Q E s := by
  obtain ⟨z, hd, xs, rel, dd⟩ := dc_of I e ky
  refine wpAny_setItem_heap (hsz := by rw [← Paired.length rel]; exact z) (tupleKind_room_in1 hu) (ky_of I kb) dd fun h' dd' hs => h _ ?_
  have hl : (putL L k b v).length ≤ sizeLine := by have := putL_len L k b v; omega
  obtain ⟨q, es, ep, hq, _⟩ := id dd'
  exact d_write I (by rw [e]; exact True.intro) hs ⟨q, hq⟩ (dc_new hl hd (rel.put k b rv) dd')
/-- d.pop(k), there -/
theorem dc_pop {Q : Value → Shared → Prop} {v : Sc} (hu : A.units + 1 < cLine) (I : Inv X pins σ H s) (e : H a = some (DctO a L)) (ky : KyOk X.K H L) (kb : SqT X.K H b (k.map V.int)) (l : getS (vw L) k = some v) (h : ∀ w' s', Inv X pins σ (upd H a (DctO a (delL L k))) s' → RelV (scV v) w' → Q w' s') :
    wpAny (model X.prog X.w) A (call (.builtin "dict.pop") [.ref a, .ref b]) Q E s := by
  obtain ⟨z, hd, xs, rel, dd⟩ := dc_of I e ky
  obtain ⟨w', hw, rw'⟩ := RelO.some_of (v := scV v) (o := (atKey xs k).map (·.2)) (by have := rel.val k; rw [l] at this; exact this)
  obtain ⟨p, hp, hp2⟩ := Option.map_eq_some_iff.mp hw
  refine call_pop_heap (more := []) (hsz := by rw [← Paired.length rel]; exact z) (.inl rfl) (PySem.F.args_dict_pop_2 _ _) (tupleKind_room_in1 hu) (ky_of I kb) hd dd hp fun h' dd' hs => ?_
  obtain ⟨q, es, ep, hq, _⟩ := id dd'
  rw [hp2]
  exact h _ _ (d_write I (by rw [e]; exact True.intro) hs ⟨q, hq⟩ (dc_new (Nat.le_trans (List.length_filter_le _ _) z) hd (rel.del k) dd')) rw'
/-- {} -/
theorem dc_empty {P : Program} {w : World} {H : Hp} (h : Heap) (hb : sysModules < h.objs.size) : ObjOk P w H (h.push { cls := .type "dict", data := .dict #[] }) h.objs.size (DctO h.objs.size []) :=
  dc_new (Nat.zero_le _) (beq_eq_false_iff_ne.mpr (Ne.symm (Nat.ne_of_lt hb))) .nil (Heap.DictOfH.new h)
def tDNewC : TE := fun _ H Q => ∀ p, H p = none → Q (.ref p) (upd H p (DctO p []))
theorem pe_dnewC {pos : Pos} : PE X (.Dict [] [] pos) tDNewC := ⟨fun pins s σ H Q I h =>
  PySem.wpAny_Dict_empty ⟨.ref s.heap.objs.size, _, I.laid (a := s.heap.objs.size) (o := DctO s.heap.objs.size []) (t' := s.toks) (fun _ _ q => Heap.get?_push_of_some _ q) (Nat.le_refl _) (dc_empty s.heap I.big), rfl, h _ (I.hok.fresh (Nat.le_refl _))⟩⟩
/-- list(d) -/
theorem call_list_dC (hc : X.calm = true) : CallR X (.type "list") (fun xs H Q => ∃ d L, xs = [V.ref d] ∧ H d = some (DctO d L) ∧ KyOk X.K H L ∧ ∀ p, H p = none → Q (.ref p) (upd H p (.lst (L.map fun q => V.ref q.2.1)))) := by
  intro pins s σ H xs us Q I r h
  obtain ⟨d, L, rfl, hd, ky, q⟩ := h
  obtain ⟨u, rfl, rx⟩ := r.one
  cases rx
  obtain ⟨z, hs, ks, pr, o, es, ep, ho, hx, hdt, he, _, hn⟩ := dc_of I hd ky
  have l1 : es.size = ks.length := size_of_entries he
  have l2 : L.length = ks.length := Paired.length pr
  refine PySem.W.kdl_call (kdl_raw hs hx hdt) (I.ok.hd hc) ho (by omega) fun h' tk acc' c' kp e it => ?_
  have ea : acc'.toList = ks.map fun x => Value.ref x.2.1 := by
    have hl : acc'.toList.length = ks.length := by rw [Array.length_toList, it.1]; exact l1
    apply List.ext_getElem?
    intro j
    rw [List.getElem?_map]
    cases hj : acc'.toList[j]? with
    | none =>
      have h1 := List.getElem?_eq_none_iff.mp hj
      rw [List.getElem?_eq_none (by omega)]
      all_goals rfl
    | some v =>
      obtain ⟨en, hen, hv⟩ := it.2 j v (by rw [← Array.getElem?_toList]; exact hj)
      have qe := entry_at he j
      rw [hen] at qe
      cases hb : ks[j]? with
      | none =>
        rw [hb] at qe
        exact nomatch (show some en = none from qe)
      | some b =>
        rw [hb] at qe
        have e2 : en = entryOfKey (TK X.prog X.w) b := Option.some.inj qe
        rw [hv, e2]
        all_goals rfl
  have eb : acc'.toList = (ks.map fun x => x.2.1).map Value.ref := by rw [ea, List.map_map]; all_goals rfl
  have ek : ∀ {A : DL} {B : List (List Int × Addr × Value)}, DRel A B → B.map (fun x => x.2.1) = A.map fun q => q.2.1 := fun {A B} pr => by
    induction pr with
    | nil => rfl
    | cons h t ih => rw [List.map_cons, List.map_cons, ih, h.2.1]
  have rv : Vals ((L.map fun x => x.2.1).map V.ref) acc'.toList := by rw [eb, ek pr]; exact vals_refs _
  rw [List.map_map] at rv
  have hz : (L.map fun q => V.ref q.2.1).length ≤ sizeLine := by rw [List.length_map]; exact z
  refine ⟨.ref s.heap.objs.size, _, I.laid (t' := tk) (o := .lst (L.map fun q => V.ref q.2.1)) kp (Nat.le_refl _) ?_, rfl, q _ (I.hok.fresh (Nat.le_refl _))⟩
  exact ⟨hz, acc'.toList, c', rv, by rw [Array.toArray_toList]; exact e⟩
end
end Mi

/-! Mini, part 39: dicts: {}, d[k] = v, d[k] = d.pop(j), d.get(k, x), k in d, d[k], list(d) -/
namespace Mi
open PySem PySem.Spec L2
theorem kyF {K : Fg} {H : Hp} {v : V} {d : D} {F : List Addr} {k : List Int} (h : Rep K H v d F) (e : unK d = some k) : ∃ b, v = .ref b ∧ SqT K H b (k.map V.int) ∧ F = [] := by
  have e := unK_of e
  subst e
  obtain ⟨b, vs, rfl, h1, h2⟩ := Rep.tupE (ds := k.map .int) h
  have hp : plainL (k.map .int) = true := by rw [plainL_all, List.all_map, List.all_eq_true]; exact fun _ _ => plain_int _
  have hF := RepL.plain _ _ _ h2 hp
  have : ∀ (k : List Int) (vs : List V) (F : List Addr), RepL K H vs (k.map .int) F → vs = k.map V.int := fun k => by
    induction k with
    | nil => intro vs F h; cases h; rfl
    | cons i k ih =>
      intro vs F h
      cases h with
      | cons h1 h2 => cases h1; rw [ih _ _ h2]; rfl
  rw [this k vs F h2] at h1
  exact ⟨b, rfl, h1, hF⟩
theorem kyR {K : Fg} {H : Hp} {b : Addr} {k : List Int} (h : SqT K H b (k.map V.int)) : Rep K H (.ref b) (kyD k) [] := by
  refine .tup h ?_
  clear h
  induction k with
  | nil => exact .nil
  | cons i k ih => exact RepL.cons (.int i) ih
theorem scR {K : Fg} {H : Hp} (v : Sc) : Rep K H (scV v) (scD v) [] := by
  cases v with
  | inl i => exact .int i
  | inr b => exact .bl b
theorem scF {K : Fg} {H : Hp} {v : V} {d : D} {F : List Addr} {sv : Sc} (h : Rep K H v d F) (e : unS d = some sv) : v = scV sv ∧ F = [] := by
  have e := unS_of e
  subst e
  cases sv with
  | inl i => exact h.intE
  | inr b => cases h; exact ⟨rfl, rfl⟩
section
variable {K : Fg} {H : Hp} {a b : Addr} {L : DL}
theorem stpC {o : HO} (h : H a = some (DctO a L)) : Stp [a] H (upd H a o) ∧ AllL H [a] :=
  ⟨fun b o hb nb => by
    rw [upd_ne (fun z => nb (by rw [z]; exact List.mem_singleton.mpr rfl))]
    exact hb, fun b hb => by rw [List.mem_singleton.mp hb]; exact ⟨⟨_, .d _⟩, h⟩⟩
theorem sqT_updC {o : HO} {xs : List V} (h : H a = some (DctO a L)) (t : SqT K H b xs) : SqT K (upd H a o) b xs := (stpC (o := o) h).1.rdT (stpC (o := o) h).2 t
theorem kyOk_updC {o : HO} {M : DL} (h : H a = some (DctO a L)) (t : KyOk K H M) : KyOk K (upd H a o) M := fun p hp => sqT_updC h (t p hp)
theorem KyOk.same {G : Hp} {M : DL} (t : KyOk K H M) (p : Same H G) : KyOk K G M := fun q hq => by
  have := (kyR (t q hq)).same p
  obtain ⟨b, e, h1, _⟩ := kyF this (unK_ky _)
  cases e
  exact h1
theorem KyOk.put {M : DL} (t : KyOk K H M) {k : List Int} {v : Sc} (hk : SqT K H b (k.map V.int)) : KyOk K H (putL M k b v) := fun p hp => by
  rcases mem_putL hp with ⟨q, hq, e1, e2⟩ | ⟨e1, e2⟩
  · rw [← e1, ← e2]; exact t q hq
  · rw [e1, e2]; exact hk
theorem KyOk.del {M : DL} (t : KyOk K H M) (k : List Int) : KyOk K H (delL M k) := fun p hp => t p (mem_delL hp)
theorem RepD.mk {L : DL} {l : List (List Int × Sc)} (h : H a = some (DctO a L)) (ky : KyOk K H L) (e : vw L = l) : Rep K H (.ref a) (dct l) [a] := by
  subst e
  exact .dct h ky
variable {ms : List Md} {r : En} {s : L2.St} {O : List (List Addr)} {Og : Addr → Prop} {x : Nat} {l : List (List Int × Sc)}
/-- its own dict -/
theorem EnvS.wd (en : EnvS K H ms r s O Og) (hm : ms[x]? = some .ow ∨ ms[x]? = some .io) (hd : r[x]? = some (some (dct l))) : ∃ a L, s[x]? = some (some (.ref a)) ∧ H a = some (DctO a L) ∧ KyOk K H L ∧ vw L = l ∧
    ∀ G L', Same H G → KyOk K (upd G a (DctO a L')) L' →
      EnvS K (upd G a (DctO a L')) ms (r.set x (some (dct (vw L')))) s (O.set x [a]) Og ∧ Trn ms s s H (upd G a (DctO a L')) O.flatten (O.set x [a]).flatten := by
  obtain ⟨v, F, h1, h2, h3, h4, h5⟩ := en.env.at_ hd hm
  obtain ⟨a, L, rfl, rfl, g1, g2, g3⟩ := h2.dctE
  refine ⟨a, L, h1, g1, g2, g3, fun G L' p ky => ?_⟩
  have key : ∀ m, ms[x]? = some m → (m = .ow ∨ m = .io) → EnvS K (upd G a (DctO a L')) ms (r.set x (some (dct (vw L')))) (s.set x (some (.ref a))) (O.set x [a]) Og ∧ Trn ms s (s.set x (some (.ref a))) H (upd G a (DctO a L')) O.flatten (O.set x [a]).flatten := fun m hm' hm2 =>
    en.wr hm' (hm2.imp id .inl) h4 (A := [a]) (fun b o hb nb => by
      rw [upd_ne (fun z => nb (by rw [z]; exact List.mem_singleton.mpr rfl))]
      exact p b o hb) (fun b o h => by
      by_cases e : b = a
      · subst e
        exact ⟨_, upd_same⟩
      · exact ⟨o, by rw [upd_ne e]; exact p b o h⟩) (RepD.mk upd_same ky rfl) h3 (by rcases hm2 with rfl | rfl <;> rfl) (by simp) (fun c hc => .inl hc) (fun _ => h1)
  rw [set_self h1] at key
  rcases hm with h | h
  · exact key .ow h (.inl rfl)
  · exact key .io h (.inr rfl)
end
/-! ### readings -/
def dctAt (r : En) (x : Nat) (f : List (List Int × Sc) → SR) : SR := match r[x]? with
  | some (some d) => (match unD d with
    | some l => f l
    | none => .stuck)
  | _ => .stuck
def keyOf (d : D) (f : List Int → SR) : SR := match unK d with
  | some k => f k
  | none => .stuck
/-- x[i] = e -/
def dput (x : Nat) (i e : En → ER D) : En → SR := fun r => (e r).toS r fun d => dctAt r x fun l => (i r).toS r fun z => keyOf z fun k => match unS d with
  | some v => if l.length < LIM then .nx (r.set x (some (dct (putS l k v)))) else .stuck
  | none => .stuck
/-- x[i] = x.pop(j) -/
def dmove (x : Nat) (i j : En → ER D) : En → SR := fun r => dctAt r x fun l => (j r).toS r fun y => keyOf y fun q => match getS l q with
  | some v => (i (r.set x (some (dct (delS l q))))).toS (r.set x (some (dct (delS l q)))) fun z => keyOf z fun k => if l.length < LIM then .nx (r.set x (some (dct (putS (delS l q) k v)))) else .stuck
  | none => .stuck
/-- d.get(k, x) -/
def dget2 (f g e : En → ER D) : En → ER D := fun r => (f r).bind fun d => match unD d with
  | some l => (g r).bind fun z => (e r).bind fun y => .of ((unK z).bind fun k => (unS y).bind fun v => some (scD ((getS l k).getD v)))
  | none => .stuck
def dGetC (a b : D) : Option D := (unD a).bind fun l => (unK b).bind fun k => (getS l k).map scD
def dInC (a b : D) : Option D := (unK a).bind fun k => (unD b).map fun l => .bool (anyK l k)
def dNinC (a b : D) : Option D := (unK a).bind fun k => (unD b).map fun l => .bool (!anyK l k)
def dKeys (a : D) : Option D := (unD a).map fun l => .list (l.map fun p => kyD p.1)
theorem dctAt_ok {r : En} {x : Nat} {f : List (List Int × Sc) → SR} {P : En → Prop} {R : D → En → Prop} {N : Nat → En → Prop} (h : (dctAt r x f).ok P R N) : ∃ l, r[x]? = some (some (dct l)) ∧ (f l).ok P R N := by
  unfold dctAt at h
  split at h
  · rename_i d hd
    split at h
    · rename_i l hl
      rw [unD_of hl] at hd
      exact ⟨l, hd, h⟩
    · exact h.elim
  · exact h.elim
theorem keyOf_ok {d : D} {f : List Int → SR} {P : En → Prop} {R : D → En → Prop} {N : Nat → En → Prop} (h : (keyOf d f).ok P R N) : ∃ k, unK d = some k ∧ (f k).ok P R N := by
  unfold keyOf at h
  split at h
  · rename_i k hk; exact ⟨k, hk, h⟩
  · exact h.elim
section
variable {X : Cx} {cl : Nat → Addr} {W : WX} {ms : List Md} {a b c : Expr} {f g e : En → ER D} {ka kb kc : Kd} {p pos apos cpos : Pos} {rk : Bool} {st : Stmt} {i j : En → ER D} {k ki kj : Kd} {x y k0 : Nat}
def rSetC (K : Fg) : TSet := fun o i v H Q => ∃ a b k sv L, o = .ref a ∧ i = .ref b ∧ v = scV sv ∧ SqT K H b (k.map V.int) ∧ H a = some (DctO a L) ∧ KyOk K H L ∧ L.length < sizeLine ∧ Q (upd H a (DctO a (putL L k b sv)))
theorem set_dc (hu : X.A.units + 1 < cLine) : PSet X (rSetC X.K) := by
  intro pins s σ H o i v ov iv u Q I ro ri rv h
  obtain ⟨a, b, k, sv, L, rfl, rfl, rfl, hk, ha, ky, hz, q⟩ := h
  cases (show ov = Value.ref a from ro)
  cases (show iv = Value.ref b from ri)
  exact dc_setItem hu I ha ky hk hz rv fun s' I' => ⟨_, I', q⟩
theorem e_dnew : IE X cl W ms (.Dict [] [] pos) (cst (dct [])) .fr :=
  pe_imp pe_dnewC fun s H Q ⟨r, O, Og, e, h⟩ => fun c hc => h _ _ [c] (Same.new hc) (RepD.mk upd_same (fun _ z => (nomatch z)) rfl) (fun a ha => by rw [List.mem_singleton.mp ha]; exact e.fg _ hc) ⟨by simp, fun a ha => by rw [List.mem_singleton.mp ha]; exact hc⟩
theorem s_dput (h : PS X st (tAsg (canE X.K cl W ms e k) (gSub (tVar x) (canE X.K cl W ms i ki) (rSetC X.K)))) (hm : ms[x]? = some .ow ∨ ms[x]? = some .io) : IS X cl W ms rk st (dput x i e) :=
  ps_imp h fun D s H ⟨r, O, Og, en, w⟩ => ⟨r, O, Og, en.env, ER.ok_mono (ER.ok_toS w) (fun d _ w v G F p rv og kv => by
    obtain ⟨l, hl, w⟩ := dctAt_ok w
    obtain ⟨a, L, h1, h2, h3, h4, h5⟩ := en.wd hm hl
    refine ⟨_, h1, r, O, Og, en.env.same p, ER.ok_mono (ER.ok_toS w) (fun z _ w u J _ p2 rz _ _ => ?_) fun c q J p2 => q s J O (en.same (p.trans p2)) (Trn.same (p.trans p2))⟩
    obtain ⟨k, hk, w⟩ := keyOf_ok w
    split at w
    · rename_i sv hs
      split at w
      · rename_i hz
        obtain ⟨rfl, _⟩ := scF rv hs
        obtain ⟨b, rfl, hb, _⟩ := kyF rz hk
        have pp := p.trans p2
        have ha := pp _ _ h2
        have ky := h3.same pp
        refine ⟨a, b, k, sv, L, rfl, rfl, rfl, hb, ha, ky, ?_, ?_⟩
        · have : L.length = l.length := by rw [← h4]; exact (List.length_map _).symm
          rw [this]
          exact Nat.lt_of_lt_of_le hz (lim_line (Nat.le_refl _))
        · obtain ⟨t1, t2⟩ := h5 J (putL L k b sv) pp (kyOk_updC ha (ky.put hb))
          rw [vw_put, h4] at t1
          exact w s _ _ t1 t2
      · exact w.elim
    · exact w.elim) fun c q G p => q s G O (en.same p) (Trn.same p)⟩
/-! method calls on a dict -/
theorem dc_typeIs {pins : List (Addr × Obj)} {σ : L2.St} {H : Hp} {s : Shared} {d : Addr} {L : DL} (I : Inv X pins σ H s) (h : H d = some (DctO d L)) : s.TypeIs (.ref d) "dict" ∧ (∀ b, Value.ref d = .ref b → ∃ ob, s.heap.get? b = some ob ∧ ob.dict = none) := by
  obtain ⟨⟨z, hd, xs, rel, o, es, ep, h1, h2, h3, h4, h5⟩, _⟩ := (show ObjOk X.prog X.w H s.heap d (DctO d L) from I.hok d _ h)
  refine ⟨⟨o, h1, h2.1⟩, fun b e => ?_⟩
  cases e
  exact ⟨o, h1, h2.2.1⟩
def tCGet2 (K : Fg) (td ty tx : TE) : TE := fun σ H Q => td σ H fun x H1 => ∃ a L, x = .ref a ∧ H1 a = some (DctO a L) ∧ ty σ H1 fun y H2 => tx σ H2 fun z H3 => ∃ b k L, y = .ref b ∧ SqT K H3 b (k.map V.int) ∧ H3 a = some (DctO a L) ∧ KyOk K H3 L ∧ Q (((getS (vw L) k).map scV).getD z) H3
def tCPop1 (K : Fg) (td ty : TE) : TE := fun σ H Q => td σ H fun x H1 => ∃ a L, x = .ref a ∧ H1 a = some (DctO a L) ∧ ty σ H1 fun y H2 => ∃ b k L v, y = .ref b ∧ SqT K H2 b (k.map V.int) ∧ H2 a = some (DctO a L) ∧ KyOk K H2 L ∧ getS (vw L) k = some v ∧ Q (scV v) (upd H2 a (DctO a (delL L k)))
theorem pe_cget2 {td ty tx : TE} (hu : X.A.units + 1 < cLine) (ho : PE X a td) (he : PE X b ty) (hf : PE X c tx) (m : M2 X a "get" apos b c cpos) : PE X (.Call (.Attribute a "get" apos) [b, c] [] cpos) (tCGet2 X.K td ty tx) := by
  refine ⟨fun pins s σ H Q I h => ?_⟩
  refine wpAny_Call_method m.base m.few m.line PySem.F.plainAttrs_dict PySem.F.slot_dict_get PySem.F.type_dict_get (thn (ho.run pins s σ H _ I h) fun u s1 ⟨x, H1, I1, rx, a, L, ex, d, q1⟩ => ?_)
  subst ex
  obtain rfl : u = Value.ref a := rx
  obtain ⟨t1, t2⟩ := dc_typeIs I1 d
  refine ⟨t1, t2, ?_⟩
  rw [m.trees]
  refine Calls.callWith_builtin rfl (Calls.evalArgs_plain (Calls.spliced_cons (thn (he.run pins s1 σ H1 _ I1 q1) fun iv s2 ⟨y, H2, I2, ry, q2⟩ =>
    Calls.spliced_cons (thn (hf.run pins s2 σ H2 _ I2 q2) fun fv s3 ⟨z, H3, I3, rz, b, k, L, ey, hb, ha, ky, q3⟩ => Calls.spliced_nil ?_))))
  subst ey
  cases (show iv = Value.ref b from ry)
  exact dc_get2 hu I3 ha ky hb rz fun w' s4 I4 rw' => ⟨_, H3, I4, rw', q3⟩
theorem pe_cpop1 {td ty : TE} (hu : X.A.units + 1 < cLine) (ho : PE X a td) (he : PE X b ty) (m : M1 X a "pop" apos b cpos) : PE X (.Call (.Attribute a "pop" apos) [b] [] cpos) (tCPop1 X.K td ty) := by
  refine ⟨fun pins s σ H Q I h => ?_⟩
  refine wpAny_Call_method m.base m.few m.line PySem.F.plainAttrs_dict PySem.F.slot_dict_pop PySem.F.type_dict_pop (thn (ho.run pins s σ H _ I h) fun u s1 ⟨x, H1, I1, rx, a, L, ex, d, q1⟩ => ?_)
  subst ex
  obtain rfl : u = Value.ref a := rx
  obtain ⟨t1, t2⟩ := dc_typeIs I1 d
  refine ⟨t1, t2, ?_⟩
  rw [m.trees]
  refine Calls.callWith_builtin rfl (Calls.evalArgs_plain (Calls.spliced_cons (thn (he.run pins s1 σ H1 _ I1 q1) fun iv s2 ⟨y, H2, I2, ry, b, k, L, v, ey, hb, ha, ky, l, q2⟩ => Calls.spliced_nil ?_)))
  subst ey
  cases (show iv = Value.ref b from ry)
  exact dc_pop hu I2 ha ky hb l fun w' s3 I3 rw' => ⟨_, _, I3, rw', q2⟩
/-- d.get(k, x) -/
theorem i_dget2 (hr : Room k0 X.A) (ha : IE X cl W ms a f ka) (hb : IE X cl W ms b g kb) (hc : IE X cl W ms c e kc) (m : M2 X a "get" apos b c cpos := by exact ⟨rfl, rfl, rfl, rfl⟩) : IE X cl W ms (.Call (.Attribute a "get" apos) [b, c] [] cpos) (dget2 f g e) .fr :=
  pe_imp (pe_cget2 (by have := hr.units; omega) ha hb hc m) fun s H Q ⟨r, O, Og, en, w⟩ => by
    show canE _ _ _ _ _ _ s H _
    refine one_ en w fun d1 v1 G F1 o p1 r1 og1 k1 => ?_
    split at o
    · rename_i l hl
      have hl := unD_of hl
      subst hl
      obtain ⟨a, L, rfl, rfl, h1, h2, h3⟩ := r1.dctE
      refine ⟨a, L, rfl, h1, two_ (en.same p1) (ER.ok_mono o (fun _ _ h => h) fun _ n => Nx.on n p1) fun d2 d3 v2 v3 G2 J F2 F3 o a1 a2 r2 r3 _ _ _ _ => ?_⟩
      obtain ⟨y, hy, o⟩ := ER.ok_of o
      obtain ⟨k, e1, hy⟩ := Option.bind_eq_some_iff.mp hy
      obtain ⟨v, e2, hy⟩ := Option.bind_eq_some_iff.mp hy
      cases hy
      obtain ⟨b, rfl, hb, _⟩ := kyF r2 e1
      obtain ⟨rfl, _⟩ := scF r3 e2
      obtain ⟨b', e3, hb2, _⟩ := kyF ((kyR hb).same a2) (unK_ky k)
      cases e3
      have pp := a1.trans a2
      refine ⟨b, k, L, rfl, hb2, pp _ _ h1, KyOk.same h2 pp, ?_⟩
      have ev : ((getS (vw L) k).map scV).getD (scV v) = scV ((getS l k).getD v) := by
        rw [show vw L = l from h3]
        cases getS l k <;> rfl
      rw [ev]
      exact o _ J [] (p1.trans pp) (scR _) (fun _ z => (nomatch z)) (KOk.nil (by decide))
    · exact o.elim
/-- d[i] = d.pop(j) -/
theorem s_dmove (h : PS X st (tAsg (tCPop1 X.K (tVar x) (canE X.K cl W ms j kj)) (gSub (tVar x) (canE X.K cl W ms i ki) (rSetC X.K)))) (hm : ms[x]? = some .ow ∨ ms[x]? = some .io) : IS X cl W ms rk st (dmove x i j) :=
  ps_imp h fun D s H ⟨r, O, Og, en, w⟩ => by
    obtain ⟨l, hl, w⟩ := dctAt_ok w
    obtain ⟨a, L, h1, h2, h3, h4, h5⟩ := en.wd hm hl
    refine ⟨_, h1, a, L, rfl, h2, r, O, Og, en.env, ER.ok_mono (ER.ok_toS w) (fun y _ w u G F p ry _ _ => ?_) fun c q J p2 => q s J O (en.same p2) (Trn.same p2)⟩
    obtain ⟨q, hq, w⟩ := keyOf_ok w
    split at w
    · rename_i v hv
      obtain ⟨b, rfl, hb, _⟩ := kyF ry hq
      have ha := p _ _ h2
      have ky := h3.same p
      refine ⟨b, q, L, v, rfl, hb, ha, ky, by rw [h4]; exact hv, ?_⟩
      obtain ⟨t1, t2⟩ := h5 G (delL L q) p (kyOk_updC ha (ky.del q))
      rw [vw_del, h4] at t1
      have hxr : x < r.length := (List.getElem?_eq_some_iff.mp hl).1
      obtain ⟨a', L', g1, g2, g3, g4, g5⟩ := t1.wd hm (List.getElem?_set_self hxr)
      refine ⟨_, g1, _, _, Og, t1.env, ER.ok_mono (ER.ok_toS w) (fun z _ w u J _ p2 rz _ _ => ?_) fun c q J p2 => q s J _ (t1.same p2) (t2.trans (Trn.same p2))⟩
      obtain ⟨k, hk, w⟩ := keyOf_ok w
      split at w
      · rename_i hz
        obtain ⟨b2, rfl, hb2, _⟩ := kyF rz hk
        have ha2 := p2 _ _ g2
        have ky2 := g3.same p2
        refine ⟨a', b2, k, v, L', rfl, rfl, rfl, hb2, ha2, ky2, ?_, ?_⟩
        · have e1 : L'.length = (delS l q).length := by rw [← g4]; exact (List.length_map _).symm
          have e2 : (delS l q).length ≤ l.length := List.length_filter_le _ _
          have e3 : l.length < sizeLine := Nat.lt_of_lt_of_le hz (lim_line (Nat.le_refl _))
          omega
        · obtain ⟨t3, t4⟩ := g5 J (putL L' k b2 v) p2 (kyOk_updC ha2 (ky2.put hb2))
          rw [vw_put, g4, List.set_set] at t3
          exact w s _ _ t3 (t2.trans t4)
      · exact w.elim
    · exact w.elim
def rInC (K : Fg) (neg : Bool) : R2 := fun x y H Q => ∃ a b k L, x = .ref b ∧ y = .ref a ∧ SqT K H b (k.map V.int) ∧ H a = some (DctO a L) ∧ KyOk K H L ∧ Q (.bl (if neg then !anyK (vw L) k else anyK (vw L) k)) H
theorem op_inC (hu : X.A.units + 1 < cLine) : OpR X (compareOp .In) (rInC X.K false) := by
  intro pins s σ H x y v u Q I rx ry h
  obtain ⟨a, b, k, L, rfl, rfl, hk, ha, ky, q⟩ := h
  cases (show v = Value.ref b from rx)
  cases (show u = Value.ref a from ry)
  exact dc_in hu I ha ky hk fun s' I' => ⟨.bl _, H, I', rfl, q⟩
theorem op_ninC (hu : X.A.units + 1 < cLine) : OpR X (compareOp .NotIn) (rInC X.K true) := by
  intro pins s σ H x y v u Q I rx ry h
  obtain ⟨a, b, k, L, rfl, rfl, hk, ha, ky, q⟩ := h
  cases (show v = Value.ref b from rx)
  cases (show u = Value.ref a from ry)
  exact dc_notIn hu I ha ky hk fun s' I' => ⟨.bl _, H, I', rfl, q⟩
theorem sc_inC {K : Fg} {neg : Bool} {h : D → D → Option D} (hh : ∀ a b d, h a b = some d → ∃ k l, unK a = some k ∧ unD b = some l ∧ d = .bool (if neg then !anyK l k else anyK l k)) : Sc2 K (rInC K neg) h := by
  intro G v u a b F E d Q e ra rb q
  obtain ⟨k, l, e1, e2, rfl⟩ := hh a b d e
  obtain ⟨b', rfl, hb, _⟩ := kyF ra e1
  have e2 := unD_of e2
  subst e2
  obtain ⟨c, L, rfl, rfl, h1, h2, h3⟩ := rb.dctE
  refine ⟨c, b', k, L, rfl, rfl, hb, h1, h2, ?_⟩
  rw [show vw L = l from h3]
  exact q _ (.bl _)
theorem dInC_of {a b d : D} (h : dInC a b = some d) : ∃ k l, unK a = some k ∧ unD b = some l ∧ d = .bool (if false then !anyK l k else anyK l k) := by
  obtain ⟨k, h1, h⟩ := Option.bind_eq_some_iff.mp h
  obtain ⟨l, h2, rfl⟩ := Option.map_eq_some_iff.mp h
  exact ⟨k, l, h1, h2, rfl⟩
theorem dNinC_of {a b d : D} (h : dNinC a b = some d) : ∃ k l, unK a = some k ∧ unD b = some l ∧ d = .bool (if true then !anyK l k else anyK l k) := by
  obtain ⟨k, h1, h⟩ := Option.bind_eq_some_iff.mp h
  obtain ⟨l, h2, rfl⟩ := Option.map_eq_some_iff.mp h
  exact ⟨k, l, h1, h2, rfl⟩
theorem room_c (hr : Room k0 X.A) : X.A.units + 1 < cLine := by have := hr.units; omega
theorem i_inC (hr : Room k0 X.A) (ha : IE X cl W ms a f ka) (hb : IE X cl W ms b g kb) (hm : behindInMarks .In b = false := by rfl) : IE X cl W ms (.Compare a [.In] [b] pos) (bi dInC f g) .fr := i_cmp0 (op_inC (room_c hr)) (sc_inC fun _ _ _ => dInC_of) ha hb hm
theorem i_ninC (hr : Room k0 X.A) (ha : IE X cl W ms a f ka) (hb : IE X cl W ms b g kb) (hm : behindInMarks .NotIn b = false := by rfl) : IE X cl W ms (.Compare a [.NotIn] [b] pos) (bi dNinC f g) .fr := i_cmp0 (op_ninC (room_c hr)) (sc_inC fun _ _ _ => dNinC_of) ha hb hm
theorem t_inC (hr : Room k0 X.A) (ha : IE X cl W ms a f ka) (hb : IE X cl W ms b g kb) (hm : behindInMarks .In b = false := by rfl) : IT X cl W ms (.Compare a [.In] [b] pos) (bi dInC f g) := t_cmp0 (op_inC (room_c hr)) (sc_inC fun _ _ _ => dInC_of) ha hb hm
theorem t_ninC (hr : Room k0 X.A) (ha : IE X cl W ms a f ka) (hb : IE X cl W ms b g kb) (hm : behindInMarks .NotIn b = false := by rfl) : IT X cl W ms (.Compare a [.NotIn] [b] pos) (bi dNinC f g) := t_cmp0 (op_ninC (room_c hr)) (sc_inC fun _ _ _ => dNinC_of) ha hb hm
/-- list(d) -/
theorem i_keys (hm : X.mg "list" = none) (hc : X.calm = true) (ha : IE X cl W ms a f ka) (hg : Gl X "list" := by rfl) (he : starEach [a] X.env = (false, eval a X.env) :: starEach [] X.env := by rfl) (hpl : (backTo pos (starEach [] X.env)).any (·.1) = false := by rfl) : IE X cl W ms (.Call (.Name "list" p) [a] [] pos) (un dKeys f) .fr :=
  pe_imp (pe_callTy (call_list_dC hc) hg hm (by decide +kernel) (pa_cons ha pa_nil he) (by decide) (by decide) he hpl) fun s H Q ⟨r, O, Og, e, w⟩ => by
    show canE _ _ _ _ _ _ s H _
    refine one_ e w fun d v G F o0 p rv og kv => ?_
    obtain ⟨y, hh, o⟩ := ER.ok_of o0
    obtain ⟨l, hl, rfl⟩ := Option.map_eq_some_iff.mp hh
    have hl := unD_of hl
    subst hl
    obtain ⟨b, L, rfl, rfl, h1, h2, h3⟩ := rv.dctE
    refine ⟨b, L, rfl, h1, h2, fun c hcn => ?_⟩
    have rl : RepL X.K (upd G c (.lst (L.map fun q => V.ref q.2.1))) (L.map fun q => V.ref q.2.1) (l.map fun p => kyD p.1) [] := by
      rw [← h3, List.map_map]
      have ky : KyOk X.K (upd G c (.lst (L.map fun q => V.ref q.2.1))) L := KyOk.same h2 (Same.new hcn)
      have : ∀ M : DL, (∀ p ∈ M, SqT X.K (upd G c (.lst (L.map fun q => V.ref q.2.1))) p.2.1 (p.1.map V.int)) → RepL X.K (upd G c (.lst (L.map fun q => V.ref q.2.1))) (M.map fun q => V.ref q.2.1) (M.map fun p => kyD p.1) [] := fun M => by
        induction M with
        | nil => intro _; exact .nil
        | cons q M ih => intro hM; exact RepL.cons (kyR (hM q List.mem_cons_self)) (ih fun z hz => hM z (List.mem_cons_of_mem _ hz))
      exact this L ky
    exact o _ _ [c] (p.trans (Same.new hcn)) (.lst upd_same rl) (fun z hz => by rw [List.mem_singleton.mp hz]; exact e.fg _ (p.free hcn)) ⟨by simp, fun z hz => by rw [List.mem_singleton.mp hz]; exact p.free hcn⟩
end
end Mi

/-! Mini, part 40: == of two dicts -/
namespace Mi
open PySem PySem.Spec L2 PyProof.Rows
section
variable {prog : Program} {w : World} {K : Type} [DecidableEq K] {knd : HeapKind prog w K} {A : Around} {E : Value → Shared → Prop} {s : Shared}
inductive HitsH {K : Type} [DecidableEq K] (A : Around) (s : Shared) (kb : List (K × Addr × Value)) : List (K × Addr × Value) → Bool → Prop
  | nil : HitsH A s kb [] true
  | miss {x : K × Addr × Value} {r : List (K × Addr × Value)} : atKey kb x.1 = none → HitsH A s kb (x :: r) false
  | hit {x : K × Addr × Value} {p : Addr × Value} {r : List (K × Addr × Value)} {e b : Bool} : atKey kb x.1 = some p → SeqAt.EqAt A s x.2.2 p.2 e → HitsH A s kb r b → HitsH A s kb (x :: r) (e && b)
theorem HitsH.inv {kb : List (K × Addr × Value)} {x : K × Addr × Value} {r : List (K × Addr × Value)} {b : Bool} (h : HitsH A s kb (x :: r) b) :
    (atKey kb x.1 = none ∧ b = false) ∨ ∃ p e b', atKey kb x.1 = some p ∧ SeqAt.EqAt A s x.2.2 p.2 e ∧ HitsH A s kb r b' ∧ b = (e && b') := by
  cases h with
  | miss hn => exact .inl ⟨hn, rfl⟩
  | hit hy he hr => exact .inr ⟨_, _, _, hy, he, hr, rfl⟩
theorem samePairsH {nm : String} {a b : Addr} {ka kb : List (K × Addr × Value)} {r : Bool} {Q : Bool → Shared → Prop} (ha : (a == sysModules) = false) (hb : (b == sysModules) = false) (hu : knd.room A)
    (da : s.heap.DictOfH knd a ka) (db : s.heap.DictOfH knd b kb) (hits : ka.length = kb.length → HitsH A s kb ka r) (h : Q (ka.length == kb.length && r) s) :
    wpAny (model prog w) A (Builtin.Dict.samePairs nm a b) Q E s := by
  obtain ⟨oa, es, ep, hoa, _, hda, hka, hia, _⟩ := da
  obtain ⟨ob, es', ep', hob, _, hdb, hkb, hib, hnb⟩ := db
  have hla : ka.length = es.size := (size_of_entries hka).symm
  have hlb : kb.length = es'.size := (size_of_entries hkb).symm
  rw [hla, hlb] at h
  unfold Builtin.Dict.samePairs Builtin.Dict.showsAll
  rw [if_neg (show ¬ (a == sysModules) = true by rw [ha]; exact Bool.false_ne_true), if_neg (show ¬ (b == sysModules) = true by rw [hb]; exact Bool.false_ne_true)]
  refine wpAny_bind (wpAny_pure (wpAny_bind (wpAny_pure ?_)))
  refine wpAny_bind (wpAny_dictEntries hoa hda ?_)
  dsimp only
  refine wpAny_bind (wpAny_dictEntries hob hdb ?_)
  by_cases hsz : es.size = es'.size
  case neg =>
    rw [if_pos (by simpa using hsz)]
    have hbf : (es.size == es'.size) = false := by simpa using hsz
    rw [hbf, Bool.false_and] at h
    exact wpAny_bind (wpAny_rule (wpAny_pure h))
  case pos =>
    have h' : Q r s := by simpa [hsz] using h
    have hits' := hits (by rw [hla, hlb]; exact hsz)
    rw [if_neg (by rw [hsz]; simp)]
    refine wpAny_bind (wpAny_dictEpoch hoa hda ?_)
    refine wpAny_bind ?_
    rw [Std.Legacy.Range.forIn_eq_forIn_range']
    simp only [Std.Legacy.Range.size, Nat.sub_zero, Nat.add_sub_cancel, Nat.div_one]
    refine wpAny_forIn_list _
      (fun rest q s' => s' = s ∧ q = (none, ()) ∧ ∃ i, rest = List.range' i (es.size - i) ∧ i ≤ es.size ∧ HitsH A s kb (ka.drop i) r)
      _ ?_ ?_ _ _ ⟨rfl, rfl, 0, by simp, Nat.zero_le _, hits'⟩
    · rintro x rest q s' ⟨rfl, rfl, i, hr, hi, hpre⟩
      have hlt : i < es.size := by
        rcases Nat.lt_or_ge i es.size with h | h
        · exact h
        · rw [Nat.sub_eq_zero_of_le h] at hr; simp at hr
      obtain ⟨rfl, hrest⟩ : x = i ∧ rest = List.range' (i + 1) (es.size - (i + 1)) := by
        have e : es.size - i = (es.size - (i + 1)) + 1 := by omega
        rw [e, List.range'_succ] at hr
        injection hr with h1 h2
        exact ⟨h1, h2⟩
      refine wpAny_bind (wpAny_dictEntries hoa hda ?_)
      rw [Array.getElem?_eq_getElem hlt]
      have hlt' : x < ka.length := by rw [hla]; exact hlt
      obtain ⟨y, hy⟩ : ∃ y, ka[x] = y := ⟨_, rfl⟩
      have hdrop : ka.drop x = y :: ka.drop (x + 1) := by rw [← hy]; exact List.drop_eq_getElem_cons hlt'
      have ee : es[x] = entryOfKey knd y := by
        have q := entry_at hka x
        rw [Array.getElem?_eq_getElem hlt, List.getElem?_eq_getElem hlt', hy] at q
        exact Option.some.inj q
      have hkey : knd.is s'.heap y.1 y.2.1 := hia y (by rw [← hy]; exact List.getElem_mem hlt')
      rw [hdrop] at hpre
      rw [ee]
      show wpAny _ _ (holding [.ref y.2.1, y.2.2] _ >>= _) _ _ _
      refine wpAny_bind (wpAny_holding (wpAny_bind (wpAny_dictFind_heap (a := y.2.1) (k := y.1) hu hkey hob hdb hkb hib hnb (fun hno => ?_) fun j p hj => ?_)))
      · have hn := atKey_none_of_get hno
        rcases hpre.inv with ⟨_, er⟩ | ⟨y, _, _, hy, _⟩
        · rw [er] at h'
          refine wpAny_pure ?_
          show wpAny _ _ (if (!false) = true then _ else _) _ _ _
          rw [if_pos (by decide)]
          exact wpAny_pure (wpAny_pure h')
        · rw [hn] at hy; exact nomatch hy
      · have hv' := atKey_of_get hnb hj
        have hjlt : j < es'.size := by rw [← hlb]; exact (List.getElem?_eq_some_iff.mp hj).1
        have ej : es'[j] = entryOfKey knd (y.1, p) := by
          have q := entry_at hkb j
          rw [Array.getElem?_eq_getElem hjlt, hj] at q
          exact Option.some.inj q
        refine wpAny_bind (wpAny_dictEntries hob hdb ?_)
        rw [Array.getElem?_eq_getElem hjlt, ej]
        rcases hpre.inv with ⟨hn, _⟩ | ⟨p', e, b', hy', he, hrr, er⟩
        · rw [hv'] at hn; exact nomatch hn
        · have ey : p = p' := Option.some.inj (hv'.symm.trans hy')
          rw [← ey] at he
          refine wpAny_holding (he prog w _ _ ?_)
          cases e with
          | false =>
            rw [er, Bool.false_and] at h'
            show wpAny _ _ (if (!false) = true then _ else _) _ _ _
            rw [if_pos (by decide)]
            exact wpAny_pure (wpAny_pure h')
          | true =>
            rw [Bool.true_and] at er
            rw [← er] at hrr
            show wpAny _ _ (if (!true) = true then _ else _) _ _ _
            rw [if_neg (by decide)]
            refine wpAny_bind (wpAny_dictEpoch hoa hda ?_)
            rw [if_neg (by simp)]
            exact wpAny_pure ⟨rfl, rfl, x + 1, hrest, hlt, hrr⟩
    · rintro q s' ⟨rfl, rfl, i, hr, hi, hpre⟩
      have hin : i = es.size := by
        rcases Nat.lt_or_ge i es.size with h | h
        · have e : es.size - i = (es.size - (i + 1)) + 1 := by omega
          rw [e, List.range'_succ] at hr; exact nomatch hr
        · exact Nat.le_antisymm hi h
      refine wpAny_pure ?_
      rw [hin, ← hla, List.drop_length] at hpre
      cases hpre
      exact h'
theorem eqH {a b : Addr} {ka kb : List (K × Addr × Value)} {r : Bool} {Q : Value → Shared → Prop} (ha : (a == sysModules) = false) (hb : (b == sysModules) = false) (hu2 : knd.room A.in1)
    (da : s.heap.DictOfH knd a ka) (db : s.heap.DictOfH knd b kb) (hu : A.units < cLine) (hits : ka.length = kb.length → HitsH A.in1 s kb ka r) (h : Q (.bool (ka.length == kb.length && r)) s) :
    wpAny (model prog w) A (compareOp .Eq (.ref a) (.ref b)) Q E s := by
  refine wpAny_richCompare_same_room (op := .Eq) da.typeIs db.typeIs PySem.F.slot_dict_eq (wpAny_call_entry PySem.F.slot_dict_eq da.typeIs PySem.F.entry_dict_eq ?_ (PySem.F.args_dict_eq_2 _ _)) hu
  show wpAny _ _ (Builtin.Dict.dictSlotArgs "__eq__" ⟨[.ref a, .ref b], []⟩ >>= _) _ _ s
  refine wpAny_bind ?_
  unfold Builtin.Dict.dictSlotArgs
  refine wpAny_bind (wpAny_notOrdered_dict da.typeIs ?_)
  show wpAny _ _ (pure (Value.ref a, Value.ref b)) _ _ s
  refine wpAny_pure ?_
  refine wpAny_bind (wpAny_isInstance (T := "dict") db.typeIs PySem.F.sub_dict_dict ?_)
  simp only [Bool.not_true, Bool.false_eq_true, if_false]
  refine wpAny_bind (wpAny_pure (wpAny_bind (wpAny_pure ?_)))
  refine wpAny_bind (samePairsH ha hb hu2 da db hits ?_)
  refine wpAny_pure ⟨_, rfl, ?_, ?_⟩
  · exact fun x => nomatch x
  · simpa using h
end
/-! ### by trees: values whole numbers -/
def onlyI (l : List (List Int × Sc)) : Bool := l.all fun p => match p.2 with | .inl _ => true | .inr _ => false
/-- every pair of l is one of m -/
def subS (m : List (List Int × Sc)) (l : List (List Int × Sc)) : Bool := l.all fun p => decide (getS m p.1 = some p.2)
def eqS (l m : List (List Int × Sc)) : Bool := l.length == m.length && subS m l
def dEqC (a b : D) : Option D := (unD a).bind fun l => (unD b).bind fun m => if onlyI l && onlyI m then some (.bool (eqS l m)) else none
theorem RelV_inl {i : Int} {u : Value} (h : RelV (scV (.inl i)) u) : ∃ t, u = .int i t := h
theorem onlyI_get {l : List (List Int × Sc)} {k : List Int} {v : Sc} (h : onlyI l = true) (g : getS l k = some v) : ∃ i, v = .inl i := by
  unfold getS at g
  obtain ⟨p, hp, rfl⟩ := Option.map_eq_some_iff.mp g
  have := List.all_eq_true.mp h p (List.mem_of_find?_eq_some hp)
  cases hv : p.2 with
  | inl i => exact ⟨i, rfl⟩
  | inr b => rw [hv] at this; cases this
theorem hits_of {A : Around} {s : Shared} {M : DL} {ys : List (List Int × Addr × Value)} (rm : DRel M ys) (om : onlyI (vw M) = true) : ∀ {L : DL} {xs : List (List Int × Addr × Value)}, DRel L xs → onlyI (vw L) = true → HitsH A s ys xs (subS (vw M) (vw L))
  | _, _, .nil, _ => .nil
  | _, _, .cons (a := p) (b := q) (l₁ := ps) (l₂ := qs) h t, ol => by
    have ol' : onlyI (vw ps) = true := by
      unfold onlyI vw at ol ⊢
      rw [List.map_cons, List.all_cons, Bool.and_eq_true] at ol
      exact ol.2
    have op : ∃ i, p.2.2 = .inl i := by
      unfold onlyI vw at ol
      rw [List.map_cons, List.all_cons, Bool.and_eq_true] at ol
      have := ol.1
      cases hv : p.2.2 with
      | inl i => exact ⟨i, rfl⟩
      | inr b => rw [hv] at this; cases this
    have ih := hits_of (A := A) (s := s) rm om t ol'
    obtain ⟨h1, _, h3⟩ := h
    have e : subS (vw M) (vw (p :: ps)) = (decide (getS (vw M) p.1 = some p.2.2) && subS (vw M) (vw ps)) := by
      unfold subS vw
      rw [List.map_cons, List.all_cons]
    rw [e]
    have rv := rm.val p.1
    cases g : getS (vw M) p.1 with
    | none =>
      rw [g] at rv
      have hn : atKey ys q.1 = none := by
        rw [← h1]
        cases z : atKey ys p.1 with
        | none => rfl
        | some y => rw [z] at rv; exact (show False from rv).elim
      rw [decide_eq_false (fun z => nomatch z), Bool.false_and]
      exact .miss hn
    | some v =>
      rw [g] at rv
      obtain ⟨i, hi⟩ := op
      obtain ⟨j, rfl⟩ := onlyI_get om g
      cases z : atKey ys p.1 with
      | none => rw [z] at rv; exact (show False from rv).elim
      | some y =>
        rw [z] at rv
        have rv : RelV (scV (.inl j)) y.2 := rv
        obtain ⟨t1, e1⟩ := RelV_inl rv
        rw [hi] at h3
        obtain ⟨t2, e2⟩ := RelV_inl h3
        have hq : SeqAt.EqAt A s q.2.2 y.2 (i == j) := by rw [e1, e2]; exact SeqAt.EqAt.int_int i t2 j t1
        have he : decide (some (Sum.inl j : Sc) = some p.2.2) = (i == j) := by
          rw [hi, Bool.eq_iff_iff, decide_eq_true_eq, beq_iff_eq]
          constructor
          · intro h; cases h; rfl
          · intro h; rw [h]
        rw [he]
        exact .hit (by rw [← h1]; exact z) hq ih
section
variable {X : Cx} {cl : Nat → Addr} {W : WX} {ms : List Md} {a b : Expr} {f g : En → ER D} {ka kb : Kd} {pos : Pos} {k0 : Nat}
def rEqC (K : Fg) : R2 := fun x y H Q => ∃ a b L M, x = .ref a ∧ y = .ref b ∧ H a = some (DctO a L) ∧ H b = some (DctO b M) ∧ KyOk K H L ∧ KyOk K H M ∧ onlyI (vw L) = true ∧ onlyI (vw M) = true ∧ Q (.bl (eqS (vw L) (vw M))) H
theorem op_eqC (hu : X.A.units + 1 < cLine) : OpR X (compareOp .Eq) (rEqC X.K) := by
  intro pins s σ H x y v u Q I rx ry h
  obtain ⟨a, b, L, M, rfl, rfl, ha, hb, ka, kb, oa, ob, q⟩ := h
  cases (show v = Value.ref a from rx)
  cases (show u = Value.ref b from ry)
  obtain ⟨_, a1, xs, ra, da⟩ := dc_of I ha ka
  obtain ⟨_, b1, ys, rb, db⟩ := dc_of I hb kb
  refine eqH (knd := TK X.prog X.w) a1 b1 (tupleKind_room_in1 hu) da db (by omega) (fun _ => hits_of rb ob ra oa) ?_
  refine ⟨.bl (eqS (vw L) (vw M)), H, I, ?_, q⟩
  have e1 : xs.length = (vw L).length := by rw [← Paired.length ra]; exact (List.length_map _).symm
  have e2 : ys.length = (vw M).length := by rw [← Paired.length rb]; exact (List.length_map _).symm
  rw [e1, e2]
  rfl
theorem sc_eqC {K : Fg} : Sc2 K (rEqC K) dEqC := by
  intro G v u a b F E d Q e ra rb q
  obtain ⟨l, h1, e⟩ := Option.bind_eq_some_iff.mp e
  obtain ⟨m, h2, e⟩ := Option.bind_eq_some_iff.mp e
  split at e
  · rename_i hc
    cases e
    rw [Bool.and_eq_true] at hc
    have h1 := unD_of h1
    have h2 := unD_of h2
    subst h1 h2
    obtain ⟨c, L, rfl, rfl, g1, g2, g3⟩ := ra.dctE
    obtain ⟨c', M, rfl, rfl, k1, k2, k3⟩ := rb.dctE
    refine ⟨c, c', L, M, rfl, rfl, g1, k1, g2, k2, by rw [show vw L = l from g3]; exact hc.1, by rw [show vw M = m from k3]; exact hc.2, ?_⟩
    rw [show vw L = l from g3, show vw M = m from k3]
    exact q _ (.bl _)
  · cases e
theorem i_eqC (hr : Room k0 X.A) (ha : IE X cl W ms a f ka) (hb : IE X cl W ms b g kb) : IE X cl W ms (.Compare a [.Eq] [b] pos) (bi dEqC f g) .fr := i_cmp0 (op_eqC (room_c hr)) sc_eqC ha hb (nomark _)
theorem t_eqC (hr : Room k0 X.A) (ha : IE X cl W ms a f ka) (hb : IE X cl W ms b g kb) : IT X cl W ms (.Compare a [.Eq] [b] pos) (bi dEqC f g) := t_cmp0 (op_eqC (room_c hr)) sc_eqC ha hb (nomark _)
end
end Mi

/-! Mini, part 41: dicts: d[k], {k: v}, dict(d), max(d.values()); len(set(xs)); t * 1 -/
namespace Mi
open PySem PySem.Spec L2 PyProof.Rows
/-! ### d[k] -/
section
variable {X : Cx} {cl : Nat → Addr} {W : WX} {ms : List Md} {a b : Expr} {f g : En → ER D} {ka kb : Kd} {p p2 pos apos cpos : Pos} {k0 : Nat}
def rIxC (K : Fg) : R2 := fun x y H Q => ∃ a b k L v, x = .ref a ∧ y = .ref b ∧ SqT K H b (k.map V.int) ∧ H a = some (DctO a L) ∧ KyOk K H L ∧ getS (vw L) k = some v ∧ Q (scV v) H
theorem ix_c (hu : X.A.units + 1 < cLine) : IxR X (rIxC X.K) := by
  intro value slice pins s σ H x y v u Q I rx ry h hs
  obtain ⟨a, b, k, L, sv, rfl, rfl, hk, ha, ky, g, q⟩ := h
  obtain rfl : v = Value.ref a := rx
  obtain rfl : u = Value.ref b := ry
  obtain ⟨t1, _⟩ := dc_typeIs I ha
  exact tail_any t1 slot_dict_getitem.lookup (dc_getItem hu I ha ky hk g fun w' s' I' rw' => ⟨_, H, I', rw', q⟩) hs
theorem i_ixC (hr : Room k0 X.A) (ha : IE X cl W ms a f ka) (hb : IE X cl W ms b g kb) (hs : PlainIx b := by exact fun _ _ => rfl) : IE X cl W ms (.Subscript a b pos) (bi dGetC f g) .fr :=
  pe_imp (pe_ix (ix_c (room_c hr)) ha hb hs) fun s H Q ⟨r, O, Og, e, w⟩ => by
    show tOp _ _ _ s H Q
    refine two_ e w fun d1 d2 v1 v2 G J F1 F2 o0 a1 a2 r1 r2 g1 g2 k1 k2 => ?_
    obtain ⟨d, hh, o⟩ := ER.ok_of o0
    obtain ⟨l, h1, hh⟩ := Option.bind_eq_some_iff.mp hh
    obtain ⟨k, h2, hh⟩ := Option.bind_eq_some_iff.mp hh
    obtain ⟨v, h3, rfl⟩ := Option.map_eq_some_iff.mp hh
    have h1 := unD_of h1
    subst h1
    obtain ⟨c, L, rfl, rfl, m1, m2, m3⟩ := (r1.same a2).dctE
    obtain ⟨b', rfl, hb', _⟩ := kyF r2 h2
    exact ⟨c, b', k, L, v, rfl, rfl, hb', m1, m2, by rw [show vw L = l from m3]; exact h3, o _ J [] (a1.trans a2) (scR _) (fun _ z => (nomatch z)) (KOk.nil (by decide))⟩
/-! ### {k: v} -/
def tCDisp (K : Fg) (ta tb : TE) : TE := fun σ H Q => ∀ p, H p = none → tPairs [(ta, tb)] σ (upd H p (DctO p [])) fun ps H2 => H2 p = some (DctO p []) ∧ ∃ c k sv, ps = [(.ref c, scV sv)] ∧ SqT K H2 c (k.map V.int) ∧ Q (.ref p) (upd H2 p (DctO p [(k, c, sv)]))
theorem pe_cdisp {ta tb : TE} (hu : X.A.units + 1 < cLine) (ha : PE X a ta) (hb : PE X b tb) : PE X (.Dict [some a] [b] pos) (tCDisp X.K ta tb) := by
  refine ⟨fun pins s σ H Q I q => ?_⟩
  have hn := I.hok.fresh (Nat.le_refl s.heap.objs.size)
  have I1 := I.laid (a := s.heap.objs.size) (o := DctO s.heap.objs.size []) (h' := s.heap.push { cls := .type "dict", data := .dict #[] }) (t' := s.toks) (fun _ _ q => Heap.get?_push_of_some _ q) (Nat.le_refl _) (dc_empty s.heap I.big)
  have hz := zip_pairTrees [some a] [b] X.env pos rfl rfl
  have hl := pairTrees_length [some a] [b] X.env pos rfl rfl
  have hl : (pairTrees [some a] [b] X.env pos).length = 1 := hl
  rw [arm_eval_Dict, hz, dictDisplay_pairs (pairTrees [some a] [b] X.env pos) (fun z => by rw [z] at hl; cases hl) (by rw [hl]; decide)]
  refine wpAny_bind (wpAny_standAt (wpAny_bind (wpAny_subDictH (knd := TK X.prog X.w) (pairs := pairTrees [some a] [b] X.env pos) (Q := fun d s' => wpAny (model X.prog X.w) X.A (pure (Value.ref d)) _ _ s') (show X.A.units < cLine by omega) (by rw [hl]; decide) ?_)))
  refine thn ((pps_cons ha hb pps_nil).run pins _ σ _ (fun ps H2 => H2 s.heap.objs.size = some (DctO s.heap.objs.size []) ∧ ∃ c k sv, ps = [(.ref c, scV sv)] ∧ SqT X.K H2 c (k.map V.int) ∧ Q (.ref s.heap.objs.size) (upd H2 s.heap.objs.size (DctO s.heap.objs.size [(k, c, sv)]))) I1 (q _ hn)) fun ws s2 ⟨ps, H2, I2, rel, e, c, k, sv, ep, hk, q2⟩ => ?_
  subst ep
  obtain ⟨w2, ew, h1, h2⟩ : ∃ w2 : Value × Value, ws = [w2] ∧ RelV (V.ref c) w2.1 ∧ RelV (scV sv) w2.2 := by
    cases rel with
    | cons h t =>
      cases t
      exact ⟨_, rfl, h⟩
  · subst ew
    have e1 : w2.1 = Value.ref c := h1
    obtain ⟨z, hd, xs, r0, dd⟩ := dc_of I2 e (fun p hp => nomatch hp)
    cases r0
    refine ⟨[(k, c, w2.2)], ⟨e1, rfl, ky_of I2 hk, True.intro⟩, dd, fun h' tk dd' hs => wpAny_pure ⟨.ref s.heap.objs.size, _, ?_, rfl, q2⟩⟩
    obtain ⟨qo, es, ep, hq, _⟩ := id dd'
    have rl : DRel [(k, c, sv)] (storedAllH [] [(k, c, w2.2)]) := .cons ⟨rfl, rfl, h2⟩ .nil
    exact d_write I2 (by rw [e]; exact True.intro) hs ⟨qo, hq⟩ (dc_new (by rw [sizeLine_eq]; show 1 ≤ 16777216; decide) hd rl dd')
/-- {k: v} -/
def ddisp (f g : En → ER D) : En → ER D := fun r => (f r).bind fun z => (g r).bind fun y => .of ((unK z).bind fun k => (unS y).bind fun v => some (dct [(k, v)]))
theorem i_ddisp (hr : Room k0 X.A) (ha : IE X cl W ms a f ka) (hb : IE X cl W ms b g kb) : IE X cl W ms (.Dict [some a] [b] pos) (ddisp f g) .fr :=
  pe_imp (pe_cdisp (room_c hr) ha hb) fun s H Q ⟨r, O, Og, e, w⟩ => fun c hc => by
    show canE _ _ _ _ _ _ s (upd H c (DctO c [])) fun v1 G => canE _ _ _ _ _ _ s G fun v2 J => _
    have e1 := e.same (Same.new (o := DctO c []) hc)
    refine two_ e1 (ER.ok_mono w (fun _ _ h => h) fun _ n => Nx.on n (Same.new hc)) fun d1 d2 v1 v2 G J F1 F2 o0 a1 a2 r1 r2 g1 g2 k1 k2 => ?_
    obtain ⟨d, hh, o⟩ := ER.ok_of o0
    obtain ⟨k, h1, hh⟩ := Option.bind_eq_some_iff.mp hh
    obtain ⟨v, h2, hh⟩ := Option.bind_eq_some_iff.mp hh
    cases hh
    obtain ⟨b, rfl, hb1, _⟩ := kyF r1 h1
    obtain ⟨rfl, _⟩ := scF r2 h2
    obtain ⟨b2, eb, hb2, _⟩ := kyF ((kyR hb1).same a2) (unK_ky k)
    cases eb
    have hJ : J c = some (DctO c []) := a2 _ _ (a1 _ _ upd_same)
    refine ⟨hJ, b, k, v, rfl, hb2, ?_⟩
    have ss : Same H (upd J c (DctO c [(k, b, v)])) := fun x ob hx => by
      rw [upd_ne (fun z => by rw [z, hc] at hx; cases hx)]
      exact a2 _ _ (a1 _ _ (by rw [upd_ne (fun z => by rw [z, hc] at hx; cases hx)]; exact hx))
    refine o _ _ [c] ss (RepD.mk upd_same (fun p hp => ?_) rfl) (fun a ha => by rw [List.mem_singleton.mp ha]; exact e.fg _ hc) ⟨by simp, fun a ha => by rw [List.mem_singleton.mp ha]; exact hc⟩
    rw [List.mem_singleton] at hp
    subst hp
    exact sqT_updC hJ hb2
/-! ### dict(d) -/
theorem call_dictH {prog : Program} {w : World} {K : Type} [DecidableEq K] {knd : HeapKind prog w K} {A : Around} {E : Value → Shared → Prop} {s : Shared} {o : Addr} {more : List (K × Addr × Value)} {Q : Value → Shared → Prop} (hu : knd.room A.in1.in1) (hoS : (o == sysModules) = false) (ho : s.heap.DictOfH knd o more) (ht : ∀ x ∈ more, s.TypeIs (.ref x.2.1) "tuple") (hn : (more.map fun x => knd.hash x.1).Nodup) (hsz : more.length ≤ sizeLine)
    (hk : ∀ x ∈ more, ∀ h', (∀ b o, s.heap.get? b = some o → h'.get? b = some o) → knd.is h' x.1 x.2.1)
    (h : ∀ h', h'.DictOfH knd s.heap.objs.size more → Heap.SameBut s.heap.objs.size (s.heap.push { cls := .type "dict", data := .dict #[] }) h' → Q (.ref s.heap.objs.size) { s with heap := h' }) :
    wpAny (model prog w) A (call (.type "dict") [.ref o]) Q E s := by
  refine callType_codes (Q₁ := fun obj s₁ => obj = .ref s.heap.objs.size ∧ s₁ = { s with heap := s.heap.push { cls := .type "dict", data := .dict #[] } }) F.kt_called_dict (F.kt_typeCall_dict_1 _) F.entry_dict_init (kt_code_dict_new _ ⟨rfl, rfl⟩) ?_
  rintro obj s₁ ⟨rfl, rfl⟩
  have hnew : (s.heap.push { cls := .type "dict", data := .dict #[] }).DictOfH knd s.heap.objs.size [] := Heap.DictOfH.new s.heap
  have kp : ∀ b o, s.heap.get? b = some o → (s.heap.push { cls := .type "dict", data := .dict #[] }).get? b = some o := fun b o e => Heap.get?_push_of_some _ e
  have ho' : (s.heap.push { cls := .type "dict", data := .dict #[] }).DictOfH knd o more := ho.at' (kp o) fun y hy => hk y hy _ kp
  have hkn : (more.map (·.1)).Nodup := let ⟨_, _, _, _, _, _, _, _, hn⟩ := ho; hn
  have hdo : s.heap.objs.size ≠ o := by
    obtain ⟨_, _, _, hg, _⟩ := ho
    exact fun e => absurd (Heap.lt_size hg) (by rw [e]; exact Nat.lt_irrefl _)
  refine ⟨hnew.typeIs, F.args_dict_init_2 _ _, ?_⟩
  unfold Builtin.«dict.__init__»
  refine wpAny_bind ?_
  unfold Builtin.Dict.selfAndRest
  refine wpAny_bind (wpAny_notOrdered_dict hnew.typeIs ?_)
  show wpAny _ _ (pure (s.heap.objs.size, [Value.ref o])) _ _ _
  refine wpAny_pure ?_
  show wpAny _ _ (Builtin.Dict.updateFrom "dict.__init__" s.heap.objs.size (.ref o) [] .none) _ _ _
  unfold Builtin.Dict.updateFrom
  refine wpAny_bind (wpAny_typeOf ho'.typeIs ?_)
  rw [if_neg (by decide)]
  refine wpAny_bind ?_
  unfold Builtin.Dict.merge
  refine wpAny_bind ?_
  unfold Builtin.Dict.readDirectly
  refine wpAny_bind (wpAny_isInstance ho'.typeIs isSubtype_dict_dict ?_)
  simp only [Bool.not_true, Bool.false_eq_true, if_false]
  refine wpAny_bind (wpAny_specialOf ho'.typeIs F.slot_dict_iter.lookup (wpAny_pure ?_))
  simp only [beq_self_eq_true, if_true]
  refine wpAny_bind (wpAny_pure ?_)
  refine wpAny_mergeDict_heap (hsz := by simpa using hsz) hu hdo hoS hnew ho' (.inr ⟨fun x hx => ?_, hn⟩) fun h' hd' _ hs' => ?_
  · obtain ⟨ob, h1, h2⟩ := ht x hx
    exact ⟨ob, kp _ _ h1, h2⟩
  show wpAny _ _ (Builtin.Dict.addKeywords s.heap.objs.size [] >>= _) _ _ _
  rw [storedAllH_nil_of_nodup more hkn] at hd'
  exact wpAny_bind (wpAny_pure (wpAny_pure ⟨rfl, h h' hd' hs'⟩))
/-- a copy: the keys' hashes must be apart -/
def dCopy (a : D) : Option D := (unD a).bind fun l => if (l.map fun p => hI p.1).Nodup then some (dct l) else none
theorem DRel.hash {L : DL} {xs : List (List Int × Addr × Value)} (r : DRel L xs) : xs.map (fun x => hI x.1) = (vw L).map fun p => hI p.1 := by
  induction r with
  | nil => rfl
  | cons h t ih =>
    unfold vw at ih ⊢
    rw [List.map_cons, List.map_cons, List.map_cons, ih, h.1]
theorem cr_dcopy (hu : X.A.units + 64 < cLine) : CallR X (.type "dict") (fun xs H Q => ∃ d L, xs = [V.ref d] ∧ H d = some (DctO d L) ∧ KyOk X.K H L ∧ ((vw L).map fun p => hI p.1).Nodup ∧ ∀ p, H p = none → Q (.ref p) (upd H p (DctO p L))) := by
  intro pins s σ H xs us Q I r h
  obtain ⟨d, L, rfl, hd, ky, hn, q⟩ := h
  rw [Vals.ref1 r]
  obtain ⟨z, hs, ys, pr, dd⟩ := dc_of I hd ky
  obtain ⟨_, _, _, _, _, _, _, his, _⟩ := id dd
  refine call_dictH (knd := TK X.prog X.w) (show X.A.units + 1 + 1 < cLine by omega) hs dd (fun x hx => tupleKind_stays.tuple (his x hx)) ?_ (by rw [← Paired.length pr]; exact z) (fun x hx h' kp => tupleKind_stays.stays (fun b o vs n e _ => kp b o e) (his x hx)) fun h' dd' hs' => ?_
  · have : (ys.map fun x => (TK X.prog X.w).hash x.1) = (vw L).map fun p => hI p.1 := pr.hash
    rw [this]
    exact hn
  · have hn := I.hok.fresh (Nat.le_refl s.heap.objs.size)
    refine ⟨.ref s.heap.objs.size, _, I.laid (a := s.heap.objs.size) (o := DctO s.heap.objs.size L) (t' := s.toks) (fun b q hq => ?_) (Nat.le_refl _) (dc_new z (beq_eq_false_iff_ne.mpr (Ne.symm (Nat.ne_of_lt I.big))) pr dd'), rfl, q _ hn⟩
    exact (hs'.2 b (Nat.ne_of_lt (Heap.lt_size hq))).trans (Heap.get?_push_of_some _ hq)
theorem i_dcopy (hr : Room k0 X.A) (hm : X.mg "dict" = none) (ha : IE X cl W ms a f ka) (hg : Gl X "dict" := by rfl) (he : starEach [a] X.env = (false, eval a X.env) :: starEach [] X.env := by rfl) (hpl : (backTo pos (starEach [] X.env)).any (·.1) = false := by rfl) : IE X cl W ms (.Call (.Name "dict" p) [a] [] pos) (un dCopy f) .fr :=
  pe_imp (pe_callTy (cr_dcopy hr.units) hg hm (by decide +kernel) (pa_cons ha pa_nil he) (by decide) (by decide) he hpl) fun s H Q ⟨r, O, Og, e, w⟩ => by
    show canE _ _ _ _ _ _ s H _
    refine one_ e w fun d v G F o0 p rv og kv => ?_
    obtain ⟨y, hh, o⟩ := ER.ok_of o0
    obtain ⟨l, hl, hh⟩ := Option.bind_eq_some_iff.mp hh
    split at hh
    · rename_i hc
      cases hh
      have hl := unD_of hl
      subst hl
      obtain ⟨b, L, rfl, rfl, h1, h2, h3⟩ := rv.dctE
      refine ⟨b, L, rfl, h1, h2, by rw [show vw L = l from h3]; exact hc, fun c hcn => ?_⟩
      exact o _ _ [c] (p.trans (Same.new hcn)) (RepD.mk upd_same (KyOk.same h2 (Same.new hcn)) h3) (fun z hz => by rw [List.mem_singleton.mp hz]; exact e.fg _ (p.free hcn)) ⟨by simp, fun z hz => by rw [List.mem_singleton.mp hz]; exact p.free hcn⟩
    · cases hh
/-! ### max(d.values()) -/
def tMaxV (K : Fg) (td : TE) : TE := fun σ H Q => td σ H fun x H1 => ∃ a L, ∃ ns : List Int, x = .ref a ∧ H1 a = some (DctO a L) ∧ KyOk K H1 L ∧ (vw L).map (·.2) = ns.map Sum.inl ∧ 0 < ns.length ∧ ∀ m : Int, m ∈ ns → (∀ y ∈ ns, y ≤ m) → Q (.int m) H1
theorem DRel.vals {L : DL} {xs : List (List Int × Addr × Value)} (r : DRel L xs) : ∀ {ns : List Int}, (vw L).map (·.2) = ns.map Sum.inl → ∀ (i : Nat) (x : List Int × Addr × Value), xs[i]? = some x → ∃ t, x.2.2 = .int (ns.getD i 0) t := by
  induction r with
  | nil => intro ns _ i x h; simp at h
  | @cons p q ps qs h t ih =>
    intro ns e i x hx
    cases ns with
    | nil => unfold vw at e; cases e
    | cons n ns =>
      unfold vw at e
      rw [List.map_cons, List.map_cons, List.map_cons] at e
      injection e with e1 e2
      cases i with
      | zero =>
        rw [List.getElem?_cons_zero] at hx
        cases hx
        have h3 := h.2.2
        rw [show p.2.2 = Sum.inl n from e1] at h3
        exact h3
      | succ i =>
        rw [List.getElem?_cons_succ] at hx
        rw [List.getD_cons_succ]
        exact ih e2 i x hx
theorem pe_maxV {td : TE} (hc : X.calm = true) (hg : Gl X "max") (hm : X.mg "max" = none) (ha : PE X a td) (m : attributeBase a "values" X.env (eval a X.env) = eval a X.env := by rfl) (hl : (apos.endLine == cpos.line) = true := by rfl)
    (na : starEach [(Expr.Call (.Attribute a "values" apos) [] [] cpos)] X.env = (false, eval (.Call (.Attribute a "values" apos) [] [] cpos) X.env) :: starEach [] X.env := by rfl) : PE X (.Call (.Name "max" p) [.Call (.Attribute a "values" apos) [] [] cpos] [] pos) (tMaxV X.K td) := by
  refine ⟨fun pins s σ H Q I h => ?_⟩
  refine Call_ (ld_blt I hg hm (show bootBuiltins "max" = some (.builtin "max") by decide +kernel) ?_)
  refine PyProof.Rows.callWith_builtin1 (PyProof.Rows.args_cons ?_ na) na rfl
  refine wpAny_Call_method m rfl hl PySem.F.plainAttrs_dict PySem.F.slot_dict_values PySem.F.type_dict_values (thn (ha.run pins s σ H _ I h) fun u s1 ⟨x, H1, I1, rx, a, L, ns, ex, hd, ky, hv, h0, q1⟩ => ?_)
  subst ex
  obtain rfl : u = Value.ref a := rx
  obtain ⟨t1, t2⟩ := dc_typeIs I1 hd
  refine ⟨t1, t2, ?_⟩
  obtain ⟨z, hs, xs, rel, o, es, ep, ho, hx, hdt, he, hky, hnd⟩ := dc_of I1 hd ky
  refine Calls.callWith_builtin rfl (PySem.evalArgs_none ?_)
  refine call_meetsIn PySem.F.slot_dict_values t1 PySem.F.entry_dict_values (PySem.F.args_dict_values_1 _) (meets_dict_values_raw a hs) ⟨⟨es, ep, o, ho, hx, hdt⟩, ?_⟩
  refine PyProof.Rows.args_nil ?_
  have hv' : (s1.heap.push { cls := .type "dict_values", data := .fields #[.ref a] }).IsValuesView s1.heap.objs.size a := ⟨_, Heap.get?_push_size _ rfl, rfl, rfl⟩
  have hr' : (s1.heap.push { cls := .type "dict_values", data := .fields #[.ref a] }).DictRaw a es ep := ⟨o, Heap.get?_push_of_some _ ho, hx, hdt⟩
  refine call_max_walk ?_
  refine wpAny_pyIter_values_raw hv' hr' ?_
  have hsz : es.size = xs.length := size_of_entries he
  have hxn : xs.length = ns.length := by
    have e1 := Paired.length rel
    have e2 := congrArg List.length hv
    unfold vw at e2
    rw [List.length_map, List.length_map, List.length_map] at e2
    omega
  have sz1 : (s1.heap.push { cls := .type "dict_values", data := .fields #[.ref a] }).objs.size = s1.heap.objs.size + 1 := Heap.size_push _ _
  have la : a < s1.heap.objs.size := Heap.lt_size ho
  have hP : ∀ (i : Nat) (v : Value), (∃ hi : i < es.size, v = es[i].val) → ∃ t, v = .int (ns.getD i 0) t := fun i v ⟨hi, e⟩ => by
    have q := entry_at he i
    rw [Array.getElem?_eq_getElem hi] at q
    have hi2 : i < xs.length := by omega
    rw [List.getElem?_eq_getElem hi2] at q
    have q2 : es[i] = entryOfKey (TK X.prog X.w) xs[i] := Option.some.inj q
    obtain ⟨t, ht⟩ := rel.vals hv i xs[i] (List.getElem?_eq_getElem hi2)
    refine ⟨t, ?_⟩
    rw [e, q2]
    exact ht
  refine ⟨_, _, _, es.size, _, _, fun i j => decide (ns.getD i 0 > ns.getD j 0), rfl, Walks.rawValues (show X.A.in1.handled = none from I1.ok.hd hc) (s1.heap.push { cls := .type "dict_values", data := .fields #[.ref a] }).objs.size a (by rw [sz1]; exact Nat.ne_of_lt (Nat.lt_succ_of_lt la)) es ep, ⟨⟨_, Heap.get?_push_size _ rfl, rfl, rfl⟩, o, Heap.get?_push_of_some _ (Heap.get?_push_of_some _ ho), hx, hdt⟩, fun b hb => ?_, by omega, CmpOf.ints_gt (fun i => ns.getD i 0) hP, fun v h' tk hv2 hk => ?_⟩
  · show b < (Heap.push _ _).objs.size
    rw [Heap.size_push]
    rcases List.mem_cons.mp hb with z | z
    · rw [z]
      exact Nat.lt_succ_self _
    · rw [List.mem_singleton.mp z, sz1]
      exact Nat.lt_succ_of_lt (Nat.lt_succ_of_lt la)
  · obtain ⟨t, rfl⟩ := hP _ _ hv2
    obtain ⟨m1', m2'⟩ := argBest_gt (fun i => ns.getD i 0) (es.size - 1)
    have m1 : argBest (fun i j => decide (ns.getD i 0 > ns.getD j 0)) (es.size - 1) ≤ es.size - 1 := m1'
    have m2 : ∀ j, j ≤ es.size - 1 → ns.getD j 0 ≤ ns.getD (argBest (fun i j => decide (ns.getD i 0 > ns.getD j 0)) (es.size - 1)) 0 := m2'
    have hk2 : ∀ b o, s1.heap.get? b = some o → h'.get? b = some o := fun b o e => hk b o (fun z => by
      rw [List.mem_singleton.mp z, sz1] at e
      exact absurd (Heap.lt_size e) (Nat.not_lt.mpr (Nat.le_succ _))) (Heap.get?_push_of_some _ (Heap.get?_push_of_some _ e))
    refine ⟨.int _, H1, I1.kept (t' := tk) hk2, ⟨t, rfl⟩, q1 _ (PySem.getD_mem (by omega)) fun y hy => ?_⟩
    obtain ⟨j, hj, e⟩ := List.mem_iff_getElem.mp hy
    have z := m2 j (by omega)
    have e3 : ns.getD j 0 = y := by rw [List.getD_eq_getElem?_getD, List.getElem?_eq_getElem hj, ← e] <;> rfl
    rw [e3] at z
    exact z
def valsI : List (List Int × Sc) → Option (List Int)
  | [] => some []
  | (_, .inl i) :: l => (valsI l).map (i :: ·)
  | _ => none
theorem valsI_of : ∀ {l : List (List Int × Sc)} {ns : List Int}, valsI l = some ns → l.map (·.2) = ns.map Sum.inl
  | [], _, h => by cases h; rfl
  | (k, .inl i) :: l, ns, h => by
    obtain ⟨m, h1, rfl⟩ := Option.map_eq_some_iff.mp (show (valsI l).map (i :: ·) = some ns from h)
    rw [List.map_cons, List.map_cons, valsI_of h1]
  | (k, .inr b) :: l, ns, h => by cases h
def maxZ : List Int → Option Int
  | [] => none
  | a :: l => some (l.foldl (fun m x => if m < x then x else m) a)
theorem foldl_max : ∀ (l : List Int) (a : Int), (l.foldl (fun m x => if m < x then x else m) a) ∈ a :: l ∧ ∀ y ∈ a :: l, y ≤ l.foldl (fun m x => if m < x then x else m) a
  | [], a => by simp
  | b :: l, a => by
    rw [List.foldl_cons]
    obtain ⟨h1, h2⟩ := foldl_max l (if a < b then b else a)
    refine ⟨?_, fun y hy => ?_⟩
    · rcases List.mem_cons.mp h1 with h | h
      · rw [h]; split <;> simp
      · exact List.mem_cons_of_mem _ (List.mem_cons_of_mem _ h)
    · have h3 := h2 _ List.mem_cons_self
      rcases List.mem_cons.mp hy with rfl | hy
      · refine Int.le_trans ?_ h3
        split <;> omega
      · rcases List.mem_cons.mp hy with rfl | hy
        · refine Int.le_trans ?_ h3
          split <;> omega
        · exact h2 y (List.mem_cons_of_mem _ hy)
theorem maxZ_of {ns : List Int} {m : Int} (h : maxZ ns = some m) : 0 < ns.length ∧ m ∈ ns ∧ ∀ y ∈ ns, y ≤ m := by
  cases ns with
  | nil => cases h
  | cons a l =>
    cases h
    obtain ⟨h1, h2⟩ := foldl_max l a
    exact ⟨Nat.succ_pos _, h1, h2⟩
def dMaxV (a : D) : Option D := (unD a).bind fun l => (valsI l).bind fun ns => (maxZ ns).map .int
theorem i_maxV (hc : X.calm = true) (hm : X.mg "max" = none) (ha : IE X cl W ms a f ka) (hg : Gl X "max" := by rfl) (m : attributeBase a "values" X.env (eval a X.env) = eval a X.env := by rfl) (hl : (apos.endLine == cpos.line) = true := by rfl)
    (na : starEach [(Expr.Call (.Attribute a "values" apos) [] [] cpos)] X.env = (false, eval (.Call (.Attribute a "values" apos) [] [] cpos) X.env) :: starEach [] X.env := by rfl) : IE X cl W ms (.Call (.Name "max" p) [.Call (.Attribute a "values" apos) [] [] cpos] [] pos) (un dMaxV f) .fr :=
  pe_imp (pe_maxV hc hg hm ha m hl na) fun s H Q ⟨r, O, Og, e, w⟩ => by
    show canE _ _ _ _ _ _ s H _
    refine one_ e w fun d v G F o0 p rv og kv => ?_
    obtain ⟨y, hh, o⟩ := ER.ok_of o0
    obtain ⟨l, hl, hh⟩ := Option.bind_eq_some_iff.mp hh
    obtain ⟨ns, h1, hh⟩ := Option.bind_eq_some_iff.mp hh
    obtain ⟨m, h2, rfl⟩ := Option.map_eq_some_iff.mp hh
    have hl := unD_of hl
    subst hl
    obtain ⟨b, L, rfl, rfl, g1, g2, g3⟩ := rv.dctE
    obtain ⟨p1, p2, p3⟩ := maxZ_of h2
    refine ⟨b, L, ns, rfl, g1, g2, by rw [show vw L = l from g3]; exact valsI_of h1, p1, fun z hz hy => ?_⟩
    have : z = m := by
      have := hy m p2
      have := p3 z hz
      omega
    subst this
    exact o _ G [] p (.int _) (fun _ z => (nomatch z)) (KOk.nil (by decide))
/-! ### len(set(xs)), distinct whole numbers -/
def dLenSet (a : D) : Option D := match a with
  | .list l => (unI l).bind fun ns => if ns.length < 64 ∧ ns.Nodup then some (.int ns.length) else none
  | _ => none
theorem i_lenSet (hc : X.calm = true) (hm : X.mg "len" = none) (hm2 : X.mg "set" = none) (ha : IE X cl W ms a f ka) (hg : Gl X "len" := by rfl) (hg2 : Gl X "set" := by rfl)
    (na : starEach [a] X.env = (false, eval a X.env) :: starEach [] X.env := by rfl) : IE X cl W ms (.Call (.Name "len" p) [.Call (.Name "set" p2) [a] [] cpos] [] pos) (un dLenSet f) .fr :=
  pe_imp (pe_lenSetI hc hg hm hg2 hm2 ha na) fun s H Q ⟨r, O, Og, e, w⟩ => by
    show canE _ _ _ _ _ _ s H _
    refine one_ e w fun d v G F o0 p rv og kv => ?_
    obtain ⟨y, hh, o⟩ := ER.ok_of o0
    unfold dLenSet at hh
    split at hh
    · rename_i l
      obtain ⟨ns, h1, hh⟩ := Option.bind_eq_some_iff.mp hh
      split at hh
      · rename_i hn
        cases hh
        obtain ⟨b, vs, E, rfl, g1, g2, rfl⟩ := rv.lstE
        have e1 := unI_of h1
        subst e1
        have : ∀ (k : List Int) (vs : List V) (F : List Addr), RepL X.K G vs (k.map .int) F → vs = k.map V.int := fun k => by
          induction k with
          | nil => intro vs F h; cases h; rfl
          | cons i k ih =>
            intro vs F h
            cases h with
            | cons h1 h2 => cases h1; rw [ih _ _ h2]; rfl
        have ev := this _ _ _ g2
        subst ev
        exact ⟨b, ns, rfl, SqL.of g1, hn.1, hn.2, o _ G [] p (.int _) (fun _ z => (nomatch z)) (KOk.nil (by decide))⟩
      · cases hh
    · cases hh
/-! ### t * 1 -/
theorem tuple_mul1 (l : Addr) (items : Array Value) (n : Nat) (dd : Option Addr) (sl : Array (Option Value)) (u : Tok) :
    Meets (Builtin.«tuple.__mul__» ⟨[.ref l, .int 1 u], []⟩) (fun _ R s => s.heap.get? l = some { cls := .type "tuple", dict := dd, data := .seq items n, slots := sl } ∧ R (.ok (.ret (.ref l))) s) :=
  .of_wp fun prog w A R s h => by
    obtain ⟨hp, g, d, tk, os⟩ := s
    obtain ⟨hl, h⟩ := h
    have f1 := AutoSeq1.idx_int
    wp_walk using wpAny_loadPart' hl
    exact ⟨_, rfl, h⟩
def rRep1 (K : Fg) : R2 := fun x y H Q => ∃ l xs, x = .ref l ∧ y = .int 1 ∧ SqT K H l xs ∧ Q (.ref l) H
theorem op_rep1 : OpR X (binaryOp .Mult) (rRep1 X.K) := by
  intro pins s σ H x y v u Q I rx ry h
  obtain ⟨l, xs, rfl, rfl, hT, q⟩ := h
  cases rx
  obtain ⟨t, rfl⟩ := ry
  obtain ⟨its, r, ⟨⟨cls, dd, data, sl⟩, ho, hc, n, hd⟩, hs⟩ := I.tuple hT
  simp only at hc hd
  subst hc hd
  refine wpAny_binaryOp_repeat_ref (T := "tuple") (U := "int") (by decide) ⟨_, ho, rfl⟩ (fun s' => typeIs_int s' 1 t) noFill_tuple_mul F.fills_int_mul F.slot_int_rmul repeat_tuple F.slot_int_index.lookup
    (call_meets F.slot_int_rmul (typeIs_int s 1 t) F.entry_int_rmul (F.args_int_rmul_2 _ _) (int_rmul_tuple 1 t l its.toArray n dd sl)
      ⟨ho, rfl, ⟨_, ho, rfl⟩, call_meets F.slot_tuple_mul ⟨_, ho, rfl⟩ F.entry_tuple_mul (F.args_tuple_mul_2 _ _) (tuple_mul1 l its.toArray n dd sl t) ⟨ho, ?_⟩⟩)
  exact ⟨.ref l, H, I, rfl, q⟩
def dRepP (a b : D) : Option D := match b with
  | .int k => if k = 1 then (match a with
    | .tuple l => if plainL l = true then some (.tuple l) else none
    | _ => none) else dRep a b
  | _ => none
theorem i_repP (ha : IE X cl W ms a f ka) (hb : IE X cl W ms b g kb) : IE X cl W ms (.BinOp a .Mult b pos) (bi dRepP f g) .fr :=
  pe_imp (pe_op (op_rep1.or op_repT) ha hb) fun s H Q ⟨r, O, Og, e, w⟩ => by
    show tOp _ _ _ s H Q
    refine two_ e w fun d1 d2 v1 v2 G J F1 F2 o0 a1 a2 r1 r2 g1 g2 k1 k2 => ?_
    obtain ⟨d, hh, o⟩ := ER.ok_of o0
    unfold dRepP at hh
    split at hh
    · rename_i k
      split at hh
      · rename_i hk
        subst hk
        split at hh
        · rename_i l
          split at hh
          · rename_i hp
            cases hh
            obtain ⟨c, vs, rfl, q1, q2⟩ := (r1.same a2).tupE
            cases r2
            have hF := RepL.plain _ _ _ q2 hp
            subst hF
            exact .inl ⟨c, vs, rfl, rfl, q1, o _ J [] (a1.trans a2) (.tup q1 q2) (fun _ z => (nomatch z)) (KOk.nil (by decide))⟩
          · cases hh
        · cases hh
      · right
        unfold dRep at hh
        split at hh
        · rename_i l k' hk'
          cases hk'
          split at hh
          · rename_i hcc
            cases hh
            obtain ⟨h1, h2, h3, h4, h5⟩ := hcc
            obtain ⟨c, vs, rfl, q1, q2⟩ := (r1.same a2).tupE
            cases r2
            have hF := RepL.plain _ _ _ q2 h5
            subst hF
            refine ⟨c, k, vs, rfl, rfl, q1, fun z => h1 ?_, h2, h3, by rw [q2.len]; exact h4, fun p hp => ?_⟩
            · subst z
              have := q2.len
              exact List.length_eq_zero_iff.mp this.symm
            · exact o _ _ [] ((a1.trans a2).trans (Same.new hp)) (.tup sqT_new ((rep_flat q2 k.toNat).same (Same.new hp))) (fun _ z => nomatch z) (KOk.nil (by decide))
          · cases hh
        · cases hh
    · cases hh
end
end Mi

/-! Mini, part 42: pairs taken apart: by =, by for, by a comprehension -/
namespace Mi
open PySem L2
def pr2 : D → Option (D × D)
  | .tuple [a, b] => some (a, b)
  | _ => none
theorem pr2_of {d a b : D} (h : pr2 d = some (a, b)) : d = .tuple [a, b] := by
  unfold pr2 at h
  split at h
  · cases h; rfl
  · cases h
def lcGo2 (x y : Nat) (t e : En → ER D) (r : En) : List D → ER (List D)
  | [] => .val []
  | d :: ds => match pr2 d with
    | some (d1, d2) => (match t ((r.set x (some d1)).set y (some d2)) with
      | .val (.bool true) => (match e ((r.set x (some d1)).set y (some d2)) with
        | .val z => (lcGo2 x y t e r ds).bind fun zs => .val (z :: zs)
        | _ => .stuck)
      | .val (.bool false) => lcGo2 x y t e r ds
      | _ => .stuck)
    | none => .stuck
def lc2 (x y : Nat) (f : En → ER (List D)) (t e : En → ER D) : En → ER D := fun r => (f r).bind fun ds => (lcGo2 x y t e r ds).bind fun ys => .of (if ds.length ≤ LIM then some (.list ys) else none)
def g2 (K : Fg) (x y : Nat) : TG := gTup K 2 (gCons (gName x) (gCons (gName y) gNil))
theorem repL2 {K : Fg} {H : Hp} {vs : List V} {d1 d2 : D} {F : List Addr} (h : RepL K H vs [d1, d2] F) : ∃ v1 v2 F1 F2, vs = [v1, v2] ∧ F = F1 ++ F2 ∧ Rep K H v1 d1 F1 ∧ Rep K H v2 d2 F2 := by
  cases h with
  | cons h1 h2 =>
    cases h2 with
    | cons h3 h4 =>
      cases h4
      exact ⟨_, _, _, _, rfl, by rw [List.append_nil], h1, h3⟩
section
variable {K : Fg} {cl : Nat → Addr} {W : WX} {ms : List Md} {x y : Nat} {f : En → ER (List D)} {t e : En → ER D} {k ke : Kd}
theorem lc_red2 (hk : k ≠ .bo) (hm : ms[x]? = some .sh) (hm' : ms[y]? = some .sh) (hxy : x ≠ y) {s : L2.St} {H : Hp} {Q : VK} (w : canE K cl W ms (lc2 x y f t e) ke.top s H Q) : tLc (canI K cl W ms f k) (g2 K x y) (canT K cl W0 ms t) (canE K cl W0 ms e ke) [x, y] s H Q := by
  obtain ⟨r, O, Og, en, w⟩ := w
  refine ⟨r, O, Og, en, ER.ok_mono (ER.ok_bind w) (fun ds _ q J vs fp S F G p wk hS rv og nb L hL => ?_) fun _ n => n⟩
  have q := ER.ok_bind q
  cases hgo : lcGo2 x y t e r ds with
  | stuck => rw [hgo] at q; exact q.elim
  | exn c =>
    exfalso
    have : ∀ ds : List D, lcGo2 x y t e r ds ≠ .exn c := fun ds => by
      induction ds with
      | nil => intro h; cases h
      | cons d ds ih =>
        intro h
        unfold lcGo2 at h
        split at h
        · split at h
          · split at h
            · cases q : lcGo2 x y t e r ds with
              | val zs => rw [q] at h; cases h
              | stuck => rw [q] at h; cases h
              | exn c' => rw [q] at h; cases h; exact ih q
            · cases h
          · exact ih h
          · cases h
        · cases h
    exact this ds hgo
  | val ys =>
    rw [hgo] at q
    obtain ⟨z, hz, q⟩ := ER.ok_of q
    obtain ⟨hlen, rfl⟩ := ifL hz
    have hHL : H L = none := p.free hL
    have hsame0 : Same G (upd G L (.lst [])) := Same.new hL
    have lstep : ∀ {J1 : Hp} {us us' : List V}, J1 L = some (.lst us) → Stp [L] J1 (upd J1 L (.lst us')) ∧ AllL J1 [L] := fun {J1 us us'} h => ⟨fun b o hb nb => by
      rw [upd_ne (fun z => nb (by rw [z]; exact List.mem_singleton.mpr rfl))]
      exact hb, fun b hb => by rw [List.mem_singleton.mp hb]; exact ⟨⟨_, .l us⟩, h⟩⟩
    have fpL : ∀ b ∈ fp, b ∉ [L] := fun b hb z => by
      obtain ⟨xs, y⟩ := wk.node _ hS b hb
      rw [List.mem_singleton.mp z, hL] at y
      cases y
    have nFL : ∀ b ∈ F, b ∉ [L] := fun b hb z => by
      obtain ⟨xs, y⟩ := RepL.nodes _ _ _ rv b hb
      rw [List.mem_singleton.mp z, hL] at y
      cases y
    refine ⟨fun i m G1 => m = vs.length - i ∧ i ≤ vs.length ∧ ∃ done rest, lcGo2 x y t e r (ds.drop i) = .val rest ∧ ys = done ++ rest ∧ done.length ≤ i ∧ LcInv K H ms r s O Og ke L S F vs ds done G1,
      ⟨vs.length, by simp, Nat.zero_le _, [], ys, hgo, rfl, Nat.le_refl _, p.trans hsame0, wk.keep _ _ [] hS (same_stp hsame0) (fun _ z => (nomatch z)) (fun _ _ z => nomatch z), rv.same hsame0, [], [], upd_same, .nil, (fun _ z => (nomatch z)), ?_⟩, ?_⟩
    · cases ke with
      | fr => exact ⟨List.nodup_nil, fun _ z => (nomatch z)⟩
      | f1 => exact fun _ z => (nomatch z)
      | sh => exact fun _ z => (nomatch z)
      | bo => trivial
    · rintro i m G1 ⟨rfl, hi, done, rest, hrest, hys, hdl, inv⟩
      obtain ⟨us, E, hL1, rE, oE, kE⟩ := inv.made
      by_cases hlt : i < vs.length
      · refine .inr ⟨wk.go _ _ inv.st hlt, fun G2 => ∃ done rest, lcGo2 x y t e r (ds.drop (i + 1)) = .val rest ∧ ys = done ++ rest ∧ done.length ≤ i + 1 ∧ LcInv K H ms r s O Og ke L S F vs ds done G2,
          fun G2 h2 => ⟨vs.length - (i + 1), by omega, rfl, hlt, h2⟩, fun v G2 hy => ?_⟩
        obtain ⟨rfl, hv⟩ := wk.yld _ _ _ _ inv.st hlt hy
        have hd : i < ds.length := by rw [← rv.len]; exact hlt
        obtain ⟨v', Fi, e1, rvi, sbi⟩ := inv.src.get (i := i) (d := ds[i]) (List.getElem?_eq_getElem hd)
        rw [hv] at e1
        cases e1
        rw [List.drop_eq_getElem_cons hd] at hrest
        unfold lcGo2 at hrest
        cases hp2 : pr2 ds[i] with
        | none => simp only [hp2] at hrest; cases hrest
        | some p12 =>
        obtain ⟨d1, d2⟩ := p12
        simp only [hp2] at hrest
        have hp2 := pr2_of hp2
        rw [hp2] at rvi
        obtain ⟨a0, vs0, rfl, hsq, hrl⟩ := rvi.tupE
        obtain ⟨v1, v2, F1, F2, rfl, rfl, rv1, rv2⟩ := repL2 hrl
        refine ⟨a0, [v1, v2], rfl, hsq, rfl, v1, [v2], rfl, v2, [], rfl, rfl, ?_⟩
        have hset : ((wipe s [x, y]).set x (some v1)).set y (some v2) = (s.set x (some v1)).set y (some v2) := by
          show List.set (List.set (List.set (List.set s y none) x none) x (some v1)) y (some v2) = _
          rw [List.set_set, List.set_comm _ _ (Ne.symm hxy), List.set_set]
        rw [hset]
        refine ⟨by show List.set (List.set (List.set (List.set s x (some v1)) y (some v2)) y none) x none = List.set (List.set s y none) x none; rw [List.set_set, List.set_comm _ _ (Ne.symm hxy), List.set_set, List.set_comm _ _ hxy], ?_⟩
        have en2 : EnvR K G2 ms r s O (fun a => Og a ∧ a ≠ L) := en.less inv.same (fun a h1 ⟨o, h2⟩ => ⟨h1, fun z => by rw [z, hHL] at h2; cases h2⟩) fun a ha => ⟨en.fg a (inv.same.free ha), fun z => by rw [z, hL1] at ha; cases ha⟩
        have ogi : ∀ a ∈ F1 ++ F2, Og a ∧ a ≠ L := fun a ha => ⟨og a (List.mem_append_right _ (sbi.subset ha)), fun z => nFL a (sbi.subset ha) (by rw [z]; exact List.mem_singleton.mpr rfl)⟩
        have nbF : ∀ a ∈ F1 ++ F2, a ∉ O.flatten := fun a ha => nb hk a (List.mem_append_right _ (sbi.subset ha))
        have en3 : EnvR K G2 ms ((r.set x (some d1)).set y (some d2)) ((s.set x (some v1)).set y (some v2)) O (fun a => Og a ∧ a ≠ L) := (en2.put (.inr ⟨hm, fun a ha => nbF a (List.mem_append_left _ ha)⟩) (F := F1) rv1 fun a ha => ogi a (List.mem_append_left _ ha)).put (.inr ⟨hm', fun a ha => nbF a (List.mem_append_right _ ha)⟩) (F := F2) rv2 fun a ha => ogi a (List.mem_append_right _ ha)
        cases ht : t ((r.set x (some d1)).set y (some d2)) with
        | stuck => rw [ht] at hrest; cases hrest
        | exn c => rw [ht] at hrest; cases hrest
        | val b =>
          rw [ht] at hrest
          cases b with
          | bool b =>
            refine ⟨_, O, _, en3, ?_⟩
            rw [ht]
            refine ⟨b, rfl, fun G3 p3 => ?_⟩
            cases b with
            | false =>
              refine iteF ⟨done, rest, hrest, hys, by omega, inv.same.trans p3, wk.keep _ _ [] inv.st (same_stp p3) (fun _ z => (nomatch z)) (fun _ _ z => nomatch z), inv.src.same p3, us, E, p3 _ _ hL1, rE.same p3, oE, kE⟩
            | true =>
              refine iteT ⟨_, O, _, en3.same p3, ?_⟩
              cases he : e ((r.set x (some d1)).set y (some d2)) with
              | stuck => simp only [he] at hrest; cases hrest
              | exn c => simp only [he] at hrest; cases hrest
              | val yv =>
                simp only [he] at hrest
                cases hr2 : lcGo2 x y t e r (ds.drop (i + 1)) with
                | stuck => rw [hr2] at hrest; cases hrest
                | exn c => rw [hr2] at hrest; cases hrest
                | val rest2 =>
                  rw [hr2] at hrest
                  cases hrest
                  intro u G4 F4 p4 ru og4 k4
                  have hL4 := p4 _ _ (p3 _ _ hL1)
                  have hus : us.length ≤ LIM := by
                    rw [rE.len]
                    omega
                  refine ⟨us, hL4, Nat.lt_of_le_of_lt hus (by decide), done ++ [yv], rest2, rfl, by rw [hys, List.append_assoc]; rfl, by rw [List.length_append, List.length_singleton]; omega, ?_⟩
                  obtain ⟨st1, st2⟩ := lstep (us' := us ++ [u]) hL4
                  have p34 := p3.trans p4
                  have hu4 : ∀ a ∈ F4, a ∉ [L] := fun a ha z => (og4 a ha).2 (List.mem_singleton.mp z)
                  refine ⟨fun b o hb => ?_, wk.keep _ _ [L] (wk.keep _ _ [] inv.st (same_stp p34) (fun _ z => (nomatch z)) fun _ _ z => nomatch z) st1 st2 fpL, RepL.stp st1 st2 _ _ _ (inv.src.same p34) nFL, us ++ [u], E ++ F4, upd_same, ?_, ?_, ?_⟩
                  · rw [upd_ne (ne_of_none hb hHL)]
                    exact p34 _ _ (inv.same _ _ hb)
                  · refine RepL.stp st1 st2 _ _ _ ((rE.same p34).app (.one ru)) fun a ha => ?_
                    rcases List.mem_append.mp ha with ha | ha
                    · exact fun z => (oE a ha).2 (List.mem_singleton.mp z)
                    · exact hu4 a ha
                  · intro a ha
                    rcases List.mem_append.mp ha with ha | ha
                    · exact oE a ha
                    · exact og4 a ha
                  · have nE := RepL.nodes _ _ _ rE
                    have k4' : KOk ke H O.flatten u F4 := k4.back (inv.same.trans p3)
                    cases ke with
                    | fr =>
                      refine ⟨List.nodup_append.mpr ⟨kE.1, k4'.1, fun a ha b hb z => ?_⟩, fun a ha => ?_⟩
                      · obtain ⟨xs, y1⟩ := nE a ha
                        have := k4.2 b hb
                        rw [← z, p3 _ _ y1] at this
                        cases this
                      · rcases List.mem_append.mp ha with ha | ha
                        · exact kE.2 a ha
                        · exact k4'.2 a ha
                    | f1 =>
                      intro a ha
                      rcases List.mem_append.mp ha with ha | ha
                      · exact kE a ha
                      · exact KOk.shOf en k4' (by decide) a ha
                    | sh =>
                      intro a ha
                      rcases List.mem_append.mp ha with ha | ha
                      · exact kE a ha
                      · exact k4' a ha
                    | bo => trivial
          | _ => cases hrest
      · have e0 : i = vs.length := by omega
        subst e0
        refine .inl ⟨wk.stop _ _ inv.st (Nat.le_refl _), ?_⟩
        rw [rv.len, List.drop_length] at hrest
        cases hrest
        rw [List.append_nil] at hys
        subst hys
        refine q (.ref L) G1 (L :: E) inv.same (.lst hL1 rE) (og_cons en hHL fun a ha => (oE a ha).1) ?_
        have nE := RepL.nodes _ _ _ rE
        cases ke with
        | fr => exact ⟨List.nodup_cons.mpr ⟨fun hm => (oE L hm).2 rfl, kE.1⟩, fun b hb => by
            rcases List.mem_cons.mp hb with rfl | hb
            · exact hHL
            · exact kE.2 b hb⟩
        | f1 => exact ⟨L, E, rfl, rfl, hHL, fun b hb => ⟨(oE b hb).2, kE b hb⟩⟩
        | sh => exact ⟨L, E, rfl, rfl, hHL, fun b hb => ⟨(oE b hb).2, kE b hb⟩⟩
        | bo => trivial
end
section
variable {X : Cx} {cl : Nat → Addr} {W : WX} {ms : List Md} {x y i : Nat} {f : En → ER (List D)} {t e : En → ER D} {k ke : Kd} {elt iter tg : Expr} {ifs : List Expr} {scope : Scope} {n1 n2 z : Str} {py pz pos spos : Pos}
theorem i_lc2 (hk : k ≠ .bo) (hm : ms[x]? = some .sh) (hm' : ms[y]? = some .sh) (hxy : x ≠ y) (hi : II X cl W ms tg iter f k) (ok : BlkOk X.N X.env.scope scope [(n1, x), (n2, y)]) (hN : X.N.Nodup) (hc : X.calm = true)
    (hg : ∀ (s : Shared) (H : Hp) (C : Addr) (l : List (Str × Addr)) (fp : List Addr), PG (X.blk s H scope (compEnvC scope l C X.env) fp) tg (g2 X.K x y))
    (ht : ∀ (s : Shared) (H : Hp) (C : Addr) (l : List (Str × Addr)) (fp : List Addr), PTs (X.blk s H scope (compEnvC scope l C X.env) fp) ifs (canT X.K cl W0 ms t))
    (he : ∀ (s : Shared) (H : Hp) (C : Addr) (l : List (Str × Addr)) (fp : List Addr), IE (X.blk s H scope (compEnvC scope l C X.env) fp) cl W0 ms elt e ke) (hs : ∀ x, foldedSetIterable iter X.env x = pure x := by intro _; rfl) :
    IE X cl W ms (.ListComp elt [⟨tg, iter, ifs, 0⟩] scope pos) (lc2 x y f t e) ke.top :=
  pe_imp (pe_lc (te := canE X.K cl W0 ms e ke) hc hN hi ok hg ht he hs) fun s H Q w => lc_red2 hk hm hm' hxy w
theorem set_lc2 (hk : k ≠ .bo) (hm : ms[x]? = some .sh) (hm' : ms[y]? = some .sh) (hxy : x ≠ y) (hi : II X cl W ms tg iter f k) (ok : BlkOk X.N X.env.scope scope [(n1, x), (n2, y)]) (hN : X.N.Nodup) (hc : X.calm = true)
    (hg : ∀ (s : Shared) (H : Hp) (C : Addr) (l : List (Str × Addr)) (fp : List Addr), PG (X.blk s H scope (compEnvC scope l C X.env) fp) tg (g2 X.K x y))
    (ht : ∀ (s : Shared) (H : Hp) (C : Addr) (l : List (Str × Addr)) (fp : List Addr), PTs (X.blk s H scope (compEnvC scope l C X.env) fp) ifs (canT X.K cl W0 ms t))
    (he : ∀ (s : Shared) (H : Hp) (C : Addr) (l : List (Str × Addr)) (fp : List Addr), IE (X.blk s H scope (compEnvC scope l C X.env) fp) cl W0 ms elt e ke)
    (hz : X.N[i]? = some z) (hzl : X.env.scope.names.lookup z = some .local) (hsw : swapsWith (.ListComp elt [⟨tg, iter, ifs, 0⟩] scope pos) (some (.Name z pz)) spos.line X.env = pure true) (hs : ∀ x, foldedSetIterable iter X.env x = pure x := by intro _; rfl) :
    PS X (.Assign [.Name z pz] (.ListComp elt [⟨tg, iter, ifs, 0⟩] scope pos) spos) (tAsg (canE X.K cl W ms (lc2 x y f t e) ke.top) (gName i)) := by
  have h := ps_setLc (te := canE X.K cl W0 ms e ke) hc hN hz hzl hsw hi ok hg ht he hs
  exact ⟨fun pins s z H D I q => h.run pins s z H D I (lc_red2 hk hm hm' hxy q)⟩
/-! ### for a, b in .. -/
def forL2 (x y : Nat) (b : En → SR) : List D → En → SR
  | [], r => .nx r
  | d :: ds, r => match pr2 d with
    | some (d1, d2) => (match b ((r.set x (some d1)).set y (some d2)) with
      | .nx r' => forL2 x y b ds r'
      | a => a)
    | none => .stuck
def forS2 (x y : Nat) (f : En → ER (List D)) (b : En → SR) : En → SR := fun r => match f r with
  | .stuck => .stuck
  | .exn c => .exn c r
  | .val ds => forL2 x y b ds r
end
section
variable {X : Cx} {cl : Nat → Addr} {W : WX} {ms : List Md} {rk : Bool} {tg iter c : Expr} {body : List Stmt} {f : En → ER (List D)} {t : En → ER D} {b : En → SR} {k : Kd} {x y : Nat} {pos : Pos}
theorem s_for2 (hp : PassesOwn (model X.prog X.w) X.A X.env X.xe) (hc : X.calm = true) (hi : II X cl W ms tg iter f k) (hk : k ≠ .bo) (hm : ms[x]? = some .sh) (hm' : ms[y]? = some .sh) (hxy : x ≠ y) (hg : PG X tg (g2 X.K x y)) (hb : ISs X cl W ms rk body b) (hs : ∀ x, foldedSetIterable iter X.env x = pure x := by intro _; rfl) : IS X cl W ms rk (.For tg iter body [] pos) (forS2 x y f b) :=
  ps_imp (ps_for hp hc hi hg hb hs) fun D s H ⟨r, O, Og, en, w⟩ => by
    refine ⟨r, O, Og, en.env, ?_⟩
    unfold forS2 at w
    cases hf : f r with
    | stuck => rw [hf] at w; exact w
    | exn c => rw [hf] at w; exact fun G p => w s G O (en.same p) (Trn.same p)
    | val ds =>
      rw [hf] at w
      intro J vs fp S F G p wk hS rv og nb
      have nb := nb hk
      have w1 : (forL2 x y b ds r).ok (Nxt X.K ms Og s G O.flatten D.nx) (Rtt X.K ms rk Og s G O.flatten D.rt) (Exx X.K cl W ms Og s G O.flatten) := sr_move (Trn.same p) w
      have en1 := en.same p
      have tracked : ∀ a ∈ fp ++ F, ∃ m : {o : HO // MO o}, G a = some m.1 := fun a ha => (List.mem_append.mp ha).elim (fun h => wk.node _ hS a h) fun h => RepL.nodes _ _ _ rv a h
      refine ⟨fun i m s' G1 => m = vs.length - i ∧ i ≤ vs.length ∧ ∃ r' P, EnvS X.K G1 ms r' s' P Og ∧ Trn ms s s' G G1 O.flatten P.flatten ∧ S G1 ∧ RepL X.K G1 vs ds F ∧
          (forL2 x y b (ds.drop i) r').ok (Nxt X.K ms Og s G O.flatten D.nx) (Rtt X.K ms rk Og s G O.flatten D.rt) (Exx X.K cl W ms Og s G O.flatten),
        ⟨vs.length, by simp, Nat.zero_le _, r, O, en1, Trn.refl, hS, rv, w1⟩, ?_⟩
      rintro i m s' G1 ⟨rfl, hi', r', P, e1, t1, h1, h2, h3⟩
      have offP : ∀ a ∈ fp ++ F, a ∉ P.flatten := fun a ha hm => by
        rcases t1.new a hm with q | q
        · exact nb a ha q
        · obtain ⟨xs, z⟩ := tracked a ha
          rw [q] at z
          cases z
      by_cases hlt : i < vs.length
      · refine .inr ⟨wk.go _ _ h1 hlt, fun s2 G2 => ∃ r' P, EnvS X.K G2 ms r' s2 P Og ∧ Trn ms s s2 G G2 O.flatten P.flatten ∧ S G2 ∧ RepL X.K G2 vs ds F ∧
          (forL2 x y b (ds.drop (i + 1)) r').ok (Nxt X.K ms Og s G O.flatten D.nx) (Rtt X.K ms rk Og s G O.flatten D.rt) (Exx X.K cl W ms Og s G O.flatten), fun s2 G2 h => ⟨vs.length - (i + 1), by omega, rfl, hlt, h⟩, fun v G2 hy => ?_⟩
        obtain ⟨rfl, hv⟩ := wk.yld _ _ _ _ h1 hlt hy
        have hd : i < ds.length := by rw [← rv.len]; exact hlt
        obtain ⟨v', Fi, q1, q2, q3⟩ := h2.get (i := i) (d := ds[i]) (List.getElem?_eq_getElem hd)
        rw [hv] at q1
        cases q1
        have inF : ∀ a ∈ Fi, a ∈ fp ++ F := fun a ha => List.mem_append_right _ (q3.subset ha)
        rw [List.drop_eq_getElem_cons hd] at h3
        unfold forL2 at h3
        cases hp2 : pr2 ds[i] with
        | none => simp only [hp2] at h3; exact h3.elim
        | some p12 =>
        obtain ⟨d1, d2⟩ := p12
        simp only [hp2] at h3
        have hp2 := pr2_of hp2
        rw [hp2] at q2
        obtain ⟨a0, vs0, rfl, hsq, hrl⟩ := q2.tupE
        obtain ⟨v1, v2, F1, F2, rfl, rfl, rv1, rv2⟩ := repL2 hrl
        refine ⟨a0, [v1, v2], rfl, hsq, rfl, v1, [v2], rfl, v2, [], rfl, rfl, ?_⟩
        show canS X.K cl W ms rk b _ ((s'.set x (some v1)).set y (some v2)) G2
        have in1 : ∀ a ∈ F1, a ∈ fp ++ F := fun a ha => inF a (List.mem_append_left _ ha)
        have in2 : ∀ a ∈ F2, a ∈ fp ++ F := fun a ha => inF a (List.mem_append_right _ ha)
        have og1 : ∀ a ∈ F1, Og a := fun a ha => og a (inF a (List.mem_append_left _ ha))
        have og2 : ∀ a ∈ F2, Og a := fun a ha => og a (inF a (List.mem_append_right _ ha))
        have e2 : EnvS X.K G2 ms ((r'.set x (some d1)).set y (some d2)) ((s'.set x (some v1)).set y (some v2)) P Og := ⟨(e1.env.put (.inr ⟨hm, fun a ha => offP a (in1 a ha)⟩) rv1 og1).put (.inr ⟨hm', fun a ha => offP a (in2 a ha)⟩) rv2 og2, (e1.nb.set (by rw [hm]; decide)).set (by rw [hm']; decide)⟩
        have t2 : Trn ms s ((s'.set x (some v1)).set y (some v2)) G G2 O.flatten P.flatten := (t1.trans (Trn.put (Same.refl _) (by rw [hm]; decide))).trans (Trn.put (Same.refl _) (by rw [hm']; decide))
        refine ⟨(r'.set x (some d1)).set y (some d2), P, Og, e2, ?_⟩
        cases hbr : b ((r'.set x (some d1)).set y (some d2)) with
        | stuck => rw [hbr] at h3; exact h3
        | ret d r2 => rw [hbr] at h3; exact sr_move (a := .ret d r2) t2 h3
        | exn c r2 => rw [hbr] at h3; exact sr_move (a := .exn c r2) t2 h3
        | nx r2 =>
          rw [hbr] at h3
          intro s3 G3 P3 e3 t3
          have al := e2.env.own
          exact ⟨r2, P3, e3, t2.trans t3, wk.keep _ _ P.flatten h1 t3.fr al fun a ha => offP a (List.mem_append_left _ ha), RepL.stp t3.fr al _ _ _ h2 fun a ha => offP a (List.mem_append_right _ ha), h3⟩
      · have e0 : i = vs.length := by omega
        subst e0
        rw [rv.len, List.drop_length] at h3
        exact .inl ⟨wk.stop _ _ h1 (Nat.le_refl _), h3 s' G1 P e1 t1⟩
/-! ### a, b, c = e -/
def g3 (K : Fg) (x y z : Nat) : TG := gTup K 3 (gCons (gName x) (gCons (gName y) (gCons (gName z) gNil)))
def pr3 : D → Option (D × D × D)
  | .tuple [a, b, c] => some (a, b, c)
  | _ => none
theorem pr3_of {d a b c : D} (h : pr3 d = some (a, b, c)) : d = .tuple [a, b, c] := by
  unfold pr3 at h
  split at h
  · cases h; rfl
  · cases h
def unp3 (x y z : Nat) (f : En → ER D) : En → SR := fun r => (f r).toS r fun d => match pr3 d with
  | some (a, b, c) => .nx (((r.set x (some a)).set y (some b)).set z (some c))
  | none => .stuck
theorem repL3 {K : Fg} {H : Hp} {vs : List V} {d1 d2 d3 : D} {F : List Addr} (h : RepL K H vs [d1, d2, d3] F) : ∃ v1 v2 v3 F1 F2 F3, vs = [v1, v2, v3] ∧ F = F1 ++ (F2 ++ F3) ∧ Rep K H v1 d1 F1 ∧ Rep K H v2 d2 F2 ∧ Rep K H v3 d3 F3 := by
  cases h with
  | cons h1 h2 =>
    obtain ⟨v2, v3, F2, F3, rfl, rfl, h3, h4⟩ := repL2 h2
    exact ⟨_, _, _, _, _, _, rfl, rfl, h1, h3, h4⟩
theorem s_unp3 {e : En → ER D} {st : Stmt} {z : Nat} (h : PS X st (tAsg (canE X.K cl W ms e k) (g3 X.K x y z))) (hx : ms[x]? = some .sh) (hy : ms[y]? = some .sh) (hz : ms[z]? = some .sh) (hk : k ≠ .bo) : IS X cl W ms rk st (unp3 x y z e) :=
  ps_imp h fun D s H ⟨r, O, Og, en, w⟩ => ⟨r, O, Og, en.env, ER.ok_mono (ER.ok_toS w) (fun d _ q v G F p rv og kv => by
    cases hp : pr3 d with
    | none => rw [hp] at q; exact q.elim
    | some p3 =>
      obtain ⟨a, b, c⟩ := p3
      rw [hp] at q
      have hp := pr3_of hp
      subst hp
      obtain ⟨a0, vs0, rfl, hsq, hrl⟩ := rv.tupE
      obtain ⟨v1, v2, v3, F1, F2, F3, rfl, rfl, r1, r2, r3⟩ := repL3 hrl
      have off := KOk.shOf en.env kv hk
      refine ⟨a0, [v1, v2, v3], rfl, hsq, rfl, v1, [v2, v3], rfl, v2, [v3], rfl, v3, [], rfl, rfl, ?_⟩
      have m1 : ∀ a ∈ F1, a ∈ F1 ++ (F2 ++ F3) := fun a ha => List.mem_append_left _ ha
      have m2 : ∀ a ∈ F2, a ∈ F1 ++ (F2 ++ F3) := fun a ha => List.mem_append_right _ (List.mem_append_left _ ha)
      have m3 : ∀ a ∈ F3, a ∈ F1 ++ (F2 ++ F3) := fun a ha => List.mem_append_right _ (List.mem_append_right _ ha)
      exact q _ G O ⟨(((en.env.same p).put (.inr ⟨hx, fun a ha => off a (m1 a ha)⟩) r1 fun a ha => og a (m1 a ha)).put (.inr ⟨hy, fun a ha => off a (m2 a ha)⟩) r2 fun a ha => og a (m2 a ha)).put (.inr ⟨hz, fun a ha => off a (m3 a ha)⟩) r3 fun a ha => og a (m3 a ha), ((en.nb.set (by rw [hx]; decide)).set (by rw [hy]; decide)).set (by rw [hz]; decide)⟩
        (((Trn.put p (by rw [hx]; decide)).trans (Trn.put (Same.refl _) (by rw [hy]; decide))).trans (Trn.put (Same.refl _) (by rw [hz]; decide)))) fun c q G p => q s G O (en.same p) (Trn.same p)⟩
end
end Mi

namespace Mi
open PySem L2 PySem.Spec PyProof.Rows

/-! ### an exception out of a comprehension's element -/
/-- the block of a comprehension whose element may raise -/
abbrev blkX (X : Cx) (s : Shared) (H : Hp) (scope : Scope) (cenv : Env) (fp : List Addr) (xe : Value → Shared → Prop) : Cx := (X.blk s H scope cenv fp).tr [] xe
theorem inv_tr {X : Cx} {pins : List (Addr × Obj)} {σ : L2.St} {H : Hp} {s : Shared} (I : Inv X pins σ H s) (xe : Value → Shared → Prop) : Inv (X.tr X.pn xe) pins σ H s :=
  ⟨I.ok.toTry _ _, I.os, I.bare, I.base, I.loc, I.cell, I.free, I.freeC, I.pin, I.hok, I.len⟩
theorem put_one {h : Heap} {C : Addr} {o o' : Obj} (e : h.get? C = some o') (hf : o.isFreed = false) : ∃ G : Heap, G.get? C = some o ∧ ∀ b, b ≠ C → G.get? b = h.get? b :=
  ⟨h.update C fun _ => o, Heap.get?_update_self (fun _ => o) e hf, fun b hb => Heap.get?_update_other _ _ (Ne.symm hb)⟩

theorem blk_raise {X : Cx} {W : WX} {pins pb : List (Addr × Obj)} {σ σb : L2.St} {H0 H : Hp} {s3 s s' : Shared} {scope : Scope} {ce : Env} {fp : List Addr} {xe : Value → Shared → Prop} {u : Value} {E : XK}
    (hs : X.stack = X.env :: X.outer) (hf : X.env.frame = some X.env.locals) (tk : Takes X W) (I3 : Inv X pins σ H0 s3) (hce : ce.frame = X.env.frame) (hcl : ce.locals = s3.heap.objs.size)
    (f3 : ∀ b ∈ fp, FpOk X pins H0 b ∧ b < s3.heap.objs.size) (I : Inv (blkX X s3 H0 scope ce fp xe) pb σb H s) (hW : ∀ cls d H', E cls d H' → W cls d σ H') (c : L2.CX X.prog X.w X.stack H s E u s') :
    notedBy (model X.prog X.w) X.A ce (CompFails (model X.prog X.w) X.A X.xe ce) u s' := by
  obtain ⟨a, B, H', cls, d, rfl, fl, hok, ub, na, os, ag, hE⟩ := c
  obtain ⟨G, g1, g2⟩ := restrict s'.heap fun b => (B.get? b).isSome || decide (b ∈ frs X.stack)
  have st : B.StaysIn s'.heap := fl.1
  have gB : ∀ b o, B.get? b = some o → G.get? b = some o := fun b o e => by
    rw [g1 b (by simp [e])]
    exact st b o e
  have gF : ∀ b, b ∈ frs X.stack → G.get? b = s'.heap.get? b := fun b hb => g1 b (by simp [hb])
  have og : ∀ b o, G.get? b = some o → s'.heap.get? b = some o ∧ ((B.get? b).isSome = true ∨ b ∈ frs X.stack) := fun b o e => by
    cases q : ((B.get? b).isSome || decide (b ∈ frs X.stack)) with
    | false => rw [g2 b q] at e; cases e
    | true =>
      rw [g1 b q] at e
      exact ⟨e, by simpa [Bool.or_eq_true] using q⟩
  have nb : ∀ b o, G.get? b = some o → b ∉ frs X.stack → B.get? b = some o := fun b o e hb => by
    obtain ⟨e', h⟩ := og b o e
    rcases h with h | h
    · obtain ⟨o', q⟩ := Option.isSome_iff_exists.mp h
      have z := st b o' q
      rw [e'] at z; cases z
      exact q
    · exact absurd h hb
  -- the block's state without the exception
  have Ib : Inv (blkX X s3 H0 scope ce fp xe) pb σb H' { s with heap := G, gens := s'.gens, drawn := s'.drawn, toks := s'.toks } := by
    refine I.call (ch := []) ⟨fun b o e n hb _ => gB b o (ub.keep b o e n hb), fun b o e n hb _ => ?_, fun b o e n _ => ub.free b o e n, fun b o e _ => ?_, ub.tups, ub.frzs, ub.tbls⟩ (hok.kept gB) ag (fun _ z => nomatch z)
    · obtain ⟨sl, q⟩ := ub.slot b o e hb
      exact ⟨sl, by rw [gF b hb]; exact q⟩
    · by_cases hb : b ∈ frs X.stack
      · obtain ⟨sl, q⟩ := ub.slot b o e hb
        exact ⟨_, by rw [gF b hb]; exact q⟩
      · obtain ⟨o', q⟩ := ub.there b o e hb
        exact ⟨o', gB b o' q⟩
  have up0 : G.UpToSlots s'.heap := Heap.UpToSlots.of_keeps fun b o e => (og b o e).1
  -- the def's state without the exception
  have Id : Inv X pins σ H' { s with heap := G, gens := s'.gens, drawn := s'.drawn, toks := s'.toks } :=
    I3.call' (ch := fp) Ib.os Ib.base Ib.hok Ib.bare fun b hb => ⟨(f3 b hb).1.2.2.2.1, (f3 b hb).1.2.1, (f3 b hb).1.2.2.2.2.1, (f3 b hb).1.2.2.2.2.2⟩
  have hfr : X.A.frames = some (X.env :: X.outer) := by rw [I3.ok.frames, hs]
  have nC : H' ce.locals = none := Ib.free
  have fC : FpOk X pins H' ce.locals := I3.fpOk (Nat.le_of_eq hcl.symm) nC
  obtain ⟨f0, fL, fS, fE, fc, fp'⟩ := fC
  have nS : ce.locals ∉ frs X.stack := fun hm => by
    rw [hs] at hm
    unfold frs at hm
    rw [List.filterMap_cons, hf] at hm
    rcases List.mem_cons.mp hm with z | z
    · exact fL z
    · exact fS z
  show wpAny _ _ (noteFrame (.ref a) ce) _ _ _
  rw [noteFrame_env _ hce]
  have fl' : HandSPX.FlyingZ B (X.env :: X.outer) a (Zc cls d) s'.heap := by rw [← hs]; exact fl
  refine HandSPX.looks_onZ Zc.steady hfr hf fl' fun h1 hh1 up1 => ?_
  have I1 : Inv (blkX X s3 H0 scope ce fp xe) pb σb H' { s' with heap := h1 } := Ib.landed nb hh1.1 (up0.trans up1) os ag
  obtain ⟨m, hn, _⟩ := I1.loc
  refine ⟨m, hn, fun h2 m2 hn2 sb2 => ?_⟩
  obtain ⟨oC, es, ep, hoC, hdC, _⟩ := id hn2
  have frC : oC.isFreed = false := (Heap.get?_some_iff.mp hoC).2
  have nfC : ∀ vs, oC.data ≠ .fields vs := fun vs z => by rw [hdC] at z; cases z
  obtain ⟨mG, ⟨oG, _, _, hoG, _⟩, _⟩ := id Ib.loc
  have hoG : G.get? ce.locals = some oG := hoG
  have hoB : B.get? ce.locals = some oG := nb _ _ hoG nS
  obtain ⟨B2, b1, b2⟩ := put_one hoB frC
  obtain ⟨G2, q1, q2⟩ := put_one hoG frC
  have Id2 : Inv X pins σ H' { s with heap := G2, gens := s'.gens, drawn := s'.drawn, toks := s'.toks } := Id.turned (t' := s'.toks) (fun b o hb e => (q2 b hb).trans e) f0 fL fE fc fp'
  have hh2 : HandSPX.HeldZ B2 (X.env :: X.outer) a (Zc cls d) X.env.locals h2 := by
    obtain ⟨k1, k2, k3, oe, vs, T, oT, ts, he, hz, hd, h1', hnT, hTe, hT, hdT, h3'⟩ := hh1
    have neB : ∀ b, B.get? b = none → b ≠ ce.locals := fun b e z => by rw [z, hoB] at e; cases e
    refine ⟨fun b o e => ?_, by rw [b2 _ (neB _ k2)]; exact k2, funFrames_none (Heap.FunFrames.sameBut sb2 hn2 k3) fun b hb => ?_, oe, vs, T, oT, ts, (sb2.2 _ (neB _ k2)).trans he, hz, hd, h1', by rw [b2 _ (neB _ hnT)]; exact hnT, hTe, (sb2.2 _ (neB _ hnT)).trans hT, hdT, h3'⟩
    · by_cases hb : b = ce.locals
      · subst hb
        rw [b1] at e; cases e
        exact hoC
      · rw [b2 b hb] at e
        exact (sb2.2 b hb).trans (k1 b o e)
    · have hn := (k3.mem hb).1
      rw [b2 _ (neB _ hn)]
      exact hn
  obtain ⟨oe, vs, T, oT, ts, he, hz, hd, h1', _⟩ := id hh2.2.2.2
  unfold PySem.passOn
  refine wpAny_bind (wpAny_field he hd h1' ?_)
  rw [if_neg (show ¬ ((Value.ref T == Value.none) = true) from by simp)]
  rw [hce, hf]
  refine wpAny_bind (HandSPX.setFlight_onZ (s := { s' with heap := h2 }) hh2 fun h3 hh3 up3 => ?_)
  refine wpAny_throw ?_
  refine tk _ _ ⟨a, B2, { s with heap := G2, gens := s'.gens, drawn := s'.drawn, toks := s'.toks }, pins, σ, H', cls, d, rfl, Id2, fun b o e hb => ?_, fun b o e hnf => ?_, .inr (.inr (by rw [hs]; exact hh3)), na, os, ag, hW _ _ _ hE⟩
  · by_cases hb' : b = ce.locals
    · subst hb'
      have e : G2.get? ce.locals = some o := e
      rw [q1] at e; cases e
      exact b1
    · have e : G2.get? b = some o := e
      rw [q2 b hb'] at e
      rw [b2 b hb']
      exact nb b o e hb
  · have e : G2.get? b = some o := e
    by_cases hb' : b = ce.locals
    · subst hb'
      rw [q1] at e; cases e
      exact up3 _ _ hoC hnf
    · rw [q2 b hb'] at e
      obtain ⟨sl, e1⟩ := up1 b o (og b o e).1 hnf
      have e2 : h2.get? b = some { cls := o.cls, dict := o.dict, data := o.data, slots := sl } := (sb2.2 b hb').trans e1
      obtain ⟨sl3, e3⟩ := up3 b _ e2 hnf
      exact ⟨sl3, e3⟩

section
variable {X : Cx} {W : WX}
/-- [elt for target in iter if ..], the element's exceptions go on as the def's -/
def tLcX (W : WX) (wi : TI) (g : TG) (tt : TT) (te : WX → TE) (vs : List Nat) : TE := fun σ H Q => tLc wi g tt (te fun c d _ H' => W c d σ H') vs σ H Q
abbrev PAt (X : Cx) (W : WX) : Prop := ∀ σ, PassesAt (L2.CX X.prog X.w) X σ (WE W σ)
theorem pe_lcX {elt tg iter : Expr} {ifs : List Expr} {scope : Scope} {own : List (Str × Nat)} {pos : Pos} {wi : TI} {g : TG} {tt : TT} {te : WX → TE} (hs : X.stack = X.env :: X.outer) (hf : X.env.frame = some X.env.locals) (tk : Takes X W) (hc : X.calm = true) (hN : X.N.Nodup) (hi : PI X tg iter wi) (ok : BlkOk X.N X.env.scope scope own)
    (hg : ∀ (s : Shared) (H : Hp) (C : Addr) (cl : List (Str × Addr)) (fp : List Addr) (xe : Value → Shared → Prop), PG (blkX X s H scope (compEnvC scope cl C X.env) fp xe) tg g)
    (ht : ∀ (s : Shared) (H : Hp) (C : Addr) (cl : List (Str × Addr)) (fp : List Addr) (xe : Value → Shared → Prop), PTs (blkX X s H scope (compEnvC scope cl C X.env) fp xe) ifs tt)
    (he : ∀ (s : Shared) (H : Hp) (C : Addr) (cl : List (Str × Addr)) (fp : List Addr) (xe : Value → Shared → Prop) (W' : WX), PAt (blkX X s H scope (compEnvC scope cl C X.env) fp xe) W' → PE (blkX X s H scope (compEnvC scope cl C X.env) fp xe) elt (te W'))
    (hfs : ∀ x, foldedSetIterable iter X.env x = pure x := by intro _; rfl) :
    PE X (.ListComp elt [⟨tg, iter, ifs, 0⟩] scope pos) (tLcX W wi g tt te (own.map (·.2))) := by
  refine ⟨fun pins s σ H Q I h => ?_⟩
  rw [eval_ListComp]
  have hfree : ∀ y ∈ scope.names, y.2 = .free → ∃ c, X.env.cells.lookup y.1 = some c := fun y hy e => by
    rcases ok.free y hy e with k | k
    · exact I.ok.has _ (.inl k)
    · exact I.ok.has _ (.inr k)
  refine comprehension_at (use := none) rfl hfs (closure_ok hfree) ok.kind (fun y hy e => by rw [ok.uniq y hy, e])
    (thn (hi.run pins s σ H _ I h) fun xv s1 hx => thn hx fun itv s2 h2 => ?_)
  obtain ⟨it, fp, tn, J, H2, e, I2, T, st2, f2, q⟩ := h2
  subst e
  refine wpAny_newObj_type (newEnv_comp ?_) (by show 0 ≤ sizeLine; decide)
  generalize hD : s2.heap.objs.size = D
  have hDn : H2 D = none := I2.hok.fresh (Nat.le_of_eq hD)
  obtain ⟨WW, ⟨m0, w0⟩, turn⟩ := q D hDn
  generalize hs3 : ({ s2 with heap := s2.heap.push { cls := .type "list", data := .seq ([] : List Value).toArray } } : Shared) = s3
  have I3 : Inv X pins σ (upd H2 D (.lst [])) s3 := by
    rw [← hs3]
    refine I2.laid (t' := s2.toks) (fun b o e => Heap.get?_push_of_some _ e) (Nat.le_of_eq hD) ⟨Nat.zero_le _, [], 0, .nil, ?_⟩
    rw [← hD]
    exact Heap.get?_push_size _ rfl
  have h3 : s3.heap = s2.heap.push { cls := .type "list", data := .seq ([] : List Value).toArray } := by rw [← hs3]
  have sz : ∀ b ∈ fp, b < s2.heap.objs.size := fun b hb => by
    obtain ⟨o, e, _⟩ := T.obj _ _ st2 b hb
    exact Heap.lt_size e
  have f3 : ∀ b ∈ fp, FpOk X pins (upd H2 D (.lst [])) b ∧ b < s3.heap.objs.size := fun b hb => by
    have hlt := sz b hb
    refine ⟨⟨?_, (f2 b hb).2⟩, by rw [h3, Heap.size_push]; exact Nat.lt_succ_of_lt hlt⟩
    rw [upd_ne (by rw [← hD]; exact Nat.ne_of_lt hlt)]
    exact (f2 b hb).1
  have st3 : tn 0 s3.heap := T.keep _ _ _ st2 fun b _ o e => by rw [h3]; exact Heap.get?_push_of_some _ e
  have I4 := block_start I3 ok hN f3
  obtain ⟨xe, hxe⟩ : ∃ xe : Value → Shared → Prop, xe = notedBy (model X.prog X.w) X.A (compEnvC scope (cellsFrom (s3.heap.objs.size + 1) scope.names (cloFrom X.env.cells scope.names [])) s3.heap.objs.size X.env)
    (CompFails (model X.prog X.w) X.A X.xe (compEnvC scope (cellsFrom (s3.heap.objs.size + 1) scope.names (cloFrom X.env.cells scope.names [])) s3.heap.objs.size X.env)) := ⟨_, rfl⟩
  have I4 := inv_tr I4 xe
  have pg := hg s3 (upd H2 D (.lst [])) s3.heap.objs.size (cellsFrom (s3.heap.objs.size + 1) scope.names (cloFrom X.env.cells scope.names [])) fp xe
  have pt := ht s3 (upd H2 D (.lst [])) s3.heap.objs.size (cellsFrom (s3.heap.objs.size + 1) scope.names (cloFrom X.env.cells scope.names [])) fp xe
  have pe := he s3 (upd H2 D (.lst [])) s3.heap.objs.size (cellsFrom (s3.heap.objs.size + 1) scope.names (cloFrom X.env.cells scope.names [])) fp xe (fun c d _ H' => W c d σ H') (fun σ' pb Hb sb u s' Ib cc => by
    show xe u s'
    rw [hxe]
    exact blk_raise hs hf tk I3 rfl rfl f3 Ib (fun _ _ _ z => z) cc)
  show codeAny _ _ (.compStart (.ListComp elt [⟨tg, iter, ifs, 0⟩] scope pos) 0 (.ref it) (.ref D) (compEnvC scope (cellsFrom (s3.heap.objs.size + 1) scope.names (cloFrom X.env.cells scope.names [])) s3.heap.objs.size X.env)) (compEnds (model X.prog X.w) X.A X.xe none (EP X pins σ Q) (.ref D) (compEnvC scope (cellsFrom (s3.heap.objs.size + 1) scope.names (cloFrom X.env.cells scope.names [])) s3.heap.objs.size X.env)) { s3 with heap := pushCells (s3.heap.push { cls := .type "dict", data := .dict #[] }) scope.names }
  have nfp : ∀ b ∈ fp, (upd H2 D (.lst [])) b = none := fun b hb => (f3 b hb).1.1
  generalize hce : compEnvC scope (cellsFrom (s3.heap.objs.size + 1) scope.names (cloFrom X.env.cells scope.names [])) s3.heap.objs.size X.env = ce at I4 pg pt pe hxe ⊢
  have cL : ce.locals = s3.heap.objs.size := by subst hce; rfl
  generalize hH3 : upd H2 D (.lst []) = H3 at I3 I4 pg pt pe w0 nfp f3
  generalize hs4 : ({ s3 with heap := pushCells (s3.heap.push { cls := .type "dict", data := .dict #[] }) scope.names } : Shared) = s4 at I4 ⊢
  have I4 : Inv (blkX X s3 H3 scope ce fp xe) [] (wipe σ (own.map (·.2))) H3 s4 := I4
  have st4 : tn 0 s4.heap := T.keep _ _ _ st3 fun b _ o e => by rw [← hs4]; exact pushCells_keeps _ _ _ _ (Heap.get?_push_of_some _ e)
  have stat : ∀ {σ' : L2.St} {H' : Hp} {s' : Shared}, Inv (blkX X s3 H3 scope ce fp xe) [] σ' H' s' → (∀ b ∈ fp, H' b = none) → ∀ b ∈ fp, FpOk (blkX X s3 H3 scope ce fp xe) [] H' b := fun {σ' H' s'} I' hn b hb =>
    ⟨hn b hb, (I'.ok.exf b hb).1, I'.ok.exfs b hb, .inl hb, fun x c e => (I'.ok.exf b hb).2 x c e, fun p hp => absurd (show p ∈ ([] : List (Addr × Obj)) ++ [] from hp) (by simp)⟩
  have loop : codeAny (model X.prog X.w) X.A (.compLoop (.ListComp elt [⟨tg, iter, ifs, 0⟩] scope pos) 0 (.ref it) (.ref D) ce) (compEnds (model X.prog X.w) X.A X.xe none (EP X pins σ Q) (.ref D) ce) s4 := by
    refine compLoop_any (fun n s' => ∃ i H', Inv (blkX X s3 H3 scope ce fp xe) [] (wipe σ (own.map (·.2))) H' s' ∧ tn i s'.heap ∧ (∀ b ∈ fp, H' b = none) ∧ WW i n H') ?_ m0 ⟨0, H3, I4, st4, nfp, w0⟩
    rintro n s5 ⟨i, H5, I5, st5, n5, w5⟩
    have hR : (notedBy (model X.prog X.w) X.A ce fun e s' => compEnds (model X.prog X.w) X.A X.xe none (EP X pins σ Q) (.ref D) ce (.error e) s') = xe := hxe.symm
    rw [hR]
    rcases turn i n H5 w5 with ⟨stop, qq⟩ | ⟨go, Nx, hNx, step⟩
    · have td := T.done (blkX X s3 H3 scope ce fp xe) rfl rfl rfl hc i [] s5 _ H5 (fun _ _ => False) I5 (stat I5 n5) st5 stop
      refine thnF td fun r s6 ⟨hr, I6⟩ => ?_
      subst hr
      have I7 : Inv X pins σ H5 s6 := I3.call' (ch := fp) I6.os I6.base I6.hok I6.bare fun b hb => ⟨(f3 b hb).1.2.2.2.1, (f3 b hb).1.2.1, (f3 b hb).1.2.2.2.2.1, (f3 b hb).1.2.2.2.2.2⟩
      have nC : H5 ce.locals = none := I6.free
      obtain ⟨m, hn, _⟩ := I6.loc
      have hn : s6.heap.Ns ce.locals m := hn
      refine ⟨m, hn, fun h'' sb => ?_⟩
      obtain ⟨f0, f1, f2, f3, f4, f5⟩ := I3.fpOk (H' := H5) (Nat.le_of_eq cL.symm) nC
      exact ⟨.ref D, H5, I7.turned (t' := s6.toks) (fun b o hb e => (sb.2 b hb).trans e) f0 f1 f3 f4 f5, rfl, qq⟩
    · have ti := T.item (blkX X s3 H3 scope ce fp xe) rfl rfl rfl hc i [] s5 _ H5 (fun _ _ => False) I5 (stat I5 n5) st5 go
      refine thnF ti fun r s6 ⟨u, hr, h6⟩ => ?_
      subst hr
      refine thnF h6 fun _ s7 ⟨x, H7, I7, r7, y7, st7, n7⟩ => ?_
      have I7' := I7.pinned (stat I7 n7) (T.obj _ _ st7)
      refine thn (pg.run _ s7 _ H7 x u _ I7' r7 (step x H7 y7)) fun _ s8 ⟨σ8, H8, I8, hw8, q8⟩ => ?_
      refine thn (pt.run _ s8 σ8 H8 _ I8 q8) fun b s9 ⟨H9, I9, q9⟩ => ?_
      have fin : ∀ {s' : Shared} {H' : Hp}, Inv (blkX X s3 H3 scope ce fp xe) ([] ++ pinsAt fp s7.heap) σ8 H' s' → Nx H' → ∃ m, m < n ∧ ∃ i H', Inv (blkX X s3 H3 scope ce fp xe) [] (wipe σ (own.map (·.2))) H' s' ∧ tn i s'.heap ∧ (∀ b ∈ fp, H' b = none) ∧ WW i m H' := fun {s' H'} I' nx => by
        obtain ⟨m', hm, w'⟩ := hNx H' nx
        have pin' : ∀ b ∈ fp, ∀ o, s7.heap.get? b = some o → s'.heap.get? b = some o ∧ H' b = none := fun b hb o e =>
          let z := I'.pin (b, o) (List.mem_append_right _ (List.mem_append_right _ (mem_pinsAt hb e)))
          ⟨z.1, z.2.1⟩
        have hl : (wipe σ (own.map (·.2))).length = σ8.length := by rw [← hw8, wipe_length]
        refine ⟨m', hm, i + 1, H', (I'.unpinned (pins := [])).weak hl (fun j v e => ?_), T.keep _ _ _ st7 fun b hb o e => (pin' b hb o e).1, fun b hb => ?_, w'⟩
        · rw [← hw8] at e
          exact (wipe_some e).1
        · obtain ⟨o, e, _⟩ := T.obj _ _ st7 b hb
          exact (pin' b hb o e).2
      cases b with
      | false =>
        simp only [Bool.false_eq_true, if_false] at q9 ⊢
        exact fin I9 q9
      | true =>
        simp only [if_true] at q9 ⊢
        refine thn (pe.run _ s9 σ8 H9 _ I9 q9) fun z s10 ⟨yv, H10, I10, r10, acc, hD10, hz10, nx⟩ => ?_
        exact app_ok (X := blkX X s3 H3 scope ce fp xe) I10 hD10 hz10 r10 fun s11 I11 => fin I11 nx
  exact codeAny_compStart_list loop (T.self X.A 0 _ _ _ st4 loop)
end
end Mi

namespace Mi
open PySem L2

/-! ### comprehensions whose element may raise -/
def lcGoX (x : Nat) (t e : En → ER D) (r : En) : List D → ER (List D)
  | [] => .val []
  | d :: ds => match t (r.set x (some d)) with
    | .val (.bool true) => (match e (r.set x (some d)) with
      | .val y => (lcGoX x t e r ds).bind fun ys => .val (y :: ys)
      | .exn c => .exn c
      | .stuck => .stuck)
    | .val (.bool false) => lcGoX x t e r ds
    | _ => .stuck
def lcX (x : Nat) (f : En → ER (List D)) (t e : En → ER D) : En → ER D := fun r => (f r).bind fun ds => if ds.length ≤ LIM then (lcGoX x t e r ds).bind fun ys => .val (.list ys) else .stuck
def joinR (done : List D) : ER (List D) → ER (List D)
  | .val ys => .val (done ++ ys)
  | .exn c => .exn c
  | .stuck => .stuck
theorem joinR_nil (R : ER (List D)) : joinR [] R = R := by cases R <;> rfl
theorem joinR_bind (done : List D) (y : D) (R : ER (List D)) : joinR done (R.bind fun ys => .val (y :: ys)) = joinR (done ++ [y]) R := by
  cases R with
  | val ys => show ER.val (done ++ y :: ys) = .val ((done ++ [y]) ++ ys); rw [List.append_assoc]; rfl
  | exn c => rfl
  | stuck => rfl
section
variable {K : Fg} {cl : Nat → Addr} {W : WX} {ms : List Md} {x : Nat} {f : En → ER (List D)} {t e : En → ER D} {k ke : Kd}
theorem lc_redX (hm : LcM ms x k) {s : L2.St} {H : Hp} {Q : VK} (w : canE K cl W ms (lcX x f t e) ke.top s H Q) : tLcX W (canI K cl W ms f k) (gName x) (canT K cl W0 ms t) (fun W' => canE K cl W' ms e ke) [x] s H Q := by
  obtain ⟨r, O, Og, en, w⟩ := w
  refine ⟨r, O, Og, en, ER.ok_mono (ER.ok_bind w) (fun ds _ q J vs fp S F G p wk hS rv og nb L hL => ?_) fun _ n => n⟩
  have hlen : ds.length ≤ LIM := by
    by_cases z : ds.length ≤ LIM
    · exact z
    · rw [if_neg z] at q; exact q.elim
  rw [if_pos hlen] at q
  have q := ER.ok_bind q
  obtain ⟨R, hR⟩ : ∃ R, R = lcGoX x t e r ds := ⟨_, rfl⟩
  rw [← hR] at q
  have hns : R ≠ .stuck := fun z => by rw [z] at q; exact q.elim
  have hHL : H L = none := p.free hL
  have hsame0 : Same G (upd G L (.lst [])) := Same.new hL
  have lstep : ∀ {J1 : Hp} {us us' : List V}, J1 L = some (.lst us) → Stp [L] J1 (upd J1 L (.lst us')) ∧ AllL J1 [L] := fun {J1 us us'} h => ⟨fun b o hb nb => by
    rw [upd_ne (fun z => nb (by rw [z]; exact List.mem_singleton.mpr rfl))]
    exact hb, fun b hb => by rw [List.mem_singleton.mp hb]; exact ⟨⟨_, .l us⟩, h⟩⟩
  have fpL : ∀ b ∈ fp, b ∉ [L] := fun b hb z => by
    obtain ⟨xs, y⟩ := wk.node _ hS b hb
    rw [List.mem_singleton.mp z, hL] at y
    cases y
  have nFL : ∀ b ∈ F, b ∉ [L] := fun b hb z => by
    obtain ⟨xs, y⟩ := RepL.nodes _ _ _ rv b hb
    rw [List.mem_singleton.mp z, hL] at y
    cases y
  refine ⟨fun i m G1 => m = vs.length - i ∧ i ≤ vs.length ∧ ∃ done, joinR done (lcGoX x t e r (ds.drop i)) = R ∧ done.length ≤ i ∧ LcInv K H ms r s O Og ke L S F vs ds done G1,
    ⟨vs.length, by simp, Nat.zero_le _, [], by rw [List.drop_zero, hR]; exact joinR_nil _, Nat.le_refl _, p.trans hsame0, wk.keep _ _ [] hS (same_stp hsame0) (fun _ z => (nomatch z)) (fun _ _ z => nomatch z), rv.same hsame0, [], [], upd_same, .nil, (fun _ z => (nomatch z)), ?_⟩, ?_⟩
  · cases ke with
    | fr => exact ⟨List.nodup_nil, fun _ z => (nomatch z)⟩
    | f1 => exact fun _ z => (nomatch z)
    | sh => exact fun _ z => (nomatch z)
    | bo => trivial
  · rintro i m G1 ⟨rfl, hi, done, hrest, hdl, inv⟩
    obtain ⟨us, E, hL1, rE, oE, kE⟩ := inv.made
    by_cases hlt : i < vs.length
    · refine .inr ⟨wk.go _ _ inv.st hlt, fun G2 => ∃ done, joinR done (lcGoX x t e r (ds.drop (i + 1))) = R ∧ done.length ≤ i + 1 ∧ LcInv K H ms r s O Og ke L S F vs ds done G2,
        fun G2 h2 => ⟨vs.length - (i + 1), by omega, rfl, hlt, h2⟩, fun v G2 hy => ?_⟩
      obtain ⟨rfl, hv⟩ := wk.yld _ _ _ _ inv.st hlt hy
      have hd : i < ds.length := by rw [← rv.len]; exact hlt
      obtain ⟨v', Fi, e1, rvi, sbi⟩ := inv.src.get (i := i) (d := ds[i]) (List.getElem?_eq_getElem hd)
      rw [hv] at e1
      cases e1
      show wipe ((wipe s [x]).set x (some v)) [x] = wipe s [x] ∧ _
      refine ⟨by show (List.set (List.set (List.set s x none) x (some v)) x none) = List.set s x none; rw [List.set_set, List.set_set], ?_⟩
      have hset : (wipe s [x]).set x (some v) = s.set x (some v) := by show (List.set (List.set s x none) x (some v)) = _; rw [List.set_set]
      rw [hset]
      have en2 : EnvR K G2 ms r s O (fun a => Og a ∧ a ≠ L) := en.less inv.same (fun a h1 ⟨o, h2⟩ => ⟨h1, fun z => by rw [z, hHL] at h2; cases h2⟩) fun a ha => ⟨en.fg a (inv.same.free ha), fun z => by rw [z, hL1] at ha; cases ha⟩
      have en3 : EnvR K G2 ms (r.set x (some ds[i])) (s.set x (some v)) O (fun a => Og a ∧ a ≠ L) := by
        refine en2.put (F := Fi) ?_ rvi fun a ha => ⟨og a (List.mem_append_right _ (sbi.subset ha)), fun z => nFL a (sbi.subset ha) (by rw [z]; exact List.mem_singleton.mpr rfl)⟩
        rcases hm with h | ⟨h, h2⟩
        · exact .inl h
        · exact .inr ⟨h, fun a ha => nb h2 a (List.mem_append_right _ (sbi.subset ha))⟩
      rw [List.drop_eq_getElem_cons hd] at hrest
      unfold lcGoX at hrest
      cases ht : t (r.set x (some ds[i])) with
      | stuck => rw [ht] at hrest; exact absurd hrest.symm hns
      | exn c => rw [ht] at hrest; exact absurd hrest.symm hns
      | val b =>
        rw [ht] at hrest
        cases b with
        | bool b =>
          refine ⟨_, O, _, en3, ?_⟩
          rw [ht]
          refine ⟨b, rfl, fun G3 p3 => ?_⟩
          cases b with
          | false =>
            refine iteF ⟨done, hrest, by omega, inv.same.trans p3, wk.keep _ _ [] inv.st (same_stp p3) (fun _ z => (nomatch z)) (fun _ _ z => nomatch z), inv.src.same p3, us, E, p3 _ _ hL1, rE.same p3, oE, kE⟩
          | true =>
            refine iteT ⟨_, O, _, en3.same p3, ?_⟩
            cases he : e (r.set x (some ds[i])) with
            | stuck => simp only [he] at hrest; exact absurd hrest.symm hns
            | exn c =>
              simp only [he] at hrest
              have hr2 : R = .exn c := hrest.symm
              rw [hr2] at q
              exact fun G4 p4 => q G4 (inv.same.trans (p3.trans p4))
            | val y =>
              simp only [he] at hrest
              rw [joinR_bind] at hrest
              intro u G4 F4 p4 ru og4 k4
              have hL4 := p4 _ _ (p3 _ _ hL1)
              have hus : us.length ≤ LIM := by
                rw [rE.len]
                omega
              refine ⟨us, hL4, Nat.lt_of_le_of_lt hus (by decide), done ++ [y], hrest, by rw [List.length_append, List.length_singleton]; omega, ?_⟩
              obtain ⟨st1, st2⟩ := lstep (us' := us ++ [u]) hL4
              have p34 := p3.trans p4
              have hu4 : ∀ a ∈ F4, a ∉ [L] := fun a ha z => (og4 a ha).2 (List.mem_singleton.mp z)
              refine ⟨fun b o hb => ?_, wk.keep _ _ [L] (wk.keep _ _ [] inv.st (same_stp p34) (fun _ z => (nomatch z)) fun _ _ z => nomatch z) st1 st2 fpL, RepL.stp st1 st2 _ _ _ (inv.src.same p34) nFL, us ++ [u], E ++ F4, upd_same, ?_, ?_, ?_⟩
              · rw [upd_ne (ne_of_none hb hHL)]
                exact p34 _ _ (inv.same _ _ hb)
              · refine RepL.stp st1 st2 _ _ _ ((rE.same p34).app (.one ru)) fun a ha => ?_
                rcases List.mem_append.mp ha with ha | ha
                · exact fun z => (oE a ha).2 (List.mem_singleton.mp z)
                · exact hu4 a ha
              · intro a ha
                rcases List.mem_append.mp ha with ha | ha
                · exact oE a ha
                · exact og4 a ha
              · have nE := RepL.nodes _ _ _ rE
                have k4' : KOk ke H O.flatten u F4 := k4.back (inv.same.trans p3)
                cases ke with
                | fr =>
                  refine ⟨List.nodup_append.mpr ⟨kE.1, k4'.1, fun a ha b hb z => ?_⟩, fun a ha => ?_⟩
                  · obtain ⟨xs, y1⟩ := nE a ha
                    have := k4.2 b hb
                    rw [← z, p3 _ _ y1] at this
                    cases this
                  · rcases List.mem_append.mp ha with ha | ha
                    · exact kE.2 a ha
                    · exact k4'.2 a ha
                | f1 =>
                  intro a ha
                  rcases List.mem_append.mp ha with ha | ha
                  · exact kE a ha
                  · exact KOk.shOf en k4' (by decide) a ha
                | sh =>
                  intro a ha
                  rcases List.mem_append.mp ha with ha | ha
                  · exact kE a ha
                  · exact k4' a ha
                | bo => trivial
        | _ => exact absurd hrest.symm hns
    · have e0 : i = vs.length := by omega
      subst e0
      refine .inl ⟨wk.stop _ _ inv.st (Nat.le_refl _), ?_⟩
      rw [rv.len, List.drop_length] at hrest
      have hgo : R = .val done := by
        rw [← hrest]
        show ER.val (done ++ []) = _
        rw [List.append_nil]
      rw [hgo] at q
      refine q (.ref L) G1 (L :: E) inv.same (.lst hL1 rE) (og_cons en hHL fun a ha => (oE a ha).1) ?_
      have nE := RepL.nodes _ _ _ rE
      cases ke with
      | fr => exact ⟨List.nodup_cons.mpr ⟨fun hm => (oE L hm).2 rfl, kE.1⟩, fun b hb => by
          rcases List.mem_cons.mp hb with rfl | hb
          · exact hHL
          · exact kE.2 b hb⟩
      | f1 => exact ⟨L, E, rfl, rfl, hHL, fun b hb => ⟨(oE b hb).2, kE b hb⟩⟩
      | sh => exact ⟨L, E, rfl, rfl, hHL, fun b hb => ⟨(oE b hb).2, kE b hb⟩⟩
      | bo => trivial
end
section
variable {X : Cx} {cl : Nat → Addr} {W : WX} {ms : List Md} {x : Nat} {f : En → ER (List D)} {t e : En → ER D} {k ke : Kd} {elt iter : Expr} {ifs : List Expr} {scope : Scope} {y : Str} {py pos : Pos}
theorem i_lcX (hs : X.stack = X.env :: X.outer) (hf : X.env.frame = some X.env.locals) (tk : Takes X W) (hm : LcM ms x k) (hi : II X cl W ms (.Name y py) iter f k) (ok : BlkOk X.N X.env.scope scope [(y, x)]) (hN : X.N.Nodup) (hc : X.calm = true)
    (hg : ∀ (s : Shared) (H : Hp) (C : Addr) (l : List (Str × Addr)) (fp : List Addr) (xe : Value → Shared → Prop), PG (blkX X s H scope (compEnvC scope l C X.env) fp xe) (.Name y py) (gName x))
    (ht : ∀ (s : Shared) (H : Hp) (C : Addr) (l : List (Str × Addr)) (fp : List Addr) (xe : Value → Shared → Prop), PTs (blkX X s H scope (compEnvC scope l C X.env) fp xe) ifs (canT X.K cl W0 ms t))
    (he : ∀ (s : Shared) (H : Hp) (C : Addr) (l : List (Str × Addr)) (fp : List Addr) (xe : Value → Shared → Prop) (W' : WX), PAt (blkX X s H scope (compEnvC scope l C X.env) fp xe) W' → IE (blkX X s H scope (compEnvC scope l C X.env) fp xe) cl W' ms elt e ke)
    (hfs : ∀ x, foldedSetIterable iter X.env x = pure x := by intro _; rfl) :
    IE X cl W ms (.ListComp elt [⟨.Name y py, iter, ifs, 0⟩] scope pos) (lcX x f t e) ke.top :=
  pe_imp (pe_lcX (te := fun W' => canE X.K cl W' ms e ke) hs hf tk hc hN hi ok hg ht he hfs) fun s H Q w => lc_redX hm w
variable {es : List Expr} {g : En → ER (List D)} {ka : Kd} {n j : Nat} {ps : List Str} {F : List D → FR} {rk : Bool} {z : Str} {p : Pos}
/-- a call whose exceptions are taken where it stands -/
theorem i_callP (d : Df X.prog X.w X.K X.mg X.base z ps j (spN X.K cl n F rk)) (hr : Room j X.A) (pa : PAt X W)
    (ha : IA X cl W ms (elt :: es) g ka) (hn : ∀ r ds, g r = .val ds → ds.length = n) (hg : Gl X z := by rfl) (hdb : (z == ("__debug__" : Str)) = false := by decide) (he : starEach (elt :: es) X.env = (false, eval elt X.env) :: starEach es X.env := by rfl) (hpl : (backTo pos (starEach es X.env)).any (·.1) = false := by rfl) :
    IE X cl W ms (.Call (.Name z p) (elt :: es) [] pos) (callF F g) (Kd.res rk ka) := by
  obtain ⟨fa, fd, hF, hm, hk, hb⟩ := d.ex
  exact pe_imp (pe_callS hF hr hg hm hk hb pa ha hdb he hpl) fun s H Q ⟨r, O, Og, en, w⟩ => ⟨r, O, Og, en, ER.ok_mono (ER.ok_bind w) (fun ds hds q vs G A p rv og kv => by
    refine ⟨ds, A, hn _ _ hds, rv, ?_⟩
    cases hf : F ds with
    | stuck => rw [hf] at q; exact q.elim
    | exn c => rw [hf] at q; exact fun J p2 => q J (p.trans p2)
    | ret d o =>
      rw [hf] at q
      intro v J B p2 rv2 res
      refine q v J B (p.trans p2) rv2 (fun a ha => ?_) ?_
      · unfold ResOk at res
        split at res
        · exact en.fg a (p.free (res.2 a ha))
        · rcases res a ha with h | h
          · exact en.fg a (p.free h)
          · exact og a h
      · unfold ResOk at res
        unfold Kd.res
        split at res
        · rename_i h
          rw [if_pos h]
          exact ⟨res.1, fun a ha => p.free (res.2 a ha)⟩
        · rename_i h
          rw [if_neg h]
          by_cases hb : ka = .bo
          · subst hb
            trivial
          · have : KOk .sh H O.flatten v B := fun a ha => by
              rcases res a ha with h | h
              · exact en.old (p.free h)
              · exact KLk.shOf en kv hb a h
            cases ka <;> first | exact this | exact absurd rfl hb) fun _ n => n⟩
end
end Mi

namespace Mi
open PySem
def b_between : En → SR := (retS (tand (un (dIsi .int) (var 0)) (tand (un dNo (un (dIsi .bool) (var 0))) (tand (bi dLe (var 1) (var 0)) (bi dLe (var 0) (var 2))))))
def F_between : List D → FR := runF 3 b_between

def b_is_shape : En → SR := (seq (ifS (un dNo (un (dIsi .tuple) (var 0))) (retS (cst (.bool false))) skip) (seq (asg 1 (cst (.int 16))) (seq (forS 2 (its (var 0)) (seq (ifS (un dNo (callF F_between (acons (var 2) (acons (cst (.int 1)) (acons (var 1) anil))))) (retS (cst (.bool false))) skip) (asg 1 (var 2)))) (retS (bi dLe (un dSum (var 0)) (cst (.int 16)))))))
def F_is_shape : List D → FR := runF 3 b_is_shape

def b_shape_of : En → SR := (retS (un dTup (lc 1 (its (var 0)) (cst (.bool true)) (un dLen (var 1)))))
def F_shape_of : List D → FR := runF 2 b_shape_of

def b_law_cell_at : En → SR := (seq (ifS (bi dLt (var 1) (un dLen (var 0))) (retS (bi dIdx (var 0) (var 1))) skip) (seq (ifS (bi dEq (var 0) (llst anil)) (retS (cst (.int 0))) skip) (retS (bi dAdd (bi dMul (bi dIdx (var 0) (bi dMod (var 1) (un dLen (var 0)))) (cst (.int 31))) (var 1)))))
def F_law_cell_at : List D → FR := runF 2 b_law_cell_at

def b_law_mixed : En → SR := (seq (asg 3 (bi dMod (bi dMul (bi dAdd (bi dAdd (callF F_law_cell_at (acons (var 0) (acons (var 1) anil))) (bi dMul (cst (.int 7919)) (var 1))) (cst (.int 1))) (cst (.int 48271))) (cst (.int 2147483647)))) (retS (bi dMod (bi dMod (bi dAdd (bi dAdd (bi dMul (var 3) (var 3)) (bi dMul (cst (.int 7)) (var 3))) (var 1)) (cst (.int 2147483629))) (var 2))))
def F_law_mixed : List D → FR := runF 4 b_law_mixed

def b_law_put : En → SR := (seq (forS 2 (rng1 (acons (un dLen (var 0)) anil)) (seq (asg 3 (lc 5 (rng1 (acons (un dLen (bi dIdx (var 0) (var 2))) anil)) (bi dGt (bi dIdx (bi dIdx (var 0) (var 2)) (var 5)) (var 1)) (var 5))) (seq (ifS (bi dEq (var 3) (llst anil)) (seq (app1P 0 (var 2) (var 1)) (retS (ltup (acons (var 2) (acons (bi dSub (un dLen (bi dIdx (var 0) (var 2))) (cst (.int 1))) anil))))) skip) (seq (asgP 4 (bi dIdx (bi dIdx (var 0) (var 2)) (bi dIdx (var 3) (cst (.int 0))))) (seq (set1P 0 (var 2) (bi dIdx (var 3) (cst (.int 0))) (var 1)) (asg 1 (var 4))))))) (seq (appF 0 (llst (acons (plainE (var 1)) anil))) (retS (ltup (acons (bi dSub (un dLen (var 0)) (cst (.int 1))) (acons (cst (.int 0)) anil))))))
def F_law_put : List D → FR := runI [.io, .sh, .sh, .sh, .sh, .sh] b_law_put

def b_law_box_1 : En → SR := (seq (asg 1 (llst anil)) (seq (forS 2 (its (var 0)) (exprI F_law_put (acons (var 1) (acons (var 2) anil)) [some 1, none])) (retS (un dTup (lc 3 (its (var 1)) (cst (.bool true)) (un dTup (var 3)))))))
def F_law_box_1 : List D → FR := runF 4 b_law_box_1

def b_law_lengths : En → SR := (retS (un dTup (lc 1 (its (var 0)) (cst (.bool true)) (un dLen (var 1)))))
def F_law_lengths : List D → FR := runF 2 b_law_lengths

def b_need_shape : En → SR := (ifS (un dNo (callF F_is_shape (acons (var 0) anil))) (raiseS 3) skip)
def F_need_shape : List D → FR := runF 1 b_need_shape

def b_law_reading : En → SR := (seq (asg 1 (ltup anil)) (seq (forS 2 (its (var 0)) (asg 1 (bi dAdd (un dTup (var 2)) (var 1)))) (retS (var 1))))
def F_law_reading : List D → FR := runF 3 b_law_reading

def b_law_perm : En → SR := (seq (asg 3 (lc 5 (rng1 (acons (var 2) anil)) (cst (.bool true)) (plainE (bi dAdd (var 5) (cst (.int 1)))))) (seq (asg 4 (llst anil)) (seq (forS 5 (rng1 (acons (var 2) anil)) (appPop 4 3 (callF F_law_mixed (acons (var 0) (acons (bi dAdd (var 1) (var 5)) (acons (un dLen (var 3)) anil)))))) (retS (un dTup (var 4))))))
def F_law_perm : List D → FR := runF 6 b_law_perm

def b_part_at : En → SR := (seq (ifS (bi dLt (var 1) (un dLen (var 0))) (retS (bi dIdx (var 0) (var 1))) skip) (retS (cst (.int 0))))
def F_part_at : List D → FR := runF 2 b_part_at

def b_letter_at : En → SR := (seq (ifS (bi dGe (var 1) (un dLen (bi dIdx (var 0) (cst (.int 1))))) (retS (cst .none)) skip) (seq (asg 3 (bi dSub (var 2) (callF F_part_at (acons (bi dIdx (var 0) (cst (.int 0))) (acons (var 1) anil))))) (seq (ifS (tor (bi dLt (var 3) (cst (.int 0))) (bi dGe (var 3) (un dLen (bi dIdx (bi dIdx (var 0) (cst (.int 1))) (var 1))))) (retS (cst .none)) skip) (retS (bi dIdx (bi dIdx (bi dIdx (var 0) (cst (.int 1))) (var 1)) (var 3))))))
def F_letter_at : List D → FR := runF 4 b_letter_at

def b_law_box_2 : En → SR := (seq (asg 1 (llst anil)) (seq (forS 2 (its (var 0)) (exprI F_law_put (acons (var 1) (acons (var 2) anil)) [some 1, none])) (retS (un dTup (lc 3 (its (var 1)) (cst (.bool true)) (un dTup (var 3)))))))
def F_law_box_2 : List D → FR := runF 4 b_law_box_2

def b_lies_in : En → SR := (seq (forS 2 (rng1 (acons (un dLen (var 0)) anil)) (ifS (bi dGt (bi dIdx (var 0) (var 2)) (callF F_part_at (acons (var 1) (acons (var 2) anil)))) (retS (cst (.bool false))) skip)) (retS (cst (.bool true))))
def F_lies_in : List D → FR := runF 3 b_lies_in

def b_may_stand : En → SR := (seq (unp3 4 5 6 (var 0)) (seq (asg 7 (sl dSlT (bi dIdx (var 5) (var 6)) onone (osome (cst (.int 1))))) (seq (ifS (tand (bi dNe (var 7) (ltup anil)) (bi dGt (var 3) (bi dIdx (var 7) (cst (.int 0))))) (retS (cst (.bool false))) skip) (seq (asg 8 (cst .none)) (seq (ifS (bi dGt (var 6) (cst (.int 0))) (asg 8 (callF F_letter_at (acons (ltup (acons (var 4) (acons (sl dSlT (var 5) onone (osome (var 6))) anil))) (acons (bi dSub (var 6) (cst (.int 1))) (acons (var 2) anil))))) skip) (retS (tor (bi dIs (var 8) (cst .none)) (bi dLt (var 8) (var 3)))))))))
def F_may_stand : List D → FR := runF 9 b_may_stand

def b_counted : En → SR := (seq (asg 2 (bi dIdx (var 0) (bi dSub (var 1) (cst (.int 1))))) (seq (ifS (tor (bi dEq (bi dIdx (var 2) (cst (.int 1))) (cst (.int 0))) (tand (bi dGt (var 1) (cst (.int 1))) (bi dGt (bi dAdd (bi dIdx (var 2) (cst (.int 0))) (cst (.int 1))) (bi dIdx (bi dIdx (var 0) (bi dSub (var 1) (cst (.int 2)))) (cst (.int 0)))))) (retS (cst .none)) skip) (seq (asg 3 (un dLstP (var 0))) (seq (setP 3 (bi dSub (var 1) (cst (.int 1))) (ltup (acons (bi dAdd (bi dIdx (var 2) (cst (.int 0))) (cst (.int 1))) (acons (bi dSub (bi dIdx (var 2) (cst (.int 1))) (cst (.int 1))) anil)))) (retS (var 3))))))
def F_counted : List D → FR := runF 4 b_counted

def b_filled : En → SR := (seq (asg 4 (lc2 8 9 (its (var 2)) (cst (.bool true)) (ltup (acons (bi dAdd (var 8) (ltup (acons (ltup anil) anil))) (acons (var 9) anil))))) (seq (forS 5 (rng1 (acons (bi dSub (bi dIdx (var 1) (var 3)) (callF F_part_at (acons (var 0) (acons (var 3) anil)))) anil)) (seq (asg 6 (bi dSub (bi dSub (bi dIdx (var 1) (var 3)) (cst (.int 1))) (var 5))) (seq (asg 7 (asL (llst anil))) (seq (forS2 8 9 (its (var 4)) (forS 10 (rng2 (acons (cst (.int 1)) (acons (bi dAdd (un dLen (var 9)) (cst (.int 1))) anil))) (seq (asg 11 (callF F_counted (acons (var 9) (acons (var 10) anil)))) (ifS (tand (bi dNot (var 11) (cst .none)) (callF F_may_stand (acons (ltup (acons (var 0) (acons (var 8) (acons (var 3) anil)))) (acons (var 1) (acons (var 6) (acons (var 10) anil)))))) (appF 7 (ltup (acons (bi dAdd (sl dSlT (var 8) onone (osome (var 3))) (ltup (acons (bi dAdd (ltup (acons (var 10) anil)) (bi dIdx (var 8) (var 3))) anil))) (acons (var 11) anil)))) skip)))) (asgM 4 7))))) (retS (var 4))))
def F_filled : List D → FR := runF 12 b_filled

def b_lattice_boxes_1 : En → SR := (seq (exprS (callF F_need_shape (acons (var 0) anil))) (seq (exprS (callF F_need_shape (acons (var 1) anil))) (seq (exprS (callF F_need_shape (acons (var 2) anil))) (seq (ifS (bi dGt (un dSum (var 0)) (cst (.int 8))) (raiseS 6) skip) (seq (ifS (tor (un dNo (callF F_lies_in (acons (var 1) (acons (var 0) anil)))) (bi dNe (un dSum (var 0)) (bi dAdd (un dSum (var 1)) (un dSum (var 2))))) (retS (llst anil)) skip) (seq (asg 3 (llst (acons (ltup (acons (ltup anil) (acons (lc 6 (its (var 2)) (cst (.bool true)) (ltup (acons (cst (.int 0)) (acons (var 6) anil)))) anil))) anil))) (seq (forS 4 (rng1 (acons (un dLen (var 0)) anil)) (asg 3 (callF F_filled (acons (var 1) (acons (var 0) (acons (var 3) (acons (var 4) anil))))))) (retS (lc 5 (its (un dSortE (lc 7 (its (var 3)) (cst (.bool true)) (bi dIdx (var 7) (cst (.int 0)))))) (cst (.bool true)) (ltup (acons (var 1) (acons (var 5) anil))))))))))))
def F_lattice_boxes_1 : List D → FR := runF 8 b_lattice_boxes_1

def b_law_exact : En → SR := (seq (asg 3 (var 2)) (seq (asg 4 (llst anil)) (seq (asg 5 (var 2)) (seq (forS 6 (rng1 (acons (var 2) anil)) (ifS (bi dGt (var 3) (cst (.int 0))) (seq (asg 5 (bi dAdd (cst (.int 1)) (callF F_law_mixed (acons (var 0) (acons (bi dAdd (var 1) (var 6)) (acons (bi dMin2 (var 3) (var 5)) anil)))))) (seq (appP 4 (var 5)) (asg 3 (bi dSub (var 3) (var 5))))) skip)) (retS (un dTup (var 4)))))))
def F_law_exact : List D → FR := runF 7 b_law_exact

def b_law_fillings : En → SR := (seq (asg 2 (llst (acons (un dTup (lc 7 (its (var 0)) (cst (.bool true)) (ltup anil))) anil))) (seq (forS 3 (its (var 1)) (seq (asg 4 (llst anil)) (seq (forS 5 (its (var 2)) (forS 6 (rng1 (acons (un dLen (var 0)) anil)) (ifS (tand (bi dLt (un dLen (bi dIdx (var 5) (var 6))) (bi dIdx (var 0) (var 6))) (tor (bi dEq (var 6) (cst (.int 0))) (bi dLt (un dLen (bi dIdx (var 5) (var 6))) (un dLen (bi dIdx (var 5) (bi dSub (var 6) (cst (.int 1)))))))) (appP 4 (bi dAdd (bi dAdd (sl dSlT (var 5) onone (osome (var 6))) (ltup (acons (bi dAdd (bi dIdx (var 5) (var 6)) (ltup (acons (var 3) anil))) anil))) (sl dSlT (var 5) (osome (bi dAdd (var 6) (cst (.int 1)))) onone))) skip))) (asgM 2 4)))) (retS (var 2))))
def F_law_fillings : List D → FR := runF 8 b_law_fillings

def b_law_choices : En → SR := (seq (asg 2 (llst (acons (ltup anil) anil))) (seq (forS 3 (rng2 (acons (cst (.int 1)) (acons (bi dAdd (var 0) (cst (.int 1))) anil))) (seq (asg 4 (llst anil)) (seq (forS 5 (its (var 2)) (seq (appP 4 (var 5)) (ifS (bi dLt (un dLen (var 5)) (var 1)) (appP 4 (bi dAdd (var 5) (ltup (acons (var 3) anil)))) skip))) (asgM 2 4)))) (retS (lc 5 (its (var 2)) (bi dEq (un dLen (var 5)) (var 1)) (var 5)))))
def F_law_choices : List D → FR := runF 6 b_law_choices

def b_law_22 : En → SR := (seq (asg 1 (callF F_law_mixed (acons (var 0) (acons (cst (.int 0)) (acons (cst (.int 7)) anil))))) (seq (asg 2 (callF F_law_box_2 (acons (callF F_law_perm (acons (var 0) (acons (cst (.int 1)) (acons (var 1) anil)))) anil))) (seq (asg 3 (callF F_law_mixed (acons (var 0) (acons (cst (.int 10)) (acons (bi dAdd (bi dMin2 (var 1) (cst (.int 4))) (cst (.int 1))) anil))))) (seq (asg 4 (callF F_law_exact (acons (var 0) (acons (cst (.int 11)) (acons (var 3) anil))))) (seq (asg 5 (callF F_law_exact (acons (var 0) (acons (cst (.int 20)) (acons (bi dSub (var 1) (var 3)) anil))))) (seq (asg 6 (cst (.int 0))) (seq (forS 7 (its (callF F_law_choices (acons (var 1) (acons (var 3) anil)))) (seq (asg 8 (lc 12 (rng2 (acons (cst (.int 1)) (acons (bi dAdd (var 1) (cst (.int 1))) anil))) (bi dNin (var 12) (var 7)) (var 12))) (forS 9 (its (callF F_law_fillings (acons (var 4) (acons (var 7) anil)))) (forS 10 (its (callF F_law_fillings (acons (var 5) (acons (var 8) anil)))) (asg 6 (bi dAdd (var 6) (un dInt (bi dEq (callF F_law_box_2 (acons (bi dAdd (callF F_law_reading (acons (var 9) anil)) (callF F_law_reading (acons (var 10) anil))) anil)) (var 2))))))))) (seq (asg 11 (callF F_lattice_boxes_1 (acons (callF F_law_lengths (acons (var 2) anil)) (acons (var 4) (acons (var 5) anil))))) (retS (tand (un (dIsi .list) (var 11)) (bi dEq (un dLen (var 11)) (var 6))))))))))))
def F_law_22 : List D → FR := runF 13 b_law_22

end Mi

namespace Mi
open PySem
def btw (d : D) (lo hi : Int) : Bool := match d with
  | .int z => decide (lo ≤ z) && decide (z ≤ hi)
  | _ => false
theorem F_between_eq (d : D) (lo hi : Int) : F_between [d, .int lo, .int hi] = .ret (.bool (btw d lo hi)) [] := by
  unfold F_between b_between
  rw [runF_eq]
  cases d with
  | int z =>
    simp [btw]
    by_cases h : lo ≤ z <;> simp [h]
  | bool b => simp [btw, isT]
  | _ => simp [btw, isT]
/-- the place of the first that is greater -/
def fg (l : List Int) (z : Int) : Nat := l.findIdx fun y => decide (z < y)
theorem fg_le (l : List Int) (z : Int) : fg l z ≤ l.length := List.findIdx_le_length
theorem ints_at (l : List Int) {k : Nat} (h : k < l.length) : (l.map PyData.int)[k]? = some (.int (l.getD k 0)) := by
  simp [h]
theorem rowsT_at (T : List (List Int)) {k : Nat} (h : k < T.length) : (T.map iT)[k]? = some (iT (T.getD k [])) := by
  simp [h]
end Mi

namespace Mi
open PySem
/-! putting in -/
def insT : List (List Int) → Int → List (List Int)
  | [], z => [[z]]
  | l :: T, z => if fg l z < l.length then l.set (fg l z) z :: insT T (l.getD (fg l z) 0) else (l ++ [z]) :: T
def insR : List (List Int) → Int → Nat
  | [], _ => 0
  | l :: T, z => if fg l z < l.length then insR T (l.getD (fg l z) 0) + 1 else 0
def insC : List (List Int) → Int → Nat
  | [], _ => 0
  | l :: T, z => if fg l z < l.length then insC T (l.getD (fg l z) 0) else l.length
theorem rows_set (A : List (List Int)) (l m : List Int) (T : List (List Int)) : ((A ++ l :: T).map iL).set A.length (iL m) = (A ++ m :: T).map iL := by
  rw [List.map_append, List.map_cons, List.set_append_right _ _ (by simp)]
  simp
theorem ints_set (l : List Int) (k : Nat) (z : Int) : (l.map PyData.int).set k (.int z) = (l.set k z).map .int := by
  rw [List.map_set]
theorem ints_app (l : List Int) (z : Int) : l.map PyData.int ++ [.int z] = (l ++ [z]).map .int := by simp
theorem row_mid (A : List (List Int)) (l : List Int) (T : List (List Int)) : ((A ++ l :: T).map iL)[A.length]? = some (iL l) := by
  simp
end Mi

namespace Mi
open PySem
theorem greater_eq (l : List Int) (z : Int) : (fg l z < l.length → ∃ rest, (List.range l.length).filter (fun j => decide (z < l.getD j 0)) = fg l z :: rest) ∧ (¬ fg l z < l.length → (List.range l.length).filter (fun j => decide (z < l.getD j 0)) = []) := by
  constructor
  · intro h
    refine filter_first h ?_ fun j hj => ?_
    · have : decide (z < l[l.findIdx fun y => decide (z < y)]'h) = true := List.findIdx_getElem (w := h)
      unfold fg
      unfold fg at h
      rw [List.getD_eq_getElem?_getD, List.getElem?_eq_getElem h]
      exact this
    · have hj2 : j < l.length := Nat.lt_trans hj h
      have : (fun y => decide (z < y)) (l[j]'hj2) = false := by
        have := List.not_of_lt_findIdx (p := fun y => decide (z < y)) (xs := l) (i := j) hj
        simpa using this
      rw [List.getD_eq_getElem?_getD, List.getElem?_eq_getElem hj2]
      exact this
  · intro h
    rw [List.filter_eq_nil_iff]
    intro j hj
    have hj2 := List.mem_range.mp hj
    have e : fg l z = l.length := by have := fg_le l z; omega
    unfold fg at e
    rw [List.findIdx_eq_length] at e
    rw [List.getD_eq_getElem?_getD, List.getElem?_eq_getElem hj2]
    have := e _ (List.getElem_mem hj2)
    simpa using this
abbrev lputB : En → SR := (seq (asg 3 (lc 5 (rng1 (acons (un dLen (bi dIdx (var 0) (var 2))) anil)) (bi dGt (bi dIdx (bi dIdx (var 0) (var 2)) (var 5)) (var 1)) (var 5))) (seq (ifS (bi dEq (var 3) (llst anil)) (seq (app1P 0 (var 2) (var 1)) (retS (ltup (acons (var 2) (acons (bi dSub (un dLen (bi dIdx (var 0) (var 2))) (cst (.int 1))) anil))))) skip) (seq (asgP 4 (bi dIdx (bi dIdx (var 0) (var 2)) (bi dIdx (var 3) (cst (.int 0))))) (seq (set1P 0 (var 2) (bi dIdx (var 3) (cst (.int 0))) (var 1)) (asg 1 (var 4))))))
theorem lput_row (A : List (List Int)) (l : List Int) (T : List (List Int)) (z : Int) (g k j : Option D) (hl : l.length < LIM) :
    (fg l z < l.length → ∃ g' k', lputB [some (bL (A ++ l :: T)), some (.int z), some (.int (A.length : Nat)), g, k, j] = .nx [some (bL (A ++ l.set (fg l z) z :: T)), some (.int (l.getD (fg l z) 0)), some (.int (A.length : Nat)), g', k', j]) ∧
    (¬ fg l z < l.length → ∃ g', lputB [some (bL (A ++ l :: T)), some (.int z), some (.int (A.length : Nat)), g, k, j] = .ret (.tuple [.int (A.length : Nat), .int (l.length : Nat)]) [some (bL (A ++ (l ++ [z]) :: T)), some (.int z), some (.int (A.length : Nat)), g', k, j]) := by
  have e1 : dIdx (bL (A ++ l :: T)) (.int (A.length : Nat)) = some (iL l) := by rw [dIdx_l, row_mid]
  have e2 : lc 5 (rng1 (acons (un dLen (bi dIdx (var 0) (var 2))) anil)) (bi dGt (bi dIdx (bi dIdx (var 0) (var 2)) (var 5)) (var 1)) (var 5) [some (bL (A ++ l :: T)), some (.int z), some (.int (A.length : Nat)), g, k, j] = .val (.list (((List.range l.length).filter (fun j => decide (z < l.getD j 0))).map fun j => .int (j : Nat))) := by
    refine lc_rangeF ?_ (Nat.le_of_lt hl) (fun q hq => ?_) fun q hq _ => ?_
    · simp only [rng1_at, acons_at, un_at, bi_at, var_at, anil_at, List.getElem?_cons_zero, List.getElem?_cons_succ, optER_some, ER.bind_val, e1, of_some, dLen_l, List.length_map]
      rw [dRng1_nat (Nat.le_of_lt hl)]
      rfl
    · simp only [List.set_cons_succ, List.set_cons_zero, bi_at, var_at, List.getElem?_cons_zero, List.getElem?_cons_succ, optER_some, ER.bind_val, e1, of_some, dIdx_l, ints_at l hq, dGt_i]
    · simp
  have e3 : asg 3 (lc 5 (rng1 (acons (un dLen (bi dIdx (var 0) (var 2))) anil)) (bi dGt (bi dIdx (bi dIdx (var 0) (var 2)) (var 5)) (var 1)) (var 5)) [some (bL (A ++ l :: T)), some (.int z), some (.int (A.length : Nat)), g, k, j] = .nx [some (bL (A ++ l :: T)), some (.int z), some (.int (A.length : Nat)), some (.list (((List.range l.length).filter (fun j => decide (z < l.getD j 0))).map fun j => .int (j : Nat))), k, j] := by
    rw [asg_at, e2]
    rfl
  obtain ⟨g1, g2⟩ := greater_eq l z
  have e4 : ∀ L : List Nat, bi dEq (var 3) (llst anil) [some (bL (A ++ l :: T)), some (.int z), some (.int (A.length : Nat)), some (.list (L.map fun j => PyData.int (j : Nat))), k, j] = .val (.bool (decide (L = []))) := fun L => by
    have := dEq_iL (L.map fun j : Nat => (j : Int)) []
    simp only [iL, List.map_map, List.map_nil] at this
    simp only [bi_at, var_at, List.getElem?_cons_zero, List.getElem?_cons_succ, optER_some, ER.bind_val, llst_at, anil_at, List.length_nil, Nat.zero_le, if_true, of_some]
    rw [show (fun j : Nat => PyData.int (j : Int)) = PyData.int ∘ fun j : Nat => (j : Int) from rfl, this]
    simp
  constructor
  · intro h
    obtain ⟨rest, hr⟩ := g1 h
    rw [hr] at e3
    refine ⟨some (.list ((fg l z :: rest).map fun j => .int (j : Nat))), some (.int (l.getD (fg l z) 0)), ?_⟩
    have e5 : asgP 4 (bi dIdx (bi dIdx (var 0) (var 2)) (bi dIdx (var 3) (cst (.int 0)))) [some (bL (A ++ l :: T)), some (.int z), some (.int (A.length : Nat)), some (.list ((fg l z :: rest).map fun j => .int (j : Nat))), k, j] = .nx [some (bL (A ++ l :: T)), some (.int z), some (.int (A.length : Nat)), some (.list ((fg l z :: rest).map fun j => .int (j : Nat))), some (.int (l.getD (fg l z) 0)), j] := by
      simp only [asgP_at, bi_at, var_at, cst_at, List.getElem?_cons_zero, List.getElem?_cons_succ, optER_some, ER.bind_val, e1, of_some, List.map_cons, dIdx_l0, dIdx_l, ints_at l h, ER.toS_val, plain_int, if_true]
      rfl
    unfold lputB
    rw [seq_at, e3, next_nx, seq_at, ifS_at, e4, ER.toS_val, ifK_b, if_neg (by simp), skip_at, next_nx, seq_at, e5, next_nx, seq_at, set1P_val (l := (A ++ l :: T).map iL) (m := l.map .int) (k := A.length) (q := fg l z) (d := .int z) rfl rfl (row_mid A l T) (by simp) (by simpa using h) rfl (by simp), next_nx, ints_set, rows_set]
    simp
  · intro h
    rw [g2 h] at e3
    refine ⟨some (.list []), ?_⟩
    unfold lputB
    have e4' := e4 []
    simp only [List.map_nil] at e4' e3
    have e6 : dIdx (bL (A ++ (l ++ [z]) :: T)) (.int (A.length : Nat)) = some (iL (l ++ [z])) := by rw [dIdx_l, row_mid]
    rw [seq_at, e3, next_nx, seq_at, ifS_at, e4', ER.toS_val, ifK_b, if_pos (by simp), seq_at, app1P_val (l := (A ++ l :: T).map iL) (m := l.map .int) (k := A.length) (d := .int z) rfl rfl (row_mid A l T) rfl (by simpa using hl) (by simp), next_nx, ints_app, rows_set]
    simp only [List.set_cons_zero, retS_at, ltup_at, acons_at, un_at, bi_at, var_at, cst_at, anil_at, List.getElem?_cons_zero, List.getElem?_cons_succ, optER_some, ER.bind_val, e6, of_some, dLen_l, dSub_i]
    simp [LIM]
abbrev lputC : En → SR := (seq (appF 0 (llst (acons (plainE (var 1)) anil))) (retS (ltup (acons (bi dSub (un dLen (var 0)) (cst (.int 1))) (acons (cst (.int 0)) anil)))))
theorem lput_go (ms : List Md) (hms : ms = [.io, .sh, .sh, .sh, .sh, .sh]) : ∀ (T A : List (List Int)) (z : Int) (v g k j : Option D), (A ++ T).length < LIM → (∀ l ∈ T, l.length < LIM) →
    ((forL 2 lputB (ids (A.length : Nat) T.length) [some (bL (A ++ T)), some (.int z), v, g, k, j]).next lputC).finI ms = .ret (.tuple [.int ((A.length + insR T z : Nat) : Int), .int (insC T z : Nat)]) [bL (A ++ insT T z)] := by
  subst hms
  intro T
  induction T with
  | nil =>
    intro A z v g k j hA hT
    rw [List.length_nil, ids_zero, forL_nil, next_nx]
    unfold lputC
    rw [seq_at, appF_val (l := (A ++ []).map iL) (d := .list [.int z]) rfl (by simp [LIM]) (by simpa using hA), next_nx]
    simp [LIM, SR.finI, outsOf, insR, insC, insT]
  | cons l T ih =>
    intro A z v g k j hA hT
    rw [List.length_cons, ids_succ, forL_cons]
    show ((SR.next (lputB [some (bL (A ++ l :: T)), some (.int z), some (.int (A.length : Nat)), g, k, j]) _).next lputC).finI _ = _
    obtain ⟨h1, h2⟩ := lput_row A l T z g k j (hT l List.mem_cons_self)
    unfold insT insR insC
    by_cases h : fg l z < l.length
    · obtain ⟨g', k', e⟩ := h1 h
      rw [e, next_nx, if_pos h, if_pos h, if_pos h]
      have := ih (A ++ [l.set (fg l z) z]) (l.getD (fg l z) 0) (some (.int (A.length : Nat))) g' k' j (by simp at hA ⊢; omega) (fun m hm => hT m (List.mem_cons_of_mem _ hm))
      rw [List.append_assoc, List.append_assoc] at this
      simp only [List.length_append, List.length_cons, List.length_nil, List.cons_append, List.nil_append] at this
      rw [show ((A.length : Nat) : Int) + 1 = ((A.length + (0 + 1) : Nat) : Int) by omega, this, show A.length + (0 + 1) + insR T (l.getD (fg l z) 0) = A.length + (insR T (l.getD (fg l z) 0) + 1) by omega]
    · obtain ⟨g', e⟩ := h2 h
      rw [e, next_ret, next_ret, if_neg h, if_neg h, if_neg h]
      simp [SR.finI, outsOf]
theorem F_law_put_eq (T : List (List Int)) (z : Int) (h1 : T.length < LIM) (h2 : ∀ l ∈ T, l.length < LIM) : F_law_put [bL T, .int z] = .ret (.tuple [.int (insR T z : Nat), .int (insC T z : Nat)]) [bL (insT T z)] := by
  unfold F_law_put b_law_put
  rw [runI_eq]
  have := lput_go _ rfl T [] z none none none none (by simpa using h1) h2
  simp only [List.nil_append, List.length_nil, Nat.zero_add] at this
  have e : forS 2 (rng1 (acons (un dLen (var 0)) anil)) lputB [some (bL T), some (.int z), none, none, none, none] = forL 2 lputB (ids ((0 : Nat) : Int) T.length) [some (bL T), some (.int z), none, none, none, none] := forS_val (by
    simp
    rw [dRng1_nat (Nat.le_of_lt h1)]
    rfl)
  show ((seq (forS 2 (rng1 (acons (un dLen (var 0)) anil)) lputB) lputC) [some (bL T), some (.int z), none, none, none, none]).finI _ = _
  rw [seq_at, e]
  exact this
/-- all rows of a put word are short -/
theorem insT_len (T : List (List Int)) (z : Int) : (insT T z).length ≤ T.length + 1 := by
  induction T generalizing z with
  | nil => simp [insT]
  | cons l T ih =>
    unfold insT
    split
    · have := ih (l.getD (fg l z) 0)
      simp only [List.length_cons]
      omega
    · simp
theorem insT_row (T : List (List Int)) (z : Int) (n : Nat) (h : ∀ l ∈ T, l.length ≤ n) : ∀ l ∈ insT T z, l.length ≤ n + 1 := by
  induction T generalizing z with
  | nil => simp [insT]
  | cons l T ih =>
    unfold insT
    have h0 := h l List.mem_cons_self
    split
    · intro m hm
      rcases List.mem_cons.mp hm with rfl | hm
      · simp
        omega
      · exact ih _ (fun l hl => h l (List.mem_cons_of_mem _ hl)) m hm
    · intro m hm
      rcases List.mem_cons.mp hm with rfl | hm
      · simp
        omega
      · have := h m (List.mem_cons_of_mem _ hm)
        omega
/-- the box of a word -/
def insW (T : List (List Int)) (w : List Int) : List (List Int) := w.foldl insT T
theorem insW_small (w : List Int) : ∀ (T : List (List Int)) (n : Nat), T.length ≤ n → (∀ l ∈ T, l.length ≤ n) → (insW T w).length ≤ n + w.length ∧ ∀ l ∈ insW T w, l.length ≤ n + w.length := by
  induction w with
  | nil => intro T n h1 h2; exact ⟨h1, h2⟩
  | cons z w ih =>
    intro T n h1 h2
    have := ih (insT T z) (n + 1) (by have := insT_len T z; omega) (insT_row T z n h2)
    simp only [List.length_cons]
    rw [show n + (w.length + 1) = n + 1 + w.length by omega]
    exact this
end Mi

namespace Mi
open PySem
/-! the scripts' drawing -/
def cellAt (ns : List Int) (k : Nat) : Int := if k < ns.length then ns.getD k 0 else if ns = [] then 0 else ns.getD (k % ns.length) 0 * 31 + k
def drawn (ns : List Int) (k : Nat) : Int := ((cellAt ns k + 7919 * k + 1) * 48271).fmod 2147483647
def mixed (ns : List Int) (k : Nat) (m : Int) : Int := ((drawn ns k * drawn ns k + 7 * drawn ns k + k).fmod 2147483629).fmod m
theorem F_law_cell_at_eq (ns : List Int) (k : Nat) : F_law_cell_at [lck ns, .int (k : Int)] = .ret (.int (cellAt ns k)) [] := by
  unfold F_law_cell_at b_law_cell_at
  rw [runF_eq]
  unfold cellAt
  by_cases h : k < ns.length
  · simp [h, lck_at]
  · by_cases h2 : ns = []
    · subst h2
      simp [LIM, dEq_lck]
      intro h
      omega
    · have hp : 0 < ns.length := List.length_pos_iff.mpr h2
      have h3 : k % ns.length < ns.length := Nat.mod_lt _ hp
      have h4 : ns.length ≤ k := by omega
      have e1 : dMod (.int (k : Int)) (.int (ns.length : Int)) = some (.int ((k % ns.length : Nat) : Int)) := by rw [dMod_i _ _ (by omega), fmod_nat]
      obtain ⟨q, hq⟩ : ∃ q, k % ns.length = q := ⟨_, rfl⟩
      rw [hq] at e1 h3 ⊢
      simp [LIM, dEq_lck, h, h2, e1, lck_at ns _ h3, dMul_i _ _ (.inr (show small 31 = true by decide))]
theorem drawn_bds (ns : List Int) (k : Nat) : 0 ≤ drawn ns k ∧ drawn ns k < 2147483647 := fmod_bds (by decide)
theorem mixed_bds (ns : List Int) (k : Nat) {m : Int} (h : 0 < m) : 0 ≤ mixed ns k m ∧ mixed ns k m < m := fmod_bds h
theorem F_law_mixed_eq (ns : List Int) (k : Nat) (m : Int) (h : 0 < m) : F_law_mixed [lck ns, .int (k : Int), .int m] = .ret (.int (mixed ns k m)) [] := by
  unfold F_law_mixed b_law_mixed
  rw [runF_eq]
  have hd := drawn_bds ns k
  have e1 : dMul (.int (cellAt ns k + 7919 * k + 1)) (.int 48271) = some (.int ((cellAt ns k + 7919 * k + 1) * 48271)) := dMul_i _ _ (.inr (by decide))
  have e2 : dMul (.int 7919) (.int (k : Int)) = some (.int (7919 * k)) := dMul_i _ _ (.inl (by decide))
  have e3 : dMul (.int (drawn ns k)) (.int (drawn ns k)) = some (.int (drawn ns k * drawn ns k)) := dMul_i _ _ (.inl (small_of_lt (by omega) (by omega)))
  have e4 : dMul (.int 7) (.int (drawn ns k)) = some (.int (7 * drawn ns k)) := dMul_i _ _ (.inl (by decide))
  have e5 : dMod (.int ((cellAt ns k + 7919 * k + 1) * 48271)) (.int 2147483647) = some (.int (drawn ns k)) := dMod_i _ _ (by decide)
  simp [F_law_cell_at_eq, e1, e2, e5, e3, e4, dMod_i _ _ (show (2147483629 : Int) ≠ 0 by decide), dMod_i _ _ (show m ≠ 0 by omega)]
  rfl
end Mi

namespace Mi
open PySem
theorem F_law_box_1_eq (w : List Int) (hw : w.length ≤ 1000) : F_law_box_1 [iT w] = .ret (bT (insW [] w)) [] := by
  unfold F_law_box_1 b_law_box_1
  rw [runF_eq]
  obtain ⟨v', h⟩ := forL_fold (S := List (List Int)) (x := 2) (b := exprI F_law_put (acons (var 1) (acons (var 2) anil)) [some 1, none]) (R := fun s v => [some (iT w), some (bL s), v, none]) (fun s v d => rfl)
    (st := fun s d => match d with | .int z => insT s z | _ => s)
    (fun s ds => ∃ u : List Int, ds = u.map .int ∧ s.length + u.length ≤ 1000 ∧ ∀ l ∈ s, l.length + u.length ≤ 1000) (fun s d ds ⟨u, e, q1, q2⟩ => by
      cases u with
      | nil => cases e
      | cons z u =>
        rw [List.map_cons] at e
        injection e with e1 e2
        subst e1 e2
        simp only [List.length_cons] at q1 q2
        refine ⟨?_, u, rfl, ?_, ?_⟩
        · rw [exprI_val (ds := [bL s, .int z]) (d := _) (outs := _) (by simp) (F_law_put_eq s z (by simp [LIM]; omega) (fun l hl => by have := q2 l hl; simp [LIM]; omega))]
          rfl
        · have := insT_len s z
          show (insT s z).length + u.length ≤ 1000
          omega
        · intro l hl
          have := insT_row s z (1000 - (u.length + 1)) (fun l hl => by have := q2 l hl; omega) l hl
          omega) (w.map .int) [] none ⟨w, rfl, by simpa using hw, by simp⟩
  rw [List.foldl_map] at h
  have h0 : ∀ l ∈ insW [] w, l.length ≤ 1000 := fun l hl => by have := (insW_small w [] 0 (by simp) (by simp)).2 l hl; omega
  have h1 : (insW [] w).length ≤ 1000 := by have := (insW_small w [] 0 (by simp) (by simp)).1; omega
  show (seq (asg 1 (llst anil)) _ [some (iT w), none, none, none]).fin = _
  rw [seq_at, show asg 1 (llst anil) [some (iT w), none, none, none] = .nx [some (iT w), some (bL []), none, none] by simp, next_nx, seq_at, forS_val (ds := w.map .int) (by simp), h, next_nx, retS_at, un_at, lc_map (ds := (insW [] w).map iL) (f := fun d => match d with | .list l => .tuple l | d => d) (by simp [insW]) (by simp [LIM]; omega) (fun d hd => by
    obtain ⟨l, _, rfl⟩ := List.mem_map.mp hd
    simp)]
  simp [Function.comp_def]
/-! by which letter each place came -/
def addT (Q : List (List Int)) (r : Nat) (t : Int) : List (List Int) := if r = Q.length then Q ++ [[t]] else Q.set r (Q.getD r [] ++ [t])
theorem filter_pos {T : List (List Int)} (h : ∀ l ∈ T, 0 < l.length) : T.filter (fun l => decide (0 < l.length)) = T := List.filter_eq_self.mpr fun l hl => decide_eq_true (h l hl)
end Mi

namespace Mi
/-! ### tableaux: rows that do not fall, columns that rise -/
def Row (l : List Int) : Prop := l.Pairwise (· ≤ ·)
/-- the row m may stand below l -/
def dom (l m : List Int) : Prop := m.length ≤ l.length ∧ ∀ j, j < m.length → l.getD j 0 < m.getD j 0
def domH (l : List Int) : List (List Int) → Prop
  | [] => True
  | m :: _ => dom l m
def Tab : List (List Int) → Prop
  | [] => True
  | l :: T => l ≠ [] ∧ Row l ∧ domH l T ∧ Tab T
theorem row_le {l : List Int} (h : Row l) {i j : Nat} (hij : i ≤ j) (hj : j < l.length) : l.getD i 0 ≤ l.getD j 0 := by
  rw [List.getD_eq_getElem?_getD, List.getElem?_eq_getElem (by omega), List.getD_eq_getElem?_getD, List.getElem?_eq_getElem hj]
  by_cases e : i = j
  · subst e; exact Int.le_refl _
  · exact List.pairwise_iff_getElem.mp h i j (by omega) hj (by omega)
theorem row_iff {l : List Int} : Row l ↔ ∀ k, k + 1 < l.length → l.getD k 0 ≤ l.getD (k + 1) 0 := by
  constructor
  · intro h k hk
    exact row_le h (Nat.le_succ _) hk
  · intro h
    unfold Row
    rw [List.pairwise_iff_getElem]
    intro i j hi hj hij
    have : ∀ d, i + d < l.length → l.getD i 0 ≤ l.getD (i + d) 0 := fun d => by
      induction d with
      | zero => intro _; exact Int.le_refl _
      | succ d ih => intro q; exact Int.le_trans (ih (by omega)) (h (i + d) q)
    have := this (j - i) (by omega)
    rw [show i + (j - i) = j by omega] at this
    rw [List.getD_eq_getElem?_getD, List.getElem?_eq_getElem hi, List.getD_eq_getElem?_getD, List.getElem?_eq_getElem hj] at this
    exact this
theorem getD_set (l : List Int) (i j : Nat) (z : Int) (hi : i < l.length) : (l.set i z).getD j 0 = if j = i then z else l.getD j 0 := by
  rw [List.getD_eq_getElem?_getD, List.getD_eq_getElem?_getD, List.getElem?_set]
  by_cases h : i = j
  · subst h; simp [hi]
  · rw [if_neg h, if_neg (fun q => h q.symm)]
theorem getD_app (l : List Int) (j : Nat) (z : Int) : (l ++ [z]).getD j 0 = if j = l.length then z else l.getD j 0 := by
  rw [List.getD_eq_getElem?_getD, List.getD_eq_getElem?_getD]
  by_cases h : j = l.length
  · subst h; simp
  · rw [if_neg h]
    by_cases h2 : j < l.length
    · rw [List.getElem?_append_left h2]
    · rw [List.getElem?_eq_none (by simp; omega), List.getElem?_eq_none (by omega)]
/-- what the first greater's place tells -/
theorem fg_lt {l : List Int} {z : Int} (h : fg l z < l.length) : z < l.getD (fg l z) 0 := by
  have : decide (z < l[l.findIdx fun y => decide (z < y)]'h) = true := List.findIdx_getElem (w := h)
  unfold fg
  unfold fg at h
  rw [List.getD_eq_getElem?_getD, List.getElem?_eq_getElem h]
  exact of_decide_eq_true this
theorem fg_before {l : List Int} {z : Int} {j : Nat} (hj : j < fg l z) : l.getD j 0 ≤ z := by
  have hj2 : j < l.length := Nat.lt_of_lt_of_le hj (fg_le l z)
  have := List.not_of_lt_findIdx (p := fun y => decide (z < y)) (xs := l) (i := j) hj
  rw [List.getD_eq_getElem?_getD, List.getElem?_eq_getElem hj2]
  have : ¬ z < l[j] := by simpa using this
  exact Int.not_lt.mp this
theorem fg_min {l : List Int} {z : Int} {j : Nat} (hj : j < l.length) (h : z < l.getD j 0) : fg l z ≤ j := by
  by_cases q : fg l z ≤ j
  · exact q
  · have := fg_before (l := l) (z := z) (j := j) (by omega)
    omega
theorem row_set {l : List Int} (h : Row l) {z : Int} (hf : fg l z < l.length) : Row (l.set (fg l z) z) := by
  rw [row_iff]
  intro k hk
  rw [List.length_set] at hk
  rw [getD_set _ _ _ _ hf, getD_set _ _ _ _ hf]
  have h1 := row_iff.mp h k hk
  have h2 := fg_lt hf
  split
  · split
    · omega
    · have := row_le h (show fg l z ≤ k + 1 by omega) hk
      omega
  · split
    · exact fg_before (by omega)
    · exact h1
theorem row_app {l : List Int} (h : Row l) {z : Int} (hf : ¬ fg l z < l.length) : Row (l ++ [z]) := by
  rw [row_iff]
  intro k hk
  rw [List.length_append, List.length_singleton] at hk
  rw [getD_app, getD_app]
  split
  · omega
  · split
    · have := fg_le l z
      exact fg_before (by omega)
    · exact row_iff.mp h k (by omega)
/-- a letter put into a tableau: a tableau; and its first row stands below the row out of which the letter came -/
theorem tab_ins : ∀ (T : List (List Int)) (z : Int), Tab T → Tab (insT T z) ∧
    ∀ (l : List Int) (y : Int), Row l → domH l T → fg l y < l.length → l.getD (fg l y) 0 = z → domH (l.set (fg l y) y) (insT T z)
  | [], z, _ => by
    refine ⟨⟨by simp, by simp [Row], trivial, trivial⟩, fun l y hl _ hf hz => ?_⟩
    refine ⟨by simp; omega, fun j hj => ?_⟩
    have h0 : j = 0 := by simpa using hj
    subst h0
    have h1 := fg_lt hf
    rw [getD_set _ _ _ _ hf]
    show _ < z
    split
    · omega
    · have := fg_before (l := l) (z := y) (j := 0) (by omega)
      omega
  | m :: T, z, ⟨t1, t2, t3, t4⟩ => by
    obtain ⟨ih1, ih2⟩ := tab_ins T (m.getD (fg m z) 0) t4
    unfold insT
    by_cases hm : fg m z < m.length
    · rw [if_pos hm]
      refine ⟨⟨by intro q; rw [← List.length_eq_zero_iff, List.length_set] at q; omega, row_set t2 hm, ih2 m z t2 t3 hm rfl, ih1⟩, fun l y hl hd hf hz => ?_⟩
      obtain ⟨d1, d2⟩ : dom l m := hd
      refine ⟨by rw [List.length_set, List.length_set]; exact d1, fun j hj => ?_⟩
      rw [List.length_set] at hj
      rw [getD_set _ _ _ _ hf, getD_set _ _ _ _ hm]
      have h1 := fg_lt hf
      have h2 := d2 j hj
      have h3 : fg m z ≤ fg l y := by
        by_cases q : fg l y < m.length
        · exact fg_min q (by have := d2 (fg l y) q; omega)
        · omega
      split
      · rename_i e
        split
        · omega
        · have : l.getD (fg l y) 0 < m.getD (fg l y) 0 := by rw [← e]; exact h2
          rw [e]
          omega
      · split
        · rename_i e1 e2
          have := fg_before (l := l) (z := y) (j := j) (by omega)
          omega
        · exact h2
    · rw [if_neg hm]
      refine ⟨⟨by simp, row_app t2 hm, ?_, t4⟩, fun l y hl hd hf hz => ?_⟩
      · cases T with
        | nil => trivial
        | cons n T =>
          obtain ⟨d1, d2⟩ : dom m n := t3
          refine ⟨by simp; omega, fun j hj => ?_⟩
          rw [getD_app, if_neg (by omega)]
          exact d2 j hj
      · obtain ⟨d1, d2⟩ : dom l m := hd
        have hm' : fg m z = m.length := by have := fg_le m z; omega
        have h3 : m.length ≤ fg l y := by
          by_cases q : fg l y < m.length
          · have := fg_min (l := m) (z := z) q (by have := d2 (fg l y) q; omega)
            omega
          · omega
        refine ⟨by rw [List.length_append, List.length_set, List.length_singleton]; omega, fun j hj => ?_⟩
        rw [List.length_append, List.length_singleton] at hj
        rw [getD_set _ _ _ _ hf, getD_app]
        have h1 := fg_lt hf
        split
        · rw [if_pos (by omega)]
          omega
        · split
          · have := fg_before (l := l) (z := y) (j := j) (by omega)
            omega
          · exact d2 j (by omega)
theorem tab_insW (w : List Int) : ∀ T, Tab T → Tab (insW T w) := by
  induction w with
  | nil => exact fun T h => h
  | cons z w ih => exact fun T h => ih _ (tab_ins T z h).1
/-- the letters stay -/
theorem insT_perm (T : List (List Int)) (z : Int) : (insT T z).flatten.Perm (z :: T.flatten) := by
  induction T generalizing z with
  | nil => simp [insT]
  | cons l T ih =>
    unfold insT
    by_cases h : fg l z < l.length
    · rw [if_pos h, List.flatten_cons, List.flatten_cons]
      refine (List.Perm.append_left _ (ih _)).trans ?_
      have e : l.Perm (l.getD (fg l z) 0 :: (l.take (fg l z) ++ l.drop (fg l z + 1))) := by
        rw [List.getD_eq_getElem?_getD, List.getElem?_eq_getElem h]
        have : l = l.take (fg l z) ++ l[fg l z] :: l.drop (fg l z + 1) := by rw [← List.drop_eq_getElem_cons h, List.take_append_drop]
        refine (List.Perm.of_eq this).trans ?_
        exact List.perm_middle
      have e2 : (l.set (fg l z) z).Perm (z :: (l.take (fg l z) ++ l.drop (fg l z + 1))) := by
        rw [List.set_eq_take_append_cons_drop, if_pos h]
        exact List.perm_middle
      refine (e2.append_right _).trans ?_
      refine List.Perm.trans ?_ (List.Perm.cons z (e.append_right _).symm)
      rw [List.cons_append, List.cons_append]
      refine List.Perm.cons z ?_
      exact List.perm_middle
    · rw [if_neg h, List.flatten_cons, List.flatten_cons, List.append_assoc]
      exact List.perm_middle
theorem insW_perm (w : List Int) : ∀ T, (insW T w).flatten.Perm (w ++ T.flatten) := by
  induction w with
  | nil => exact fun T => List.Perm.refl _
  | cons z w ih =>
    intro T
    refine (ih (insT T z)).trans ?_
    refine (List.Perm.append_left _ (insT_perm T z)).trans ?_
    exact List.perm_middle
end Mi

namespace Mi
open PySem
theorem dRng2_nat {a b : Nat} (ha : a ≤ 100000) (hb : b ≤ 100000) : dRng2 [.int (a : Int), .int (b : Int)] = some (ids (a : Int) (b - a)) := by
  show (if okR (a : Int) && okR (b : Int) then some (ids (a : Int) ((b : Int) - (a : Int)).toNat) else none) = _
  rw [if_pos (by rw [okR_nat ha, okR_nat hb]; rfl)]
  congr 2
  omega
/-! ### shapes -/
def shGo : List D → Int → Bool
  | [], _ => true
  | .int z :: l, last => decide (1 ≤ z) && decide (z ≤ last) && shGo l z
  | _ :: _, _ => false
def isShape (d : D) : Bool := match d with
  | .tuple l => shGo l 16 && (match dInts l with | some ns => decide (ns.sum ≤ 16) | none => false)
  | _ => false
theorem shGo_ints : ∀ (l : List D) (last : Int), shGo l last = true → ∃ ns : List Int, l = ns.map .int
  | [], _, _ => ⟨[], rfl⟩
  | d :: l, last, h => by
    cases d with
    | int z =>
      rw [shGo, Bool.and_eq_true] at h
      obtain ⟨ns, rfl⟩ := shGo_ints l z h.2
      exact ⟨z :: ns, rfl⟩
    | _ => rw [shGo] at h <;> first | cases h | (intro z q; cases q)
theorem shape_loop : ∀ (l : List D) (t : D) (last : Int) (v : Option D),
    (shGo l last = true ∧ ∃ last' v', forL 2 (seq (ifS (un dNo (callF F_between (acons (var 2) (acons (cst (.int 1)) (acons (var 1) anil))))) (retS (cst (.bool false))) skip) (asg 1 (var 2))) l [some t, some (.int last), v] = .nx [some t, some (.int last'), v']) ∨
    (shGo l last = false ∧ ∃ r', forL 2 (seq (ifS (un dNo (callF F_between (acons (var 2) (acons (cst (.int 1)) (acons (var 1) anil))))) (retS (cst (.bool false))) skip) (asg 1 (var 2))) l [some t, some (.int last), v] = .ret (.bool false) r')
  | [], t, last, v => .inl ⟨rfl, last, v, rfl⟩
  | d :: l, t, last, v => by
    rw [forL_cons]
    have e : (seq (ifS (un dNo (callF F_between (acons (var 2) (acons (cst (.int 1)) (acons (var 1) anil))))) (retS (cst (.bool false))) skip) (asg 1 (var 2))) ([some t, some (.int last), v].set 2 (some d)) = if btw d 1 last = true then .nx [some t, some d, some d] else .ret (.bool false) [some t, some (.int last), some d] := by
      simp [F_between_eq]
      cases btw d 1 last <;> simp
    rw [e]
    by_cases h : btw d 1 last = true
    · rw [if_pos h, next_nx]
      cases d with
      | int z =>
        rw [shGo]
        have : (decide (1 ≤ z) && decide (z ≤ last)) = true := h
        rw [this, Bool.true_and]
        exact shape_loop l t z (some (.int z))
      | _ => cases h
    · rw [if_neg h, next_ret]
      refine .inr ⟨?_, _, rfl⟩
      cases d with
      | int z =>
        rw [shGo]
        have : (decide (1 ≤ z) && decide (z ≤ last)) = false := Bool.eq_false_iff.mpr h
        rw [this, Bool.false_and]
      | _ => rw [shGo]; intro z q; cases q
theorem F_is_shape_eq (d : D) : F_is_shape [d] = .ret (.bool (isShape d)) [] := by
  unfold F_is_shape b_is_shape
  rw [runF_eq]
  cases d with
  | tuple l =>
    simp
    rw [forS_val (ds := l) (by simp)]
    rcases shape_loop l (.tuple l) 16 none with ⟨h1, last', v', h2⟩ | ⟨h1, r', h2⟩
    · rw [h2, next_nx]
      obtain ⟨ns, rfl⟩ := shGo_ints l 16 h1
      simp [isShape, h1, dSum, itemsOf, dInts_map]
    · rw [h2]
      simp [isShape, h1]
  | _ => simp [isShape, isT]
/-! ### boxes -/
theorem F_shape_of_eq (T : List (List Int)) (h : T.length ≤ 1000) : F_shape_of [bT T] = .ret (iT (T.map fun l => (l.length : Int))) [] := by
  unfold F_shape_of b_shape_of
  rw [runF_eq]
  simp
  rw [lc_map (ds := T.map iT) (f := fun d => match d with | .tuple l => .int l.length | _ => .none) (by simp) (by simp [LIM]; omega) (fun d hd => by
    obtain ⟨l, _, rfl⟩ := List.mem_map.mp hd
    simp)]
  simp [Function.comp_def]
/-- numbers that do not rise, from 1 on -/
def shDown : List Int → Int → Bool
  | [], _ => true
  | z :: l, last => decide (1 ≤ z) && decide (z ≤ last) && shDown l z
theorem shGo_iT : ∀ (l : List Int) (last : Int), shGo (l.map .int) last = shDown l last
  | [], _ => rfl
  | z :: l, last => by
    rw [List.map_cons, shGo, shDown, shGo_iT l z]
theorem isShape_iT (l : List Int) : isShape (iT l) = (shDown l 16 && decide (l.sum ≤ 16)) := by
  show (shGo (l.map .int) 16 && _) = _
  rw [shGo_iT, dInts_map]
def lens (T : List (List Int)) : List Int := T.map fun l => (l.length : Int)
end Mi

namespace Mi
open PySem
/-! ### boxes are tableaux of at most 16 letters 1 to 30 -/
structure Box (T : List (List Int)) : Prop where
  tab : Tab T
  lets : ∀ l ∈ T, ∀ z ∈ l, 1 ≤ z ∧ z ≤ 30
  size : T.flatten.length ≤ 16
theorem sum_lens (T : List (List Int)) : (lens T).sum = (T.flatten.length : Int) := by
  induction T with
  | nil => rfl
  | cons l T ih =>
    have : (lens (l :: T)).sum = (l.length : Int) + (lens T).sum := by simp [lens]
    rw [this, ih, List.flatten_cons, List.length_append]
    omega
theorem dom_iff {T : List (List Int)} (l : List Int) : domH l T ↔ (∀ m, T.head? = some m → dom l m) := by
  cases T <;> simp [domH]
theorem bits_of_tab : ∀ (T : List (List Int)) (last : Int), Tab T → (∀ l, T.head? = some l → (l.length : Int) ≤ last) → shDown (lens T) last = true ∧ (∀ l ∈ T, Row l) ∧ (∀ k, k + 1 < T.length → ∀ j, j < (T.getD (k + 1) []).length → (T.getD k []).getD j 0 < (T.getD (k + 1) []).getD j 0)
  | [], _, _, _ => ⟨rfl, fun _ h => (nomatch h), fun k h => by simp at h⟩
  | l :: T, last, ⟨t1, t2, t3, t4⟩, hl => by
    have hd : ∀ m, T.head? = some m → dom l m := (dom_iff l).mp t3
    obtain ⟨i1, i2, i3⟩ := bits_of_tab T (l.length : Int) t4 (fun m hm => by have := (hd m hm).1; omega)
    have p1 : 1 ≤ (l.length : Int) := by
      have := List.length_pos_iff.mpr t1
      omega
    refine ⟨?_, fun m hm => ?_, fun k hk j hj => ?_⟩
    · show shDown ((l.length : Int) :: lens T) last = true
      rw [shDown, i1, decide_eq_true p1, decide_eq_true (hl l rfl)]
      rfl
    · rcases List.mem_cons.mp hm with rfl | hm
      · exact t2
      · exact i2 m hm
    · cases k with
      | zero =>
        cases T with
        | nil => simp at hk
        | cons m T =>
          have := (hd m rfl).2 j (by simpa using hj)
          simpa using this
      | succ k =>
        have := i3 k (by simpa using hk) j (by simpa using hj)
        simpa using this
theorem head_len : ∀ (T : List (List Int)) (l : List Int), T.head? = some l → l.length ≤ T.flatten.length
  | m :: T, l, h => by
    cases h
    rw [List.flatten_cons, List.length_append]
    omega
theorem row_len {T : List (List Int)} {l : List Int} (h : l ∈ T) : l.length ≤ T.flatten.length := by
  induction T with
  | nil => cases h
  | cons m T ih =>
    rw [List.flatten_cons, List.length_append]
    rcases List.mem_cons.mp h with rfl | h
    · omega
    · have := ih h
      omega
theorem tab_ne : ∀ {T : List (List Int)}, Tab T → ∀ l ∈ T, 0 < l.length
  | m :: T, ⟨t1, _, _, t4⟩, l, h => by
    rcases List.mem_cons.mp h with rfl | h
    · exact List.length_pos_iff.mpr t1
    · exact tab_ne t4 l h
theorem flat_len : ∀ (T : List (List Int)), (∀ l ∈ T, 0 < l.length) → T.length ≤ T.flatten.length
  | [], _ => by simp
  | m :: T, h => by
    rw [List.flatten_cons, List.length_append, List.length_cons]
    have := flat_len T (fun l hl => h l (List.mem_cons_of_mem _ hl))
    have := h m List.mem_cons_self
    omega
theorem Box.len {T : List (List Int)} (b : Box T) : T.length ≤ 16 ∧ ∀ l ∈ T, l.length ≤ 16 := by
  have := flat_len T (tab_ne b.tab)
  exact ⟨by have := b.size; omega, fun l hl => by have := row_len hl; have := b.size; omega⟩
theorem insW_size (w : List Int) : (insW [] w).flatten.length = w.length := by
  have := (insW_perm w []).length_eq
  simpa using this
end Mi

namespace Mi
open PySem
/-! ### shapes turned -/
theorem shDown_tail {z : Int} {l : List Int} {m : Int} (h : shDown (z :: l) m = true) : 1 ≤ z ∧ z ≤ m ∧ shDown l z = true := by
  rw [shDown, Bool.and_eq_true, Bool.and_eq_true, decide_eq_true_eq, decide_eq_true_eq] at h
  exact ⟨h.1.1, h.1.2, h.2⟩
theorem shDown_cons {z : Int} {l : List Int} {m : Int} (h1 : 1 ≤ z) (h2 : z ≤ m) (h3 : shDown l z = true) : shDown (z :: l) m = true := by
  rw [shDown, h3, decide_eq_true h1, decide_eq_true h2]
  rfl
end Mi

namespace Mi
/-! ### a letter taken out -/
/-- the last place that is less (-1: none) -/
def ll (l : List Int) (z : Int) : Int := (List.range l.length).foldl (fun f k => if l.getD k 0 < z then (k : Int) else f) (-1)
/-- from the row ahead of i upward -/
def up (T : List (List Int)) (y : Int) : Nat → List (List Int) × Int
  | 0 => (T, y)
  | i + 1 => up (T.set i ((T.getD i []).set (ll (T.getD i []) y).toNat y)) ((T.getD i []).getD (ll (T.getD i []) y).toNat 0) i
def outT (T : List (List Int)) (r : Nat) : List (List Int) × Int := up (T.set r (T.getD r []).dropLast) ((T.getD r []).getLastD 0) r
/-- the rows that hold something -/
def full (T : List (List Int)) : List (List Int) := T.filter fun l => decide (0 < l.length)
theorem full_self {T : List (List Int)} (h : ∀ l ∈ T, 0 < l.length) : full T = T := filter_pos h
end Mi

namespace Mi
open PySem
end Mi

namespace Mi
open PySem
/-! the law's own tests -/
theorem F_law_lengths_eq (T : List (List Int)) (h : T.length ≤ 1000) : F_law_lengths [bT T] = .ret (iT (lens T)) [] := by
  have := F_shape_of_eq T h
  exact this
end Mi

namespace Mi
open PySem
end Mi

namespace Mi
/-! ### words and pairs of boxes: there and back -/
/-- a place may be added in row r -/
def AddOk (Q : List (List Int)) (r : Nat) : Prop := r = Q.length ∨ (r < Q.length ∧ (r = 0 ∨ (Q.getD r []).length < (Q.getD (r - 1) []).length))
/-- full boxes, by the order of their numbers -/
inductive Std : List (List Int) → Nat → Prop
  | nil : Std [] 0
  | add {Q : List (List Int)} {n r : Nat} : Std Q n → AddOk Q r → Std (addT Q r ((n : Int) + 1)) (n + 1)
theorem addT_old {Q : List (List Int)} {r : Nat} {t : Int} (h : r < Q.length) : addT Q r t = Q.set r (Q.getD r [] ++ [t]) := by
  unfold addT
  rw [if_neg (by omega)]
theorem addT_new (Q : List (List Int)) (t : Int) : addT Q Q.length t = Q ++ [[t]] := by
  unfold addT
  rw [if_pos rfl]
theorem getD_setL (Q : List (List Int)) (i j : Nat) (l : List Int) (hi : i < Q.length) : (Q.set i l).getD j [] = if j = i then l else Q.getD j [] := by
  rw [List.getD_eq_getElem?_getD, List.getD_eq_getElem?_getD, List.getElem?_set]
  by_cases h : i = j
  · subst h; simp [hi]
  · rw [if_neg h, if_neg (fun q => h q.symm)]
theorem getD_snocL (Q : List (List Int)) (j : Nat) (l : List Int) : (Q ++ [l]).getD j [] = if j = Q.length then l else Q.getD j [] := by
  rw [List.getD_eq_getElem?_getD, List.getD_eq_getElem?_getD]
  by_cases h : j = Q.length
  · subst h; simp
  · rw [if_neg h]
    by_cases h2 : j < Q.length
    · rw [List.getElem?_append_left h2]
    · rw [List.getElem?_eq_none (by simp; omega), List.getElem?_eq_none (by omega)]
/-- the row that got t -/
theorem addT_row {Q : List (List Int)} {r : Nat} {t : Int} (h : r ≤ Q.length) : (addT Q r t).getD r [] = Q.getD r [] ++ [t] ∧ (∀ j, j ≠ r → (addT Q r t).getD j [] = Q.getD j []) ∧ r < (addT Q r t).length := by
  by_cases c : r < Q.length
  · rw [addT_old c]
    refine ⟨by rw [getD_setL _ _ _ _ c, if_pos rfl], fun j hj => by rw [getD_setL _ _ _ _ c, if_neg hj], by rw [List.length_set]; exact c⟩
  · have : r = Q.length := by omega
    subst this
    rw [addT_new]
    refine ⟨?_, fun j hj => by rw [getD_snocL, if_neg hj], by simp⟩
    rw [getD_snocL, if_pos rfl, List.getD_eq_getElem?_getD, List.getElem?_eq_none (Nat.le_refl _)]
    rfl
theorem AddOk.le {Q : List (List Int)} {r : Nat} (h : AddOk Q r) : r ≤ Q.length := by
  rcases h with h | h
  · omega
  · omega
theorem Std.pos {Q : List (List Int)} {n : Nat} (h : Std Q n) : ∀ l ∈ Q, 0 < l.length := by
  induction h with
  | nil => intro l hl; cases hl
  | @add Q n r _ ok ih =>
    intro l hl
    by_cases c : r < Q.length
    · rw [addT_old c] at hl
      rcases List.mem_or_eq_of_mem_set hl with hl | rfl
      · exact ih l hl
      · simp
    · have : r = Q.length := by have := ok.le; omega
      subst this
      rw [addT_new] at hl
      rcases List.mem_append.mp hl with hl | hl
      · exact ih l hl
      · rw [List.mem_singleton] at hl
        subst hl
        simp
end Mi

namespace Mi
/-! the row that ends with a number -/
theorem Std.le {Q : List (List Int)} {n : Nat} (h : Std Q n) : ∀ l ∈ Q, ∀ z ∈ l, 1 ≤ z ∧ z ≤ n := by
  induction h with
  | nil => intro l hl; cases hl
  | @add Q n r _ ok ih =>
    intro l hl z hz
    by_cases c : r < Q.length
    · rw [addT_old c] at hl
      rcases List.mem_or_eq_of_mem_set hl with hl | rfl
      · have := ih l hl z hz
        omega
      · rcases List.mem_append.mp hz with hz | hz
        · have hm : Q.getD r [] ∈ Q := by
            rw [List.getD_eq_getElem?_getD, List.getElem?_eq_getElem c]
            exact List.getElem_mem c
          have := ih _ hm z hz
          omega
        · rw [List.mem_singleton] at hz
          omega
    · have : r = Q.length := by have := ok.le; omega
      subst this
      rw [addT_new] at hl
      rcases List.mem_append.mp hl with hl | hl
      · have := ih l hl z hz
        omega
      · rw [List.mem_singleton] at hl
        subst hl
        rw [List.mem_singleton] at hz
        omega
/-- which row ends with t (the last such) -/
def rowLast (Q : List (List Int)) (t : Int) : Int := (List.range Q.length).foldl (fun f k => if (Q.getD k []).getLast? = some t then (k : Int) else f) (-1)
/-! the letters told back -/
/-- the letters from the last one on -/
def unw : Nat → List (List Int) → List (List Int) → List Int
  | 0, _, _ => []
  | n + 1, P, Q => (outT P (rowLast Q ((n : Int) + 1)).toNat).2 :: unw n (outT P (rowLast Q ((n : Int) + 1)).toNat).1 (Q.set (rowLast Q ((n : Int) + 1)).toNat (Q.getD (rowLast Q ((n : Int) + 1)).toNat []).dropLast)
/-- rows behind which empty ones stand -/
def Pad (R P : List (List Int)) : Prop := ∃ e, R = P ++ List.replicate e []
theorem full_app (A B : List (List Int)) : full (A ++ B) = full A ++ full B := by
  unfold full
  rw [List.filter_append]
theorem full_empty (e : Nat) : full (List.replicate e []) = [] := by
  unfold full
  rw [List.filter_eq_nil_iff]
  intro l hl
  rw [List.eq_of_mem_replicate hl]
  decide
theorem Std.down {Q : List (List Int)} {n : Nat} (h : Std Q n) : ∀ k, k + 1 < Q.length → (Q.getD (k + 1) []).length ≤ (Q.getD k []).length := by
  induction h with
  | nil => intro k hk; simp at hk
  | @add Q n r hs ok ih =>
    intro k hk
    obtain ⟨a1, a2, a3⟩ := addT_row (Q := Q) (r := r) (t := (n : Int) + 1) ok.le
    have len : (addT Q r ((n : Int) + 1)).length = if r = Q.length then Q.length + 1 else Q.length := by
      unfold addT
      split <;> simp
    rw [len] at hk
    by_cases c1 : k + 1 = r
    · rw [c1, a1, a2 k (by omega), List.length_append, List.length_singleton]
      rcases ok with ok | ⟨o1, o2⟩
      · subst ok
        have e : Q.getD Q.length [] = [] := by rw [List.getD_eq_getElem?_getD, List.getElem?_eq_none (Nat.le_refl _)]; rfl
        rw [e]
        have : 0 < (Q.getD k []).length := by
          rw [List.getD_eq_getElem?_getD, List.getElem?_eq_getElem (show k < Q.length by omega)]
          exact hs.pos _ (List.getElem_mem _)
        have q : ([] : List Int).length + 1 = 1 := rfl
        rw [q]; omega
      · rcases o2 with o2 | o2
        · omega
        · rw [show r - 1 = k by omega] at o2
          omega
    · rw [a2 (k + 1) c1]
      by_cases c2 : k = r
      · subst c2
        rw [a1, List.length_append]
        by_cases c3 : k + 1 < Q.length
        · have := ih k c3
          omega
        · rw [List.getD_eq_getElem?_getD, List.getElem?_eq_none (by omega)]
          simp
      · rw [a2 k c2]
        by_cases c3 : k + 1 < Q.length
        · exact ih k c3
        · rw [List.getD_eq_getElem?_getD, List.getElem?_eq_none (by omega)]
          simp
end Mi

namespace Mi
/-! ### full boxes are boxes -/
theorem addT_cons (l : List Int) (Q : List (List Int)) (r : Nat) (t : Int) : addT (l :: Q) (r + 1) t = l :: addT Q r t := by
  unfold addT
  simp only [List.length_cons, Nat.add_right_cancel_iff]
  split <;> simp
theorem tab_addT : ∀ (Q : List (List Int)) (r : Nat) (t : Int), Tab Q → AddOk Q r → (∀ l ∈ Q, ∀ z ∈ l, z < t) → Tab (addT Q r t) ∧ ∀ l, domH l Q → (0 < r ∨ (Q.getD 0 []).length < l.length) → (∀ z ∈ l, z < t) → domH l (addT Q r t)
  | [], r, t, _, ok, _ => by
    have h0 : r = 0 := by have := ok.le; simpa using this
    subst h0
    refine ⟨⟨by simp, by simp [Row], trivial, trivial⟩, fun l _ hl hz => ⟨?_, fun j hj => ?_⟩⟩
    · show 1 ≤ l.length
      rcases hl with hl | hl
      · omega
      · have hl' : 0 < l.length := by simpa using hl
        omega
    · have : j = 0 := by simpa using hj
      subst this
      have hl' : 0 < l.length := by
        rcases hl with hl | hl
        · omega
        · simpa using hl
      refine hz _ ?_
      rw [List.getD_eq_getElem?_getD, List.getElem?_eq_getElem hl']
      exact List.getElem_mem hl'
  | m :: Q, 0, t, ⟨t1, t2, t3, t4⟩, ok, h => by
    have e : addT (m :: Q) 0 t = (m ++ [t]) :: Q := by
      unfold addT
      rw [if_neg (by simp)]
      rfl
    rw [e]
    have hm := h m List.mem_cons_self
    refine ⟨⟨by simp, ?_, ?_, t4⟩, fun l d hl hz => ?_⟩
    · refine List.pairwise_append.mpr ⟨t2, by simp, fun a ha b hb => ?_⟩
      rw [List.mem_singleton] at hb
      have := hm a ha
      omega
    · cases Q with
      | nil => trivial
      | cons n Q =>
        obtain ⟨d1, d2⟩ : dom m n := t3
        refine ⟨by rw [List.length_append]; omega, fun j hj => ?_⟩
        rw [getD_app, if_neg (by omega)]
        exact d2 j hj
    · obtain ⟨d1, d2⟩ : dom l m := d
      have hl' : m.length < l.length := by
        rcases hl with hl | hl
        · omega
        · simpa using hl
      refine ⟨by rw [List.length_append, List.length_singleton]; omega, fun j hj => ?_⟩
      rw [getD_app]
      split
      · refine hz _ ?_
        rw [List.getD_eq_getElem?_getD, List.getElem?_eq_getElem (by omega)]
        exact List.getElem_mem _
      · rw [List.length_append, List.length_singleton] at hj
        exact d2 j (by omega)
  | m :: Q, r + 1, t, ⟨t1, t2, t3, t4⟩, ok, h => by
    have ok' : AddOk Q r := by
      rcases ok with ok | ⟨o1, o2⟩
      · exact .inl (by simpa using ok)
      · refine .inr ⟨by simpa using o1, ?_⟩
        rcases o2 with o2 | o2
        · omega
        · by_cases c : r = 0
          · exact .inl c
          · obtain ⟨s, rfl⟩ : ∃ s, r = s + 1 := ⟨r - 1, by omega⟩
            exact .inr (by simpa using o2)
    obtain ⟨i1, i2⟩ := tab_addT Q r t t4 ok' fun l hl => h l (List.mem_cons_of_mem _ hl)
    rw [addT_cons]
    refine ⟨⟨t1, t2, i2 m t3 ?_ (h m List.mem_cons_self), i1⟩, fun l d _ hz => d⟩
    by_cases c : r = 0
    · subst c
      refine .inr ?_
      rcases ok with ok | ⟨o1, o2⟩
      · have : Q = [] := List.length_eq_zero_iff.mp (by rw [List.length_cons] at ok; omega)
        subst this
        exact List.length_pos_iff.mpr t1
      · rcases o2 with o2 | o2
        · omega
        · simpa using o2
    · exact .inl (by omega)
theorem Std.tab {Q : List (List Int)} {n : Nat} (h : Std Q n) : Tab Q := by
  induction h with
  | nil => trivial
  | @add Q n r hs ok ih =>
    exact (tab_addT Q r _ ih ok fun l hl z hz => by have := hs.le l hl z hz; omega).1
theorem addT_perm {Q : List (List Int)} {r : Nat} (h : r ≤ Q.length) (t : Int) : (addT Q r t).flatten.Perm (t :: Q.flatten) := by
  by_cases c : r < Q.length
  · rw [addT_old c]
    induction Q generalizing r with
    | nil => simp at c
    | cons l Q ih =>
      cases r with
      | zero =>
        simp only [List.set_cons_zero, List.getD_cons_zero, List.flatten_cons, List.append_assoc]
        exact List.perm_middle
      | succ r =>
        simp only [List.set_cons_succ, List.getD_cons_succ, List.flatten_cons]
        refine (List.Perm.append_left _ (ih (by simpa using h) (by simpa using c))).trans List.perm_middle
  · have : r = Q.length := by omega
    subst this
    rw [addT_new, List.flatten_append]
    simp
theorem Std.perm {Q : List (List Int)} {n : Nat} (h : Std Q n) : Q.flatten.Perm ((List.range n).map fun k : Nat => (k : Int) + 1) := by
  induction h with
  | nil => exact List.Perm.refl _
  | @add Q n r hs ok ih =>
    refine (addT_perm ok.le _).trans ?_
    rw [List.range_succ, List.map_append]
    exact (List.Perm.cons _ ih).trans (List.perm_append_comm (l₁ := [(n : Int) + 1]))
theorem Std.size {Q : List (List Int)} {n : Nat} (h : Std Q n) : Q.flatten.length = n := by
  have := h.perm.length_eq
  simpa using this
end Mi

namespace Mi
open PySem
/-! the law's shapes -/
theorem shDown_snoc : ∀ {l : List Int} {m z y : Int}, shDown (l ++ [z]) m = true → 1 ≤ y → y ≤ z → shDown (l ++ [z] ++ [y]) m = true
  | [], m, z, y, h, h1, h2 => by
    obtain ⟨q1, q2, _⟩ := shDown_tail h
    exact shDown_cons q1 q2 (shDown_cons h1 h2 rfl)
  | x :: l, m, z, y, h, h1, h2 => by
    obtain ⟨q1, q2, q3⟩ := shDown_tail h
    exact shDown_cons q1 q2 (shDown_snoc q3 h1 h2)
structure ShInv (m : Int) (s : Int × List Int × Int) (k : Nat) : Prop where
  size : 0 ≤ s.1
  last : 0 < s.1 → 1 ≤ s.2.2
  down : shDown s.2.1 m = true
  more : ∀ z, 1 ≤ z → z ≤ s.2.2 → shDown (s.2.1 ++ [z]) m = true
  sum : s.2.1.sum + s.1 ≤ m
  len : s.2.1.length ≤ k
def shStep (ns : List Int) (a : Nat) (s : Int × List Int × Int) (k : Nat) : Int × List Int × Int :=
  if 0 < s.1 then (s.1 - (1 + mixed ns (a + 1 + k) (if s.2.2 < s.1 then s.2.2 else s.1)), s.2.1 ++ [1 + mixed ns (a + 1 + k) (if s.2.2 < s.1 then s.2.2 else s.1)], 1 + mixed ns (a + 1 + k) (if s.2.2 < s.1 then s.2.2 else s.1)) else s
theorem ShInv.step {m : Int} {s : Int × List Int × Int} {k : Nat} (h : ShInv m s k) (ns : List Int) (a : Nat) : ShInv m (shStep ns a s k) (k + 1) := by
  obtain ⟨z, made, last⟩ := s
  obtain ⟨h1, h2, h3, h4, h5, h6⟩ := h
  dsimp only at h1 h2 h3 h4 h5 h6
  unfold shStep
  dsimp only
  by_cases c : 0 < z
  · rw [if_pos c]
    have hl := h2 c
    have hm : 0 < (if last < z then last else z) := by split <;> omega
    have hb := mixed_bds ns (a + 1 + k) hm
    have hle : (if last < z then last else z) ≤ last ∧ (if last < z then last else z) ≤ z := by split <;> omega
    obtain ⟨y, hy⟩ : ∃ y, y = 1 + mixed ns (a + 1 + k) (if last < z then last else z) := ⟨_, rfl⟩
    rw [← hy]
    have d1 := h4 y (by omega) (by omega)
    exact ⟨by dsimp only; omega, fun _ => by dsimp only; omega, d1, fun x hx1 hx2 => shDown_snoc d1 hx1 hx2, by dsimp only; rw [List.sum_append]; simp; omega, by simp; omega⟩
  · rw [if_neg c]
    exact ⟨h1, h2, h3, h4, h5, by dsimp only; omega⟩
end Mi

namespace Mi
open PySem
theorem dNe_iT (a b : List Int) : dNe (iT a) (iT b) = some (.bool !(decide (a = b))) := dNe_nb (nb_iT 0 a) (nb_iT 0 b) (by decide) (by decide) _ (by rw [decide_eq_true_eq]; exact iT_inj.symm)
/-! ### word_of -/
structure WInv (n : Nat) (P0 Q0 : List (List Int)) (s : List (List Int) × List (List Int) × List Int) (k : Nat) : Prop where
  mk ::
  ex : ∃ P Q, Tab P ∧ Std Q (n - k) ∧ lens P = lens Q ∧ Pad s.1 P ∧ Pad s.2.1 Q
  un : unw n P0 Q0 = s.2.2 ++ unw (n - k) s.1 s.2.1
  l1 : s.1.length ≤ 100
  l2 : s.2.1.length ≤ 100
  l3 : s.2.2.length = k
  le : k ≤ n
/-! ### full boxes -/
/-! ### a filling drawn -/
/-- rows of which some are still empty, within a shape -/
structure Fill (sh : List Int) (L : List (List Int)) (k : Nat) : Prop where
  mk ::
  ex : ∃ Q, Std Q k ∧ Pad L Q
  len : L.length = sh.length
  le : ∀ j, j < sh.length → ((L.getD j []).length : Int) ≤ sh.getD j 0
end Mi

namespace Mi
open PySem
/-! ### the hooks' number, checked over all shapes of at most 16 places -/
def cntN (l : List Nat) (j : Nat) : Nat := match l with
  | [] => 0
  | z :: l => (if Nat.blt j z then 1 else 0) + cntN l j
def hkRow (z : Nat) (rest : List Nat) : Nat → Nat
  | 0 => 1
  | j + 1 => hkRow z rest j * (z - j + cntN rest j)
def hk : List Nat → Nat
  | [] => 1
  | z :: rest => hkRow z rest z * hk rest
def sumN : List Nat → Nat
  | [] => 0
  | z :: l => z + sumN l
/-- s and all that go on from it by parts of at most last, left places in all -/
def allSh (p : List Nat → Bool) : Nat → List Nat → Nat → Nat → Bool
  | 0, _, _, _ => false
  | fuel + 1, s, last, left => p s && (List.range (min last left)).all fun z => allSh p fuel (s ++ [z + 1]) (z + 1) (left - (z + 1))
def downN : List Nat → Nat → Bool
  | [], _ => true
  | z :: l, last => decide (1 ≤ z ∧ z ≤ last) && downN l z
theorem allSh_all {p : List Nat → Bool} : ∀ (fuel : Nat) (s : List Nat) (last left : Nat), allSh p fuel s last left = true → ∀ t : List Nat, downN t last = true → sumN t ≤ left → p (s ++ t) = true
  | 0, _, _, _, h, _, _, _ => by cases h
  | fuel + 1, s, last, left, h, t, ht, hs => by
    rw [allSh, Bool.and_eq_true] at h
    cases t with
    | nil => rw [List.append_nil]; exact h.1
    | cons z t =>
      rw [downN, Bool.and_eq_true, decide_eq_true_eq] at ht
      rw [sumN] at hs
      have := List.all_eq_true.mp h.2 (z - 1) (List.mem_range.mpr (by omega))
      rw [show z - 1 + 1 = z by omega] at this
      have q := allSh_all fuel (s ++ [z]) z (left - z) this t ht.2 (by omega)
      rwa [List.append_assoc] at q
end Mi

namespace Mi
open PySem
theorem getD_le_sumN : ∀ (u : List Nat) (k : Nat), u.getD k 0 ≤ sumN u
  | [], k => by simp [-List.getD_eq_getElem?_getD, -List.length_flatten, lstK_l, optK_s, lsK_l, appF_at, appP_at, app1P_at, setP_at, set1P_at, pop1_at, pop1E_at, frK_r, gK_v, asgI_at, exprI_at, appI_at, ysOf_some, ysOf_none, ysOf_nil, setAll_cons, setAll_nil, dRevL_l, extP_at, extF_at, setN_at, setO_at, appPop_at, itemsOf_l, itemsOf_t, dIdxL_l, isT_bb, appM_at, asgM_at, dK_d, revs_at, revOf_l, revOf_t, List.getD_eq_getElem?_getD]
  | z :: u, 0 => by rw [List.getD_cons_zero, sumN]; omega
  | z :: u, k + 1 => by rw [List.getD_cons_succ, sumN]; have := getD_le_sumN u k; omega
theorem sumN_set : ∀ (u : List Nat) (r v : Nat), r < u.length → sumN (u.set r v) + u.getD r 0 = sumN u + v
  | [], _, _, h => by simp [-List.getD_eq_getElem?_getD, -List.length_flatten, lstK_l, optK_s, lsK_l, appF_at, appP_at, app1P_at, setP_at, set1P_at, pop1_at, pop1E_at, frK_r, gK_v, asgI_at, exprI_at, appI_at, ysOf_some, ysOf_none, ysOf_nil, setAll_cons, setAll_nil, dRevL_l, extP_at, extF_at, setN_at, setO_at, appPop_at, itemsOf_l, itemsOf_t, dIdxL_l, isT_bb, appM_at, asgM_at, dK_d, revs_at, revOf_l, revOf_t] at h
  | z :: u, 0, v, _ => by rw [List.set_cons_zero, List.getD_cons_zero, sumN, sumN]; omega
  | z :: u, r + 1, v, h => by
    rw [List.set_cons_succ, List.getD_cons_succ, sumN, sumN]
    have := sumN_set u r v (by simpa [-List.getD_eq_getElem?_getD, -List.length_flatten, lstK_l, optK_s, lsK_l, appF_at, appP_at, app1P_at, setP_at, set1P_at, pop1_at, pop1E_at, frK_r, gK_v, asgI_at, exprI_at, appI_at, ysOf_some, ysOf_none, ysOf_nil, setAll_cons, setAll_nil, dRevL_l, extP_at, extF_at, setN_at, setO_at, appPop_at, itemsOf_l, itemsOf_t, dIdxL_l, isT_bb, appM_at, asgM_at, dK_d, revs_at, revOf_l, revOf_t] using h)
    omega
/-! ### growing -/
def shp (T : List (List Int)) : List Nat := T.map (·.length)
theorem shp_at (T : List (List Int)) (k : Nat) : (shp T).getD k 0 = (T.getD k []).length := by
  rw [List.getD_eq_getElem?_getD, List.getD_eq_getElem?_getD, shp, List.getElem?_map]
  cases T[k]? <;> rfl
def okG (N : List Nat) (T : List (List Int)) (k : Nat) : Bool := decide ((T.getD k []).length < N.getD k 0 ∧ (k = 0 ∨ (T.getD k []).length < (T.getD (k - 1) []).length))
/-- what holds of each -/
structure GI (N : List Nat) (n : Nat) (T : List (List Int)) : Prop where
  len : T.length = N.length
  le : ∀ k, (T.getD k []).length ≤ N.getD k 0
  down : ∀ k, (T.getD (k + 1) []).length ≤ (T.getD k []).length
  sum : sumN (shp T) = n
  std : Std (full T) n
  pad : Pad T (full T)
theorem shp_set (T : List (List Int)) (k : Nat) (z : Int) : shp (T.set k (T.getD k [] ++ [z])) = (shp T).set k ((T.getD k []).length + 1) := by
  unfold shp
  rw [List.map_set, List.length_append, List.length_singleton]
theorem GI.step {N : List Nat} {n : Nat} {T : List (List Int)} (h : GI N n T) {k : Nat} (hk : k < N.length) (ok : okG N T k = true) : GI N (n + 1) (T.set k (T.getD k [] ++ [(n : Int) + 1])) := by
  obtain ⟨o1, o2⟩ := of_decide_eq_true ok
  have hkT : k < T.length := by rw [h.len]; exact hk
  have row : ∀ j, ((T.set k (T.getD k [] ++ [(n : Int) + 1])).getD j []) = if j = k then T.getD k [] ++ [(n : Int) + 1] else T.getD j [] := fun j => getD_setL _ _ _ _ hkT
  obtain ⟨e, he⟩ := h.pad
  have pos := h.std.pos
  obtain ⟨Q, hQ⟩ : ∃ Q, Q = full T := ⟨_, rfl⟩
  have hT : T = Q ++ List.replicate e [] := by rw [hQ]; exact he
  have st := h.std
  rw [← hQ] at pos st
  have lT : T.length = Q.length + e := by rw [hT]; simp [-List.getD_eq_getElem?_getD, -List.length_flatten, lstK_l, optK_s, lsK_l, appF_at, appP_at, app1P_at, setP_at, set1P_at, pop1_at, pop1E_at, frK_r, gK_v, asgI_at, exprI_at, appI_at, ysOf_some, ysOf_none, ysOf_nil, setAll_cons, setAll_nil, dRevL_l, extP_at, extF_at, setN_at, setO_at, appPop_at, itemsOf_l, itemsOf_t, dIdxL_l, isT_bb, appM_at, asgM_at, dK_d, revs_at, revOf_l, revOf_t]
  have at1 : ∀ j, j < Q.length → T.getD j [] = Q.getD j [] := fun j hj => by
    rw [hT, List.getD_eq_getElem?_getD, List.getD_eq_getElem?_getD, List.getElem?_append_left hj]
  have at2 : ∀ j, Q.length ≤ j → T.getD j [] = [] := fun j hj => by
    rw [hT, List.getD_eq_getElem?_getD, List.getElem?_append_right hj, List.getElem?_replicate]
    split <;> rfl
  have kQ : k ≤ Q.length := by
    by_cases c : k ≤ Q.length
    · exact c
    · rcases o2 with o2 | o2
      · omega
      · rw [at2 k (by omega), at2 (k - 1) (by omega)] at o2
        simp [-List.getD_eq_getElem?_getD, -List.length_flatten, lstK_l, optK_s, lsK_l, appF_at, appP_at, app1P_at, setP_at, set1P_at, pop1_at, pop1E_at, frK_r, gK_v, asgI_at, exprI_at, appI_at, ysOf_some, ysOf_none, ysOf_nil, setAll_cons, setAll_nil, dRevL_l, extP_at, extF_at, setN_at, setO_at, appPop_at, itemsOf_l, itemsOf_t, dIdxL_l, isT_bb, appM_at, asgM_at, dK_d, revs_at, revOf_l, revOf_t] at o2
  have okA : AddOk Q k := by
    by_cases c : k = Q.length
    · exact .inl c
    · right
      refine ⟨by omega, ?_⟩
      rcases o2 with o2 | o2
      · exact .inl o2
      · right
        rwa [at1 k (by omega), at1 (k - 1) (by omega)] at o2
  have new : T.set k (T.getD k [] ++ [(n : Int) + 1]) = addT Q k ((n : Int) + 1) ++ List.replicate (T.length - (addT Q k ((n : Int) + 1)).length) [] := by
    by_cases c : k = Q.length
    · subst c
      have e1 : 0 < e := by omega
      rw [at2 _ (Nat.le_refl _), addT_new, hT, List.set_append_right _ _ (Nat.le_refl _), Nat.sub_self, List.append_assoc]
      congr 1
      obtain ⟨e', rfl⟩ : ∃ e', e = e' + 1 := ⟨e - 1, by omega⟩
      rw [List.replicate_succ, List.set_cons_zero]
      simp [-List.getD_eq_getElem?_getD, -List.length_flatten, lstK_l, optK_s, lsK_l, appF_at, appP_at, app1P_at, setP_at, set1P_at, pop1_at, pop1E_at, frK_r, gK_v, asgI_at, exprI_at, appI_at, ysOf_some, ysOf_none, ysOf_nil, setAll_cons, setAll_nil, dRevL_l, extP_at, extF_at, setN_at, setO_at, appPop_at, itemsOf_l, itemsOf_t, dIdxL_l, isT_bb, appM_at, asgM_at, dK_d, revs_at, revOf_l, revOf_t]
      omega
    · rw [addT_old (by omega), at1 k (by omega), hT, List.set_append_left _ _ (by omega), List.length_set, List.length_append, List.length_replicate]
      congr 1
      congr 1
      omega
  have stN := Std.add st okA
  have fl : full (T.set k (T.getD k [] ++ [(n : Int) + 1])) = addT Q k ((n : Int) + 1) := by
    rw [new, full_app, full_empty, List.append_nil, full_self stN.pos]
  refine ⟨by rw [List.length_set, h.len], fun j => ?_, fun j => ?_, ?_, by rw [fl]; exact stN, ?_⟩
  · rw [row]
    split
    · rename_i c
      rw [c, List.length_append, List.length_singleton]
      omega
    · exact h.le j
  · rw [row, row]
    have d := h.down j
    split
    · rename_i c
      rw [if_neg (by omega), List.length_append, List.length_singleton, ← c]
      rcases o2 with o2 | o2
      · omega
      · rw [← c, Nat.add_sub_cancel] at o2
        omega
    · split
      · rename_i c
        subst c
        rw [List.length_append]
        omega
      · exact d
  · rw [shp_set]
    have := sumN_set (shp T) k ((T.getD k []).length + 1) (by rw [shp, List.length_map]; exact hkT)
    rw [shp_at, h.sum] at this
    omega
  · rw [fl]
    exact ⟨_, new⟩
end Mi

namespace Mi
open PySem
/-! ### boxes with a hole -/
theorem at_int {l : List Int} {k : Nat} (h : k < l.length) : dIdx (iT l) (.int (k : Int)) = some (.int (l.getD k 0)) := by rw [dIdx_t, ints_at l h]
theorem at_row {T : List (List Int)} {k : Nat} (h : k < T.length) : dIdx (bT T) (.int (k : Int)) = some (iT (T.getD k [])) := by rw [dIdx_t, rowsT_at T h]
theorem F_part_at_eq (sh : List Int) (k : Nat) : F_part_at [iT sh, .int (k : Int)] = .ret (.int (sh.getD k 0)) [] := by
  unfold F_part_at b_part_at
  rw [runF_eq]
  by_cases c : k < sh.length
  · have c' : (k : Int) < (sh.length : Int) := by omega
    simp [-List.getD_eq_getElem?_getD, -List.length_flatten, lstK_l, optK_s, lsK_l, appF_at, appP_at, app1P_at, setP_at, set1P_at, pop1_at, pop1E_at, frK_r, gK_v, asgI_at, exprI_at, appI_at, ysOf_some, ysOf_none, ysOf_nil, setAll_cons, setAll_nil, dRevL_l, extP_at, extF_at, setN_at, setO_at, appPop_at, itemsOf_l, itemsOf_t, dIdxL_l, isT_bb, appM_at, asgM_at, dK_d, revs_at, revOf_l, revOf_t, c', at_int c]
  · have c' : ¬ (k : Int) < (sh.length : Int) := by omega
    rw [List.getD_eq_getElem?_getD, List.getElem?_eq_none (by omega)]
    simp [-List.getD_eq_getElem?_getD, -List.length_flatten, lstK_l, optK_s, lsK_l, appF_at, appP_at, app1P_at, setP_at, set1P_at, pop1_at, pop1E_at, frK_r, gK_v, asgI_at, exprI_at, appI_at, ysOf_some, ysOf_none, ysOf_nil, setAll_cons, setAll_nil, dRevL_l, extP_at, extF_at, setN_at, setO_at, appPop_at, itemsOf_l, itemsOf_t, dIdxL_l, isT_bb, appM_at, asgM_at, dK_d, revs_at, revOf_l, revOf_t, c']
/-- the lengths with the hole -/
def outer (sh : List Int) (T : List (List Int)) : List Int := (List.range T.length).map fun k => sh.getD k 0 + ((T.getD k []).length : Int)
def hD (sh : List Int) (T : List (List Int)) : D := .tuple [iT sh, bT T]
/-- the letter at a place -/
def letAt (sh : List Int) (T : List (List Int)) (row : Nat) (col : Int) : Option Int :=
  if row < T.length ∧ sh.getD row 0 ≤ col ∧ col - sh.getD row 0 < ((T.getD row []).length : Int) then some ((T.getD row []).getD (col - sh.getD row 0).toNat 0) else none
def optI : Option Int → D
  | some z => .int z
  | none => .none
theorem F_letter_at_eq (sh : List Int) (T : List (List Int)) (row : Nat) (col : Int) (h : T.length ≤ 1000) : F_letter_at [hD sh T, .int (row : Int), .int col] = .ret (optI (letAt sh T row col)) [] := by
  unfold F_letter_at b_letter_at hD letAt
  rw [runF_eq]
  by_cases c : row < T.length
  · have c' : ¬ (T.length : Int) ≤ (row : Int) := by omega
    by_cases c1 : sh.getD row 0 ≤ col
    · have c1' : ¬ col < sh.getD row 0 := by omega
      obtain ⟨j, hj⟩ : ∃ j : Nat, col - sh.getD row 0 = (j : Int) := ⟨(col - sh.getD row 0).toNat, by omega⟩
      have hj0 : ¬ ((j : Int) < 0) := by omega
      by_cases c2 : j < (T.getD row []).length
      · have c2' : ¬ (((T.getD row []).length : Int) ≤ (j : Int)) := by omega
        have c2'' : col - sh.getD row 0 < ((T.getD row []).length : Int) := by omega
        simp [-List.getD_eq_getElem?_getD, -List.length_flatten, lstK_l, optK_s, lsK_l, appF_at, appP_at, app1P_at, setP_at, set1P_at, pop1_at, pop1E_at, frK_r, gK_v, asgI_at, exprI_at, appI_at, ysOf_some, ysOf_none, ysOf_nil, setAll_cons, setAll_nil, dRevL_l, extP_at, extF_at, setN_at, setO_at, appPop_at, itemsOf_l, itemsOf_t, dIdxL_l, isT_bb, appM_at, asgM_at, dK_d, revs_at, revOf_l, revOf_t, F_part_at_eq, c', c, c1, at_row c, hj, hj0, c2, c2', at_int c2, optI]
      · have c2' : ((T.getD row []).length : Int) ≤ (j : Int) := by omega
        have c2'' : ¬ (col - sh.getD row 0 < ((T.getD row []).length : Int)) := by omega
        simp [-List.getD_eq_getElem?_getD, -List.length_flatten, lstK_l, optK_s, lsK_l, appF_at, appP_at, app1P_at, setP_at, set1P_at, pop1_at, pop1E_at, frK_r, gK_v, asgI_at, exprI_at, appI_at, ysOf_some, ysOf_none, ysOf_nil, setAll_cons, setAll_nil, dRevL_l, extP_at, extF_at, setN_at, setO_at, appPop_at, itemsOf_l, itemsOf_t, dIdxL_l, isT_bb, appM_at, asgM_at, dK_d, revs_at, revOf_l, revOf_t, F_part_at_eq, c', c, c1, at_row c, hj, hj0, c2, c2', optI]
    · have c1' : col - sh.getD row 0 < 0 := by omega
      simp [-List.getD_eq_getElem?_getD, -List.length_flatten, lstK_l, optK_s, lsK_l, appF_at, appP_at, app1P_at, setP_at, set1P_at, pop1_at, pop1E_at, frK_r, gK_v, asgI_at, exprI_at, appI_at, ysOf_some, ysOf_none, ysOf_nil, setAll_cons, setAll_nil, dRevL_l, extP_at, extF_at, setN_at, setO_at, appPop_at, itemsOf_l, itemsOf_t, dIdxL_l, isT_bb, appM_at, asgM_at, dK_d, revs_at, revOf_l, revOf_t, F_part_at_eq, c', c, c1, c1', optI]
  · have c' : (T.length : Int) ≤ (row : Int) := by omega
    simp [-List.getD_eq_getElem?_getD, -List.length_flatten, lstK_l, optK_s, lsK_l, appF_at, appP_at, app1P_at, setP_at, set1P_at, pop1_at, pop1E_at, frK_r, gK_v, asgI_at, exprI_at, appI_at, ysOf_some, ysOf_none, ysOf_nil, setAll_cons, setAll_nil, dRevL_l, extP_at, extF_at, setN_at, setO_at, appPop_at, itemsOf_l, itemsOf_t, dIdxL_l, isT_bb, appM_at, asgM_at, dK_d, revs_at, revOf_l, revOf_t, c', c, optI]
end Mi

namespace Mi
open PySem
/-! ### the law's own test of boxes with a hole -/
/-! ### the hole drawn -/
structure HInv (T : List (List Int)) (made : List Int) (last : Int) (k : Nat) : Prop where
  mk ::
  nn : 0 ≤ last
  le : last ≤ 16
  sh : shDown made 16 = true
  low : ∀ i, i < made.length → last ≤ made.getD i 0
  fit : ∀ i, i < made.length → made.getD i 0 ≤ ((T.getD i []).length : Int)
  len : made.length ≤ k
  whole : 0 < last → made.length = k
theorem cutD_drop {A : Type} (l : List A) (n : Nat) : cutD l (some (n : Int)) none = l.drop n := by
  unfold cutD
  have e2 : HT.sIx l.length 0 (some (n : Int)) = min n l.length := by
    show (if (n : Int) < 0 then ((n : Int) + (l.length : Int)).toNat else min (n : Int).toNat l.length) = min n l.length
    rw [if_neg (by omega)]
    rfl
  rw [e2, show HT.sIx l.length l.length none = l.length from rfl]
  by_cases h : n ≤ l.length
  · rw [Nat.min_eq_left h, List.take_of_length_le (by rw [List.length_drop]; omega)]
  · rw [Nat.min_eq_right (by omega), List.drop_of_length_le (Nat.le_refl _), List.drop_of_length_le (by omega), List.take_nil]
theorem dSlT_drop (l : List D) (n : Nat) : dSlT (.tuple l) (some (n : Int)) none = some (.tuple (l.drop n)) := by
  show some (PyData.tuple (cutD l (some (n : Int)) none)) = _
  rw [cutD_drop]
/-- a box within which a hole lies -/
structure Cut (sh : List Int) (B : List (List Int)) : Prop where
  mk ::
  box : Box B
  down : shDown sh 16 = true
  len : sh.length ≤ B.length
  fit : ∀ i, i < sh.length → sh.getD i 0 ≤ ((B.getD i []).length : Int)
end Mi

namespace Mi
open PySem
end Mi

namespace Mi
open PySem
theorem cutD_take {A : Type} (l : List A) (n : Nat) : cutD l none (some (n : Int)) = l.take n := by
  unfold cutD
  have e1 : HT.sIx l.length 0 none = 0 := rfl
  have e2 : HT.sIx l.length l.length (some (n : Int)) = min n l.length := by
    show (if (n : Int) < 0 then ((n : Int) + (l.length : Int)).toNat else min (n : Int).toNat l.length) = min n l.length
    rw [if_neg (by omega)]
    rfl
  rw [e1, e2, List.drop_zero, Nat.sub_zero]
  by_cases h : n ≤ l.length
  · rw [Nat.min_eq_left h]
  · rw [Nat.min_eq_right (by omega), List.take_of_length_le (Nat.le_refl _), List.take_of_length_le (by omega)]
end Mi

namespace Mi
open PySem
end Mi

namespace Mi
open PySem
end Mi

namespace Mi
/-! ### a letter into a row -/
/-! ### exchanges -/
inductive K1 : List Int → List Int → Prop
  | a {x y z : Int} : x < y → y ≤ z → K1 [y, x, z] [y, z, x]
  | a' {x y z : Int} : x < y → y ≤ z → K1 [y, z, x] [y, x, z]
  | b {x y z : Int} : x ≤ y → y < z → K1 [x, z, y] [z, x, y]
  | b' {x y z : Int} : x ≤ y → y < z → K1 [z, x, y] [x, z, y]
theorem K1.symm {p q : List Int} (h : K1 p q) : K1 q p := by
  cases h with
  | a h1 h2 => exact .a' h1 h2
  | a' h1 h2 => exact .a h1 h2
  | b h1 h2 => exact .b' h1 h2
  | b' h1 h2 => exact .b h1 h2
/-- words that exchanges lead into one another -/
inductive Kn : List Int → List Int → Prop
  | rfl (w : List Int) : Kn w w
  | step {u p q v w : List Int} : K1 p q → Kn (u ++ (q ++ v)) w → Kn (u ++ (p ++ v)) w
theorem Kn.trans {a b c : List Int} (h : Kn a b) (g : Kn b c) : Kn a c := by
  induction h with
  | rfl => exact g
  | step k _ ih => exact .step k (ih g)
theorem Kn.one {u p q v : List Int} (h : K1 p q) : Kn (u ++ (p ++ v)) (u ++ (q ++ v)) := .step h (.rfl _)
theorem Kn.symm {a b : List Int} (h : Kn a b) : Kn b a := by
  induction h with
  | rfl => exact .rfl _
  | step k _ ih => exact ih.trans (.one k.symm)
/-- the word of rows, the last one first -/
def readT (T : List (List Int)) : List Int := T.reverse.flatten
theorem readT_cons (l : List Int) (T : List (List Int)) : readT (l :: T) = readT T ++ l := by simp [readT]
theorem readT_nil : readT [] = [] := rfl
theorem readT_perm (T : List (List Int)) : (readT T).Perm T.flatten := by
  induction T with
  | nil => exact List.Perm.refl _
  | cons l T ih =>
    rw [readT_cons, List.flatten_cons]
    exact List.perm_append_comm.trans (List.Perm.append_left _ ih)
end Mi

namespace Mi
open PySem
/-! ### readings -/
theorem readT_len (T : List (List Int)) : (readT T).length = T.flatten.length := (readT_perm T).length_eq
theorem F_law_reading_eq (T : List (List Int)) (h : T.flatten.length ≤ 1000) : F_law_reading [bT T] = .ret (iT (readT T)) [] := by
  unfold F_law_reading b_law_reading
  rw [runF_eq]
  simp [-List.getD_eq_getElem?_getD, -List.length_flatten, lstK_l, optK_s, lsK_l, appF_at, appP_at, app1P_at, setP_at, set1P_at, pop1_at, pop1E_at, frK_r, gK_v, asgI_at, exprI_at, appI_at, ysOf_some, ysOf_none, ysOf_nil, setAll_cons, setAll_nil, dRevL_l, extP_at, extF_at, setN_at, setO_at, appPop_at, itemsOf_l, itemsOf_t, dIdxL_l, isT_bb, appM_at, asgM_at, dK_d, revs_at, revOf_l, revOf_t, LIM]
  refine for_tM (P := fun x => x.fin = FR.ret (iT (readT T)) []) (f := iT) (l := T) (I := fun r m => ∃ made v, r = [some (bT T), some (iT made), v] ∧ readT m ++ made = readT T) (by simp [-List.getD_eq_getElem?_getD, -List.length_flatten, lstK_l, optK_s, lsK_l, appF_at, appP_at, app1P_at, setP_at, set1P_at, pop1_at, pop1E_at, frK_r, gK_v, asgI_at, exprI_at, appI_at, ysOf_some, ysOf_none, ysOf_nil, setAll_cons, setAll_nil, dRevL_l, extP_at, extF_at, setN_at, setO_at, appPop_at, itemsOf_l, itemsOf_t, dIdxL_l, isT_bb, appM_at, asgM_at, dK_d, revs_at, revOf_l, revOf_t]) ⟨[], none, rfl, by simp [-List.getD_eq_getElem?_getD, -List.length_flatten, lstK_l, optK_s, lsK_l, appF_at, appP_at, app1P_at, setP_at, set1P_at, pop1_at, pop1E_at, frK_r, gK_v, asgI_at, exprI_at, appI_at, ysOf_some, ysOf_none, ysOf_nil, setAll_cons, setAll_nil, dRevL_l, extP_at, extF_at, setN_at, setO_at, appPop_at, itemsOf_l, itemsOf_t, dIdxL_l, isT_bb, appM_at, asgM_at, dK_d, revs_at, revOf_l, revOf_t]⟩ ?_ ?_
  · rintro r l m ⟨made, v, rfl, e⟩
    rw [readT_cons] at e
    have hl : l.length + made.length ≤ 1000 := by
      have := congrArg List.length e
      rw [readT_len, List.length_append, List.length_append] at this
      omega
    refine .go (r' := [some (bT T), some (iT (l ++ made)), some (iT l)]) ?_ ⟨_, _, rfl, by rw [← e]; simp [-List.getD_eq_getElem?_getD, -List.length_flatten, lstK_l, optK_s, lsK_l, appF_at, appP_at, app1P_at, setP_at, set1P_at, pop1_at, pop1E_at, frK_r, gK_v, asgI_at, exprI_at, appI_at, ysOf_some, ysOf_none, ysOf_nil, setAll_cons, setAll_nil, dRevL_l, extP_at, extF_at, setN_at, setO_at, appPop_at, itemsOf_l, itemsOf_t, dIdxL_l, isT_bb, appM_at, asgM_at, dK_d, revs_at, revOf_l, revOf_t]⟩
    simp [-List.getD_eq_getElem?_getD, -List.length_flatten, lstK_l, optK_s, lsK_l, appF_at, appP_at, app1P_at, setP_at, set1P_at, pop1_at, pop1E_at, frK_r, gK_v, asgI_at, exprI_at, appI_at, ysOf_some, ysOf_none, ysOf_nil, setAll_cons, setAll_nil, dRevL_l, extP_at, extF_at, setN_at, setO_at, appPop_at, itemsOf_l, itemsOf_t, dIdxL_l, isT_bb, appM_at, asgM_at, dK_d, revs_at, revOf_l, revOf_t, LIM, show l.length + made.length ≤ 100000 by omega]
  · rintro r ⟨made, v, rfl, e⟩
    rw [readT_nil, List.nil_append] at e
    rw [← e]
    simp [-List.getD_eq_getElem?_getD, -List.length_flatten, lstK_l, optK_s, lsK_l, appF_at, appP_at, app1P_at, setP_at, set1P_at, pop1_at, pop1E_at, frK_r, gK_v, asgI_at, exprI_at, appI_at, ysOf_some, ysOf_none, ysOf_nil, setAll_cons, setAll_nil, dRevL_l, extP_at, extF_at, setN_at, setO_at, appPop_at, itemsOf_l, itemsOf_t, dIdxL_l, isT_bb, appM_at, asgM_at, dK_d, revs_at, revOf_l, revOf_t]
end Mi

namespace Mi
open PySem
/-! ### products -/
theorem dAdd_iT (u v : List Int) (h : u.length + v.length ≤ 1000) : dAdd (iT u) (iT v) = some (iT (u ++ v)) := by
  rw [dAdd_t, if_pos (by simp [-List.getD_eq_getElem?_getD, -List.length_flatten, lstK_l, optK_s, lsK_l, appF_at, appP_at, app1P_at, setP_at, set1P_at, pop1_at, pop1E_at, frK_r, gK_v, asgI_at, exprI_at, appI_at, ysOf_some, ysOf_none, ysOf_nil, setAll_cons, setAll_nil, dRevL_l, extP_at, extF_at, setN_at, setO_at, appPop_at, itemsOf_l, itemsOf_t, dIdxL_l, isT_bb, appM_at, asgM_at, dK_d, revs_at, revOf_l, revOf_t, LIM]; omega), ← List.map_append]
end Mi

namespace Mi
open PySem
def zN (N : List Nat) : List Int := N.map fun n : Nat => (n : Int)
theorem zN_len (N : List Nat) : (zN N).length = N.length := by simp [-List.getD_eq_getElem?_getD, -List.length_flatten, lstK_l, optK_s, lsK_l, appF_at, appP_at, app1P_at, setP_at, set1P_at, pop1_at, pop1E_at, frK_r, gK_v, asgI_at, exprI_at, appI_at, ysOf_some, ysOf_none, ysOf_nil, setAll_cons, setAll_nil, dRevL_l, extP_at, extF_at, setN_at, setO_at, appPop_at, itemsOf_l, itemsOf_t, dIdxL_l, isT_bb, appM_at, asgM_at, dK_d, revs_at, revOf_l, revOf_t, zN]
theorem zN_at (N : List Nat) (k : Nat) : (zN N).getD k 0 = (N.getD k 0 : Int) := by
  rw [List.getD_eq_getElem?_getD, List.getD_eq_getElem?_getD, zN, List.getElem?_map]
  cases N[k]? <;> rfl
theorem zN_ix {N : List Nat} {k : Nat} (h : k < N.length) : dIdx (iT (zN N)) (.int (k : Int)) = some (.int (N.getD k 0 : Int)) := by
  rw [at_int (by rw [zN_len]; exact h), zN_at]
theorem zN_sum : ∀ N : List Nat, (zN N).sum = (sumN N : Int)
  | [] => rfl
  | z :: N => by
    show (z : Int) + (zN N).sum = _
    rw [zN_sum N, sumN]
    omega
theorem down_zN : ∀ {N : List Nat} {last : Nat}, downN N last = true → shDown (zN N) (last : Int) = true
  | [], _, _ => rfl
  | z :: N, last, h => by
    rw [downN, Bool.and_eq_true, decide_eq_true_eq] at h
    show shDown ((z : Int) :: zN N) _ = true
    exact shDown_cons (by omega) (by omega) (down_zN h.2)
theorem zN_of : ∀ {l : List Int} {m : Nat}, shDown l (m : Int) = true → ∃ N, l = zN N ∧ downN N m = true
  | [], _, _ => ⟨[], rfl, rfl⟩
  | z :: l, m, h => by
    obtain ⟨h1, h2, h3⟩ := shDown_tail h
    obtain ⟨n, rfl⟩ : ∃ n : Nat, z = (n : Int) := ⟨z.toNat, by omega⟩
    obtain ⟨N, rfl, h4⟩ := zN_of h3
    refine ⟨n :: N, rfl, ?_⟩
    rw [downN, h4, Bool.and_true]
    exact decide_eq_true ⟨by omega, by omega⟩
theorem downN_up : ∀ {N : List Nat} {m n : Nat}, downN N m = true → m ≤ n → downN N n = true
  | [], _, _, _, _ => rfl
  | z :: N, m, n, h, hm => by
    rw [downN, Bool.and_eq_true, decide_eq_true_eq] at h ⊢
    exact ⟨⟨h.1.1, by omega⟩, h.2⟩
/-! ### hooks -/
theorem downN_len : ∀ {N : List Nat} {m : Nat}, downN N m = true → N.length ≤ sumN N
  | [], _, _ => Nat.le_refl _
  | z :: N, m, h => by
    rw [downN, Bool.and_eq_true, decide_eq_true_eq] at h
    have := downN_len h.2
    rw [List.length_cons, sumN]
    omega
structure Sh (N : List Nat) : Prop where
  down : downN N 16 = true
  sum : sumN N ≤ 16
theorem Sh.len {N : List Nat} (h : Sh N) : N.length ≤ 16 := by have := downN_len h.down; have := h.sum; omega
theorem Sh.at {N : List Nat} (h : Sh N) (k : Nat) : N.getD k 0 ≤ 16 := by have := getD_le_sumN N k; have := h.sum; omega
theorem dSlT_take' (l : List D) (n : Nat) : dSlT (.tuple l) none (some (n : Int)) = some (.tuple (l.take n)) := by
  show some (PyData.tuple (cutD l none (some (n : Int)))) = _
  rw [cutD_take]
end Mi

namespace Mi
open PySem
theorem isShape_zN {N : List Nat} (h : Sh N) : isShape (iT (zN N)) = true := by
  rw [isShape_iT, Bool.and_eq_true, decide_eq_true_eq, zN_sum]
  have := h.sum
  exact ⟨down_zN h.down, by omega⟩
/-! ### how many -/
end Mi

namespace Mi
open PySem
end Mi

namespace Mi
open PySem
/-! ### all full boxes -/
end Mi

namespace Mi
open PySem
/-! ### each once -/
/-! ### the order -/
theorem alike_bT (a b : List (List Int)) : PySem.W.alike (bT a) (bT b) = true := by
  show PySem.W.alike (.tuple (a.map iT)) (.tuple (b.map iT)) = true
  rw [PySem.W.alike]
  induction a generalizing b with
  | nil => simp [-List.getD_eq_getElem?_getD, -List.length_flatten, lstK_l, optK_s, lsK_l, appF_at, appP_at, app1P_at, setP_at, set1P_at, pop1_at, pop1E_at, frK_r, gK_v, asgI_at, exprI_at, appI_at, ysOf_some, ysOf_none, ysOf_nil, setAll_cons, setAll_nil, dRevL_l, extP_at, extF_at, setN_at, setO_at, appPop_at, itemsOf_l, itemsOf_t, dIdxL_l, isT_bb, appM_at, asgM_at, dK_d, revs_at, revOf_l, revOf_t, PySem.W.alikeAll]
  | cons x a ih =>
    cases b with
    | nil => simp [-List.getD_eq_getElem?_getD, -List.length_flatten, lstK_l, optK_s, lsK_l, appF_at, appP_at, app1P_at, setP_at, set1P_at, pop1_at, pop1E_at, frK_r, gK_v, asgI_at, exprI_at, appI_at, ysOf_some, ysOf_none, ysOf_nil, setAll_cons, setAll_nil, dRevL_l, extP_at, extF_at, setN_at, setO_at, appPop_at, itemsOf_l, itemsOf_t, dIdxL_l, isT_bb, appM_at, asgM_at, dK_d, revs_at, revOf_l, revOf_t, PySem.W.alikeAll]
    | cons y b =>
      rw [List.map_cons, List.map_cons, PySem.W.alikeAll, ih b, Bool.and_true]
      show PySem.W.alike (.tuple (x.map .int)) (.tuple (y.map .int)) = true
      rw [PySem.W.alike, PySem.W.alike_ints]
theorem canLay_ints (l : List Int) : PyData.canLayAll0 (l.map .int) = true := by
  induction l with
  | nil => simp [-List.getD_eq_getElem?_getD, -List.length_flatten, lstK_l, optK_s, lsK_l, appF_at, appP_at, app1P_at, setP_at, set1P_at, pop1_at, pop1E_at, frK_r, gK_v, asgI_at, exprI_at, appI_at, ysOf_some, ysOf_none, ysOf_nil, setAll_cons, setAll_nil, dRevL_l, extP_at, extF_at, setN_at, setO_at, appPop_at, itemsOf_l, itemsOf_t, dIdxL_l, isT_bb, appM_at, asgM_at, dK_d, revs_at, revOf_l, revOf_t, PyData.canLayAll0]
  | cons z l ih => rw [List.map_cons, PyData.canLayAll0, ih]; simp [-List.getD_eq_getElem?_getD, -List.length_flatten, lstK_l, optK_s, lsK_l, appF_at, appP_at, app1P_at, setP_at, set1P_at, pop1_at, pop1E_at, frK_r, gK_v, asgI_at, exprI_at, appI_at, ysOf_some, ysOf_none, ysOf_nil, setAll_cons, setAll_nil, dRevL_l, extP_at, extF_at, setN_at, setO_at, appPop_at, itemsOf_l, itemsOf_t, dIdxL_l, isT_bb, appM_at, asgM_at, dK_d, revs_at, revOf_l, revOf_t, PyData.canLay0]
theorem canLay_bT (a : List (List Int)) : PyData.canLay0 (bT a) = true := by
  show PyData.canLay0 (.tuple (a.map iT)) = true
  rw [PyData.canLay0]
  induction a with
  | nil => simp [-List.getD_eq_getElem?_getD, -List.length_flatten, lstK_l, optK_s, lsK_l, appF_at, appP_at, app1P_at, setP_at, set1P_at, pop1_at, pop1E_at, frK_r, gK_v, asgI_at, exprI_at, appI_at, ysOf_some, ysOf_none, ysOf_nil, setAll_cons, setAll_nil, dRevL_l, extP_at, extF_at, setN_at, setO_at, appPop_at, itemsOf_l, itemsOf_t, dIdxL_l, isT_bb, appM_at, asgM_at, dK_d, revs_at, revOf_l, revOf_t, PyData.canLayAll0]
  | cons x a ih =>
    rw [List.map_cons, PyData.canLayAll0, ih, Bool.and_true]
    show PyData.canLay0 (.tuple (x.map .int)) = true
    rw [PyData.canLay0, canLay_ints]
theorem depth_iT (l : List Int) : PyData.depth (iT l) ≤ 2 := by
  show PyData.depth (.tuple (l.map .int)) ≤ 2
  rw [PyData.depth, PySem.W.depth_ints]
  decide
theorem depth_bT (a : List (List Int)) : PyData.depth (bT a) ≤ 4 := by
  show PyData.depth (.tuple (a.map iT)) ≤ 4
  rw [PyData.depth]
  have : PyData.depthAll (a.map iT) ≤ 2 := by
    induction a with
    | nil => simp [-List.getD_eq_getElem?_getD, -List.length_flatten, lstK_l, optK_s, lsK_l, appF_at, appP_at, app1P_at, setP_at, set1P_at, pop1_at, pop1E_at, frK_r, gK_v, asgI_at, exprI_at, appI_at, ysOf_some, ysOf_none, ysOf_nil, setAll_cons, setAll_nil, dRevL_l, extP_at, extF_at, setN_at, setO_at, appPop_at, itemsOf_l, itemsOf_t, dIdxL_l, isT_bb, appM_at, asgM_at, dK_d, revs_at, revOf_l, revOf_t, PyData.depthAll]
    | cons x a ih =>
      rw [List.map_cons, PyData.depthAll]
      have := depth_iT x
      omega
  omega
end Mi

namespace Mi
open PySem
theorem okSort_bT {L : List (List (List Int))} (h : L.length ≤ 1 ∨ ∀ T ∈ L, T ≠ []) : okSort (L.map bT) = true := by
  unfold okSort
  rw [Bool.or_eq_true]
  rcases h with h | h
  · left
    exact decide_eq_true (by rw [List.length_map]; exact h)
  · right
    rw [Bool.and_eq_true, Bool.and_eq_true]
    refine ⟨⟨List.all_eq_true.mpr fun d hd => ?_, List.all_eq_true.mpr fun d hd => List.all_eq_true.mpr fun e he => ?_⟩, List.all_eq_true.mpr fun d hd => ?_⟩
    · obtain ⟨T, hT, rfl⟩ := List.mem_map.mp hd
      cases T with
      | nil => exact absurd rfl (h _ hT)
      | cons l T => rfl
    · obtain ⟨T, _, rfl⟩ := List.mem_map.mp hd
      obtain ⟨S, _, rfl⟩ := List.mem_map.mp he
      exact alike_bT T S
    · obtain ⟨T, _, rfl⟩ := List.mem_map.mp hd
      rw [Bool.and_eq_true, canLay_bT]
      have := depth_bT T
      exact ⟨rfl, decide_eq_true (by omega)⟩
def leT (a b : List (List Int)) : Bool := !PySem.W.dataLt (bT b) (bT a)
theorem dSortE_bT {L : List (List (List Int))} (h : L.length ≤ 1 ∨ ∀ T ∈ L, T ≠ []) : dSortE (.list (L.map bT)) = some (.list ((L.mergeSort leT).map bT)) := by
  have hp : plainL (L.map bT) = true := by
    rw [plainL_all]
    refine List.all_eq_true.mpr fun d hd => ?_
    obtain ⟨T, _, rfl⟩ := List.mem_map.mp hd
    simp [-List.getD_eq_getElem?_getD, -List.length_flatten, lstK_l, optK_s, lsK_l, appF_at, appP_at, app1P_at, setP_at, set1P_at, pop1_at, pop1E_at, frK_r, gK_v, asgI_at, exprI_at, appI_at, ysOf_some, ysOf_none, ysOf_nil, setAll_cons, setAll_nil, dRevL_l, extP_at, extF_at, setN_at, setO_at, appPop_at, itemsOf_l, itemsOf_t, dIdxL_l, isT_bb, appM_at, asgM_at, dK_d, revs_at, revOf_l, revOf_t]
  show (if (plainL (L.map bT) && okSort (L.map bT)) = true then some (PyData.list ((L.map bT).mergeSort (PySem.W.dataLe false id))) else none) = _
  rw [hp, okSort_bT h, Bool.and_self, if_pos rfl]
  rw [← PySem.W.sort_maps (r := leT) (s := PySem.W.dataLe false id) bT fun _ _ _ _ => rfl]
end Mi

namespace Mi
open PySem
end Mi

namespace Mi
open PySem
/-! ### law 21: its own tries -/
end Mi

namespace Mi
open PySem
/-! ### a shape of exactly so many places -/
structure ExInv (m : Int) (s : Int × List Int × Int) (k : Nat) : Prop where
  sh : ShInv m s k
  all : s.2.1.sum + s.1 = m
  few : s.1 + (k : Int) ≤ m ∨ s.1 = 0
theorem ExInv.step {m : Int} {s : Int × List Int × Int} {k : Nat} (h : ExInv m s k) (ns : List Int) (a : Nat) : ExInv m (shStep ns a s k) (k + 1) := by
  have h0 := h.sh.step ns a
  refine ⟨h0, ?_, ?_⟩
  all_goals
    obtain ⟨z, made, last⟩ := s
    obtain ⟨⟨h1, h2, h3, h4, h5, h6⟩, h7, h8⟩ := h
    dsimp only at h1 h2 h3 h4 h5 h6 h7 h8
    unfold shStep
    dsimp only
    by_cases c : 0 < z
    · rw [if_pos c]
      have hl := h2 c
      have hm : 0 < (if last < z then last else z) := by split <;> omega
      have hb := mixed_bds ns (a + 1 + k) hm
      obtain ⟨y, hy⟩ : ∃ y, y = 1 + mixed ns (a + 1 + k) (if last < z then last else z) := ⟨_, rfl⟩
      rw [← hy]
      simp only [List.sum_append, List.sum_cons, List.sum_nil]
      omega
    · rw [if_neg c]
      simp only
      omega
def lexact (ns : List Int) (a m : Nat) : List Int := ((List.range' 0 m).foldl (shStep ns a) ((m : Int), [], (m : Int))).2.1
theorem F_law_exact_eq (ns : List Int) (a m : Nat) (hm : m ≤ 1000) : F_law_exact [lck ns, .int ((a : Int) + 1), .int (m : Int)] = .ret (iT (lexact ns a m)) [] ∧ shDown (lexact ns a m) m = true ∧ (lexact ns a m).sum = m := by
  have start : ExInv (m : Int) ((m : Int), [], (m : Int)) 0 := ⟨⟨by simp [-List.getD_eq_getElem?_getD, -List.length_flatten, lstK_l, optK_s, lsK_l, appF_at, appP_at, app1P_at, setP_at, set1P_at, pop1_at, pop1E_at, frK_r, gK_v, asgI_at, exprI_at, appI_at, ysOf_some, ysOf_none, ysOf_nil, setAll_cons, setAll_nil, dRevL_l, extP_at, extF_at, setN_at, setO_at, appPop_at, itemsOf_l, itemsOf_t, dIdxL_l, isT_bb, appM_at, asgM_at, dK_d, revs_at, revOf_l, revOf_t], fun h => by dsimp only at h ⊢; omega, rfl, fun z h1 h2 => shDown_cons h1 (by dsimp only at h2; omega) rfl, by simp [-List.getD_eq_getElem?_getD, -List.length_flatten, lstK_l, optK_s, lsK_l, appF_at, appP_at, app1P_at, setP_at, set1P_at, pop1_at, pop1E_at, frK_r, gK_v, asgI_at, exprI_at, appI_at, ysOf_some, ysOf_none, ysOf_nil, setAll_cons, setAll_nil, dRevL_l, extP_at, extF_at, setN_at, setO_at, appPop_at, itemsOf_l, itemsOf_t, dIdxL_l, isT_bb, appM_at, asgM_at, dK_d, revs_at, revOf_l, revOf_t], by simp [-List.getD_eq_getElem?_getD, -List.length_flatten, lstK_l, optK_s, lsK_l, appF_at, appP_at, app1P_at, setP_at, set1P_at, pop1_at, pop1E_at, frK_r, gK_v, asgI_at, exprI_at, appI_at, ysOf_some, ysOf_none, ysOf_nil, setAll_cons, setAll_nil, dRevL_l, extP_at, extF_at, setN_at, setO_at, appPop_at, itemsOf_l, itemsOf_t, dIdxL_l, isT_bb, appM_at, asgM_at, dK_d, revs_at, revOf_l, revOf_t]⟩, by simp [-List.getD_eq_getElem?_getD, -List.length_flatten, lstK_l, optK_s, lsK_l, appF_at, appP_at, app1P_at, setP_at, set1P_at, pop1_at, pop1E_at, frK_r, gK_v, asgI_at, exprI_at, appI_at, ysOf_some, ysOf_none, ysOf_nil, setAll_cons, setAll_nil, dRevL_l, extP_at, extF_at, setN_at, setO_at, appPop_at, itemsOf_l, itemsOf_t, dIdxL_l, isT_bb, appM_at, asgM_at, dK_d, revs_at, revOf_l, revOf_t], .inl (by simp [-List.getD_eq_getElem?_getD, -List.length_flatten, lstK_l, optK_s, lsK_l, appF_at, appP_at, app1P_at, setP_at, set1P_at, pop1_at, pop1E_at, frK_r, gK_v, asgI_at, exprI_at, appI_at, ysOf_some, ysOf_none, ysOf_nil, setAll_cons, setAll_nil, dRevL_l, extP_at, extF_at, setN_at, setO_at, appPop_at, itemsOf_l, itemsOf_t, dIdxL_l, isT_bb, appM_at, asgM_at, dK_d, revs_at, revOf_l, revOf_t])⟩
  obtain ⟨v', e, inv⟩ := forL_foldN (S := Int × List Int × Int) (x := 6) (b := (ifS (bi dGt (var 3) (cst (.int 0))) (seq (asg 5 (bi dAdd (cst (.int 1)) (callF F_law_mixed (acons (var 0) (acons (bi dAdd (var 1) (var 6)) (acons (bi dMin2 (var 3) (var 5)) anil)))))) (seq (appP 4 (var 5)) (asg 3 (bi dSub (var 3) (var 5))))) skip))
    (R := fun s v => [some (lck ns), some (.int ((a : Int) + 1)), some (.int (m : Int)), some (.int s.1), some (iL s.2.1), some (.int s.2.2), v]) (fun _ _ _ => rfl) (shStep ns a) (ExInv (m : Int)) m (fun s k hk inv => by
      refine ⟨?_, inv.step ns a⟩
      obtain ⟨z, made, last⟩ := s
      obtain ⟨⟨h1, h2, h3, h4, h5, h6⟩, _, _⟩ := inv
      dsimp only at h1 h2 h3 h4 h5 h6 ⊢
      unfold shStep
      dsimp only
      by_cases c : 0 < z
      · rw [if_pos c]
        have hl := h2 c
        have hmm : 0 < (if last < z then last else z) := by split <;> omega
        have e1 : F_law_mixed [lck ns, .int ((a : Int) + 1 + (k : Int)), .int (if last < z then last else z)] = .ret (.int (mixed ns (a + 1 + k) (if last < z then last else z))) [] := F_law_mixed_eq ns (a + 1 + k) _ hmm
        have e2 : dMin2 (.int z) (.int last) = some (.int (if last < z then last else z)) := rfl
        obtain ⟨y, hy⟩ : ∃ y, y = 1 + mixed ns (a + 1 + k) (if last < z then last else z) := ⟨_, rfl⟩
        rw [← hy]
        rw [ifS_at, show bi dGt (var 3) (cst (.int 0)) [some (lck ns), some (.int ((a : Int) + 1)), some (.int (m : Int)), some (.int z), some (iL made), some (.int last), some (.int (k : Int))] = .val (.bool true) by simp [-List.getD_eq_getElem?_getD, -List.length_flatten, lstK_l, optK_s, lsK_l, appF_at, appP_at, app1P_at, setP_at, set1P_at, pop1_at, pop1E_at, frK_r, gK_v, asgI_at, exprI_at, appI_at, ysOf_some, ysOf_none, ysOf_nil, setAll_cons, setAll_nil, dRevL_l, extP_at, extF_at, setN_at, setO_at, appPop_at, itemsOf_l, itemsOf_t, dIdxL_l, isT_bb, appM_at, asgM_at, dK_d, revs_at, revOf_l, revOf_t, c], ER.toS_val, ifK_b, if_pos rfl, seq_at]
        rw [show asg 5 (bi dAdd (cst (.int 1)) (callF F_law_mixed (acons (var 0) (acons (bi dAdd (var 1) (var 6)) (acons (bi dMin2 (var 3) (var 5)) anil))))) [some (lck ns), some (.int ((a : Int) + 1)), some (.int (m : Int)), some (.int z), some (iL made), some (.int last), some (.int (k : Int))] = .nx [some (lck ns), some (.int ((a : Int) + 1)), some (.int (m : Int)), some (.int z), some (iL made), some (.int y), some (.int (k : Int))] by
          simp only [asg_at, bi_at, callF_at, acons_at, anil_at, var_at, cst_at, List.getElem?_cons_zero, List.getElem?_cons_succ, optER_some, ER.bind_val, dAdd_i, of_some, e2, e1, er_ret, ER.toS_val, List.set_cons_succ, List.set_cons_zero, hy], next_nx, seq_at]
        rw [appP_val (l := made.map .int) (d := .int y) rfl (by simp [-List.getD_eq_getElem?_getD, -List.length_flatten, lstK_l, optK_s, lsK_l, appF_at, appP_at, app1P_at, setP_at, set1P_at, pop1_at, pop1E_at, frK_r, gK_v, asgI_at, exprI_at, appI_at, ysOf_some, ysOf_none, ysOf_nil, setAll_cons, setAll_nil, dRevL_l, extP_at, extF_at, setN_at, setO_at, appPop_at, itemsOf_l, itemsOf_t, dIdxL_l, isT_bb, appM_at, asgM_at, dK_d, revs_at, revOf_l, revOf_t]) (by simp [-List.getD_eq_getElem?_getD, -List.length_flatten, lstK_l, optK_s, lsK_l, appF_at, appP_at, app1P_at, setP_at, set1P_at, pop1_at, pop1E_at, frK_r, gK_v, asgI_at, exprI_at, appI_at, ysOf_some, ysOf_none, ysOf_nil, setAll_cons, setAll_nil, dRevL_l, extP_at, extF_at, setN_at, setO_at, appPop_at, itemsOf_l, itemsOf_t, dIdxL_l, isT_bb, appM_at, asgM_at, dK_d, revs_at, revOf_l, revOf_t, LIM]; omega) (by simp [-List.getD_eq_getElem?_getD, -List.length_flatten, lstK_l, optK_s, lsK_l, appF_at, appP_at, app1P_at, setP_at, set1P_at, pop1_at, pop1E_at, frK_r, gK_v, asgI_at, exprI_at, appI_at, ysOf_some, ysOf_none, ysOf_nil, setAll_cons, setAll_nil, dRevL_l, extP_at, extF_at, setN_at, setO_at, appPop_at, itemsOf_l, itemsOf_t, dIdxL_l, isT_bb, appM_at, asgM_at, dK_d, revs_at, revOf_l, revOf_t]), next_nx, ints_app]
        simp [-List.getD_eq_getElem?_getD, -List.length_flatten, lstK_l, optK_s, lsK_l, appF_at, appP_at, app1P_at, setP_at, set1P_at, pop1_at, pop1E_at, frK_r, gK_v, asgI_at, exprI_at, appI_at, ysOf_some, ysOf_none, ysOf_nil, setAll_cons, setAll_nil, dRevL_l, extP_at, extF_at, setN_at, setO_at, appPop_at, itemsOf_l, itemsOf_t, dIdxL_l, isT_bb, appM_at, asgM_at, dK_d, revs_at, revOf_l, revOf_t]
      · rw [if_neg c]
        simp [-List.getD_eq_getElem?_getD, -List.length_flatten, lstK_l, optK_s, lsK_l, appF_at, appP_at, app1P_at, setP_at, set1P_at, pop1_at, pop1E_at, frK_r, gK_v, asgI_at, exprI_at, appI_at, ysOf_some, ysOf_none, ysOf_nil, setAll_cons, setAll_nil, dRevL_l, extP_at, extF_at, setN_at, setO_at, appPop_at, itemsOf_l, itemsOf_t, dIdxL_l, isT_bb, appM_at, asgM_at, dK_d, revs_at, revOf_l, revOf_t]
        intro q
        omega) m 0 ((m : Int), [], (m : Int)) none (by omega) start
  refine ⟨?_, inv.sh.down, by have := inv.all; have := inv.few; have := inv.sh.size; unfold lexact; omega⟩
  unfold F_law_exact b_law_exact
  rw [runF_eq]
  show (seq _ _ [some (lck ns), some (.int ((a : Int) + 1)), some (.int (m : Int)), none, none, none, none]).fin = _
  rw [seq_at, show asg 3 (var 2) [some (lck ns), some (.int ((a : Int) + 1)), some (.int (m : Int)), none, none, none, none] = .nx [some (lck ns), some (.int ((a : Int) + 1)), some (.int (m : Int)), some (.int (m : Int)), none, none, none] by simp [-List.getD_eq_getElem?_getD, -List.length_flatten, lstK_l, optK_s, lsK_l, appF_at, appP_at, app1P_at, setP_at, set1P_at, pop1_at, pop1E_at, frK_r, gK_v, asgI_at, exprI_at, appI_at, ysOf_some, ysOf_none, ysOf_nil, setAll_cons, setAll_nil, dRevL_l, extP_at, extF_at, setN_at, setO_at, appPop_at, itemsOf_l, itemsOf_t, dIdxL_l, isT_bb, appM_at, asgM_at, dK_d, revs_at, revOf_l, revOf_t], next_nx, seq_at,
    show asg 4 (llst anil) [some (lck ns), some (.int ((a : Int) + 1)), some (.int (m : Int)), some (.int (m : Int)), none, none, none] = .nx [some (lck ns), some (.int ((a : Int) + 1)), some (.int (m : Int)), some (.int (m : Int)), some (iL []), none, none] by simp [-List.getD_eq_getElem?_getD, -List.length_flatten, lstK_l, optK_s, lsK_l, appF_at, appP_at, app1P_at, setP_at, set1P_at, pop1_at, pop1E_at, frK_r, gK_v, asgI_at, exprI_at, appI_at, ysOf_some, ysOf_none, ysOf_nil, setAll_cons, setAll_nil, dRevL_l, extP_at, extF_at, setN_at, setO_at, appPop_at, itemsOf_l, itemsOf_t, dIdxL_l, isT_bb, appM_at, asgM_at, dK_d, revs_at, revOf_l, revOf_t], next_nx, seq_at,
    show asg 5 (var 2) [some (lck ns), some (.int ((a : Int) + 1)), some (.int (m : Int)), some (.int (m : Int)), some (iL []), none, none] = .nx [some (lck ns), some (.int ((a : Int) + 1)), some (.int (m : Int)), some (.int (m : Int)), some (iL []), some (.int (m : Int)), none] by simp [-List.getD_eq_getElem?_getD, -List.length_flatten, lstK_l, optK_s, lsK_l, appF_at, appP_at, app1P_at, setP_at, set1P_at, pop1_at, pop1E_at, frK_r, gK_v, asgI_at, exprI_at, appI_at, ysOf_some, ysOf_none, ysOf_nil, setAll_cons, setAll_nil, dRevL_l, extP_at, extF_at, setN_at, setO_at, appPop_at, itemsOf_l, itemsOf_t, dIdxL_l, isT_bb, appM_at, asgM_at, dK_d, revs_at, revOf_l, revOf_t], next_nx, seq_at,
    forS_val (ds := ids ((0 : Nat) : Int) m) (by
      simp [-List.getD_eq_getElem?_getD, -List.length_flatten, lstK_l, optK_s, lsK_l, appF_at, appP_at, app1P_at, setP_at, set1P_at, pop1_at, pop1E_at, frK_r, gK_v, asgI_at, exprI_at, appI_at, ysOf_some, ysOf_none, ysOf_nil, setAll_cons, setAll_nil, dRevL_l, extP_at, extF_at, setN_at, setO_at, appPop_at, itemsOf_l, itemsOf_t, dIdxL_l, isT_bb, appM_at, asgM_at, dK_d, revs_at, revOf_l, revOf_t]
      rw [dRng1_nat (by omega)]
      rfl), e, next_nx]
  simp [-List.getD_eq_getElem?_getD, -List.length_flatten, lstK_l, optK_s, lsK_l, appF_at, appP_at, app1P_at, setP_at, set1P_at, pop1_at, pop1E_at, frK_r, gK_v, asgI_at, exprI_at, appI_at, ysOf_some, ysOf_none, ysOf_nil, setAll_cons, setAll_nil, dRevL_l, extP_at, extF_at, setN_at, setO_at, appPop_at, itemsOf_l, itemsOf_t, dIdxL_l, isT_bb, appM_at, asgM_at, dK_d, revs_at, revOf_l, revOf_t, lexact]
end Mi

namespace Mi
/-! ### lattice boxes, by whole numbers: the program's way and the law's way -/
def partN (S : List Nat) (k : Nat) : Nat := S.getD k 0
def letN (I : List Nat) (rows : List (List Nat)) (r place : Nat) : Option Nat := if place < partN I r then none else (rows.getD r [])[place - partN I r]?
def headOk (row : List Nat) (l : Nat) : Bool := match row with
  | [] => true
  | x :: _ => decide (l ≤ x)
def aboveOk (a : Option Nat) (l : Nat) : Bool := match a with
  | none => true
  | some a => decide (a < l)
def mayStand (I : List Nat) (rows : List (List Nat)) (r place l : Nat) : Bool :=
  headOk (rows.getD r []) l && (match r with
    | 0 => true
    | r + 1 => aboveOk (letN I (rows.take (r + 1)) r place) l)
abbrev Cs := List (Nat × Nat)
def countedN (cs : Cs) (l : Nat) : Option Cs :=
  if (cs.getD (l - 1) (0, 0)).2 = 0 ∨ (1 < l ∧ (cs.getD (l - 2) (0, 0)).1 < (cs.getD (l - 1) (0, 0)).1 + 1) then none
  else some (cs.set (l - 1) ((cs.getD (l - 1) (0, 0)).1 + 1, (cs.getD (l - 1) (0, 0)).2 - 1))
abbrev RC := List (List Nat) × Cs
def fillLet (I : List Nat) (r place : Nat) (rc : RC) (l : Nat) : List RC := match countedN rc.2 l with
  | none => []
  | some cs => if mayStand I rc.1 r place l then [(rc.1.take r ++ [l :: rc.1.getD r []], cs)] else []
def fillOne (I : List Nat) (r place : Nat) (rc : RC) : List RC := (List.range rc.2.length).flatMap fun i => fillLet I r place rc (i + 1)
def fillCell (I : List Nat) (r place : Nat) (made : List RC) : List RC := made.flatMap (fillOne I r place)
def fillK (I O : List Nat) (r : Nat) (made : List RC) (k : Nat) : List RC := (List.range k).foldl (fun made k => fillCell I r (partN O r - 1 - k) made) made
def newRow (rc : RC) : RC := (rc.1 ++ [[]], rc.2)
def filledN (I O : List Nat) (found : List RC) (r : Nat) : List RC := fillK I O r (found.map newRow) (partN O r - partN I r)
def fillR (O I W : List Nat) (k : Nat) : List RC := (List.range k).foldl (filledN I O) [([], W.map fun n => (0, n))]
def progN (O I W : List Nat) : List (List (List Nat)) := (fillR O I W O.length).map (·.1)
theorem fillK_succ (I O : List Nat) (r : Nat) (made : List RC) (k : Nat) : fillK I O r made (k + 1) = fillCell I r (partN O r - 1 - k) (fillK I O r made k) := by
  unfold fillK
  rw [List.range_succ, List.foldl_append]
  rfl
theorem fillR_succ (O I W : List Nat) (k : Nat) : fillR O I W (k + 1) = filledN I O (fillR O I W k) k := by
  unfold fillR
  rw [List.range_succ, List.foldl_append]
  rfl
/-- so many rows begun, so many letters -/
structure Rc (m r c : Nat) (rc : RC) : Prop where
  len : rc.1.length = r
  cs : rc.2.length = m
  row : ∀ l ∈ rc.1, l.length ≤ c
theorem Rc.new {m r c : Nat} {rc : RC} (h : Rc m r c rc) : Rc m (r + 1) c (newRow rc) := by
  refine ⟨by unfold newRow; rw [List.length_append, h.len]; rfl, h.cs, fun l hl => ?_⟩
  rcases List.mem_append.mp hl with hl | hl
  · exact h.row l hl
  · rw [List.mem_singleton.mp hl]; exact Nat.zero_le _
theorem fillLet_mem {I : List Nat} {r place l m c : Nat} {rc x : RC} (h : Rc m (r + 1) c rc) (hx : x ∈ fillLet I r place rc l) : Rc m (r + 1) (c + 1) x := by
  unfold fillLet at hx
  split at hx
  · cases hx
  · rename_i cs hcs
    split at hx
    · rw [List.mem_singleton.mp hx]
      have ll : cs.length = m := by
        unfold countedN at hcs
        split at hcs
        · cases hcs
        · cases hcs
          rw [List.length_set]
          exact h.cs
      refine ⟨?_, ll, fun y hy => ?_⟩
      · rw [List.length_append, List.length_take, h.len]
        simp
      · rcases List.mem_append.mp hy with hy | hy
        · have := h.row y (List.mem_of_mem_take hy)
          omega
        · rw [List.mem_singleton.mp hy, List.length_cons]
          have hr : r < rc.1.length := by rw [h.len]; omega
          have : rc.1.getD r [] ∈ rc.1 := by
            rw [List.getD_eq_getElem?_getD, List.getElem?_eq_getElem hr]
            exact List.getElem_mem hr
          have := h.row _ this
          omega
    · cases hx
theorem fillLet_len (I : List Nat) (r place : Nat) (rc : RC) (l : Nat) : (fillLet I r place rc l).length ≤ 1 := by
  unfold fillLet
  split
  · exact Nat.zero_le _
  · split <;> simp
theorem flatM_len {A B : Type} {f : A → List B} {n : Nat} : ∀ {l : List A}, (∀ a ∈ l, (f a).length ≤ n) → (l.flatMap f).length ≤ l.length * n
  | [], _ => by simp
  | a :: l, h => by
    have ih := flatM_len (l := l) fun b hb => h b (List.mem_cons_of_mem _ hb)
    have := h a List.mem_cons_self
    rw [List.flatMap_cons, List.length_append, List.length_cons, Nat.succ_mul]
    omega
theorem fillOne_len {I : List Nat} {r q place m c : Nat} {rc : RC} (h : Rc m q c rc) : (fillOne I r place rc).length ≤ m := by
  have := flatM_len (f := fun i => fillLet I r place rc (i + 1)) (n := 1) (l := List.range rc.2.length) fun i _ => fillLet_len ..
  rw [List.length_range, Nat.mul_one] at this
  rw [← h.cs]
  exact this
theorem fillCell_ok {I : List Nat} {r place m c : Nat} {made : List RC} (h : ∀ rc ∈ made, Rc m (r + 1) c rc) : (∀ rc ∈ fillCell I r place made, Rc m (r + 1) (c + 1) rc) ∧ (fillCell I r place made).length ≤ made.length * m := by
  refine ⟨fun x hx => ?_, flatM_len fun rc hrc => fillOne_len (r := r) (h rc hrc)⟩
  obtain ⟨rc, hrc, hx⟩ := List.mem_flatMap.mp hx
  obtain ⟨i, _, hx⟩ := List.mem_flatMap.mp hx
  exact fillLet_mem (h rc hrc) hx
/-- at most m to the power n -/
theorem fillK_ok {I O : List Nat} {r m c : Nat} {made : List RC} (h : ∀ rc ∈ made, Rc m (r + 1) c rc) : ∀ k, (∀ rc ∈ fillK I O r made k, Rc m (r + 1) (c + k) rc) ∧ (fillK I O r made k).length ≤ made.length * m ^ k
  | 0 => ⟨h, by show made.length ≤ _; simp⟩
  | k + 1 => by
    obtain ⟨h1, h2⟩ := fillK_ok h k
    rw [fillK_succ]
    obtain ⟨h3, h4⟩ := fillCell_ok (I := I) (place := partN O r - 1 - k) h1
    refine ⟨h3, Nat.le_trans h4 ?_⟩
    rw [Nat.pow_succ, ← Nat.mul_assoc]
    exact Nat.mul_le_mul_right _ h2
theorem filledN_ok {I O : List Nat} {r m c : Nat} {found : List RC} (h : ∀ rc ∈ found, Rc m r c rc) : (∀ rc ∈ filledN I O found r, Rc m (r + 1) (c + (partN O r - partN I r)) rc) ∧ (filledN I O found r).length ≤ found.length * m ^ (partN O r - partN I r) := by
  have := fillK_ok (I := I) (O := O) (r := r) (m := m) (c := c) (made := found.map newRow) (fun x hx => by
    obtain ⟨rc, hrc, rfl⟩ := List.mem_map.mp hx
    exact (h rc hrc).new) (partN O r - partN I r)
  rw [List.length_map] at this
  exact this
/-- the cells of the first rows -/
def cellsN (O I : List Nat) (k : Nat) : Nat := ((List.range k).map fun j => partN O j - partN I j).sum
theorem cellsN_succ (O I : List Nat) (k : Nat) : cellsN O I (k + 1) = cellsN O I k + (partN O k - partN I k) := by
  unfold cellsN
  rw [List.range_succ, List.map_append, List.sum_append]
  simp
theorem fillR_ok (O I W : List Nat) : ∀ k, (∀ rc ∈ fillR O I W k, Rc W.length k (cellsN O I k) rc) ∧ (fillR O I W k).length ≤ W.length ^ cellsN O I k
  | 0 => ⟨fun rc h => by
      rw [List.mem_singleton.mp h]
      exact ⟨rfl, by simp, fun l hl => nomatch hl⟩, by simp [fillR, cellsN]⟩
  | k + 1 => by
    obtain ⟨h1, h2⟩ := fillR_ok O I W k
    rw [fillR_succ, cellsN_succ]
    obtain ⟨h3, h4⟩ := filledN_ok (I := I) (O := O) h1
    refine ⟨h3, Nat.le_trans h4 ?_⟩
    rw [Nat.pow_add]
    exact Nat.mul_le_mul_right _ h2
end Mi

namespace Mi
open PySem
/-! ### lattice boxes: the program's defs -/
/-- rows of whole numbers -/
def zT (R : List (List Nat)) : List (List Int) := R.map zN
def nI (n : Nat) : D := .int (n : Int)
theorem zT_len (R : List (List Nat)) : (zT R).length = R.length := by simp [-List.getD_eq_getElem?_getD, -List.length_flatten, lstK_l, optK_s, lsK_l, appF_at, appP_at, app1P_at, setP_at, set1P_at, pop1_at, pop1E_at, frK_r, gK_v, asgI_at, exprI_at, appI_at, ysOf_some, ysOf_none, ysOf_nil, setAll_cons, setAll_nil, dRevL_l, extP_at, extF_at, setN_at, setO_at, appPop_at, itemsOf_l, itemsOf_t, dIdxL_l, isT_bb, appM_at, asgM_at, dK_d, revs_at, revOf_l, revOf_t, zT]
theorem zT_at (R : List (List Nat)) (k : Nat) : (zT R).getD k [] = zN (R.getD k []) := by
  unfold zT
  rw [List.getD_eq_getElem?_getD, List.getD_eq_getElem?_getD, List.getElem?_map]
  cases R[k]? <;> rfl
theorem letAt_N (I : List Nat) (R : List (List Nat)) (r p : Nat) : letAt (zN I) (zT R) r (p : Int) = (letN I R r p).map fun n : Nat => (n : Int) := by
  unfold letAt letN partN
  rw [zN_at, zT_at, zT_len, zN_len, zN_at]
  by_cases c1 : p < I.getD r 0
  · rw [if_neg (fun h => by omega), if_pos c1]
    rfl
  · rw [if_neg c1]
    have e : ((p : Int) - (I.getD r 0 : Int)).toNat = p - I.getD r 0 := by omega
    rw [e]
    by_cases c2 : p - I.getD r 0 < (R.getD r []).length
    · have c3 : r < R.length := by
        by_cases c3 : r < R.length
        · exact c3
        · rw [List.getD_eq_getElem?_getD (l := R), List.getElem?_eq_none (by omega)] at c2
          exact absurd c2 (by simp [-List.getD_eq_getElem?_getD, -List.length_flatten, lstK_l, optK_s, lsK_l, appF_at, appP_at, app1P_at, setP_at, set1P_at, pop1_at, pop1E_at, frK_r, gK_v, asgI_at, exprI_at, appI_at, ysOf_some, ysOf_none, ysOf_nil, setAll_cons, setAll_nil, dRevL_l, extP_at, extF_at, setN_at, setO_at, appPop_at, itemsOf_l, itemsOf_t, dIdxL_l, isT_bb, appM_at, asgM_at, dK_d, revs_at, revOf_l, revOf_t])
      rw [if_pos ⟨c3, by omega, by omega⟩, List.getElem?_eq_getElem c2, List.getD_eq_getElem?_getD (l := R.getD r []), List.getElem?_eq_getElem c2]
      rfl
    · rw [if_neg (fun h => by omega), List.getElem?_eq_none (by omega)]
      rfl
theorem lies_eq {I O : List Nat} (hI : I.length ≤ 1000) : F_lies_in [iT (zN I), iT (zN O)] = .ret (.bool ((List.range I.length).all fun k => decide (partN I k ≤ partN O k))) [] := by
  unfold F_lies_in b_lies_in
  rw [runF_eq]
  show (seq (forS 2 _ _) _ [some (iT (zN I)), some (iT (zN O)), none]).fin = _
  rw [seq_at]
  refine for_t (P := fun x => x.fin = _) (lo := 0) (n := I.length) (I := fun r k => (∃ z, r = [some (iT (zN I)), some (iT (zN O)), z]) ∧ ∀ j, j < k → partN I j ≤ partN O j) (rng1_val (by simp [-List.getD_eq_getElem?_getD, -List.length_flatten, lstK_l, optK_s, lsK_l, appF_at, appP_at, app1P_at, setP_at, set1P_at, pop1_at, pop1E_at, frK_r, gK_v, asgI_at, exprI_at, appI_at, ysOf_some, ysOf_none, ysOf_nil, setAll_cons, setAll_nil, dRevL_l, extP_at, extF_at, setN_at, setO_at, appPop_at, itemsOf_l, itemsOf_t, dIdxL_l, isT_bb, appM_at, asgM_at, dK_d, revs_at, revOf_l, revOf_t, zN_len]) (by omega)) ⟨⟨none, rfl⟩, fun j hj => by omega⟩ ?_ ?_
  · rintro r k _ hk ⟨⟨z, rfl⟩, h⟩
    rw [Nat.zero_add] at hk
    have e1 : dIdx (iT (zN I)) (.int (k : Int)) = some (.int (partN I k : Int)) := zN_ix hk
    have e2 : F_part_at [iT (zN O), .int (k : Int)] = .ret (.int (partN O k : Int)) [] := by rw [F_part_at_eq, zN_at]; rfl
    obtain ⟨X, hX⟩ : ∃ X, X = iT (zN I) := ⟨_, rfl⟩
    obtain ⟨Y, hY⟩ : ∃ Y, Y = iT (zN O) := ⟨_, rfl⟩
    rw [← hX] at e1 ⊢
    rw [← hY] at e2 ⊢
    by_cases c : partN I k ≤ partN O k
    · have c' : ¬ ((partN O k : Int) < (partN I k : Int)) := by omega
      refine .go (r' := [some X, some Y, some (.int (k : Int))]) (by simp [-List.getD_eq_getElem?_getD, -List.length_flatten, lstK_l, optK_s, lsK_l, appF_at, appP_at, app1P_at, setP_at, set1P_at, pop1_at, pop1E_at, frK_r, gK_v, asgI_at, exprI_at, appI_at, ysOf_some, ysOf_none, ysOf_nil, setAll_cons, setAll_nil, dRevL_l, extP_at, extF_at, setN_at, setO_at, appPop_at, itemsOf_l, itemsOf_t, dIdxL_l, isT_bb, appM_at, asgM_at, dK_d, revs_at, revOf_l, revOf_t, e1, e2, c']) ⟨⟨_, rfl⟩, fun j hj => ?_⟩
      by_cases q : j = k
      · rw [q]; exact c
      · exact h j (by omega)
    · have c' : (partN O k : Int) < (partN I k : Int) := by omega
      refine .tell (d := .bool false) (r' := [some X, some Y, some (.int (k : Int))]) (by simp [-List.getD_eq_getElem?_getD, -List.length_flatten, lstK_l, optK_s, lsK_l, appF_at, appP_at, app1P_at, setP_at, set1P_at, pop1_at, pop1E_at, frK_r, gK_v, asgI_at, exprI_at, appI_at, ysOf_some, ysOf_none, ysOf_nil, setAll_cons, setAll_nil, dRevL_l, extP_at, extF_at, setN_at, setO_at, appPop_at, itemsOf_l, itemsOf_t, dIdxL_l, isT_bb, appM_at, asgM_at, dK_d, revs_at, revOf_l, revOf_t, e1, e2, c']) ?_
      have : ((List.range I.length).all fun k => decide (partN I k ≤ partN O k)) = false := List.all_eq_false.mpr ⟨k, List.mem_range.mpr hk, by simpa [-List.getD_eq_getElem?_getD, -List.length_flatten, lstK_l, optK_s, lsK_l, appF_at, appP_at, app1P_at, setP_at, set1P_at, pop1_at, pop1E_at, frK_r, gK_v, asgI_at, exprI_at, appI_at, ysOf_some, ysOf_none, ysOf_nil, setAll_cons, setAll_nil, dRevL_l, extP_at, extF_at, setN_at, setO_at, appPop_at, itemsOf_l, itemsOf_t, dIdxL_l, isT_bb, appM_at, asgM_at, dK_d, revs_at, revOf_l, revOf_t] using c⟩
      rw [this]
      rfl
  · rintro r ⟨⟨z, rfl⟩, h⟩
    rw [Nat.zero_add] at h
    have : ((List.range I.length).all fun k => decide (partN I k ≤ partN O k)) = true := List.all_eq_true.mpr fun k hk => decide_eq_true (h k (List.mem_range.mp hk))
    rw [this]
    simp [-List.getD_eq_getElem?_getD, -List.length_flatten, lstK_l, optK_s, lsK_l, appF_at, appP_at, app1P_at, setP_at, set1P_at, pop1_at, pop1E_at, frK_r, gK_v, asgI_at, exprI_at, appI_at, ysOf_some, ysOf_none, ysOf_nil, setAll_cons, setAll_nil, dRevL_l, extP_at, extF_at, setN_at, setO_at, appPop_at, itemsOf_l, itemsOf_t, dIdxL_l, isT_bb, appM_at, asgM_at, dK_d, revs_at, revOf_l, revOf_t]
theorem plainL_map {A : Type} (f : A → D) (l : List A) (h : ∀ a ∈ l, plain (f a) = true) : plainL (l.map f) = true := by
  rw [plainL_all, List.all_eq_true]
  intro d hd
  obtain ⟨a, ha, rfl⟩ := List.mem_map.mp hd
  exact h a ha
def prD (p : Nat × Nat) : D := .tuple [.int (p.1 : Int), .int (p.2 : Int)]
theorem F_counted_eq {cs : Cs} {l : Nat} (h1 : 1 ≤ l) (h2 : l ≤ cs.length) (hc : cs.length ≤ 1000) : F_counted [.list (cs.map prD), .int (l : Int)] = .ret (match countedN cs l with | none => .none | some c => .list (c.map prD)) [] := by
  unfold F_counted b_counted
  rw [runF_eq]
  obtain ⟨i, rfl⟩ : ∃ i, l = i + 1 := ⟨l - 1, by omega⟩
  have hi : i < cs.length := by omega
  have ix : ∀ j, j < cs.length → dIdx (.list (cs.map prD)) (.int (j : Int)) = some (prD (cs.getD j (0, 0))) := fun j hj => by
    rw [dIdx_l, List.getElem?_map, List.getElem?_eq_getElem hj, List.getD_eq_getElem?_getD, List.getElem?_eq_getElem hj]
    rfl
  have e1 := ix i hi
  obtain ⟨⟨a, b⟩, hq⟩ : ∃ q, q = cs.getD i (0, 0) := ⟨_, rfl⟩
  rw [← hq] at e1
  have s1 : ((i + 1 : Nat) : Int) - 1 = (i : Int) := by omega
  have x0 : dIdx (prD (a, b)) (.int 0) = some (.int (a : Int)) := rfl
  have x1 : dIdx (prD (a, b)) (.int 1) = some (.int (b : Int)) := rfl
  have lL : cs.length ≤ LIM := by unfold LIM; omega
  have pl : plain (.tuple [.int ((a : Int) + 1), .int ((b : Int) - 1)]) = true := rfl
  have ixo : ixOf (.int (i : Int)) (cs.map prD).length = some i := ixOf_nat (by rw [List.length_map]; exact hi)
  have lst : dLstP (.list (cs.map prD)) = some (.list (cs.map prD)) := by
    have : ∀ l : List D, l.length ≤ LIM → plainL l = true → dLstP (.list l) = some (.list l) := fun l h1 h2 => by simp [-List.getD_eq_getElem?_getD, -List.length_flatten, lstK_l, optK_s, lsK_l, appF_at, appP_at, app1P_at, setP_at, set1P_at, pop1_at, pop1E_at, frK_r, gK_v, asgI_at, exprI_at, appI_at, ysOf_some, ysOf_none, ysOf_nil, setAll_cons, setAll_nil, dRevL_l, extP_at, extF_at, setN_at, setO_at, appPop_at, itemsOf_l, itemsOf_t, dIdxL_l, isT_bb, appM_at, asgM_at, dK_d, revs_at, revOf_l, revOf_t, dLstP, h1, h2]
    exact this _ (by rw [List.length_map]; exact lL) (plainL_map prD cs fun p _ => rfl)
  have fin : b ≠ 0 → ((cs.map prD).set i (.tuple [.int ((a : Int) + 1), .int ((b : Int) - 1)])) = ((cs.set i (a + 1, b - 1)).map prD) := fun hb => by
    rw [List.map_set]
    unfold prD
    rw [show ((a + 1 : Nat) : Int) = (a : Int) + 1 by omega, show ((b - 1 : Nat) : Int) = (b : Int) - 1 by omega]
  unfold countedN
  rw [Nat.add_sub_cancel, ← hq]
  dsimp only
  obtain ⟨P, hP⟩ : ∃ P, P = prD (a, b) := ⟨_, rfl⟩
  rw [← hP] at e1 x0 x1
  obtain ⟨M, hM⟩ : ∃ M, M = cs.map prD := ⟨_, rfl⟩
  by_cases cb : b = 0
  · rw [if_pos (.inl cb)]
    have cb' : (b : Int) = 0 := by omega
    rw [← hM] at e1 ⊢
    simp [-List.getD_eq_getElem?_getD, -List.length_flatten, lstK_l, optK_s, lsK_l, appF_at, appP_at, app1P_at, setP_at, set1P_at, pop1_at, pop1E_at, frK_r, gK_v, asgI_at, exprI_at, appI_at, ysOf_some, ysOf_none, ysOf_nil, setAll_cons, setAll_nil, dRevL_l, extP_at, extF_at, setN_at, setO_at, appPop_at, itemsOf_l, itemsOf_t, dIdxL_l, isT_bb, appM_at, asgM_at, dK_d, revs_at, revOf_l, revOf_t, s1, e1, x1, cb, cb']
  · have cb' : ¬ ((b : Int) = 0) := by omega
    cases i with
    | zero =>
      rw [if_neg (by omega)]
      have f := fin cb
      show _ = FR.ret (.list ((cs.set 0 (a + 1, b - 1)).map prD)) []
      obtain ⟨R, hR⟩ : ∃ R, R = (cs.set 0 (a + 1, b - 1)).map prD := ⟨_, rfl⟩
      rw [← hR] at f ⊢
      rw [← hM] at e1 lst ixo f ⊢
      have e1' : dIdx (.list M) (.int 0) = some P := e1
      have ixo' : ixOf (.int 0) M.length = some 0 := ixo
      simp [-List.getD_eq_getElem?_getD, -List.length_flatten, lstK_l, optK_s, lsK_l, appF_at, appP_at, app1P_at, setP_at, set1P_at, pop1_at, pop1E_at, frK_r, gK_v, asgI_at, exprI_at, appI_at, ysOf_some, ysOf_none, ysOf_nil, setAll_cons, setAll_nil, dRevL_l, extP_at, extF_at, setN_at, setO_at, appPop_at, itemsOf_l, itemsOf_t, dIdxL_l, isT_bb, appM_at, asgM_at, dK_d, revs_at, revOf_l, revOf_t, e1', x0, x1, cb, cb', lst, pl, ixo', f, LIM]
    | succ j =>
      have e2 := ix j (by omega)
      obtain ⟨⟨a2, b2⟩, hq2⟩ : ∃ q, q = cs.getD j (0, 0) := ⟨_, rfl⟩
      rw [← hq2] at e2
      have y0 : dIdx (prD (a2, b2)) (.int 0) = some (.int (a2 : Int)) := rfl
      obtain ⟨P2, hP2⟩ : ∃ P2, P2 = prD (a2, b2) := ⟨_, rfl⟩
      rw [← hP2] at e2 y0
      rw [show j + 1 + 1 - 2 = j by omega, ← hq2]
      dsimp only
      have g1 : (1 : Int) < ((j + 1 + 1 : Nat) : Int) := by omega
      have s2 : ((j + 1 + 1 : Nat) : Int) - 2 = (j : Int) := by omega
      by_cases c : a2 < a + 1
      · rw [if_pos (.inr ⟨by omega, c⟩)]
        have c' : (a2 : Int) < (a : Int) + 1 := by omega
        rw [← hM] at e1 e2 ⊢
        generalize ((j + 1 + 1 : Nat) : Int) = L at s1 s2 g1 ⊢
        generalize ((j + 1 : Nat) : Int) = L1 at s1 e1
        simp [-List.getD_eq_getElem?_getD, -List.length_flatten, lstK_l, optK_s, lsK_l, appF_at, appP_at, app1P_at, setP_at, set1P_at, pop1_at, pop1E_at, frK_r, gK_v, asgI_at, exprI_at, appI_at, ysOf_some, ysOf_none, ysOf_nil, setAll_cons, setAll_nil, dRevL_l, extP_at, extF_at, setN_at, setO_at, appPop_at, itemsOf_l, itemsOf_t, dIdxL_l, isT_bb, appM_at, asgM_at, dK_d, revs_at, revOf_l, revOf_t, s1, s2, g1, e1, e2, x0, x1, y0, cb, cb', c']
      · rw [if_neg (by omega)]
        have c' : ¬ ((a2 : Int) < (a : Int) + 1) := by omega
        have f := fin cb
        show _ = FR.ret (.list ((cs.set (j + 1) (a + 1, b - 1)).map prD)) []
        obtain ⟨R, hR⟩ : ∃ R, R = (cs.set (j + 1) (a + 1, b - 1)).map prD := ⟨_, rfl⟩
        rw [← hR] at f ⊢
        rw [← hM] at e1 e2 lst ixo f ⊢
        generalize ((j + 1 + 1 : Nat) : Int) = L at s1 s2 g1 ⊢
        generalize ((j + 1 : Nat) : Int) = L1 at s1 e1 ixo
        simp [-List.getD_eq_getElem?_getD, -List.length_flatten, lstK_l, optK_s, lsK_l, appF_at, appP_at, app1P_at, setP_at, set1P_at, pop1_at, pop1E_at, frK_r, gK_v, asgI_at, exprI_at, appI_at, ysOf_some, ysOf_none, ysOf_nil, setAll_cons, setAll_nil, dRevL_l, extP_at, extF_at, setN_at, setO_at, appPop_at, itemsOf_l, itemsOf_t, dIdxL_l, isT_bb, appM_at, asgM_at, dK_d, revs_at, revOf_l, revOf_t, s1, s2, g1, e1, e2, x0, x1, y0, cb, cb', c', lst, pl, ixo, f, LIM]
theorem zT_take (R : List (List Nat)) (n : Nat) : zT (R.take n) = (zT R).take n := by simp [-List.getD_eq_getElem?_getD, -List.length_flatten, lstK_l, optK_s, lsK_l, appF_at, appP_at, app1P_at, setP_at, set1P_at, pop1_at, pop1E_at, frK_r, gK_v, asgI_at, exprI_at, appI_at, ysOf_some, ysOf_none, ysOf_nil, setAll_cons, setAll_nil, dRevL_l, extP_at, extF_at, setN_at, setO_at, appPop_at, itemsOf_l, itemsOf_t, dIdxL_l, isT_bb, appM_at, asgM_at, dK_d, revs_at, revOf_l, revOf_t, zT, List.map_take]
theorem F_may_stand_eq {I : List Nat} {R : List (List Nat)} {r : Nat} (hr : r < R.length) (hR : R.length ≤ 1000) (d : D) (p l : Nat) :
    F_may_stand [.tuple [iT (zN I), bT (zT R), .int (r : Int)], d, .int (p : Int), .int (l : Int)] = .ret (.bool (mayStand I R r p l)) [] := by
  unfold F_may_stand b_may_stand
  rw [runF_eq]
  obtain ⟨row, hrow⟩ : ∃ row, row = R.getD r [] := ⟨_, rfl⟩
  have e1 : dIdx (bT (zT R)) (.int (r : Int)) = some (iT (zN row)) := by
    have := at_row (T := zT R) (k := r) (by rw [zT_len]; exact hr)
    rw [this, zT_at, hrow]
  have e2 : dSlT (iT (zN row)) none (some 1) = some (iT ((zN row).take 1)) := by
    have := dSlT_take' ((zN row).map PyData.int) 1
    rw [← List.map_take] at this
    exact this
  have e3 : dSlT (bT (zT R)) none (some (r : Int)) = some (bT (zT (R.take r))) := by
    have := dSlT_take' ((zT R).map iT) r
    rw [← List.map_take, ← zT_take] at this
    exact this
  obtain ⟨A, hA⟩ : ∃ A, A = bT (zT R) := ⟨_, rfl⟩
  obtain ⟨B, hB⟩ : ∃ B, B = iT (zN I) := ⟨_, rfl⟩
  obtain ⟨Z, hZ⟩ : ∃ Z, Z = iT (zN row) := ⟨_, rfl⟩
  obtain ⟨Y, hY⟩ : ∃ Y, Y = iT ((zN row).take 1) := ⟨_, rfl⟩
  -- the right neighbour
  have n1 : dNe Y (.tuple []) = some (.bool !(decide ((zN row).take 1 = []))) := by
    rw [hY]
    exact dNe_iT _ []
  unfold mayStand
  rw [← hrow]
  rw [← hA] at e1 e3 ⊢
  rw [← hB]
  rw [← hZ] at e1 e2
  rw [← hY] at e2
  show (seq (unp3 4 5 6 (var 0)) _ [some (.tuple [B, A, .int (r : Int)]), some d, some (.int (p : Int)), some (.int (l : Int)), none, none, none, none, none]).fin = _
  rw [seq_at, show unp3 4 5 6 (var 0) [some (.tuple [B, A, .int (r : Int)]), some d, some (.int (p : Int)), some (.int (l : Int)), none, none, none, none, none] = .nx [some (.tuple [B, A, .int (r : Int)]), some d, some (.int (p : Int)), some (.int (l : Int)), some B, some A, some (.int (r : Int)), none, none] from rfl, next_nx, seq_at,
    show asg 7 (sl dSlT (bi dIdx (var 5) (var 6)) onone (osome (cst (.int 1)))) [some (.tuple [B, A, .int (r : Int)]), some d, some (.int (p : Int)), some (.int (l : Int)), some B, some A, some (.int (r : Int)), none, none] = .nx [some (.tuple [B, A, .int (r : Int)]), some d, some (.int (p : Int)), some (.int (l : Int)), some B, some A, some (.int (r : Int)), some Y, none] by simp [-List.getD_eq_getElem?_getD, -List.length_flatten, lstK_l, optK_s, lsK_l, appF_at, appP_at, app1P_at, setP_at, set1P_at, pop1_at, pop1E_at, frK_r, gK_v, asgI_at, exprI_at, appI_at, ysOf_some, ysOf_none, ysOf_nil, setAll_cons, setAll_nil, dRevL_l, extP_at, extF_at, setN_at, setO_at, appPop_at, itemsOf_l, itemsOf_t, dIdxL_l, isT_bb, appM_at, asgM_at, dK_d, revs_at, revOf_l, revOf_t, e1, e2], next_nx, seq_at]
  have test : ifS (tand (bi dNe (var 7) (ltup anil)) (bi dGt (var 3) (bi dIdx (var 7) (cst (.int 0))))) (retS (cst (.bool false))) skip [some (.tuple [B, A, .int (r : Int)]), some d, some (.int (p : Int)), some (.int (l : Int)), some B, some A, some (.int (r : Int)), some Y, none] = if headOk row l then .nx [some (.tuple [B, A, .int (r : Int)]), some d, some (.int (p : Int)), some (.int (l : Int)), some B, some A, some (.int (r : Int)), some Y, none] else .ret (.bool false) [some (.tuple [B, A, .int (r : Int)]), some d, some (.int (p : Int)), some (.int (l : Int)), some B, some A, some (.int (r : Int)), some Y, none] := by
    cases row with
    | nil =>
      have n1 : dNe Y (.tuple []) = some (.bool false) := n1
      simp [-List.getD_eq_getElem?_getD, -List.length_flatten, lstK_l, optK_s, lsK_l, appF_at, appP_at, app1P_at, setP_at, set1P_at, pop1_at, pop1E_at, frK_r, gK_v, asgI_at, exprI_at, appI_at, ysOf_some, ysOf_none, ysOf_nil, setAll_cons, setAll_nil, dRevL_l, extP_at, extF_at, setN_at, setO_at, appPop_at, itemsOf_l, itemsOf_t, dIdxL_l, isT_bb, appM_at, asgM_at, dK_d, revs_at, revOf_l, revOf_t, n1, headOk, LIM]
    | cons x row =>
      have n1 : dNe Y (.tuple []) = some (.bool true) := n1
      have y0 : dIdx Y (.int 0) = some (.int (x : Int)) := by
        rw [hY]
        rfl
      unfold headOk
      by_cases c : l ≤ x
      · have c' : ¬ ((x : Int) < (l : Int)) := by omega
        rw [if_pos (decide_eq_true c)]
        simp [-List.getD_eq_getElem?_getD, -List.length_flatten, lstK_l, optK_s, lsK_l, appF_at, appP_at, app1P_at, setP_at, set1P_at, pop1_at, pop1E_at, frK_r, gK_v, asgI_at, exprI_at, appI_at, ysOf_some, ysOf_none, ysOf_nil, setAll_cons, setAll_nil, dRevL_l, extP_at, extF_at, setN_at, setO_at, appPop_at, itemsOf_l, itemsOf_t, dIdxL_l, isT_bb, appM_at, asgM_at, dK_d, revs_at, revOf_l, revOf_t, n1, y0, c', LIM]
      · have c' : (x : Int) < (l : Int) := by omega
        rw [if_neg (by simpa [-List.getD_eq_getElem?_getD, -List.length_flatten, lstK_l, optK_s, lsK_l, appF_at, appP_at, app1P_at, setP_at, set1P_at, pop1_at, pop1E_at, frK_r, gK_v, asgI_at, exprI_at, appI_at, ysOf_some, ysOf_none, ysOf_nil, setAll_cons, setAll_nil, dRevL_l, extP_at, extF_at, setN_at, setO_at, appPop_at, itemsOf_l, itemsOf_t, dIdxL_l, isT_bb, appM_at, asgM_at, dK_d, revs_at, revOf_l, revOf_t] using c)]
        simp [-List.getD_eq_getElem?_getD, -List.length_flatten, lstK_l, optK_s, lsK_l, appF_at, appP_at, app1P_at, setP_at, set1P_at, pop1_at, pop1E_at, frK_r, gK_v, asgI_at, exprI_at, appI_at, ysOf_some, ysOf_none, ysOf_nil, setAll_cons, setAll_nil, dRevL_l, extP_at, extF_at, setN_at, setO_at, appPop_at, itemsOf_l, itemsOf_t, dIdxL_l, isT_bb, appM_at, asgM_at, dK_d, revs_at, revOf_l, revOf_t, n1, y0, c', LIM]
  rw [test]
  by_cases hh : headOk row l
  · rw [if_pos hh, next_nx, hh, Bool.true_and]
    cases r with
    | zero =>
      have n2 : dIs .none .none = some (.bool true) := rfl
      simp [-List.getD_eq_getElem?_getD, -List.length_flatten, lstK_l, optK_s, lsK_l, appF_at, appP_at, app1P_at, setP_at, set1P_at, pop1_at, pop1E_at, frK_r, gK_v, asgI_at, exprI_at, appI_at, ysOf_some, ysOf_none, ysOf_nil, setAll_cons, setAll_nil, dRevL_l, extP_at, extF_at, setN_at, setO_at, appPop_at, itemsOf_l, itemsOf_t, dIdxL_l, isT_bb, appM_at, asgM_at, dK_d, revs_at, revOf_l, revOf_t, n2]
    | succ q =>
      have e4 := F_letter_at_eq (zN I) (zT (R.take (q + 1))) q (p : Int) (by rw [zT_len, List.length_take]; omega)
      rw [letAt_N] at e4
      unfold Mi.hD at e4
      rw [← hB] at e4
      obtain ⟨C, hC⟩ : ∃ C, C = bT (zT (R.take (q + 1))) := ⟨_, rfl⟩
      rw [← hC] at e3 e4
      have s1 : ((q + 1 : Nat) : Int) - 1 = (q : Int) := by omega
      have g1 : (0 : Int) < ((q + 1 : Nat) : Int) := by omega
      have le2 : (2 : Nat) ≤ LIM := by decide
      generalize ((q + 1 : Nat) : Int) = L at s1 g1 e3 ⊢
      show _ = FR.ret (.bool (aboveOk (letN I (R.take (q + 1)) q p) l)) []
      cases e : letN I (R.take (q + 1)) q p with
      | none =>
        rw [e] at e4
        have e4 : F_letter_at [.tuple [B, C], .int (q : Int), .int (p : Int)] = .ret .none [] := e4
        have n2 : dIs .none .none = some (.bool true) := rfl
        simp [-List.getD_eq_getElem?_getD, -List.length_flatten, lstK_l, optK_s, lsK_l, appF_at, appP_at, app1P_at, setP_at, set1P_at, pop1_at, pop1E_at, frK_r, gK_v, asgI_at, exprI_at, appI_at, ysOf_some, ysOf_none, ysOf_nil, setAll_cons, setAll_nil, dRevL_l, extP_at, extF_at, setN_at, setO_at, appPop_at, itemsOf_l, itemsOf_t, dIdxL_l, isT_bb, appM_at, asgM_at, dK_d, revs_at, revOf_l, revOf_t, g1, s1, e3, e4, n2, aboveOk, le2]
      | some a =>
        rw [e] at e4
        have e4 : F_letter_at [.tuple [B, C], .int (q : Int), .int (p : Int)] = .ret (.int (a : Int)) [] := e4
        have n2 : dIs (.int (a : Int)) .none = some (.bool false) := rfl
        show _ = FR.ret (.bool (decide (a < l))) []
        by_cases c : a < l
        · have c' : (a : Int) < (l : Int) := by omega
          rw [decide_eq_true c]
          simp [-List.getD_eq_getElem?_getD, -List.length_flatten, lstK_l, optK_s, lsK_l, appF_at, appP_at, app1P_at, setP_at, set1P_at, pop1_at, pop1E_at, frK_r, gK_v, asgI_at, exprI_at, appI_at, ysOf_some, ysOf_none, ysOf_nil, setAll_cons, setAll_nil, dRevL_l, extP_at, extF_at, setN_at, setO_at, appPop_at, itemsOf_l, itemsOf_t, dIdxL_l, isT_bb, appM_at, asgM_at, dK_d, revs_at, revOf_l, revOf_t, g1, s1, e3, e4, n2, c', le2]
        · have c' : ¬ ((a : Int) < (l : Int)) := by omega
          rw [decide_eq_false c]
          simp [-List.getD_eq_getElem?_getD, -List.length_flatten, lstK_l, optK_s, lsK_l, appF_at, appP_at, app1P_at, setP_at, set1P_at, pop1_at, pop1E_at, frK_r, gK_v, asgI_at, exprI_at, appI_at, ysOf_some, ysOf_none, ysOf_nil, setAll_cons, setAll_nil, dRevL_l, extP_at, extF_at, setN_at, setO_at, appPop_at, itemsOf_l, itemsOf_t, dIdxL_l, isT_bb, appM_at, asgM_at, dK_d, revs_at, revOf_l, revOf_t, g1, s1, e3, e4, n2, c', le2]
  · rw [if_neg hh]
    have : headOk row l = false := by simpa [-List.getD_eq_getElem?_getD, -List.length_flatten, lstK_l, optK_s, lsK_l, appF_at, appP_at, app1P_at, setP_at, set1P_at, pop1_at, pop1E_at, frK_r, gK_v, asgI_at, exprI_at, appI_at, ysOf_some, ysOf_none, ysOf_nil, setAll_cons, setAll_nil, dRevL_l, extP_at, extF_at, setN_at, setO_at, appPop_at, itemsOf_l, itemsOf_t, dIdxL_l, isT_bb, appM_at, asgM_at, dK_d, revs_at, revOf_l, revOf_t] using hh
    rw [this, Bool.false_and]
    rfl
end Mi

namespace Mi
open PySem
/-! ### loops over pairs -/
theorem forL2_M {A : Type} {P : SR → Prop} {x y : Nat} {b g : En → SR} (f1 f2 : A → D) (I : En → List A → Prop) : ∀ (l : List A) (r : En), I r l → (∀ r a l, I r (a :: l) → Tn P (fun r' => I r' l) (b ((r.set x (some (f1 a))).set y (some (f2 a))))) → (∀ r', I r' [] → P (g r')) → P ((forL2 x y b (l.map fun a => .tuple [f1 a, f2 a]) r).next g)
  | [], r, h0, _, c => c r h0
  | a :: l, r, h0, q, c => by
    have h := q r a l h0
    show P ((match b ((r.set x (some (f1 a))).set y (some (f2 a))) with
      | .nx r' => forL2 x y b (l.map fun a => .tuple [f1 a, f2 a]) r'
      | a => a).next g)
    cases h with
    | go e k =>
      rw [e]
      exact forL2_M f1 f2 I l _ k q c
    | tell e k =>
      rw [e]
      exact k
theorem for2_tM {A : Type} {P : SR → Prop} {x y : Nat} {b g : En → SR} {r : En} {i : En → ER (List D)} {l : List A} (f1 f2 : A → D) (I : En → List A → Prop) (hi : i r = .val (l.map fun a => .tuple [f1 a, f2 a])) (h0 : I r l)
    (q : ∀ r a l, I r (a :: l) → Tn P (fun r' => I r' l) (b ((r.set x (some (f1 a))).set y (some (f2 a))))) (c : ∀ r', I r' [] → P (g r')) : P ((forS2 x y i b r).next g) := by
  unfold forS2
  rw [hi]
  exact forL2_M f1 f2 I l r h0 q c
theorem lc2_M {A : Type} {x y : Nat} {i : En → ER (List D)} {e : En → ER D} {r : En} {l : List A} (f1 f2 h : A → D) (hi : i r = .val (l.map fun a => .tuple [f1 a, f2 a])) (hl : l.length ≤ LIM) (h2 : ∀ a ∈ l, e ((r.set x (some (f1 a))).set y (some (f2 a))) = .val (h a)) :
    lc2 x y i (cst (.bool true)) e r = .val (.list (l.map h)) := by
  have go : ∀ l : List A, (∀ a ∈ l, e ((r.set x (some (f1 a))).set y (some (f2 a))) = .val (h a)) → lcGo2 x y (cst (.bool true)) e r (l.map fun a => .tuple [f1 a, f2 a]) = .val (l.map h) := by
    intro l
    induction l with
    | nil => intro _; rfl
    | cons a l ih =>
      intro q
      have ih := ih fun b hb => q b (List.mem_cons_of_mem _ hb)
      have h1 := q a List.mem_cons_self
      show (match e ((r.set x (some (f1 a))).set y (some (f2 a))) with
        | .val z => (lcGo2 x y (cst (.bool true)) e r (l.map fun a => .tuple [f1 a, f2 a])).bind fun zs => ER.val (z :: zs)
        | _ => .stuck) = _
      rw [h1, ih]
      rfl
  unfold lc2
  rw [hi, ER.bind_val, go l h2, ER.bind_val, if_pos (by rw [List.length_map]; exact hl)]
  rfl
/-! ### fillings -/
def csD (cs : Cs) : D := .list (cs.map prD)
def rcD (rc : RC) : D := .tuple [bT (zT rc.1), csD rc.2]
theorem zT_app (R S : List (List Nat)) : zT (R ++ S) = zT R ++ zT S := by simp [-List.getD_eq_getElem?_getD, -List.length_flatten, lstK_l, optK_s, lsK_l, appF_at, appP_at, app1P_at, setP_at, set1P_at, pop1_at, pop1E_at, frK_r, gK_v, asgI_at, exprI_at, appI_at, ysOf_some, ysOf_none, ysOf_nil, setAll_cons, setAll_nil, dRevL_l, extP_at, extF_at, setN_at, setO_at, appPop_at, itemsOf_l, itemsOf_t, dIdxL_l, isT_bb, appM_at, asgM_at, dK_d, revs_at, revOf_l, revOf_t, zT]
theorem F_filled_eq {I O : List Nat} {found : List RC} {r m c : Nat} (hm : m ≤ 6) (hO : r < O.length) (hIO : partN I r ≤ partN O r) (hO16 : partN O r ≤ 100) (hr : r ≤ 100) (h : ∀ rc ∈ found, Rc m r c rc) (hc : c ≤ 100) (hb : found.length * m ^ (partN O r - partN I r) ≤ 50000) (hmid : ∀ k, k ≤ partN O r - partN I r → found.length * m ^ k ≤ 50000) :
    F_filled [iT (zN I), iT (zN O), .list (found.map rcD), .int (r : Int)] = .ret (.list ((filledN I O found r).map rcD)) [] := by
  unfold F_filled b_filled
  rw [runF_eq]
  obtain ⟨n, hn⟩ : ∃ n, n = partN O r - partN I r := ⟨_, rfl⟩
  obtain ⟨A, hA⟩ : ∃ A, A = iT (zN I) := ⟨_, rfl⟩
  obtain ⟨B, hB⟩ : ∃ B, B = iT (zN O) := ⟨_, rfl⟩
  obtain ⟨F0, hF0⟩ : ∃ F0, F0 = PyData.list (found.map rcD) := ⟨_, rfl⟩
  have e1 : dIdx B (.int (r : Int)) = some (.int (partN O r : Int)) := by rw [hB]; exact zN_ix hO
  have e2 : F_part_at [A, .int (r : Int)] = .ret (.int (partN I r : Int)) [] := by rw [hA, F_part_at_eq, zN_at]; rfl
  have l0 : found.length ≤ 50000 := by have := hmid 0 (Nat.zero_le _); simpa [-List.getD_eq_getElem?_getD, -List.length_flatten, lstK_l, optK_s, lsK_l, appF_at, appP_at, app1P_at, setP_at, set1P_at, pop1_at, pop1E_at, frK_r, gK_v, asgI_at, exprI_at, appI_at, ysOf_some, ysOf_none, ysOf_nil, setAll_cons, setAll_nil, dRevL_l, extP_at, extF_at, setN_at, setO_at, appPop_at, itemsOf_l, itemsOf_t, dIdxL_l, isT_bb, appM_at, asgM_at, dK_d, revs_at, revOf_l, revOf_t] using this
  have st : ∀ rc ∈ found.map newRow, Rc m (r + 1) c rc := fun x hx => by
    obtain ⟨rc, hrc, rfl⟩ := List.mem_map.mp hx
    exact (h rc hrc).new
  rw [← hA, ← hB]
  show (seq (asg 4 _) _ [some A, some B, some (.list (found.map rcD)), some (.int (r : Int)), none, none, none, none, none, none, none, none]).fin = _
  have c1 : lc2 8 9 (its (var 2)) (cst (.bool true)) (ltup (acons (bi dAdd (var 8) (ltup (acons (ltup anil) anil))) (acons (var 9) anil))) [some A, some B, some (.list (found.map rcD)), some (.int (r : Int)), none, none, none, none, none, none, none, none] = .val (.list ((found.map newRow).map rcD)) := by
    rw [lc2_M (l := found) (fun rc => bT (zT rc.1)) (fun rc => csD rc.2) (fun rc => rcD (newRow rc)) (by simp [-List.getD_eq_getElem?_getD, -List.length_flatten, lstK_l, optK_s, lsK_l, appF_at, appP_at, app1P_at, setP_at, set1P_at, pop1_at, pop1E_at, frK_r, gK_v, asgI_at, exprI_at, appI_at, ysOf_some, ysOf_none, ysOf_nil, setAll_cons, setAll_nil, dRevL_l, extP_at, extF_at, setN_at, setO_at, appPop_at, itemsOf_l, itemsOf_t, dIdxL_l, isT_bb, appM_at, asgM_at, dK_d, revs_at, revOf_l, revOf_t]; intros; rfl) (by unfold LIM; omega) fun rc hrc => by
      have hx := h rc hrc
      have a1 : dAdd (bT (zT rc.1)) (.tuple [.tuple []]) = some (bT (zT (rc.1 ++ [[]]))) := by
        rw [dAdd_t, if_pos (by rw [List.length_map, zT_len, hx.len]; unfold LIM; simp [-List.getD_eq_getElem?_getD, -List.length_flatten, lstK_l, optK_s, lsK_l, appF_at, appP_at, app1P_at, setP_at, set1P_at, pop1_at, pop1E_at, frK_r, gK_v, asgI_at, exprI_at, appI_at, ysOf_some, ysOf_none, ysOf_nil, setAll_cons, setAll_nil, dRevL_l, extP_at, extF_at, setN_at, setO_at, appPop_at, itemsOf_l, itemsOf_t, dIdxL_l, isT_bb, appM_at, asgM_at, dK_d, revs_at, revOf_l, revOf_t]; omega), zT_app]
        show _ = some (PyData.tuple ((zT rc.1 ++ zT [[]]).map iT))
        rw [List.map_append]
        rfl
      obtain ⟨X, hX⟩ : ∃ X, X = bT (zT rc.1) := ⟨_, rfl⟩
      obtain ⟨Y, hY⟩ : ∃ Y, Y = csD rc.2 := ⟨_, rfl⟩
      obtain ⟨Z, hZ⟩ : ∃ Z, Z = bT (zT (rc.1 ++ [[]])) := ⟨_, rfl⟩
      unfold rcD newRow
      dsimp only
      rw [← hX] at a1 ⊢
      rw [← hY]
      rw [← hZ] at a1 ⊢
      simp [-List.getD_eq_getElem?_getD, -List.length_flatten, lstK_l, optK_s, lsK_l, appF_at, appP_at, app1P_at, setP_at, set1P_at, pop1_at, pop1E_at, frK_r, gK_v, asgI_at, exprI_at, appI_at, ysOf_some, ysOf_none, ysOf_nil, setAll_cons, setAll_nil, dRevL_l, extP_at, extF_at, setN_at, setO_at, appPop_at, itemsOf_l, itemsOf_t, dIdxL_l, isT_bb, appM_at, asgM_at, dK_d, revs_at, revOf_l, revOf_t, -dAdd_t, a1, LIM]]
    rw [List.map_map]
    rfl
  rw [seq_at, asg_at, c1, ER.toS_val, next_nx, seq_at]
  rw [← hF0]
  refine for_t (P := fun x => x.fin = _) (lo := 0) (n := n) (I := fun q k => ∃ z1 z2 z3 z4 z5 z6 z7, q = [some A, some B, some F0, some (.int (r : Int)), some (.list ((fillK I O r (found.map newRow) k).map rcD)), z1, z2, z3, z4, z5, z6, z7]) (rng1_val (by
    have : (partN O r : Int) - (partN I r : Int) = (n : Int) := by omega
    simp [-List.getD_eq_getElem?_getD, -List.length_flatten, lstK_l, optK_s, lsK_l, appF_at, appP_at, app1P_at, setP_at, set1P_at, pop1_at, pop1E_at, frK_r, gK_v, asgI_at, exprI_at, appI_at, ysOf_some, ysOf_none, ysOf_nil, setAll_cons, setAll_nil, dRevL_l, extP_at, extF_at, setN_at, setO_at, appPop_at, itemsOf_l, itemsOf_t, dIdxL_l, isT_bb, appM_at, asgM_at, dK_d, revs_at, revOf_l, revOf_t, e1, e2, this]) (by omega)) ⟨_, _, _, _, _, _, _, rfl⟩ ?_ ?_
  · rintro q k _ hk ⟨z1, z2, z3, z4, z5, z6, z7, rfl⟩
    rw [Nat.zero_add] at hk
    obtain ⟨made, hmade⟩ : ∃ made, made = fillK I O r (found.map newRow) k := ⟨_, rfl⟩
    have ok := fillK_ok (I := I) (O := O) st k
    have ok2 := fillK_ok (I := I) (O := O) st (k + 1)
    rw [← hmade, List.length_map] at ok
    rw [fillK_succ, ← hmade, List.length_map] at ok2
    have b1 := hmid k (by omega)
    have b2 := hmid (k + 1) (by omega)
    rw [fillK_succ, ← hmade]
    obtain ⟨p, hp⟩ : ∃ p, p = partN O r - 1 - k := ⟨_, rfl⟩
    rw [← hp] at ok2 ⊢
    have hpi : (partN O r : Int) - 1 - (k : Int) = (p : Int) := by omega
    show Tn _ _ (seq (asg 6 (bi dSub (bi dSub (bi dIdx (var 1) (var 3)) (cst (.int 1))) (var 5))) _ [some A, some B, some F0, some (.int (r : Int)), some (.list (made.map rcD)), some (.int (k : Int)), z2, z3, z4, z5, z6, z7])
    rw [seq_at, show asg 6 (bi dSub (bi dSub (bi dIdx (var 1) (var 3)) (cst (.int 1))) (var 5)) [some A, some B, some F0, some (.int (r : Int)), some (.list (made.map rcD)), some (.int (k : Int)), z2, z3, z4, z5, z6, z7] = .nx [some A, some B, some F0, some (.int (r : Int)), some (.list (made.map rcD)), some (.int (k : Int)), some (.int (p : Int)), z3, z4, z5, z6, z7] by simp [-List.getD_eq_getElem?_getD, -List.length_flatten, lstK_l, optK_s, lsK_l, appF_at, appP_at, app1P_at, setP_at, set1P_at, pop1_at, pop1E_at, frK_r, gK_v, asgI_at, exprI_at, appI_at, ysOf_some, ysOf_none, ysOf_nil, setAll_cons, setAll_nil, dRevL_l, extP_at, extF_at, setN_at, setO_at, appPop_at, itemsOf_l, itemsOf_t, dIdxL_l, isT_bb, appM_at, asgM_at, dK_d, revs_at, revOf_l, revOf_t, e1, hpi], next_nx, seq_at,
      show asg 7 (asL (llst anil)) [some A, some B, some F0, some (.int (r : Int)), some (.list (made.map rcD)), some (.int (k : Int)), some (.int (p : Int)), z3, z4, z5, z6, z7] = .nx [some A, some B, some F0, some (.int (r : Int)), some (.list (made.map rcD)), some (.int (k : Int)), some (.int (p : Int)), some (.list (([] : List RC).map rcD)), z4, z5, z6, z7] by simp [-List.getD_eq_getElem?_getD, -List.length_flatten, lstK_l, optK_s, lsK_l, appF_at, appP_at, app1P_at, setP_at, set1P_at, pop1_at, pop1E_at, frK_r, gK_v, asgI_at, exprI_at, appI_at, ysOf_some, ysOf_none, ysOf_nil, setAll_cons, setAll_nil, dRevL_l, extP_at, extF_at, setN_at, setO_at, appPop_at, itemsOf_l, itemsOf_t, dIdxL_l, isT_bb, appM_at, asgM_at, dK_d, revs_at, revOf_l, revOf_t, asL_at], next_nx, seq_at]
    refine for2_tM (P := Tn _ _) (l := made) (fun rc => bT (zT rc.1)) (fun rc => csD rc.2) (I := fun q m' => ∃ M w1 w2 w3 w4, q = [some A, some B, some F0, some (.int (r : Int)), some (.list (made.map rcD)), some (.int (k : Int)), some (.int (p : Int)), some (.list ((M : List RC).map rcD)), w1, w2, w3, w4] ∧ M ++ fillCell I r p m' = fillCell I r p made ∧ ∀ x ∈ m', x ∈ made) (by simp [-List.getD_eq_getElem?_getD, -List.length_flatten, lstK_l, optK_s, lsK_l, appF_at, appP_at, app1P_at, setP_at, set1P_at, pop1_at, pop1E_at, frK_r, gK_v, asgI_at, exprI_at, appI_at, ysOf_some, ysOf_none, ysOf_nil, setAll_cons, setAll_nil, dRevL_l, extP_at, extF_at, setN_at, setO_at, appPop_at, itemsOf_l, itemsOf_t, dIdxL_l, isT_bb, appM_at, asgM_at, dK_d, revs_at, revOf_l, revOf_t]; intros; rfl) ⟨[], _, _, _, _, rfl, rfl, fun _ hx => hx⟩ ?_ ?_
    · rintro q rc m' ⟨M, w1, w2, w3, w4, rfl, h1, h2⟩
      have hx := ok.1 rc (h2 rc List.mem_cons_self)
      have h1 : M ++ (fillOne I r p rc ++ fillCell I r p m') = fillCell I r p made := h1
      rw [← List.append_assoc] at h1
      have lM : (M ++ fillOne I r p rc).length ≤ 50000 := by
        have e : (M ++ fillOne I r p rc).length ≤ (fillCell I r p made).length := by
          rw [← h1, List.length_append (as := M ++ fillOne I r p rc)]
          exact Nat.le_add_right _ _
        omega
      obtain ⟨X, hX⟩ : ∃ X, X = bT (zT rc.1) := ⟨_, rfl⟩
      obtain ⟨L4, hL4⟩ : ∃ L4, L4 = PyData.list (made.map rcD) := ⟨_, rfl⟩
      rw [← hX, ← hL4]
      have lc : dLen (csD rc.2) = some (.int (m : Int)) := by
        unfold csD
        simp [-List.getD_eq_getElem?_getD, -List.length_flatten, lstK_l, optK_s, lsK_l, appF_at, appP_at, app1P_at, setP_at, set1P_at, pop1_at, pop1E_at, frK_r, gK_v, asgI_at, exprI_at, appI_at, ysOf_some, ysOf_none, ysOf_nil, setAll_cons, setAll_nil, dRevL_l, extP_at, extF_at, setN_at, setO_at, appPop_at, itemsOf_l, itemsOf_t, dIdxL_l, isT_bb, appM_at, asgM_at, dK_d, revs_at, revOf_l, revOf_t, hx.cs]
      obtain ⟨Y, hY⟩ : ∃ Y, Y = csD rc.2 := ⟨_, rfl⟩
      rw [← hY] at lc ⊢
      show Tn _ _ (forS 10 (rng2 (acons (cst (.int 1)) (acons (bi dAdd (un dLen (var 9)) (cst (.int 1))) anil))) _ [some A, some B, some F0, some (.int (r : Int)), some L4, some (.int (k : Int)), some (.int (p : Int)), some (.list (M.map rcD)), some X, some Y, w3, w4])
      refine for_t0 (P := Tn _ _) (lo := 1) (n := m) (I := fun q j => ∃ N v1 v2, q = [some A, some B, some F0, some (.int (r : Int)), some L4, some (.int (k : Int)), some (.int (p : Int)), some (.list ((N : List RC).map rcD)), some X, some Y, v1, v2] ∧ N = M ++ (List.range (j - 1)).flatMap fun i => fillLet I r p rc (i + 1)) (by
        simp [-List.getD_eq_getElem?_getD, -List.length_flatten, lstK_l, optK_s, lsK_l, appF_at, appP_at, app1P_at, setP_at, set1P_at, pop1_at, pop1E_at, frK_r, gK_v, asgI_at, exprI_at, appI_at, ysOf_some, ysOf_none, ysOf_nil, setAll_cons, setAll_nil, dRevL_l, extP_at, extF_at, setN_at, setO_at, appPop_at, itemsOf_l, itemsOf_t, dIdxL_l, isT_bb, appM_at, asgM_at, dK_d, revs_at, revOf_l, revOf_t, lc]
        rw [show ([PyData.int 1, PyData.int ((m : Int) + 1)] : List D) = [.int ((1 : Nat) : Int), .int ((m + 1 : Nat) : Int)] from rfl, dRng2_nat (by decide) (by omega), Nat.add_sub_cancel]
        rfl) ⟨M, _, _, rfl, by simp [-List.getD_eq_getElem?_getD, -List.length_flatten, lstK_l, optK_s, lsK_l, appF_at, appP_at, app1P_at, setP_at, set1P_at, pop1_at, pop1E_at, frK_r, gK_v, asgI_at, exprI_at, appI_at, ysOf_some, ysOf_none, ysOf_nil, setAll_cons, setAll_nil, dRevL_l, extP_at, extF_at, setN_at, setO_at, appPop_at, itemsOf_l, itemsOf_t, dIdxL_l, isT_bb, appM_at, asgM_at, dK_d, revs_at, revOf_l, revOf_t]⟩ ?_ ?_
      · rintro q j hj1 hj2 ⟨N, v1, v2, rfl, hN⟩
        obtain ⟨i, rfl⟩ : ∃ i, j = i + 1 := ⟨j - 1, by omega⟩
        rw [Nat.add_sub_cancel] at hN
        have lN : N.length + (fillLet I r p rc (i + 1)).length ≤ 50000 := by
          have e0 : (N ++ fillLet I r p rc (i + 1)).length ≤ (M ++ fillOne I r p rc).length := by
            rw [hN, List.append_assoc]
            have : (List.range (i + 1)).flatMap (fun i => fillLet I r p rc (i + 1)) = (List.range i).flatMap (fun i => fillLet I r p rc (i + 1)) ++ fillLet I r p rc (i + 1) := by
              rw [List.range_succ, List.flatMap_append]
              simp [-List.getD_eq_getElem?_getD, -List.length_flatten, lstK_l, optK_s, lsK_l, appF_at, appP_at, app1P_at, setP_at, set1P_at, pop1_at, pop1E_at, frK_r, gK_v, asgI_at, exprI_at, appI_at, ysOf_some, ysOf_none, ysOf_nil, setAll_cons, setAll_nil, dRevL_l, extP_at, extF_at, setN_at, setO_at, appPop_at, itemsOf_l, itemsOf_t, dIdxL_l, isT_bb, appM_at, asgM_at, dK_d, revs_at, revOf_l, revOf_t]
            rw [← this, List.length_append, List.length_append]
            have : ((List.range (i + 1)).flatMap fun i => fillLet I r p rc (i + 1)).length ≤ (fillOne I r p rc).length := by
              unfold fillOne
              obtain ⟨d, hd⟩ : ∃ d, rc.2.length = (i + 1) + d := ⟨rc.2.length - (i + 1), by rw [hx.cs]; omega⟩
              have er : List.range (i + 1 + d) = List.range (i + 1) ++ (List.range d).map (i + 1 + ·) := List.range_add ..
              rw [hd, er, List.flatMap_append, List.length_append]
              exact Nat.le_add_right _ _
            omega
          rw [List.length_append] at e0
          omega
        have f1 := F_counted_eq (cs := rc.2) (l := i + 1) (by omega) (by rw [hx.cs]; omega) (by rw [hx.cs]; omega)
        have f2 := F_may_stand_eq (I := I) (R := rc.1) (r := r) (by rw [hx.len]; omega) (by rw [hx.len]; omega) B p (i + 1)
        have f1 : F_counted [csD rc.2, .int ((i + 1 : Nat) : Int)] = _ := f1
        rw [← hY] at f1
        rw [← hX, ← hA] at f2
        have nxt : ∀ N' : List RC, N' = N ++ fillLet I r p rc (i + 1) → N' = M ++ (List.range (i + 1 + 1 - 1)).flatMap fun i => fillLet I r p rc (i + 1) := fun N' e => by
          rw [e, hN, Nat.add_sub_cancel, List.range_succ, List.flatMap_append, List.append_assoc]
          simp [-List.getD_eq_getElem?_getD, -List.length_flatten, lstK_l, optK_s, lsK_l, appF_at, appP_at, app1P_at, setP_at, set1P_at, pop1_at, pop1E_at, frK_r, gK_v, asgI_at, exprI_at, appI_at, ysOf_some, ysOf_none, ysOf_nil, setAll_cons, setAll_nil, dRevL_l, extP_at, extF_at, setN_at, setO_at, appPop_at, itemsOf_l, itemsOf_t, dIdxL_l, isT_bb, appM_at, asgM_at, dK_d, revs_at, revOf_l, revOf_t]
        have le3 : (3 : Nat) ≤ LIM := by decide
        have le2 : (2 : Nat) ≤ LIM := by decide
        cases ec : countedN rc.2 (i + 1) with
        | none =>
          rw [ec] at f1
          have f1 : F_counted [Y, .int ((i + 1 : Nat) : Int)] = .ret .none [] := f1
          have n1 : dNot .none .none = some (.bool false) := rfl
          have em : fillLet I r p rc (i + 1) = [] := by unfold fillLet; rw [ec]
          generalize ((i + 1 : Nat) : Int) = J at f1 f2 ⊢
          exact .go (r' := [some A, some B, some F0, some (.int (r : Int)), some L4, some (.int (k : Int)), some (.int (p : Int)), some (.list (N.map rcD)), some X, some Y, some (.int J), some .none]) (by simp [-List.getD_eq_getElem?_getD, -List.length_flatten, lstK_l, optK_s, lsK_l, appF_at, appP_at, app1P_at, setP_at, set1P_at, pop1_at, pop1E_at, frK_r, gK_v, asgI_at, exprI_at, appI_at, ysOf_some, ysOf_none, ysOf_nil, setAll_cons, setAll_nil, dRevL_l, extP_at, extF_at, setN_at, setO_at, appPop_at, itemsOf_l, itemsOf_t, dIdxL_l, isT_bb, appM_at, asgM_at, dK_d, revs_at, revOf_l, revOf_t, f1, n1]) ⟨N, _, _, rfl, nxt N (by rw [em, List.append_nil])⟩
        | some cs =>
          rw [ec] at f1
          have f1 : F_counted [Y, .int ((i + 1 : Nat) : Int)] = .ret (csD cs) [] := f1
          have n1 : dNot (csD cs) .none = some (.bool true) := rfl
          obtain ⟨Y2, hY2⟩ : ∃ Y2, Y2 = csD cs := ⟨_, rfl⟩
          rw [← hY2] at f1 n1
          cases em : mayStand I rc.1 r p (i + 1) with
          | false =>
            rw [em] at f2
            have e0 : fillLet I r p rc (i + 1) = [] := by unfold fillLet; rw [ec]; simp [-List.getD_eq_getElem?_getD, -List.length_flatten, lstK_l, optK_s, lsK_l, appF_at, appP_at, app1P_at, setP_at, set1P_at, pop1_at, pop1E_at, frK_r, gK_v, asgI_at, exprI_at, appI_at, ysOf_some, ysOf_none, ysOf_nil, setAll_cons, setAll_nil, dRevL_l, extP_at, extF_at, setN_at, setO_at, appPop_at, itemsOf_l, itemsOf_t, dIdxL_l, isT_bb, appM_at, asgM_at, dK_d, revs_at, revOf_l, revOf_t, em]
            generalize ((i + 1 : Nat) : Int) = J at f1 f2 ⊢
            exact .go (r' := [some A, some B, some F0, some (.int (r : Int)), some L4, some (.int (k : Int)), some (.int (p : Int)), some (.list (N.map rcD)), some X, some Y, some (.int J), some Y2]) (by simp [-List.getD_eq_getElem?_getD, -List.length_flatten, lstK_l, optK_s, lsK_l, appF_at, appP_at, app1P_at, setP_at, set1P_at, pop1_at, pop1E_at, frK_r, gK_v, asgI_at, exprI_at, appI_at, ysOf_some, ysOf_none, ysOf_nil, setAll_cons, setAll_nil, dRevL_l, extP_at, extF_at, setN_at, setO_at, appPop_at, itemsOf_l, itemsOf_t, dIdxL_l, isT_bb, appM_at, asgM_at, dK_d, revs_at, revOf_l, revOf_t, f1, n1, f2, le3]) ⟨N, _, _, rfl, nxt N (by rw [e0, List.append_nil])⟩
          | true =>
            rw [em] at f2
            have e0 : fillLet I r p rc (i + 1) = [(rc.1.take r ++ [(i + 1) :: rc.1.getD r []], cs)] := by unfold fillLet; rw [ec]; simp [-List.getD_eq_getElem?_getD, -List.length_flatten, lstK_l, optK_s, lsK_l, appF_at, appP_at, app1P_at, setP_at, set1P_at, pop1_at, pop1E_at, frK_r, gK_v, asgI_at, exprI_at, appI_at, ysOf_some, ysOf_none, ysOf_nil, setAll_cons, setAll_nil, dRevL_l, extP_at, extF_at, setN_at, setO_at, appPop_at, itemsOf_l, itemsOf_t, dIdxL_l, isT_bb, appM_at, asgM_at, dK_d, revs_at, revOf_l, revOf_t, em]
            have hrr : r < rc.1.length := by rw [hx.len]; omega
            have x1 : dSlT X none (some (r : Int)) = some (bT (zT (rc.1.take r))) := by
              rw [hX]
              have := dSlT_take' ((zT rc.1).map iT) r
              rw [← List.map_take, ← zT_take] at this
              exact this
            have x2 : dIdx X (.int (r : Int)) = some (iT (zN (rc.1.getD r []))) := by
              rw [hX]
              have := at_row (T := zT rc.1) (k := r) (by rw [zT_len]; exact hrr)
              rw [this, zT_at]
            have lrow : (rc.1.getD r []).length ≤ c + k := by
              have : rc.1.getD r [] ∈ rc.1 := by
                rw [List.getD_eq_getElem?_getD, List.getElem?_eq_getElem hrr]
                exact List.getElem_mem hrr
              exact hx.row _ this
            have x3 : dAdd (.tuple [.int ((i + 1 : Nat) : Int)]) (iT (zN (rc.1.getD r []))) = some (iT (zN ((i + 1) :: rc.1.getD r []))) := by
              rw [dAdd_t, if_pos (by rw [List.length_map, zN_len]; unfold LIM; simp [-List.getD_eq_getElem?_getD, -List.length_flatten, lstK_l, optK_s, lsK_l, appF_at, appP_at, app1P_at, setP_at, set1P_at, pop1_at, pop1E_at, frK_r, gK_v, asgI_at, exprI_at, appI_at, ysOf_some, ysOf_none, ysOf_nil, setAll_cons, setAll_nil, dRevL_l, extP_at, extF_at, setN_at, setO_at, appPop_at, itemsOf_l, itemsOf_t, dIdxL_l, isT_bb, appM_at, asgM_at, dK_d, revs_at, revOf_l, revOf_t]; omega)]
              rfl
            have x4 : dAdd (bT (zT (rc.1.take r))) (.tuple [iT (zN ((i + 1) :: rc.1.getD r []))]) = some (bT (zT (rc.1.take r ++ [(i + 1) :: rc.1.getD r []]))) := by
              rw [dAdd_t, if_pos (by rw [List.length_map, zT_len, List.length_take]; unfold LIM; simp [-List.getD_eq_getElem?_getD, -List.length_flatten, lstK_l, optK_s, lsK_l, appF_at, appP_at, app1P_at, setP_at, set1P_at, pop1_at, pop1E_at, frK_r, gK_v, asgI_at, exprI_at, appI_at, ysOf_some, ysOf_none, ysOf_nil, setAll_cons, setAll_nil, dRevL_l, extP_at, extF_at, setN_at, setO_at, appPop_at, itemsOf_l, itemsOf_t, dIdxL_l, isT_bb, appM_at, asgM_at, dK_d, revs_at, revOf_l, revOf_t]; omega), zT_app]
              show _ = some (PyData.tuple ((zT (rc.1.take r) ++ zT [(i + 1) :: rc.1.getD r []]).map iT))
              rw [List.map_append]
              rfl
            have lN' : N.length < LIM := by unfold LIM; omega
            obtain ⟨X1, hX1⟩ : ∃ X1, X1 = bT (zT (rc.1.take r)) := ⟨_, rfl⟩
            obtain ⟨X2, hX2⟩ : ∃ X2, X2 = iT (zN (rc.1.getD r [])) := ⟨_, rfl⟩
            obtain ⟨X3, hX3⟩ : ∃ X3, X3 = iT (zN ((i + 1) :: rc.1.getD r [])) := ⟨_, rfl⟩
            obtain ⟨X4, hX4⟩ : ∃ X4, X4 = bT (zT (rc.1.take r ++ [(i + 1) :: rc.1.getD r []])) := ⟨_, rfl⟩
            rw [← hX1] at x1 x4
            rw [← hX2] at x2 x3
            rw [← hX3] at x3 x4
            rw [← hX4] at x4
            have app : (N.map rcD) ++ [.tuple [X4, Y2]] = (N ++ [(rc.1.take r ++ [(i + 1) :: rc.1.getD r []], cs)]).map rcD := by
              rw [List.map_append, hX4, hY2]
              rfl
            obtain ⟨N2, hN2⟩ : ∃ N2, N2 = (N ++ [(rc.1.take r ++ [(i + 1) :: rc.1.getD r []], cs)]) := ⟨_, rfl⟩
            rw [← hN2] at app
            generalize ((i + 1 : Nat) : Int) = J at f1 f2 x3 ⊢
            refine .go (r' := [some A, some B, some F0, some (.int (r : Int)), some L4, some (.int (k : Int)), some (.int (p : Int)), some (.list (N2.map rcD)), some X, some Y, some (.int J), some Y2]) ?_ ⟨N2, _, _, rfl, nxt N2 (by rw [e0, hN2])⟩
            rw [← app]
            have le1 : (1 : Nat) ≤ LIM := by decide
            simp [-List.getD_eq_getElem?_getD, -List.length_flatten, lstK_l, optK_s, lsK_l, appF_at, appP_at, app1P_at, setP_at, set1P_at, pop1_at, pop1E_at, frK_r, gK_v, asgI_at, exprI_at, appI_at, ysOf_some, ysOf_none, ysOf_nil, setAll_cons, setAll_nil, dRevL_l, extP_at, extF_at, setN_at, setO_at, appPop_at, itemsOf_l, itemsOf_t, dIdxL_l, isT_bb, appM_at, asgM_at, dK_d, revs_at, revOf_l, revOf_t, -dAdd_t, f1, n1, f2, le3, le2, le1, x1, x2, x3, x4, lN']
      · rintro q ⟨N, v1, v2, rfl, hN⟩
        rw [Nat.add_sub_cancel_left] at hN
        have e0 : N = M ++ fillOne I r p rc := by rw [hN]; unfold fillOne; rw [hx.cs]
        exact .go rfl ⟨N, _, _, _, _, rfl, by rw [e0]; exact h1, fun x hx => h2 x (List.mem_cons_of_mem _ hx)⟩
    · rintro q ⟨M, w1, w2, w3, w4, rfl, h1, _⟩
      have h1 : M ++ [] = fillCell I r p made := h1
      rw [List.append_nil] at h1
      subst h1
      exact .go (r' := [some A, some B, some F0, some (.int (r : Int)), some (.list ((fillCell I r p made).map rcD)), some (.int (k : Int)), some (.int (p : Int)), none, w1, w2, w3, w4]) (by simp [-List.getD_eq_getElem?_getD, -List.length_flatten, lstK_l, optK_s, lsK_l, appF_at, appP_at, app1P_at, setP_at, set1P_at, pop1_at, pop1E_at, frK_r, gK_v, asgI_at, exprI_at, appI_at, ysOf_some, ysOf_none, ysOf_nil, setAll_cons, setAll_nil, dRevL_l, extP_at, extF_at, setN_at, setO_at, appPop_at, itemsOf_l, itemsOf_t, dIdxL_l, isT_bb, appM_at, asgM_at, dK_d, revs_at, revOf_l, revOf_t]) ⟨_, _, _, _, _, _, _, rfl⟩
  · rintro q ⟨z1, z2, z3, z4, z5, z6, z7, rfl⟩
    rw [Nat.zero_add]
    have e0 : filledN I O found r = fillK I O r (found.map newRow) n := by rw [hn]; rfl
    rw [e0]
    simp [-List.getD_eq_getElem?_getD, -List.length_flatten, lstK_l, optK_s, lsK_l, appF_at, appP_at, app1P_at, setP_at, set1P_at, pop1_at, pop1E_at, frK_r, gK_v, asgI_at, exprI_at, appI_at, ysOf_some, ysOf_none, ysOf_nil, setAll_cons, setAll_nil, dRevL_l, extP_at, extF_at, setN_at, setO_at, appPop_at, itemsOf_l, itemsOf_t, dIdxL_l, isT_bb, appM_at, asgM_at, dK_d, revs_at, revOf_l, revOf_t]
end Mi

namespace Mi
open PySem
/-! ### lattice_boxes -/
def liesB (I O : List Nat) : Bool := (List.range I.length).all fun k => decide (partN I k ≤ partN O k)
theorem liesB_at {I O : List Nat} (h : liesB I O = true) (k : Nat) : partN I k ≤ partN O k := by
  by_cases c : k < I.length
  · exact of_decide_eq_true (List.all_eq_true.mp h k (List.mem_range.mpr c))
  · have : partN I k = 0 := by
      unfold partN
      rw [List.getD_eq_getElem?_getD, List.getElem?_eq_none (by omega)]
      rfl
    omega
theorem sum_part : ∀ (O : List Nat), ((List.range O.length).map (partN O)).sum = sumN O
  | [] => rfl
  | z :: O => by
    have ih := sum_part O
    rw [List.length_cons, List.range_succ_eq_map, List.map_cons, List.map_map, List.sum_cons]
    show z + _ = z + sumN O
    rw [← ih]
    rfl
theorem map_sum_le {f g : Nat → Nat} (h : ∀ k, f k ≤ g k) : ∀ l : List Nat, (l.map f).sum ≤ (l.map g).sum
  | [] => Nat.le_refl _
  | a :: l => by
    have := map_sum_le h l
    have := h a
    simp only [List.map_cons, List.sum_cons]
    omega
theorem cellsN_mono (O I : List Nat) {j k : Nat} (h : j ≤ k) : cellsN O I j ≤ cellsN O I k := by
  obtain ⟨d, rfl⟩ : ∃ d, k = j + d := ⟨k - j, by omega⟩
  induction d with
  | zero => exact Nat.le_refl _
  | succ d ih =>
    rw [← Nat.add_assoc, cellsN_succ]
    have := ih (by omega)
    omega
theorem cellsN_le (O I : List Nat) {k : Nat} (h : k ≤ O.length) : cellsN O I k ≤ sumN O := by
  refine Nat.le_trans (cellsN_mono O I h) ?_
  unfold cellsN
  rw [← sum_part O]
  exact map_sum_le (fun j => Nat.sub_le _ _) _
theorem pow6 {m e : Nat} (hm : m ≤ 6) (he : e ≤ 6) : m ^ e ≤ 50000 := Nat.le_trans (Nat.pow_le_pow_left hm e) (Nat.le_trans (Nat.pow_le_pow_right (by decide) he) (by decide))
theorem need_zN {N : List Nat} (h : Sh N) : F_need_shape [iT (zN N)] = .ret .none [] := by
  unfold F_need_shape b_need_shape
  rw [runF_eq]
  have e := F_is_shape_eq (iT (zN N))
  rw [isShape_zN h] at e
  obtain ⟨X, hX⟩ : ∃ X, X = iT (zN N) := ⟨_, rfl⟩
  rw [← hX] at e ⊢
  simp [-List.getD_eq_getElem?_getD, -List.length_flatten, lstK_l, optK_s, lsK_l, appF_at, appP_at, app1P_at, setP_at, set1P_at, pop1_at, pop1E_at, frK_r, gK_v, asgI_at, exprI_at, appI_at, ysOf_some, ysOf_none, ysOf_nil, setAll_cons, setAll_nil, dRevL_l, extP_at, extF_at, setN_at, setO_at, appPop_at, itemsOf_l, itemsOf_t, dIdxL_l, isT_bb, appM_at, asgM_at, dK_d, revs_at, revOf_l, revOf_t, e]
theorem dSum_zN (N : List Nat) (hl : N.length ≤ 1000) : dSum (iT (zN N)) = some (.int (sumN N : Int)) := by rw [dSum_iT, zN_sum]
def sortedN (O I W : List Nat) : List (List (List Int)) := ((progN O I W).map zT).mergeSort leT
def pairD (I : List Nat) (T : List (List Int)) : D := .tuple [iT (zN I), bT T]
theorem F_lattice_boxes_1_eq {O I W : List Nat} (hO : Sh O) (hI : Sh I) (hW : Sh W) (s6 : sumN O ≤ 6) :
    F_lattice_boxes_1 [iT (zN O), iT (zN I), iT (zN W)] = .ret (.list (if liesB I O = true ∧ sumN O = sumN I + sumN W then (sortedN O I W).map (pairD I) else [])) [] := by
  unfold F_lattice_boxes_1 b_lattice_boxes_1
  rw [runF_eq]
  have n1 := need_zN hO
  have n2 := need_zN hI
  have n3 := need_zN hW
  have lO := hO.len
  have lI := hI.len
  have lW := hW.len
  have d1 := dSum_zN O (by omega)
  have d2 := dSum_zN I (by omega)
  have d3 := dSum_zN W (by omega)
  have li := lies_eq (I := I) (O := O) (by omega)
  have li : F_lies_in [iT (zN I), iT (zN O)] = .ret (.bool (liesB I O)) [] := li
  have g8 : ¬ (8 : Int) < (sumN O : Int) := by omega
  have hlen : dLen (iT (zN O)) = some (.int (O.length : Int)) := by simp [-List.getD_eq_getElem?_getD, -List.length_flatten, lstK_l, optK_s, lsK_l, appF_at, appP_at, app1P_at, setP_at, set1P_at, pop1_at, pop1E_at, frK_r, gK_v, asgI_at, exprI_at, appI_at, ysOf_some, ysOf_none, ysOf_nil, setAll_cons, setAll_nil, dRevL_l, extP_at, extF_at, setN_at, setO_at, appPop_at, itemsOf_l, itemsOf_t, dIdxL_l, isT_bb, appM_at, asgM_at, dK_d, revs_at, revOf_l, revOf_t, zN_len]
  have hfil : ∀ k, k < O.length → liesB I O = true → W.length ≤ 6 → F_filled [iT (zN I), iT (zN O), .list ((fillR O I W k).map rcD), .int (k : Int)] = .ret (.list ((fillR O I W (k + 1)).map rcD)) [] := fun k hk hl hm => by
    obtain ⟨h1, h2⟩ := fillR_ok O I W k
    have c1 := cellsN_le O I (k := k) (by omega)
    have c2 := cellsN_le O I (k := k + 1) (by omega)
    rw [cellsN_succ] at c2
    have bd : ∀ j, j ≤ partN O k - partN I k → (fillR O I W k).length * W.length ^ j ≤ 50000 := fun j hj => by
      refine Nat.le_trans (Nat.mul_le_mul_right _ h2) ?_
      rw [← Nat.pow_add]
      exact pow6 hm (by omega)
    rw [F_filled_eq (m := W.length) (c := cellsN O I k) hm hk (liesB_at hl k) (by have := hO.at k; unfold partN; omega) (by omega) h1 (by omega) (bd _ (Nat.le_refl _)) bd, fillR_succ]
  obtain ⟨A, hA⟩ : ∃ A, A = iT (zN O) := ⟨_, rfl⟩
  obtain ⟨B, hB⟩ : ∃ B, B = iT (zN I) := ⟨_, rfl⟩
  have iW : ∀ (r : En), r[2]? = some (some (iT (zN W))) → its (var 2) r = .val (W.map fun n : Nat => PyData.int (n : Int)) := fun r hr => by
    simp [-List.getD_eq_getElem?_getD, -List.length_flatten, lstK_l, optK_s, lsK_l, appF_at, appP_at, app1P_at, setP_at, set1P_at, pop1_at, pop1E_at, frK_r, gK_v, asgI_at, exprI_at, appI_at, ysOf_some, ysOf_none, ysOf_nil, setAll_cons, setAll_nil, dRevL_l, extP_at, extF_at, setN_at, setO_at, appPop_at, itemsOf_l, itemsOf_t, dIdxL_l, isT_bb, appM_at, asgM_at, dK_d, revs_at, revOf_l, revOf_t, hr, zN]
  obtain ⟨C, hC⟩ : ∃ C, C = iT (zN W) := ⟨_, rfl⟩
  rw [← hA] at n1 d1 li hlen hfil ⊢
  rw [← hB] at n2 d2 li hfil ⊢
  rw [← hC] at n3 d3 iW ⊢
  have e0 : dNe (.int (sumN O : Int)) (.int ((sumN I : Int) + (sumN W : Int))) = some (.bool !(decide (sumN O = sumN I + sumN W))) := by
    rw [dNe_i]
    congr 3
    exact decide_eq_decide.mpr (by omega)
  by_cases cl : liesB I O = true ∧ sumN O = sumN I + sumN W
  · obtain ⟨c1, c2⟩ := cl
    rw [if_pos ⟨c1, c2⟩]
    rw [c1] at li
    rw [decide_eq_true c2] at e0
    have hm : W.length ≤ 6 := by have := downN_len hW.down; omega
    have i0 : lc 6 (its (var 2)) (cst (.bool true)) (ltup (acons (cst (.int 0)) (acons (var 6) anil))) [some A, some B, some C, none, none, none, none, none] = .val (csD (W.map fun n => (0, n))) := by
      rw [lc_A (fun n : Nat => PyData.int (n : Int)) (l := W) (f := fun n => prD (0, n)) (iW _ rfl) (by unfold LIM; omega) fun n _ => by simp [-List.getD_eq_getElem?_getD, -List.length_flatten, lstK_l, optK_s, lsK_l, appF_at, appP_at, app1P_at, setP_at, set1P_at, pop1_at, pop1E_at, frK_r, gK_v, asgI_at, exprI_at, appI_at, ysOf_some, ysOf_none, ysOf_nil, setAll_cons, setAll_nil, dRevL_l, extP_at, extF_at, setN_at, setO_at, appPop_at, itemsOf_l, itemsOf_t, dIdxL_l, isT_bb, appM_at, asgM_at, dK_d, revs_at, revOf_l, revOf_t, LIM]; rfl]
      unfold csD
      rw [List.map_map]
      rfl
    have i1 : asg 3 (llst (acons (ltup (acons (ltup anil) (acons (lc 6 (its (var 2)) (cst (.bool true)) (ltup (acons (cst (.int 0)) (acons (var 6) anil)))) anil))) anil)) [some A, some B, some C, none, none, none, none, none] = .nx [some A, some B, some C, some (.list ((fillR O I W 0).map rcD)), none, none, none, none] := by
      generalize lc 6 (its (var 2)) (cst (.bool true)) (ltup (acons (cst (.int 0)) (acons (var 6) anil))) = G at i0 ⊢
      have le1 : (1 : Nat) ≤ LIM := by decide
      have le2 : (2 : Nat) ≤ LIM := by decide
      simp [-List.getD_eq_getElem?_getD, -List.length_flatten, lstK_l, optK_s, lsK_l, appF_at, appP_at, app1P_at, setP_at, set1P_at, pop1_at, pop1E_at, frK_r, gK_v, asgI_at, exprI_at, appI_at, ysOf_some, ysOf_none, ysOf_nil, setAll_cons, setAll_nil, dRevL_l, extP_at, extF_at, setN_at, setO_at, appPop_at, itemsOf_l, itemsOf_t, dIdxL_l, isT_bb, appM_at, asgM_at, dK_d, revs_at, revOf_l, revOf_t, i0, le1, le2]
      rfl
    show (seq (exprS (callF F_need_shape (acons (var 0) anil))) _ [some A, some B, some C, none, none, none, none, none]).fin = _
    rw [seq_at, show exprS (callF F_need_shape (acons (var 0) anil)) [some A, some B, some C, none, none, none, none, none] = .nx [some A, some B, some C, none, none, none, none, none] by simp [-List.getD_eq_getElem?_getD, -List.length_flatten, lstK_l, optK_s, lsK_l, appF_at, appP_at, app1P_at, setP_at, set1P_at, pop1_at, pop1E_at, frK_r, gK_v, asgI_at, exprI_at, appI_at, ysOf_some, ysOf_none, ysOf_nil, setAll_cons, setAll_nil, dRevL_l, extP_at, extF_at, setN_at, setO_at, appPop_at, itemsOf_l, itemsOf_t, dIdxL_l, isT_bb, appM_at, asgM_at, dK_d, revs_at, revOf_l, revOf_t, n1], next_nx, seq_at,
      show exprS (callF F_need_shape (acons (var 1) anil)) [some A, some B, some C, none, none, none, none, none] = .nx [some A, some B, some C, none, none, none, none, none] by simp [-List.getD_eq_getElem?_getD, -List.length_flatten, lstK_l, optK_s, lsK_l, appF_at, appP_at, app1P_at, setP_at, set1P_at, pop1_at, pop1E_at, frK_r, gK_v, asgI_at, exprI_at, appI_at, ysOf_some, ysOf_none, ysOf_nil, setAll_cons, setAll_nil, dRevL_l, extP_at, extF_at, setN_at, setO_at, appPop_at, itemsOf_l, itemsOf_t, dIdxL_l, isT_bb, appM_at, asgM_at, dK_d, revs_at, revOf_l, revOf_t, n2], next_nx, seq_at,
      show exprS (callF F_need_shape (acons (var 2) anil)) [some A, some B, some C, none, none, none, none, none] = .nx [some A, some B, some C, none, none, none, none, none] by simp [-List.getD_eq_getElem?_getD, -List.length_flatten, lstK_l, optK_s, lsK_l, appF_at, appP_at, app1P_at, setP_at, set1P_at, pop1_at, pop1E_at, frK_r, gK_v, asgI_at, exprI_at, appI_at, ysOf_some, ysOf_none, ysOf_nil, setAll_cons, setAll_nil, dRevL_l, extP_at, extF_at, setN_at, setO_at, appPop_at, itemsOf_l, itemsOf_t, dIdxL_l, isT_bb, appM_at, asgM_at, dK_d, revs_at, revOf_l, revOf_t, n3], next_nx, seq_at,
      show ifS (bi dGt (un dSum (var 0)) (cst (.int 8))) (raiseS 6) skip [some A, some B, some C, none, none, none, none, none] = .nx [some A, some B, some C, none, none, none, none, none] by simp [-List.getD_eq_getElem?_getD, -List.length_flatten, lstK_l, optK_s, lsK_l, appF_at, appP_at, app1P_at, setP_at, set1P_at, pop1_at, pop1E_at, frK_r, gK_v, asgI_at, exprI_at, appI_at, ysOf_some, ysOf_none, ysOf_nil, setAll_cons, setAll_nil, dRevL_l, extP_at, extF_at, setN_at, setO_at, appPop_at, itemsOf_l, itemsOf_t, dIdxL_l, isT_bb, appM_at, asgM_at, dK_d, revs_at, revOf_l, revOf_t, d1, g8], next_nx, seq_at,
      show ifS (tor (un dNo (callF F_lies_in (acons (var 1) (acons (var 0) anil)))) (bi dNe (un dSum (var 0)) (bi dAdd (un dSum (var 1)) (un dSum (var 2))))) (retS (llst anil)) skip [some A, some B, some C, none, none, none, none, none] = .nx [some A, some B, some C, none, none, none, none, none] by simp [-List.getD_eq_getElem?_getD, -List.length_flatten, lstK_l, optK_s, lsK_l, appF_at, appP_at, app1P_at, setP_at, set1P_at, pop1_at, pop1E_at, frK_r, gK_v, asgI_at, exprI_at, appI_at, ysOf_some, ysOf_none, ysOf_nil, setAll_cons, setAll_nil, dRevL_l, extP_at, extF_at, setN_at, setO_at, appPop_at, itemsOf_l, itemsOf_t, dIdxL_l, isT_bb, appM_at, asgM_at, dK_d, revs_at, revOf_l, revOf_t, li, d1, d2, d3, e0], next_nx, seq_at, i1, next_nx, seq_at]
    refine for_t (P := fun x => x.fin = _) (lo := 0) (n := O.length) (I := fun q k => ∃ z, q = [some A, some B, some C, some (.list ((fillR O I W k).map rcD)), z, none, none, none]) (rng1_val (by simp [-List.getD_eq_getElem?_getD, -List.length_flatten, lstK_l, optK_s, lsK_l, appF_at, appP_at, app1P_at, setP_at, set1P_at, pop1_at, pop1E_at, frK_r, gK_v, asgI_at, exprI_at, appI_at, ysOf_some, ysOf_none, ysOf_nil, setAll_cons, setAll_nil, dRevL_l, extP_at, extF_at, setN_at, setO_at, appPop_at, itemsOf_l, itemsOf_t, dIdxL_l, isT_bb, appM_at, asgM_at, dK_d, revs_at, revOf_l, revOf_t, hlen]) (by omega)) ⟨_, rfl⟩ ?_ ?_
    · rintro q k _ hk ⟨z, rfl⟩
      rw [Nat.zero_add] at hk
      have f := hfil k hk c1 hm
      obtain ⟨X, hX⟩ : ∃ X, X = PyData.list ((fillR O I W k).map rcD) := ⟨_, rfl⟩
      obtain ⟨Y, hY⟩ : ∃ Y, Y = PyData.list ((fillR O I W (k + 1)).map rcD) := ⟨_, rfl⟩
      rw [← hX, ← hY] at f
      refine .go (r' := [some A, some B, some C, some Y, some (.int (k : Int)), none, none, none]) ?_ ⟨_, by rw [hY]⟩
      rw [← hX]
      simp [-List.getD_eq_getElem?_getD, -List.length_flatten, lstK_l, optK_s, lsK_l, appF_at, appP_at, app1P_at, setP_at, set1P_at, pop1_at, pop1E_at, frK_r, gK_v, asgI_at, exprI_at, appI_at, ysOf_some, ysOf_none, ysOf_nil, setAll_cons, setAll_nil, dRevL_l, extP_at, extF_at, setN_at, setO_at, appPop_at, itemsOf_l, itemsOf_t, dIdxL_l, isT_bb, appM_at, asgM_at, dK_d, revs_at, revOf_l, revOf_t, f]
    · rintro q ⟨z, rfl⟩
      rw [Nat.zero_add]
      obtain ⟨h1, h2⟩ := fillR_ok O I W O.length
      have c3 := cellsN_le O I (k := O.length) (Nat.le_refl _)
      have l1 : (fillR O I W O.length).length ≤ 50000 := Nat.le_trans h2 (pow6 hm (by omega))
      have p1 : lc 7 (its (var 3)) (cst (.bool true)) (bi dIdx (var 7) (cst (.int 0))) [some A, some B, some C, some (.list ((fillR O I W O.length).map rcD)), z, none, none, none] = .val (.list (((progN O I W).map zT).map bT)) := by
        rw [lc_A rcD (l := fillR O I W O.length) (f := fun rc => bT (zT rc.1)) (by simp [-List.getD_eq_getElem?_getD, -List.length_flatten, lstK_l, optK_s, lsK_l, appF_at, appP_at, app1P_at, setP_at, set1P_at, pop1_at, pop1E_at, frK_r, gK_v, asgI_at, exprI_at, appI_at, ysOf_some, ysOf_none, ysOf_nil, setAll_cons, setAll_nil, dRevL_l, extP_at, extF_at, setN_at, setO_at, appPop_at, itemsOf_l, itemsOf_t, dIdxL_l, isT_bb, appM_at, asgM_at, dK_d, revs_at, revOf_l, revOf_t]) (by unfold LIM; omega) fun rc _ => by
          have : dIdx (rcD rc) (.int 0) = some (bT (zT rc.1)) := rfl
          simp [-List.getD_eq_getElem?_getD, -List.length_flatten, lstK_l, optK_s, lsK_l, appF_at, appP_at, app1P_at, setP_at, set1P_at, pop1_at, pop1E_at, frK_r, gK_v, asgI_at, exprI_at, appI_at, ysOf_some, ysOf_none, ysOf_nil, setAll_cons, setAll_nil, dRevL_l, extP_at, extF_at, setN_at, setO_at, appPop_at, itemsOf_l, itemsOf_t, dIdxL_l, isT_bb, appM_at, asgM_at, dK_d, revs_at, revOf_l, revOf_t, this]]
        unfold progN
        rw [List.map_map, List.map_map]
        rfl
      have srt : dSortE (.list (((progN O I W).map zT).map bT)) = some (.list ((sortedN O I W).map bT)) := by
        refine dSortE_bT ?_
        by_cases o0 : O = []
        · refine .inl ?_
          subst o0
          simp [-List.getD_eq_getElem?_getD, -List.length_flatten, lstK_l, optK_s, lsK_l, appF_at, appP_at, app1P_at, setP_at, set1P_at, pop1_at, pop1E_at, frK_r, gK_v, asgI_at, exprI_at, appI_at, ysOf_some, ysOf_none, ysOf_nil, setAll_cons, setAll_nil, dRevL_l, extP_at, extF_at, setN_at, setO_at, appPop_at, itemsOf_l, itemsOf_t, dIdxL_l, isT_bb, appM_at, asgM_at, dK_d, revs_at, revOf_l, revOf_t, progN, fillR]
        · refine .inr fun T hT => ?_
          obtain ⟨R, hR, rfl⟩ := List.mem_map.mp hT
          obtain ⟨rc, hrc, rfl⟩ := List.mem_map.mp hR
          have := (h1 rc hrc).len
          intro e
          have e2 := congrArg List.length e
          rw [zT_len, this] at e2
          exact o0 (List.length_eq_zero_iff.mp e2)
      have ls : (sortedN O I W).length ≤ 50000 := by
        unfold sortedN progN
        rw [List.length_mergeSort, List.length_map, List.length_map]
        exact l1
      obtain ⟨S, hS⟩ : ∃ S, S = sortedN O I W := ⟨_, rfl⟩
      rw [← hS] at srt ls ⊢
      show (retS (lc 5 (its (un dSortE (lc 7 (its (var 3)) (cst (.bool true)) (bi dIdx (var 7) (cst (.int 0)))))) (cst (.bool true)) (ltup (acons (var 1) (acons (var 5) anil)))) [some A, some B, some C, some (.list ((fillR O I W O.length).map rcD)), z, none, none, none]).fin = _
      have p2 : its (un dSortE (lc 7 (its (var 3)) (cst (.bool true)) (bi dIdx (var 7) (cst (.int 0))))) [some A, some B, some C, some (.list ((fillR O I W O.length).map rcD)), z, none, none, none] = .val (S.map bT) := by
        rw [its_at, un_at, p1]
        obtain ⟨L, hL⟩ : ∃ L, L = PyData.list (((progN O I W).map zT).map bT) := ⟨_, rfl⟩
        rw [← hL] at srt ⊢
        show ((ER.of (dSortE L)).bind seqOf) = _
        rw [srt]
        rfl
      have p3 : lc 5 (its (un dSortE (lc 7 (its (var 3)) (cst (.bool true)) (bi dIdx (var 7) (cst (.int 0)))))) (cst (.bool true)) (ltup (acons (var 1) (acons (var 5) anil))) [some A, some B, some C, some (.list ((fillR O I W O.length).map rcD)), z, none, none, none] = .val (.list (S.map (pairD I))) := by
        rw [lc_A bT (l := S) (f := pairD I) p2 (by unfold LIM; omega) fun T _ => by
          unfold pairD
          rw [← hB]
          obtain ⟨Z, hZ⟩ : ∃ Z, Z = bT T := ⟨_, rfl⟩
          rw [← hZ]
          simp [-List.getD_eq_getElem?_getD, -List.length_flatten, lstK_l, optK_s, lsK_l, appF_at, appP_at, app1P_at, setP_at, set1P_at, pop1_at, pop1E_at, frK_r, gK_v, asgI_at, exprI_at, appI_at, ysOf_some, ysOf_none, ysOf_nil, setAll_cons, setAll_nil, dRevL_l, extP_at, extF_at, setN_at, setO_at, appPop_at, itemsOf_l, itemsOf_t, dIdxL_l, isT_bb, appM_at, asgM_at, dK_d, revs_at, revOf_l, revOf_t, LIM]]
      rw [retS_at, p3]
      rfl
  · rw [if_neg cl]
    cases c1 : liesB I O with
    | false =>
      rw [c1] at li
      simp [-List.getD_eq_getElem?_getD, -List.length_flatten, lstK_l, optK_s, lsK_l, appF_at, appP_at, app1P_at, setP_at, set1P_at, pop1_at, pop1E_at, frK_r, gK_v, asgI_at, exprI_at, appI_at, ysOf_some, ysOf_none, ysOf_nil, setAll_cons, setAll_nil, dRevL_l, extP_at, extF_at, setN_at, setO_at, appPop_at, itemsOf_l, itemsOf_t, dIdxL_l, isT_bb, appM_at, asgM_at, dK_d, revs_at, revOf_l, revOf_t, n1, n2, n3, d1, g8, li]
    | true =>
      rw [c1] at li
      have c2 : ¬ sumN O = sumN I + sumN W := fun h => cl ⟨c1, h⟩
      rw [decide_eq_false c2] at e0
      simp [-List.getD_eq_getElem?_getD, -List.length_flatten, lstK_l, optK_s, lsK_l, appF_at, appP_at, app1P_at, setP_at, set1P_at, pop1_at, pop1E_at, frK_r, gK_v, asgI_at, exprI_at, appI_at, ysOf_some, ysOf_none, ysOf_nil, setAll_cons, setAll_nil, dRevL_l, extP_at, extF_at, setN_at, setO_at, appPop_at, itemsOf_l, itemsOf_t, dIdxL_l, isT_bb, appM_at, asgM_at, dK_d, revs_at, revOf_l, revOf_t, n1, n2, n3, d1, d2, d3, g8, li, e0]
end Mi

namespace Mi
/-! ### lattice boxes: the law's way -/
def liesN (I O : List Nat) : Bool := (List.range I.length).all fun k => decide (partN I k ≤ partN O k)
end Mi

namespace Mi
/-! ### the lattice rule: products counted -/
def growO (N : List Nat) (T : List (List Int)) (z : Int) (k : Nat) : List (List (List Int)) := if okG N T k then [T.set k (T.getD k [] ++ [z])] else []
def growF (N : List Nat) (z : Int) (T : List (List Int)) : List (List (List Int)) := (List.range N.length).flatMap (growO N T z)
def fillG (N : List Nat) (ls : List Int) : List (List (List Int)) := ls.foldl (fun found z => found.flatMap (growF N z)) [List.replicate N.length []]
def choiceO (k : Nat) (z : Int) (row : List Int) : List (List Int) := row :: (if row.length < k then [row ++ [z]] else [])
def lettersI (n : Nat) : List Int := (List.range n).map fun k : Nat => (k : Int) + 1
def choiceA (n k : Nat) : List (List Int) := (lettersI n).foldl (fun made z => made.flatMap (choiceO k z)) [[]]
def choicesI (n k : Nat) : List (List Int) := (choiceA n k).filter fun row => decide (row.length = k)
def restI (n : Nat) (row : List Int) : List Int := (lettersI n).filter fun z => !(row.contains z)
def prodR (W : List Nat) (rest : List Int) (one : List (List Int)) : List (List (List Int)) := (fillG W rest).map fun other => insW [] (readT one ++ readT other)
def prodC (n : Nat) (I W : List Nat) (row : List Int) : List (List (List Int)) := (fillG I row).flatMap (prodR W (restI n row))
def prodsI (n k : Nat) (I W : List Nat) : List (List (List Int)) := (choicesI n k).flatMap (prodC n I W)
def insAll (a : Int) : List Int → List (List Int)
  | [] => [[a]]
  | x :: l => (a :: x :: l) :: (insAll a l).map (x :: ·)
def permsI : List Int → List (List Int)
  | [] => [[]]
  | a :: l => (permsI l).flatMap (insAll a)
def domB (n : Nat) : List (List (List Int)) := ((permsI (lettersI n)).map (insW [])).eraseDups
def latCnt (O I W : List Nat) : Nat := if liesN I O then (progN O I W).length else 0
def chkW (n k : Nat) (Bs : List (List (List Int))) (I W : List Nat) : Bool := !(decide (sumN W = n - k)) || Bs.all fun B => decide ((prodsI n k I W).count B = latCnt (shp B) I W)
def chkI (n k : Nat) (Bs : List (List (List Int))) (I : List Nat) : Bool := !(decide (sumN I = k)) || allSh (chkW n k Bs I) 7 [] 6 (n - k)
def chkN (n : Nat) : Bool := (List.range (min n 4 + 1)).all fun k => allSh (chkI n k (domB n)) 7 [] 6 k
theorem insAll_mem (a : Int) : ∀ (s t : List Int), s ++ a :: t ∈ insAll a (s ++ t)
  | [], [] => List.mem_singleton.mpr rfl
  | [], x :: t => List.mem_cons_self
  | x :: s, t => List.mem_cons_of_mem _ (List.mem_map.mpr ⟨_, insAll_mem a s t, rfl⟩)
theorem permsI_mem : ∀ {l w : List Int}, w.Perm l → w ∈ permsI l
  | [], w, h => by
    rw [List.Perm.eq_nil h]
    exact List.mem_singleton.mpr rfl
  | a :: l, w, h => by
    have ha : a ∈ w := h.symm.subset List.mem_cons_self
    obtain ⟨s, t, rfl⟩ := List.append_of_mem ha
    have p : (s ++ t).Perm l := by
      have := (List.perm_middle (a := a) (l₁ := s) (l₂ := t)).symm.trans h
      exact List.Perm.cons_inv this
    exact List.mem_flatMap.mpr ⟨_, permsI_mem p, insAll_mem a s t⟩
theorem domB_mem {n : Nat} {w : List Int} (h : w.Perm (lettersI n)) : insW [] w ∈ domB n := by
  unfold domB
  rw [List.mem_eraseDups]
  exact List.mem_map.mpr ⟨w, permsI_mem h, rfl⟩
theorem chkN_all {n k : Nat} (hc : chkN n = true) (hk : k ≤ min n 4) {I W : List Nat} (hI : downN I 6 = true) (sI : sumN I = k) (hW : downN W 6 = true) (sW : sumN W = n - k) {B : List (List Int)} (hB : B ∈ domB n) : (prodsI n k I W).count B = latCnt (shp B) I W := by
  have a := List.all_eq_true.mp hc k (List.mem_range.mpr (by omega))
  have b := allSh_all 7 [] 6 k a I hI (by omega)
  have b : (!(decide (sumN I = k)) || allSh (chkW n k (domB n) I) 7 [] 6 (n - k)) = true := b
  rw [decide_eq_true sI, Bool.not_true, Bool.false_or] at b
  have c := allSh_all 7 [] 6 _ b W hW (by omega)
  have c : (!(decide (sumN W = n - k)) || (domB n).all fun B => decide ((prodsI n k I W).count B = latCnt (shp B) I W)) = true := c
  rw [decide_eq_true sW, Bool.not_true, Bool.false_or] at c
  exact of_decide_eq_true (List.all_eq_true.mp c B hB)
/-! sizes -/
theorem grow_row {N : List Nat} {z : Int} {T U : List (List Int)} {n m : Nat} (hT : T.length = n) (hf : T.flatten.length ≤ m) (h : U ∈ growF N z T) (hn : N.length = n) : U.length = n ∧ U.flatten.length ≤ m + 1 := by
  obtain ⟨k, hk, h⟩ := List.mem_flatMap.mp h
  have hk := List.mem_range.mp hk
  unfold growO at h
  split at h
  · rw [List.mem_singleton.mp h, List.length_set]
    refine ⟨hT, ?_⟩
    have hkT : k < T.length := by omega
    have e1 : T = T.take k ++ T.getD k [] :: T.drop (k + 1) := by
      rw [List.getD_eq_getElem?_getD, List.getElem?_eq_getElem hkT]
      exact (List.take_append_drop k T).symm.trans (by rw [List.drop_eq_getElem_cons hkT]; rfl)
    have e2 : T.set k (T.getD k [] ++ [z]) = T.take k ++ (T.getD k [] ++ [z]) :: T.drop (k + 1) := by
      rw [List.set_eq_take_append_cons_drop, if_pos hkT]
    have l1 : T.flatten.length = (T.take k).flatten.length + ((T.getD k []).length + (T.drop (k + 1)).flatten.length) := by
      conv => lhs; rw [e1]
      rw [List.flatten_append, List.flatten_cons, List.length_append, List.length_append]
    rw [e2, List.flatten_append, List.flatten_cons, List.length_append, List.length_append, List.length_append, List.length_singleton]
    omega
  · cases h
theorem flatM_len2 {A B : Type} {f : A → List B} {n : Nat} : ∀ {l : List A}, (∀ a ∈ l, (f a).length ≤ n) → (l.flatMap f).length ≤ l.length * n
  | [], _ => by simp
  | a :: l, h => by
    have ih := flatM_len2 (l := l) fun b hb => h b (List.mem_cons_of_mem _ hb)
    have := h a List.mem_cons_self
    rw [List.flatMap_cons, List.length_append, List.length_cons, Nat.succ_mul]
    omega
theorem growF_len (N : List Nat) (z : Int) (T : List (List Int)) : (growF N z T).length ≤ N.length := by
  have := flatM_len2 (f := growO N T z) (n := 1) (l := List.range N.length) fun k _ => by unfold growO; split <;> simp
  rw [List.length_range, Nat.mul_one] at this
  exact this
def fillP (N : List Nat) (ls : List Int) (start : List (List (List Int))) : List (List (List Int)) := ls.foldl (fun found z => found.flatMap (growF N z)) start
theorem fillP_ok {N : List Nat} : ∀ (ls : List Int) (m c : Nat) (start : List (List (List Int))), (∀ T ∈ start, T.length = N.length ∧ T.flatten.length ≤ m) → start.length ≤ c → (∀ T ∈ fillP N ls start, T.length = N.length ∧ T.flatten.length ≤ m + ls.length) ∧ (fillP N ls start).length ≤ c * N.length ^ ls.length
  | [], m, c, start, h, hc => ⟨h, by show start.length ≤ _; simpa using hc⟩
  | z :: ls, m, c, start, h, hc => by
    have := fillP_ok (N := N) ls (m + 1) (c * N.length) (start.flatMap (growF N z)) (fun U hU => by
      obtain ⟨T, hT, hU⟩ := List.mem_flatMap.mp hU
      obtain ⟨h1, h2⟩ := h T hT
      exact grow_row h1 h2 hU rfl) (Nat.le_trans (flatM_len2 fun T _ => growF_len N z T) (Nat.mul_le_mul_right _ hc))
    refine ⟨fun T hT => ?_, ?_⟩
    · obtain ⟨h1, h2⟩ := this.1 T hT
      exact ⟨h1, by rw [List.length_cons]; omega⟩
    · rw [List.length_cons, Nat.pow_succ, Nat.mul_comm (N.length ^ ls.length), ← Nat.mul_assoc]
      exact this.2
theorem fillG_ok (N : List Nat) (ls : List Int) : (∀ T ∈ fillG N ls, T.length = N.length ∧ T.flatten.length ≤ ls.length) ∧ (fillG N ls).length ≤ N.length ^ ls.length := by
  have := fillP_ok (N := N) ls 0 1 [List.replicate N.length []] (fun T hT => by
    rw [List.mem_singleton.mp hT]
    refine ⟨List.length_replicate, ?_⟩
    have : (List.replicate N.length ([] : List Int)).flatten = [] := by simp
    rw [this]
    exact Nat.le_refl _) (Nat.le_refl _)
  rw [Nat.zero_add, Nat.one_mul] at this
  exact this
end Mi

namespace Mi
open PySem
/-! ### law 22: fillings and choices -/
theorem row_flat {l : List Int} : ∀ {T : List (List Int)}, l ∈ T → l.length ≤ T.flatten.length
  | t :: T, h => by
    rw [List.flatten_cons, List.length_append]
    rcases List.mem_cons.mp h with rfl | h
    · omega
    · have := row_flat h
      omega
theorem F_law_fillings_any {N : List Nat} {ls : List Int} {X : D} (hX : seqOf X = .val (ls.map .int)) (hN : N.length ≤ 6) (hl : ls.length ≤ 6) : F_law_fillings [iT (zN N), X] = .ret (.list ((fillG N ls).map bT)) [] := by
  unfold F_law_fillings b_law_fillings
  rw [runF_eq]
  have hlen : dLen (iT (zN N)) = some (.int (N.length : Int)) := by simp [-List.getD_eq_getElem?_getD, -List.length_flatten, lstK_l, optK_s, lsK_l, appF_at, appP_at, app1P_at, setP_at, set1P_at, pop1_at, pop1E_at, frK_r, gK_v, asgI_at, exprI_at, appI_at, ysOf_some, ysOf_none, ysOf_nil, setAll_cons, setAll_nil, dRevL_l, extP_at, extF_at, setN_at, setO_at, appPop_at, itemsOf_l, itemsOf_t, dIdxL_l, isT_bb, appM_at, asgM_at, dK_d, revs_at, revOf_l, revOf_t, zN_len]
  have ix : ∀ k, k < N.length → dIdx (iT (zN N)) (.int (k : Int)) = some (.int (N.getD k 0 : Int)) := fun k hk => zN_ix hk
  have i0 : un dTup (lc 7 (its (var 0)) (cst (.bool true)) (ltup anil)) [some (iT (zN N)), some X, none, none, none, none, none, none] = .val (bT (List.replicate N.length [])) := by
    rw [un_at, lc_A PyData.int (l := zN N) (f := fun _ => iT []) (by simp [-List.getD_eq_getElem?_getD, -List.length_flatten, lstK_l, optK_s, lsK_l, appF_at, appP_at, app1P_at, setP_at, set1P_at, pop1_at, pop1E_at, frK_r, gK_v, asgI_at, exprI_at, appI_at, ysOf_some, ysOf_none, ysOf_nil, setAll_cons, setAll_nil, dRevL_l, extP_at, extF_at, setN_at, setO_at, appPop_at, itemsOf_l, itemsOf_t, dIdxL_l, isT_bb, appM_at, asgM_at, dK_d, revs_at, revOf_l, revOf_t]) (by rw [zN_len]; unfold LIM; omega) fun z _ => by simp [-List.getD_eq_getElem?_getD, -List.length_flatten, lstK_l, optK_s, lsK_l, appF_at, appP_at, app1P_at, setP_at, set1P_at, pop1_at, pop1E_at, frK_r, gK_v, asgI_at, exprI_at, appI_at, ysOf_some, ysOf_none, ysOf_nil, setAll_cons, setAll_nil, dRevL_l, extP_at, extF_at, setN_at, setO_at, appPop_at, itemsOf_l, itemsOf_t, dIdxL_l, isT_bb, appM_at, asgM_at, dK_d, revs_at, revOf_l, revOf_t, LIM]]
    have e : (zN N).map (fun _ => iT []) = List.replicate N.length (iT []) := by rw [List.map_const', zN_len]
    rw [e]
    have : N.length ≤ LIM := by unfold LIM; omega
    simp [-List.getD_eq_getElem?_getD, -List.length_flatten, lstK_l, optK_s, lsK_l, appF_at, appP_at, app1P_at, setP_at, set1P_at, pop1_at, pop1E_at, frK_r, gK_v, asgI_at, exprI_at, appI_at, ysOf_some, ysOf_none, ysOf_nil, setAll_cons, setAll_nil, dRevL_l, extP_at, extF_at, setN_at, setO_at, appPop_at, itemsOf_l, itemsOf_t, dIdxL_l, isT_bb, appM_at, asgM_at, dK_d, revs_at, revOf_l, revOf_t, this]
  obtain ⟨A, hA⟩ : ∃ A, A = iT (zN N) := ⟨_, rfl⟩
  have iL0 : its (var 1) [some A, some X, some (.list (([List.replicate N.length []] : List (List (List Int))).map bT)), none, none, none, none, none] = .val (ls.map .int) := by
    rw [its_at, var_at]
    show seqOf X = _
    exact hX
  rw [← hA] at hlen ix i0 ⊢
  show (seq (asg 2 (llst (acons (un dTup (lc 7 (its (var 0)) (cst (.bool true)) (ltup anil))) anil))) _ [some A, some X, none, none, none, none, none, none]).fin = _
  rw [seq_at, show asg 2 (llst (acons (un dTup (lc 7 (its (var 0)) (cst (.bool true)) (ltup anil))) anil)) [some A, some X, none, none, none, none, none, none] = .nx [some A, some X, some (.list (([List.replicate N.length []] : List (List (List Int))).map bT)), none, none, none, none, none] by
    generalize un dTup (lc 7 (its (var 0)) (cst (.bool true)) (ltup anil)) = G at i0 ⊢
    simp [-List.getD_eq_getElem?_getD, -List.length_flatten, lstK_l, optK_s, lsK_l, appF_at, appP_at, app1P_at, setP_at, set1P_at, pop1_at, pop1E_at, frK_r, gK_v, asgI_at, exprI_at, appI_at, ysOf_some, ysOf_none, ysOf_nil, setAll_cons, setAll_nil, dRevL_l, extP_at, extF_at, setN_at, setO_at, appPop_at, itemsOf_l, itemsOf_t, dIdxL_l, isT_bb, appM_at, asgM_at, dK_d, revs_at, revOf_l, revOf_t, i0, LIM], next_nx, seq_at]
  have ok0 := fillG_ok N ls
  refine for_tM (P := fun x => x.fin = _) (l := ls) PyData.int (I := fun q m' => ∃ fnd z1 z2 z3 z4, q = [some A, some X, some (.list ((fnd : List (List (List Int))).map bT)), z1, z2, z3, z4, none] ∧ fillP N m' fnd = fillG N ls ∧ (∀ T ∈ fnd, T.length = N.length ∧ T.flatten.length + m'.length ≤ ls.length) ∧ ∃ c, fnd.length ≤ N.length ^ c ∧ c + m'.length ≤ ls.length) iL0 ⟨_, _, _, _, _, rfl, rfl, fun T hT => by
    rw [List.mem_singleton.mp hT]
    refine ⟨List.length_replicate, ?_⟩
    have : (List.replicate N.length ([] : List Int)).flatten = [] := by simp [-List.getD_eq_getElem?_getD, -List.length_flatten, lstK_l, optK_s, lsK_l, appF_at, appP_at, app1P_at, setP_at, set1P_at, pop1_at, pop1E_at, frK_r, gK_v, asgI_at, exprI_at, appI_at, ysOf_some, ysOf_none, ysOf_nil, setAll_cons, setAll_nil, dRevL_l, extP_at, extF_at, setN_at, setO_at, appPop_at, itemsOf_l, itemsOf_t, dIdxL_l, isT_bb, appM_at, asgM_at, dK_d, revs_at, revOf_l, revOf_t]
    rw [this]
    simp [-List.getD_eq_getElem?_getD, -List.length_flatten, lstK_l, optK_s, lsK_l, appF_at, appP_at, app1P_at, setP_at, set1P_at, pop1_at, pop1E_at, frK_r, gK_v, asgI_at, exprI_at, appI_at, ysOf_some, ysOf_none, ysOf_nil, setAll_cons, setAll_nil, dRevL_l, extP_at, extF_at, setN_at, setO_at, appPop_at, itemsOf_l, itemsOf_t, dIdxL_l, isT_bb, appM_at, asgM_at, dK_d, revs_at, revOf_l, revOf_t], 0, by simp [-List.getD_eq_getElem?_getD, -List.length_flatten, lstK_l, optK_s, lsK_l, appF_at, appP_at, app1P_at, setP_at, set1P_at, pop1_at, pop1E_at, frK_r, gK_v, asgI_at, exprI_at, appI_at, ysOf_some, ysOf_none, ysOf_nil, setAll_cons, setAll_nil, dRevL_l, extP_at, extF_at, setN_at, setO_at, appPop_at, itemsOf_l, itemsOf_t, dIdxL_l, isT_bb, appM_at, asgM_at, dK_d, revs_at, revOf_l, revOf_t], by simp [-List.getD_eq_getElem?_getD, -List.length_flatten, lstK_l, optK_s, lsK_l, appF_at, appP_at, app1P_at, setP_at, set1P_at, pop1_at, pop1E_at, frK_r, gK_v, asgI_at, exprI_at, appI_at, ysOf_some, ysOf_none, ysOf_nil, setAll_cons, setAll_nil, dRevL_l, extP_at, extF_at, setN_at, setO_at, appPop_at, itemsOf_l, itemsOf_t, dIdxL_l, isT_bb, appM_at, asgM_at, dK_d, revs_at, revOf_l, revOf_t]⟩ ?_ ?_
  · rintro q z m' ⟨fnd, z1, z2, z3, z4, rfl, h1, h2, c, h3, h4⟩
    have h1 : fillP N m' (fnd.flatMap (growF N z)) = fillG N ls := h1
    simp only [List.length_cons] at h2 h4
    have bd : (fnd.flatMap (growF N z)).length ≤ N.length ^ (c + 1) := by
      rw [Nat.pow_succ]
      exact Nat.le_trans (flatM_len2 fun T _ => growF_len N z T) (Nat.mul_le_mul_right _ h3)
    have bd5 : (fnd.flatMap (growF N z)).length ≤ 50000 := Nat.le_trans bd (pow6 hN (by omega))
    obtain ⟨F0, hF0⟩ : ∃ F0, F0 = PyData.list (fnd.map bT) := ⟨_, rfl⟩
    show Tn _ _ (seq (asg 4 (llst anil)) _ [some A, some X, some (.list (fnd.map bT)), some (.int z), z2, z3, z4, none])
    rw [seq_at, show asg 4 (llst anil) [some A, some X, some (.list (fnd.map bT)), some (.int z), z2, z3, z4, none] = .nx [some A, some X, some (.list (fnd.map bT)), some (.int z), some (.list (([] : List (List (List Int))).map bT)), z3, z4, none] by simp [-List.getD_eq_getElem?_getD, -List.length_flatten, lstK_l, optK_s, lsK_l, appF_at, appP_at, app1P_at, setP_at, set1P_at, pop1_at, pop1E_at, frK_r, gK_v, asgI_at, exprI_at, appI_at, ysOf_some, ysOf_none, ysOf_nil, setAll_cons, setAll_nil, dRevL_l, extP_at, extF_at, setN_at, setO_at, appPop_at, itemsOf_l, itemsOf_t, dIdxL_l, isT_bb, appM_at, asgM_at, dK_d, revs_at, revOf_l, revOf_t], next_nx, seq_at]
    refine for_tM (P := Tn _ _) (l := fnd) bT (I := fun q r' => ∃ M y1 y2, q = [some A, some X, some (.list (fnd.map bT)), some (.int z), some (.list ((M : List (List (List Int))).map bT)), y1, y2, none] ∧ M ++ r'.flatMap (growF N z) = fnd.flatMap (growF N z) ∧ ∀ T ∈ r', T ∈ fnd) (by simp [-List.getD_eq_getElem?_getD, -List.length_flatten, lstK_l, optK_s, lsK_l, appF_at, appP_at, app1P_at, setP_at, set1P_at, pop1_at, pop1E_at, frK_r, gK_v, asgI_at, exprI_at, appI_at, ysOf_some, ysOf_none, ysOf_nil, setAll_cons, setAll_nil, dRevL_l, extP_at, extF_at, setN_at, setO_at, appPop_at, itemsOf_l, itemsOf_t, dIdxL_l, isT_bb, appM_at, asgM_at, dK_d, revs_at, revOf_l, revOf_t]) ⟨[], _, _, rfl, rfl, fun _ h => h⟩ ?_ ?_
    · rintro q T r' ⟨M, y1, y2, rfl, g1, g2⟩
      have g1 : M ++ (growF N z T ++ r'.flatMap (growF N z)) = fnd.flatMap (growF N z) := g1
      rw [← List.append_assoc] at g1
      obtain ⟨t1, t2⟩ := h2 T (g2 T List.mem_cons_self)
      have lM : (M ++ growF N z T).length ≤ 50000 := by
        have e : (M ++ growF N z T).length ≤ (fnd.flatMap (growF N z)).length := by
          rw [← g1, List.length_append (as := M ++ growF N z T)]
          exact Nat.le_add_right _ _
        omega
      rw [← hF0]
      have t3 : ∀ k, k < T.length → (T.getD k []).length ≤ 6 := fun k hk => by
        have : (T.getD k []).length ≤ T.flatten.length := by
          have m : T.getD k [] ∈ T := by
            rw [List.getD_eq_getElem?_getD, List.getElem?_eq_getElem hk]
            exact List.getElem_mem hk
          exact row_flat m
        omega
      show Tn _ _ (forS 6 (rng1 (acons (un dLen (var 0)) anil)) _ [some A, some X, some F0, some (.int z), some (.list (M.map bT)), some (bT T), y2, none])
      refine for_t0 (P := Tn _ _) (lo := 0) (n := N.length) (I := fun q k => ∃ Q y, q = [some A, some X, some F0, some (.int z), some (.list ((Q : List (List (List Int))).map bT)), some (bT T), y, none] ∧ Q = M ++ (List.range k).flatMap (growO N T z)) (rng1_val (by simp [-List.getD_eq_getElem?_getD, -List.length_flatten, lstK_l, optK_s, lsK_l, appF_at, appP_at, app1P_at, setP_at, set1P_at, pop1_at, pop1E_at, frK_r, gK_v, asgI_at, exprI_at, appI_at, ysOf_some, ysOf_none, ysOf_nil, setAll_cons, setAll_nil, dRevL_l, extP_at, extF_at, setN_at, setO_at, appPop_at, itemsOf_l, itemsOf_t, dIdxL_l, isT_bb, appM_at, asgM_at, dK_d, revs_at, revOf_l, revOf_t, hlen]) (by omega)) ⟨M, _, rfl, by simp [-List.getD_eq_getElem?_getD, -List.length_flatten, lstK_l, optK_s, lsK_l, appF_at, appP_at, app1P_at, setP_at, set1P_at, pop1_at, pop1E_at, frK_r, gK_v, asgI_at, exprI_at, appI_at, ysOf_some, ysOf_none, ysOf_nil, setAll_cons, setAll_nil, dRevL_l, extP_at, extF_at, setN_at, setO_at, appPop_at, itemsOf_l, itemsOf_t, dIdxL_l, isT_bb, appM_at, asgM_at, dK_d, revs_at, revOf_l, revOf_t]⟩ ?_ ?_
      · rintro q k _ hk ⟨Q, y, rfl, hQ⟩
        rw [Nat.zero_add] at hk
        have hkT : k < T.length := by omega
        have a1 := ix k hk
        have a2 := at_row hkT
        have lQ : Q.length < 100000 := by
          have : Q.length ≤ (M ++ growF N z T).length := by
            rw [hQ, List.length_append, List.length_append]
            have : ((List.range k).flatMap (growO N T z)).length ≤ (growF N z T).length := by
              unfold growF
              obtain ⟨d, hd⟩ : ∃ d, N.length = k + d := ⟨N.length - k, by omega⟩
              have er : List.range (k + d) = List.range k ++ (List.range d).map (k + ·) := List.range_add ..
              rw [hd, er, List.flatMap_append, List.length_append]
              exact Nat.le_add_right _ _
            omega
          omega
        have nxt : ∀ Q2, Q2 = Q ++ growO N T z k → Q2 = M ++ (List.range (k + 1)).flatMap (growO N T z) := fun Q2 e => by
          rw [e, hQ, List.range_succ, List.flatMap_append, List.append_assoc]
          simp [-List.getD_eq_getElem?_getD, -List.length_flatten, lstK_l, optK_s, lsK_l, appF_at, appP_at, app1P_at, setP_at, set1P_at, pop1_at, pop1E_at, frK_r, gK_v, asgI_at, exprI_at, appI_at, ysOf_some, ysOf_none, ysOf_nil, setAll_cons, setAll_nil, dRevL_l, extP_at, extF_at, setN_at, setO_at, appPop_at, itemsOf_l, itemsOf_t, dIdxL_l, isT_bb, appM_at, asgM_at, dK_d, revs_at, revOf_l, revOf_t]
        have s1 := dSlT_take' (T.map iT) k
        have s2 := dSlT_drop (T.map iT) (k + 1)
        rw [show ((k + 1 : Nat) : Int) = (k : Int) + 1 by omega] at s2
        obtain ⟨U1, hU1⟩ : ∃ U1, U1 = (T.map iT).take k := ⟨_, rfl⟩
        obtain ⟨U2, hU2⟩ : ∃ U2, U2 = (T.map iT).drop (k + 1) := ⟨_, rfl⟩
        obtain ⟨l, hl'⟩ : ∃ l, l = T.getD k [] := ⟨_, rfl⟩
        have set' : (T.map iT).take k ++ [iT (l ++ [z])] ++ (T.map iT).drop (k + 1) = (T.set k (l ++ [z])).map iT := by
          rw [List.map_set, List.set_eq_take_append_cons_drop, if_pos (by simpa [-List.getD_eq_getElem?_getD, -List.length_flatten, lstK_l, optK_s, lsK_l, appF_at, appP_at, app1P_at, setP_at, set1P_at, pop1_at, pop1E_at, frK_r, gK_v, asgI_at, exprI_at, appI_at, ysOf_some, ysOf_none, ysOf_nil, setAll_cons, setAll_nil, dRevL_l, extP_at, extF_at, setN_at, setO_at, appPop_at, itemsOf_l, itemsOf_t, dIdxL_l, isT_bb, appM_at, asgM_at, dK_d, revs_at, revOf_l, revOf_t] using hkT)]
          simp [-List.getD_eq_getElem?_getD, -List.length_flatten, lstK_l, optK_s, lsK_l, appF_at, appP_at, app1P_at, setP_at, set1P_at, pop1_at, pop1E_at, frK_r, gK_v, asgI_at, exprI_at, appI_at, ysOf_some, ysOf_none, ysOf_nil, setAll_cons, setAll_nil, dRevL_l, extP_at, extF_at, setN_at, setO_at, appPop_at, itemsOf_l, itemsOf_t, dIdxL_l, isT_bb, appM_at, asgM_at, dK_d, revs_at, revOf_l, revOf_t]
        have lU1 : U1.length ≤ 6 := by rw [hU1]; simp [-List.getD_eq_getElem?_getD, -List.length_flatten, lstK_l, optK_s, lsK_l, appF_at, appP_at, app1P_at, setP_at, set1P_at, pop1_at, pop1E_at, frK_r, gK_v, asgI_at, exprI_at, appI_at, ysOf_some, ysOf_none, ysOf_nil, setAll_cons, setAll_nil, dRevL_l, extP_at, extF_at, setN_at, setO_at, appPop_at, itemsOf_l, itemsOf_t, dIdxL_l, isT_bb, appM_at, asgM_at, dK_d, revs_at, revOf_l, revOf_t]; omega
        have lU2 : U2.length ≤ 6 := by rw [hU2]; simp [-List.getD_eq_getElem?_getD, -List.length_flatten, lstK_l, optK_s, lsK_l, appF_at, appP_at, app1P_at, setP_at, set1P_at, pop1_at, pop1E_at, frK_r, gK_v, asgI_at, exprI_at, appI_at, ysOf_some, ysOf_none, ysOf_nil, setAll_cons, setAll_nil, dRevL_l, extP_at, extF_at, setN_at, setO_at, appPop_at, itemsOf_l, itemsOf_t, dIdxL_l, isT_bb, appM_at, asgM_at, dK_d, revs_at, revOf_l, revOf_t]; omega
        rw [← hU1, ← hU2] at set'
        obtain ⟨U, hU⟩ : ∃ U, U = T.set k (l ++ [z]) := ⟨_, rfl⟩
        rw [← hU] at set'
        rw [← hU1] at s1
        rw [← hU2] at s2
        have ll := t3 k hkT
        rw [← hl'] at a2 ll
        have d1 : dAdd (iT l) (.tuple [.int z]) = some (iT (l ++ [z])) := dAdd_iT l [z] (by simp [-List.getD_eq_getElem?_getD, -List.length_flatten, lstK_l, optK_s, lsK_l, appF_at, appP_at, app1P_at, setP_at, set1P_at, pop1_at, pop1E_at, frK_r, gK_v, asgI_at, exprI_at, appI_at, ysOf_some, ysOf_none, ysOf_nil, setAll_cons, setAll_nil, dRevL_l, extP_at, extF_at, setN_at, setO_at, appPop_at, itemsOf_l, itemsOf_t, dIdxL_l, isT_bb, appM_at, asgM_at, dK_d, revs_at, revOf_l, revOf_t]; omega)
        have d2 : dAdd (.tuple U1) (.tuple [iT (l ++ [z])]) = some (.tuple (U1 ++ [iT (l ++ [z])])) := by rw [dAdd_t, if_pos (by simp [-List.getD_eq_getElem?_getD, -List.length_flatten, lstK_l, optK_s, lsK_l, appF_at, appP_at, app1P_at, setP_at, set1P_at, pop1_at, pop1E_at, frK_r, gK_v, asgI_at, exprI_at, appI_at, ysOf_some, ysOf_none, ysOf_nil, setAll_cons, setAll_nil, dRevL_l, extP_at, extF_at, setN_at, setO_at, appPop_at, itemsOf_l, itemsOf_t, dIdxL_l, isT_bb, appM_at, asgM_at, dK_d, revs_at, revOf_l, revOf_t, LIM]; omega)]
        have d3 : dAdd (.tuple (U1 ++ [iT (l ++ [z])])) (.tuple U2) = some (bT U) := by rw [dAdd_t, if_pos (by simp [-List.getD_eq_getElem?_getD, -List.length_flatten, lstK_l, optK_s, lsK_l, appF_at, appP_at, app1P_at, setP_at, set1P_at, pop1_at, pop1E_at, frK_r, gK_v, asgI_at, exprI_at, appI_at, ysOf_some, ysOf_none, ysOf_nil, setAll_cons, setAll_nil, dRevL_l, extP_at, extF_at, setN_at, setO_at, appPop_at, itemsOf_l, itemsOf_t, dIdxL_l, isT_bb, appM_at, asgM_at, dK_d, revs_at, revOf_l, revOf_t, LIM]; omega), set']
        have pU : plain (bT U) = true := by simp [-List.getD_eq_getElem?_getD, -List.length_flatten, lstK_l, optK_s, lsK_l, appF_at, appP_at, app1P_at, setP_at, set1P_at, pop1_at, pop1E_at, frK_r, gK_v, asgI_at, exprI_at, appI_at, ysOf_some, ysOf_none, ysOf_nil, setAll_cons, setAll_nil, dRevL_l, extP_at, extF_at, setN_at, setO_at, appPop_at, itemsOf_l, itemsOf_t, dIdxL_l, isT_bb, appM_at, asgM_at, dK_d, revs_at, revOf_l, revOf_t]
        by_cases o : okG N T k = true
        · obtain ⟨o1, o2⟩ := of_decide_eq_true o
          rw [← hl'] at o1 o2
          have eg : growO N T z k = [U] := by unfold growO; rw [if_pos o, hU, hl']
          refine .go (r' := [some A, some X, some F0, some (.int z), some (.list ((Q ++ [U]).map bT)), some (bT T), some (.int (k : Int)), none]) ?_ ⟨_, _, rfl, nxt _ (by rw [eg])⟩
          rcases Nat.eq_zero_or_pos k with c | c
          · subst c
            have o1' : (l.length : Int) < (N.getD 0 0 : Int) := by omega
            have q0 : dIdx A (.int 0) = some (.int (N.getD 0 0 : Int)) := a1
            have q1 : dIdx (bT T) (.int 0) = some (iT l) := a2
            have q2 : dSlT (bT T) none (some 0) = some (.tuple U1) := s1
            have q3 : dSlT (bT T) (some 1) none = some (.tuple U2) := s2
            simp [-List.getD_eq_getElem?_getD, -List.length_flatten, lstK_l, optK_s, lsK_l, appF_at, appP_at, app1P_at, setP_at, set1P_at, pop1_at, pop1E_at, frK_r, gK_v, asgI_at, exprI_at, appI_at, ysOf_some, ysOf_none, ysOf_nil, setAll_cons, setAll_nil, dRevL_l, extP_at, extF_at, setN_at, setO_at, appPop_at, itemsOf_l, itemsOf_t, dIdxL_l, isT_bb, appM_at, asgM_at, dK_d, revs_at, revOf_l, revOf_t, -dAdd_t, q0, q1, o1', q2, q3, d1, d2, d3, lQ, LIM, pU]
          · have o2' : l.length < (T.getD (k - 1) []).length := by omega
            have a3 := at_row (T := T) (k := k - 1) (by omega)
            rw [show ((k - 1 : Nat) : Int) = (k : Int) - 1 by omega] at a3
            have o1' : (l.length : Int) < (N.getD k 0 : Int) := by omega
            obtain ⟨l', hl2⟩ : ∃ l', l' = T.getD (k - 1) [] := ⟨_, rfl⟩
            rw [← hl2] at a3 o2'
            have o2'' : (l.length : Int) < (l'.length : Int) := by omega
            have k0 : ¬ (k : Int) = 0 := by omega
            simp [-List.getD_eq_getElem?_getD, -List.length_flatten, lstK_l, optK_s, lsK_l, appF_at, appP_at, app1P_at, setP_at, set1P_at, pop1_at, pop1E_at, frK_r, gK_v, asgI_at, exprI_at, appI_at, ysOf_some, ysOf_none, ysOf_nil, setAll_cons, setAll_nil, dRevL_l, extP_at, extF_at, setN_at, setO_at, appPop_at, itemsOf_l, itemsOf_t, dIdxL_l, isT_bb, appM_at, asgM_at, dK_d, revs_at, revOf_l, revOf_t, -dAdd_t, a1, a2, a3, o1', o2'', k0, s1, s2, d1, d2, d3, lQ, LIM, pU]
        · have eg : growO N T z k = [] := by unfold growO; rw [if_neg o]
          have o' : ¬ (l.length < N.getD k 0 ∧ (k = 0 ∨ l.length < (T.getD (k - 1) []).length)) := fun q => o (decide_eq_true (by rw [← hl']; exact q))
          refine .go (r' := [some A, some X, some F0, some (.int z), some (.list (Q.map bT)), some (bT T), some (.int (k : Int)), none]) ?_ ⟨_, _, rfl, nxt _ (by rw [eg, List.append_nil])⟩
          by_cases o1 : l.length < N.getD k 0
          · have k0' : 0 < k := by
              rcases Nat.eq_zero_or_pos k with c | c
              · exact absurd ⟨o1, .inl c⟩ o'
              · exact c
            have o2 : ¬ l.length < (T.getD (k - 1) []).length := fun q => o' ⟨o1, .inr q⟩
            have a3 := at_row (T := T) (k := k - 1) (by omega)
            rw [show ((k - 1 : Nat) : Int) = (k : Int) - 1 by omega] at a3
            have o1' : (l.length : Int) < (N.getD k 0 : Int) := by omega
            obtain ⟨l', hl2⟩ : ∃ l', l' = T.getD (k - 1) [] := ⟨_, rfl⟩
            rw [← hl2] at a3 o2
            have o2'' : ¬ (l.length : Int) < (l'.length : Int) := by omega
            have k0 : ¬ (k : Int) = 0 := by omega
            have kn : ¬ k = 0 := by omega
            simp [-List.getD_eq_getElem?_getD, -List.length_flatten, lstK_l, optK_s, lsK_l, appF_at, appP_at, app1P_at, setP_at, set1P_at, pop1_at, pop1E_at, frK_r, gK_v, asgI_at, exprI_at, appI_at, ysOf_some, ysOf_none, ysOf_nil, setAll_cons, setAll_nil, dRevL_l, extP_at, extF_at, setN_at, setO_at, appPop_at, itemsOf_l, itemsOf_t, dIdxL_l, isT_bb, appM_at, asgM_at, dK_d, revs_at, revOf_l, revOf_t, a1, a2, a3, o1', o2'', k0, kn, o2]
          · have o1' : ¬ (l.length : Int) < (N.getD k 0 : Int) := by omega
            simp [-List.getD_eq_getElem?_getD, -List.length_flatten, lstK_l, optK_s, lsK_l, appF_at, appP_at, app1P_at, setP_at, set1P_at, pop1_at, pop1E_at, frK_r, gK_v, asgI_at, exprI_at, appI_at, ysOf_some, ysOf_none, ysOf_nil, setAll_cons, setAll_nil, dRevL_l, extP_at, extF_at, setN_at, setO_at, appPop_at, itemsOf_l, itemsOf_t, dIdxL_l, isT_bb, appM_at, asgM_at, dK_d, revs_at, revOf_l, revOf_t, a1, a2, o1']
      · rintro q ⟨Q, y, rfl, hQ⟩
        rw [Nat.zero_add] at hQ
        have hQ : Q = M ++ growF N z T := hQ
        rw [hF0]
        exact .go rfl ⟨Q, _, _, rfl, by rw [hQ]; exact g1, fun U hU => g2 U (List.mem_cons_of_mem _ hU)⟩
    · rintro q ⟨M, y1, y2, rfl, g1, _⟩
      have g1 : M ++ [] = fnd.flatMap (growF N z) := g1
      rw [List.append_nil] at g1
      rw [← g1] at h1 bd
      refine .go (r' := [some A, some X, some (.list (M.map bT)), some (.int z), none, y1, y2, none]) (by simp [-List.getD_eq_getElem?_getD, -List.length_flatten, lstK_l, optK_s, lsK_l, appF_at, appP_at, app1P_at, setP_at, set1P_at, pop1_at, pop1E_at, frK_r, gK_v, asgI_at, exprI_at, appI_at, ysOf_some, ysOf_none, ysOf_nil, setAll_cons, setAll_nil, dRevL_l, extP_at, extF_at, setN_at, setO_at, appPop_at, itemsOf_l, itemsOf_t, dIdxL_l, isT_bb, appM_at, asgM_at, dK_d, revs_at, revOf_l, revOf_t]) ⟨M, _, _, _, _, rfl, h1, fun T hT => ?_, c + 1, bd, by omega⟩
      rw [g1] at hT
      obtain ⟨S, hS, hT⟩ := List.mem_flatMap.mp hT
      obtain ⟨u1, u2⟩ := h2 S hS
      have := grow_row u1 (Nat.le_refl _) hT rfl
      exact ⟨this.1, by omega⟩
  · rintro q ⟨fnd, z1, z2, z3, z4, rfl, h1, _, _⟩
    have h1 : fnd = fillG N ls := h1
    rw [h1]
    simp [-List.getD_eq_getElem?_getD, -List.length_flatten, lstK_l, optK_s, lsK_l, appF_at, appP_at, app1P_at, setP_at, set1P_at, pop1_at, pop1E_at, frK_r, gK_v, asgI_at, exprI_at, appI_at, ysOf_some, ysOf_none, ysOf_nil, setAll_cons, setAll_nil, dRevL_l, extP_at, extF_at, setN_at, setO_at, appPop_at, itemsOf_l, itemsOf_t, dIdxL_l, isT_bb, appM_at, asgM_at, dK_d, revs_at, revOf_l, revOf_t]
theorem F_law_fillings_eq {N : List Nat} {ls : List Int} (hN : N.length ≤ 6) (hl : ls.length ≤ 6) : F_law_fillings [iT (zN N), iT ls] = .ret (.list ((fillG N ls).map bT)) [] := F_law_fillings_any rfl hN hl
theorem F_law_fillings_L {N : List Nat} {ls : List Int} (hN : N.length ≤ 6) (hl : ls.length ≤ 6) : F_law_fillings [iT (zN N), iL ls] = .ret (.list ((fillG N ls).map bT)) [] := F_law_fillings_any rfl hN hl
/-! choices -/
theorem dAdd_one (l : List Int) (z : Int) (h : l.length ≤ 100) : dAdd (iT l) (.tuple [.int z]) = some (iT (l ++ [z])) := dAdd_iT l [z] (by simp [-List.getD_eq_getElem?_getD, -List.length_flatten, lstK_l, optK_s, lsK_l, appF_at, appP_at, app1P_at, setP_at, set1P_at, pop1_at, pop1E_at, frK_r, gK_v, asgI_at, exprI_at, appI_at, ysOf_some, ysOf_none, ysOf_nil, setAll_cons, setAll_nil, dRevL_l, extP_at, extF_at, setN_at, setO_at, appPop_at, itemsOf_l, itemsOf_t, dIdxL_l, isT_bb, appM_at, asgM_at, dK_d, revs_at, revOf_l, revOf_t]; omega)
theorem choiceO_len (k : Nat) (z : Int) (row : List Int) : (choiceO k z row).length ≤ 2 := by
  unfold choiceO
  split <;> simp [-List.getD_eq_getElem?_getD, -List.length_flatten, lstK_l, optK_s, lsK_l, appF_at, appP_at, app1P_at, setP_at, set1P_at, pop1_at, pop1E_at, frK_r, gK_v, asgI_at, exprI_at, appI_at, ysOf_some, ysOf_none, ysOf_nil, setAll_cons, setAll_nil, dRevL_l, extP_at, extF_at, setN_at, setO_at, appPop_at, itemsOf_l, itemsOf_t, dIdxL_l, isT_bb, appM_at, asgM_at, dK_d, revs_at, revOf_l, revOf_t]
theorem lettersI_len (n : Nat) : (lettersI n).length = n := by simp [-List.getD_eq_getElem?_getD, -List.length_flatten, lstK_l, optK_s, lsK_l, appF_at, appP_at, app1P_at, setP_at, set1P_at, pop1_at, pop1E_at, frK_r, gK_v, asgI_at, exprI_at, appI_at, ysOf_some, ysOf_none, ysOf_nil, setAll_cons, setAll_nil, dRevL_l, extP_at, extF_at, setN_at, setO_at, appPop_at, itemsOf_l, itemsOf_t, dIdxL_l, isT_bb, appM_at, asgM_at, dK_d, revs_at, revOf_l, revOf_t, lettersI]
theorem its_letters {n : Nat} {r : En} {x : Nat} (hn : n ≤ 100) (h : r[x]? = some (some (.int (n : Int)))) : rng2 (acons (cst (.int 1)) (acons (bi dAdd (var x) (cst (.int 1))) anil)) r = .val ((lettersI n).map .int) := by
  simp [-List.getD_eq_getElem?_getD, -List.length_flatten, lstK_l, optK_s, lsK_l, appF_at, appP_at, app1P_at, setP_at, set1P_at, pop1_at, pop1E_at, frK_r, gK_v, asgI_at, exprI_at, appI_at, ysOf_some, ysOf_none, ysOf_nil, setAll_cons, setAll_nil, dRevL_l, extP_at, extF_at, setN_at, setO_at, appPop_at, itemsOf_l, itemsOf_t, dIdxL_l, isT_bb, appM_at, asgM_at, dK_d, revs_at, revOf_l, revOf_t, h]
  rw [show ([PyData.int 1, PyData.int ((n : Int) + 1)] : List D) = [.int ((1 : Nat) : Int), .int ((n + 1 : Nat) : Int)] from rfl, dRng2_nat (by decide) (by omega), Nat.add_sub_cancel]
  show ER.val (ids 1 n) = _
  congr 1
  unfold lettersI
  rw [List.map_map]
  unfold ids
  refine List.map_congr_left fun k _ => ?_
  show PyData.int (1 + (k : Int)) = PyData.int ((k : Int) + 1)
  congr 1
  omega
theorem F_law_choices_any {n k : Nat} (hn : n ≤ 6) (E C : List (List Int)) (hE : (lettersI n).foldl (fun made z => made.flatMap (choiceO k z)) [[]] = E) (hC : C = E.filter fun row => decide (row.length = k)) : F_law_choices [.int (n : Int), .int (k : Int)] = .ret (.list (C.map iT)) [] := by
  unfold F_law_choices b_law_choices
  rw [runF_eq]
  show (seq (asg 2 (llst (acons (ltup anil) anil))) _ [some (.int (n : Int)), some (.int (k : Int)), none, none, none, none]).fin = _
  rw [seq_at, show asg 2 (llst (acons (ltup anil) anil)) [some (.int (n : Int)), some (.int (k : Int)), none, none, none, none] = .nx [some (.int (n : Int)), some (.int (k : Int)), some (.list (([[]] : List (List Int)).map iT)), none, none, none] by simp [-List.getD_eq_getElem?_getD, -List.length_flatten, lstK_l, optK_s, lsK_l, appF_at, appP_at, app1P_at, setP_at, set1P_at, pop1_at, pop1E_at, frK_r, gK_v, asgI_at, exprI_at, appI_at, ysOf_some, ysOf_none, ysOf_nil, setAll_cons, setAll_nil, dRevL_l, extP_at, extF_at, setN_at, setO_at, appPop_at, itemsOf_l, itemsOf_t, dIdxL_l, isT_bb, appM_at, asgM_at, dK_d, revs_at, revOf_l, revOf_t, LIM], next_nx, seq_at]
  have it := its_letters (n := n) (r := [some (.int (n : Int)), some (.int (k : Int)), some (.list (([[]] : List (List Int)).map iT)), none, none, none]) (x := 0) (by omega) rfl
  have e0 := hE
  refine for_tM (P := fun x => x.fin = FR.ret (.list (C.map iT)) []) (l := lettersI n) PyData.int (I := fun q m' => ∃ made z1 z2 z3, q = [some (.int (n : Int)), some (.int (k : Int)), some (.list ((made : List (List Int)).map iT)), z1, z2, z3] ∧ m'.foldl (fun made z => made.flatMap (choiceO k z)) made = E ∧ (∀ l ∈ made, l.length + m'.length ≤ n) ∧ ∃ c, made.length ≤ 2 ^ c ∧ c + m'.length ≤ n) it ⟨[[]], none, none, none, rfl, e0, fun l hl => by
    rw [List.mem_singleton.mp hl, lettersI_len]
    simp [-List.getD_eq_getElem?_getD, -List.length_flatten, lstK_l, optK_s, lsK_l, appF_at, appP_at, app1P_at, setP_at, set1P_at, pop1_at, pop1E_at, frK_r, gK_v, asgI_at, exprI_at, appI_at, ysOf_some, ysOf_none, ysOf_nil, setAll_cons, setAll_nil, dRevL_l, extP_at, extF_at, setN_at, setO_at, appPop_at, itemsOf_l, itemsOf_t, dIdxL_l, isT_bb, appM_at, asgM_at, dK_d, revs_at, revOf_l, revOf_t], 0, by simp [-List.getD_eq_getElem?_getD, -List.length_flatten, lstK_l, optK_s, lsK_l, appF_at, appP_at, app1P_at, setP_at, set1P_at, pop1_at, pop1E_at, frK_r, gK_v, asgI_at, exprI_at, appI_at, ysOf_some, ysOf_none, ysOf_nil, setAll_cons, setAll_nil, dRevL_l, extP_at, extF_at, setN_at, setO_at, appPop_at, itemsOf_l, itemsOf_t, dIdxL_l, isT_bb, appM_at, asgM_at, dK_d, revs_at, revOf_l, revOf_t], by rw [lettersI_len]; omega⟩ ?_ ?_
  · rintro q z m' ⟨made, z1, z2, z3, rfl, h1, h2, c, h3, h4⟩
    have h1 : m'.foldl (fun made z => made.flatMap (choiceO k z)) (made.flatMap (choiceO k z)) = E := h1
    simp only [List.length_cons] at h2 h4
    have bd : (made.flatMap (choiceO k z)).length ≤ 2 ^ (c + 1) := by
      rw [Nat.pow_succ]
      exact Nat.le_trans (flatM_len2 fun l _ => choiceO_len k z l) (Nat.mul_le_mul_right _ h3)
    have p2 : 2 ^ (c + 1) ≤ 50000 := pow6 (m := 2) (e := c + 1) (by omega) (by omega)
    have bd5 : (made.flatMap (choiceO k z)).length ≤ 50000 := Nat.le_trans bd p2
    show Tn _ _ (seq (asg 4 (llst anil)) _ [some (.int (n : Int)), some (.int (k : Int)), some (.list (made.map iT)), some (.int z), z2, z3])
    rw [seq_at, show asg 4 (llst anil) [some (.int (n : Int)), some (.int (k : Int)), some (.list (made.map iT)), some (.int z), z2, z3] = .nx [some (.int (n : Int)), some (.int (k : Int)), some (.list (made.map iT)), some (.int z), some (.list (([] : List (List Int)).map iT)), z3] by simp [-List.getD_eq_getElem?_getD, -List.length_flatten, lstK_l, optK_s, lsK_l, appF_at, appP_at, app1P_at, setP_at, set1P_at, pop1_at, pop1E_at, frK_r, gK_v, asgI_at, exprI_at, appI_at, ysOf_some, ysOf_none, ysOf_nil, setAll_cons, setAll_nil, dRevL_l, extP_at, extF_at, setN_at, setO_at, appPop_at, itemsOf_l, itemsOf_t, dIdxL_l, isT_bb, appM_at, asgM_at, dK_d, revs_at, revOf_l, revOf_t], next_nx, seq_at]
    refine for_tM (P := Tn _ _) (l := made) iT (I := fun q r' => ∃ M y1, q = [some (.int (n : Int)), some (.int (k : Int)), some (.list (made.map iT)), some (.int z), some (.list ((M : List (List Int)).map iT)), y1] ∧ M ++ r'.flatMap (choiceO k z) = made.flatMap (choiceO k z) ∧ ∀ l ∈ r', l ∈ made) (by simp [-List.getD_eq_getElem?_getD, -List.length_flatten, lstK_l, optK_s, lsK_l, appF_at, appP_at, app1P_at, setP_at, set1P_at, pop1_at, pop1E_at, frK_r, gK_v, asgI_at, exprI_at, appI_at, ysOf_some, ysOf_none, ysOf_nil, setAll_cons, setAll_nil, dRevL_l, extP_at, extF_at, setN_at, setO_at, appPop_at, itemsOf_l, itemsOf_t, dIdxL_l, isT_bb, appM_at, asgM_at, dK_d, revs_at, revOf_l, revOf_t]) ⟨[], _, rfl, rfl, fun _ h => h⟩ ?_ ?_
    · rintro q l r' ⟨M, y1, rfl, g1, g2⟩
      have g1 : M ++ (choiceO k z l ++ r'.flatMap (choiceO k z)) = made.flatMap (choiceO k z) := g1
      rw [← List.append_assoc] at g1
      have t1 := h2 l (g2 l List.mem_cons_self)
      have lM : (M ++ choiceO k z l).length ≤ 50000 := by
        have e : (M ++ choiceO k z l).length ≤ (made.flatMap (choiceO k z)).length := by
          rw [← g1, List.length_append (as := M ++ choiceO k z l)]
          exact Nat.le_add_right _ _
        omega
      rw [List.length_append] at lM
      have rest : ∀ U ∈ r', U ∈ made := fun U hU => g2 U (List.mem_cons_of_mem _ hU)
      have ln : dLen (iT l) = some (.int (l.length : Int)) := by simp [-List.getD_eq_getElem?_getD, -List.length_flatten, lstK_l, optK_s, lsK_l, appF_at, appP_at, app1P_at, setP_at, set1P_at, pop1_at, pop1E_at, frK_r, gK_v, asgI_at, exprI_at, appI_at, ysOf_some, ysOf_none, ysOf_nil, setAll_cons, setAll_nil, dRevL_l, extP_at, extF_at, setN_at, setO_at, appPop_at, itemsOf_l, itemsOf_t, dIdxL_l, isT_bb, appM_at, asgM_at, dK_d, revs_at, revOf_l, revOf_t]
      have d1 := dAdd_one l z (by omega)
      have pl : plain (iT l) = true := by simp [-List.getD_eq_getElem?_getD, -List.length_flatten, lstK_l, optK_s, lsK_l, appF_at, appP_at, app1P_at, setP_at, set1P_at, pop1_at, pop1E_at, frK_r, gK_v, asgI_at, exprI_at, appI_at, ysOf_some, ysOf_none, ysOf_nil, setAll_cons, setAll_nil, dRevL_l, extP_at, extF_at, setN_at, setO_at, appPop_at, itemsOf_l, itemsOf_t, dIdxL_l, isT_bb, appM_at, asgM_at, dK_d, revs_at, revOf_l, revOf_t]
      have pl2 : plain (iT (l ++ [z])) = true := by simp [-List.getD_eq_getElem?_getD, -List.length_flatten, lstK_l, optK_s, lsK_l, appF_at, appP_at, app1P_at, setP_at, set1P_at, pop1_at, pop1E_at, frK_r, gK_v, asgI_at, exprI_at, appI_at, ysOf_some, ysOf_none, ysOf_nil, setAll_cons, setAll_nil, dRevL_l, extP_at, extF_at, setN_at, setO_at, appPop_at, itemsOf_l, itemsOf_t, dIdxL_l, isT_bb, appM_at, asgM_at, dK_d, revs_at, revOf_l, revOf_t]
      have app1 : M.map iT ++ [iT l] = (M ++ [l]).map iT := by simp [-List.getD_eq_getElem?_getD, -List.length_flatten, lstK_l, optK_s, lsK_l, appF_at, appP_at, app1P_at, setP_at, set1P_at, pop1_at, pop1E_at, frK_r, gK_v, asgI_at, exprI_at, appI_at, ysOf_some, ysOf_none, ysOf_nil, setAll_cons, setAll_nil, dRevL_l, extP_at, extF_at, setN_at, setO_at, appPop_at, itemsOf_l, itemsOf_t, dIdxL_l, isT_bb, appM_at, asgM_at, dK_d, revs_at, revOf_l, revOf_t]
      have app2 : (M ++ [l]).map iT ++ [iT (l ++ [z])] = (M ++ [l] ++ [l ++ [z]]).map iT := by rw [List.map_append (l₁ := M ++ [l])]; rfl
      obtain ⟨Z, hZ⟩ : ∃ Z, Z = iT l := ⟨_, rfl⟩
      obtain ⟨Z2, hZ2⟩ : ∃ Z2, Z2 = iT (l ++ [z]) := ⟨_, rfl⟩
      rw [← hZ] at ln d1 pl app1 ⊢
      rw [← hZ2] at d1 pl2 app2
      obtain ⟨Mm, hMm⟩ : ∃ Mm, Mm = PyData.list (made.map iT) := ⟨_, rfl⟩
      rw [← hMm]
      by_cases c : l.length < k
      · have ec : choiceO k z l = [l, l ++ [z]] := by unfold choiceO; rw [if_pos c]
        have c' : (l.length : Int) < (k : Int) := by omega
        rw [ec] at g1 lM
        simp only [List.length_cons, List.length_nil] at lM
        have b1 : M.length < LIM := by unfold LIM; omega
        have b2 : M.length + 1 < LIM := by unfold LIM; omega
        refine .go (r' := [some (.int (n : Int)), some (.int (k : Int)), some Mm, some (.int z), some (.list ((M ++ [l] ++ [l ++ [z]]).map iT)), some Z]) ?_ ⟨_, _, by rw [hMm], by rw [List.append_assoc M]; exact g1, rest⟩
        rw [← app2, ← app1]
        have le1 : (1 : Nat) ≤ LIM := by decide
        simp [-List.getD_eq_getElem?_getD, -List.length_flatten, lstK_l, optK_s, lsK_l, appF_at, appP_at, app1P_at, setP_at, set1P_at, pop1_at, pop1E_at, frK_r, gK_v, asgI_at, exprI_at, appI_at, ysOf_some, ysOf_none, ysOf_nil, setAll_cons, setAll_nil, dRevL_l, extP_at, extF_at, setN_at, setO_at, appPop_at, itemsOf_l, itemsOf_t, dIdxL_l, isT_bb, appM_at, asgM_at, dK_d, revs_at, revOf_l, revOf_t, -dAdd_t, ln, c', d1, pl, pl2, b1, b2, le1]
      · have ec : choiceO k z l = [l] := by unfold choiceO; rw [if_neg c]
        have c' : ¬ (l.length : Int) < (k : Int) := by omega
        rw [ec] at g1 lM
        simp only [List.length_cons, List.length_nil] at lM
        have b1 : M.length < LIM := by unfold LIM; omega
        refine .go (r' := [some (.int (n : Int)), some (.int (k : Int)), some Mm, some (.int z), some (.list ((M ++ [l]).map iT)), some Z]) ?_ ⟨_, _, by rw [hMm], g1, rest⟩
        rw [← app1]
        simp [-List.getD_eq_getElem?_getD, -List.length_flatten, lstK_l, optK_s, lsK_l, appF_at, appP_at, app1P_at, setP_at, set1P_at, pop1_at, pop1E_at, frK_r, gK_v, asgI_at, exprI_at, appI_at, ysOf_some, ysOf_none, ysOf_nil, setAll_cons, setAll_nil, dRevL_l, extP_at, extF_at, setN_at, setO_at, appPop_at, itemsOf_l, itemsOf_t, dIdxL_l, isT_bb, appM_at, asgM_at, dK_d, revs_at, revOf_l, revOf_t, ln, c', pl, b1]
    · rintro q ⟨M, y1, rfl, g1, _⟩
      have g1 : M ++ [] = made.flatMap (choiceO k z) := g1
      rw [List.append_nil] at g1
      rw [← g1] at h1 bd
      refine .go (r' := [some (.int (n : Int)), some (.int (k : Int)), some (.list (M.map iT)), some (.int z), none, y1]) (by simp [-List.getD_eq_getElem?_getD, -List.length_flatten, lstK_l, optK_s, lsK_l, appF_at, appP_at, app1P_at, setP_at, set1P_at, pop1_at, pop1E_at, frK_r, gK_v, asgI_at, exprI_at, appI_at, ysOf_some, ysOf_none, ysOf_nil, setAll_cons, setAll_nil, dRevL_l, extP_at, extF_at, setN_at, setO_at, appPop_at, itemsOf_l, itemsOf_t, dIdxL_l, isT_bb, appM_at, asgM_at, dK_d, revs_at, revOf_l, revOf_t]) ⟨M, _, _, _, rfl, h1, fun l hl => ?_, c + 1, bd, by omega⟩
      rw [g1] at hl
      obtain ⟨s, hs, hl⟩ := List.mem_flatMap.mp hl
      have := h2 s hs
      unfold choiceO at hl
      rcases List.mem_cons.mp hl with rfl | hl
      · omega
      · split at hl
        · rw [List.mem_singleton.mp hl, List.length_append, List.length_singleton]
          omega
        · cases hl
  · rintro q ⟨made, z1, z2, z3, rfl, h1, _, c, h3, h4⟩
    have h1 : made = E := h1
    have p2 : 2 ^ c ≤ 50000 := pow6 (m := 2) (e := c) (by omega) (by simp [-List.getD_eq_getElem?_getD, -List.length_flatten, lstK_l, optK_s, lsK_l, appF_at, appP_at, app1P_at, setP_at, set1P_at, pop1_at, pop1E_at, frK_r, gK_v, asgI_at, exprI_at, appI_at, ysOf_some, ysOf_none, ysOf_nil, setAll_cons, setAll_nil, dRevL_l, extP_at, extF_at, setN_at, setO_at, appPop_at, itemsOf_l, itemsOf_t, dIdxL_l, isT_bb, appM_at, asgM_at, dK_d, revs_at, revOf_l, revOf_t] at h4; omega)
    have lm : made.length ≤ 50000 := Nat.le_trans h3 p2
    obtain ⟨r, hr⟩ : ∃ r : En, r = [some (.int (n : Int)), some (.int (k : Int)), some (.list (made.map iT)), z1, z2, z3] := ⟨_, rfl⟩
    have i1 : its (var 2) r = .val (made.map iT) := by rw [hr]; simp [-List.getD_eq_getElem?_getD, -List.length_flatten, lstK_l, optK_s, lsK_l, appF_at, appP_at, app1P_at, setP_at, set1P_at, pop1_at, pop1E_at, frK_r, gK_v, asgI_at, exprI_at, appI_at, ysOf_some, ysOf_none, ysOf_nil, setAll_cons, setAll_nil, dRevL_l, extP_at, extF_at, setN_at, setO_at, appPop_at, itemsOf_l, itemsOf_t, dIdxL_l, isT_bb, appM_at, asgM_at, dK_d, revs_at, revOf_l, revOf_t]
    have i2 : ∀ l ∈ made, bi dEq (un dLen (var 5)) (var 1) (r.set 5 (some (iT l))) = .val (.bool (decide (l.length = k))) := fun l _ => by
      have e : dEq (.int (l.length : Int)) (.int (k : Int)) = some (.bool (decide (l.length = k))) := by
        rw [dEq_i, show decide ((l.length : Int) = (k : Int)) = decide (l.length = k) from decide_eq_decide.mpr (by omega)]
      have ln : dLen (iT l) = some (.int (l.length : Int)) := by simp [-List.getD_eq_getElem?_getD, -List.length_flatten, lstK_l, optK_s, lsK_l, appF_at, appP_at, app1P_at, setP_at, set1P_at, pop1_at, pop1E_at, frK_r, gK_v, asgI_at, exprI_at, appI_at, ysOf_some, ysOf_none, ysOf_nil, setAll_cons, setAll_nil, dRevL_l, extP_at, extF_at, setN_at, setO_at, appPop_at, itemsOf_l, itemsOf_t, dIdxL_l, isT_bb, appM_at, asgM_at, dK_d, revs_at, revOf_l, revOf_t]
      obtain ⟨Z, hZ⟩ : ∃ Z, Z = iT l := ⟨_, rfl⟩
      rw [← hZ] at ln ⊢
      rw [hr]
      simp only [bi_at, un_at, var_at, List.set_cons_succ, List.set_cons_zero, List.getElem?_cons_succ, List.getElem?_cons_zero, optER_some, ER.bind_val, ln, of_some, e]
    have i3 : ∀ l ∈ made, decide (l.length = k) = true → var 5 (r.set 5 (some (iT l))) = .val (iT l) := fun l _ _ => by rw [hr]; simp [-List.getD_eq_getElem?_getD, -List.length_flatten, lstK_l, optK_s, lsK_l, appF_at, appP_at, app1P_at, setP_at, set1P_at, pop1_at, pop1E_at, frK_r, gK_v, asgI_at, exprI_at, appI_at, ysOf_some, ysOf_none, ysOf_nil, setAll_cons, setAll_nil, dRevL_l, extP_at, extF_at, setN_at, setO_at, appPop_at, itemsOf_l, itemsOf_t, dIdxL_l, isT_bb, appM_at, asgM_at, dK_d, revs_at, revOf_l, revOf_t]
    have fin : lc 5 (its (var 2)) (bi dEq (un dLen (var 5)) (var 1)) (var 5) r = .val (.list ((made.filter fun l => decide (l.length = k)).map iT)) := lc_M iT (fun l => decide (l.length = k)) iT i1 (by unfold LIM; omega) i2 i3
    rw [← hr]
    show ((lc 5 (its (var 2)) (bi dEq (un dLen (var 5)) (var 1)) (var 5) r).toS r fun d => .ret d r).fin = _
    have e9 : made.filter (fun l => decide (l.length = k)) = C := by rw [h1]; exact hC.symm
    rw [e9] at fin
    generalize lc 5 (its (var 2)) (bi dEq (un dLen (var 5)) (var 1)) (var 5) = G at fin ⊢
    clear hr i1 i2 i3
    rw [fin]
    exact (rfl : FR.ret (.list (C.map iT)) [] = FR.ret (.list (C.map iT)) [])
theorem F_law_choices_eq {n k : Nat} (hn : n ≤ 6) : F_law_choices [.int (n : Int), .int (k : Int)] = .ret (.list ((choicesI n k).map iT)) [] := F_law_choices_any hn (choiceA n k) (choicesI n k) rfl rfl
end Mi

namespace Mi
theorem chk22_ok : (List.range 7).all chkN = true := by decide +kernel
end Mi

namespace Mi
/-! ### a tableau with its greatest letter taken off -/
/-! ### shapes -/
end Mi

namespace Mi
open PySem
theorem popIx_nat {k n : Nat} (h : k < n) (hn : n ≤ 100000) : popIx (.int (k : Int)) n = some k := by
  unfold popIx
  show (if okR (k : Int) then seqIndex? (k : Int) n else none) = _
  rw [if_pos (okR_nat (by omega))]
  unfold seqIndex?
  simp [-List.getD_eq_getElem?_getD, -List.length_flatten, lstK_l, optK_s, lsK_l, appF_at, appP_at, app1P_at, setP_at, set1P_at, pop1_at, pop1E_at, frK_r, gK_v, asgI_at, exprI_at, appI_at, ysOf_some, ysOf_none, ysOf_nil, setAll_cons, setAll_nil, dRevL_l, extP_at, extF_at, setN_at, setO_at, appPop_at, itemsOf_l, itemsOf_t, dIdxL_l, isT_bb, appM_at, asgM_at, dK_d, revs_at, revOf_l, revOf_t]
  omega
theorem erase_map {A B : Type} (f : A → B) : ∀ (l : List A) (q : Nat), (l.map f).eraseIdx q = (l.eraseIdx q).map f
  | [], _ => rfl
  | a :: l, 0 => rfl
  | a :: l, q + 1 => by
    rw [List.map_cons, List.eraseIdx_cons_succ, List.eraseIdx_cons_succ, List.map_cons, erase_map f l q]
theorem erase_perm {A : Type} : ∀ (l : List A) (q : Nat) (h : q < l.length), (l[q] :: l.eraseIdx q).Perm l
  | a :: l, 0, _ => List.Perm.refl _
  | a :: l, q + 1, h => by
    rw [List.eraseIdx_cons_succ, List.getElem_cons_succ]
    exact (List.Perm.swap a _ _).trans (List.Perm.cons a (erase_perm l q (by simpa [-List.getD_eq_getElem?_getD, -List.length_flatten, lstK_l, optK_s, lsK_l, appF_at, appP_at, app1P_at, setP_at, set1P_at, pop1_at, pop1E_at, frK_r, gK_v, asgI_at, exprI_at, appI_at, ysOf_some, ysOf_none, ysOf_nil, setAll_cons, setAll_nil, dRevL_l, extP_at, extF_at, setN_at, setO_at, appPop_at, itemsOf_l, itemsOf_t, dIdxL_l, isT_bb, appM_at, asgM_at, dK_d, revs_at, revOf_l, revOf_t] using h)))
theorem F_law_perm_eq (ns : List Int) (a n : Nat) (hn : n ≤ 100) : ∃ w : List Int, F_law_perm [lck ns, .int (a : Int), .int (n : Int)] = .ret (iT w) [] ∧ w.Perm ((List.range n).map fun k : Nat => (k : Int) + 1) := by
  unfold F_law_perm b_law_perm
  rw [runF_eq]
  simp [-List.getD_eq_getElem?_getD, -List.length_flatten, lstK_l, optK_s, lsK_l, appF_at, appP_at, app1P_at, setP_at, set1P_at, pop1_at, pop1E_at, frK_r, gK_v, asgI_at, exprI_at, appI_at, ysOf_some, ysOf_none, ysOf_nil, setAll_cons, setAll_nil, dRevL_l, extP_at, extF_at, setN_at, setO_at, appPop_at, itemsOf_l, itemsOf_t, dIdxL_l, isT_bb, appM_at, asgM_at, dK_d, revs_at, revOf_l, revOf_t]
  rw [lc_range (n := n) (f := fun k => .int ((k : Int) + 1)) (rng1_val (by simp [-List.getD_eq_getElem?_getD, -List.length_flatten, lstK_l, optK_s, lsK_l, appF_at, appP_at, app1P_at, setP_at, set1P_at, pop1_at, pop1E_at, frK_r, gK_v, asgI_at, exprI_at, appI_at, ysOf_some, ysOf_none, ysOf_nil, setAll_cons, setAll_nil, dRevL_l, extP_at, extF_at, setN_at, setO_at, appPop_at, itemsOf_l, itemsOf_t, dIdxL_l, isT_bb, appM_at, asgM_at, dK_d, revs_at, revOf_l, revOf_t]) (by omega)) (by simp [-List.getD_eq_getElem?_getD, -List.length_flatten, lstK_l, optK_s, lsK_l, appF_at, appP_at, app1P_at, setP_at, set1P_at, pop1_at, pop1E_at, frK_r, gK_v, asgI_at, exprI_at, appI_at, ysOf_some, ysOf_none, ysOf_nil, setAll_cons, setAll_nil, dRevL_l, extP_at, extF_at, setN_at, setO_at, appPop_at, itemsOf_l, itemsOf_t, dIdxL_l, isT_bb, appM_at, asgM_at, dK_d, revs_at, revOf_l, revOf_t, LIM]; omega) (fun k hk => by simp [-List.getD_eq_getElem?_getD, -List.length_flatten, lstK_l, optK_s, lsK_l, appF_at, appP_at, app1P_at, setP_at, set1P_at, pop1_at, pop1E_at, frK_r, gK_v, asgI_at, exprI_at, appI_at, ysOf_some, ysOf_none, ysOf_nil, setAll_cons, setAll_nil, dRevL_l, extP_at, extF_at, setN_at, setO_at, appPop_at, itemsOf_l, itemsOf_t, dIdxL_l, isT_bb, appM_at, asgM_at, dK_d, revs_at, revOf_l, revOf_t])]
  have e0 : (List.range n).map (fun k : Nat => PyData.int ((k : Int) + 1)) = ((List.range n).map fun k : Nat => (k : Int) + 1).map .int := by simp [-List.getD_eq_getElem?_getD, -List.length_flatten, lstK_l, optK_s, lsK_l, appF_at, appP_at, app1P_at, setP_at, set1P_at, pop1_at, pop1E_at, frK_r, gK_v, asgI_at, exprI_at, appI_at, ysOf_some, ysOf_none, ysOf_nil, setAll_cons, setAll_nil, dRevL_l, extP_at, extF_at, setN_at, setO_at, appPop_at, itemsOf_l, itemsOf_t, dIdxL_l, isT_bb, appM_at, asgM_at, dK_d, revs_at, revOf_l, revOf_t]
  rw [e0]
  obtain ⟨all, hall⟩ : ∃ all : List Int, all = (List.range n).map fun k : Nat => (k : Int) + 1 := ⟨_, rfl⟩
  have hlen : all.length = n := by rw [hall]; simp [-List.getD_eq_getElem?_getD, -List.length_flatten, lstK_l, optK_s, lsK_l, appF_at, appP_at, app1P_at, setP_at, set1P_at, pop1_at, pop1E_at, frK_r, gK_v, asgI_at, exprI_at, appI_at, ysOf_some, ysOf_none, ysOf_nil, setAll_cons, setAll_nil, dRevL_l, extP_at, extF_at, setN_at, setO_at, appPop_at, itemsOf_l, itemsOf_t, dIdxL_l, isT_bb, appM_at, asgM_at, dK_d, revs_at, revOf_l, revOf_t]
  rw [← hall]
  simp [-List.getD_eq_getElem?_getD, -List.length_flatten, lstK_l, optK_s, lsK_l, appF_at, appP_at, app1P_at, setP_at, set1P_at, pop1_at, pop1E_at, frK_r, gK_v, asgI_at, exprI_at, appI_at, ysOf_some, ysOf_none, ysOf_nil, setAll_cons, setAll_nil, dRevL_l, extP_at, extF_at, setN_at, setO_at, appPop_at, itemsOf_l, itemsOf_t, dIdxL_l, isT_bb, appM_at, asgM_at, dK_d, revs_at, revOf_l, revOf_t]
  refine for_inv (P := fun x => ∃ w : List Int, x.fin = FR.ret (iT w) [] ∧ w.Perm all) (lo := 0) (n := n) (I := fun r k => ∃ left made v, r = [some (lck ns), some (.int (a : Int)), some (.int (n : Int)), some (iL left), some (iL made), v] ∧ (made ++ left).Perm all ∧ made.length = k) (rng1_val (by simp [-List.getD_eq_getElem?_getD, -List.length_flatten, lstK_l, optK_s, lsK_l, appF_at, appP_at, app1P_at, setP_at, set1P_at, pop1_at, pop1E_at, frK_r, gK_v, asgI_at, exprI_at, appI_at, ysOf_some, ysOf_none, ysOf_nil, setAll_cons, setAll_nil, dRevL_l, extP_at, extF_at, setN_at, setO_at, appPop_at, itemsOf_l, itemsOf_t, dIdxL_l, isT_bb, appM_at, asgM_at, dK_d, revs_at, revOf_l, revOf_t]) (by omega)) ⟨all, [], none, rfl, by simp [-List.getD_eq_getElem?_getD, -List.length_flatten, lstK_l, optK_s, lsK_l, appF_at, appP_at, app1P_at, setP_at, set1P_at, pop1_at, pop1E_at, frK_r, gK_v, asgI_at, exprI_at, appI_at, ysOf_some, ysOf_none, ysOf_nil, setAll_cons, setAll_nil, dRevL_l, extP_at, extF_at, setN_at, setO_at, appPop_at, itemsOf_l, itemsOf_t, dIdxL_l, isT_bb, appM_at, asgM_at, dK_d, revs_at, revOf_l, revOf_t], rfl⟩ ?_ ?_
  · rintro r k _ hk ⟨left, made, v, rfl, p, hm⟩
    left
    have hl : left.length = n - k := by
      have := p.length_eq
      rw [List.length_append] at this
      omega
    have e1 : F_law_mixed [lck ns, .int ((a : Int) + (k : Int)), .int (left.length : Int)] = .ret (.int (mixed ns (a + k) (left.length : Int))) [] := F_law_mixed_eq ns (a + k) _ (by omega)
    have e2 := mixed_bds ns (a + k) (m := (left.length : Int)) (by omega)
    obtain ⟨q, hq⟩ : ∃ q : Nat, mixed ns (a + k) (left.length : Int) = (q : Int) := ⟨_, (Int.toNat_of_nonneg e2.1).symm⟩
    rw [hq] at e1 e2
    have hq2 : q < left.length := by omega
    have e3 : popIx (.int (q : Int)) left.length = some q := popIx_nat hq2 (by omega)
    have e4 : left[q]? = some (left.getD q 0) := by rw [List.getD_eq_getElem?_getD, List.getElem?_eq_getElem hq2]; rfl
    refine ⟨[some (lck ns), some (.int (a : Int)), some (.int (n : Int)), some (iL (left.eraseIdx q)), some (iL (made ++ [left.getD q 0])), some (.int (k : Int))], ?_, left.eraseIdx q, made ++ [left.getD q 0], _, rfl, ?_, by simp [-List.getD_eq_getElem?_getD, -List.length_flatten, lstK_l, optK_s, lsK_l, appF_at, appP_at, app1P_at, setP_at, set1P_at, pop1_at, pop1E_at, frK_r, gK_v, asgI_at, exprI_at, appI_at, ysOf_some, ysOf_none, ysOf_nil, setAll_cons, setAll_nil, dRevL_l, extP_at, extF_at, setN_at, setO_at, appPop_at, itemsOf_l, itemsOf_t, dIdxL_l, isT_bb, appM_at, asgM_at, dK_d, revs_at, revOf_l, revOf_t, hm]⟩
    · simp [-List.getD_eq_getElem?_getD, -List.length_flatten, lstK_l, optK_s, lsK_l, appF_at, appP_at, app1P_at, setP_at, set1P_at, pop1_at, pop1E_at, frK_r, gK_v, asgI_at, exprI_at, appI_at, ysOf_some, ysOf_none, ysOf_nil, setAll_cons, setAll_nil, dRevL_l, extP_at, extF_at, setN_at, setO_at, appPop_at, itemsOf_l, itemsOf_t, dIdxL_l, isT_bb, appM_at, asgM_at, dK_d, revs_at, revOf_l, revOf_t, e1, e3, e4, LIM, show made.length < 100000 by omega, erase_map]
    · refine List.Perm.trans ?_ p
      rw [List.append_assoc]
      refine List.Perm.append_left _ ?_
      have e5 : left.getD q 0 = left[q] := by rw [List.getD_eq_getElem?_getD, List.getElem?_eq_getElem hq2]; rfl
      rw [e5]
      exact erase_perm left q hq2
  · rintro r ⟨left, made, v, rfl, p, hm⟩
    have : left = [] := by
      have := p.length_eq
      rw [List.length_append] at this
      exact List.length_eq_zero_iff.mp (by omega)
    subst this
    rw [List.append_nil] at p
    exact ⟨made, by simp [-List.getD_eq_getElem?_getD, -List.length_flatten, lstK_l, optK_s, lsK_l, appF_at, appP_at, app1P_at, setP_at, set1P_at, pop1_at, pop1E_at, frK_r, gK_v, asgI_at, exprI_at, appI_at, ysOf_some, ysOf_none, ysOf_nil, setAll_cons, setAll_nil, dRevL_l, extP_at, extF_at, setN_at, setO_at, appPop_at, itemsOf_l, itemsOf_t, dIdxL_l, isT_bb, appM_at, asgM_at, dK_d, revs_at, revOf_l, revOf_t], p⟩
theorem F_law_box_2_eq (w : List Int) (hw : w.length ≤ 1000) : F_law_box_2 [iT w] = .ret (bT (insW [] w)) [] := F_law_box_1_eq w hw
end Mi

namespace Mi
/-! ### exchanges by places -/
def swapW (w : List Int) (at' : Nat) : List Int := w.take at' ++ (w.getD (at' + 1) 0 :: w.getD at' 0 :: w.drop (at' + 2))
def lowW (w : List Int) (k : Nat) : Int := if w.getD (k + 1) 0 < w.getD k 0 then w.getD (k + 1) 0 else w.getD k 0
def highW (w : List Int) (k : Nat) : Int := if w.getD (k + 1) 0 > w.getD k 0 then w.getD (k + 1) 0 else w.getD k 0
def aheadW (w : List Int) (k : Nat) : Bool := decide (0 < k) && (decide (lowW w k < w.getD (k - 1) 0) && decide (w.getD (k - 1) 0 ≤ highW w k))
def behindW (w : List Int) (k : Nat) : Bool := decide (k + 2 < w.length) && (decide (lowW w k ≤ w.getD (k + 2) 0) && decide (w.getD (k + 2) 0 < highW w k))
def mayW (w : List Int) (k : Nat) : Bool := aheadW w k || behindW w k
theorem swapW_len {w : List Int} {k : Nat} (h : k + 1 < w.length) : (swapW w k).length = w.length := by
  unfold swapW
  simp
  omega
theorem swapW_getD {w : List Int} {k : Nat} (h : k + 1 < w.length) (j : Nat) : (swapW w k).getD j 0 = if j = k then w.getD (k + 1) 0 else if j = k + 1 then w.getD k 0 else w.getD j 0 := by
  unfold swapW
  have ht : (w.take k).length = k := by rw [List.length_take]; omega
  rw [List.getD_eq_getElem?_getD]
  by_cases c1 : j < k
  · rw [List.getElem?_append_left (by omega), List.getElem?_take_of_lt c1, if_neg (by omega), if_neg (by omega), List.getD_eq_getElem?_getD]
  · rw [List.getElem?_append_right (by omega), ht]
    by_cases c2 : j = k
    · rw [if_pos c2, c2, Nat.sub_self]
      rfl
    · rw [if_neg c2]
      by_cases c3 : j = k + 1
      · rw [if_pos c3, c3, show k + 1 - k = 1 by omega]
        rfl
      · rw [if_neg c3]
        obtain ⟨i, hi⟩ : ∃ i, j - k = i + 2 := ⟨j - k - 2, by omega⟩
        rw [hi, List.getElem?_cons_succ, List.getElem?_cons_succ, List.getElem?_drop, show k + 2 + i = j by omega, List.getD_eq_getElem?_getD]
theorem list_ext0 {a b : List Int} (hl : a.length = b.length) (h : ∀ j, j < a.length → a.getD j 0 = b.getD j 0) : a = b := by
  apply List.ext_getElem hl
  intro j h1 h2
  have := h j h1
  rw [List.getD_eq_getElem?_getD, List.getElem?_eq_getElem h1, List.getD_eq_getElem?_getD, List.getElem?_eq_getElem h2] at this
  exact this
theorem swapW_swapW {w : List Int} {k : Nat} (h : k + 1 < w.length) : swapW (swapW w k) k = w := by
  have hl := swapW_len h
  refine list_ext0 (by rw [swapW_len (by rw [hl]; exact h), hl]) fun j _ => ?_
  rw [swapW_getD (by rw [hl]; exact h), swapW_getD h, swapW_getD h, swapW_getD h]
  by_cases c1 : j = k
  · rw [if_pos c1, if_neg (by omega), if_pos rfl, c1]
  · rw [if_neg c1]
    by_cases c2 : j = k + 1
    · rw [if_pos c2, if_pos rfl, c2]
    · rw [if_neg c2, if_neg c1, if_neg c2]
theorem lowW_swap {w : List Int} {k : Nat} (h : k + 1 < w.length) : lowW (swapW w k) k = lowW w k := by
  unfold lowW
  have e1 : (swapW w k).getD (k + 1) 0 = w.getD k 0 := by rw [swapW_getD h, if_neg (by omega), if_pos rfl]
  have e2 : (swapW w k).getD k 0 = w.getD (k + 1) 0 := by rw [swapW_getD h, if_pos rfl]
  rw [e1, e2]
  split <;> split <;> omega
theorem highW_swap {w : List Int} {k : Nat} (h : k + 1 < w.length) : highW (swapW w k) k = highW w k := by
  unfold highW
  have e1 : (swapW w k).getD (k + 1) 0 = w.getD k 0 := by rw [swapW_getD h, if_neg (by omega), if_pos rfl]
  have e2 : (swapW w k).getD k 0 = w.getD (k + 1) 0 := by rw [swapW_getD h, if_pos rfl]
  rw [e1, e2]
  split <;> split <;> omega
theorem aheadW_swap {w : List Int} {k : Nat} (h : k + 1 < w.length) : aheadW (swapW w k) k = aheadW w k := by
  unfold aheadW
  rw [lowW_swap h, highW_swap h]
  by_cases c : 0 < k
  · rw [swapW_getD h, if_neg (by omega), if_neg (by omega)]
  · rw [decide_eq_false c, Bool.false_and, Bool.false_and]
theorem behindW_swap {w : List Int} {k : Nat} (h : k + 1 < w.length) : behindW (swapW w k) k = behindW w k := by
  unfold behindW
  rw [lowW_swap h, highW_swap h, swapW_len h, swapW_getD h, if_neg (by omega), if_neg (by omega)]
theorem mayW_swap {w : List Int} {k : Nat} (h : k + 1 < w.length) : mayW (swapW w k) k = mayW w k := by
  unfold mayW
  rw [aheadW_swap h, behindW_swap h]
/-- one exchange -/
def Ex1 (u v : List Int) : Prop := ∃ k, k + 1 < u.length ∧ mayW u k = true ∧ v = swapW u k
theorem Ex1.symm {u v : List Int} (h : Ex1 u v) : Ex1 v u := by
  obtain ⟨k, h1, h2, rfl⟩ := h
  exact ⟨k, by rw [swapW_len h1]; exact h1, by rw [mayW_swap h1]; exact h2, (swapW_swapW h1).symm⟩
theorem Ex1.len {u v : List Int} (h : Ex1 u v) : v.length = u.length := by
  obtain ⟨k, h1, h2, rfl⟩ := h
  exact swapW_len h1
/-- a road: words, each made of the one ahead -/
structure Chn (w : List Int) (ss : List (List Int)) (v : List Int) : Prop where
  mk ::
  hd : ss.head? = some w
  lst : ss.getLast? = some v
  stp : ∀ k, k + 1 < ss.length → Ex1 (ss.getD k []) (ss.getD (k + 1) [])
theorem Chn.one (w : List Int) : Chn w [w] w := ⟨rfl, rfl, fun k h => by simp at h⟩
end Mi

namespace Mi
/-! ### rises of words, and what exchanges make of them -/
/-- places, rising, whose letters do not fall -/
def Ris (w : List Int) (l : List Nat) : Prop := l.Pairwise (fun i j => i < j ∧ w.getD i 0 ≤ w.getD j 0) ∧ ∀ i ∈ l, i < w.length
structure Fam (w : List Int) (F : List (List Nat)) : Prop where
  mk ::
  ris : ∀ l ∈ F, Ris w l
  one : ∀ z, F.flatten.count z ≤ 1
/-- a row in which k and k + 1 stand -/
structure Own (w : List Int) (k : Nat) (A tail : List Nat) : Prop where
  mk ::
  a : A.Pairwise (fun i j => i < j ∧ w.getD i 0 ≤ w.getD j 0)
  t : tail.Pairwise (fun i j => i < j ∧ w.getD i 0 ≤ w.getD j 0)
  ak : ∀ i ∈ A, i < k ∧ w.getD i 0 ≤ w.getD k 0
  tk : ∀ j ∈ tail, k + 1 < j ∧ w.getD (k + 1) 0 ≤ w.getD j 0 ∧ j < w.length
  kk : w.getD k 0 ≤ w.getD (k + 1) 0
/-- a row of which x is one -/
structure Oth (w : List Int) (x : Nat) (O1 O2 : List Nat) : Prop where
  mk ::
  a : O1.Pairwise (fun i j => i < j ∧ w.getD i 0 ≤ w.getD j 0)
  b : O2.Pairwise (fun i j => i < j ∧ w.getD i 0 ≤ w.getD j 0)
  ax : ∀ i ∈ O1, i < x ∧ w.getD i 0 ≤ w.getD x 0
  bx : ∀ j ∈ O2, x < j ∧ w.getD x 0 ≤ w.getD j 0 ∧ j < w.length
section
variable {w : List Int} {k : Nat}
end
end Mi

namespace Mi
/-! ### falls -/
/-! ### by places -/
end Mi

namespace Mi
/-! ### a word read backwards: the box turned over -/
end Mi

namespace Mi
/-! ### the same shape for a permutation and its inverse -/
structure Inv (u v : List Int) : Prop where
  mk ::
  len : u.length = v.length
  ndu : u.Nodup
  ndv : v.Nodup
  rngu : ∀ z ∈ u, 1 ≤ z ∧ z ≤ (u.length : Int)
  rngv : ∀ z ∈ v, 1 ≤ z ∧ z ≤ (u.length : Int)
  iff_ : ∀ i j, i < u.length → j < u.length → (u.getD i 0 = (j : Int) + 1 ↔ v.getD j 0 = (i : Int) + 1)
theorem Inv.symm {u v : List Int} (h : Inv u v) : Inv v u := ⟨h.len.symm, h.ndv, h.ndu, by rw [← h.len]; exact h.rngv, by rw [← h.len]; exact h.rngu, fun i j hi hj => (h.iff_ j i (by rw [h.len]; exact hj) (by rw [h.len]; exact hi)).symm⟩
def onesZ (n : Nat) : List Int := (List.range n).map fun k : Nat => (k : Int) + 1
theorem mem_onesZ {n : Nat} {z : Int} : z ∈ onesZ n ↔ 1 ≤ z ∧ z ≤ (n : Int) := by
  unfold onesZ
  rw [List.mem_map]
  constructor
  · rintro ⟨k, hk, rfl⟩
    rw [List.mem_range] at hk
    omega
  · intro h
    exact ⟨(z - 1).toNat, List.mem_range.mpr (by omega), by omega⟩
theorem onesZ_nd (n : Nat) : (onesZ n).Nodup := by
  unfold onesZ List.Nodup
  rw [List.pairwise_map]
  exact List.pairwise_lt_range.imp fun {a b} h => by omega
/-- a permutation of 1 .. n -/
def PermN (u : List Int) : Prop := u.Perm (onesZ u.length)
theorem PermN.nd {u : List Int} (h : PermN u) : u.Nodup := h.nodup_iff.mpr (onesZ_nd _)
theorem PermN.all {u : List Int} (h : PermN u) (j : Nat) (hj : j < u.length) : ((j : Int) + 1) ∈ u := h.mem_iff.mpr (mem_onesZ.mpr (by omega))
def inv (u : List Int) : List Int := (List.range u.length).map fun j : Nat => ((u.idxOf ((j : Int) + 1) : Nat) : Int) + 1
/-! ### the shapes of the turned words -/
theorem ins_lens (w : List Int) : shDown (lens (insW [] w)) (w.length : Int) = true := by
  refine (bits_of_tab _ _ (tab_insW w [] trivial) fun l hl => ?_).1
  have := head_len (insW [] w) l hl
  rw [insW_size] at this
  omega
end Mi

namespace Mi
open PySem
/-! ### law 22 -/
theorem nin_iT (z : Int) (row : List Int) : dNin (.int z) (iT row) = some (.bool (!(row.contains z))) := by
  have a1 : (row.map PyData.int).all flatD = true := List.all_eq_true.mpr fun d hd => by
    obtain ⟨o, _, rfl⟩ := List.mem_map.mp hd
    rfl
  have a2 : ((row.map PyData.int).any fun y => eqF y (.int z)) = row.contains z := by
    rw [Bool.eq_iff_iff, List.any_eq_true, List.contains_iff_mem]
    constructor
    · rintro ⟨d, hd, h⟩
      obtain ⟨y, hy, rfl⟩ := List.mem_map.mp hd
      have : (y == z) = true := h
      rw [← eq_of_beq this]
      exact hy
    · intro h
      exact ⟨.int z, List.mem_map.mpr ⟨z, h, rfl⟩, show (z == z) = true from by simp [-List.getD_eq_getElem?_getD, -List.length_flatten, lstK_l, optK_s, lsK_l, appF_at, appP_at, app1P_at, setP_at, set1P_at, pop1_at, pop1E_at, frK_r, gK_v, asgI_at, exprI_at, appI_at, ysOf_some, ysOf_none, ysOf_nil, setAll_cons, setAll_nil, dRevL_l, extP_at, extF_at, setN_at, setO_at, appPop_at, itemsOf_l, itemsOf_t, dIdxL_l, isT_bb, appM_at, asgM_at, dK_d, revs_at, revOf_l, revOf_t]⟩
  show ((if flatD (.int z) && (row.map PyData.int).all flatD then some ((row.map PyData.int).any fun y => eqF y (.int z)) else none).map fun x => PyData.bool (!x)) = _
  rw [a1, if_pos (show (flatD (.int z) && true) = true from rfl), a2]
  rfl
theorem lens_shp (T : List (List Int)) : lens T = zN (shp T) := by
  unfold lens shp zN
  rw [List.map_map]
  rfl
theorem restI_len (n : Nat) (row : List Int) : (restI n row).length ≤ n := by
  unfold restI
  have := List.length_filter_le (fun z => !(row.contains z)) (lettersI n)
  rw [lettersI_len] at this
  exact this
theorem choicesI_len {n k : Nat} {row : List Int} (h : row ∈ choicesI n k) : row.length = k := of_decide_eq_true (List.mem_filter.mp h).2
theorem law22_tail {n k : Nat} {I W : List Nat} {B : List (List Int)} (hn : n ≤ 6) (hk : k ≤ min n 4) (hI : downN I 6 = true) (sI : sumN I = k) (hW : downN W 6 = true) (sW : sumN W = n - k) (hB : B ∈ domB n) (bx : Sh (shp B)) (sB : sumN (shp B) = n) (lB : B.length ≤ 100) (X : D) :
    ((seq (asg 6 (cst (.int 0))) (seq (forS 7 (its (callF F_law_choices (acons (var 1) (acons (var 3) anil)))) (seq (asg 8 (lc 12 (rng2 (acons (cst (.int 1)) (acons (bi dAdd (var 1) (cst (.int 1))) anil))) (bi dNin (var 12) (var 7)) (var 12))) (forS 9 (its (callF F_law_fillings (acons (var 4) (acons (var 7) anil)))) (forS 10 (its (callF F_law_fillings (acons (var 5) (acons (var 8) anil)))) (asg 6 (bi dAdd (var 6) (un dInt (bi dEq (callF F_law_box_2 (acons (bi dAdd (callF F_law_reading (acons (var 9) anil)) (callF F_law_reading (acons (var 10) anil))) anil)) (var 2))))))))) (seq (asg 11 (callF F_lattice_boxes_1 (acons (callF F_law_lengths (acons (var 2) anil)) (acons (var 4) (acons (var 5) anil))))) (retS (tand (un (dIsi .list) (var 11)) (bi dEq (un dLen (var 11)) (var 6))))))) [some X, some (.int (n : Int)), some (bT B), some (.int (k : Int)), some (iT (zN I)), some (iT (zN W)), none, none, none, none, none, none, none]).fin = .ret (.bool true) [] := by
  have shI : Sh I := ⟨downN_up hI (by decide), by omega⟩
  have shW : Sh W := ⟨downN_up hW (by decide), by omega⟩
  have lI := downN_len hI
  have lW := downN_len hW
  have chk := chkN_all (List.all_eq_true.mp chk22_ok n (List.mem_range.mpr (by omega))) hk hI sI hW sW hB
  have f1 := F_law_choices_eq (n := n) (k := k) hn
  have fI : ∀ ls : List Int, ls.length ≤ 6 → F_law_fillings [iT (zN I), iT ls] = .ret (.list ((fillG I ls).map bT)) [] := fun ls hl => F_law_fillings_eq (by omega) hl
  have fW : ∀ ls : List Int, ls.length ≤ 6 → F_law_fillings [iT (zN W), iL ls] = .ret (.list ((fillG W ls).map bT)) [] := fun ls hl => F_law_fillings_L (by omega) hl
  have fl : F_law_lengths [bT B] = .ret (iT (zN (shp B))) [] := by rw [F_law_lengths_eq B (by omega), lens_shp]
  have fb := F_lattice_boxes_1_eq bx shI shW (by omega)
  obtain ⟨V, hV⟩ : ∃ V : List D, V = (if liesB I (shp B) = true ∧ sumN (shp B) = sumN I + sumN W then (sortedN (shp B) I W).map (pairD I) else []) := ⟨_, rfl⟩
  rw [← hV] at fb
  have lV : V.length = latCnt (shp B) I W := by
    rw [hV]
    unfold latCnt
    by_cases c : liesB I (shp B) = true
    · have c' : liesN I (shp B) = true := c
      rw [if_pos ⟨c, by omega⟩, if_pos c', List.length_map]
      unfold sortedN
      rw [List.length_mergeSort, List.length_map]
    · have c' : ¬ liesN I (shp B) = true := c
      rw [if_neg (fun h => c h.1), if_neg c']
      rfl
  have deq : ∀ T : List (List Int), dEq (bT T) (bT B) = some (.bool (T == B)) := fun T => by
    rw [dEq_bT, show decide (T = B) = (T == B) by rw [Bool.eq_iff_iff, decide_eq_true_eq, beq_iff_eq]]
  have itl : ∀ z2 z3 z4 z5 z6 z7 z8 z9 z10, rng2 (acons (cst (.int 1)) (acons (bi dAdd (var 1) (cst (.int 1))) anil)) [some X, some (.int (n : Int)), z2, z3, z4, z5, z6, z7, z8, z9, z10, none, none] = .val ((lettersI n).map .int) := fun _ _ _ _ _ _ _ _ _ => its_letters (by omega) rfl
  obtain ⟨A, hA⟩ : ∃ A, A = iT (zN I) := ⟨_, rfl⟩
  obtain ⟨C, hC⟩ : ∃ C, C = iT (zN W) := ⟨_, rfl⟩
  obtain ⟨Y, hY⟩ : ∃ Y, Y = bT B := ⟨_, rfl⟩
  obtain ⟨Q, hQ⟩ : ∃ Q, Q = iT (zN (shp B)) := ⟨_, rfl⟩
  rw [← hA] at fI fb ⊢
  rw [← hC] at fW fb ⊢
  rw [← hY] at fl deq ⊢
  rw [← hQ] at fl fb
  rw [seq_at, show asg 6 (cst (.int 0)) [some X, some (.int (n : Int)), some Y, some (.int (k : Int)), some A, some C, none, none, none, none, none, none, none] = .nx [some X, some (.int (n : Int)), some Y, some (.int (k : Int)), some A, some C, some (nI 0), none, none, none, none, none, none] by simp [-List.getD_eq_getElem?_getD, -List.length_flatten, lstK_l, optK_s, lsK_l, appF_at, appP_at, app1P_at, setP_at, set1P_at, pop1_at, pop1E_at, frK_r, gK_v, asgI_at, exprI_at, appI_at, ysOf_some, ysOf_none, ysOf_nil, setAll_cons, setAll_nil, dRevL_l, extP_at, extF_at, setN_at, setO_at, appPop_at, itemsOf_l, itemsOf_t, dIdxL_l, isT_bb, appM_at, asgM_at, dK_d, revs_at, revOf_l, revOf_t, nI], next_nx, seq_at]
  have hch : ∀ row ∈ choicesI n k, row.length ≤ 6 := fun row h => by have := choicesI_len h; omega
  refine for_tM (P := fun x => x.fin = FR.ret (.bool true) []) (l := choicesI n k) iT (I := fun q m' => ∃ c z7 z8 z9 z10, q = [some X, some (.int (n : Int)), some Y, some (.int (k : Int)), some A, some C, some (nI c), z7, z8, z9, z10, none, none] ∧ c + (m'.flatMap (prodC n I W)).count B = (prodsI n k I W).count B ∧ ∀ r ∈ m', r ∈ choicesI n k) (by simp [-List.getD_eq_getElem?_getD, -List.length_flatten, lstK_l, optK_s, lsK_l, appF_at, appP_at, app1P_at, setP_at, set1P_at, pop1_at, pop1E_at, frK_r, gK_v, asgI_at, exprI_at, appI_at, ysOf_some, ysOf_none, ysOf_nil, setAll_cons, setAll_nil, dRevL_l, extP_at, extF_at, setN_at, setO_at, appPop_at, itemsOf_l, itemsOf_t, dIdxL_l, isT_bb, appM_at, asgM_at, dK_d, revs_at, revOf_l, revOf_t, f1]) ⟨0, _, _, _, _, rfl, Nat.zero_add _, fun _ h => h⟩ ?_ ?_
  · rintro q row m' ⟨c, z7, z8, z9, z10, rfl, h1, h2⟩
    have h1 : c + (prodC n I W row ++ m'.flatMap (prodC n I W)).count B = (prodsI n k I W).count B := h1
    rw [List.count_append] at h1
    have lr := hch row (h2 row List.mem_cons_self)
    have nin : ∀ z : Int, dNin (.int z) (iT row) = some (.bool (!(row.contains z))) := fun z => nin_iT z row
    have fr := fI row lr
    obtain ⟨rest, hrest⟩ : ∃ rest, rest = restI n row := ⟨_, rfl⟩
    have lrest : rest.length ≤ 6 := by have := restI_len n row; rw [hrest]; omega
    have fo := fW rest lrest
    obtain ⟨R, hR⟩ : ∃ R, R = iT row := ⟨_, rfl⟩
    rw [← hR] at nin fr ⊢
    have l8 : lc 12 (rng2 (acons (cst (.int 1)) (acons (bi dAdd (var 1) (cst (.int 1))) anil))) (bi dNin (var 12) (var 7)) (var 12) [some X, some (.int (n : Int)), some Y, some (.int (k : Int)), some A, some C, some (nI c), some R, z8, z9, z10, none, none] = .val (.list (rest.map .int)) := by
      rw [lc_M PyData.int (l := lettersI n) (p := fun z => !(row.contains z)) (f := PyData.int) (itl _ _ _ _ _ _ _ _ _) (by rw [lettersI_len]; unfold LIM; omega) (fun z _ => by simp [-List.getD_eq_getElem?_getD, -List.length_flatten, lstK_l, optK_s, lsK_l, appF_at, appP_at, app1P_at, setP_at, set1P_at, pop1_at, pop1E_at, frK_r, gK_v, asgI_at, exprI_at, appI_at, ysOf_some, ysOf_none, ysOf_nil, setAll_cons, setAll_nil, dRevL_l, extP_at, extF_at, setN_at, setO_at, appPop_at, itemsOf_l, itemsOf_t, dIdxL_l, isT_bb, appM_at, asgM_at, dK_d, revs_at, revOf_l, revOf_t, nin]) (fun z _ _ => by simp [-List.getD_eq_getElem?_getD, -List.length_flatten, lstK_l, optK_s, lsK_l, appF_at, appP_at, app1P_at, setP_at, set1P_at, pop1_at, pop1E_at, frK_r, gK_v, asgI_at, exprI_at, appI_at, ysOf_some, ysOf_none, ysOf_nil, setAll_cons, setAll_nil, dRevL_l, extP_at, extF_at, setN_at, setO_at, appPop_at, itemsOf_l, itemsOf_t, dIdxL_l, isT_bb, appM_at, asgM_at, dK_d, revs_at, revOf_l, revOf_t]), hrest]
      rfl
    show Tn _ _ (seq (asg 8 (lc 12 (rng2 (acons (cst (.int 1)) (acons (bi dAdd (var 1) (cst (.int 1))) anil))) (bi dNin (var 12) (var 7)) (var 12))) _ [some X, some (.int (n : Int)), some Y, some (.int (k : Int)), some A, some C, some (nI c), some R, z8, z9, z10, none, none])
    rw [seq_at, asg_at, l8, ER.toS_val, next_nx]
    show Tn _ _ (forS 9 (its (callF F_law_fillings (acons (var 4) (acons (var 7) anil)))) _ [some X, some (.int (n : Int)), some Y, some (.int (k : Int)), some A, some C, some (nI c), some R, some (iL rest), z9, z10, none, none])
    have pc : prodC n I W row = (fillG I row).flatMap (prodR W rest) := by rw [hrest]; rfl
    rw [pc] at h1
    obtain ⟨S, hS⟩ : ∃ S, S = iL rest := ⟨_, rfl⟩
    rw [← hS] at fo ⊢
    have okI := (fillG_ok I row).1
    have okW := (fillG_ok W rest).1
    refine for_tM0 (P := Tn _ _) (l := fillG I row) bT (I := fun q m2 => ∃ c2 y9 y10, q = [some X, some (.int (n : Int)), some Y, some (.int (k : Int)), some A, some C, some (nI c2), some R, some S, y9, y10, none, none] ∧ c2 + (m2.flatMap (prodR W rest)).count B = c + ((fillG I row).flatMap (prodR W rest)).count B ∧ ∀ T ∈ m2, T ∈ fillG I row) (by simp [-List.getD_eq_getElem?_getD, -List.length_flatten, lstK_l, optK_s, lsK_l, appF_at, appP_at, app1P_at, setP_at, set1P_at, pop1_at, pop1E_at, frK_r, gK_v, asgI_at, exprI_at, appI_at, ysOf_some, ysOf_none, ysOf_nil, setAll_cons, setAll_nil, dRevL_l, extP_at, extF_at, setN_at, setO_at, appPop_at, itemsOf_l, itemsOf_t, dIdxL_l, isT_bb, appM_at, asgM_at, dK_d, revs_at, revOf_l, revOf_t, fr]) ⟨c, _, _, rfl, rfl, fun _ h => h⟩ ?_ ?_
    · rintro q one m2 ⟨c2, y9, y10, rfl, g1, g2⟩
      have g1 : c2 + (prodR W rest one ++ m2.flatMap (prodR W rest)).count B = c + ((fillG I row).flatMap (prodR W rest)).count B := g1
      rw [List.count_append] at g1
      have o1 := (okI one (g2 one List.mem_cons_self)).2
      have r1 := F_law_reading_eq one (by omega)
      have lr1 : (readT one).length = one.flatten.length := (readT_perm one).length_eq
      show Tn _ _ (forS 10 (its (callF F_law_fillings (acons (var 5) (acons (var 8) anil)))) _ [some X, some (.int (n : Int)), some Y, some (.int (k : Int)), some A, some C, some (nI c2), some R, some S, some (bT one), y10, none, none])
      refine for_tM0 (P := Tn _ _) (l := fillG W rest) bT (I := fun q m3 => ∃ c3 y11, q = [some X, some (.int (n : Int)), some Y, some (.int (k : Int)), some A, some C, some (nI c3), some R, some S, some (bT one), y11, none, none] ∧ c3 + (m3.map fun other => insW [] (readT one ++ readT other)).count B = c2 + (prodR W rest one).count B ∧ ∀ T ∈ m3, T ∈ fillG W rest) (by simp [-List.getD_eq_getElem?_getD, -List.length_flatten, lstK_l, optK_s, lsK_l, appF_at, appP_at, app1P_at, setP_at, set1P_at, pop1_at, pop1E_at, frK_r, gK_v, asgI_at, exprI_at, appI_at, ysOf_some, ysOf_none, ysOf_nil, setAll_cons, setAll_nil, dRevL_l, extP_at, extF_at, setN_at, setO_at, appPop_at, itemsOf_l, itemsOf_t, dIdxL_l, isT_bb, appM_at, asgM_at, dK_d, revs_at, revOf_l, revOf_t, fo]) ⟨c2, _, rfl, rfl, fun _ h => h⟩ ?_ ?_
      · rintro q other m3 ⟨c3, y11, rfl, u1, u2⟩
        have u1 : c3 + (insW [] (readT one ++ readT other) :: m3.map fun other => insW [] (readT one ++ readT other)).count B = c2 + (prodR W rest one).count B := u1
        rw [List.count_cons] at u1
        have o2 := (okW other (u2 other List.mem_cons_self)).2
        have r2 := F_law_reading_eq other (by omega)
        have lr2 : (readT other).length = other.flatten.length := (readT_perm other).length_eq
        have a1 : dAdd (iT (readT one)) (iT (readT other)) = some (iT (readT one ++ readT other)) := dAdd_iT _ _ (by omega)
        have b1 := F_law_box_2_eq (readT one ++ readT other) (by rw [List.length_append]; omega)
        have q1 := deq (insW [] (readT one ++ readT other))
        obtain ⟨bb, hbb⟩ : ∃ bb, bb = (insW [] (readT one ++ readT other) == B) := ⟨_, rfl⟩
        rw [← hbb] at q1 u1
        obtain ⟨E1, hE1⟩ : ∃ E1, E1 = bT one := ⟨_, rfl⟩
        obtain ⟨E2, hE2⟩ : ∃ E2, E2 = bT other := ⟨_, rfl⟩
        obtain ⟨W1, hW1⟩ : ∃ W1, W1 = iT (readT one) := ⟨_, rfl⟩
        obtain ⟨W2, hW2⟩ : ∃ W2, W2 = iT (readT other) := ⟨_, rfl⟩
        obtain ⟨W3, hW3⟩ : ∃ W3, W3 = iT (readT one ++ readT other) := ⟨_, rfl⟩
        obtain ⟨E3, hE3⟩ : ∃ E3, E3 = bT (insW [] (readT one ++ readT other)) := ⟨_, rfl⟩
        rw [← hE1, ← hW1] at r1
        rw [← hE2, ← hW2] at r2
        rw [← hW1, ← hW2, ← hW3] at a1
        rw [← hW3, ← hE3] at b1
        rw [← hE3] at q1
        rw [← hE1, ← hE2]
        have i1 : dInt (.bool bb) = some (.int (if bb then 1 else 0)) := rfl
        have s1 : dAdd (nI c3) (.int (if bb then 1 else 0)) = some (nI (c3 + if bb then 1 else 0)) := by
          unfold nI
          rw [dAdd_i, show ((c3 : Int) + (if bb = true then 1 else 0)) = ((c3 + (if bb = true then 1 else 0) : Nat) : Int) by cases bb <;> simp [-List.getD_eq_getElem?_getD, -List.length_flatten, lstK_l, optK_s, lsK_l, appF_at, appP_at, app1P_at, setP_at, set1P_at, pop1_at, pop1E_at, frK_r, gK_v, asgI_at, exprI_at, appI_at, ysOf_some, ysOf_none, ysOf_nil, setAll_cons, setAll_nil, dRevL_l, extP_at, extF_at, setN_at, setO_at, appPop_at, itemsOf_l, itemsOf_t, dIdxL_l, isT_bb, appM_at, asgM_at, dK_d, revs_at, revOf_l, revOf_t]]
        obtain ⟨N1, hN1⟩ : ∃ N1, N1 = nI c3 := ⟨_, rfl⟩
        obtain ⟨N2, hN2⟩ : ∃ N2, N2 = nI (c3 + if bb then 1 else 0) := ⟨_, rfl⟩
        obtain ⟨J, hJ⟩ : ∃ J : Int, J = if bb then 1 else 0 := ⟨_, rfl⟩
        rw [← hJ] at i1 s1
        rw [← hN1] at s1 ⊢
        rw [← hN2] at s1
        refine .go (r' := [some X, some (.int (n : Int)), some Y, some (.int (k : Int)), some A, some C, some N2, some R, some S, some E1, some E2, none, none]) (by simp [-List.getD_eq_getElem?_getD, -List.length_flatten, lstK_l, optK_s, lsK_l, appF_at, appP_at, app1P_at, setP_at, set1P_at, pop1_at, pop1E_at, frK_r, gK_v, asgI_at, exprI_at, appI_at, ysOf_some, ysOf_none, ysOf_nil, setAll_cons, setAll_nil, dRevL_l, extP_at, extF_at, setN_at, setO_at, appPop_at, itemsOf_l, itemsOf_t, dIdxL_l, isT_bb, appM_at, asgM_at, dK_d, revs_at, revOf_l, revOf_t, -dAdd_t, r1, r2, a1, b1, q1, i1, s1]) ⟨c3 + if bb then 1 else 0, _, by rw [hN2], by omega, fun T hT => u2 T (List.mem_cons_of_mem _ hT)⟩
      · rintro q ⟨c3, y11, rfl, u1, _⟩
        have u1 : c3 + 0 = c2 + (prodR W rest one).count B := u1
        exact .go rfl ⟨c3, _, _, rfl, by omega, fun T hT => g2 T (List.mem_cons_of_mem _ hT)⟩
    · rintro q ⟨c2, y9, y10, rfl, g1, _⟩
      have g1 : c2 + 0 = c + ((fillG I row).flatMap (prodR W rest)).count B := g1
      exact .go rfl ⟨c2, _, _, _, _, rfl, by omega, fun r hr => h2 r (List.mem_cons_of_mem _ hr)⟩
  · rintro q ⟨c, z7, z8, z9, z10, rfl, h1, _⟩
    have h1 : c + 0 = (prodsI n k I W).count B := h1
    have e1 : V.length = c := by omega
    have i1 : isT .list (.list V) = true := rfl
    have ln : dLen (.list V) = some (.int (V.length : Int)) := rfl
    obtain ⟨U, hU⟩ : ∃ U, U = PyData.list V := ⟨_, rfl⟩
    rw [← hU] at fb i1 ln
    rw [e1] at ln
    simp [-List.getD_eq_getElem?_getD, -List.length_flatten, lstK_l, optK_s, lsK_l, appF_at, appP_at, app1P_at, setP_at, set1P_at, pop1_at, pop1E_at, frK_r, gK_v, asgI_at, exprI_at, appI_at, ysOf_some, ysOf_none, ysOf_nil, setAll_cons, setAll_nil, dRevL_l, extP_at, extF_at, setN_at, setO_at, appPop_at, itemsOf_l, itemsOf_t, dIdxL_l, isT_bb, appM_at, asgM_at, dK_d, revs_at, revOf_l, revOf_t, fl, fb, i1, ln, nI]
theorem zN_inj2 : ∀ {a b : List Nat}, zN a = zN b → a = b
  | [], [], _ => rfl
  | [], _ :: _, h => nomatch h
  | _ :: _, [], h => nomatch h
  | x :: a, y :: b, h => by
    have h : ((x : Nat) : Int) :: zN a = ((y : Nat) : Int) :: zN b := h
    injection h with h1 h2
    rw [zN_inj2 h2, show x = y by omega]
theorem box_sh (w : List Int) : downN (shp (insW [] w)) w.length = true ∧ sumN (shp (insW [] w)) = w.length := by
  obtain ⟨N, hN, dN⟩ := zN_of (m := w.length) (ins_lens w)
  have e := lens_shp (insW [] w)
  rw [hN] at e
  have e := zN_inj2 e
  subst e
  refine ⟨dN, ?_⟩
  have s := sum_lens (insW [] w)
  rw [hN, zN_sum, insW_size] at s
  omega
theorem holds_law_22 (ns : List Int) : F_law_22 [lck ns] = .ret (.bool true) [] := by
  unfold F_law_22 b_law_22
  rw [runF_eq]
  obtain ⟨n, hn⟩ : ∃ n : Nat, mixed ns 0 7 = (n : Int) := ⟨_, (Int.toNat_of_nonneg (mixed_bds ns 0 (by decide)).1).symm⟩
  have n6 : n ≤ 6 := by have := (mixed_bds ns 0 (m := 7) (by decide)).2; omega
  have e1 : F_law_mixed [lck ns, .int 0, .int 7] = .ret (.int (mixed ns 0 7)) [] := F_law_mixed_eq ns 0 7 (by decide)
  rw [hn] at e1
  obtain ⟨w, e2, pw⟩ := F_law_perm_eq ns 1 n (by omega)
  have e2 : F_law_perm [lck ns, .int 1, .int (n : Int)] = .ret (iT w) [] := e2
  have pw : w.Perm (lettersI n) := pw
  have lw : w.length = n := by rw [pw.length_eq, lettersI_len]
  have e3 := F_law_box_2_eq w (by omega)
  obtain ⟨k, hk⟩ : ∃ k : Nat, mixed ns 10 ((min n 4 : Nat) + 1 : Int) = (k : Int) := ⟨_, (Int.toNat_of_nonneg (mixed_bds ns 10 (by omega)).1).symm⟩
  have k4 : k ≤ min n 4 := by have := (mixed_bds ns 10 (m := ((min n 4 : Nat) + 1 : Int)) (by omega)).2; omega
  have e4 : F_law_mixed [lck ns, .int 10, .int ((min n 4 : Nat) + 1 : Int)] = .ret (.int (mixed ns 10 ((min n 4 : Nat) + 1 : Int))) [] := F_law_mixed_eq ns 10 _ (by omega)
  rw [hk] at e4
  have m4 : dMin2 (.int (n : Int)) (.int 4) = some (.int ((min n 4 : Nat) : Int)) := by
    show some (PyData.int (if (4 : Int) < (n : Int) then (4 : Int) else (n : Int))) = _
    rw [show (if (4 : Int) < (n : Int) then (4 : Int) else (n : Int)) = ((min n 4 : Nat) : Int) by split <;> omega]
  obtain ⟨e5, d5, s5⟩ := F_law_exact_eq ns 10 k (by omega)
  obtain ⟨I, hI, dI⟩ := zN_of d5
  rw [hI] at e5 s5
  rw [zN_sum] at s5
  have e5 : F_law_exact [lck ns, .int 11, .int (k : Int)] = .ret (iT (zN I)) [] := e5
  obtain ⟨e6, d6, s6⟩ := F_law_exact_eq ns 19 (n - k) (by omega)
  obtain ⟨W, hW, dW⟩ := zN_of d6
  rw [hW] at e6 s6
  rw [zN_sum] at s6
  have e6 : F_law_exact [lck ns, .int 20, .int ((n - k : Nat) : Int)] = .ret (iT (zN W)) [] := e6
  have sub : (n : Int) - (k : Int) = ((n - k : Nat) : Int) := by omega
  obtain ⟨bd, bs⟩ := box_sh w
  have tail := law22_tail (I := I) (W := W) n6 k4 (downN_up dI (by omega)) (by omega) (downN_up dW (by omega)) (by omega) (domB_mem pw) ⟨downN_up bd (by omega), by omega⟩ (by rw [bs, lw]) (by have := downN_len bd; unfold shp at this bs; rw [List.length_map] at this; omega) (lck ns)
  obtain ⟨X, hX⟩ : ∃ X, X = lck ns := ⟨_, rfl⟩
  obtain ⟨Q, hQ⟩ : ∃ Q, Q = iT w := ⟨_, rfl⟩
  obtain ⟨B, hB⟩ : ∃ B, B = bT (insW [] w) := ⟨_, rfl⟩
  obtain ⟨A, hA⟩ : ∃ A, A = iT (zN I) := ⟨_, rfl⟩
  obtain ⟨C, hC⟩ : ∃ C, C = iT (zN W) := ⟨_, rfl⟩
  rw [← hX] at e1 e2 e4 e5 e6 tail ⊢
  rw [← hQ] at e2 e3
  rw [← hB] at e3 tail
  rw [← hA] at e5 tail
  rw [← hC] at e6 tail
  generalize ((n - k : Nat) : Int) = nk at sub e6
  show (seq (asg 1 (callF F_law_mixed (acons (var 0) (acons (cst (.int 0)) (acons (cst (.int 7)) anil))))) (seq (asg 2 (callF F_law_box_2 (acons (callF F_law_perm (acons (var 0) (acons (cst (.int 1)) (acons (var 1) anil)))) anil))) (seq (asg 3 (callF F_law_mixed (acons (var 0) (acons (cst (.int 10)) (acons (bi dAdd (bi dMin2 (var 1) (cst (.int 4))) (cst (.int 1))) anil))))) (seq (asg 4 (callF F_law_exact (acons (var 0) (acons (cst (.int 11)) (acons (var 3) anil))))) (seq (asg 5 (callF F_law_exact (acons (var 0) (acons (cst (.int 20)) (acons (bi dSub (var 1) (var 3)) anil))))) _)))) [some X, none, none, none, none, none, none, none, none, none, none, none, none]).fin = _
  rw [seq_at, show asg 1 (callF F_law_mixed (acons (var 0) (acons (cst (.int 0)) (acons (cst (.int 7)) anil)))) [some X, none, none, none, none, none, none, none, none, none, none, none, none] = .nx [some X, some (.int (n : Int)), none, none, none, none, none, none, none, none, none, none, none] by simp [-List.getD_eq_getElem?_getD, -List.length_flatten, lstK_l, optK_s, lsK_l, appF_at, appP_at, app1P_at, setP_at, set1P_at, pop1_at, pop1E_at, frK_r, gK_v, asgI_at, exprI_at, appI_at, ysOf_some, ysOf_none, ysOf_nil, setAll_cons, setAll_nil, dRevL_l, extP_at, extF_at, setN_at, setO_at, appPop_at, itemsOf_l, itemsOf_t, dIdxL_l, isT_bb, appM_at, asgM_at, dK_d, revs_at, revOf_l, revOf_t, e1], next_nx, seq_at,
    show asg 2 (callF F_law_box_2 (acons (callF F_law_perm (acons (var 0) (acons (cst (.int 1)) (acons (var 1) anil)))) anil)) [some X, some (.int (n : Int)), none, none, none, none, none, none, none, none, none, none, none] = .nx [some X, some (.int (n : Int)), some B, none, none, none, none, none, none, none, none, none, none] by simp [-List.getD_eq_getElem?_getD, -List.length_flatten, lstK_l, optK_s, lsK_l, appF_at, appP_at, app1P_at, setP_at, set1P_at, pop1_at, pop1E_at, frK_r, gK_v, asgI_at, exprI_at, appI_at, ysOf_some, ysOf_none, ysOf_nil, setAll_cons, setAll_nil, dRevL_l, extP_at, extF_at, setN_at, setO_at, appPop_at, itemsOf_l, itemsOf_t, dIdxL_l, isT_bb, appM_at, asgM_at, dK_d, revs_at, revOf_l, revOf_t, e2, e3], next_nx, seq_at,
    show asg 3 (callF F_law_mixed (acons (var 0) (acons (cst (.int 10)) (acons (bi dAdd (bi dMin2 (var 1) (cst (.int 4))) (cst (.int 1))) anil)))) [some X, some (.int (n : Int)), some B, none, none, none, none, none, none, none, none, none, none] = .nx [some X, some (.int (n : Int)), some B, some (.int (k : Int)), none, none, none, none, none, none, none, none, none] by simp [-List.getD_eq_getElem?_getD, -List.length_flatten, lstK_l, optK_s, lsK_l, appF_at, appP_at, app1P_at, setP_at, set1P_at, pop1_at, pop1E_at, frK_r, gK_v, asgI_at, exprI_at, appI_at, ysOf_some, ysOf_none, ysOf_nil, setAll_cons, setAll_nil, dRevL_l, extP_at, extF_at, setN_at, setO_at, appPop_at, itemsOf_l, itemsOf_t, dIdxL_l, isT_bb, appM_at, asgM_at, dK_d, revs_at, revOf_l, revOf_t, m4, e4], next_nx, seq_at,
    show asg 4 (callF F_law_exact (acons (var 0) (acons (cst (.int 11)) (acons (var 3) anil)))) [some X, some (.int (n : Int)), some B, some (.int (k : Int)), none, none, none, none, none, none, none, none, none] = .nx [some X, some (.int (n : Int)), some B, some (.int (k : Int)), some A, none, none, none, none, none, none, none, none] by simp [-List.getD_eq_getElem?_getD, -List.length_flatten, lstK_l, optK_s, lsK_l, appF_at, appP_at, app1P_at, setP_at, set1P_at, pop1_at, pop1E_at, frK_r, gK_v, asgI_at, exprI_at, appI_at, ysOf_some, ysOf_none, ysOf_nil, setAll_cons, setAll_nil, dRevL_l, extP_at, extF_at, setN_at, setO_at, appPop_at, itemsOf_l, itemsOf_t, dIdxL_l, isT_bb, appM_at, asgM_at, dK_d, revs_at, revOf_l, revOf_t, e5], next_nx, seq_at,
    show asg 5 (callF F_law_exact (acons (var 0) (acons (cst (.int 20)) (acons (bi dSub (var 1) (var 3)) anil)))) [some X, some (.int (n : Int)), some B, some (.int (k : Int)), some A, none, none, none, none, none, none, none, none] = .nx [some X, some (.int (n : Int)), some B, some (.int (k : Int)), some A, some C, none, none, none, none, none, none, none] by simp [-List.getD_eq_getElem?_getD, -List.length_flatten, lstK_l, optK_s, lsK_l, appF_at, appP_at, app1P_at, setP_at, set1P_at, pop1_at, pop1E_at, frK_r, gK_v, asgI_at, exprI_at, appI_at, ysOf_some, ysOf_none, ysOf_nil, setAll_cons, setAll_nil, dRevL_l, extP_at, extF_at, setN_at, setO_at, appPop_at, itemsOf_l, itemsOf_t, dIdxL_l, isT_bb, appM_at, asgM_at, dK_d, revs_at, revOf_l, revOf_t, sub, e6], next_nx]
  exact tail
end Mi

namespace Mi
open PySem PySem.Spec L2
theorem holds_law : ∀ ns : List Int, ns.length ≤ 63 → F_law_22 [lck ns] = .ret (.bool true) [] := fun ns h => holds_law_22 ns
def top (i : Nat) : Stmt := PySem.Challenge.pw_slidebox_k22_whole_lattice_rule.main.body.getD i (.Pass ⟨0, 0, 0, 0⟩)
structure Txt (K : Fg) (mg : Str → Option Value) (cl : Nat → Addr) : Prop where
  n_bool : mg "bool" = none
  n_int : mg "int" = none
  n_isinstance : mg "isinstance" = none
  n_len : mg "len" = none
  n_list : mg "list" = none
  n_min : mg "min" = none
  n_range : mg "range" = none
  n_sorted : mg "sorted" = none
  n_sum : mg "sum" = none
  n_tuple : mg "tuple" = none
  c_PLACES : ∃ t, mg "PLACES" = some (.int 16 t)
  c_MOST : ∃ t, mg "MOST" = some (.int 8 t)
  e_BoxError : Ec K mg "BoxError" (cl 0)
  e_NoShape : Ec K mg "NoShape" (cl 3)
  e_TooMany : Ec K mg "TooMany" (cl 6)
section
variable {P : Program} {w : World} {K : Fg} {mg : Str → Option Value} {base : Heap} {cl : Nat → Addr}
abbrev s_between : Stmt := top 6
theorem sc_between : FnScope ["thing", "low", "most"] ["thing", "low", "most"] (defScope s_between) := ⟨rfl, rfl, rfl, by decide +kernel, rfl, by decide +kernel, by decide +kernel⟩
theorem df_between (T : Txt K mg cl) (g : Gd K mg "between" s_between ["thing", "low", "most"]) : Df P w K mg base "between" ["thing", "low", "most"] 1 (spN K cl 3 F_between false) :=
  df_N (N := ["thing", "low", "most"]) (ms := [.sh, .sh, .sh]) g sc_between rfl (by decide) (by decide) (by decide) fun f cdv A outer s H E hr tk po => by
    have nd := sc_between.nd
    exact (ss_one (s_ret (i_and (i_isi .int rfl T.n_int T.n_isinstance i_vars) (i_and (i_no (i_isi .bool rfl T.n_bool T.n_isinstance i_vars)) (i_and (i_le i_vars i_vars) (i_one (i_le i_vars i_vars))))) (.inr rfl)))

abbrev s_is_shape : Stmt := top 7
theorem sc_is_shape : FnScope ["thing", "last", "number"] ["thing"] (defScope s_is_shape) := ⟨rfl, rfl, rfl, by decide +kernel, rfl, by decide +kernel, by decide +kernel⟩
theorem df_is_shape (T : Txt K mg cl) (g : Gd K mg "is_shape" s_is_shape ["thing"]) (d_between : Df P w K mg base "between" ["thing", "low", "most"] 1 (spN K cl 3 F_between false)) : Df P w K mg base "is_shape" ["thing"] 2 (spN K cl 1 F_is_shape false) :=
  df_N (N := ["thing", "last", "number"]) (ms := [.sh, .sh, .sh]) g sc_is_shape rfl (by decide) (by decide) (by decide) fun f cdv A outer s H E hr tk po => by
    have nd := sc_is_shape.nd
    exact (ss_cons (s_if (t_not (t_val (i_isi .tuple rfl T.n_tuple T.n_isinstance i_vars))) (ss_one (s_retF i_bl)) ss_nil)
 (ss_cons (s_asg (set1 nd (i := 1) (i_globE T.c_PLACES)) rfl (by decide))
 (ss_cons (s_for po rfl (it_seq i_vars) (by decide) rfl (p_name (i := 2) nd) (ss_cons (s_if (t_not (t_val (i_callD (n := 3) d_between (hr.mono (by decide)) tk (a_cons i_vars (a_cons i_int (a_cons i_vars a_nil))) (lenC (lenC (lenC lenN)))))) (ss_one (s_retF i_bl)) ss_nil)
 (ss_one (s_asg (set1 nd (i := 1) i_vars) rfl (by decide)))))
 (ss_one (s_retF (i_le (i_sum T.n_sum rfl i_vars) (i_globE T.c_PLACES)))))))

abbrev s_need_shape : Stmt := top 8
theorem sc_need_shape : FnScope ["thing"] ["thing"] (defScope s_need_shape) := ⟨rfl, rfl, rfl, by decide +kernel, rfl, by decide +kernel, by decide +kernel⟩
theorem df_need_shape (T : Txt K mg cl) (g : Gd K mg "need_shape" s_need_shape ["thing"]) (d_is_shape : Df P w K mg base "is_shape" ["thing"] 2 (spN K cl 1 F_is_shape false)) : Df P w K mg base "need_shape" ["thing"] 3 (spN K cl 1 F_need_shape false) :=
  df_N (N := ["thing"]) (ms := [.sh]) g sc_need_shape rfl (by decide) (by decide) (by decide) fun f cdv A outer s H E hr tk po => by
    have nd := sc_need_shape.nd
    exact (ss_one (s_if (t_not (t_val (i_callD (n := 1) d_is_shape (hr.mono (by decide)) tk (a_cons i_vars a_nil) (lenC lenN)))) (ss_one (s_raiseC T.e_NoShape rfl tk)) ss_nil))

abbrev s_part_at : Stmt := top 10
theorem sc_part_at : FnScope ["shape", "k"] ["shape", "k"] (defScope s_part_at) := ⟨rfl, rfl, rfl, by decide +kernel, rfl, by decide +kernel, by decide +kernel⟩
theorem df_part_at (T : Txt K mg cl) (g : Gd K mg "part_at" s_part_at ["shape", "k"]) : Df P w K mg base "part_at" ["shape", "k"] 1 (spN K cl 2 F_part_at false) :=
  df_N (N := ["shape", "k"]) (ms := [.sh, .sh]) g sc_part_at rfl (by decide) (by decide) (by decide) fun f cdv A outer s H E hr tk po => by
    have nd := sc_part_at.nd
    exact (ss_cons (s_if (t_lt i_vars (i_len T.n_len i_vars)) (ss_one (s_ret (i_ix i_vars i_vars) (.inl (by decide)))) ss_nil)
 (ss_one (s_retF i_int)))

abbrev s_letter_at : Stmt := top 11
theorem sc_letter_at : FnScope ["holed", "row", "column", "at"] ["holed", "row", "column"] (defScope s_letter_at) := ⟨rfl, rfl, rfl, by decide +kernel, rfl, by decide +kernel, by decide +kernel⟩
theorem df_letter_at (T : Txt K mg cl) (g : Gd K mg "letter_at" s_letter_at ["holed", "row", "column"]) (d_part_at : Df P w K mg base "part_at" ["shape", "k"] 1 (spN K cl 2 F_part_at false)) : Df P w K mg base "letter_at" ["holed", "row", "column"] 2 (spN K cl 3 F_letter_at false) :=
  df_N (N := ["holed", "row", "column", "at"]) (ms := [.sh, .sh, .sh, .sh]) g sc_letter_at rfl (by decide) (by decide) (by decide) fun f cdv A outer s H E hr tk po => by
    have nd := sc_letter_at.nd
    exact (ss_cons (s_if (t_ge i_vars (i_len T.n_len (i_ix i_vars i_int))) (ss_one (s_retF i_non)) ss_nil)
 (ss_cons (s_asg (set1 nd (i := 3) (i_sub i_vars (i_callD (n := 2) d_part_at (hr.mono (by decide)) tk (a_cons (i_ix i_vars i_int) (a_cons i_vars a_nil)) (lenC (lenC lenN))))) rfl (by decide))
 (ss_cons (s_if (t_w (w_or (t_lt i_vars i_int) (w_or1 (t_ge i_vars (i_len T.n_len (i_ix (i_ix i_vars i_int) i_vars)))))) (ss_one (s_retF i_non)) ss_nil)
 (ss_one (s_ret (i_ix (i_ix (i_ix i_vars i_int) i_vars) i_vars) (.inl (by decide)))))))

abbrev s_lies_in : Stmt := top 14
theorem sc_lies_in : FnScope ["inner", "outer", "k"] ["inner", "outer"] (defScope s_lies_in) := ⟨rfl, rfl, rfl, by decide +kernel, rfl, by decide +kernel, by decide +kernel⟩
theorem df_lies_in (T : Txt K mg cl) (g : Gd K mg "lies_in" s_lies_in ["inner", "outer"]) (d_part_at : Df P w K mg base "part_at" ["shape", "k"] 1 (spN K cl 2 F_part_at false)) : Df P w K mg base "lies_in" ["inner", "outer"] 2 (spN K cl 2 F_lies_in false) :=
  df_N (N := ["inner", "outer", "k"]) (ms := [.sh, .sh, .sh]) g sc_lies_in rfl (by decide) (by decide) (by decide) fun f cdv A outer s H E hr tk po => by
    have nd := sc_lies_in.nd
    exact (ss_cons (s_for po rfl (it_rng1 T.n_range (a_cons (i_len T.n_len i_vars) a_nil)) (by decide) rfl (p_name (i := 2) nd) (ss_one (s_if (t_gt (i_ix i_vars i_vars) (i_callD (n := 2) d_part_at (hr.mono (by decide)) tk (a_cons i_vars (a_cons i_vars a_nil)) (lenC (lenC lenN)))) (ss_one (s_retF i_bl)) ss_nil)))
 (ss_one (s_retF i_bl)))

abbrev s_may_stand : Stmt := top 15
theorem sc_may_stand : FnScope ["part", "outer", "place", "letter", "inner", "rows", "row", "right", "above"] ["part", "outer", "place", "letter"] (defScope s_may_stand) := ⟨rfl, rfl, rfl, by decide +kernel, rfl, by decide +kernel, by decide +kernel⟩
theorem df_may_stand (T : Txt K mg cl) (g : Gd K mg "may_stand" s_may_stand ["part", "outer", "place", "letter"]) (d_letter_at : Df P w K mg base "letter_at" ["holed", "row", "column"] 2 (spN K cl 3 F_letter_at false)) : Df P w K mg base "may_stand" ["part", "outer", "place", "letter"] 3 (spN K cl 4 F_may_stand false) :=
  df_N (N := ["part", "outer", "place", "letter", "inner", "rows", "row", "right", "above"]) (ms := [.sh, .sh, .sh, .sh, .sh, .sh, .sh, .sh, .sh]) g sc_may_stand rfl (by decide) (by decide) (by decide) fun f cdv A outer s H E hr tk po => by
    have nd := sc_may_stand.nd
    exact (ss_cons (s_unp3 (ps_asg i_vars (pg_tup rfl (pgs_cons (p_name (i := 4) nd) (pgs_cons (p_name (i := 5) nd) (pgs_cons (p_name (i := 6) nd) pgs_nil))))) rfl rfl rfl (by decide))
 (ss_cons (s_asg (set1 nd (i := 7) (i_slT (i_ix i_vars i_vars) o_none (o_some i_int))) rfl (by decide))
 (ss_cons (s_if (t_w (w_and (t_ne hr i_vars (i_tup a_nil)) (w_and1 (t_gt i_vars (i_ix i_vars i_int))))) (ss_one (s_retF i_bl)) ss_nil)
 (ss_cons (s_asg (set1 nd (i := 8) i_non) rfl (by decide))
 (ss_cons (s_if (t_gt i_vars i_int) (ss_one (s_asg (set1 nd (i := 8) (i_callD (n := 3) d_letter_at (hr.mono (by decide)) tk (a_cons (i_tup (a_cons i_vars (a_cons (i_slT i_vars o_none (o_some i_vars)) a_nil))) (a_cons (i_sub i_vars i_int) (a_cons i_vars a_nil))) (lenC (lenC (lenC lenN))))) rfl (by decide))) ss_nil)
 (ss_one (s_ret (i_or (i_is i_vars i_non) (i_one (i_lt i_vars i_vars))) (.inr rfl))))))))

abbrev s_counted : Stmt := top 16
theorem sc_counted : FnScope ["counts", "letter", "left", "made"] ["counts", "letter"] (defScope s_counted) := ⟨rfl, rfl, rfl, by decide +kernel, rfl, by decide +kernel, by decide +kernel⟩
theorem df_counted (T : Txt K mg cl) (g : Gd K mg "counted" s_counted ["counts", "letter"]) : Df P w K mg base "counted" ["counts", "letter"] 1 (spN K cl 2 F_counted false) :=
  df_N (N := ["counts", "letter", "left", "made"]) (ms := [.sh, .sh, .sh, .ow]) g sc_counted rfl (by decide) (by decide) (by decide) fun f cdv A outer s H E hr tk po => by
    have nd := sc_counted.nd
    exact (ss_cons (s_asg (set1 nd (i := 2) (i_ix i_vars (i_sub i_vars i_int))) rfl (by decide))
 (ss_cons (s_if (t_w (w_or (t_eq hr (i_ix i_vars i_int) i_int) (w_or1 (t_w (w_and (t_gt i_vars i_int) (w_and1 (t_gt (i_add (i_ix i_vars i_int) i_int) (i_ix (i_ix i_vars (i_sub i_vars i_int)) i_int)))))))) (ss_one (s_retF i_non)) ss_nil)
 (ss_cons (s_asgF (set1 nd (i := 3) (i_listP T.n_list i_vars)) rfl)
 (ss_cons (s_setP (ps_asg (i_tup (a_cons (i_add (i_ix i_vars i_int) i_int) (a_cons (i_sub (i_ix i_vars i_int) i_int) a_nil))) (pg_sub p_var (i_sub i_vars i_int) set_list)) (.inl rfl))
 (ss_one (s_ret i_var (.inr rfl)))))))

abbrev s_filled : Stmt := top 17
theorem sc_filled : FnScope ["inner", "outer", "found", "row", "made", "k", "place", "more", "rows", "counts", "letter", "next_counts"] ["inner", "outer", "found", "row"] (defScope s_filled) := ⟨rfl, rfl, rfl, by decide +kernel, rfl, by decide +kernel, by decide +kernel⟩
theorem df_filled (T : Txt K mg cl) (g : Gd K mg "filled" s_filled ["inner", "outer", "found", "row"]) (d_part_at : Df P w K mg base "part_at" ["shape", "k"] 1 (spN K cl 2 F_part_at false)) (d_may_stand : Df P w K mg base "may_stand" ["part", "outer", "place", "letter"] 3 (spN K cl 4 F_may_stand false)) (d_counted : Df P w K mg base "counted" ["counts", "letter"] 1 (spN K cl 2 F_counted false)) : Df P w K mg base "filled" ["inner", "outer", "found", "row"] 4 (spN K cl 4 F_filled false) :=
  df_N (N := ["inner", "outer", "found", "row", "made", "k", "place", "more", "rows", "counts", "letter", "next_counts"]) (ms := [.sh, .sh, .sh, .sh, .sh, .sh, .sh, .o1, .sh, .sh, .sh, .sh]) g sc_filled rfl (by decide) (by decide) (by decide) fun f cdv A outer s H E hr tk po => by
    have nd := sc_filled.nd
    exact (ss_cons (s_asg (set_lc2 (i := 4) (by decide) rfl rfl (by decide) (it_seq i_vars) (blkOk_by (own := [("rows", 8), ("counts", 9)]) rfl) nd rfl (fun _ _ _ _ _ => pg_tup rfl (pgs_cons (p_name (i := 8) nd) (pgs_cons (p_name (i := 9) nd) pgs_nil))) (fun _ _ _ _ _ => ts_nil) (fun _ _ _ _ _ => (i_tup (a_cons (i_add i_vars (i_tup (a_cons (i_tup a_nil) a_nil))) (a_cons i_vars a_nil)))) rfl rfl (sw_true rfl rfl rfl (by decide +kernel))) rfl (by decide))
 (ss_cons (s_for po rfl (it_rng1 T.n_range (a_cons (i_sub (i_ix i_vars i_vars) (i_callD (n := 2) d_part_at (hr.mono (by decide)) tk (a_cons i_vars (a_cons i_vars a_nil)) (lenC (lenC lenN)))) a_nil)) (by decide) rfl (p_name (i := 5) nd) (ss_cons (s_asg (set1 nd (i := 6) (i_sub (i_sub (i_ix i_vars i_vars) i_int) i_vars)) rfl (by decide))
 (ss_cons (s_asg1 (set1 nd (i := 7) (i_asL (i_lst a_nil))) rfl)
 (ss_cons (s_for2 po rfl (it_seq i_vars) (by decide) rfl rfl (by decide) (pg_tup rfl (pgs_cons (p_name (i := 8) nd) (pgs_cons (p_name (i := 9) nd) pgs_nil))) (ss_one (s_for po rfl (it_rng2 T.n_range (a_cons i_int (a_cons (i_add (i_len T.n_len i_vars) i_int) a_nil))) (by decide) rfl (p_name (i := 10) nd) (ss_cons (s_asg (set1 nd (i := 11) (i_callD (n := 2) d_counted (hr.mono (by decide)) tk (a_cons i_vars (a_cons i_vars a_nil)) (lenC (lenC lenN)))) rfl (by decide))
 (ss_one (s_if (t_w (w_and (t_nis i_vars i_non) (w_and1 (t_val (i_callD (n := 4) d_may_stand (hr.mono (by decide)) tk (a_cons (i_tup (a_cons i_vars (a_cons i_vars (a_cons i_vars a_nil)))) (a_cons i_vars (a_cons i_vars (a_cons i_vars a_nil)))) (lenC (lenC (lenC (lenC lenN))))))))) (ss_one (s_app1 (h_app p_var (i_tup (a_cons (i_add (i_slT i_vars o_none (o_some i_vars)) (i_tup (a_cons (i_add (i_tup (a_cons i_vars a_nil)) (i_ix i_vars i_vars)) a_nil))) (a_cons i_vars a_nil)))) rfl (by decide))) ss_nil))))))
 (ss_one (s_asgM (p_set nd (i := 4) p_var) (.inr rfl) (.inl rfl) (by decide)))))))
 (ss_one (s_ret i_vars (.inl (by decide))))))

abbrev s_lattice_boxes_1 : Stmt := top 18
theorem sc_lattice_boxes_1 : FnScope ["outer", "inner", "weight", "found", "row", "rows", "number", "pair"] ["outer", "inner", "weight"] (defScope s_lattice_boxes_1) := ⟨rfl, rfl, rfl, by decide +kernel, rfl, by decide +kernel, by decide +kernel⟩
theorem df_lattice_boxes_1 (T : Txt K mg cl) (g : Gd K mg "lattice_boxes" s_lattice_boxes_1 ["outer", "inner", "weight"]) (d_need_shape : Df P w K mg base "need_shape" ["thing"] 3 (spN K cl 1 F_need_shape false)) (d_lies_in : Df P w K mg base "lies_in" ["inner", "outer"] 2 (spN K cl 2 F_lies_in false)) (d_filled : Df P w K mg base "filled" ["inner", "outer", "found", "row"] 4 (spN K cl 4 F_filled false)) : Df P w K mg base "lattice_boxes" ["outer", "inner", "weight"] 5 (spN K cl 3 F_lattice_boxes_1 false) :=
  df_N (N := ["outer", "inner", "weight", "found", "row", "rows", "number", "pair"]) (ms := [.sh, .sh, .sh, .sh, .sh, .sh, .sh, .sh]) g sc_lattice_boxes_1 rfl (by decide) (by decide) (by decide) fun f cdv A outer s H E hr tk po => by
    have nd := sc_lattice_boxes_1.nd
    exact (ss_cons (s_expr (i_callD (n := 1) d_need_shape (hr.mono (by decide)) tk (a_cons i_vars a_nil) (lenC lenN)))
 (ss_cons (s_expr (i_callD (n := 1) d_need_shape (hr.mono (by decide)) tk (a_cons i_vars a_nil) (lenC lenN)))
 (ss_cons (s_expr (i_callD (n := 1) d_need_shape (hr.mono (by decide)) tk (a_cons i_vars a_nil) (lenC lenN)))
 (ss_cons (s_if (t_gt (i_sum T.n_sum rfl i_vars) (i_globE T.c_MOST)) (ss_one (s_raiseC T.e_TooMany rfl tk)) ss_nil)
 (ss_cons (s_if (t_w (w_or (t_not (t_val (i_callD (n := 2) d_lies_in (hr.mono (by decide)) tk (a_cons i_vars (a_cons i_vars a_nil)) (lenC (lenC lenN))))) (w_or1 (t_ne hr (i_sum T.n_sum rfl i_vars) (i_add (i_sum T.n_sum rfl i_vars) (i_sum T.n_sum rfl i_vars)))))) (ss_one (s_retF (i_lst a_nil))) ss_nil)
 (ss_cons (s_asg (set1 nd (i := 3) (i_lst (a_cons (i_tup (a_cons (i_tup a_nil) (a_cons (i_lc (.inr ⟨rfl, by decide⟩) (it_seq i_vars) (blkOk_by (own := [("number", 6)]) rfl) nd rfl (fun _ _ _ _ _ => p_name (i := 6) nd) (fun _ _ _ _ _ => ts_nil) (fun _ _ _ _ _ => (i_tup (a_cons i_int (a_cons i_vars a_nil))))) a_nil))) a_nil))) rfl (by decide))
 (ss_cons (s_for po rfl (it_rng1 T.n_range (a_cons (i_len T.n_len i_vars) a_nil)) (by decide) rfl (p_name (i := 4) nd) (ss_one (s_asg (set1 nd (i := 3) (i_callD (n := 4) d_filled (hr.mono (by decide)) tk (a_cons i_vars (a_cons i_vars (a_cons i_vars (a_cons i_vars a_nil)))) (lenC (lenC (lenC (lenC lenN)))))) rfl (by decide))))
 (ss_one (s_ret (i_lc (.inr ⟨rfl, by decide⟩) (it_seq (i_sortD hr T.n_sorted (i_lc (.inr ⟨rfl, by decide⟩) (it_seq i_vars) (blkOk_by (own := [("pair", 7)]) rfl) nd rfl (fun _ _ _ _ _ => p_name (i := 7) nd) (fun _ _ _ _ _ => ts_nil) (fun _ _ _ _ _ => (i_ix i_vars i_int))))) (blkOk_by (own := [("rows", 5)]) rfl) nd rfl (fun _ _ _ _ _ => p_name (i := 5) nd) (fun _ _ _ _ _ => ts_nil) (fun _ _ _ _ _ => (i_tup (a_cons i_vars (a_cons i_vars a_nil))))) (.inl (by decide)))))))))))

abbrev s_law_cell_at : Stmt := top 20
theorem sc_law_cell_at : FnScope ["_law_script", "_law_k"] ["_law_script", "_law_k"] (defScope s_law_cell_at) := ⟨rfl, rfl, rfl, by decide +kernel, rfl, by decide +kernel, by decide +kernel⟩
theorem df_law_cell_at (T : Txt K mg cl) (g : Gd K mg "_law_cell_at" s_law_cell_at ["_law_script", "_law_k"]) : Df P w K mg base "_law_cell_at" ["_law_script", "_law_k"] 1 (spN K cl 2 F_law_cell_at false) :=
  df_N (N := ["_law_script", "_law_k"]) (ms := [.sh, .sh]) g sc_law_cell_at rfl (by decide) (by decide) (by decide) fun f cdv A outer s H E hr tk po => by
    have nd := sc_law_cell_at.nd
    exact (ss_cons (s_if (t_lt i_vars (i_len T.n_len i_vars)) (ss_one (s_ret (i_ix i_vars i_vars) (.inl (by decide)))) ss_nil)
 (ss_cons (s_if (t_eq hr i_vars (i_lst a_nil)) (ss_one (s_retF i_int)) ss_nil)
 (ss_one (s_ret (i_add (i_mul (i_ix i_vars (i_mod i_vars (i_len T.n_len i_vars))) i_int) i_vars) (.inl (by decide))))))

abbrev s_law_mixed : Stmt := top 21
theorem sc_law_mixed : FnScope ["_law_script", "_law_k", "_law_many", "_law_drawn"] ["_law_script", "_law_k", "_law_many"] (defScope s_law_mixed) := ⟨rfl, rfl, rfl, by decide +kernel, rfl, by decide +kernel, by decide +kernel⟩
theorem df_law_mixed (T : Txt K mg cl) (g : Gd K mg "_law_mixed" s_law_mixed ["_law_script", "_law_k", "_law_many"]) (d__law_cell_at : Df P w K mg base "_law_cell_at" ["_law_script", "_law_k"] 1 (spN K cl 2 F_law_cell_at false)) : Df P w K mg base "_law_mixed" ["_law_script", "_law_k", "_law_many"] 2 (spN K cl 3 F_law_mixed false) :=
  df_N (N := ["_law_script", "_law_k", "_law_many", "_law_drawn"]) (ms := [.sh, .sh, .sh, .sh]) g sc_law_mixed rfl (by decide) (by decide) (by decide) fun f cdv A outer s H E hr tk po => by
    have nd := sc_law_mixed.nd
    exact (ss_cons (s_asg (set1 nd (i := 3) (i_mod (i_mul (i_add (i_add (i_callD (n := 2) d__law_cell_at (hr.mono (by decide)) tk (a_cons i_vars (a_cons i_vars a_nil)) (lenC (lenC lenN))) (i_mul i_int i_vars)) i_int) i_int) i_int)) rfl (by decide))
 (ss_one (s_retF (i_mod (i_mod (i_add (i_add (i_mul i_vars i_vars) (i_mul i_int i_vars)) i_vars) i_int) i_vars))))

abbrev s_law_perm : Stmt := top 22
theorem sc_law_perm : FnScope ["_law_script", "_law_at", "_law_size", "_law_left", "_law_made", "_law_k"] ["_law_script", "_law_at", "_law_size"] (defScope s_law_perm) := ⟨rfl, rfl, rfl, by decide +kernel, rfl, by decide +kernel, by decide +kernel⟩
theorem df_law_perm (T : Txt K mg cl) (g : Gd K mg "_law_perm" s_law_perm ["_law_script", "_law_at", "_law_size"]) (d__law_mixed : Df P w K mg base "_law_mixed" ["_law_script", "_law_k", "_law_many"] 2 (spN K cl 3 F_law_mixed false)) : Df P w K mg base "_law_perm" ["_law_script", "_law_at", "_law_size"] 3 (spN K cl 3 F_law_perm false) :=
  df_N (N := ["_law_script", "_law_at", "_law_size", "_law_left", "_law_made", "_law_k"]) (ms := [.sh, .sh, .sh, .ow, .ow, .sh]) g sc_law_perm rfl (by decide) (by decide) (by decide) fun f cdv A outer s H E hr tk po => by
    have nd := sc_law_perm.nd
    exact (ss_cons (s_asgF (set_lc (i := 3) (.inr ⟨rfl, by decide⟩) (it_rng1 T.n_range (a_cons i_vars a_nil)) (blkOk_by (own := [("_law_k", 5)]) rfl) nd rfl (fun _ _ _ _ _ => p_name (i := 5) nd) (fun _ _ _ _ _ => ts_nil) (fun _ _ _ _ _ => (i_pl (i_add i_vars i_int))) rfl rfl (sw_true rfl rfl rfl (by decide +kernel))) rfl)
 (ss_cons (s_asgF (set1 nd (i := 4) (i_lst a_nil)) rfl)
 (ss_cons (s_for po rfl (it_rng1 T.n_range (a_cons i_vars a_nil)) (by decide) rfl (p_name (i := 5) nd) (ss_one (s_appPop (h_app p_var (h_popAt p_var (i_callD (n := 3) d__law_mixed (hr.mono (by decide)) tk (a_cons i_vars (a_cons (i_add i_vars i_vars) (a_cons (i_len T.n_len i_var) a_nil))) (lenC (lenC (lenC lenN)))))) rfl rfl (by decide))))
 (ss_one (s_ret (i_tuple T.n_tuple i_var) (.inr rfl))))))

abbrev s_law_put : Stmt := top 23
theorem sc_law_put : FnScope ["_law_rows", "_law_letter", "_law_k", "_law_greater", "_law_kept", "_law_j"] ["_law_rows", "_law_letter"] (defScope s_law_put) := ⟨rfl, rfl, rfl, by decide +kernel, rfl, by decide +kernel, by decide +kernel⟩
theorem df_law_put (T : Txt K mg cl) (g : Gd K mg "_law_put" s_law_put ["_law_rows", "_law_letter"]) : Df P w K mg base "_law_put" ["_law_rows", "_law_letter"] 1 (spI K cl [true, false] F_law_put) :=
  df_I (N := ["_law_rows", "_law_letter", "_law_k", "_law_greater", "_law_kept", "_law_j"]) (ms := [.io, .sh, .sh, .sh, .sh, .sh]) (io := [true, false]) g sc_law_put rfl (by decide) rfl rfl (by decide) fun f cdv A outer s H E hr tk po => by
    have nd := sc_law_put.nd
    exact (ss_cons (s_for po rfl (it_rng1 T.n_range (a_cons (i_len T.n_len i_var) a_nil)) (by decide) rfl (p_name (i := 2) nd) (ss_cons (s_asg (set_lc (i := 3) (.inr ⟨rfl, by decide⟩) (it_rng1 T.n_range (a_cons (i_len T.n_len (i_ix i_var i_vars)) a_nil)) (blkOk_by (own := [("_law_j", 5)]) rfl) nd rfl (fun _ _ _ _ _ => p_name (i := 5) nd) (fun _ _ _ _ _ => (ts_one (t_gt (i_ix (i_ix i_var i_vars) i_vars) i_vars))) (fun _ _ _ _ _ => i_vars) rfl rfl (sw_true rfl rfl rfl (by decide +kernel))) rfl (by decide))
 (ss_cons (s_if (t_eq hr i_vars (i_lst a_nil)) (ss_cons (s_app1P (h_app (pe_ix ix_seq p_var i_vars (fun _ _ => rfl)) i_vars) (.inr rfl))
 (ss_one (s_ret (i_tup (a_cons i_vars (a_cons (i_sub (i_len T.n_len (i_ix i_var i_vars)) i_int) a_nil))) (.inl (by decide))))) ss_nil)
 (ss_cons (s_asgP (set1 nd (i := 4) (i_ix (i_ix i_var i_vars) (i_ix i_vars i_int))) rfl)
 (ss_cons (s_set1P (ps_asg i_vars (pg_sub (pe_ix ix_seq p_var i_vars (fun _ _ => rfl)) (i_ix i_vars i_int) set_list)) (.inr rfl))
 (ss_one (s_asg (set1 nd (i := 1) i_vars) rfl (by decide))))))))
 (ss_cons (s_appF (h_app p_var (i_lst (a_cons (i_pl i_vars) a_nil))) (.inr rfl))
 (ss_one (s_retF (i_tup (a_cons (i_sub (i_len T.n_len i_var) i_int) (a_cons i_int a_nil)))))))

abbrev s_law_box_2 : Stmt := top 24
theorem sc_law_box_2 : FnScope ["_law_word", "_law_rows", "_law_letter", "_law_row"] ["_law_word"] (defScope s_law_box_2) := ⟨rfl, rfl, rfl, by decide +kernel, rfl, by decide +kernel, by decide +kernel⟩
theorem df_law_box_2 (T : Txt K mg cl) (g : Gd K mg "_law_box" s_law_box_2 ["_law_word"]) (d__law_put : Df P w K mg base "_law_put" ["_law_rows", "_law_letter"] 1 (spI K cl [true, false] F_law_put)) : Df P w K mg base "_law_box" ["_law_word"] 2 (spN K cl 1 F_law_box_2 false) :=
  df_N (N := ["_law_word", "_law_rows", "_law_letter", "_law_row"]) (ms := [.sh, .ow, .sh, .bo]) g sc_law_box_2 rfl (by decide) (by decide) (by decide) fun f cdv A outer s H E hr tk po => by
    have nd := sc_law_box_2.nd
    exact (ss_cons (s_asgF (set1 nd (i := 1) (i_lst a_nil)) rfl)
 (ss_cons (s_for po rfl (it_seq i_vars) (by decide) rfl (p_name (i := 2) nd) (ss_one (s_exprI (ps_expr (pe_ioD (xs := [some 1, none]) d__law_put (hr.mono (by decide)) tk (b_slot (Or.inl rfl) (b_cons i_vars (by decide) b_nil)))) (by decide) (by decide))))
 (ss_one (s_ret (i_tuple T.n_tuple (i_lc (.inl rfl) (it_seq i_var) (blkOk_by (own := [("_law_row", 3)]) rfl) nd rfl (fun _ _ _ _ _ => p_name (i := 3) nd) (fun _ _ _ _ _ => ts_nil) (fun _ _ _ _ _ => (i_tuple T.n_tuple i_var)))) (.inr rfl)))))

abbrev s_law_reading : Stmt := top 25
theorem sc_law_reading : FnScope ["_law_rows", "_law_made", "_law_row"] ["_law_rows"] (defScope s_law_reading) := ⟨rfl, rfl, rfl, by decide +kernel, rfl, by decide +kernel, by decide +kernel⟩
theorem df_law_reading (T : Txt K mg cl) (g : Gd K mg "_law_reading" s_law_reading ["_law_rows"]) : Df P w K mg base "_law_reading" ["_law_rows"] 1 (spN K cl 1 F_law_reading false) :=
  df_N (N := ["_law_rows", "_law_made", "_law_row"]) (ms := [.sh, .sh, .sh]) g sc_law_reading rfl (by decide) (by decide) (by decide) fun f cdv A outer s H E hr tk po => by
    have nd := sc_law_reading.nd
    exact (ss_cons (s_asg (set1 nd (i := 1) (i_tup a_nil)) rfl (by decide))
 (ss_cons (s_for po rfl (it_seq i_vars) (by decide) rfl (p_name (i := 2) nd) (ss_one (s_asg (set1 nd (i := 1) (i_add (i_tuple T.n_tuple i_vars) i_vars)) rfl (by decide))))
 (ss_one (s_ret i_vars (.inl (by decide))))))

abbrev s_law_lengths : Stmt := top 26
theorem sc_law_lengths : FnScope ["_law_rows", "_law_row"] ["_law_rows"] (defScope s_law_lengths) := ⟨rfl, rfl, rfl, by decide +kernel, rfl, by decide +kernel, by decide +kernel⟩
theorem df_law_lengths (T : Txt K mg cl) (g : Gd K mg "_law_lengths" s_law_lengths ["_law_rows"]) : Df P w K mg base "_law_lengths" ["_law_rows"] 1 (spN K cl 1 F_law_lengths false) :=
  df_N (N := ["_law_rows", "_law_row"]) (ms := [.sh, .sh]) g sc_law_lengths rfl (by decide) (by decide) (by decide) fun f cdv A outer s H E hr tk po => by
    have nd := sc_law_lengths.nd
    exact (ss_one (s_retF (i_tuple T.n_tuple (i_lc (.inr ⟨rfl, by decide⟩) (it_seq i_vars) (blkOk_by (own := [("_law_row", 1)]) rfl) nd rfl (fun _ _ _ _ _ => p_name (i := 1) nd) (fun _ _ _ _ _ => ts_nil) (fun _ _ _ _ _ => (i_len T.n_len i_vars))))))

abbrev s_law_exact : Stmt := top 28
theorem sc_law_exact : FnScope ["_law_script", "_law_at", "_law_size", "_law_left", "_law_made", "_law_last", "_law_k"] ["_law_script", "_law_at", "_law_size"] (defScope s_law_exact) := ⟨rfl, rfl, rfl, by decide +kernel, rfl, by decide +kernel, by decide +kernel⟩
theorem df_law_exact (T : Txt K mg cl) (g : Gd K mg "_law_exact" s_law_exact ["_law_script", "_law_at", "_law_size"]) (d__law_mixed : Df P w K mg base "_law_mixed" ["_law_script", "_law_k", "_law_many"] 2 (spN K cl 3 F_law_mixed false)) : Df P w K mg base "_law_exact" ["_law_script", "_law_at", "_law_size"] 3 (spN K cl 3 F_law_exact false) :=
  df_N (N := ["_law_script", "_law_at", "_law_size", "_law_left", "_law_made", "_law_last", "_law_k"]) (ms := [.sh, .sh, .sh, .sh, .ow, .sh, .sh]) g sc_law_exact rfl (by decide) (by decide) (by decide) fun f cdv A outer s H E hr tk po => by
    have nd := sc_law_exact.nd
    exact (ss_cons (s_asg (set1 nd (i := 3) i_vars) rfl (by decide))
 (ss_cons (s_asgF (set1 nd (i := 4) (i_lst a_nil)) rfl)
 (ss_cons (s_asg (set1 nd (i := 5) i_vars) rfl (by decide))
 (ss_cons (s_for po rfl (it_rng1 T.n_range (a_cons i_vars a_nil)) (by decide) rfl (p_name (i := 6) nd) (ss_one (s_if (t_gt i_vars i_int) (ss_cons (s_asg (set1 nd (i := 5) (i_add i_int (i_callD (n := 3) d__law_mixed (hr.mono (by decide)) tk (a_cons i_vars (a_cons (i_add i_vars i_vars) (a_cons (i_min2 T.n_min rfl i_vars i_vars) a_nil))) (lenC (lenC (lenC lenN)))))) rfl (by decide))
 (ss_cons (s_appP (h_app p_var i_vars) (.inl rfl))
 (ss_one (s_asg (set1 nd (i := 3) (i_sub i_vars i_vars)) rfl (by decide))))) ss_nil)))
 (ss_one (s_ret (i_tuple T.n_tuple i_var) (.inr rfl)))))))

abbrev s_law_fillings : Stmt := top 29
theorem sc_law_fillings : FnScope ["_law_shape_here", "_law_letters", "_law_found", "_law_letter", "_law_more", "_law_rows", "_law_k", "_law_number"] ["_law_shape_here", "_law_letters"] (defScope s_law_fillings) := ⟨rfl, rfl, rfl, by decide +kernel, rfl, by decide +kernel, by decide +kernel⟩
theorem df_law_fillings (T : Txt K mg cl) (g : Gd K mg "_law_fillings" s_law_fillings ["_law_shape_here", "_law_letters"]) : Df P w K mg base "_law_fillings" ["_law_shape_here", "_law_letters"] 1 (spN K cl 2 F_law_fillings false) :=
  df_N (N := ["_law_shape_here", "_law_letters", "_law_found", "_law_letter", "_law_more", "_law_rows", "_law_k", "_law_number"]) (ms := [.sh, .sh, .sh, .sh, .ow, .sh, .sh, .sh]) g sc_law_fillings rfl (by decide) (by decide) (by decide) fun f cdv A outer s H E hr tk po => by
    have nd := sc_law_fillings.nd
    exact (ss_cons (s_asg (set1 nd (i := 2) (i_lst (a_cons (i_tuple T.n_tuple (i_lc (.inr ⟨rfl, by decide⟩) (it_seq i_vars) (blkOk_by (own := [("_law_number", 7)]) rfl) nd rfl (fun _ _ _ _ _ => p_name (i := 7) nd) (fun _ _ _ _ _ => ts_nil) (fun _ _ _ _ _ => (i_tup a_nil)))) a_nil))) rfl (by decide))
 (ss_cons (s_for po rfl (it_seq i_vars) (by decide) rfl (p_name (i := 3) nd) (ss_cons (s_asgF (set1 nd (i := 4) (i_lst a_nil)) rfl)
 (ss_cons (s_for po rfl (it_seq i_vars) (by decide) rfl (p_name (i := 5) nd) (ss_one (s_for po rfl (it_rng1 T.n_range (a_cons (i_len T.n_len i_vars) a_nil)) (by decide) rfl (p_name (i := 6) nd) (ss_one (s_if (t_w (w_and (t_lt (i_len T.n_len (i_ix i_vars i_vars)) (i_ix i_vars i_vars)) (w_and1 (t_w (w_or (t_eq hr i_vars i_int) (w_or1 (t_lt (i_len T.n_len (i_ix i_vars i_vars)) (i_len T.n_len (i_ix i_vars (i_sub i_vars i_int)))))))))) (ss_one (s_appP (h_app p_var (i_add (i_add (i_slT i_vars o_none (o_some i_vars)) (i_tup (a_cons (i_add (i_ix i_vars i_vars) (i_tup (a_cons i_vars a_nil))) a_nil))) (i_slT i_vars (o_some (i_add i_vars i_int)) o_none))) (.inl rfl))) ss_nil)))))
 (ss_one (s_asgM (p_set nd (i := 2) p_var) (.inl rfl) (.inl rfl) (by decide))))))
 (ss_one (s_ret i_vars (.inl (by decide))))))

abbrev s_law_choices : Stmt := top 30
theorem sc_law_choices : FnScope ["_law_size", "_law_many", "_law_made", "_law_letter", "_law_more", "_law_row"] ["_law_size", "_law_many"] (defScope s_law_choices) := ⟨rfl, rfl, rfl, by decide +kernel, rfl, by decide +kernel, by decide +kernel⟩
theorem df_law_choices (T : Txt K mg cl) (g : Gd K mg "_law_choices" s_law_choices ["_law_size", "_law_many"]) : Df P w K mg base "_law_choices" ["_law_size", "_law_many"] 1 (spN K cl 2 F_law_choices false) :=
  df_N (N := ["_law_size", "_law_many", "_law_made", "_law_letter", "_law_more", "_law_row"]) (ms := [.sh, .sh, .sh, .sh, .ow, .sh]) g sc_law_choices rfl (by decide) (by decide) (by decide) fun f cdv A outer s H E hr tk po => by
    have nd := sc_law_choices.nd
    exact (ss_cons (s_asg (set1 nd (i := 2) (i_lst (a_cons (i_tup a_nil) a_nil))) rfl (by decide))
 (ss_cons (s_for po rfl (it_rng2 T.n_range (a_cons i_int (a_cons (i_add i_vars i_int) a_nil))) (by decide) rfl (p_name (i := 3) nd) (ss_cons (s_asgF (set1 nd (i := 4) (i_lst a_nil)) rfl)
 (ss_cons (s_for po rfl (it_seq i_vars) (by decide) rfl (p_name (i := 5) nd) (ss_cons (s_appP (h_app p_var i_vars) (.inl rfl))
 (ss_one (s_if (t_lt (i_len T.n_len i_vars) i_vars) (ss_one (s_appP (h_app p_var (i_add i_vars (i_tup (a_cons i_vars a_nil)))) (.inl rfl))) ss_nil))))
 (ss_one (s_asgM (p_set nd (i := 2) p_var) (.inl rfl) (.inl rfl) (by decide))))))
 (ss_one (s_ret (i_lc (.inr ⟨rfl, by decide⟩) (it_seq i_vars) (blkOk_by (own := [("_law_row", 5)]) rfl) nd rfl (fun _ _ _ _ _ => p_name (i := 5) nd) (fun _ _ _ _ _ => (ts_one (t_eq hr (i_len T.n_len i_vars) i_vars))) (fun _ _ _ _ _ => i_vars)) (.inl (by decide))))))

abbrev s_law_22 : Stmt := top 31
theorem sc_law_22 : FnScope ["_law_script", "_law_size", "_law_box_here", "_law_many", "_law_inner", "_law_weight", "_law_due", "_law_row", "_law_rest", "_law_one", "_law_other", "_law_found", "_law_letter"] ["_law_script"] (defScope s_law_22) := ⟨rfl, rfl, rfl, by decide +kernel, rfl, by decide +kernel, by decide +kernel⟩
theorem fn_law (T : Txt K mg cl) {f : Addr} {fd : FuncData} (F : Fun K "law" "law" s_law_22 f fd) (d_lattice_boxes : Df P w K mg base "lattice_boxes" ["outer", "inner", "weight"] 5 (spN K cl 3 F_lattice_boxes_1 false)) (d__law_mixed : Df P w K mg base "_law_mixed" ["_law_script", "_law_k", "_law_many"] 2 (spN K cl 3 F_law_mixed false)) (d__law_perm : Df P w K mg base "_law_perm" ["_law_script", "_law_at", "_law_size"] 3 (spN K cl 3 F_law_perm false)) (d__law_box : Df P w K mg base "_law_box" ["_law_word"] 2 (spN K cl 1 F_law_box_2 false)) (d__law_reading : Df P w K mg base "_law_reading" ["_law_rows"] 1 (spN K cl 1 F_law_reading false)) (d__law_lengths : Df P w K mg base "_law_lengths" ["_law_rows"] 1 (spN K cl 1 F_law_lengths false)) (d__law_exact : Df P w K mg base "_law_exact" ["_law_script", "_law_at", "_law_size"] 3 (spN K cl 3 F_law_exact false)) (d__law_fillings : Df P w K mg base "_law_fillings" ["_law_shape_here", "_law_letters"] 1 (spN K cl 2 F_law_fillings false)) (d__law_choices : Df P w K mg base "_law_choices" ["_law_size", "_law_many"] 1 (spN K cl 2 F_law_choices false)) : FnOk P w K mg base (L2.CX P w) 6 f fd ["_law_script"] (spN K cl 1 F_law_22 false) :=
  fn_N (N := ["_law_script", "_law_size", "_law_box_here", "_law_many", "_law_inner", "_law_weight", "_law_due", "_law_row", "_law_rest", "_law_one", "_law_other", "_law_found", "_law_letter"]) (ms := [.sh, .sh, .sh, .sh, .sh, .sh, .sh, .sh, .sh, .sh, .sh, .sh, .sh]) F sc_law_22 rfl (by decide) (by decide) (by decide) fun cdv A outer s H E hr => by
    have nd := sc_law_22.nd
    have tk := takes_of (X := cxOf (L2.CX P w) P w K mg base ["_law_script", "_law_size", "_law_box_here", "_law_many", "_law_inner", "_law_weight", "_law_due", "_law_row", "_law_rest", "_law_one", "_law_other", "_law_found", "_law_letter"] "law" (defScope s_law_22) f cdv A outer s H E) rfl rfl rfl rfl
    have po : PassesOwn (model P w) (A.deeper (PyProof.Rows.envOfC "law" (defScope s_law_22) s.heap.objs.size f cdv)) (PyProof.Rows.envOfC "law" (defScope s_law_22) s.heap.objs.size f cdv) (cxOf (L2.CX P w) P w K mg base ["_law_script", "_law_size", "_law_box_here", "_law_many", "_law_inner", "_law_weight", "_law_due", "_law_row", "_law_rest", "_law_one", "_law_other", "_law_found", "_law_letter"] "law" (defScope s_law_22) f cdv A outer s H E).xe := passes_of rfl
    exact (ss_cons (s_asg (set1 nd (i := 1) (i_callD (n := 3) d__law_mixed (hr.mono (by decide)) tk (a_cons i_vars (a_cons i_int (a_cons i_int a_nil))) (lenC (lenC (lenC lenN))))) rfl (by decide))
 (ss_cons (s_asg (set1 nd (i := 2) (i_callD (n := 1) d__law_box (hr.mono (by decide)) tk (a_cons (i_callD (n := 3) d__law_perm (hr.mono (by decide)) tk (a_cons i_vars (a_cons i_int (a_cons i_vars a_nil))) (lenC (lenC (lenC lenN)))) a_nil) (lenC lenN))) rfl (by decide))
 (ss_cons (s_asg (set1 nd (i := 3) (i_callD (n := 3) d__law_mixed (hr.mono (by decide)) tk (a_cons i_vars (a_cons i_int (a_cons (i_add (i_min2 T.n_min rfl i_vars i_int) i_int) a_nil))) (lenC (lenC (lenC lenN))))) rfl (by decide))
 (ss_cons (s_asg (set1 nd (i := 4) (i_callD (n := 3) d__law_exact (hr.mono (by decide)) tk (a_cons i_vars (a_cons i_int (a_cons i_vars a_nil))) (lenC (lenC (lenC lenN))))) rfl (by decide))
 (ss_cons (s_asg (set1 nd (i := 5) (i_callD (n := 3) d__law_exact (hr.mono (by decide)) tk (a_cons i_vars (a_cons i_int (a_cons (i_sub i_vars i_vars) a_nil))) (lenC (lenC (lenC lenN))))) rfl (by decide))
 (ss_cons (s_asg (set1 nd (i := 6) i_int) rfl (by decide))
 (ss_cons (s_for po rfl (it_seq (i_callD (n := 2) d__law_choices (hr.mono (by decide)) tk (a_cons i_vars (a_cons i_vars a_nil)) (lenC (lenC lenN)))) (by decide) rfl (p_name (i := 7) nd) (ss_cons (s_asg (set_lc (i := 8) (.inr ⟨rfl, by decide⟩) (it_rng2 T.n_range (a_cons i_int (a_cons (i_add i_vars i_int) a_nil))) (blkOk_by (own := [("_law_letter", 12)]) rfl) nd rfl (fun _ _ _ _ _ => p_name (i := 12) nd) (fun _ _ _ _ _ => (ts_one (t_nin hr i_vars i_vars))) (fun _ _ _ _ _ => i_vars) rfl rfl (sw_true rfl rfl rfl (by decide +kernel))) rfl (by decide))
 (ss_one (s_for po rfl (it_seq (i_callD (n := 2) d__law_fillings (hr.mono (by decide)) tk (a_cons i_vars (a_cons i_vars a_nil)) (lenC (lenC lenN)))) (by decide) rfl (p_name (i := 9) nd) (ss_one (s_for po rfl (it_seq (i_callD (n := 2) d__law_fillings (hr.mono (by decide)) tk (a_cons i_vars (a_cons i_vars a_nil)) (lenC (lenC lenN)))) (by decide) rfl (p_name (i := 10) nd) (ss_one (s_asg (set1 nd (i := 6) (i_add i_vars (i_intOf T.n_int (i_eq hr (i_callD (n := 1) d__law_box (hr.mono (by decide)) tk (a_cons (i_add (i_callD (n := 1) d__law_reading (hr.mono (by decide)) tk (a_cons i_vars a_nil) (lenC lenN)) (i_callD (n := 1) d__law_reading (hr.mono (by decide)) tk (a_cons i_vars a_nil) (lenC lenN))) a_nil) (lenC lenN)) i_vars)))) rfl (by decide)))))))))
 (ss_cons (s_asg (set1 nd (i := 11) (i_callD (n := 3) d_lattice_boxes (hr.mono (by decide)) tk (a_cons (i_callD (n := 1) d__law_lengths (hr.mono (by decide)) tk (a_cons i_vars a_nil) (lenC lenN)) (a_cons i_vars (a_cons i_vars a_nil))) (lenC (lenC (lenC lenN))))) rfl (by decide))
 (ss_one (s_ret (i_and (i_isi .list rfl T.n_list T.n_isinstance i_vars) (i_one (i_eq hr (i_len T.n_len i_vars) i_vars))) (.inr rfl)))))))))))
end
theorem all_mk {P : Program} {w : World} {K : Fg} {h : Heap} {mg : Str → Option Value} {fa : Addr} (X : K.In h) (G : h.Ns mainGlobals mg) (hfa : mg "law" = some (.ref fa)) (hlaw : ∀ ns : List Int, ns.length ≤ 63 → F_law_22 [lck ns] = .ret (.bool true) [])
    {t_PLACES : Tok} {t_MOST : Tok} {C_BoxError : Addr} {C_NoShape : Addr} {C_TooMany : Addr} {f_between : Addr} {oc_between kV_between dc_between pm_between cd_between ct_between : Value} {od_between an_between : Option Addr} {sl_between : Array (Option Value)} {f_is_shape : Addr} {oc_is_shape kV_is_shape dc_is_shape pm_is_shape cd_is_shape ct_is_shape : Value} {od_is_shape an_is_shape : Option Addr} {sl_is_shape : Array (Option Value)} {f_need_shape : Addr} {oc_need_shape kV_need_shape dc_need_shape pm_need_shape cd_need_shape ct_need_shape : Value} {od_need_shape an_need_shape : Option Addr} {sl_need_shape : Array (Option Value)} {f_part_at : Addr} {oc_part_at kV_part_at dc_part_at pm_part_at cd_part_at ct_part_at : Value} {od_part_at an_part_at : Option Addr} {sl_part_at : Array (Option Value)} {f_letter_at : Addr} {oc_letter_at kV_letter_at dc_letter_at pm_letter_at cd_letter_at ct_letter_at : Value} {od_letter_at an_letter_at : Option Addr} {sl_letter_at : Array (Option Value)} {f_lies_in : Addr} {oc_lies_in kV_lies_in dc_lies_in pm_lies_in cd_lies_in ct_lies_in : Value} {od_lies_in an_lies_in : Option Addr} {sl_lies_in : Array (Option Value)} {f_may_stand : Addr} {oc_may_stand kV_may_stand dc_may_stand pm_may_stand cd_may_stand ct_may_stand : Value} {od_may_stand an_may_stand : Option Addr} {sl_may_stand : Array (Option Value)} {f_counted : Addr} {oc_counted kV_counted dc_counted pm_counted cd_counted ct_counted : Value} {od_counted an_counted : Option Addr} {sl_counted : Array (Option Value)} {f_filled : Addr} {oc_filled kV_filled dc_filled pm_filled cd_filled ct_filled : Value} {od_filled an_filled : Option Addr} {sl_filled : Array (Option Value)} {f_lattice_boxes_1 : Addr} {oc_lattice_boxes_1 kV_lattice_boxes_1 dc_lattice_boxes_1 pm_lattice_boxes_1 cd_lattice_boxes_1 ct_lattice_boxes_1 : Value} {od_lattice_boxes_1 an_lattice_boxes_1 : Option Addr} {sl_lattice_boxes_1 : Array (Option Value)} {f_law_cell_at : Addr} {oc_law_cell_at kV_law_cell_at dc_law_cell_at pm_law_cell_at cd_law_cell_at ct_law_cell_at : Value} {od_law_cell_at an_law_cell_at : Option Addr} {sl_law_cell_at : Array (Option Value)} {f_law_mixed : Addr} {oc_law_mixed kV_law_mixed dc_law_mixed pm_law_mixed cd_law_mixed ct_law_mixed : Value} {od_law_mixed an_law_mixed : Option Addr} {sl_law_mixed : Array (Option Value)} {f_law_perm : Addr} {oc_law_perm kV_law_perm dc_law_perm pm_law_perm cd_law_perm ct_law_perm : Value} {od_law_perm an_law_perm : Option Addr} {sl_law_perm : Array (Option Value)} {f_law_put : Addr} {oc_law_put kV_law_put dc_law_put pm_law_put cd_law_put ct_law_put : Value} {od_law_put an_law_put : Option Addr} {sl_law_put : Array (Option Value)} {f_law_box_2 : Addr} {oc_law_box_2 kV_law_box_2 dc_law_box_2 pm_law_box_2 cd_law_box_2 ct_law_box_2 : Value} {od_law_box_2 an_law_box_2 : Option Addr} {sl_law_box_2 : Array (Option Value)} {f_law_reading : Addr} {oc_law_reading kV_law_reading dc_law_reading pm_law_reading cd_law_reading ct_law_reading : Value} {od_law_reading an_law_reading : Option Addr} {sl_law_reading : Array (Option Value)} {f_law_lengths : Addr} {oc_law_lengths kV_law_lengths dc_law_lengths pm_law_lengths cd_law_lengths ct_law_lengths : Value} {od_law_lengths an_law_lengths : Option Addr} {sl_law_lengths : Array (Option Value)} {f_law_exact : Addr} {oc_law_exact kV_law_exact dc_law_exact pm_law_exact cd_law_exact ct_law_exact : Value} {od_law_exact an_law_exact : Option Addr} {sl_law_exact : Array (Option Value)} {f_law_fillings : Addr} {oc_law_fillings kV_law_fillings dc_law_fillings pm_law_fillings cd_law_fillings ct_law_fillings : Value} {od_law_fillings an_law_fillings : Option Addr} {sl_law_fillings : Array (Option Value)} {f_law_choices : Addr} {oc_law_choices kV_law_choices dc_law_choices pm_law_choices cd_law_choices ct_law_choices : Value} {od_law_choices an_law_choices : Option Addr} {sl_law_choices : Array (Option Value)} {f_law_22 : Addr} {oc_law_22 kV_law_22 dc_law_22 pm_law_22 cd_law_22 ct_law_22 : Value} {od_law_22 an_law_22 : Option Addr} {sl_law_22 : Array (Option Value)}
    (n_bool : PySem.W.nsIn K mainGlobals "bool" = some none)
    (n_int : PySem.W.nsIn K mainGlobals "int" = some none)
    (n_isinstance : PySem.W.nsIn K mainGlobals "isinstance" = some none)
    (n_len : PySem.W.nsIn K mainGlobals "len" = some none)
    (n_list : PySem.W.nsIn K mainGlobals "list" = some none)
    (n_min : PySem.W.nsIn K mainGlobals "min" = some none)
    (n_range : PySem.W.nsIn K mainGlobals "range" = some none)
    (n_sorted : PySem.W.nsIn K mainGlobals "sorted" = some none)
    (n_sum : PySem.W.nsIn K mainGlobals "sum" = some none)
    (n_tuple : PySem.W.nsIn K mainGlobals "tuple" = some none)
    (c_PLACES : PySem.W.nsIn K mainGlobals "PLACES" = some (some (.int 16 t_PLACES)))
    (c_MOST : PySem.W.nsIn K mainGlobals "MOST" = some (some (.int 8 t_MOST)))
    (g_BoxError : PySem.W.nsIn K mainGlobals "BoxError" = some (some (.ref C_BoxError)))
    (q_BoxError : PySem.W.excIn K C_BoxError [.type "ValueError", .type "Exception", .type "BaseException", .type "object"] "ValueError.__new__" = true)
    (k_BoxError : PySem.W.keepIn K (.ref C_BoxError) = true)
    (b_BoxError : PySem.W.subIn K (.ref C_BoxError) (.type "BaseException") = some true)
    (t_BoxError : PySem.W.typeIn K (.ref C_BoxError) = some (.type "type"))
    (g_NoShape : PySem.W.nsIn K mainGlobals "NoShape" = some (some (.ref C_NoShape)))
    (q_NoShape : PySem.W.excIn K C_NoShape [.type "ValueError", .type "Exception", .type "BaseException", .type "object"] "ValueError.__new__" = true)
    (k_NoShape : PySem.W.keepIn K (.ref C_NoShape) = true)
    (b_NoShape : PySem.W.subIn K (.ref C_NoShape) (.type "BaseException") = some true)
    (t_NoShape : PySem.W.typeIn K (.ref C_NoShape) = some (.type "type"))
    (g_TooMany : PySem.W.nsIn K mainGlobals "TooMany" = some (some (.ref C_TooMany)))
    (q_TooMany : PySem.W.excIn K C_TooMany [.type "ValueError", .type "Exception", .type "BaseException", .type "object"] "ValueError.__new__" = true)
    (k_TooMany : PySem.W.keepIn K (.ref C_TooMany) = true)
    (b_TooMany : PySem.W.subIn K (.ref C_TooMany) (.type "BaseException") = some true)
    (t_TooMany : PySem.W.typeIn K (.ref C_TooMany) = some (.type "type"))
    (a_between : PySem.W.nsIn K mainGlobals "between" = some (some (.ref f_between))) (l_between : K.lookup f_between = some ⟨oc_between, od_between, .func (PySem.W.fnOf "between" "between" (defArgs s_between) (defBody s_between) (defScope s_between) .none kV_between dc_between pm_between an_between cd_between ct_between), sl_between⟩) (p_between : PySem.W.codeIn K cd_between "between" = true) (k_between : PySem.W.keepIn K (.ref f_between) = true)
    (a_is_shape : PySem.W.nsIn K mainGlobals "is_shape" = some (some (.ref f_is_shape))) (l_is_shape : K.lookup f_is_shape = some ⟨oc_is_shape, od_is_shape, .func (PySem.W.fnOf "is_shape" "is_shape" (defArgs s_is_shape) (defBody s_is_shape) (defScope s_is_shape) .none kV_is_shape dc_is_shape pm_is_shape an_is_shape cd_is_shape ct_is_shape), sl_is_shape⟩) (p_is_shape : PySem.W.codeIn K cd_is_shape "is_shape" = true) (k_is_shape : PySem.W.keepIn K (.ref f_is_shape) = true)
    (a_need_shape : PySem.W.nsIn K mainGlobals "need_shape" = some (some (.ref f_need_shape))) (l_need_shape : K.lookup f_need_shape = some ⟨oc_need_shape, od_need_shape, .func (PySem.W.fnOf "need_shape" "need_shape" (defArgs s_need_shape) (defBody s_need_shape) (defScope s_need_shape) .none kV_need_shape dc_need_shape pm_need_shape an_need_shape cd_need_shape ct_need_shape), sl_need_shape⟩) (p_need_shape : PySem.W.codeIn K cd_need_shape "need_shape" = true) (k_need_shape : PySem.W.keepIn K (.ref f_need_shape) = true)
    (a_part_at : PySem.W.nsIn K mainGlobals "part_at" = some (some (.ref f_part_at))) (l_part_at : K.lookup f_part_at = some ⟨oc_part_at, od_part_at, .func (PySem.W.fnOf "part_at" "part_at" (defArgs s_part_at) (defBody s_part_at) (defScope s_part_at) .none kV_part_at dc_part_at pm_part_at an_part_at cd_part_at ct_part_at), sl_part_at⟩) (p_part_at : PySem.W.codeIn K cd_part_at "part_at" = true) (k_part_at : PySem.W.keepIn K (.ref f_part_at) = true)
    (a_letter_at : PySem.W.nsIn K mainGlobals "letter_at" = some (some (.ref f_letter_at))) (l_letter_at : K.lookup f_letter_at = some ⟨oc_letter_at, od_letter_at, .func (PySem.W.fnOf "letter_at" "letter_at" (defArgs s_letter_at) (defBody s_letter_at) (defScope s_letter_at) .none kV_letter_at dc_letter_at pm_letter_at an_letter_at cd_letter_at ct_letter_at), sl_letter_at⟩) (p_letter_at : PySem.W.codeIn K cd_letter_at "letter_at" = true) (k_letter_at : PySem.W.keepIn K (.ref f_letter_at) = true)
    (a_lies_in : PySem.W.nsIn K mainGlobals "lies_in" = some (some (.ref f_lies_in))) (l_lies_in : K.lookup f_lies_in = some ⟨oc_lies_in, od_lies_in, .func (PySem.W.fnOf "lies_in" "lies_in" (defArgs s_lies_in) (defBody s_lies_in) (defScope s_lies_in) .none kV_lies_in dc_lies_in pm_lies_in an_lies_in cd_lies_in ct_lies_in), sl_lies_in⟩) (p_lies_in : PySem.W.codeIn K cd_lies_in "lies_in" = true) (k_lies_in : PySem.W.keepIn K (.ref f_lies_in) = true)
    (a_may_stand : PySem.W.nsIn K mainGlobals "may_stand" = some (some (.ref f_may_stand))) (l_may_stand : K.lookup f_may_stand = some ⟨oc_may_stand, od_may_stand, .func (PySem.W.fnOf "may_stand" "may_stand" (defArgs s_may_stand) (defBody s_may_stand) (defScope s_may_stand) .none kV_may_stand dc_may_stand pm_may_stand an_may_stand cd_may_stand ct_may_stand), sl_may_stand⟩) (p_may_stand : PySem.W.codeIn K cd_may_stand "may_stand" = true) (k_may_stand : PySem.W.keepIn K (.ref f_may_stand) = true)
    (a_counted : PySem.W.nsIn K mainGlobals "counted" = some (some (.ref f_counted))) (l_counted : K.lookup f_counted = some ⟨oc_counted, od_counted, .func (PySem.W.fnOf "counted" "counted" (defArgs s_counted) (defBody s_counted) (defScope s_counted) .none kV_counted dc_counted pm_counted an_counted cd_counted ct_counted), sl_counted⟩) (p_counted : PySem.W.codeIn K cd_counted "counted" = true) (k_counted : PySem.W.keepIn K (.ref f_counted) = true)
    (a_filled : PySem.W.nsIn K mainGlobals "filled" = some (some (.ref f_filled))) (l_filled : K.lookup f_filled = some ⟨oc_filled, od_filled, .func (PySem.W.fnOf "filled" "filled" (defArgs s_filled) (defBody s_filled) (defScope s_filled) .none kV_filled dc_filled pm_filled an_filled cd_filled ct_filled), sl_filled⟩) (p_filled : PySem.W.codeIn K cd_filled "filled" = true) (k_filled : PySem.W.keepIn K (.ref f_filled) = true)
    (a_lattice_boxes_1 : PySem.W.nsIn K mainGlobals "lattice_boxes" = some (some (.ref f_lattice_boxes_1))) (l_lattice_boxes_1 : K.lookup f_lattice_boxes_1 = some ⟨oc_lattice_boxes_1, od_lattice_boxes_1, .func (PySem.W.fnOf "lattice_boxes" "lattice_boxes" (defArgs s_lattice_boxes_1) (defBody s_lattice_boxes_1) (defScope s_lattice_boxes_1) .none kV_lattice_boxes_1 dc_lattice_boxes_1 pm_lattice_boxes_1 an_lattice_boxes_1 cd_lattice_boxes_1 ct_lattice_boxes_1), sl_lattice_boxes_1⟩) (p_lattice_boxes_1 : PySem.W.codeIn K cd_lattice_boxes_1 "lattice_boxes" = true) (k_lattice_boxes_1 : PySem.W.keepIn K (.ref f_lattice_boxes_1) = true)
    (a_law_cell_at : PySem.W.nsIn K mainGlobals "_law_cell_at" = some (some (.ref f_law_cell_at))) (l_law_cell_at : K.lookup f_law_cell_at = some ⟨oc_law_cell_at, od_law_cell_at, .func (PySem.W.fnOf "_law_cell_at" "_law_cell_at" (defArgs s_law_cell_at) (defBody s_law_cell_at) (defScope s_law_cell_at) .none kV_law_cell_at dc_law_cell_at pm_law_cell_at an_law_cell_at cd_law_cell_at ct_law_cell_at), sl_law_cell_at⟩) (p_law_cell_at : PySem.W.codeIn K cd_law_cell_at "_law_cell_at" = true) (k_law_cell_at : PySem.W.keepIn K (.ref f_law_cell_at) = true)
    (a_law_mixed : PySem.W.nsIn K mainGlobals "_law_mixed" = some (some (.ref f_law_mixed))) (l_law_mixed : K.lookup f_law_mixed = some ⟨oc_law_mixed, od_law_mixed, .func (PySem.W.fnOf "_law_mixed" "_law_mixed" (defArgs s_law_mixed) (defBody s_law_mixed) (defScope s_law_mixed) .none kV_law_mixed dc_law_mixed pm_law_mixed an_law_mixed cd_law_mixed ct_law_mixed), sl_law_mixed⟩) (p_law_mixed : PySem.W.codeIn K cd_law_mixed "_law_mixed" = true) (k_law_mixed : PySem.W.keepIn K (.ref f_law_mixed) = true)
    (a_law_perm : PySem.W.nsIn K mainGlobals "_law_perm" = some (some (.ref f_law_perm))) (l_law_perm : K.lookup f_law_perm = some ⟨oc_law_perm, od_law_perm, .func (PySem.W.fnOf "_law_perm" "_law_perm" (defArgs s_law_perm) (defBody s_law_perm) (defScope s_law_perm) .none kV_law_perm dc_law_perm pm_law_perm an_law_perm cd_law_perm ct_law_perm), sl_law_perm⟩) (p_law_perm : PySem.W.codeIn K cd_law_perm "_law_perm" = true) (k_law_perm : PySem.W.keepIn K (.ref f_law_perm) = true)
    (a_law_put : PySem.W.nsIn K mainGlobals "_law_put" = some (some (.ref f_law_put))) (l_law_put : K.lookup f_law_put = some ⟨oc_law_put, od_law_put, .func (PySem.W.fnOf "_law_put" "_law_put" (defArgs s_law_put) (defBody s_law_put) (defScope s_law_put) .none kV_law_put dc_law_put pm_law_put an_law_put cd_law_put ct_law_put), sl_law_put⟩) (p_law_put : PySem.W.codeIn K cd_law_put "_law_put" = true) (k_law_put : PySem.W.keepIn K (.ref f_law_put) = true)
    (a_law_box_2 : PySem.W.nsIn K mainGlobals "_law_box" = some (some (.ref f_law_box_2))) (l_law_box_2 : K.lookup f_law_box_2 = some ⟨oc_law_box_2, od_law_box_2, .func (PySem.W.fnOf "_law_box" "_law_box" (defArgs s_law_box_2) (defBody s_law_box_2) (defScope s_law_box_2) .none kV_law_box_2 dc_law_box_2 pm_law_box_2 an_law_box_2 cd_law_box_2 ct_law_box_2), sl_law_box_2⟩) (p_law_box_2 : PySem.W.codeIn K cd_law_box_2 "_law_box" = true) (k_law_box_2 : PySem.W.keepIn K (.ref f_law_box_2) = true)
    (a_law_reading : PySem.W.nsIn K mainGlobals "_law_reading" = some (some (.ref f_law_reading))) (l_law_reading : K.lookup f_law_reading = some ⟨oc_law_reading, od_law_reading, .func (PySem.W.fnOf "_law_reading" "_law_reading" (defArgs s_law_reading) (defBody s_law_reading) (defScope s_law_reading) .none kV_law_reading dc_law_reading pm_law_reading an_law_reading cd_law_reading ct_law_reading), sl_law_reading⟩) (p_law_reading : PySem.W.codeIn K cd_law_reading "_law_reading" = true) (k_law_reading : PySem.W.keepIn K (.ref f_law_reading) = true)
    (a_law_lengths : PySem.W.nsIn K mainGlobals "_law_lengths" = some (some (.ref f_law_lengths))) (l_law_lengths : K.lookup f_law_lengths = some ⟨oc_law_lengths, od_law_lengths, .func (PySem.W.fnOf "_law_lengths" "_law_lengths" (defArgs s_law_lengths) (defBody s_law_lengths) (defScope s_law_lengths) .none kV_law_lengths dc_law_lengths pm_law_lengths an_law_lengths cd_law_lengths ct_law_lengths), sl_law_lengths⟩) (p_law_lengths : PySem.W.codeIn K cd_law_lengths "_law_lengths" = true) (k_law_lengths : PySem.W.keepIn K (.ref f_law_lengths) = true)
    (a_law_exact : PySem.W.nsIn K mainGlobals "_law_exact" = some (some (.ref f_law_exact))) (l_law_exact : K.lookup f_law_exact = some ⟨oc_law_exact, od_law_exact, .func (PySem.W.fnOf "_law_exact" "_law_exact" (defArgs s_law_exact) (defBody s_law_exact) (defScope s_law_exact) .none kV_law_exact dc_law_exact pm_law_exact an_law_exact cd_law_exact ct_law_exact), sl_law_exact⟩) (p_law_exact : PySem.W.codeIn K cd_law_exact "_law_exact" = true) (k_law_exact : PySem.W.keepIn K (.ref f_law_exact) = true)
    (a_law_fillings : PySem.W.nsIn K mainGlobals "_law_fillings" = some (some (.ref f_law_fillings))) (l_law_fillings : K.lookup f_law_fillings = some ⟨oc_law_fillings, od_law_fillings, .func (PySem.W.fnOf "_law_fillings" "_law_fillings" (defArgs s_law_fillings) (defBody s_law_fillings) (defScope s_law_fillings) .none kV_law_fillings dc_law_fillings pm_law_fillings an_law_fillings cd_law_fillings ct_law_fillings), sl_law_fillings⟩) (p_law_fillings : PySem.W.codeIn K cd_law_fillings "_law_fillings" = true) (k_law_fillings : PySem.W.keepIn K (.ref f_law_fillings) = true)
    (a_law_choices : PySem.W.nsIn K mainGlobals "_law_choices" = some (some (.ref f_law_choices))) (l_law_choices : K.lookup f_law_choices = some ⟨oc_law_choices, od_law_choices, .func (PySem.W.fnOf "_law_choices" "_law_choices" (defArgs s_law_choices) (defBody s_law_choices) (defScope s_law_choices) .none kV_law_choices dc_law_choices pm_law_choices an_law_choices cd_law_choices ct_law_choices), sl_law_choices⟩) (p_law_choices : PySem.W.codeIn K cd_law_choices "_law_choices" = true) (k_law_choices : PySem.W.keepIn K (.ref f_law_choices) = true)
    (a_law_22 : PySem.W.nsIn K mainGlobals "law" = some (some (.ref f_law_22))) (l_law_22 : K.lookup f_law_22 = some ⟨oc_law_22, od_law_22, .func (PySem.W.fnOf "law" "law" (defArgs s_law_22) (defBody s_law_22) (defScope s_law_22) .none kV_law_22 dc_law_22 pm_law_22 an_law_22 cd_law_22 ct_law_22), sl_law_22⟩) (p_law_22 : PySem.W.codeIn K cd_law_22 "law" = true) (k_law_22 : PySem.W.keepIn K (.ref f_law_22) = true) :
    ∃ fd : FuncData, (∀ (s : Shared) (v : Value), BindsTo s fd ⟨[v], []⟩ [("_law_script", v)]) ∧ ∀ base : Heap, K.In base → base.Ns mainGlobals mg → FnOk P w K mg base (L2.CX P w) 6 fa fd ["_law_script"] (spLaw K) := by
  have e := hfa.symm.trans (PySem.W.mg_of X G a_law_22)
  cases e
  have T : Txt K mg (fun n => ([C_BoxError, 0, 0, C_NoShape, 0, 0, C_TooMany, 0, 0, 0] : List Addr).getD n 0) := ⟨PySem.W.mg_none_of X G n_bool, PySem.W.mg_none_of X G n_int, PySem.W.mg_none_of X G n_isinstance, PySem.W.mg_none_of X G n_len, PySem.W.mg_none_of X G n_list, PySem.W.mg_none_of X G n_min, PySem.W.mg_none_of X G n_range, PySem.W.mg_none_of X G n_sorted, PySem.W.mg_none_of X G n_sum, PySem.W.mg_none_of X G n_tuple, ⟨_, PySem.W.mg_of X G c_PLACES⟩, ⟨_, PySem.W.mg_of X G c_MOST⟩, ⟨PySem.W.mg_of X G g_BoxError, q_BoxError, k_BoxError, b_BoxError, t_BoxError⟩, ⟨PySem.W.mg_of X G g_NoShape, q_NoShape, k_NoShape, b_NoShape, t_NoShape⟩, ⟨PySem.W.mg_of X G g_TooMany, q_TooMany, k_TooMany, b_TooMany, t_TooMany⟩⟩
  refine ⟨PySem.W.fnOf "law" "law" (defArgs s_law_22) (defBody s_law_22) (defScope s_law_22) .none kV_law_22 dc_law_22 pm_law_22 an_law_22 cd_law_22 ct_law_22, fun s v => .of_eq rfl, fun base _ _ => ?_⟩
  have d_between := df_between (P := P) (w := w) (base := base) T (gd_mk X G a_between l_between p_between k_between fun _ _ _ _ _ _ us hl => match us, hl with | [_, _, _], _ => rfl)
  have d_is_shape := df_is_shape (P := P) (w := w) (base := base) T (gd_mk X G a_is_shape l_is_shape p_is_shape k_is_shape fun _ _ _ _ _ _ us hl => match us, hl with | [_], _ => rfl) d_between
  have d_need_shape := df_need_shape (P := P) (w := w) (base := base) T (gd_mk X G a_need_shape l_need_shape p_need_shape k_need_shape fun _ _ _ _ _ _ us hl => match us, hl with | [_], _ => rfl) d_is_shape
  have d_part_at := df_part_at (P := P) (w := w) (base := base) T (gd_mk X G a_part_at l_part_at p_part_at k_part_at fun _ _ _ _ _ _ us hl => match us, hl with | [_, _], _ => rfl)
  have d_letter_at := df_letter_at (P := P) (w := w) (base := base) T (gd_mk X G a_letter_at l_letter_at p_letter_at k_letter_at fun _ _ _ _ _ _ us hl => match us, hl with | [_, _, _], _ => rfl) d_part_at
  have d_lies_in := df_lies_in (P := P) (w := w) (base := base) T (gd_mk X G a_lies_in l_lies_in p_lies_in k_lies_in fun _ _ _ _ _ _ us hl => match us, hl with | [_, _], _ => rfl) d_part_at
  have d_may_stand := df_may_stand (P := P) (w := w) (base := base) T (gd_mk X G a_may_stand l_may_stand p_may_stand k_may_stand fun _ _ _ _ _ _ us hl => match us, hl with | [_, _, _, _], _ => rfl) d_letter_at
  have d_counted := df_counted (P := P) (w := w) (base := base) T (gd_mk X G a_counted l_counted p_counted k_counted fun _ _ _ _ _ _ us hl => match us, hl with | [_, _], _ => rfl)
  have d_filled := df_filled (P := P) (w := w) (base := base) T (gd_mk X G a_filled l_filled p_filled k_filled fun _ _ _ _ _ _ us hl => match us, hl with | [_, _, _, _], _ => rfl) d_part_at d_may_stand d_counted
  have d_lattice_boxes := df_lattice_boxes_1 (P := P) (w := w) (base := base) T (gd_mk X G a_lattice_boxes_1 l_lattice_boxes_1 p_lattice_boxes_1 k_lattice_boxes_1 fun _ _ _ _ _ _ us hl => match us, hl with | [_, _, _], _ => rfl) d_need_shape d_lies_in d_filled
  have d__law_cell_at := df_law_cell_at (P := P) (w := w) (base := base) T (gd_mk X G a_law_cell_at l_law_cell_at p_law_cell_at k_law_cell_at fun _ _ _ _ _ _ us hl => match us, hl with | [_, _], _ => rfl)
  have d__law_mixed := df_law_mixed (P := P) (w := w) (base := base) T (gd_mk X G a_law_mixed l_law_mixed p_law_mixed k_law_mixed fun _ _ _ _ _ _ us hl => match us, hl with | [_, _, _], _ => rfl) d__law_cell_at
  have d__law_perm := df_law_perm (P := P) (w := w) (base := base) T (gd_mk X G a_law_perm l_law_perm p_law_perm k_law_perm fun _ _ _ _ _ _ us hl => match us, hl with | [_, _, _], _ => rfl) d__law_mixed
  have d__law_put := df_law_put (P := P) (w := w) (base := base) T (gd_mk X G a_law_put l_law_put p_law_put k_law_put fun _ _ _ _ _ _ us hl => match us, hl with | [_, _], _ => rfl)
  have d__law_box := df_law_box_2 (P := P) (w := w) (base := base) T (gd_mk X G a_law_box_2 l_law_box_2 p_law_box_2 k_law_box_2 fun _ _ _ _ _ _ us hl => match us, hl with | [_], _ => rfl) d__law_put
  have d__law_reading := df_law_reading (P := P) (w := w) (base := base) T (gd_mk X G a_law_reading l_law_reading p_law_reading k_law_reading fun _ _ _ _ _ _ us hl => match us, hl with | [_], _ => rfl)
  have d__law_lengths := df_law_lengths (P := P) (w := w) (base := base) T (gd_mk X G a_law_lengths l_law_lengths p_law_lengths k_law_lengths fun _ _ _ _ _ _ us hl => match us, hl with | [_], _ => rfl)
  have d__law_exact := df_law_exact (P := P) (w := w) (base := base) T (gd_mk X G a_law_exact l_law_exact p_law_exact k_law_exact fun _ _ _ _ _ _ us hl => match us, hl with | [_, _, _], _ => rfl) d__law_mixed
  have d__law_fillings := df_law_fillings (P := P) (w := w) (base := base) T (gd_mk X G a_law_fillings l_law_fillings p_law_fillings k_law_fillings fun _ _ _ _ _ _ us hl => match us, hl with | [_, _], _ => rfl)
  have d__law_choices := df_law_choices (P := P) (w := w) (base := base) T (gd_mk X G a_law_choices l_law_choices p_law_choices k_law_choices fun _ _ _ _ _ _ us hl => match us, hl with | [_, _], _ => rfl)
  exact (fn_law T (fun_mk l_law_22 p_law_22 k_law_22) d_lattice_boxes d__law_mixed d__law_perm d__law_box d__law_reading d__law_lengths d__law_exact d__law_fillings d__law_choices).imp (law_imp hlaw)
end Mi
open PySem PySem.W PyProof.Rows
set_option maxRecDepth 100000 in
set_option maxHeartbeats 0 in
theorem PySem.Challenge.cw_slidebox_k22_whole_lattice_rule_holds : PySem.Challenge.rw_slidebox_k22_whole_lattice_rule.Holds := by
  w_on; o_law; k_head; (case hw => w_witness2)
  k_fill
  refine Mi.walk (l := PySem.Challenge.rw_slidebox_k22_whole_lattice_rule) (k := 6) (x := "_law_script") rfl rfl ⟨rfl, by decide, by decide⟩ (fun w h Y => PySem.W.kIn_of Y) ?F
  case F =>
    intro w mg fa h KX G hmg
    refine' Mi.all_mk KX G hmg Mi.holds_law ?n_bool ?n_int ?n_isinstance ?n_len ?n_list ?n_min ?n_range ?n_sorted ?n_sum ?n_tuple ?c_PLACES ?c_MOST ?g_BoxError ?q_BoxError ?k_BoxError ?b_BoxError ?t_BoxError ?g_NoShape ?q_NoShape ?k_NoShape ?b_NoShape ?t_NoShape ?g_TooMany ?q_TooMany ?k_TooMany ?b_TooMany ?t_TooMany ?a_between ?l_between ?p_between ?k_between ?a_is_shape ?l_is_shape ?p_is_shape ?k_is_shape ?a_need_shape ?l_need_shape ?p_need_shape ?k_need_shape ?a_part_at ?l_part_at ?p_part_at ?k_part_at ?a_letter_at ?l_letter_at ?p_letter_at ?k_letter_at ?a_lies_in ?l_lies_in ?p_lies_in ?k_lies_in ?a_may_stand ?l_may_stand ?p_may_stand ?k_may_stand ?a_counted ?l_counted ?p_counted ?k_counted ?a_filled ?l_filled ?p_filled ?k_filled ?a_lattice_boxes_1 ?l_lattice_boxes_1 ?p_lattice_boxes_1 ?k_lattice_boxes_1 ?a_law_cell_at ?l_law_cell_at ?p_law_cell_at ?k_law_cell_at ?a_law_mixed ?l_law_mixed ?p_law_mixed ?k_law_mixed ?a_law_perm ?l_law_perm ?p_law_perm ?k_law_perm ?a_law_put ?l_law_put ?p_law_put ?k_law_put ?a_law_box_2 ?l_law_box_2 ?p_law_box_2 ?k_law_box_2 ?a_law_reading ?l_law_reading ?p_law_reading ?k_law_reading ?a_law_lengths ?l_law_lengths ?p_law_lengths ?k_law_lengths ?a_law_exact ?l_law_exact ?p_law_exact ?k_law_exact ?a_law_fillings ?l_law_fillings ?p_law_fillings ?k_law_fillings ?a_law_choices ?l_law_choices ?p_law_choices ?k_law_choices ?a_law_22 ?l_law_22 ?p_law_22 ?k_law_22
    (case n_bool => k_is)
    (case n_int => k_is)
    (case n_isinstance => k_is)
    (case n_len => k_is)
    (case n_list => k_is)
    (case n_min => k_is)
    (case n_range => k_is)
    (case n_sorted => k_is)
    (case n_sum => k_is)
    (case n_tuple => k_is)
    (case c_PLACES => k_is)
    (case c_MOST => k_is)
    (case g_BoxError => k_is)
    (case q_BoxError => k_exc)
    (case k_BoxError => k_is)
    (case b_BoxError => k_is)
    (case t_BoxError => k_is)
    (case g_NoShape => k_is)
    (case q_NoShape => k_exc)
    (case k_NoShape => k_is)
    (case b_NoShape => k_is)
    (case t_NoShape => k_is)
    (case g_TooMany => k_is)
    (case q_TooMany => k_exc)
    (case k_TooMany => k_is)
    (case b_TooMany => k_is)
    (case t_TooMany => k_is)
    (case a_between => k_is)
    (case l_between => k_is)
    (case p_between => k_is)
    (case k_between => k_is)
    (case a_is_shape => k_is)
    (case l_is_shape => k_is)
    (case p_is_shape => k_is)
    (case k_is_shape => k_is)
    (case a_need_shape => k_is)
    (case l_need_shape => k_is)
    (case p_need_shape => k_is)
    (case k_need_shape => k_is)
    (case a_part_at => k_is)
    (case l_part_at => k_is)
    (case p_part_at => k_is)
    (case k_part_at => k_is)
    (case a_letter_at => k_is)
    (case l_letter_at => k_is)
    (case p_letter_at => k_is)
    (case k_letter_at => k_is)
    (case a_lies_in => k_is)
    (case l_lies_in => k_is)
    (case p_lies_in => k_is)
    (case k_lies_in => k_is)
    (case a_may_stand => k_is)
    (case l_may_stand => k_is)
    (case p_may_stand => k_is)
    (case k_may_stand => k_is)
    (case a_counted => k_is)
    (case l_counted => k_is)
    (case p_counted => k_is)
    (case k_counted => k_is)
    (case a_filled => k_is)
    (case l_filled => k_is)
    (case p_filled => k_is)
    (case k_filled => k_is)
    (case a_lattice_boxes_1 => k_is)
    (case l_lattice_boxes_1 => k_is)
    (case p_lattice_boxes_1 => k_is)
    (case k_lattice_boxes_1 => k_is)
    (case a_law_cell_at => k_is)
    (case l_law_cell_at => k_is)
    (case p_law_cell_at => k_is)
    (case k_law_cell_at => k_is)
    (case a_law_mixed => k_is)
    (case l_law_mixed => k_is)
    (case p_law_mixed => k_is)
    (case k_law_mixed => k_is)
    (case a_law_perm => k_is)
    (case l_law_perm => k_is)
    (case p_law_perm => k_is)
    (case k_law_perm => k_is)
    (case a_law_put => k_is)
    (case l_law_put => k_is)
    (case p_law_put => k_is)
    (case k_law_put => k_is)
    (case a_law_box_2 => k_is)
    (case l_law_box_2 => k_is)
    (case p_law_box_2 => k_is)
    (case k_law_box_2 => k_is)
    (case a_law_reading => k_is)
    (case l_law_reading => k_is)
    (case p_law_reading => k_is)
    (case k_law_reading => k_is)
    (case a_law_lengths => k_is)
    (case l_law_lengths => k_is)
    (case p_law_lengths => k_is)
    (case k_law_lengths => k_is)
    (case a_law_exact => k_is)
    (case l_law_exact => k_is)
    (case p_law_exact => k_is)
    (case k_law_exact => k_is)
    (case a_law_fillings => k_is)
    (case l_law_fillings => k_is)
    (case p_law_fillings => k_is)
    (case k_law_fillings => k_is)
    (case a_law_choices => k_is)
    (case l_law_choices => k_is)
    (case p_law_choices => k_is)
    (case k_law_choices => k_is)
    (case a_law_22 => k_is)
    (case l_law_22 => k_is)
    (case p_law_22 => k_is)
    (case k_law_22 => k_is)
