import PyProof.Rows.All
import Wide.All
import OpenK.AllK
import Wide.FinOn
import HandS.ForMost
import HandS.ForExc
import HandS.Wide
import HandS.WideBits
import HandS.IsInst
import HandS.Deep
import HandS.Conv
import HandS.SortRule
import HandS.SortInts
import HandS.Rev
import HandS.RevRange
import HandS.TupMul
import HandS.Defaults
import HandS.Style
import HandS.Codes
import HandS.ClsMeth
import HandS.Head0
import HandS.Head1
import HandS.Head2
import HandS.HeadEnd
import HandS.HeadHook1
import HandS.HeadHook2
import PySem.Challenge.RW_huefall_k79_counts_sum_to_pairs
set_option Elab.async false
set_option linter.all false
set_option maxRecDepth 100000
set_option maxHeartbeats 2000000
/-! Mini: plain data in the abstract heap; a reading computes a mirror. -/
namespace HF
open PySem PySem.Spec L2
open PyProof.Rows hiding St

/-! ### data and how the heap holds them -/
structure Ty (α : Type) where
  rep : α → V → Hp → Prop
  mono : ∀ {a : α} {v : V} {S S' : Hp}, Same S S' → rep a v S → rep a v S'

def Rl {α : Type} (T : Ty α) (S : Hp) (xs : List α) (vs : List V) : Prop := Paired (fun x v => T.rep x v S) xs vs
theorem Rl.mono {α : Type} {T : Ty α} {S S' : Hp} {xs : List α} {vs : List V} (h : Same S S') (r : Rl T S xs vs) : Rl T S' xs vs :=
  Paired.mapP r fun _ _ q => T.mono h q
theorem Rl.length {α : Type} {T : Ty α} {S : Hp} {xs : List α} {vs : List V} (r : Rl T S xs vs) : xs.length = vs.length := Paired.length r
theorem Rl.get {α : Type} {T : Ty α} {S : Hp} : ∀ {xs : List α} {vs : List V} {i : Nat} {x : α}, Rl T S xs vs → xs[i]? = some x → ∃ v, vs[i]? = some v ∧ T.rep x v S
  | _, _, _, _, .nil, e => by simp at e
  | _, _, 0, _, .cons r _, e => by simp at e; subst e; exact ⟨_, rfl, r⟩
  | _, _, i + 1, x, .cons _ t, e => by
    obtain ⟨u, h1, h2⟩ := Rl.get (i := i) (x := x) t (by simpa using e)
    exact ⟨u, by simpa using h1, h2⟩
theorem Rl.getV {α : Type} {T : Ty α} {S : Hp} : ∀ {xs : List α} {vs : List V} {i : Nat} {v : V}, Rl T S xs vs → vs[i]? = some v → ∃ x, xs[i]? = some x ∧ T.rep x v S
  | _, _, _, _, .nil, e => by simp at e
  | _, _, 0, _, .cons r _, e => by simp at e; subst e; exact ⟨_, rfl, r⟩
  | _, _, i + 1, v, .cons _ t, e => by
    obtain ⟨u, h1, h2⟩ := Rl.getV (i := i) (v := v) t (by simpa using e)
    exact ⟨u, by simpa using h1, h2⟩
theorem Rl.append {α : Type} {T : Ty α} {S : Hp} : ∀ {xs ys : List α} {vs ws : List V}, Rl T S xs vs → Rl T S ys ws → Rl T S (xs ++ ys) (vs ++ ws)
  | _, _, _, _, .nil, s => s
  | _, _, _, _, .cons r t, s => .cons r (Rl.append t s)
theorem Rl.one {α : Type} {T : Ty α} {S : Hp} {x : α} {v : V} (h : T.rep x v S) : Rl T S [x] [v] := .cons h .nil
theorem Rl.take {α : Type} {T : Ty α} {S : Hp} : ∀ {xs : List α} {vs : List V} (n : Nat), Rl T S xs vs → Rl T S (xs.take n) (vs.take n)
  | _, _, 0, _ => .nil
  | _, _, _ + 1, .nil => .nil
  | _, _, n + 1, .cons r t => .cons r (Rl.take n t)
theorem Rl.drop {α : Type} {T : Ty α} {S : Hp} : ∀ {xs : List α} {vs : List V} (n : Nat), Rl T S xs vs → Rl T S (xs.drop n) (vs.drop n)
  | _, _, 0, r => r
  | _, _, _ + 1, .nil => .nil
  | _, _, n + 1, .cons _ t => Rl.drop n t
theorem Rl.set {α : Type} {T : Ty α} {S : Hp} {x : α} {v : V} (h : T.rep x v S) : ∀ {xs : List α} {vs : List V} (n : Nat), Rl T S xs vs → Rl T S (xs.set n x) (vs.set n v)
  | _, _, _, .nil => .nil
  | _, _, 0, .cons _ t => .cons h t
  | _, _, n + 1, .cons r t => .cons r (Rl.set h n t)
theorem Rl.eraseIdx {α : Type} {T : Ty α} {S : Hp} : ∀ {xs : List α} {vs : List V} (n : Nat), Rl T S xs vs → Rl T S (xs.eraseIdx n) (vs.eraseIdx n)
  | _, _, _, .nil => .nil
  | _, _, 0, .cons _ t => t
  | _, _, n + 1, .cons r t => .cons r (Rl.eraseIdx n t)
theorem Rl.reverse {α : Type} {T : Ty α} {S : Hp} {xs : List α} {vs : List V} (r : Rl T S xs vs) : Rl T S xs.reverse vs.reverse := by
  induction r with
  | nil => exact .nil
  | cons h t ih => simp only [List.reverse_cons]; exact Rl.append ih (.cons h .nil)

def tInt : Ty Int := ⟨fun i v _ => v = .int i, fun _ h => h⟩
def tBool : Ty Bool := ⟨fun b v _ => v = .bl b, fun _ h => h⟩
def tUnit : Ty Unit := ⟨fun _ v _ => v = .non, fun _ h => h⟩
def tStr : Ty Str := ⟨fun z v _ => v = .str z, fun _ h => h⟩
/-- a list that never changes again -/
def tL {α : Type} (T : Ty α) : Ty (List α) := ⟨fun xs v S => ∃ p vs, v = .ref p ∧ S p = some (.lst vs) ∧ Rl T S xs vs, fun h ⟨p, vs, e, g, r⟩ => ⟨p, vs, e, h _ _ g, r.mono h⟩⟩
/-- a tuple of any length, its items of one kind -/
def tT {α : Type} (T : Ty α) : Ty (List α) := ⟨fun xs v S => ∃ p vs, v = .ref p ∧ S p = some (.tup vs) ∧ Rl T S xs vs, fun h ⟨p, vs, e, g, r⟩ => ⟨p, vs, e, h _ _ g, r.mono h⟩⟩
/-- None or a value that is not None -/
def tO {α : Type} (T : Ty α) : Ty (Option α) := ⟨fun o v S => match o with
  | none => v = .non
  | some a => T.rep a v S ∧ v ≠ .non, fun {o _ _ _} h q => match o, q with
  | none, q => q
  | some _, q => ⟨T.mono h q.1, q.2⟩⟩
def tP {α β : Type} (T : Ty α) (U : Ty β) : Ty (α × β) := ⟨fun a v S => ∃ p x y, v = .ref p ∧ S p = some (.tup [x, y]) ∧ T.rep a.1 x S ∧ U.rep a.2 y S,
  fun h ⟨p, x, y, e, g, r1, r2⟩ => ⟨p, x, y, e, h _ _ g, T.mono h r1, U.mono h r2⟩⟩
/-- argument lists, records -/
structure TyA (α : Type) where
  rep : α → List V → Hp → Prop
  mono : ∀ {a : α} {vs : List V} {S S' : Hp}, Same S S' → rep a vs S → rep a vs S'
def TyA.nil : TyA Unit := ⟨fun _ vs _ => vs = [], fun _ h => h⟩
def TyA.one {α : Type} (T : Ty α) : TyA α := ⟨fun a vs S => ∃ v, vs = [v] ∧ T.rep a v S, fun h ⟨v, e, r⟩ => ⟨v, e, T.mono h r⟩⟩
def TyA.c {α β : Type} (T : Ty α) (A : TyA β) : TyA (α × β) := ⟨fun a vs S => ∃ v ws, vs = v :: ws ∧ T.rep a.1 v S ∧ A.rep a.2 ws S, fun h ⟨v, ws, e, r, q⟩ => ⟨v, ws, e, T.mono h r, A.mono h q⟩⟩
/-- a tuple with fixed places -/
def tTupA {α : Type} (A : TyA α) : Ty α := ⟨fun a v S => ∃ p vs, v = .ref p ∧ S p = some (.tup vs) ∧ A.rep a vs S, fun h ⟨p, vs, e, g, r⟩ => ⟨p, vs, e, h _ _ g, A.mono h r⟩⟩
/-- a list with fixed places that never changes again -/
def tLstA {α : Type} (A : TyA α) : Ty α := ⟨fun a v S => ∃ p vs, v = .ref p ∧ S p = some (.lst vs) ∧ A.rep a vs S, fun h ⟨p, vs, e, g, r⟩ => ⟨p, vs, e, h _ _ g, A.mono h r⟩⟩

/-! ### what is known: facts that stay -/
structure Fact where
  P : Hp → Prop
  mono : ∀ {S S' : Hp}, Same S S' → P S → P S'
def Ty.f {α : Type} (T : Ty α) (a : α) (v : V) : Fact := ⟨T.rep a v, fun h => T.mono h⟩
def TyA.f {α : Type} (T : TyA α) (a : α) (vs : List V) : Fact := ⟨T.rep a vs, fun h => T.mono h⟩
/-- since S0 -/
def fS (S0 : Hp) : Fact := ⟨Same S0, fun h q => q.trans h⟩
def Okc : List Fact → Hp → Prop
  | [], _ => True
  | f :: G, S => f.P S ∧ Okc G S
theorem Okc.mono : ∀ {G : List Fact} {S S' : Hp}, Same S S' → Okc G S → Okc G S'
  | [], _, _, _, _ => True.intro
  | f :: _, _, _, h, q => ⟨f.mono h q.1, Okc.mono h q.2⟩
theorem Okc.at : ∀ {G : List Fact} {S : Hp} (i : Nat) {f : Fact}, G[i]? = some f → Okc G S → f.P S
  | [], _, _, _, e, _ => by simp at e
  | _ :: _, _, 0, _, e, q => by simp at e; subst e; exact q.1
  | _ :: _, _, i + 1, f, e, q => Okc.at i (f := f) (by simpa using e) q.2
theorem Okc.append : ∀ {G G' : List Fact} {S : Hp}, Okc G S → Okc G' S → Okc (G ++ G') S
  | [], _, _, _, q => q
  | _ :: _, _, _, h, q => ⟨h.1, Okc.append h.2 q⟩

/-! ### the stable part S and the owned cells of the heap H -/
abbrev Cell := Addr × HO
structure Wd0 (S : Hp) (L : List Cell) (H : Hp) : Prop where
  st : Same S H
  ow : ∀ p o, (p, o) ∈ L → H p = some o ∧ S p = none
  nd : (L.map (·.1)).Nodup
theorem same_upd {S : Hp} {p : Addr} {o : HO} (h : S p = none) : Same S (upd S p o) := fun b u e => by
  rw [upd_ne (fun z => by subst z; rw [h] at e; cases e)]; exact e
section
variable {S H : Hp} {L L' : List Cell} {p : Addr} {o o' : HO}
theorem Wd0.sn (W : Wd0 S L H) (h : H p = none) : S p = none := W.st.free h
theorem Wd0.notIn (W : Wd0 S L H) (h : H p = none) : p ∉ L.map (·.1) := fun m => by
  obtain ⟨⟨q, u⟩, hm, e⟩ := List.mem_map.mp m
  cases e
  rw [(W.ow _ _ hm).1] at h; cases h
/-- a new object, for ever -/
theorem Wd0.new (W : Wd0 S L H) (h : H p = none) : Wd0 (upd S p o) L (upd H p o) := by
  refine ⟨fun b u e => ?_, fun q u m => ?_, W.nd⟩
  · by_cases hb : b = p
    · subst hb; rw [upd_same] at e ⊢; exact e
    · rw [upd_ne hb] at e ⊢; exact W.st b u e
  · have hq : q ≠ p := fun z => W.notIn h (List.mem_map.mpr ⟨(q, u), m, z⟩)
    rw [upd_ne hq, upd_ne hq]; exact W.ow q u m
/-- a new object of one's own -/
theorem Wd0.newO (W : Wd0 S L H) (h : H p = none) : Wd0 S ((p, o) :: L) (upd H p o) := by
  refine ⟨fun b u e => ?_, fun q u m => ?_, ?_⟩
  · rw [upd_ne (fun z => by subst z; rw [W.sn h] at e; cases e)]; exact W.st b u e
  · rcases List.mem_cons.mp m with e | m
    · cases e; exact ⟨upd_same, W.sn h⟩
    · have hq : q ≠ p := fun z => W.notIn h (List.mem_map.mpr ⟨(q, u), m, z⟩)
      rw [upd_ne hq]; exact W.ow q u m
  · exact List.nodup_cons.mpr ⟨W.notIn h, W.nd⟩
theorem Wd0.perm (W : Wd0 S L H) (h : L.Perm L') : Wd0 S L' H := ⟨W.st, fun q u m => W.ow q u (h.mem_iff.mpr m), (h.map _).nodup_iff.mp W.nd⟩
theorem Wd0.sub (W : Wd0 S L H) (h : L'.Sublist L) : Wd0 S L' H := ⟨W.st, fun q u m => W.ow q u (h.subset m), (h.map _).nodup W.nd⟩
theorem Wd0.hd (W : Wd0 S ((p, o) :: L) H) : H p = some o := (W.ow p o (List.mem_cons_self ..)).1
theorem Wd0.sfree (W : Wd0 S ((p, o) :: L) H) : S p = none := (W.ow p o (List.mem_cons_self ..)).2
/-- from now on it stays -/
theorem Wd0.freeze (W : Wd0 S ((p, o) :: L) H) : Wd0 (upd S p o) L H := by
  refine ⟨fun b u e => ?_, fun q u m => ?_, (List.nodup_cons.mp W.nd).2⟩
  · by_cases hb : b = p
    · subst hb; rw [upd_same] at e; cases e; exact W.hd
    · rw [upd_ne hb] at e; exact W.st b u e
  · have hq : q ≠ p := fun z => (List.nodup_cons.mp W.nd).1 (List.mem_map.mpr ⟨(q, u), m, z⟩)
    rw [upd_ne hq]; exact W.ow q u (List.mem_cons_of_mem _ m)
/-- an owned cell is written -/
theorem Wd0.put0 (W : Wd0 S ((p, o) :: L) H) (o' : HO) : Wd0 S ((p, o') :: L) (upd H p o') := by
  refine ⟨fun b u e => ?_, fun q u m => ?_, W.nd⟩
  · rw [upd_ne (fun z => by subst z; rw [W.sfree] at e; cases e)]; exact W.st b u e
  · rcases List.mem_cons.mp m with e | m
    · cases e; exact ⟨upd_same, W.sfree⟩
    · have hq : q ≠ p := fun z => (List.nodup_cons.mp W.nd).1 (List.mem_map.mpr ⟨(q, u), m, z⟩)
      rw [upd_ne hq]; exact W.ow q u (List.mem_cons_of_mem _ m)
end
theorem sub_flat {α : Type} : ∀ {O O' : List (List α)}, O.Sublist O' → O.flatten.Sublist O'.flatten
  | _, _, .slnil => List.Sublist.refl _
  | _, _, .cons a h => by rw [List.flatten_cons]; exact (sub_flat h).trans (List.sublist_append_right _ _)
  | _, _, .cons_cons a h => by rw [List.flatten_cons, List.flatten_cons]; exact (List.Sublist.refl a).append (sub_flat h)
/-- the owned cells, an object a group -/
abbrev Ow := List (List Cell)
def Wd (S : Hp) (O : Ow) (H : Hp) : Prop := Wd0 S O.flatten H
theorem perm_erase {α : Type} : ∀ {O : List α} {i : Nat} {c : α}, O[i]? = some c → O.Perm (c :: O.eraseIdx i)
  | [], _, _, h => by simp at h
  | d :: O, 0, c, h => by simp at h; subst h; exact List.Perm.refl _
  | d :: O, i + 1, c, h => by
    have q := perm_erase (O := O) (i := i) (c := c) (by simpa using h)
    exact (q.cons d).trans (List.Perm.swap ..)
theorem erase_set {α : Type} : ∀ {O : List α} {i : Nat} {d : α}, (O.set i d).eraseIdx i = O.eraseIdx i
  | [], _, _ => rfl
  | _ :: _, 0, _ => rfl
  | c :: O, i + 1, d => congrArg (c :: ·) (erase_set (O := O) (i := i) (d := d))
theorem perm_front {O F : Ow} {i : Nat} {c : List Cell} (h : O[i]? = some c) : (O ++ F).Perm (c :: (O.eraseIdx i ++ F)) := (perm_erase h).append_right F
theorem perm_set {O : Ow} {i : Nat} {c d : List Cell} (h : O[i]? = some c) (F : Ow) : (d :: (O.eraseIdx i ++ F)).Perm (O.set i d ++ F) := by
  obtain ⟨hi, _⟩ := List.getElem?_eq_some_iff.mp h
  have h2 : (O.set i d)[i]? = some d := by rw [List.getElem?_set_self hi]
  have h3 := perm_erase h2
  rw [erase_set] at h3
  exact h3.symm.append_right F
section
variable {S H H' : Hp} {O O' F : Ow} {p : Addr} {o o' : HO} {c c' : List Cell}
theorem Wd.st (W : Wd S O H) : Same S H := Wd0.st W
theorem Wd.sn (W : Wd S O H) (h : H p = none) : S p = none := W.st.free h
theorem Wd.new (W : Wd S O H) (h : H p = none) : Wd (upd S p o) O (upd H p o) := Wd0.new W h
theorem Wd.newO (W : Wd S O H) (h : H p = none) : Wd S ([(p, o)] :: O) (upd H p o) := Wd0.newO W h
theorem Wd.perm (W : Wd S O H) (h : O.Perm O') : Wd S O' H := Wd0.perm W h.flatten
theorem Wd.sub (W : Wd S O H) (h : O'.Sublist O) : Wd S O' H := Wd0.sub W (sub_flat h)
theorem Wd.tail (W : Wd S (c :: O) H) : Wd S O H := W.sub (List.sublist_cons_self _ _)
theorem Wd.mem (W : Wd S O H) (m : c ∈ O) (h : (p, o) ∈ c) : H p = some o := (Wd0.ow W p o (List.mem_flatten.mpr ⟨c, m, h⟩)).1
theorem Wd.hd1 (W : Wd S ([(p, o)] :: O) H) : H p = some o := W.mem (List.mem_cons_self ..) (List.mem_cons_self ..)
/-- a group is written -/
theorem Wd.putG (W : Wd S (c :: O) H) (hk : c'.map (·.1) = c.map (·.1)) (hn : ∀ a o, (a, o) ∈ c' → H' a = some o) (ho : ∀ a, a ∉ c.map (·.1) → H' a = H a) : Wd S (c' :: O) H' := by
  have nd := Wd0.nd W
  simp only [List.flatten_cons, List.map_append] at nd
  obtain ⟨nd1, nd2, nd3⟩ := List.nodup_append.mp nd
  have free : ∀ a, a ∈ c.map (·.1) → S a = none := fun a m => by
    obtain ⟨⟨q, u⟩, hm, e⟩ := List.mem_map.mp m
    cases e
    exact (Wd0.ow W q u (List.mem_flatten.mpr ⟨c, List.mem_cons_self .., hm⟩)).2
  refine ⟨fun b u e => ?_, fun q u m => ?_, ?_⟩
  · rw [ho b fun z => by rw [free b z] at e; cases e]
    exact W.st b u e
  · rw [List.flatten_cons] at m
    rcases List.mem_append.mp m with m | m
    · refine ⟨hn q u m, free q ?_⟩
      rw [← hk]
      exact List.mem_map.mpr ⟨_, m, rfl⟩
    · have hq : q ∉ c.map (·.1) := fun z => nd3 q z q (List.mem_map.mpr ⟨_, m, rfl⟩) rfl
      rw [ho q hq]
      exact Wd0.ow W q u (by rw [List.flatten_cons]; exact List.mem_append_right _ m)
  · simp only [List.flatten_cons, List.map_append]
    rw [hk]
    exact nd
theorem Wd.put1 (W : Wd S ([(p, o)] :: O) H) (o' : HO) : Wd S ([(p, o')] :: O) (upd H p o') := Wd0.put0 W o'
/-- a group stays from now on -/
def addG (S : Hp) : List Cell → Hp
  | [] => S
  | c :: r => addG (upd S c.1 c.2) r
theorem addG_same : ∀ {c : List Cell} {S : Hp} {L : List Cell}, Wd0 S (c ++ L) H → Same S (addG S c) ∧ Wd0 (addG S c) L H ∧ ∀ a o, (a, o) ∈ c → addG S c a = some o
  | [], S, L, W => ⟨Same.refl _, W, fun _ _ m => by cases m⟩
  | (p, o) :: c, S, L, W => by
    obtain ⟨h1, h2, h3⟩ := addG_same (c := c) (S := upd S p o) (L := L) (Wd0.freeze W)
    refine ⟨(same_upd (Wd0.sfree W)).trans h1, h2, fun a u m => ?_⟩
    rcases List.mem_cons.mp m with e | m
    · cases e; exact h1 _ _ upd_same
    · exact h3 a u m
theorem Wd.frzG (W : Wd S (c :: O) H) : Same S (addG S c) ∧ Wd (addG S c) O H ∧ ∀ a o, (a, o) ∈ c → addG S c a = some o := addG_same W
theorem Wd.at (W : Wd S (O ++ F) H) {i : Nat} (h : O[i]? = some c) : ∀ a o, (a, o) ∈ c → H a = some o := fun a o m => W.mem (List.mem_append_left _ (List.mem_of_getElem? h)) m
theorem Wd.at1 (W : Wd S (O ++ F) H) {i : Nat} (h : O[i]? = some [(p, o)]) : H p = some o := W.at h p o (List.mem_cons_self ..)
theorem Wd.put (W : Wd S (O ++ F) H) (i : Nat) (h : O[i]? = some [(p, o)]) (o' : HO) : Wd S (O.set i [(p, o')] ++ F) (upd H p o') :=
  ((W.perm (perm_front h)).put1 o').perm (perm_set h F)
theorem Wd.frz (W : Wd S (O ++ F) H) (i : Nat) (h : O[i]? = some c) : Same S (addG S c) ∧ Wd (addG S c) (O.eraseIdx i ++ F) H ∧ ∀ a o, (a, o) ∈ c → addG S c a = some o := (W.perm (perm_front h)).frzG
end
/-! ### objects of one's own, that may change -/
structure OTy (γ : Type) where
  rep : γ → Addr → List Cell → Hp → Prop
  mono : ∀ {g : γ} {p : Addr} {c : List Cell} {S S' : Hp}, Same S S' → rep g p c S → rep g p c S'
def OTy.f {γ : Type} (T : OTy γ) (g : γ) (p : Addr) (c : List Cell) : Fact := ⟨T.rep g p c, fun h => T.mono h⟩
def oL {α : Type} (T : Ty α) : OTy (List α) := ⟨fun xs p c S => ∃ vs, c = [(p, .lst vs)] ∧ Rl T S xs vs, fun h ⟨vs, e, r⟩ => ⟨vs, e, r.mono h⟩⟩
/-- an owned object that is only looked at -/
def tOwn {γ : Type} (O : Ow) (OT : OTy γ) : Ty γ := ⟨fun g v S => ∃ p c, v = .ref p ∧ c ∈ O ∧ OT.rep g p c S, fun h ⟨p, c, e, m, r⟩ => ⟨p, c, e, m, OT.mono h r⟩⟩
/-- frozen, such an object is data -/
def Frz {γ : Type} (OT : OTy γ) (T : Ty γ) : Prop := ∀ g p c S, OT.rep g p c S → (∀ a o, (a, o) ∈ c → S a = some o) → T.rep g (.ref p) S
theorem frz_L {α : Type} {T : Ty α} : Frz (oL T) (tL T) := fun g p c S ⟨vs, e, r⟩ h => ⟨p, vs, rfl, h _ _ (by rw [e]; exact List.mem_cons_self ..), r⟩
/-- what is read as such an object -/
class Lk {γ : Type} (O : Ow) (OT : outParam (OTy γ)) (TL : Ty γ) : Prop where
  lk : ∀ g v S, TL.rep g v S → ∃ p c, v = .ref p ∧ OT.rep g p c S ∧ ∀ H F, Wd S (O ++ F) H → ∀ a o, (a, o) ∈ c → H a = some o
instance {α : Type} {O : Ow} {T : Ty α} : Lk O (oL T) (tL T) := ⟨fun _ _ _ ⟨p, vs, e, h, r⟩ => ⟨p, _, e, ⟨vs, rfl, r⟩, fun _ _ w a o m => by
  obtain ⟨rfl, rfl⟩ : a = p ∧ o = .lst vs := by simpa using m
  exact w.st _ _ h⟩⟩
instance {γ : Type} {O : Ow} {OT : OTy γ} : Lk O OT (tOwn O OT) := ⟨fun _ _ _ ⟨p, c, e, m, r⟩ => ⟨p, c, e, r, fun _ _ w a o h => w.mem (List.mem_append_left _ m) h⟩⟩
theorem lkL {α : Type} {O : Ow} {T : Ty α} {TL : Ty (List α)} [Lk O (oL T) TL] {xs : List α} {v : V} {S : Hp} (h : TL.rep xs v S) : ∃ p vs, v = .ref p ∧ Rl T S xs vs ∧ ∀ H F, Wd S (O ++ F) H → H p = some (.lst vs) := by
  obtain ⟨p, c, e, ⟨vs, rfl, r⟩, k⟩ := Lk.lk (O := O) xs v S h
  exact ⟨p, vs, e, r, fun H F w => k H F w _ _ (List.mem_cons_self ..)⟩

/-! ### a reading computes a mirror (nothing owned changes) -/
section
variable {α β γ : Type}
def Sim (G : List Fact) (O : Ow) (t : TE) (σ : St) (m : Option α) (T : Ty α) : Prop :=
  ∀ (S H : Hp) (F : Ow) (r : α), Okc G S → Wd S (O ++ F) H → m = some r → ∀ Q : VK, (∀ v S' H', Same S S' → Wd S' (O ++ F) H' → T.rep r v S' → Q v H') → t σ H Q
def SimT (G : List Fact) (O : Ow) (t : TT) (σ : St) (m : Option Bool) : Prop :=
  ∀ (S H : Hp) (F : Ow) (r : Bool), Okc G S → Wd S (O ++ F) H → m = some r → ∀ Q : Bool → Hp → Prop, (∀ S' H', Same S S' → Wd S' (O ++ F) H' → Q r H') → t σ H Q
def SimA (G : List Fact) (O : Ow) (t : TA) (σ : St) (m : Option α) (A : TyA α) : Prop :=
  ∀ (S H : Hp) (F : Ow) (r : α), Okc G S → Wd S (O ++ F) H → m = some r → ∀ Q : List V → Hp → Prop, (∀ vs S' H', Same S S' → Wd S' (O ++ F) H' → A.rep r vs S' → Q vs H') → t σ H Q
/-- a fresh object comes out, owned -/
def SimF (G : List Fact) (O : Ow) (t : TE) (σ : St) (m : Option α) (T : OTy α) : Prop :=
  ∀ (S H : Hp) (F : Ow) (r : α), Okc G S → Wd S (O ++ F) H → m = some r → ∀ Q : VK, (∀ p c S' H', Same S S' → Wd S' (c :: (O ++ F)) H' → T.rep r p c S' → Q (.ref p) H') → t σ H Q
variable {G : List Fact} {O : Ow} {σ : St} {T : Ty α} {U : Ty β} {W : Ty γ}
theorem bind_some {m : Option α} {k : α → Option β} {r : β} (h : m.bind k = some r) : ∃ a, m = some a ∧ k a = some r := Option.bind_eq_some_iff.mp h
/-- a fresh object, frozen at once -/
theorem SimF.frz {OT : OTy α} {t : TE} {m : Option α} (fr : Frz OT T) (h : SimF G O t σ m OT) : Sim G O t σ m T := fun S H F r hG w hm Q k =>
  h S H F r hG w hm Q fun p c S' H' s w' q => by
    obtain ⟨h1, h2, h3⟩ := w'.frzG
    exact k _ (addG S' c) H' (s.trans h1) h2 (fr _ _ _ _ (OT.mono h1 q) h3)
theorem SimF.sim {t : TE} {m : Option (List α)} (h : SimF G O t σ m (oL T)) : Sim G O t σ m (tL T) := h.frz frz_L
/-- a value that was come to -/
theorem sim_K {v : V} {x : α} (j : Nat) (hf : G[j]? = some (T.f x v)) : Sim G O (tC v) σ (some x) T := fun S H F r hG w hm Q k => by
  cases hm
  exact k v S H (Same.refl _) w (Okc.at j hf hG)
theorem sim_own {OT : OTy α} {p : Addr} {c : List Cell} {g : α} {i : Nat} (o j : Nat) (hs : σ[i]? = some (some (.ref p))) (ho : O[o]? = some c) (hf : G[j]? = some (OT.f g p c)) : Sim G O (tVar i) σ (some g) (tOwn O OT) := fun S H F r hG w hm Q k => by
  cases hm
  exact ⟨.ref p, hs, k _ S H (Same.refl _) w ⟨p, c, rfl, List.mem_of_getElem? ho, Okc.at j hf hG⟩⟩
theorem sim_var {v : V} {x : α} {i : Nat} (j : Nat) (hs : σ[i]? = some (some v)) (hf : G[j]? = some (T.f x v)) : Sim G O (tVar i) σ (some x) T := fun S H F r hG w hm Q k => by
  cases hm
  exact ⟨v, hs, k v S H (Same.refl _) w (Okc.at j hf hG)⟩
theorem sim_int {i : Int} : Sim G O (tC (.int i)) σ (some i) tInt := fun S H F r hG w hm Q k => by cases hm; exact k _ S H (Same.refl _) w rfl
theorem sim_bl {i : Bool} : Sim G O (tC (.bl i)) σ (some i) tBool := fun S H F r hG w hm Q k => by cases hm; exact k _ S H (Same.refl _) w rfl
theorem sim_str {i : Str} : Sim G O (tC (.str i)) σ (some i) tStr := fun S H F r hG w hm Q k => by cases hm; exact k _ S H (Same.refl _) w rfl
theorem sim_non : Sim G O (tC .non) σ (some ()) tUnit := fun S H F r hG w hm Q k => by cases hm; exact k _ S H (Same.refl _) w rfl
theorem sim_nonO : Sim G O (tC .non) σ (some (none : Option α)) (tO T) := fun S H F r hG w hm Q k => by cases hm; exact k _ S H (Same.refl _) w rfl
theorem sim_imp {t : TE} {m : Option α} {f : α → β} (h : Sim G O t σ m T) (i : ∀ a v S, T.rep a v S → U.rep (f a) v S) : Sim G O t σ (m.bind fun a => some (f a)) U := fun S H F r hG w hm Q k => by
  obtain ⟨a, h1, h2⟩ := bind_some hm
  cases h2
  exact h S H F a hG w h1 Q fun v S' H' s w' q => k v S' H' s w' (i _ _ _ q)
/-- two operands -/
theorem sim_op2 {r : R2} {ta tb : TE} {ma : Option α} {mb : Option β} {f : α → β → Option γ}
    (hr : ∀ a b c x y S H F, T.rep a x S → U.rep b y S → Wd S (O ++ F) H → f a b = some c → ∀ Q : VK, (∀ v S' H', Same S S' → Wd S' (O ++ F) H' → W.rep c v S' → Q v H') → r x y H Q)
    (ha : Sim G O ta σ ma T) (hb : Sim G O tb σ mb U) : Sim G O (tOp r ta tb) σ (ma.bind fun a => mb.bind fun b => f a b) W := fun S H F c hG w hm Q k => by
  obtain ⟨a, h1, hm⟩ := bind_some hm
  obtain ⟨b, h2, hm⟩ := bind_some hm
  refine ha S H F a hG w h1 _ fun x S1 H1 s1 w1 q1 => ?_
  refine hb S1 H1 F b (hG.mono s1) w1 h2 _ fun y S2 H2 s2 w2 q2 => ?_
  exact hr a b c x y S2 H2 F (T.mono s2 q1) q2 w2 hm Q fun v S3 H3 s3 w3 q3 => k v S3 H3 ((s1.trans s2).trans s3) w3 q3
theorem sim_rI0 {g : Int → Int → V} {f : Int → Int → γ} {ta tb : TE} {ma mb : Option Int} (hg : ∀ i j S, W.rep (f i j) (g i j) S)
    (ha : Sim G O ta σ ma tInt) (hb : Sim G O tb σ mb tInt) : Sim G O (tOp (rI0 g) ta tb) σ (ma.bind fun a => mb.bind fun b => some (f a b)) W :=
  sim_op2 (fun a b c x y S H F h1 h2 w e Q k => by cases e; exact ⟨a, b, h1, h2, k _ S H (Same.refl _) w (hg _ _ _)⟩) ha hb
theorem sim_rI {C : Int → Int → Prop} {g : Int → Int → V} {f : Int → Int → Option γ} {ta tb : TE} {ma mb : Option Int} (hg : ∀ i j c, f i j = some c → C i j ∧ ∀ S, W.rep c (g i j) S)
    (ha : Sim G O ta σ ma tInt) (hb : Sim G O tb σ mb tInt) : Sim G O (tOp (rI C g) ta tb) σ (ma.bind fun a => mb.bind fun b => f a b) W :=
  sim_op2 (fun a b c x y S H F h1 h2 w e Q k => ⟨a, b, h1, h2, (hg a b c e).1, k _ S H (Same.refl _) w ((hg a b c e).2 S)⟩) ha hb
end

/-! ### the operations on ints that ask something -/
def wide (i : Int) : Prop := i.natAbs < 2 ^ 4000
instance (i : Int) : Decidable (wide i) := inferInstanceAs (Decidable (_ < _))
def x_mul (i j : Int) : Option Int := if wide i ∧ wide j then some (i * j) else none
def x_mulS (i j : Int) : Option Int := if (-(2 ^ 64) < i ∧ i < 2 ^ 64) ∨ (-(2 ^ 64) < j ∧ j < 2 ^ 64) then some (i * j) else none
def x_div (i j : Int) : Option Int := if 0 < j ∧ j < 1073741824 then some (i / j) else none
def x_mod (i j : Int) : Option Int := if 0 < j then some (i % j) else none
def x_shl (i j : Int) : Option Int := if 0 ≤ j ∧ j ≤ 1000000 ∧ i.natAbs < 2 ^ 64 then some (i * 2 ^ j.toNat) else none
def x_shr (i j : Int) : Option Int := if 0 ≤ j then some (i / 2 ^ j.toNat) else none
def x_pow (i j : Int) : Option Int := if 0 ≤ j ∧ j ≤ 1000000 ∧ i.natAbs < 2 ^ 64 then some (i ^ j.toNat) else none
theorem of_if {α : Type} {c : Prop} [Decidable c] {x y : α} (h : (if c then some x else none) = some y) : c ∧ x = y := by
  split at h
  · exact ⟨by assumption, Option.some.inj h⟩
  · cases h
section
variable {G : List Fact} {O : Ow} {σ : St} {ta tb : TE} {ma mb : Option Int}
theorem sim_add (ha : Sim G O ta σ ma tInt) (hb : Sim G O tb σ mb tInt) : Sim G O (tOp (rI0 fun i j => .int (i + j)) ta tb) σ (ma.bind fun a => mb.bind fun b => some (a + b)) tInt := sim_rI0 (fun _ _ _ => rfl) ha hb
theorem sim_sub (ha : Sim G O ta σ ma tInt) (hb : Sim G O tb σ mb tInt) : Sim G O (tOp (rI0 fun i j => .int (i - j)) ta tb) σ (ma.bind fun a => mb.bind fun b => some (a - b)) tInt := sim_rI0 (fun _ _ _ => rfl) ha hb
theorem sim_and (ha : Sim G O ta σ ma tInt) (hb : Sim G O tb σ mb tInt) : Sim G O (tOp (rI0 fun i j => .int (Builtin.bitAnd i j)) ta tb) σ (ma.bind fun a => mb.bind fun b => some (Builtin.bitAnd a b)) tInt := sim_rI0 (fun _ _ _ => rfl) ha hb
theorem sim_or (ha : Sim G O ta σ ma tInt) (hb : Sim G O tb σ mb tInt) : Sim G O (tOp (rI0 fun i j => .int (Builtin.bitOr i j)) ta tb) σ (ma.bind fun a => mb.bind fun b => some (Builtin.bitOr a b)) tInt := sim_rI0 (fun _ _ _ => rfl) ha hb
theorem sim_mul (ha : Sim G O ta σ ma tInt) (hb : Sim G O tb σ mb tInt) : Sim G O (tOp (rI CMulW fun i j => .int (i * j)) ta tb) σ (ma.bind fun a => mb.bind fun b => x_mul a b) tInt :=
  sim_rI (fun i j c e => by
    obtain ⟨⟨h1, h2⟩, rfl⟩ := of_if e
    exact ⟨wide_mul h1 h2 (by decide) (by decide) (by decide), fun _ => rfl⟩) ha hb
theorem sim_mulS (ha : Sim G O ta σ ma tInt) (hb : Sim G O tb σ mb tInt) : Sim G O (tOp (rI CMul fun i j => .int (i * j)) ta tb) σ (ma.bind fun a => mb.bind fun b => x_mulS a b) tInt :=
  sim_rI (fun i j c e => by
    obtain ⟨h, rfl⟩ := of_if e
    exact ⟨h, fun _ => rfl⟩) ha hb
theorem sim_div (ha : Sim G O ta σ ma tInt) (hb : Sim G O tb σ mb tInt) : Sim G O (tOp (rI CDiv fun i j => .int (i / j)) ta tb) σ (ma.bind fun a => mb.bind fun b => x_div a b) tInt :=
  sim_rI (fun i j c e => by
    obtain ⟨h, rfl⟩ := of_if e
    exact ⟨h, fun _ => rfl⟩) ha hb
theorem sim_mod (ha : Sim G O ta σ ma tInt) (hb : Sim G O tb σ mb tInt) : Sim G O (tOp (rI (fun _ j => 0 < j) fun i j => .int (i % j)) ta tb) σ (ma.bind fun a => mb.bind fun b => x_mod a b) tInt :=
  sim_rI (fun i j c e => by
    obtain ⟨h, rfl⟩ := of_if e
    exact ⟨h, fun _ => rfl⟩) ha hb
theorem sim_shl (ha : Sim G O ta σ ma tInt) (hb : Sim G O tb σ mb tInt) : Sim G O (tOp (rI CPow fun i j => .int (i * 2 ^ j.toNat)) ta tb) σ (ma.bind fun a => mb.bind fun b => x_shl a b) tInt :=
  sim_rI (fun i j c e => by
    obtain ⟨h, rfl⟩ := of_if e
    exact ⟨h, fun _ => rfl⟩) ha hb
theorem sim_shr (ha : Sim G O ta σ ma tInt) (hb : Sim G O tb σ mb tInt) : Sim G O (tOp (rI (fun _ j => 0 ≤ j) fun i j => .int (i / 2 ^ j.toNat)) ta tb) σ (ma.bind fun a => mb.bind fun b => x_shr a b) tInt :=
  sim_rI (fun i j c e => by
    obtain ⟨h, rfl⟩ := of_if e
    exact ⟨h, fun _ => rfl⟩) ha hb
theorem sim_pow (ha : Sim G O ta σ ma tInt) (hb : Sim G O tb σ mb tInt) : Sim G O (tOp (rI CPow fun i j => .int (i ^ j.toNat)) ta tb) σ (ma.bind fun a => mb.bind fun b => x_pow a b) tInt :=
  sim_rI (fun i j c e => by
    obtain ⟨h, rfl⟩ := of_if e
    exact ⟨h, fun _ => rfl⟩) ha hb
theorem sim_lt (ha : Sim G O ta σ ma tInt) (hb : Sim G O tb σ mb tInt) : Sim G O (tOp (rI0 fun i j => .bl (decide (i < j))) ta tb) σ (ma.bind fun a => mb.bind fun b => some (decide (a < b))) tBool := sim_rI0 (fun _ _ _ => rfl) ha hb
theorem sim_le (ha : Sim G O ta σ ma tInt) (hb : Sim G O tb σ mb tInt) : Sim G O (tOp (rI0 fun i j => .bl (decide (i ≤ j))) ta tb) σ (ma.bind fun a => mb.bind fun b => some (decide (a ≤ b))) tBool := sim_rI0 (fun _ _ _ => rfl) ha hb
theorem sim_gt (ha : Sim G O ta σ ma tInt) (hb : Sim G O tb σ mb tInt) : Sim G O (tOp (rI0 fun i j => .bl (decide (j < i))) ta tb) σ (ma.bind fun a => mb.bind fun b => some (decide (b < a))) tBool := sim_rI0 (fun _ _ _ => rfl) ha hb
theorem sim_ge (ha : Sim G O ta σ ma tInt) (hb : Sim G O tb σ mb tInt) : Sim G O (tOp (rI0 fun i j => .bl (decide (j ≤ i))) ta tb) σ (ma.bind fun a => mb.bind fun b => some (decide (b ≤ a))) tBool := sim_rI0 (fun _ _ _ => rfl) ha hb
theorem sim_eqI (ha : Sim G O ta σ ma tInt) (hb : Sim G O tb σ mb tInt) : Sim G O (tOp rEq ta tb) σ (ma.bind fun a => mb.bind fun b => some (decide (a = b))) tBool :=
  sim_op2 (fun a b c x y S H F h1 h2 w e Q k => by
    cases e
    obtain rfl : x = .int a := h1
    obtain rfl : y = .int b := h2
    refine ⟨rfl, ?_⟩
    have e : decide (V.int a = V.int b) = decide (a = b) := by rw [dec_int, Bool.beq_eq_decide_eq]
    rw [e]
    exact k _ S H (Same.refl _) w rfl) ha hb
theorem sim_neI (ha : Sim G O ta σ ma tInt) (hb : Sim G O tb σ mb tInt) : Sim G O (tOp rNe ta tb) σ (ma.bind fun a => mb.bind fun b => some (!decide (a = b))) tBool :=
  sim_op2 (fun a b c x y S H F h1 h2 w e Q k => by
    cases e
    obtain rfl : x = .int a := h1
    obtain rfl : y = .int b := h2
    refine ⟨rfl, ?_⟩
    have e : decide (V.int a = V.int b) = decide (a = b) := by rw [dec_int, Bool.beq_eq_decide_eq]
    rw [e]
    exact k _ S H (Same.refl _) w rfl) ha hb
theorem sim_neg (ha : Sim G O ta σ ma tInt) : Sim G O (tUn (rU fun i => .int (-i)) ta) σ (ma.bind fun a => some (-a)) tInt := fun S H F r hG w hm Q k => by
  obtain ⟨a, h1, hm⟩ := bind_some hm
  cases hm
  exact ha S H F a hG w h1 _ fun v S' H' s w' q => ⟨a, q, k _ S' H' s w' rfl⟩
end
end HF

set_option Elab.async false
set_option linter.all false
set_option maxRecDepth 100000
set_option maxHeartbeats 2000000
/-! Mini2: tests, lists, tuples, comprehensions, calls. -/
namespace HF
open PySem PySem.Spec L2
open PyProof.Rows hiding St
/-! ### tests -/
def andM (a : Bool) (m : Option Bool) : Option Bool := if a = true then m else some false
def orM (a : Bool) (m : Option Bool) : Option Bool := if a = true then some true else m
theorem andM_some (a b : Bool) : andM a (some b) = some (a && b) := by cases a <;> rfl
theorem orM_some (a b : Bool) : orM a (some b) = some (a || b) := by cases a <;> rfl
section
variable {α β γ : Type} {G : List Fact} {O : Ow} {σ : St} {T : Ty α} {U : Ty β} {W : Ty γ}
theorem simT_test {t : TE} {m : Option Bool} (h : Sim G O t σ m tBool) : SimT G O (tTest t) σ m := fun S H F r hG w hm Q k =>
  h S H F r hG w hm _ fun v S' H' s w' q => ⟨r, q, k S' H' s w'⟩
theorem simT_B {t : TE} {m : Option Bool} (h : Sim G O t σ m tBool) : SimT G O (tB t) σ m := fun S H F r hG w hm Q k =>
  h S H F r hG w hm _ fun v S' H' s w' q => ⟨r, q, k S' H' s w'⟩
theorem simT_not {t : TT} {m : Option Bool} (h : SimT G O t σ m) : SimT G O (tNot t) σ (m.bind fun b => some (!b)) := fun S H F r hG w hm Q k => by
  obtain ⟨a, h1, h2⟩ := bind_some hm
  cases h2
  exact h S H F a hG w h1 _ fun S' H' s w' => k S' H' s w'
theorem simT_and {t u : TT} {ma mb : Option Bool} (ha : SimT G O t σ ma) (hb : SimT G O u σ mb) : SimT G O (tAnd t u) σ (ma.bind fun a => andM a mb) := fun S H F r hG w hm Q k => by
  obtain ⟨a, h1, h2⟩ := bind_some hm
  refine ha S H F a hG w h1 _ fun S' H' s w' => ?_
  cases a with
  | true => exact hb S' H' F r (hG.mono s) w' h2 Q fun S2 H2 s2 w2 => k S2 H2 (s.trans s2) w2
  | false =>
    obtain rfl : false = r := Option.some.inj h2
    exact k S' H' s w'
theorem simT_or {t u : TT} {ma mb : Option Bool} (ha : SimT G O t σ ma) (hb : SimT G O u σ mb) : SimT G O (tOr t u) σ (ma.bind fun a => orM a mb) := fun S H F r hG w hm Q k => by
  obtain ⟨a, h1, h2⟩ := bind_some hm
  refine ha S H F a hG w h1 _ fun S' H' s w' => ?_
  cases a with
  | false => exact hb S' H' F r (hG.mono s) w' h2 Q fun S2 H2 s2 w2 => k S2 H2 (s.trans s2) w2
  | true =>
    obtain rfl : true = r := Option.some.inj h2
    exact k S' H' s w'
theorem sim_andV {t u : TE} {ma mb : Option Bool} (ha : Sim G O t σ ma tBool) (hb : Sim G O u σ mb tBool) : Sim G O (tAndV t u) σ (ma.bind fun a => andM a mb) tBool := fun S H F r hG w hm Q k => by
  obtain ⟨a, h1, h2⟩ := bind_some hm
  refine ha S H F a hG w h1 _ fun v S' H' s w' q => ⟨a, q, ?_⟩
  cases a with
  | true => exact hb S' H' F r (hG.mono s) w' h2 Q fun v2 S2 H2 s2 w2 q2 => k v2 S2 H2 (s.trans s2) w2 q2
  | false =>
    obtain rfl : false = r := Option.some.inj h2
    exact k _ S' H' s w' rfl
theorem sim_orV {t u : TE} {ma mb : Option Bool} (ha : Sim G O t σ ma tBool) (hb : Sim G O u σ mb tBool) : Sim G O (tOrV t u) σ (ma.bind fun a => orM a mb) tBool := fun S H F r hG w hm Q k => by
  obtain ⟨a, h1, h2⟩ := bind_some hm
  refine ha S H F a hG w h1 _ fun v S' H' s w' q => ⟨a, q, ?_⟩
  cases a with
  | false => exact hb S' H' F r (hG.mono s) w' h2 Q fun v2 S2 H2 s2 w2 q2 => k v2 S2 H2 (s.trans s2) w2 q2
  | true =>
    obtain rfl : true = r := Option.some.inj h2
    exact k _ S' H' s w' rfl
theorem sim_notV {t : TE} {m : Option Bool} (h : Sim G O t σ m tBool) : Sim G O (tNotV t) σ (m.bind fun b => some (!b)) tBool := fun S H F r hG w hm Q k => by
  obtain ⟨a, h1, h2⟩ := bind_some hm
  cases h2
  exact h S H F a hG w h1 _ fun v S' H' s w' q => ⟨a, q, k _ S' H' s w' rfl⟩
theorem sim_if {c : TT} {t u : TE} {mc : Option Bool} {ma mb : Option α} (hc : SimT G O c σ mc) (ha : Sim G O t σ ma T) (hb : Sim G O u σ mb T) : Sim G O (tIf c t u) σ (mc.bind fun b => if b = true then ma else mb) T := fun S H F r hG w hm Q k => by
  obtain ⟨a, h1, h2⟩ := bind_some hm
  refine hc S H F a hG w h1 _ fun S' H' s w' => ?_
  cases a with
  | true => exact ha S' H' F r (hG.mono s) w' h2 Q fun v2 S2 H2 s2 w2 q2 => k v2 S2 H2 (s.trans s2) w2 q2
  | false => exact hb S' H' F r (hG.mono s) w' h2 Q fun v2 S2 H2 s2 w2 q2 => k v2 S2 H2 (s.trans s2) w2 q2
/-- a op b op' c of ints -/
theorem sim_chain {p p' : Int → Int → Bool} {ta tb tc : TE} {ma mb mc : Option Int} (ha : Sim G O ta σ ma tInt) (hb : Sim G O tb σ mb tInt) (hc : Sim G O tc σ mc tInt) :
    Sim G O (tChain (rI0 fun i j => .bl (p i j)) (rI0 fun i j => .bl (p' i j)) ta tb tc) σ (ma.bind fun a => mb.bind fun b => andM (p a b) (mc.bind fun c => some (p' b c))) tBool := fun S H F r hG w hm Q k => by
  obtain ⟨a, h1, hm⟩ := bind_some hm
  obtain ⟨b, h2, hm⟩ := bind_some hm
  refine ha S H F a hG w h1 _ fun x S1 H1 s1 w1 q1 => ?_
  refine hb S1 H1 F b (hG.mono s1) w1 h2 _ fun y S2 H2 s2 w2 q2 => ⟨a, b, q1, q2, p a b, rfl, ?_⟩
  cases e : p a b with
  | false =>
    rw [e] at hm
    obtain rfl : false = r := Option.some.inj hm
    exact k _ S2 H2 (s1.trans s2) w2 rfl
  | true =>
    rw [e] at hm
    obtain ⟨c, h3, hm⟩ := bind_some hm
    cases hm
    exact hc S2 H2 F c (hG.mono (s1.trans s2)) w2 h3 _ fun z S3 H3 s3 w3 q3 => ⟨b, c, q2, q3, k _ S3 H3 ((s1.trans s2).trans s3) w3 rfl⟩
/-- the truth of an int -/
theorem simT_truI {K : PySem.W.Frag} {t : TE} {m : Option Int} (h : Sim G O t σ m tInt) : SimT G O (fun σ H Q => t σ H fun x H' => ∃ k, TruV K x H' k ∧ Q k H') σ (m.bind fun i => some (i != 0)) := fun S H F r hG w hm Q k => by
  obtain ⟨a, h1, h2⟩ := bind_some hm
  cases h2
  refine h S H F a hG w h1 _ fun v S' H' s w' q => ⟨_, ?_, k S' H' s w'⟩
  cases q
  rfl
/-! ### None -/
theorem sim_isN {ta : TE} {u : TE} {ma : Option (Option α)} {mb : Option Unit} (ha : Sim G O ta σ ma (tO T)) (hb : Sim G O u σ mb tUnit) : Sim G O (tOp (fun x y H Q => y = .non ∧ Q (.bl (decide (x = .non))) H) ta u) σ (ma.bind fun a => mb.bind fun _ => some a.isNone) tBool :=
  sim_op2 (fun a b c x y S H F h1 h2 w e Q k => by
    cases e
    refine ⟨h2, ?_⟩
    cases a with
    | none => obtain rfl : x = .non := h1; exact k _ S H (Same.refl _) w rfl
    | some z => rw [decide_eq_false h1.2]; exact k _ S H (Same.refl _) w rfl) ha hb
theorem sim_notN {ta : TE} {u : TE} {ma : Option (Option α)} {mb : Option Unit} (ha : Sim G O ta σ ma (tO T)) (hb : Sim G O u σ mb tUnit) : Sim G O (tOp (fun x y H Q => y = .non ∧ Q (.bl (!decide (x = .non))) H) ta u) σ (ma.bind fun a => mb.bind fun _ => some a.isSome) tBool :=
  sim_op2 (fun a b c x y S H F h1 h2 w e Q k => by
    cases e
    refine ⟨h2, ?_⟩
    cases a with
    | none => obtain rfl : x = .non := h1; exact k _ S H (Same.refl _) w rfl
    | some z => rw [decide_eq_false h1.2]; exact k _ S H (Same.refl _) w rfl) ha hb
/-- what is never None -/
def NotNon (T : Ty α) : Prop := ∀ a v S, T.rep a v S → v ≠ .non
theorem nn_int : NotNon tInt := fun _ _ _ h e => by cases h; cases e
theorem nn_str : NotNon tStr := fun _ _ _ h e => by cases h; cases e
theorem nn_L : NotNon (tL T) := fun _ _ _ ⟨_, _, h, _⟩ e => by rw [h] at e; cases e
theorem nn_T : NotNon (tT T) := fun _ _ _ ⟨_, _, h, _⟩ e => by rw [h] at e; cases e
theorem nn_P : NotNon (tP T U) := fun _ _ _ ⟨_, _, _, h, _⟩ e => by rw [h] at e; cases e
theorem sim_some {t : TE} {m : Option α} (n : NotNon T) (h : Sim G O t σ m T) : Sim G O t σ (m.bind fun a => some (some a)) (tO T) :=
  sim_imp h fun a v S q => ⟨q, n a v S q⟩
end

/-! ### lists -/
section
variable {α β γ : Type} {G : List Fact} {O : Ow} {σ : St} {T : Ty α} {U : Ty β} {W : Ty γ} {TL : Ty (List α)} {K : PySem.W.Frag}
def x_ix (xs : List α) (i : Int) : Option α := atI xs i
theorem atI_rl {S : Hp} {xs : List α} {vs : List V} {i : Int} {a : α} (r : Rl T S xs vs) (h : x_ix xs i = some a) : ∃ v, atI vs i = some v ∧ T.rep a v S := by
  unfold x_ix atI at *
  rw [← r.length]
  obtain ⟨j, h1, h2⟩ := bind_some h
  obtain ⟨v, h3, h4⟩ := r.get h2
  exact ⟨v, by rw [h1]; exact h3, h4⟩
theorem sim_ix [Lk O (oL T) TL] {ta tb : TE} {ma : Option (List α)} {mb : Option Int} (ha : Sim G O ta σ ma TL) (hb : Sim G O tb σ mb tInt) : Sim G O (tOp (rIxL K) ta tb) σ (ma.bind fun a => mb.bind fun b => x_ix a b) T :=
  sim_op2 (fun a b c x y S H F h1 h2 w e Q k => by
    obtain ⟨p, vs, rfl, r, g⟩ := lkL (O := O) (T := T) h1
    obtain ⟨v, h3, h4⟩ := atI_rl r e
    exact ⟨p, vs, b, v, rfl, h2, SqL.of (g H F w), h3, k v S H (Same.refl _) w h4⟩) ha hb
theorem sim_ixT {ta tb : TE} {ma : Option (List α)} {mb : Option Int} (ha : Sim G O ta σ ma (tT T)) (hb : Sim G O tb σ mb tInt) : Sim G O (tOp (rIxT K) ta tb) σ (ma.bind fun a => mb.bind fun b => x_ix a b) T :=
  sim_op2 (fun a b c x y S H F h1 h2 w e Q k => by
    obtain ⟨p, vs, rfl, g, r⟩ := h1
    obtain ⟨v, h3, h4⟩ := atI_rl r e
    exact ⟨p, vs, b, v, rfl, h2, SqT.of (w.st _ _ g), h3, k v S H (Same.refl _) w h4⟩) ha hb
theorem sim_fst {ta : TE} {ma : Option (α × β)} (ha : Sim G O ta σ ma (tP T U)) : Sim G O (tOp (rIxT K) ta (tC (.int 0))) σ (ma.bind fun a => some a.1) T := fun S H F r hG w hm Q k => by
  obtain ⟨a, h1, hm⟩ := bind_some hm
  cases hm
  refine ha S H F a hG w h1 _ fun x S1 H1 s1 w1 q1 => ?_
  obtain ⟨p, x, y, rfl, g, r1, r2⟩ := q1
  exact ⟨p, [x, y], 0, x, rfl, rfl, SqT.of (w1.st _ _ g), rfl, k _ S1 H1 s1 w1 r1⟩
theorem sim_snd {ta : TE} {ma : Option (α × β)} (ha : Sim G O ta σ ma (tP T U)) : Sim G O (tOp (rIxT K) ta (tC (.int 1))) σ (ma.bind fun a => some a.2) U := fun S H F r hG w hm Q k => by
  obtain ⟨a, h1, hm⟩ := bind_some hm
  cases hm
  refine ha S H F a hG w h1 _ fun x S1 H1 s1 w1 q1 => ?_
  obtain ⟨p, x, y, rfl, g, r1, r2⟩ := q1
  exact ⟨p, [x, y], 1, y, rfl, rfl, SqT.of (w1.st _ _ g), rfl, k _ S1 H1 s1 w1 r2⟩
/-- len -/
abbrev rLn (K : PySem.W.Frag) : List V → Hp → VK → Prop := fun xs H Q => ∃ p ys, xs = [.ref p] ∧ (SqL K H p ys ∨ SqT K H p ys) ∧ Q (.int ys.length) H
theorem sim_len [Lk O (oL T) TL] {ta : TE} {ma : Option (List α)} (ha : Sim G O ta σ ma TL) : Sim G O (tCB (rLn K) (tCons ta tNil)) σ (ma.bind fun a => some (a.length : Int)) tInt := fun S H F r hG w hm Q k => by
  obtain ⟨a, h1, hm⟩ := bind_some hm
  cases hm
  refine ha S H F a hG w h1 _ fun x S1 H1 s1 w1 q1 => ?_
  obtain ⟨p, vs, rfl, r, g⟩ := lkL (O := O) (T := T) q1
  refine ⟨p, vs, rfl, .inl (SqL.of (g H1 F w1)), ?_⟩
  rw [← r.length]
  exact k _ S1 H1 s1 w1 rfl
theorem sim_lenT {ta : TE} {ma : Option (List α)} (ha : Sim G O ta σ ma (tT T)) : Sim G O (tCB (rLn K) (tCons ta tNil)) σ (ma.bind fun a => some (a.length : Int)) tInt := fun S H F r hG w hm Q k => by
  obtain ⟨a, h1, hm⟩ := bind_some hm
  cases hm
  refine ha S H F a hG w h1 _ fun x S1 H1 s1 w1 q1 => ?_
  obtain ⟨p, vs, rfl, g, r⟩ := q1
  refine ⟨p, vs, rfl, .inr (SqT.of (w1.st _ _ g)), ?_⟩
  rw [← r.length]
  exact k _ S1 H1 s1 w1 rfl

/-! ### displays -/
def TyA.ln (n : Nat) (T : Ty α) : TyA (List α) := ⟨fun xs vs S => Rl T S xs vs ∧ vs.length = n, fun h q => ⟨q.1.mono h, q.2⟩⟩
theorem simA_nil : SimA G O tNil σ (some ()) TyA.nil := fun S H F r hG w hm Q k => k _ S H (Same.refl _) w rfl
theorem simA_one {ta : TE} {ma : Option α} (ha : Sim G O ta σ ma T) : SimA G O (tCons ta tNil) σ ma (TyA.one T) := fun S H F r hG w hm Q k =>
  ha S H F r hG w hm _ fun v S' H' s w' q => k _ S' H' s w' ⟨v, rfl, q⟩
theorem simA_c {ta : TE} {tr : TA} {ma : Option α} {mb : Option β} {A : TyA β} (ha : Sim G O ta σ ma T) (hb : SimA G O tr σ mb A) : SimA G O (tCons ta tr) σ (ma.bind fun a => mb.bind fun b => some (a, b)) (TyA.c T A) := fun S H F r hG w hm Q k => by
  obtain ⟨a, h1, hm⟩ := bind_some hm
  obtain ⟨b, h2, hm⟩ := bind_some hm
  cases hm
  refine ha S H F a hG w h1 _ fun x S1 H1 s1 w1 q1 => ?_
  exact hb S1 H1 F b (hG.mono s1) w1 h2 _ fun vs S2 H2 s2 w2 q2 => k _ S2 H2 (s1.trans s2) w2 ⟨x, vs, rfl, T.mono s2 q1, q2⟩
theorem simA_ln0 : SimA G O tNil σ (some []) (TyA.ln 0 T) := fun S H F r hG w hm Q k => by cases hm; exact k _ S H (Same.refl _) w ⟨.nil, rfl⟩
theorem simA_ln {n : Nat} {ta : TE} {tr : TA} {ma : Option α} {mb : Option (List α)} (ha : Sim G O ta σ ma T) (hb : SimA G O tr σ mb (TyA.ln n T)) : SimA G O (tCons ta tr) σ (ma.bind fun a => mb.bind fun b => some (a :: b)) (TyA.ln (n + 1) T) := fun S H F r hG w hm Q k => by
  obtain ⟨a, h1, hm⟩ := bind_some hm
  obtain ⟨b, h2, hm⟩ := bind_some hm
  cases hm
  refine ha S H F a hG w h1 _ fun x S1 H1 s1 w1 q1 => ?_
  exact hb S1 H1 F b (hG.mono s1) w1 h2 _ fun vs S2 H2 s2 w2 q2 => k _ S2 H2 (s1.trans s2) w2 ⟨.cons (T.mono s2 q1) q2.1, congrArg Nat.succ q2.2⟩
theorem simF_lst {n : Nat} {t : TA} {m : Option (List α)} (h : SimA G O t σ m (TyA.ln n T)) (hn : n ≤ sizeLine := by show _ ≤ (2 ^ 24 : Nat); decide) : SimF G O (tLst t) σ m (oL T) := fun S H F r hG w hm Q k =>
  h S H F r hG w hm _ fun vs S' H' s w' q => ⟨by rw [q.2]; exact hn, fun p hp => k p _ S' _ s (w'.newO hp) ⟨vs, rfl, q.1⟩⟩
theorem sim_tupL {n : Nat} {t : TA} {m : Option (List α)} (h : SimA G O t σ m (TyA.ln n T)) (hn : n ≤ sizeLine := by show _ ≤ (2 ^ 24 : Nat); decide) : Sim G O (tTup t) σ m (tT T) := fun S H F r hG w hm Q k =>
  h S H F r hG w hm _ fun vs S' H' s w' q => ⟨by rw [q.2]; exact hn, fun p hp => k _ (upd S' p (.tup vs)) _ (s.trans (same_upd (w'.sn hp))) (w'.new hp) ⟨p, vs, rfl, upd_same, q.1.mono (same_upd (w'.sn hp))⟩⟩
theorem sim_pair {ta tb : TE} {ma : Option α} {mb : Option β} (ha : Sim G O ta σ ma T) (hb : Sim G O tb σ mb U) : Sim G O (tTup (tCons ta (tCons tb tNil))) σ (ma.bind fun a => mb.bind fun b => some (a, b)) (tP T U) := fun S H F r hG w hm Q k => by
  obtain ⟨a, h1, hm⟩ := bind_some hm
  obtain ⟨b, h2, hm⟩ := bind_some hm
  cases hm
  refine ha S H F a hG w h1 _ fun x S1 H1 s1 w1 q1 => ?_
  refine hb S1 H1 F b (hG.mono s1) w1 h2 _ fun y S2 H2 s2 w2 q2 => ⟨(by show 2 ≤ (2 ^ 24 : Nat); decide), fun p hp => ?_⟩
  have s3 : Same S2 (upd S2 p (.tup [x, y])) := same_upd (w2.sn hp)
  exact k _ _ _ ((s1.trans s2).trans s3) (w2.new hp) ⟨p, x, y, rfl, upd_same, T.mono (s2.trans s3) q1, U.mono s3 q2⟩
/-! ### new lists out of lists -/
def x_cat (xs ys : List α) : Option (List α) := if xs.length + ys.length ≤ sizeLine then some (xs ++ ys) else none
theorem simF_cat {TL' : Ty (List α)} [Lk O (oL T) TL] [Lk O (oL T) TL'] {ta tb : TE} {ma mb : Option (List α)} (ha : Sim G O ta σ ma TL) (hb : Sim G O tb σ mb TL') : SimF G O (tOp rCat ta tb) σ (ma.bind fun a => mb.bind fun b => x_cat a b) (oL T) := fun S H F r hG w hm Q k => by
  obtain ⟨a, h1, hm⟩ := bind_some hm
  obtain ⟨b, h2, hm⟩ := bind_some hm
  obtain ⟨hz, rfl⟩ := of_if hm
  refine ha S H F a hG w h1 _ fun x S1 H1 s1 w1 q1 => ?_
  refine hb S1 H1 F b (hG.mono s1) w1 h2 _ fun y S2 H2 s2 w2 q2 => ?_
  obtain ⟨p, vs, rfl, r, g⟩ := lkL (O := O) (T := T) (TL.mono s2 q1)
  obtain ⟨p', vs', rfl, r', g'⟩ := lkL (O := O) (T := T) q2
  exact ⟨p, p', vs, vs', rfl, rfl, g H2 F w2, g' H2 F w2, by rw [← r.length, ← r'.length]; exact hz, fun l hl => k l _ S2 _ (s1.trans s2) (w2.newO hl) ⟨_, rfl, r.append r'⟩⟩
def x_rep (xs : List α) (k : Int) : Option (List α) := if -(2 ^ 63) ≤ k ∧ k < 2 ^ 63 ∧ xs.length * k.toNat ≤ sizeLine then some (List.replicate k.toNat xs).flatten else none
theorem Rl.rep {S : Hp} {xs : List α} {vs : List V} (r : Rl T S xs vs) : ∀ n : Nat, Rl T S (List.replicate n xs).flatten (List.replicate n vs).flatten
  | 0 => .nil
  | n + 1 => by simp only [List.replicate_succ, List.flatten_cons]; exact r.append (Rl.rep r n)
theorem simF_rep [Lk O (oL T) TL] {ta tb : TE} {ma : Option (List α)} {mb : Option Int} (ha : Sim G O ta σ ma TL) (hb : Sim G O tb σ mb tInt) : SimF G O (tOp rRep ta tb) σ (ma.bind fun a => mb.bind fun b => x_rep a b) (oL T) := fun S H F r hG w hm Q k => by
  obtain ⟨a, h1, hm⟩ := bind_some hm
  obtain ⟨b, h2, hm⟩ := bind_some hm
  obtain ⟨⟨z1, z2, z3⟩, rfl⟩ := of_if hm
  refine ha S H F a hG w h1 _ fun x S1 H1 s1 w1 q1 => ?_
  refine hb S1 H1 F b (hG.mono s1) w1 h2 _ fun y S2 H2 s2 w2 q2 => ?_
  obtain ⟨p, vs, rfl, r, g⟩ := lkL (O := O) (T := T) (TL.mono s2 q1)
  exact ⟨p, b, vs, rfl, q2, g H2 F w2, z1, z2, by rw [← r.length]; exact z3, fun l hl => k l _ S2 _ (s1.trans s2) (w2.newO hl) ⟨_, rfl, r.rep _⟩⟩
def cutL (xs : List α) (lo hi : Option Int) : List α := (xs.drop (HT.sIx xs.length 0 lo)).take (HT.sIx xs.length xs.length hi - HT.sIx xs.length 0 lo)
theorem Rl.cut {S : Hp} {xs : List α} {vs : List V} (r : Rl T S xs vs) (lo hi : Option Int) : Rl T S (cutL xs lo hi) (cutV vs lo hi) := by
  unfold cutL cutV
  rw [r.length]
  exact (r.drop _).take _
/-- a part of a slice -/
def SimO (G : List Fact) (O : Ow) (t : TO) (σ : St) (m : Option (Option Int)) : Prop :=
  ∀ (S H : Hp) (F : Ow) (r : Option Int), Okc G S → Wd S (O ++ F) H → m = some r → ∀ Q : Option Int → Hp → Prop, (∀ S' H', Same S S' → Wd S' (O ++ F) H' → Q r H') → t σ H Q
theorem simO_no : SimO G O tNoPart σ (some none) := fun S H F r hG w hm Q k => by cases hm; exact k S H (Same.refl _) w
theorem simO_part {t : TE} {m : Option Int} (h : Sim G O t σ m tInt) : SimO G O (tPart t) σ (m.bind fun i => some (some i)) := fun S H F r hG w hm Q k => by
  obtain ⟨a, h1, hm⟩ := bind_some hm
  cases hm
  exact h S H F a hG w h1 _ fun v S' H' s w' q => ⟨a, q, k S' H' s w'⟩
theorem simF_slice [Lk O (oL T) TL] {te : TE} {tl th : TO} {ma : Option (List α)} {ml mh : Option (Option Int)} (ha : Sim G O te σ ma TL) (hl : SimO G O tl σ ml) (hh : SimO G O th σ mh) :
    SimF G O (tSl (rSlL K) te tl th) σ (ma.bind fun a => ml.bind fun l => mh.bind fun h => some (cutL a l h)) (oL T) := fun S H F r hG w hm Q k => by
  obtain ⟨a, h1, hm⟩ := bind_some hm
  obtain ⟨b, h2, hm⟩ := bind_some hm
  obtain ⟨c, h3, hm⟩ := bind_some hm
  cases hm
  refine ha S H F a hG w h1 _ fun x S1 H1 s1 w1 q1 => ?_
  refine hl S1 H1 F b (hG.mono s1) w1 h2 _ fun S2 H2 s2 w2 => ?_
  refine hh S2 H2 F c (hG.mono (s1.trans s2)) w2 h3 _ fun S3 H3 s3 w3 => ?_
  obtain ⟨p, vs, rfl, r, g⟩ := lkL (O := O) (T := T) (TL.mono (s2.trans s3) q1)
  exact ⟨p, vs, rfl, SqL.of (g H3 F w3), fun l hl => k l _ S3 _ ((s1.trans s2).trans s3) (w3.newO hl) ⟨_, rfl, r.cut b c⟩⟩
theorem simF_rev [Lk O (oL T) TL] {te : TE} {ma : Option (List α)} (ha : Sim G O te σ ma TL) : SimF G O (tRevL K te) σ (ma.bind fun a => some a.reverse) (oL T) := fun S H F r hG w hm Q k => by
  obtain ⟨a, h1, hm⟩ := bind_some hm
  cases hm
  refine ha S H F a hG w h1 _ fun x S1 H1 s1 w1 q1 => ?_
  obtain ⟨p, vs, rfl, r, g⟩ := lkL (O := O) (T := T) q1
  exact ⟨p, vs, rfl, SqL.of (g H1 F w1), fun l hl => k l _ S1 _ s1 (w1.newO hl) ⟨_, rfl, r.reverse⟩⟩
abbrev rLs (K : PySem.W.Frag) : List V → Hp → VK → Prop := fun xs H Q => ∃ p ys, xs = [.ref p] ∧ (SqL K H p ys ∨ SqT K H p ys) ∧ ∀ l, H l = none → Q (.ref l) (upd H l (.lst ys))
abbrev rTp (K : PySem.W.Frag) : List V → Hp → VK → Prop := fun xs H Q => ∃ p ys, xs = [.ref p] ∧ ((SqL K H p ys ∧ ∀ l, H l = none → Q (.ref l) (upd H l (.tup ys))) ∨ (SqT K H p ys ∧ Q (.ref p) H))
theorem simF_list [Lk O (oL T) TL] {te : TE} {ma : Option (List α)} (ha : Sim G O te σ ma TL) : SimF G O (tCB (rLs K) (tCons te tNil)) σ ma (oL T) := fun S H F r hG w hm Q k => by
  refine ha S H F r hG w hm _ fun x S1 H1 s1 w1 q1 => ?_
  obtain ⟨p, vs, rfl, r, g⟩ := lkL (O := O) (T := T) q1
  exact ⟨p, vs, rfl, .inl (SqL.of (g H1 F w1)), fun l hl => k l _ S1 _ s1 (w1.newO hl) ⟨_, rfl, r⟩⟩
theorem simF_listT {te : TE} {ma : Option (List α)} (ha : Sim G O te σ ma (tT T)) : SimF G O (tCB (rLs K) (tCons te tNil)) σ ma (oL T) := fun S H F r hG w hm Q k => by
  refine ha S H F r hG w hm _ fun x S1 H1 s1 w1 q1 => ?_
  obtain ⟨p, vs, rfl, g, r⟩ := q1
  exact ⟨p, vs, rfl, .inr (SqT.of (w1.st _ _ g)), fun l hl => k l _ S1 _ s1 (w1.newO hl) ⟨_, rfl, r⟩⟩
theorem sim_tuple [Lk O (oL T) TL] {te : TE} {ma : Option (List α)} (ha : Sim G O te σ ma TL) : Sim G O (tCB (rTp K) (tCons te tNil)) σ ma (tT T) := fun S H F r hG w hm Q k => by
  refine ha S H F r hG w hm _ fun x S1 H1 s1 w1 q1 => ?_
  obtain ⟨p, vs, rfl, r, g⟩ := lkL (O := O) (T := T) q1
  exact ⟨p, vs, rfl, .inl ⟨SqL.of (g H1 F w1), fun l hl => k _ _ _ (s1.trans (same_upd (w1.sn hl))) (w1.new hl) ⟨l, vs, rfl, upd_same, r.mono (same_upd (w1.sn hl))⟩⟩⟩
def x_lrange (a b : Int) : Option (List Int) := if -(2 ^ 62) ≤ a ∧ a < 2 ^ 62 ∧ -(2 ^ 62) ≤ b ∧ b < 2 ^ 62 ∧ (b - a).toNat ≤ 2 ^ 24 then some ((List.range (b - a).toNat).map fun i => a + (i : Nat)) else none
theorem rl_ints (S : Hp) : ∀ xs : List Int, Rl tInt S xs (xs.map V.int)
  | [] => .nil
  | _ :: xs => .cons rfl (rl_ints S xs)
theorem rgV_map (a b : Int) : rgV a b = ((List.range (b - a).toNat).map fun i : Nat => a + (i : Int)).map V.int := by
  unfold rgV
  rw [List.map_map]
  rfl
theorem simF_lrange1 {tb : TE} {mb : Option Int} (hb : Sim G O tb σ mb tInt) : SimF G O (tLstRg (tRg1 tb)) σ (mb.bind fun b => x_lrange 0 b) (oL tInt) := fun S H F r hG w hm Q k => by
  obtain ⟨b, h1, hm⟩ := bind_some hm
  obtain ⟨z, rfl⟩ := of_if hm
  refine hb S H F b hG w h1 _ fun x S1 H1 s1 w1 q1 => ⟨b, q1, z, fun l hl => ?_⟩
  rw [rgV_map]
  exact k l _ S1 _ s1 (w1.newO hl) ⟨_, rfl, rl_ints _ _⟩
theorem simF_lrange2 {ta tb : TE} {ma mb : Option Int} (ha : Sim G O ta σ ma tInt) (hb : Sim G O tb σ mb tInt) : SimF G O (tLstRg (tRg2 ta tb)) σ (ma.bind fun a => mb.bind fun b => x_lrange a b) (oL tInt) := fun S H F r hG w hm Q k => by
  obtain ⟨a, h1, hm⟩ := bind_some hm
  obtain ⟨b, h2, hm⟩ := bind_some hm
  obtain ⟨z, rfl⟩ := of_if hm
  refine ha S H F a hG w h1 _ fun x S1 H1 s1 w1 q1 => ?_
  refine hb S1 H1 F b (hG.mono s1) w1 h2 _ fun y S2 H2 s2 w2 q2 => ⟨a, b, q1, q2, z, fun l hl => ?_⟩
  rw [rgV_map]
  exact k l _ S2 _ (s1.trans s2) (w2.newO hl) ⟨_, rfl, rl_ints _ _⟩
end
end HF

set_option Elab.async false
set_option linter.all false
set_option maxRecDepth 100000
set_option maxHeartbeats 2000000
/-! Mini3: what is walked, comprehensions, statements, loops, calls. -/
namespace HF
open PySem PySem.Spec L2
open PyProof.Rows hiding St
theorem Okc.cons {f : Fact} {G : List Fact} {S : Hp} (h : f.P S) (t : Okc G S) : Okc (f :: G) S := ⟨h, t⟩
theorem Okc.dr : ∀ {G : List Fact} {S : Hp} (n : Nat), Okc G S → Okc (G.drop n) S
  | _, _, 0, h => h
  | [], _, _ + 1, _ => True.intro
  | _ :: _, _, n + 1, h => Okc.dr n h.2
theorem Okc.right : ∀ {G G' : List Fact} {S : Hp}, Okc (G ++ G') S → Okc G' S
  | [], _, _, h => h
  | _ :: _, _, _, h => Okc.right h.2
theorem Okc.left : ∀ {G G' : List Fact} {S : Hp}, Okc (G ++ G') S → Okc G S
  | [], _, _, h => True.intro
  | _ :: _, _, _, h => ⟨h.1, Okc.left h.2⟩
section
variable {α β γ ρ : Type} {G : List Fact} {O O0 F : Ow} {σ : St} {T : Ty α} {U : Ty β} {K : PySem.W.Frag}
/-! ### iterators -/
def JOk (S0 : Hp) (O0 : Ow) (J : It) (T : Ty α) (xs : List α) : Prop := ∀ S H, Same S0 S → Wd S O0 H →
  (∀ i a, xs[i]? = some a → J.go i H ∧ ∀ x H', J.yld i H x H' → ∃ S', Same S S' ∧ T.rep a x S' ∧ ∀ O, Wd S O H → Wd S' O H') ∧ J.stop xs.length H
def SimI (G : List Fact) (O O0 : Ow) (wi : TI) (σ : St) (m : Option (List α)) (T : Ty α) : Prop :=
  ∀ (S H : Hp) (F : Ow) (r : List α), Okc G S → Wd S (O ++ F) H → m = some r → ∀ R : It → Hp → Prop, (∀ J S' H', Same S S' → Wd S' (O ++ F) H' → JOk S' O0 J T r → R J H') → wi σ H R
def rangeL (a : Int) (n : Nat) : List Int := (List.range n).map fun i => a + (i : Nat)
def x_range (a b : Int) : Option (List Int) := if -(2 ^ 62) ≤ a ∧ a < 2 ^ 62 ∧ -(2 ^ 62) ≤ b ∧ b < 2 ^ 62 then some (rangeL a (b - a).toNat) else none
theorem rangeL_get {a : Int} {n i : Nat} {x : Int} (h : (rangeL a n)[i]? = some x) : i < n ∧ x = a + i := by
  unfold rangeL at h
  rw [List.getElem?_map] at h
  by_cases hi : i < n
  · rw [List.getElem?_range hi] at h
    exact ⟨hi, (Option.some.inj h).symm⟩
  · rw [List.getElem?_eq_none (by simpa using hi)] at h
    cases h
theorem jok_range (S0 : Hp) (O0 : Ow) (a : Int) (n : Nat) : JOk S0 O0 (Itr a n) tInt (rangeL a n) := fun S H s w => by
  refine ⟨fun i x e => ?_, ?_⟩
  · obtain ⟨h1, rfl⟩ := rangeL_get e
    exact ⟨h1, fun y H' q => ⟨S, Same.refl _, q.2, fun O w' => by rw [q.1]; exact w'⟩⟩
  · show n ≤ (rangeL a n).length
    unfold rangeL
    simp
theorem simI_range1 {tb : TE} {mb : Option Int} (hb : Sim G O tb σ mb tInt) : SimI G O [] (iRng1 (tCons tb tNil)) σ (mb.bind fun b => x_range 0 b) tInt := fun S H F r hG w hm R k => by
  obtain ⟨b, h1, hm⟩ := bind_some hm
  obtain ⟨⟨z1, z2, z3, z4⟩, rfl⟩ := of_if hm
  refine hb S H F b hG w h1 _ fun x S1 H1 s1 w1 q1 => ⟨b, by rw [show x = .int b from q1], z3, z4, ?_⟩
  rw [show (b - 0).toNat = b.toNat by rw [Int.sub_zero]] at k
  exact k _ S1 H1 s1 w1 (jok_range _ _ _ _)
theorem simI_range2 {ta tb : TE} {ma mb : Option Int} (ha : Sim G O ta σ ma tInt) (hb : Sim G O tb σ mb tInt) : SimI G O [] (iRng2 (tCons ta (tCons tb tNil))) σ (ma.bind fun a => mb.bind fun b => x_range a b) tInt := fun S H F r hG w hm R k => by
  obtain ⟨a, h1, hm⟩ := bind_some hm
  obtain ⟨b, h2, hm⟩ := bind_some hm
  obtain ⟨⟨z1, z2, z3, z4⟩, rfl⟩ := of_if hm
  refine ha S H F a hG w h1 _ fun x S1 H1 s1 w1 q1 => ?_
  refine hb S1 H1 F b (hG.mono s1) w1 h2 _ fun y S2 H2 s2 w2 q2 => ⟨a, b, by rw [show x = .int a from q1, show y = .int b from q2], ⟨z1, z2, z3, z4⟩, ?_⟩
  exact k _ S2 H2 (s1.trans s2) w2 (jok_range _ _ _ _)
theorem jok_list {S0 : Hp} {p : Addr} {vs : List V} {xs : List α} (g : ∀ S H, Same S0 S → Wd S O0 H → H p = some (.lst vs)) (r : Rl T S0 xs vs) : JOk S0 O0 (Itl K p) T xs := fun S H s w => by
  have e := g S H s w
  refine ⟨fun i a h => ?_, vs, SqL.of e, by rw [r.length]; exact Nat.le_refl _⟩
  obtain ⟨v, h1, h2⟩ := r.get h
  refine ⟨⟨vs, v, SqL.of e, h1⟩, fun x H' q => ⟨S, Same.refl _, ?_, fun O w' => by rw [q.1]; exact w'⟩⟩
  have h3 := q.2 vs (SqL.of e)
  rw [h1] at h3
  cases h3
  exact T.mono s h2
theorem simI_list {te : TE} {m : Option (List α)} (h : Sim G O te σ m (tL T)) : SimI G O [] (iList K te) σ m T := fun S H F r hG w hm R k => by
  refine h S H F r hG w hm _ fun v S1 H1 s1 w1 ⟨p, vs, e, g, q⟩ => ⟨p, e, ⟨vs, SqL.of (w1.st _ _ g)⟩, k _ S1 H1 s1 w1 ?_⟩
  exact jok_list (fun S H s w => w.st _ _ (s _ _ g)) q
theorem simI_listO {te : TE} {m : Option (List α)} (h : Sim G O te σ m (tOwn O (oL T))) : SimI G O O (iList K te) σ m T := fun S H F r hG w hm R k => by
  refine h S H F r hG w hm _ fun v S1 H1 s1 w1 ⟨p, c, e, g, vs, ec, q⟩ => ?_
  subst ec
  refine ⟨p, e, ⟨vs, SqL.of (w1.mem (List.mem_append_left _ g) (List.mem_cons_self ..))⟩, k _ S1 H1 s1 w1 ?_⟩
  exact jok_list (fun S H s w => w.mem g (List.mem_cons_self ..)) q
theorem simI_tup {te : TE} {m : Option (List α)} (h : Sim G O te σ m (tT T)) : SimI G O [] (iTup K te) σ m T := fun S H F r hG w hm R k => by
  refine h S H F r hG w hm _ fun v S1 H1 s1 w1 ⟨p, vs, e, g, q⟩ => ⟨p, e, ⟨vs, SqT.of (w1.st _ _ g)⟩, k _ S1 H1 s1 w1 fun S H s w => ?_⟩
  have e := w.st _ _ (s _ _ g)
  refine ⟨fun i a h => ?_, vs, SqT.of e, by rw [q.length]; exact Nat.le_refl _⟩
  obtain ⟨v, h1, h2⟩ := q.get h
  refine ⟨⟨vs, v, SqT.of e, h1⟩, fun x H' q' => ⟨S, Same.refl _, ?_, fun O w' => by rw [q'.1]; exact w'⟩⟩
  have h3 := q'.2 vs (SqT.of e)
  rw [h1] at h3
  cases h3
  exact T.mono s h2
def enumL (xs : List α) : List (Int × α) := xs.zipIdx.map fun p => ((p.2 : Int), p.1)
theorem enumL_get {xs : List α} {i : Nat} {p : Int × α} (h : (enumL xs)[i]? = some p) : ∃ a, xs[i]? = some a ∧ p = ((i : Int), a) := by
  unfold enumL at h
  rw [List.getElem?_map, List.getElem?_zipIdx] at h
  cases e : xs[i]? with
  | none => rw [e] at h; cases h
  | some a =>
    rw [e] at h
    refine ⟨a, rfl, ?_⟩
    simp at h
    exact h.symm
theorem enumL_length (xs : List α) : (enumL xs).length = xs.length := by unfold enumL; simp
theorem jok_enum {S0 : Hp} {p : Addr} {vs : List V} {xs : List α} (g : ∀ S H, Same S0 S → Wd S O0 H → H p = some (.lst vs)) (r : Rl T S0 xs vs) : JOk S0 O0 (Ite K p) (tP tInt T) (enumL xs) := fun S H s w => by
  have e := g S H s w
  refine ⟨fun i a h => ?_, vs, SqL.of e, by rw [enumL_length, r.length]; exact Nat.le_refl _⟩
  obtain ⟨a', h0, rfl⟩ := enumL_get h
  obtain ⟨v, h1, h2⟩ := r.get h0
  refine ⟨⟨vs, v, SqL.of e, h1⟩, fun x H' ⟨q, y, e1, e2, e3, e4⟩ => ?_⟩
  have h3 := e4 vs (SqL.of e)
  rw [h1] at h3
  cases h3
  have s3 : Same S (upd S q (.tup [.int (i : Nat), v])) := same_upd (w.sn e2)
  exact ⟨_, s3, ⟨q, _, _, e1, upd_same, rfl, T.mono (s.trans s3) h2⟩, fun O w' => by rw [e3]; exact w'.new e2⟩
theorem simI_enum {te : TE} {m : Option (List α)} (h : Sim G O te σ m (tL T)) : SimI G O [] (iEnum K (tCons te tNil)) σ (m.bind fun xs => some (enumL xs)) (tP tInt T) := fun S H F r hG w hm R k => by
  obtain ⟨a, h1, hm⟩ := bind_some hm
  cases hm
  refine h S H F a hG w h1 _ fun v S1 H1 s1 w1 ⟨p, vs, e, g, q⟩ => ⟨p, vs, by rw [e], SqL.of (w1.st _ _ g), k _ S1 H1 s1 w1 ?_⟩
  exact jok_enum (fun S H s w => w.st _ _ (s _ _ g)) q
theorem simI_enumO {te : TE} {m : Option (List α)} (h : Sim G O te σ m (tOwn O (oL T))) : SimI G O O (iEnum K (tCons te tNil)) σ (m.bind fun xs => some (enumL xs)) (tP tInt T) := fun S H F r hG w hm R k => by
  obtain ⟨a, h1, hm⟩ := bind_some hm
  cases hm
  refine h S H F a hG w h1 _ fun v S1 H1 s1 w1 ⟨p, c, e, g, vs, ec, q⟩ => ?_
  subst ec
  refine ⟨p, vs, by rw [e], SqL.of (w1.mem (List.mem_append_left _ g) (List.mem_cons_self ..)), k _ S1 H1 s1 w1 ?_⟩
  exact jok_enum (fun S H s w => w.mem g (List.mem_cons_self ..)) q
/-- reversed list -/
theorem rev_get {xs : List V} {i : Nat} {v : V} (h : xs.reverse[i]? = some v) : i < xs.length ∧ xs[xs.length - 1 - i]? = some v := by
  have hi : i < xs.reverse.length := (List.getElem?_eq_some_iff.mp h).1
  rw [List.length_reverse] at hi
  rw [List.getElem?_reverse hi] at h
  exact ⟨hi, h⟩
theorem jok_rev {S0 : Hp} {p : Addr} {vs : List V} {xs : List α} (g : ∀ S H, Same S0 S → Wd S O0 H → H p = some (.lst vs)) (r : Rl T S0 xs vs) : JOk S0 O0 (Itv K p vs.length) T xs.reverse := fun S H s w => by
  have e := g S H s w
  refine ⟨fun i a h => ?_, by show vs.length ≤ _; rw [List.length_reverse, r.length]; exact Nat.le_refl _⟩
  obtain ⟨v, h1, h2⟩ := r.reverse.get h
  obtain ⟨hi, h1⟩ := rev_get h1
  refine ⟨⟨hi, vs, v, SqL.of e, h1⟩, fun x H' q => ⟨S, Same.refl _, ?_, fun O w' => by rw [q.1]; exact w'⟩⟩
  have h3 := q.2 vs (SqL.of e)
  rw [h1] at h3
  cases h3
  exact T.mono s h2
theorem simI_rev {te : TE} {m : Option (List α)} (h : Sim G O te σ m (tL T)) : SimI G O [] (iRev K (tCons te tNil)) σ (m.bind fun xs => some xs.reverse) T := fun S H F r hG w hm R k => by
  obtain ⟨a, h1, hm⟩ := bind_some hm
  cases hm
  refine h S H F a hG w h1 _ fun v S1 H1 s1 w1 ⟨p, vs, e, g, q⟩ => ⟨p, vs, by rw [e], SqL.of (w1.st _ _ g), k _ S1 H1 s1 w1 ?_⟩
  exact jok_rev (fun S H s w => w.st _ _ (s _ _ g)) q
theorem simI_revO {te : TE} {m : Option (List α)} (h : Sim G O te σ m (tOwn O (oL T))) : SimI G O O (iRev K (tCons te tNil)) σ (m.bind fun xs => some xs.reverse) T := fun S H F r hG w hm R k => by
  obtain ⟨a, h1, hm⟩ := bind_some hm
  cases hm
  refine h S H F a hG w h1 _ fun v S1 H1 s1 w1 ⟨p, c, e, g, vs, ec, q⟩ => ?_
  subst ec
  refine ⟨p, vs, by rw [e], SqL.of (w1.mem (List.mem_append_left _ g) (List.mem_cons_self ..)), k _ S1 H1 s1 w1 ?_⟩
  exact jok_rev (fun S H s w => w.mem g (List.mem_cons_self ..)) q

/-! ### targets -/
def TgOk {ω : Type} (g : TG) (σ : St) (T : Ty α) (σ' : ω → St) (Fx : α → ω → List Fact) : Prop :=
  ∀ a x S H (Q : St → Hp → Prop), T.rep a x S → Same S H → (∀ w, Okc (Fx a w) S → Q (σ' w) H) → g x σ H Q
theorem tg_name {i : Nat} : TgOk (gName i) σ T (fun w : V => σ.set i (some w)) (fun a w => [T.f a w]) := fun a x S H Q h s k => k x ⟨h, True.intro⟩
theorem tg_pair {i j : Nat} : TgOk (gTup K 2 (gCons (gName i) (gCons (gName j) gNil))) σ (tP T U) (fun w : V × V => (σ.set i (some w.1)).set j (some w.2)) (fun a w => [T.f a.1 w.1, U.f a.2 w.2]) := fun a x S H Q h s k => by
  obtain ⟨p, y, z, rfl, g, r1, r2⟩ := h
  exact ⟨p, [y, z], rfl, SqT.of (s _ _ g), rfl, y, [z], rfl, z, [], rfl, rfl, k (y, z) ⟨r1, r2, True.intro⟩⟩

/-! ### comprehensions -/
def compM (t : α → Option Bool) (e : α → Option β) : List α → Option (List β)
  | [] => some []
  | x :: xs => (t x).bind fun b => if b = true then (e x).bind fun y => (compM t e xs).bind fun ys => some (y :: ys) else compM t e xs
def x_comp (t : α → Option Bool) (e : α → Option β) (xs : List α) : Option (List β) := if xs.length ≤ sizeLine then compM t e xs else none
theorem simT_yes : SimT G O tYes σ (some true) := fun S H F r hG w hm Q k => by cases hm; exact k S H (Same.refl _) w
theorem perm_mid (c : List Cell) (O F : Ow) : (c :: (O ++ F)).Perm (O ++ (c :: F)) := List.perm_middle.symm
theorem simF_lc {ω : Type} {g : TG} {tt : TT} {te : TE} {wi : TI} {vs : List Nat} {σ' : ω → St} {Fx : α → ω → List Fact} {mi : Option (List α)} {mt : α → Option Bool} {me : α → Option β}
    (hi : SimI G O O0 wi σ mi T) (tg : TgOk g (wipe σ vs) T σ' Fx) (hw : ∀ w, wipe (σ' w) vs = wipe σ vs) (hO : O0.Sublist O)
    (ht : ∀ a w, SimT (Fx a w ++ G) O tt (σ' w) (mt a)) (he : ∀ a w, Sim (Fx a w ++ G) O te (σ' w) (me a) U) :
    SimF G O (tLc wi g tt te vs) σ (mi.bind fun xs => x_comp mt me xs) (oL U) := fun S H F r hG w hm Q k => by
  obtain ⟨xs, h1, hm⟩ := bind_some hm
  unfold x_comp at hm
  split at hm
  case isFalse => cases hm
  case isTrue hz =>
  refine hi S H F xs hG w h1 _ fun J S1 H1 s1 w1 jok D hD => ?_
  have sub : O0.Sublist (O ++ F) := hO.trans (List.sublist_append_left _ _)
  refine ⟨fun i m H' => m = xs.length - i ∧ i ≤ xs.length ∧ ∃ S' acc us rest, Same S1 S' ∧ Wd S' ([(D, .lst us)] :: (O ++ F)) H' ∧ Rl U S' acc us ∧ acc.length ≤ i ∧ compM mt me (xs.drop i) = some rest ∧ r = acc ++ rest,
    ⟨xs.length, by simp, Nat.zero_le _, S1, [], [], r, Same.refl _, w1.newO hD, .nil, Nat.le_refl _, by simpa using hm, rfl⟩, ?_⟩
  rintro i m H' ⟨rfl, hi', S', acc, us, rest, s', w', ra, hl, hc, rfl⟩
  have jk := jok S' H' s' (w'.tail.sub sub)
  by_cases hlt : i < xs.length
  · have hd : xs.drop i = xs[i] :: xs.drop (i + 1) := (List.drop_eq_getElem_cons hlt)
    rw [hd] at hc
    obtain ⟨go, yl⟩ := jk.1 i xs[i] (by simp [hlt])
    have hz2 : us.length < sizeLine := by rw [← ra.length]; omega
    refine .inr ⟨go, fun H2 => ∃ S2 acc2 us2 rest2, Same S1 S2 ∧ Wd S2 ([(D, .lst us2)] :: (O ++ F)) H2 ∧ Rl U S2 acc2 us2 ∧ acc2.length ≤ i + 1 ∧ compM mt me (xs.drop (i + 1)) = some rest2 ∧ acc ++ rest = acc2 ++ rest2,
      fun H2 q => ⟨xs.length - (i + 1), by omega, rfl, hlt, q⟩, fun x H2 y => ?_⟩
    obtain ⟨S2, s2, rx, wk⟩ := yl x H2 y
    have w2 := wk _ w'
    refine tg xs[i] x S2 H2 _ rx w2.st fun wt ok => ⟨hw wt, ?_⟩
    obtain ⟨b, hb, hc⟩ := bind_some hc
    have hG2 : Okc (Fx xs[i] wt ++ G) S2 := ok.append (hG.mono (s1.trans (s'.trans s2)))
    refine ht xs[i] wt S2 H2 ([(D, .lst us)] :: F) b hG2 (w2.perm (perm_mid _ _ _)) hb _ fun S3 H3 s3 w3 => ?_
    cases b with
    | false =>
      rw [if_neg Bool.false_ne_true]
      rw [if_neg Bool.false_ne_true] at hc
      exact ⟨S3, acc, us, rest, s'.trans (s2.trans s3), w3.perm (perm_mid _ _ _).symm, ra.mono (s2.trans s3), by omega, hc, rfl⟩
    | true =>
      rw [if_pos rfl]
      rw [if_pos rfl] at hc
      obtain ⟨y, hy, hc⟩ := bind_some hc
      obtain ⟨ys, hys, hc⟩ := bind_some hc
      cases hc
      refine he xs[i] wt S3 H3 ([(D, .lst us)] :: F) y (hG2.mono s3) w3 hy _ fun v S4 H4 s4 w4 rv => ?_
      have w5 := w4.perm (perm_mid _ _ _).symm
      exact ⟨us, w5.hd1, hz2, S4, acc ++ [y], us ++ [v], ys, s'.trans (s2.trans (s3.trans s4)), w5.put1 _, (ra.mono (s2.trans (s3.trans s4))).append (Rl.one rv), by simp; omega, hys, by simp⟩
  · have e : i = xs.length := by omega
    subst e
    rw [List.drop_length] at hc
    cases hc
    rw [List.append_nil] at k
    exact .inl ⟨jk.2, k D _ S' H' (s1.trans s') w' ⟨us, rfl, ra⟩⟩

/-! ### calls -/
/-- the promise of a def that changes nothing -/
def spP (A : TyA α) (m : α → Option β) (U : Ty β) : Sp := fun vs H Q _ => ∃ (S : Hp) (F : Ow) (a : α) (r : β), A.rep a vs S ∧ Wd S F H ∧ m a = some r ∧ ∀ v S' H', Same S S' → Wd S' F H' → U.rep r v S' → Q v H'
theorem sim_call {A : TyA α} {f : α → Option β} {ta : TA} {ma : Option α} {E : XK} (h : SimA G O ta σ ma A) : Sim G O (tCall (spP A f U) [] E ta) σ (ma.bind fun a => f a) U := fun S H F r hG w hm Q k => by
  obtain ⟨a, h1, hm⟩ := bind_some hm
  refine h S H F a hG w h1 _ fun vs S1 H1 s1 w1 q1 => ?_
  refine ⟨S1, O ++ F, a, r, ?_, w1, hm, fun v S2 H2 s2 w2 q2 => k v S2 H2 (s1.trans s2) w2 q2⟩
  rw [List.append_nil]
  exact q1
/-- o.m(..) -/
theorem sim_meth {C : Addr} {mn : Str} {A : TyA β} {f : α × β → Option γ} {W : Ty γ} {to : TE} {ta : TA} {mo : Option α} {ma : Option β} {E : XK} (hI : ∀ a v S, T.rep a v S → ∃ p dx fs, v = .ref p ∧ S p = some (.ins C dx fs) ∧ fs.lookup mn = none)
    (ho : Sim G O to σ mo T) (ha : SimA G O ta σ ma A) : Sim G O (tMeth C mn (spP (TyA.c T A) f W) [] E to ta) σ (mo.bind fun o => ma.bind fun a => f (o, a)) W := fun S H F r hG w hm Q k => by
  obtain ⟨o, h1, hm⟩ := bind_some hm
  obtain ⟨a, h2, hm⟩ := bind_some hm
  refine ho S H F o hG w h1 _ fun x S1 H1 s1 w1 q1 => ?_
  obtain ⟨p, dx, fs, rfl, g, l⟩ := hI _ _ _ q1
  refine ⟨p, dx, fs, rfl, w1.st _ _ g, l, ?_⟩
  refine ha S1 H1 F a (hG.mono s1) w1 h2 _ fun vs S2 H2 s2 w2 q2 => ?_
  refine ⟨S2, O ++ F, (o, a), r, ⟨_, _, by rw [List.append_nil], T.mono s2 q1, q2⟩, w2, hm, fun v S3 H3 s3 w3 q3 => k v S3 H3 ((s1.trans s2).trans s3) w3 q3⟩
/-- o.f -/
theorem sim_fld {f : Str} {g : α → β} {to : TE} {mo : Option α} (hF : ∀ a v S, T.rep a v S → ∃ p C dx fs u, v = .ref p ∧ S p = some (.ins C dx fs) ∧ Cls K C ∧ NoAttr K C f ∧ fs.lookup f = some u ∧ U.rep (g a) u S)
    (ho : Sim G O to σ mo T) : Sim G O (tFld K to f) σ (mo.bind fun o => some (g o)) U := fun S H F r hG w hm Q k => by
  obtain ⟨o, h1, hm⟩ := bind_some hm
  cases hm
  refine ho S H F o hG w h1 _ fun x S1 H1 s1 w1 q1 => ?_
  obtain ⟨p, C, dx, fs, u, rfl, e, c, n, l, q⟩ := hF _ _ _ q1
  exact ⟨p, C, dx, fs, u, rfl, w1.st _ _ e, c, n, l, k u S1 H1 s1 w1 q⟩

/-! ### statements -/
variable {S H : Hp} {D : Ends} {out : ρ} {u t t' : TS}
theorem k_set {te : TE} {i : Nat} {ma : Option α} {k : α → Option ρ} (hG : Okc G S) (W : Wd S (O ++ F) H) (hm : ma.bind k = some out) (hs : Sim G O te σ ma T) (next : ∀ a v S H, Okc (T.f a v :: G) S → Wd S (O ++ F) H → k a = some out → u D (σ.set i (some v)) H) : tSeq (tAsg te (gName i)) u D σ H := by
  obtain ⟨a, h1, h2⟩ := bind_some hm
  exact hs S H F a hG W h1 _ fun v S' H' s w q => next a v S' H' ⟨q, hG.mono s⟩ w h2
/-- a fresh object of one's own -/
theorem k_setO {OT : OTy α} {te : TE} {i : Nat} {ma : Option α} {k : α → Option ρ} (hG : Okc G S) (W : Wd S (O ++ F) H) (hm : ma.bind k = some out) (hs : SimF G O te σ ma OT)
    (next : ∀ a p c S H, Okc (OT.f a p c :: G) S → Wd S ((c :: O) ++ F) H → k a = some out → u D (σ.set i (some (.ref p))) H) : tSeq (tAsg te (gName i)) u D σ H := by
  obtain ⟨a, h1, h2⟩ := bind_some hm
  exact hs S H F a hG W h1 _ fun p c S' H' s w q => next a p c S' H' ⟨q, hG.mono s⟩ w h2
/-- an owned object stays as it is from now on -/
theorem k_frz {OT : OTy α} {p : Addr} {c : List Cell} {g : α} {P : Prop} (hG : Okc G S) (W : Wd S (O ++ F) H) (fr : Frz OT T) (o j : Nat) (ho : O[o]? = some c) (hf : G[j]? = some (OT.f g p c))
    (next : ∀ S, Okc (T.f g (.ref p) :: G) S → Wd S (O.eraseIdx o ++ F) H → P) : P := by
  obtain ⟨s, w, n⟩ := W.frz o ho
  have r : OT.rep g p c S := Okc.at j hf hG
  exact next _ ⟨fr _ _ _ _ (OT.mono s r) n, hG.mono s⟩ w
theorem k_if {c : TT} {mc : Option Bool} {A B : Option ρ} (hG : Okc G S) (W : Wd S (O ++ F) H) (hm : (mc.bind fun b => if b = true then A else B) = some out) (hc : SimT G O c σ mc) (h1 : ∀ S H, Okc G S → Wd S (O ++ F) H → A = some out → t { D with nx := u D } σ H) (h2 : ∀ S H, Okc G S → Wd S (O ++ F) H → B = some out → t' { D with nx := u D } σ H) : tSeq (tIfS c t t') u D σ H := by
  obtain ⟨b, e1, e2⟩ := bind_some hm
  refine hc S H F b hG W e1 _ fun S' H' s w => ?_
  cases b with
  | true => exact h1 S' H' (hG.mono s) w e2
  | false => exact h2 S' H' (hG.mono s) w e2
theorem k_ret {te : TE} {m : Option ρ} {R : Ty ρ} (hG : Okc G S) (W : Wd S (O ++ F) H) (hm : m = some out) (hs : Sim G O te σ m R) (next : ∀ v S H, Okc G S → Wd S (O ++ F) H → R.rep out v S → D.rt v H) : tSeq (tRet te) u D σ H :=
  hs S H F out hG W hm _ fun v S' H' s w q => next v S' H' (hG.mono s) w q
theorem k_drop {te : TE} {m : Option α} {k : α → Option ρ} (hG : Okc G S) (W : Wd S (O ++ F) H) (hm : m.bind k = some out) (hs : Sim G O te σ m T) (next : ∀ a S H, Okc G S → Wd S (O ++ F) H → k a = some out → u D σ H) : tSeq (tDrop te) u D σ H := by
  obtain ⟨a, h1, h2⟩ := bind_some hm
  exact hs S H F a hG W h1 _ fun v S' H' s w q => next a S' H' (hG.mono s) w h2
/-- xs.append(e), xs one's own -/
def x_app (xs : List α) (y : α) : Option (List α) := if xs.length < sizeLine then some (xs ++ [y]) else none
theorem k_app {te : TE} {i : Nat} {p : Addr} {c : List Cell} {xs : List α} {my : Option α} {k : List α → Option ρ} (hG : Okc G S) (W : Wd S (O ++ F) H) (hm : (my.bind fun y => (x_app xs y).bind k) = some out)
    (o j : Nat) (hi : σ[i]? = some (some (.ref p))) (ho : O[o]? = some c) (hf : G[j]? = some ((oL T).f xs p c)) (hs : Sim G O te σ my T)
    (next : ∀ y c' S H, Okc ((oL T).f (xs ++ [y]) p c' :: G) S → Wd S (O.set o c' ++ F) H → k (xs ++ [y]) = some out → u D σ H) : tSeq (tDrop (tBM K "list" rAppend (tVar i) (tCons te tNil))) u D σ H := by
  obtain ⟨y, h1, hm⟩ := bind_some hm
  obtain ⟨z, h2, hm⟩ := bind_some hm
  obtain ⟨hz, rfl⟩ := of_if h2
  obtain ⟨vs0, e0, r0⟩ := (Okc.at j hf hG : (oL T).rep xs p c S)
  subst e0
  refine ⟨.ref p, hi, .inl ⟨rfl, vs0, SqL.of (W.at1 ho)⟩, ?_⟩
  refine hs S H F y hG W h1 _ fun v S1 H1 s1 w1 q1 => ?_
  have r := r0.mono s1
  exact ⟨p, vs0, v, rfl, rfl, w1.at1 ho, by rw [← r.length]; exact hz, next y _ S1 _ ⟨⟨_, rfl, r.append (Rl.one q1)⟩, hG.mono s1⟩ (w1.put o ho _) hm⟩
/-- xs[i] = e, xs one's own -/
def x_set (xs : List α) (i : Int) (y : α) : Option (List α) := (ixN xs.length i).bind fun j => some (xs.set j y)
theorem k_put {te ti : TE} {i : Nat} {p : Addr} {c : List Cell} {xs : List α} {my : Option α} {mi : Option Int} {k : List α → Option ρ} (hG : Okc G S) (W : Wd S (O ++ F) H) (hm : (my.bind fun y => mi.bind fun n => (x_set xs n y).bind k) = some out)
    (o j : Nat) (hi : σ[i]? = some (some (.ref p))) (ho : O[o]? = some c) (hf : G[j]? = some ((oL T).f xs p c)) (hs : Sim G O te σ my T) (hx : Sim G O ti σ mi tInt)
    (next : ∀ xs' c' S H, Okc ((oL T).f xs' p c' :: G) S → Wd S (O.set o c' ++ F) H → k xs' = some out → u D σ H) : tSeq (tAsg te (gSub (tVar i) ti rSetL)) u D σ H := by
  obtain ⟨y, h1, hm⟩ := bind_some hm
  obtain ⟨n, h2, hm⟩ := bind_some hm
  obtain ⟨z, h3, hm⟩ := bind_some hm
  obtain ⟨l, h4, h5⟩ := bind_some h3
  cases h5
  obtain ⟨vs, e0, r0⟩ := (Okc.at j hf hG : (oL T).rep xs p c S)
  subst e0
  refine hs S H F y hG W h1 _ fun v S1 H1 s1 w1 q1 => ⟨.ref p, hi, ?_⟩
  refine hx S1 H1 F n (hG.mono s1) w1 h2 _ fun x S2 H2 s2 w2 q2 => ?_
  have r := r0.mono (s1.trans s2)
  exact ⟨p, vs, n, l, rfl, q2, w2.at1 ho, by rw [← r.length]; exact h4, next _ _ S2 _ ⟨⟨_, rfl, r.set (T.mono s2 q1) l⟩, hG.mono (s1.trans s2)⟩ (w2.put o ho _) hm⟩

/-! ### loops -/
def foldO (f : β → α → Option β) : β → List α → Option β
  | b, [] => some b
  | b, x :: xs => (f b x).bind fun b' => foldO f b' xs
/-- left by return or break: kn goes on, kb leaves -/
def forK (f : β → α → (β → Option γ) → (β → Option γ) → Option γ) (k : β → Option γ) : List α → β → Option γ
  | [], b => k b
  | x :: xs, b => f b x (fun b' => forK f k xs b') k
theorem k_forK {ω τ : Type} {wi : TI} {g : TG} {tb : TS} {mi : Option (List α)} {f : β → α → (β → Option ρ) → (β → Option ρ) → Option ρ} {k : β → Option ρ} {b0 : β} (w0 : ω) {σJ : β → ω → St} {OJ : β → ω → Ow} {Fb : β → ω → List Fact} {σT : β → ω → τ → St} {Fx : α → τ → List Fact} (hG : Okc G S) (W : Wd S (O ++ F) H) (hm : (mi.bind fun xs => forK f k xs b0) = some out) (hi : SimI G O O0 wi σ mi T) (tg : ∀ b w, TgOk g (σJ b w) T (σT b w) Fx) (hsub : ∀ b w, O0.Sublist (OJ b w)) (eσ : σ = σJ b0 w0) (eO : O = OJ b0 w0) (e0 : ∀ S, Okc G S → Okc (Fb b0 w0 ++ G) S) (step : ∀ S1 a b w x S H kn, f b a kn k = some out → Okc (Fx a x ++ (Fb b w ++ (fS S1 :: G))) S → Wd S (OJ b w ++ F) H → ∀ N : St → Hp → Prop,
      (∀ b' w' S' H', kn b' = some out → Okc (Fb b' w' ++ (fS S1 :: G)) S' → Wd S' (OJ b' w' ++ F) H' → N (σJ b' w') H') →
      (∀ b' w' S' H', k b' = some out → Okc (Fb b' w' ++ (fS S1 :: G)) S' → Wd S' (OJ b' w' ++ F) H' → u D (σJ b' w') H') → tb { D with nx := N, ct := N, bk := u D } (σT b w x) H) (next : ∀ b w S H, k b = some out → Okc (Fb b w ++ G) S → Wd S (OJ b w ++ F) H → u D (σJ b w) H) : tSeq (tFor wi g tb) u D σ H := by
  obtain ⟨xs, h1, hm⟩ := bind_some hm
  refine hi S H F xs hG W h1 _ fun J S1 H1 s1 w1 jok => ?_
  subst eσ eO
  have e0' := e0 S1 (hG.mono s1)
  have drp : ∀ {b w S}, Okc (Fb b w ++ (fS S1 :: G)) S → Okc (Fb b w ++ G) S := fun h => (Okc.left h).append h.right.2
  refine ⟨fun i m σ' H' => m = xs.length - i ∧ i ≤ xs.length ∧ ∃ b w S', σ' = σJ b w ∧ Okc (Fb b w ++ (fS S1 :: G)) S' ∧ Wd S' (OJ b w ++ F) H' ∧ forK f k (xs.drop i) b = some out,
    ⟨xs.length, by simp, Nat.zero_le _, b0, w0, S1, rfl, (Okc.left e0').append ⟨Same.refl _, hG.mono s1⟩, w1, by simpa using hm⟩, ?_⟩
  rintro i m σ' H' ⟨rfl, hi', b, w, S', rfl, ok, w', hf⟩
  have jk := jok S' H' ok.right.1 (w'.sub ((hsub b w).trans (List.sublist_append_left _ _)))
  by_cases hlt : i < xs.length
  · have hd : xs.drop i = xs[i] :: xs.drop (i + 1) := (List.drop_eq_getElem_cons hlt)
    rw [hd] at hf
    obtain ⟨go, yl⟩ := jk.1 i xs[i] (by simp [hlt])
    refine .inr ⟨go, fun σ2 H2 => ∃ b w S', σ2 = σJ b w ∧ Okc (Fb b w ++ (fS S1 :: G)) S' ∧ Wd S' (OJ b w ++ F) H2 ∧ forK f k (xs.drop (i + 1)) b = some out,
      fun σ2 H2 q => ⟨xs.length - (i + 1), by omega, rfl, hlt, q⟩, fun x H2 y => ?_⟩
    obtain ⟨S2, s2, rx, wk⟩ := yl x H2 y
    have w2 := wk _ w'
    refine tg b w xs[i] x S2 H2 _ rx w2.st fun wt okt => ?_
    exact step S1 xs[i] b w wt S2 H2 _ hf (okt.append (ok.mono s2)) w2 _ (fun b' w' S3 H3 e ok' w3 => ⟨b', w', S3, rfl, ok', w3, e⟩) fun b' w' S3 H3 e ok' w3 => next b' w' S3 H3 e (drp ok') w3
  · have e : i = xs.length := by omega
    subst e
    rw [List.drop_length] at hf
    exact .inl ⟨jk.2, next b w S' H' hf (drp ok) w'⟩
theorem k_fold {ω τ : Type} {wi : TI} {g : TG} {tb : TS} {mi : Option (List α)} {f : β → α → Option β} {k : β → Option ρ} {b0 : β} (w0 : ω) {σJ : β → ω → St} {OJ : β → ω → Ow} {Fb : β → ω → List Fact} {σT : β → ω → τ → St} {Fx : α → τ → List Fact} (hG : Okc G S) (W : Wd S (O ++ F) H) (hm : (mi.bind fun xs => (foldO f b0 xs).bind k) = some out) (hi : SimI G O O0 wi σ mi T) (tg : ∀ b w, TgOk g (σJ b w) T (σT b w) Fx) (hsub : ∀ b w, O0.Sublist (OJ b w)) (eσ : σ = σJ b0 w0) (eO : O = OJ b0 w0) (e0 : ∀ S, Okc G S → Okc (Fb b0 w0 ++ G) S) (step : ∀ S1 a b b' w x S H, f b a = some b' → Okc (Fx a x ++ (Fb b w ++ (fS S1 :: G))) S → Wd S (OJ b w ++ F) H → ∀ N : St → Hp → Prop,
      (∀ w' S' H', Okc (Fb b' w' ++ (fS S1 :: G)) S' → Wd S' (OJ b' w' ++ F) H' → N (σJ b' w') H') → tb { D with nx := N, ct := N, bk := u D } (σT b w x) H) (next : ∀ b w S H, k b = some out → Okc (Fb b w ++ G) S → Wd S (OJ b w ++ F) H → u D (σJ b w) H) : tSeq (tFor wi g tb) u D σ H := by
  have conv : ∀ (xs : List α) (b : β), (foldO f b xs).bind k = forK (fun b a kn _ => (f b a).bind kn) k xs b := fun xs => by
    induction xs with
    | nil => intro b; rfl
    | cons x xs ih =>
      intro b
      show ((f b x).bind fun b' => foldO f b' xs).bind k = (f b x).bind fun b' => forK _ k xs b'
      rw [Option.bind_assoc]
      congr 1
      funext b'
      exact ih b'
  refine k_forK (f := fun b a kn _ => (f b a).bind kn) (k := k) w0 hG W ?_ hi tg hsub eσ eO e0 ?_ next
  · rw [← hm]
    congr 1
    funext xs
    exact (conv xs b0).symm
  · intro S1 a b w x S H kn e ok w' N hN _
    obtain ⟨b', e1, e2⟩ := bind_some e
    exact step S1 a b b' w x S H e1 ok w' N fun w' S' H' => hN b' w' S' H' e2
def whileO (c : β → Option Bool) (f : β → Option β) : Nat → β → Option β
  | 0, _ => none
  | n + 1, b => (c b).bind fun t => if t = true then (f b).bind fun b' => whileO c f n b' else some b
theorem k_while {ω : Type} {tc : TT} {tb : TS} {n : Nat} {mc : β → Option Bool} {f : β → Option β} {k : β → Option ρ} {b0 : β} (w0 : ω) {σJ : β → ω → St} {OJ : β → ω → Ow} {Fb : β → ω → List Fact} (hG : Okc G S) (W : Wd S (O ++ F) H) (hm : (whileO mc f n b0).bind k = some out) (hc : ∀ b w, SimT (Fb b w ++ G) (OJ b w) tc (σJ b w) (mc b)) (eσ : σ = σJ b0 w0) (eO : O = OJ b0 w0) (e0 : ∀ S, Okc G S → Okc (Fb b0 w0 ++ G) S) (step : ∀ b b' w S H, f b = some b' → Okc (Fb b w ++ G) S → Wd S (OJ b w ++ F) H → ∀ N : St → Hp → Prop,
      (∀ w' S' H', Okc (Fb b' w' ++ G) S' → Wd S' (OJ b' w' ++ F) H' → N (σJ b' w') H') → tb { D with nx := N, ct := N, bk := u D } (σJ b w) H) (next : ∀ b w S H, k b = some out → Okc (Fb b w ++ G) S → Wd S (OJ b w ++ F) H → u D (σJ b w) H) : tSeq (tWhile tc tb) u D σ H := by
  subst eσ eO
  refine ⟨fun m σ' H' => ∃ b w S', σ' = σJ b w ∧ Okc (Fb b w ++ G) S' ∧ Wd S' (OJ b w ++ F) H' ∧ (whileO mc f m b).bind k = some out, ⟨n, b0, w0, S, rfl, e0 S hG, W, hm⟩, ?_⟩
  rintro m σ' H' ⟨b, w, S', rfl, ok, w', hf⟩
  cases m with
  | zero => cases hf
  | succ m =>
    have hf : ((mc b).bind fun t => if t = true then (f b).bind fun b' => whileO mc f m b' else some b).bind k = some out := hf
    rw [Option.bind_assoc] at hf
    obtain ⟨t, h1, h2⟩ := bind_some hf
    refine hc b w S' H' F t ok w' h1 _ fun S2 H2 s2 w2 => ?_
    cases t with
    | false =>
      rw [if_neg Bool.false_ne_true] at h2 ⊢
      exact next b w S2 H2 h2 (ok.mono s2) w2
    | true =>
      rw [if_pos rfl] at h2 ⊢
      rw [Option.bind_assoc] at h2
      obtain ⟨b', h3, h4⟩ := bind_some h2
      refine ⟨fun σ' H' => ∃ w S', σ' = σJ b' w ∧ Okc (Fb b' w ++ G) S' ∧ Wd S' (OJ b' w ++ F) H', fun σ2 H2 ⟨w2, S2, e, ok2, ww⟩ => ⟨m, Nat.lt_succ_self m, b', w2, S2, e, ok2, ww, h4⟩, ?_⟩
      exact step b b' w S2 H2 h3 (ok.mono s2) w2 _ fun w' S3 H3 ok3 w3 => ⟨w', S3, rfl, ok3, w3⟩
/-- two ways that meet again -/
theorem k_ifj {ω : Type} {c : TT} {mc : Option Bool} {A B : Option β} {k : β → Option ρ} {σJ : β → ω → St} {OJ : β → ω → Ow} {Fb : β → ω → List Fact} (hG : Okc G S) (W : Wd S (O ++ F) H) (hm : ((mc.bind fun b => if b = true then A else B).bind k) = some out) (hc : SimT G O c σ mc) (h1 : ∀ S H b, A = some b → Okc G S → Wd S (O ++ F) H → ∀ N : St → Hp → Prop, (∀ w S H, Okc (Fb b w ++ G) S → Wd S (OJ b w ++ F) H → N (σJ b w) H) → t { D with nx := N } σ H) (h2 : ∀ S H b, B = some b → Okc G S → Wd S (O ++ F) H → ∀ N : St → Hp → Prop, (∀ w S H, Okc (Fb b w ++ G) S → Wd S (OJ b w ++ F) H → N (σJ b w) H) → t' { D with nx := N } σ H) (next : ∀ b w S H, Okc (Fb b w ++ G) S → Wd S (OJ b w ++ F) H → k b = some out → u D (σJ b w) H) : tSeq (tIfS c t t') u D σ H := by
  obtain ⟨b, e0, e2⟩ := bind_some hm
  obtain ⟨d, e0, e1⟩ := bind_some e0
  refine hc S H F d hG W e0 _ fun S' H' s w => ?_
  cases d with
  | true => exact h1 S' H' b e1 (hG.mono s) w _ fun w S H ok ww => next b w S H ok ww e2
  | false => exact h2 S' H' b e1 (hG.mono s) w _ fun w S H ok ww => next b w S H ok ww e2
/-- a way that may leave, and what follows -/
def joinK (k : β → Option γ) (body : (β → Option γ) → Option γ) : Option γ := body k
theorem k_join {ω : Type} {k : β → Option ρ} {body : (β → Option ρ) → Option ρ} {σJ : β → ω → St} {OJ : β → ω → Ow} {Fb : β → ω → List Fact} {P : Prop} (hm : joinK k body = some out)
    (next : ∀ b w S H, k b = some out → Okc (Fb b w ++ G) S → Wd S (OJ b w ++ F) H → u D (σJ b w) H)
    (main : (∀ b w S H, k b = some out → Okc (Fb b w ++ G) S → Wd S (OJ b w ++ F) H → u D (σJ b w) H) → body k = some out → P) : P := main next hm
end
end HF

set_option Elab.async false
set_option linter.all false
set_option maxRecDepth 100000
set_option maxHeartbeats 2000000
/-! Mini4: defs by name. -/
namespace HF
open PySem PySem.Spec L2
open PyProof.Rows hiding St
/-- a def that may be called by its name -/
structure Cal (CX : CXT) (P : Program) (w : World) (K : PySem.W.Frag) (mg : Str → Option Value) (base : Heap) (k : Nat) (x : Str) (sp : Sp) : Prop where
  ex : ∃ (f : Addr) (fd : FuncData) (ps : List Str), FnOk P w K mg base CX k f fd ps sp ∧ mg x = some (.ref f) ∧ PySem.W.keepIn K (.ref f) = true ∧ Binds K fd ps []
/-- a def of the text -/
structure DefAt (K : PySem.W.Frag) (mg : Str → Option Value) (x : Str) (st : Stmt) : Prop where
  ex : ∃ (f : Addr) (fd : FuncData), FunD K x x (defArgs st) (defBody st) (defScope st) [] [] f fd ∧ mg x = some (.ref f)
section
variable {CX : CXT} {P : Program} {w : World} {K : PySem.W.Frag} {mg : Str → Option Value} {base : Heap}
theorem cal_mk {x : Str} {st : Stmt} {N ps : List Str} {k : Nat} {sp : Sp} (D : DefAt K mg x st) (S : FnScope N ps (defScope st)) (len : ∀ vs H Q E, sp vs H Q E → vs.length = ps.length)
    (hb : ∀ (kV doc pm : Value) (an : Option Addr) (cdv ct : Value) (us : List Value), us.length = ps.length → bindArgs (PySem.W.fnOf x x (defArgs st) (defBody st) (defScope st) .none kV doc pm an cdv ct) ⟨us, []⟩ = pure (ps.zip us))
    (hbody : ∀ (f : Addr) (cdv : Value) (A : Around) (outer : List Env) (s : Shared) (H : Hp) (vs : List V) (Q : VK) (E : XK), Room k (A.deeper (envOfC x (defScope st) s.heap.objs.size f cdv)) → sp vs H Q E →
      ∃ t, PSs (cxOf CX P w K mg base N x (defScope st) f cdv A outer s H E) (defBody st) t ∧ t { nx := fun _ H' => Q .non H', rt := Q } (start N vs) H) : Cal CX P w K mg base (k + 1) x sp := by
  obtain ⟨f, fd, F, hm⟩ := D.ex
  exact ⟨f, fd, ps, F.ok S len (fun cdv A outer s H vs Q E hr h => hbody f cdv A outer s H vs Q E hr h), hm, F.kp, F.bindsN hb⟩
theorem Cal.mono {x : Str} {sp : Sp} {j k : Nat} (c : Cal CX P w K mg base j x sp) (h : j ≤ k) : Cal CX P w K mg base k x sp := by
  obtain ⟨f, fd, ps, F, a, b, d⟩ := c.ex
  exact ⟨f, fd, ps, F.mono h, a, b, d⟩
end
section
variable {X : Cx} {CX : CXT} {k j : Nat} {x : Str} {sp : Sp} {p pos : Pos} {e : Expr} {es : List Expr} {t : TA} {E : XK}
theorem pe_cal (c : Cal CX X.prog X.w X.K X.mg X.base k x sp) (hr : Room j X.A) (hk : k ≤ j) (hg : Gl X x) (hx : Passes CX X E) (ha : PA X (e :: es) t)
    (hdb : (x == ("__debug__" : Str)) = false := by decide) (he : starEach (e :: es) X.env = (false, eval e X.env) :: starEach es X.env := by rfl) (hpl : (backTo pos (starEach es X.env)).any (·.1) = false := by rfl) :
    PE X (.Call (.Name x p) (e :: es) [] pos) (tCall sp [] E t) := by
  obtain ⟨f, fd, ps, F, hm, kp, b⟩ := c.ex
  exact pe_call F (hr.mono hk) hg hm kp b .nil hx ha hdb he hpl
end
section
variable {α : Type} {β : Type}
theorem spP_len1 {T : Ty α} {m : α → Option β} {U : Ty β} : ∀ vs H Q E, spP (TyA.one T) m U vs H Q E → vs.length = 1 := fun vs H Q E ⟨S, F, a, r, ⟨v, e, _⟩, _⟩ => by rw [e]; rfl
end
end HF

set_option Elab.async false
set_option linter.all false
set_option maxRecDepth 100000
set_option maxHeartbeats 2000000
/-! Mini5: equality of data, in, isinstance, sums, dicts, what changes. -/
namespace HF
open PySem PySem.Spec L2
open PyProof.Rows hiding St
section
variable {α β γ ρ : Type} {G : List Fact} {O O0 F : Ow} {σ : St} {T : Ty α} {U : Ty β} {K : PySem.W.Frag}
/-! ### == of data -/
class Dat {α : Type} (T : Ty α) where
  enc : α → PyData
  dep : Nat
  dp : ∀ {K : PySem.W.Frag} {a : α} {v : V} {S H : Hp}, T.rep a v S → Same S H → Dp K H v (enc a)
  lay : ∀ a, (enc a).canLay0 = true
  dpt : ∀ a, (enc a).depth ≤ dep
  inj : ∀ a b, PyData.eqv (enc a) (enc b) = true ↔ a = b
instance : Dat tInt := ⟨.int, 0, fun h _ => by cases h; exact .int _, fun _ => rfl, fun _ => Nat.le_refl _, fun a b => by show (a == b) = true ↔ _; exact beq_iff_eq⟩
instance : Dat tBool := ⟨.bool, 0, fun h _ => by cases h; exact .bl _, fun _ => rfl, fun _ => Nat.le_refl _, fun a b => by show (a == b) = true ↔ _; exact beq_iff_eq⟩
def encO (e : α → PyData) : Option α → PyData
  | none => .none
  | some a => e a
theorem lay_all {e : α → PyData} (h : ∀ a, (e a).canLay0 = true) : ∀ xs : List α, PyData.canLayAll0 (xs.map e) = true
  | [] => rfl
  | x :: xs => by simp only [List.map_cons, PyData.canLayAll0, h x, lay_all h xs, Bool.and_self]
theorem dpt_all {e : α → PyData} {n : Nat} (h : ∀ a, (e a).depth ≤ n) : ∀ xs : List α, PyData.depthAll (xs.map e) ≤ n
  | [] => Nat.zero_le _
  | x :: xs => by simp only [List.map_cons, PyData.depthAll]; exact Nat.max_le.mpr ⟨h x, dpt_all h xs⟩
theorem inj_all {e : α → PyData} (h : ∀ a b, PyData.eqv (e a) (e b) = true ↔ a = b) : ∀ xs ys : List α, PyData.eqvAll (xs.map e) (ys.map e) = true ↔ xs = ys
  | [], [] => by simp [PyData.eqvAll]
  | [], _ :: _ => by simp [PyData.eqvAll]
  | _ :: _, [] => by simp [PyData.eqvAll]
  | x :: xs, y :: ys => by simp only [List.map_cons, PyData.eqvAll, Bool.and_eq_true, h x y, inj_all h xs ys, List.cons.injEq]
theorem dp_all [D : Dat T] {S H : Hp} : ∀ {xs : List α} {vs : List V}, Rl T S xs vs → Same S H → DpAll K H vs (xs.map D.enc)
  | _, _, .nil, _ => .nil
  | _, _, .cons r t, s => .cons (D.dp r s) (dp_all t s)
instance [D : Dat T] : Dat (tL T) := ⟨fun xs => .list (xs.map D.enc), D.dep + 1, fun ⟨p, vs, e, g, r⟩ s => by rw [e]; exact .lst (SqL.of (s _ _ g)) (dp_all r s), fun xs => lay_all D.lay xs, fun xs => Nat.succ_le_succ (dpt_all D.dpt xs), fun xs ys => by
  show PyData.eqvAll _ _ = true ↔ _
  exact inj_all D.inj xs ys⟩
instance [D : Dat T] : Dat (tT T) := ⟨fun xs => .tuple (xs.map D.enc), D.dep + 1, fun ⟨p, vs, e, g, r⟩ s => by rw [e]; exact .tup (SqT.of (s _ _ g)) (dp_all r s), fun xs => lay_all D.lay xs, fun xs => Nat.succ_le_succ (dpt_all D.dpt xs), fun xs ys => by
  show PyData.eqvAll _ _ = true ↔ _
  exact inj_all D.inj xs ys⟩
instance [D : Dat T] [D' : Dat U] : Dat (tP T U) := ⟨fun a => .tuple [D.enc a.1, D'.enc a.2], max D.dep D'.dep + 1, fun ⟨p, x, y, e, g, r1, r2⟩ s => by rw [e]; exact .tup (SqT.of (s _ _ g)) (.cons (D.dp r1 s) (.cons (D'.dp r2 s) .nil)),
  fun a => by simp only [PyData.canLay0, PyData.canLayAll0, D.lay, D'.lay, Bool.and_self],
  fun a => by
    simp only [PyData.depth, PyData.depthAll]
    have h1 := D.dpt a.1
    have h2 := D'.dpt a.2
    omega, fun a b => by
    show (PyData.eqv _ _ && (PyData.eqv _ _ && true)) = true ↔ _
    rw [Bool.and_true, Bool.and_eq_true, D.inj, D'.inj]
    obtain ⟨a1, a2⟩ := a
    obtain ⟨b1, b2⟩ := b
    simp⟩
theorem shaped_of [D : Dat T] (h : D.dep ≤ 64) (a : α) : SeqAt.shaped (D.enc a) = true := by
  unfold SeqAt.shaped
  rw [D.lay, decide_eq_true (Nat.le_trans (D.dpt a) h)]
  rfl
theorem eqv_dec [D : Dat T] [DecidableEq α] (a b : α) : PyData.eqv (D.enc a) (D.enc b) = decide (a = b) := by
  by_cases h : a = b
  · rw [decide_eq_true h]; exact (D.inj a b).mpr h
  · rw [decide_eq_false h]
    cases q : PyData.eqv (D.enc a) (D.enc b) with
    | false => rfl
    | true => exact absurd ((D.inj a b).mp q) h
theorem sim_eqD [D : Dat T] [DecidableEq α] {ta tb : TE} {ma mb : Option α} (ha : Sim G O ta σ ma T) (hb : Sim G O tb σ mb T) (h : D.dep ≤ 64 := by decide) : Sim G O (tOp (rEqD K) ta tb) σ (ma.bind fun a => mb.bind fun b => some (decide (a = b))) tBool :=
  sim_op2 (fun a b c x y S H F h1 h2 w e Q k => by
    cases e
    refine ⟨D.enc a, D.enc b, D.dp h1 w.st, D.dp h2 w.st, shaped_of h a, shaped_of h b, ?_⟩
    rw [eqv_dec]
    exact k _ S H (Same.refl _) w rfl) ha hb
theorem sim_neD [D : Dat T] [DecidableEq α] {ta tb : TE} {ma mb : Option α} (ha : Sim G O ta σ ma T) (hb : Sim G O tb σ mb T) (h : D.dep ≤ 64 := by decide) : Sim G O (tOp (rNeD K) ta tb) σ (ma.bind fun a => mb.bind fun b => some (!decide (a = b))) tBool :=
  sim_op2 (fun a b c x y S H F h1 h2 w e Q k => by
    cases e
    refine ⟨D.enc a, D.enc b, D.dp h1 w.st, D.dp h2 w.st, shaped_of h a, shaped_of h b, ?_⟩
    rw [eqv_dec]
    exact k _ S H (Same.refl _) w rfl) ha hb
/-! ### in -/
theorem any_enc [D : Dat T] [DecidableEq α] (a : α) : ∀ xs : List α, ((xs.map D.enc).any fun z => PyData.eqv z (D.enc a)) = decide (a ∈ xs)
  | [] => by simp
  | x :: xs => by
    rw [List.map_cons, List.any_cons, any_enc a xs, eqv_dec]
    by_cases h : x = a
    · subst h; simp
    · have h2 : ¬ a = x := fun e => h e.symm
      simp [h, h2]
theorem sim_in [D : Dat T] [DecidableEq α] {ta tb : TE} {ma : Option α} {mb : Option (List α)} (ha : Sim G O ta σ ma T) (hb : Sim G O tb σ mb (tL T)) (h : D.dep + 1 ≤ 64 := by decide) : Sim G O (tOp (rInD K) ta tb) σ (ma.bind fun a => mb.bind fun b => some (decide (a ∈ b))) tBool :=
  sim_op2 (fun a b c x y S H F h1 h2 w e Q k => by
    cases e
    obtain ⟨p, vs, rfl, g, r⟩ := h2
    refine ⟨D.enc a, b.map D.enc, D.dp h1 w.st, .lst (SqL.of (w.st _ _ g)) (dp_all r w.st), shaped_of (Nat.le_of_succ_le h) a, shaped_of (T := tL T) h b, ?_⟩
    rw [any_enc]
    exact k _ S H (Same.refl _) w rfl) ha hb
theorem sim_notIn [D : Dat T] [DecidableEq α] {ta tb : TE} {ma : Option α} {mb : Option (List α)} (ha : Sim G O ta σ ma T) (hb : Sim G O tb σ mb (tL T)) (h : D.dep + 1 ≤ 64 := by decide) : Sim G O (tOp (rNotInD K) ta tb) σ (ma.bind fun a => mb.bind fun b => some (!decide (a ∈ b))) tBool :=
  sim_op2 (fun a b c x y S H F h1 h2 w e Q k => by
    cases e
    obtain ⟨p, vs, rfl, g, r⟩ := h2
    refine ⟨D.enc a, b.map D.enc, D.dp h1 w.st, .lst (SqL.of (w.st _ _ g)) (dp_all r w.st), shaped_of (Nat.le_of_succ_le h) a, shaped_of (T := tL T) h b, ?_⟩
    rw [any_enc]
    exact k _ S H (Same.refl _) w rfl) ha hb
/-! ### an owned object looked at as if it were frozen, where a plain value comes out -/
def subG (S : Hp) (c : List Cell) : Hp := fun a => if a ∈ c.map (·.1) then none else S a
theorem Wd.unfrz {S H : Hp} {O : Ow} {c : List Cell} (W : Wd S O H) (hc : ∀ a o, (a, o) ∈ c → S a = some o) (nd : (c.map (·.1)).Nodup) : Wd (subG S c) (c :: O) H := by
  refine ⟨fun b u e => ?_, fun q u m => ?_, ?_⟩
  · unfold subG at e
    split at e
    · cases e
    · exact W.st b u e
  · rw [List.flatten_cons] at m
    rcases List.mem_append.mp m with m | m
    · refine ⟨W.st _ _ (hc q u m), ?_⟩
      unfold subG
      rw [if_pos (List.mem_map.mpr ⟨_, m, rfl⟩)]
    · obtain ⟨h1, h2⟩ := Wd0.ow W q u m
      refine ⟨h1, ?_⟩
      unfold subG
      split
      · rfl
      · exact h2
  · simp only [List.flatten_cons, List.map_append]
    refine List.nodup_append.mpr ⟨nd, Wd0.nd W, fun a ha b hb e => ?_⟩
    subst e
    obtain ⟨⟨q, u⟩, hm, e⟩ := List.mem_map.mp ha
    obtain ⟨⟨q', u'⟩, hm', e'⟩ := List.mem_map.mp hb
    have e1 : q = a := e
    have e2 : q' = a := e'
    subst e1
    subst e2
    have h1 := hc _ _ hm
    rw [(Wd0.ow W _ _ hm').2] at h1
    cases h1
theorem sim_peek {δ : Type} {OT : OTy α} {T : Ty α} {R : Ty δ} {p : Addr} {c : List Cell} {g : α} {t : TE} {m : Option δ} (o j : Nat) (ho : O[o]? = some c) (hf : G[j]? = some (OT.f g p c)) (fr : Frz OT T) (sc : ∀ a v S S', R.rep a v S → R.rep a v S')
    (h : Sim (T.f g (.ref p) :: G) (O.eraseIdx o) t σ m R) : Sim G O t σ m R := fun S H F r hG w hm Q k => by
  have w1 := w.perm (perm_front ho)
  obtain ⟨s, w2, n⟩ := w1.frzG
  have nd : (c.map (·.1)).Nodup := by
    have q := Wd0.nd w1
    simp only [List.flatten_cons, List.map_append] at q
    exact (List.nodup_append.mp q).1
  have free : ∀ a, a ∈ c.map (·.1) → S a = none := fun a m => by
    obtain ⟨⟨q, u⟩, hm, e⟩ := List.mem_map.mp m
    cases e
    exact (Wd0.ow w1 q u (List.mem_flatten.mpr ⟨c, List.mem_cons_self .., hm⟩)).2
  have r0 : OT.rep g p c S := Okc.at j hf hG
  refine h (addG S c) H F r ⟨fr _ _ _ _ (OT.mono s r0) n, hG.mono s⟩ w2 hm Q fun v S' H' s' w' q => ?_
  have w3 := w'.unfrz (fun a u m => s' _ _ (n a u m)) nd
  refine k v (subG S' c) H' (fun a u e => ?_) (w3.perm (perm_front ho).symm) (sc _ _ _ _ q)
  unfold subG
  rw [if_neg (fun z => by rw [free a z] at e; cases e)]
  exact s' _ _ (s _ _ e)
theorem sc_int : ∀ a v (S S' : Hp), tInt.rep a v S → tInt.rep a v S' := fun _ _ _ _ h => h
theorem sc_bool : ∀ a v (S S' : Hp), tBool.rep a v S → tBool.rep a v S' := fun _ _ _ _ h => h
theorem sc_unit : ∀ a v (S S' : Hp), tUnit.rep a v S → tUnit.rep a v S' := fun _ _ _ _ h => h
theorem sc_optInt : ∀ a v (S S' : Hp), (tO tInt).rep a v S → (tO tInt).rep a v S' := fun a _ _ _ h => by cases a <;> exact h
/-! ### builtins -/
theorem rl_int {S : Hp} {xs : List Int} {vs : List V} (r : Rl tInt S xs vs) : vs = xs.map V.int := by
  induction r with
  | nil => rfl
  | cons h t ih => rw [List.map_cons, ih, show _ = V.int _ from h]
theorem sim_sum {ta : TE} {ma : Option (List Int)} {TL : Ty (List Int)} [Lk O (oL tInt) TL] (ha : Sim G O ta σ ma TL) : Sim G O (tCB (rSum K) (tCons ta tNil)) σ (ma.bind fun a => some a.sum) tInt := fun S H F r hG w hm Q k => by
  obtain ⟨a, h1, hm⟩ := bind_some hm
  cases hm
  refine ha S H F a hG w h1 _ fun x S1 H1 s1 w1 q1 => ?_
  obtain ⟨p, vs, rfl, r, g⟩ := lkL (O := O) (T := tInt) q1
  exact ⟨p, a, rfl, SqL.of (by rw [g H1 F w1, rl_int r]), k _ S1 H1 s1 w1 rfl⟩
theorem rl_bools {S : Hp} {xs : List Bool} {vs : List V} (r : Rl tBool S xs vs) : vs = xs.map V.bl := by
  induction r with
  | nil => rfl
  | cons h t ih => rw [List.map_cons, ih, show _ = V.bl _ from h]
theorem sim_all {ta : TE} {ma : Option (List Bool)} {TL : Ty (List Bool)} [Lk O (oL tBool) TL] (ha : Sim G O ta σ ma TL) : Sim G O (tCB (rAll K) (tCons ta tNil)) σ (ma.bind fun a => some (a.all id)) tBool := fun S H F r hG w hm Q k => by
  obtain ⟨a, h1, hm⟩ := bind_some hm
  cases hm
  refine ha S H F a hG w h1 _ fun x S1 H1 s1 w1 q1 => ?_
  obtain ⟨p, vs, rfl, r, g⟩ := lkL (O := O) (T := tBool) q1
  exact ⟨p, a, rfl, SqL.of (by rw [g H1 F w1, rl_bools r]), k _ S1 H1 s1 w1 rfl⟩
theorem sim_any {ta : TE} {ma : Option (List Bool)} {TL : Ty (List Bool)} [Lk O (oL tBool) TL] (ha : Sim G O ta σ ma TL) : Sim G O (tCB (rAny K) (tCons ta tNil)) σ (ma.bind fun a => some (a.any id)) tBool := fun S H F r hG w hm Q k => by
  obtain ⟨a, h1, hm⟩ := bind_some hm
  cases hm
  refine ha S H F a hG w h1 _ fun x S1 H1 s1 w1 q1 => ?_
  obtain ⟨p, vs, rfl, r, g⟩ := lkL (O := O) (T := tBool) q1
  exact ⟨p, a, rfl, SqL.of (by rw [g H1 F w1, rl_bools r]), k _ S1 H1 s1 w1 rfl⟩
theorem sim_abs {ta : TE} {ma : Option Int} (ha : Sim G O ta σ ma tInt) : Sim G O (tCB (fun xs H Q => ∃ i, xs = [.int i] ∧ Q (.int (if i < 0 then -i else i)) H) (tCons ta tNil)) σ (ma.bind fun a => some (if a < 0 then -a else a)) tInt := fun S H F r hG w hm Q k => by
  obtain ⟨a, h1, hm⟩ := bind_some hm
  cases hm
  refine ha S H F a hG w h1 _ fun x S1 H1 s1 w1 q1 => ⟨a, by rw [show x = .int a from q1], k _ S1 H1 s1 w1 rfl⟩
theorem sim_intI {ta : TE} {ma : Option Int} (ha : Sim G O ta σ ma tInt) : Sim G O (tCB (fun xs H Q => (∃ i, xs = [.int i] ∧ Q (.int i) H) ∨ ∃ k, xs = [.bl k] ∧ Q (.int (if k then 1 else 0)) H) (tCons ta tNil)) σ ma tInt := fun S H F r hG w hm Q k => by
  refine ha S H F r hG w hm _ fun x S1 H1 s1 w1 q1 => .inl ⟨r, by rw [show x = .int r from q1], k _ S1 H1 s1 w1 rfl⟩
theorem sim_intB {ta : TE} {ma : Option Bool} (ha : Sim G O ta σ ma tBool) : Sim G O (tCB (fun xs H Q => (∃ i, xs = [.int i] ∧ Q (.int i) H) ∨ ∃ k, xs = [.bl k] ∧ Q (.int (if k then 1 else 0)) H) (tCons ta tNil)) σ (ma.bind fun b => some (if b = true then 1 else 0)) tInt := fun S H F r hG w hm Q k => by
  obtain ⟨a, h1, hm⟩ := bind_some hm
  cases hm
  refine ha S H F a hG w h1 _ fun x S1 H1 s1 w1 q1 => .inr ⟨a, by rw [show x = .bl a from q1], k _ S1 H1 s1 w1 rfl⟩
theorem sim_max2 {ta tb : TE} {ma mb : Option Int} (ha : Sim G O ta σ ma tInt) (hb : Sim G O tb σ mb tInt) : Sim G O (tCB (fun xs H Q => ∃ i j, xs = [.int i, .int j] ∧ Q (.int (if j > i then j else i)) H) (tCons ta (tCons tb tNil))) σ (ma.bind fun a => mb.bind fun b => some (max a b)) tInt := fun S H F r hG w hm Q k => by
  obtain ⟨a, h1, hm⟩ := bind_some hm
  obtain ⟨b, h2, hm⟩ := bind_some hm
  cases hm
  refine ha S H F a hG w h1 _ fun x S1 H1 s1 w1 q1 => ?_
  refine hb S1 H1 F b (hG.mono s1) w1 h2 _ fun y S2 H2 s2 w2 q2 => ⟨a, b, by rw [show x = .int a from q1, show y = .int b from q2], ?_⟩
  have e : (if b > a then b else a) = max a b := by split <;> omega
  rw [e]
  exact k _ S2 H2 (s1.trans s2) w2 rfl
theorem sim_min2 {ta tb : TE} {ma mb : Option Int} (ha : Sim G O ta σ ma tInt) (hb : Sim G O tb σ mb tInt) : Sim G O (tCB (fun xs H Q => ∃ i j, xs = [.int i, .int j] ∧ Q (.int (if j < i then j else i)) H) (tCons ta (tCons tb tNil))) σ (ma.bind fun a => mb.bind fun b => some (min a b)) tInt := fun S H F r hG w hm Q k => by
  obtain ⟨a, h1, hm⟩ := bind_some hm
  obtain ⟨b, h2, hm⟩ := bind_some hm
  cases hm
  refine ha S H F a hG w h1 _ fun x S1 H1 s1 w1 q1 => ?_
  refine hb S1 H1 F b (hG.mono s1) w1 h2 _ fun y S2 H2 s2 w2 q2 => ⟨a, b, by rw [show x = .int a from q1, show y = .int b from q2], ?_⟩
  have e : (if b < a then b else a) = min a b := by split <;> omega
  rw [e]
  exact k _ S2 H2 (s1.trans s2) w2 rfl
theorem sim_bitlen {to : TE} {m : Option Int} (h : Sim G O to σ m tInt) : Sim G O (tBits to) σ (m.bind fun i => some ((Builtin.Int.intBits i : Nat) : Int)) tInt := fun S H F r hG w hm Q k => by
  obtain ⟨a, h1, hm⟩ := bind_some hm
  cases hm
  exact h S H F a hG w h1 _ fun v S1 H1 s1 w1 q1 => ⟨a, q1, k _ S1 H1 s1 w1 rfl⟩
/-- isinstance against a built-in class, the answer known by the kind of the data -/
def IsI (T : Ty α) (c : String) (b : Bool) : Prop := ∀ (K : PySem.W.Frag) (a : α) (v : V) (S H : Hp), T.rep a v S → Same S H → ∃ t, TyX K H v t ∧ PySem.W.kitOne K t (.type c) = some b
theorem sim_isi {c : String} {b : Bool} {ta : TE} {ma : Option α} (hi : IsI T c b) (ha : Sim G O ta σ ma T) : Sim G O (tCB (rIsi K) (tCons ta (tCons (tC (.ty c)) tNil))) σ (ma.bind fun _ => some b) tBool := fun S H F r hG w hm Q k => by
  obtain ⟨a, h1, hm⟩ := bind_some hm
  cases hm
  refine ha S H F a hG w h1 _ fun x S1 H1 s1 w1 q1 => ?_
  obtain ⟨t, h2, h3⟩ := hi K a x S1 H1 q1 w1.st
  exact ⟨x, .ty c, t, .type c, b, rfl, .ty c, h2, h3, k _ S1 H1 s1 w1 rfl⟩
theorem isI_int_int : IsI tInt "int" true := fun K a v S H h s => by cases h; exact ⟨_, .base (.int _), kit_ty (by decide +kernel)⟩
theorem isI_int_bool : IsI tInt "bool" false := fun K a v S H h s => by cases h; exact ⟨_, .base (.int _), kit_ty (by decide +kernel)⟩
theorem isI_bool_bool : IsI tBool "bool" true := fun K a v S H h s => by cases h; exact ⟨_, .base (.bl _), kit_ty (by decide +kernel)⟩
theorem isI_tup_tuple : IsI (tT T) "tuple" true := fun K a v S H ⟨p, vs, e, g, _⟩ s => by subst e; exact ⟨_, .base (.tup (s _ _ g)), kit_ty (by decide +kernel)⟩
theorem isI_pair_tuple : IsI (tP T U) "tuple" true := fun K a v S H ⟨p, x, y, e, g, _⟩ s => by subst e; exact ⟨_, .base (.tup (s _ _ g)), kit_ty (by decide +kernel)⟩
theorem isI_list_list : IsI (tL T) "list" true := fun K a v S H ⟨p, vs, e, g, _⟩ s => by subst e; exact ⟨_, .base (.lst (s _ _ g)), kit_ty (by decide +kernel)⟩
theorem isI_list_tuple : IsI (tL T) "tuple" false := fun K a v S H ⟨p, vs, e, g, _⟩ s => by subst e; exact ⟨_, .base (.lst (s _ _ g)), kit_ty (by decide +kernel)⟩
theorem isI_tup_list : IsI (tT T) "list" false := fun K a v S H ⟨p, vs, e, g, _⟩ s => by subst e; exact ⟨_, .base (.tup (s _ _ g)), kit_ty (by decide +kernel)⟩
theorem sim_lenP {ta : TE} {ma : Option (α × β)} (ha : Sim G O ta σ ma (tP T U)) : Sim G O (tCB (rLn K) (tCons ta tNil)) σ (ma.bind fun _ => some 2) tInt := fun S H F r hG w hm Q k => by
  obtain ⟨a, h1, hm⟩ := bind_some hm
  cases hm
  refine ha S H F a hG w h1 _ fun x S1 H1 s1 w1 q1 => ?_
  obtain ⟨p, y, z, rfl, g, r⟩ := q1
  exact ⟨p, [y, z], rfl, .inr (SqT.of (w1.st _ _ g)), k _ S1 H1 s1 w1 rfl⟩
/-! ### records: dicts with written keys -/
def recKv (keys : List Str) (vs : List V) : List (Key × V) := (keys.map Sum.inr).zip vs
def oRec (keys : List Str) (A : TyA α) : OTy α := ⟨fun a p c S => ∃ vs, c = [(p, .dK (recKv keys vs))] ∧ vs.length = keys.length ∧ keys.Nodup ∧ A.rep a vs S, fun h ⟨vs, e, l, n, r⟩ => ⟨vs, e, l, n, A.mono h r⟩⟩
def tRec (keys : List Str) (A : TyA α) : Ty α := ⟨fun a v S => ∃ p vs, v = .ref p ∧ S p = some (.dK (recKv keys vs)) ∧ vs.length = keys.length ∧ keys.Nodup ∧ A.rep a vs S, fun h ⟨p, vs, e, g, l, n, r⟩ => ⟨p, vs, e, h _ _ g, l, n, A.mono h r⟩⟩
theorem frz_Rec {keys : List Str} {A : TyA α} : Frz (oRec keys A) (tRec keys A) := fun g p c S ⟨vs, e, l, n, r⟩ h => ⟨p, vs, rfl, h _ _ (by rw [e]; exact List.mem_cons_self ..), l, n, r⟩
instance {keys : List Str} {A : TyA α} : Lk O (oRec keys A) (tRec keys A) := ⟨fun _ _ _ ⟨p, vs, e, h, l, n, r⟩ => ⟨p, _, e, ⟨vs, rfl, l, n, r⟩, fun _ _ w a o m => by
  obtain ⟨rfl, rfl⟩ : a = p ∧ o = .dK (recKv keys vs) := by simpa using m
  exact w.st _ _ h⟩⟩
theorem valV_rec : ∀ {keys : List Str} {vs : List V} {i : Nat} {k : Str}, keys.Nodup → vs.length = keys.length → keys[i]? = some k → valV (recKv keys vs) (Sum.inr k : Key) = vs[i]?
  | [], _, _, _, _, _, h => by simp at h
  | x :: keys, [], _, _, _, h, _ => by simp at h
  | x :: keys, v :: vs, 0, k, _, _, h => by
    simp at h
    subst h
    exact valV_pos (p := ((Sum.inr x : Key), v)) rfl
  | x :: keys, v :: vs, i + 1, k, n, l, h => by
    have hk : keys[i]? = some k := by simpa using h
    have hne : ¬ ((Sum.inr x : Key) = Sum.inr k) := fun e => (List.nodup_cons.mp n).1 (by rw [Sum.inr.inj e]; exact List.mem_of_getElem? hk)
    show valV (((Sum.inr x : Key), v) :: recKv keys vs) _ = _
    rw [valV_neg (p := ((Sum.inr x : Key), v)) hne, valV_rec (List.nodup_cons.mp n).2 (by simpa using l) hk]
    simp
/-- the i-th place of a record -/
def Pj (A : TyA α) (i : Nat) (T : Ty β) (f : α → β) : Prop := ∀ a vs S, A.rep a vs S → ∃ v, vs[i]? = some v ∧ T.rep (f a) v S
theorem pj_one : Pj (TyA.one T) 0 T id := fun a vs S ⟨v, e, r⟩ => ⟨v, by rw [e]; rfl, r⟩
theorem pj_0 {A : TyA β} : Pj (TyA.c T A) 0 T Prod.fst := fun a vs S ⟨v, ws, e, r, _⟩ => ⟨v, by rw [e]; rfl, r⟩
theorem pj_s {A : TyA β} {i : Nat} {W : Ty γ} {f : β → γ} (h : Pj A i W f) : Pj (TyA.c T A) (i + 1) W (fun a => f a.2) := fun a vs S ⟨v, ws, e, _, r⟩ => by
  obtain ⟨x, h1, h2⟩ := h a.2 ws S r
  exact ⟨x, by rw [e]; exact h1, h2⟩
theorem sim_get {keys : List Str} {A : TyA α} {TR : Ty α} [Lk O (oRec keys A) TR] {i : Nat} {k : Str} {f : α → β} {td : TE} {md : Option α} (pj : Pj A i U f) (hk : keys[i]? = some k) (hd : Sim G O td σ md TR) :
    Sim G O (tDGet td (tC (.str k))) σ (md.bind fun a => some (f a)) U := fun S H F r hG w hm Q kk => by
  obtain ⟨a, h1, hm⟩ := bind_some hm
  cases hm
  refine hd S H F a hG w h1 _ fun x S1 H1 s1 w1 q1 => ?_
  obtain ⟨p, c, rfl, ⟨vs, rfl, l, n, r⟩, g⟩ := Lk.lk (O := O) _ _ _ q1
  obtain ⟨v, h2, h3⟩ := pj a vs S1 r
  have e := g H1 F w1 _ _ (List.mem_cons_self ..)
  refine ⟨p, v, rfl, ?_, kk v S1 H1 s1 w1 h3⟩
  have q := DGet.k (k := Sum.inr k) e
  rw [valV_rec n l hk, h2] at q
  exact q
/-- the display of a record -/
def SimPs (G : List Fact) (O : Ow) (trs : List (TE × TE)) (σ : St) (m : Option α) (keys : List Str) (A : TyA α) : Prop :=
  ∀ (S H : Hp) (F : Ow) (r : α), Okc G S → Wd S (O ++ F) H → m = some r → ∀ Q : List (V × V) → Hp → Prop, (∀ vs S' H', Same S S' → Wd S' (O ++ F) H' → vs.length = keys.length → A.rep r vs S' → Q ((keys.map V.str).zip vs) H') → tPairs trs σ H Q
theorem simPs_one {k : Str} {tv : TE} {m : Option α} (h : Sim G O tv σ m T) : SimPs G O [(tC (.str k), tv)] σ m [k] (TyA.one T) := fun S H F r hG w hm Q kk =>
  h S H F r hG w hm _ fun v S' H' s w' q => kk [v] S' H' s w' rfl ⟨v, rfl, q⟩
theorem simPs_c {k : Str} {keys : List Str} {tv : TE} {trs : List (TE × TE)} {A : TyA β} {ma : Option α} {mb : Option β} (h : Sim G O tv σ ma T) (hr : SimPs G O trs σ mb keys A) :
    SimPs G O ((tC (.str k), tv) :: trs) σ (ma.bind fun a => mb.bind fun b => some (a, b)) (k :: keys) (TyA.c T A) := fun S H F r hG w hm Q kk => by
  obtain ⟨a, h1, hm⟩ := bind_some hm
  obtain ⟨b, h2, hm⟩ := bind_some hm
  cases hm
  refine h S H F a hG w h1 _ fun v S1 H1 s1 w1 q1 => ?_
  exact hr S1 H1 F b (hG.mono s1) w1 h2 _ fun vs S2 H2 s2 w2 l q2 => kk (v :: vs) S2 H2 (s1.trans s2) w2 (congrArg Nat.succ l) ⟨v, vs, rfl, T.mono s2 q1, q2⟩
theorem any_key {kvs : List (Key × V)} {k : Key} (h : k ∉ kvs.map (·.1)) : (kvs.any fun kv => decide (kv.1 = k)) = false := by
  rw [Bool.eq_false_iff]
  intro z
  obtain ⟨p, hp, e⟩ := List.any_eq_true.mp z
  exact h (List.mem_map.mpr ⟨p, hp, of_decide_eq_true e⟩)
theorem merge_new : ∀ (kvs acc : List (Key × V)), ((acc ++ kvs).map (·.1)).Nodup → mergeK acc kvs = acc ++ kvs
  | [], acc, _ => by rw [List.append_nil]; rfl
  | kv :: kvs, acc, n => by
    have n1 : kv.1 ∉ acc.map (·.1) := fun m => by
      rw [List.map_append] at n
      exact (List.nodup_append.mp n).2.2 _ m _ (List.mem_map.mpr ⟨kv, List.mem_cons_self .., rfl⟩) rfl
    have e : putK acc kv.1 kv.2 = acc ++ [kv] := by
      unfold putK
      rw [any_key n1, if_neg Bool.false_ne_true]
    have q := merge_new kvs (acc ++ [kv]) (by rw [List.append_assoc]; exact n)
    show mergeK (putK acc kv.1 kv.2) kvs = _
    rw [e, q, List.append_assoc]
    rfl
theorem recKv_keys {keys : List Str} {vs : List V} (l : vs.length = keys.length) : (recKv keys vs).map (·.1) = keys.map Sum.inr := by
  unfold recKv
  rw [List.map_fst_zip]
  simp [l]
theorem nodup_inr {keys : List Str} (n : keys.Nodup) : (keys.map (Sum.inr : Str → Key)).Nodup := by
  induction keys with
  | nil => exact List.nodup_nil
  | cons x r ih =>
    obtain ⟨n1, n2⟩ := List.nodup_cons.mp n
    refine List.nodup_cons.mpr ⟨fun m => ?_, ih n2⟩
    obtain ⟨y, hy, e⟩ := List.mem_map.mp m
    exact n1 (by rw [← Sum.inr.inj e]; exact hy)
theorem zip_kV : ∀ (keys : List Str) (vs : List V), (keys.map V.str).zip vs = (recKv keys vs).map fun kv => (kV kv.1, kv.2)
  | [], _ => rfl
  | _ :: _, [] => rfl
  | k :: keys, v :: vs => by
    show (V.str k, v) :: (keys.map V.str).zip vs = (kV (Sum.inr k), v) :: (recKv keys vs).map _
    rw [zip_kV keys vs]
    rfl
theorem simF_disp {keys : List Str} {A : TyA α} {trs : List (TE × TE)} {m : Option α} (nd : keys.Nodup) (h15 : keys.length ≤ 15) (h : SimPs G O trs σ m keys A) : SimF G O (tDisp trs) σ m (oRec keys A) := fun S H F r hG w hm Q k => by
  intro p hp
  refine h S _ ([(p, .dK [])] :: F) r hG ((w.newO hp).perm (perm_mid _ _ _)) hm _ fun vs S' H' s w' l q => ?_
  have w2 := w'.perm (perm_mid _ _ _).symm
  refine ⟨w2.hd1, recKv keys vs, zip_kV keys vs, ?_, ?_⟩
  · unfold recKv
    rw [List.length_zip, List.length_map]
    omega
  · rw [merge_new _ [] (by rw [List.nil_append, recKv_keys l]; exact nodup_inr nd), List.nil_append]
    exact k p _ S' _ s (w2.put1 _) ⟨vs, rfl, l, nd, q⟩
/-- a record's place is written -/
theorem recKv_set : ∀ {keys : List Str} {vs : List V} {i : Nat} {k : Str} {v : V}, keys.Nodup → vs.length = keys.length → keys[i]? = some k → (recKv keys vs).map (fun kv => if kv.1 = (Sum.inr k : Key) then (kv.1, v) else kv) = recKv keys (vs.set i v)
  | [], _, _, _, _, _, _, h => by simp at h
  | x :: keys, [], _, _, _, _, h, _ => by simp at h
  | x :: keys, u :: vs, 0, k, v, n, l, h => by
    simp at h
    subst h
    show (if (Sum.inr x : Key) = Sum.inr x then ((Sum.inr x : Key), v) else _) :: (recKv keys vs).map _ = ((Sum.inr x : Key), v) :: recKv keys vs
    rw [if_pos rfl]
    congr 1
    have l' : vs.length = keys.length := by simpa using l
    have hn : (Sum.inr x : Key) ∉ (recKv keys vs).map (·.1) := fun m => by
      rw [recKv_keys l'] at m
      obtain ⟨y, hy, e⟩ := List.mem_map.mp m
      exact (List.nodup_cons.mp n).1 (by rw [← Sum.inr.inj e]; exact hy)
    refine (List.map_congr_left fun kv m => ?_).trans (List.map_id _)
    exact if_neg fun e => hn (List.mem_map.mpr ⟨kv, m, e⟩)
  | x :: keys, u :: vs, i + 1, k, v, n, l, h => by
    have hk : keys[i]? = some k := by simpa using h
    have hne : ¬ ((Sum.inr x : Key) = Sum.inr k) := fun e => (List.nodup_cons.mp n).1 (by rw [Sum.inr.inj e]; exact List.mem_of_getElem? hk)
    show (if (Sum.inr x : Key) = Sum.inr k then ((Sum.inr x : Key), v) else ((Sum.inr x : Key), u)) :: (recKv keys vs).map _ = ((Sum.inr x : Key), u) :: recKv keys (vs.set i v)
    rw [if_neg hne, recKv_set (List.nodup_cons.mp n).2 (by simpa using l) hk]
def Stp (A : TyA α) (i : Nat) (T : Ty β) (f : α → β → α) : Prop := ∀ a vs S x v, A.rep a vs S → T.rep x v S → A.rep (f a x) (vs.set i v) S
theorem st_one : Stp (TyA.one T) 0 T (fun _ x => x) := fun a vs S x v ⟨u, e, r⟩ q => ⟨v, by rw [e]; rfl, q⟩
theorem st_0 {A : TyA β} : Stp (TyA.c T A) 0 T (fun a x => (x, a.2)) := fun a vs S x v ⟨u, ws, e, r, q0⟩ q => ⟨v, ws, by rw [e]; rfl, q, q0⟩
theorem st_s {A : TyA β} {i : Nat} {W : Ty γ} {f : β → γ → β} (h : Stp A i W f) : Stp (TyA.c T A) (i + 1) W (fun a x => (a.1, f a.2 x)) := fun a vs S x v ⟨u, ws, e, r, q0⟩ q => ⟨u, ws.set i v, by rw [e]; rfl, r, h _ _ _ _ _ q0 q⟩
def Snp (A : TyA α) (A' : TyA γ) (T : Ty β) (f : α → β → γ) : Prop := ∀ a vs S x v, A.rep a vs S → T.rep x v S → A'.rep (f a x) (vs ++ [v]) S
theorem sn_one : Snp (TyA.one T) (TyA.c T (TyA.one U)) U (fun a x => (a, x)) := fun a vs S x v ⟨u, e, r⟩ q => ⟨u, [v], by rw [e]; rfl, r, ⟨v, rfl, q⟩⟩
theorem sn_c {A : TyA β} {A' : TyA γ} {δ : Type} {W : Ty δ} {f : β → δ → γ} (h : Snp A A' W f) : Snp (TyA.c T A) (TyA.c T A') W (fun a x => (a.1, f a.2 x)) := fun a vs S x v ⟨u, ws, e, r, q0⟩ q => ⟨u, ws ++ [v], by rw [e]; rfl, r, h _ _ _ _ _ q0 q⟩
variable {S H : Hp} {D : Ends} {out : ρ} {u t t' : TS}
theorem k_rput {keys : List Str} {A : TyA α} {n : Nat} {key : Str} {g : α → β → α} {tv : TE} {i : Nat} {p : Addr} {c : List Cell} {a : α} {mv : Option β} {k : α → Option ρ} (hG : Okc G S) (W : Wd S (O ++ F) H) (hm : (mv.bind fun x => (some (g a x)).bind k) = some out)
    (o j : Nat) (hi : σ[i]? = some (some (.ref p))) (ho : O[o]? = some c) (hf : G[j]? = some ((oRec keys A).f a p c)) (st : Stp A n U g) (hk : keys[n]? = some key) (hl : keys.length < sizeLine) (hs : Sim G O tv σ mv U)
    (next : ∀ x c' S H, Okc ((oRec keys A).f (g a x) p c' :: G) S → Wd S (O.set o c' ++ F) H → k (g a x) = some out → u D σ H) : tSeq (sDPut (tVar i) (tC (.str key)) tv) u D σ H := by
  obtain ⟨x, h1, hm⟩ := bind_some hm
  obtain ⟨vs, e0, l, nd, r0⟩ := (Okc.at j hf hG : (oRec keys A).rep a p c S)
  subst e0
  refine hs S H F x hG W h1 _ fun v S1 H1 s1 w1 q1 => ⟨.ref p, hi, p, upd H1 p (.dK (recKv keys (vs.set n v))), rfl, ?_, next x _ S1 _ ⟨⟨vs.set n v, rfl, by rw [List.length_set]; exact l, nd, st _ _ _ _ _ (A.mono s1 r0) q1⟩, hG.mono s1⟩ (w1.put o ho _) hm⟩
  have e := w1.at1 ho
  have hz : (recKv keys vs).length < sizeLine := by
    unfold recKv
    rw [List.length_zip, List.length_map]
    omega
  have q := DPut.k (k := Sum.inr key) (v := v) e hz
  have ep : putK (recKv keys vs) (Sum.inr key : Key) v = recKv keys (vs.set n v) := by
    unfold putK
    rw [valV_any, valV_rec nd l hk]
    have hn : n < vs.length := by rw [l]; exact (List.getElem?_eq_some_iff.mp hk).1
    rw [List.getElem?_eq_getElem hn, Option.isSome_some, if_pos rfl]
    exact recKv_set nd l hk
  rw [ep] at q
  exact q
/-- a record gets one key more -/
theorem k_rnew {keys : List Str} {A : TyA α} {A' : TyA γ} {key : Str} {g : α → β → γ} {tv : TE} {i : Nat} {p : Addr} {c : List Cell} {a : α} {mv : Option β} {k : γ → Option ρ} (hG : Okc G S) (W : Wd S (O ++ F) H) (hm : (mv.bind fun x => (some (g a x)).bind k) = some out)
    (o j : Nat) (hi : σ[i]? = some (some (.ref p))) (ho : O[o]? = some c) (hf : G[j]? = some ((oRec keys A).f a p c)) (sn : Snp A A' U g) (hk : (keys ++ [key]).Nodup) (hl : keys.length < sizeLine) (hs : Sim G O tv σ mv U)
    (next : ∀ x c' S H, Okc ((oRec (keys ++ [key]) A').f (g a x) p c' :: G) S → Wd S (O.set o c' ++ F) H → k (g a x) = some out → u D σ H) : tSeq (sDPut (tVar i) (tC (.str key)) tv) u D σ H := by
  obtain ⟨x, h1, hm⟩ := bind_some hm
  obtain ⟨vs, e0, l, nd, r0⟩ := (Okc.at j hf hG : (oRec keys A).rep a p c S)
  subst e0
  refine hs S H F x hG W h1 _ fun v S1 H1 s1 w1 q1 => ⟨.ref p, hi, p, upd H1 p (.dK (recKv (keys ++ [key]) (vs ++ [v]))), rfl, ?_, next x _ S1 _ ⟨⟨vs ++ [v], rfl, by simp [l], hk, sn _ _ _ _ _ (A.mono s1 r0) q1⟩, hG.mono s1⟩ (w1.put o ho _) hm⟩
  have e := w1.at1 ho
  have hz : (recKv keys vs).length < sizeLine := by
    unfold recKv
    rw [List.length_zip, List.length_map]
    omega
  have q := DPut.k (k := Sum.inr key) (v := v) e hz
  have hn : (Sum.inr key : Key) ∉ (recKv keys vs).map (·.1) := fun m => by
    rw [recKv_keys l] at m
    obtain ⟨y, hy, e⟩ := List.mem_map.mp m
    have := (List.nodup_append.mp hk).2.2 y hy key (List.mem_singleton.mpr rfl)
    exact this (Sum.inr.inj e)
  have ep : putK (recKv keys vs) (Sum.inr key : Key) v = recKv (keys ++ [key]) (vs ++ [v]) := by
    unfold putK
    rw [any_key hn, if_neg Bool.false_ne_true]
    unfold recKv
    rw [List.map_append, List.zip_append (by simp [l])]
    rfl
  rw [ep] at q
  exact q
end
end HF

set_option Elab.async false
set_option linter.all false
set_option maxRecDepth 100000
set_option maxHeartbeats 2000000
/-! Mini6: step by step from the left, calls that change one owned object, dicts with int keys and with tuple keys. -/
namespace HF
open PySem PySem.Spec L2
open PyProof.Rows hiding St
/-- the promise of a def that changes the owned object at its n-th place -/
def spO {α β γ : Type} (n : Nat) (OT : OTy γ) (A : TyA α) (m : γ → α → Option (β × γ)) (U : Ty β) : Sp := fun vs H Q _ => ∃ (S : Hp) (F : Ow) (p : Addr) (c : List Cell) (g : γ) (a : α) (r : β × γ),
  vs[n]? = some (.ref p) ∧ A.rep a (vs.eraseIdx n) S ∧ OT.rep g p c S ∧ Wd S (c :: F) H ∧ m g a = some r ∧ ∀ v c' S' H', Same S S' → Wd S' (c' :: F) H' → OT.rep r.2 p c' S' → U.rep r.1 v S' → Q v H'
section
variable {α β γ ρ δ : Type} {G : List Fact} {O O0 F : Ow} {σ : St} {T : Ty α} {U : Ty β} {K : PySem.W.Frag} {S H : Hp} {D : Ends} {out : ρ} {u t t' : TS} {Q : VK}
/-! ### steps -/
theorem c_pure {te : TE} {m : Option α} {k : α → Option ρ} (hG : Okc G S) (W : Wd S (O ++ F) H) (hm : m.bind k = some out) (hs : Sim G O te σ m T)
    (next : ∀ a v S H, Okc (T.f a v :: G) S → Wd S (O ++ F) H → k a = some out → Q v H) : te σ H Q := by
  obtain ⟨a, h1, h2⟩ := bind_some hm
  exact hs S H F a hG W h1 _ fun v S' H' s w q => next a v S' H' ⟨q, hG.mono s⟩ w h2
theorem c_fresh {OT : OTy α} {te : TE} {m : Option α} {k : α → Option ρ} (hG : Okc G S) (W : Wd S (O ++ F) H) (hm : m.bind k = some out) (hs : SimF G O te σ m OT)
    (next : ∀ a p c S H, Okc (OT.f a p c :: G) S → Wd S ((c :: O) ++ F) H → k a = some out → Q (.ref p) H) : te σ H Q := by
  obtain ⟨a, h1, h2⟩ := bind_some hm
  exact hs S H F a hG W h1 _ fun p c S' H' s w q => next a p c S' H' ⟨q, hG.mono s⟩ w h2
theorem c_test {tt : TT} {m : Option Bool} {k : Bool → Option ρ} {R : Bool → Hp → Prop} (hG : Okc G S) (W : Wd S (O ++ F) H) (hm : m.bind k = some out) (hs : SimT G O tt σ m)
    (next : ∀ b S H, Okc G S → Wd S (O ++ F) H → k b = some out → R b H) : tt σ H R := by
  obtain ⟨a, h1, h2⟩ := bind_some hm
  exact hs S H F a hG W h1 _ fun S' H' s w => next a S' H' (hG.mono s) w h2
theorem c_ref {i : Nat} {v : V} (hi : σ[i]? = some (some v)) (h : Q v H) : tVar i σ H Q := ⟨v, hi, h⟩
theorem c_bool {b : Bool} {v : V} {R : Bool → Hp → Prop} (hG : Okc G S) (j : Nat) (hf : G[j]? = some (tBool.f b v)) (h : R b H) : ∃ k, v = .bl k ∧ R k H := ⟨b, Okc.at j hf hG, h⟩
theorem c_ite {b : Bool} {A B : Option ρ} {P1 P2 : Prop} (hm : (if b = true then A else B) = some out) (h1 : b = true → A = some out → P1) (h2 : b = false → B = some out → P2) : if b = true then P1 else P2 := by
  cases b with
  | true => exact h1 rfl hm
  | false => exact h2 rfl hm
theorem e_op {r : R2} {ta tb : TE} (h : ta σ H fun x H1 => tb σ H1 fun y H2 => r x y H2 Q) : tOp r ta tb σ H Q := h
theorem x_op {r : R2} {x y : V} (h : tOp r (tC x) (tC y) σ H Q) : r x y H Q := h
theorem e_cons {ta : TE} {tr : TA} {R : List V → Hp → Prop} (h : ta σ H fun x H1 => tr σ H1 fun xs H2 => R (x :: xs) H2) : tCons ta tr σ H R := h
theorem e_nil {R : List V → Hp → Prop} (h : R [] H) : tNil σ H R := h
theorem e_cb {r : List V → Hp → VK → Prop} {t : TA} (h : t σ H fun vs H1 => r vs H1 Q) : tCB r t σ H Q := h
theorem x_cb1 {r : List V → Hp → VK → Prop} {x : V} (h : tCB r (tCons (tC x) tNil) σ H Q) : r [x] H Q := h
theorem x_cb2 {r : List V → Hp → VK → Prop} {x y : V} (h : tCB r (tCons (tC x) (tCons (tC y) tNil)) σ H Q) : r [x, y] H Q := h
theorem e_call {sp : Sp} {E : XK} {t : TA} (h : t σ H fun vs H1 => sp (vs ++ []) H1 Q E) : tCall sp [] E t σ H Q := h
theorem e_test {t : TE} {R : Bool → Hp → Prop} (h : t σ H fun x H' => ∃ k, x = .bl k ∧ R k H') : tTest t σ H R := h
theorem e_tB {t : TE} {R : Bool → Hp → Prop} (h : t σ H fun x H' => ∃ k, x = .bl k ∧ R k H') : tB t σ H R := h
theorem e_and {t u : TT} {R : Bool → Hp → Prop} (h : t σ H fun c H1 => if c = true then u σ H1 R else R false H1) : tAnd t u σ H R := h
theorem e_or {t u : TT} {R : Bool → Hp → Prop} (h : t σ H fun c H1 => if c = true then R true H1 else u σ H1 R) : tOr t u σ H R := h
theorem e_not {t : TT} {R : Bool → Hp → Prop} (h : t σ H fun c H1 => R (!c) H1) : tNot t σ H R := h
theorem e_set {te : TE} {i : Nat} (h : te σ H fun x H1 => u D (σ.set i (some x)) H1) : tSeq (tAsg te (gName i)) u D σ H := h
theorem e_ret {te : TE} (h : te σ H D.rt) : tSeq (tRet te) u D σ H := h
theorem e_drop {te : TE} (h : te σ H fun _ H1 => u D σ H1) : tSeq (tDrop te) u D σ H := h
theorem e_if {c : TT} (h : c σ H fun b H1 => if b = true then t { D with nx := u D } σ H1 else t' { D with nx := u D } σ H1) : tSeq (tIfS c t t') u D σ H := h
theorem e_lst {t : TA} (h : t σ H fun xs H1 => xs.length ≤ sizeLine ∧ ∀ p, H1 p = none → Q (.ref p) (upd H1 p (.lst xs))) : L2.tLst t σ H Q := h
theorem e_tup {t : TA} (h : t σ H fun xs H1 => xs.length ≤ sizeLine ∧ ∀ p, H1 p = none → Q (.ref p) (upd H1 p (.tup xs))) : L2.tTup t σ H Q := h
theorem e_bm {T : String} {r : V → List V → Hp → VK → Prop} {to : TE} {t : TA} (h : to σ H fun x H1 => tyV K T x H1 ∧ t σ H1 fun xs H2 => r x xs H2 Q) : tBM K T r to t σ H Q := h
theorem e_rng1 {t : TA} {R : It → Hp → Prop} (h : t σ H fun vs H1 => ∃ j : Int, vs = [.int j] ∧ -(2 ^ 62) ≤ j ∧ j < 2 ^ 62 ∧ R (Itr 0 j.toNat) H1) : iRng1 t σ H R := h
/-- a call that changes nothing, its arguments come to -/
theorem v_callP {A : TyA α} {f : α → Option β} {a : α} {vs : List V} {k : β → Option ρ} {E : XK} (hG : Okc G S) (W : Wd S (O ++ F) H) (hm : (f a).bind k = some out) (ra : ∀ S, Okc G S → A.rep a vs S)
    (next : ∀ b v S H, Okc (U.f b v :: G) S → Wd S (O ++ F) H → k b = some out → Q v H) : spP A f U (vs ++ []) H Q E := by
  obtain ⟨b, h1, h2⟩ := bind_some hm
  exact ⟨S, O ++ F, a, b, by rw [List.append_nil]; exact ra S hG, W, h1, fun v S' H' s w q => next b v S' H' ⟨q, hG.mono s⟩ w h2⟩
/-- a call that changes an owned object -/
theorem v_callO {n : Nat} {OT : OTy γ} {A : TyA α} {f : γ → α → Option (β × γ)} {g : γ} {a : α} {p : Addr} {c : List Cell} {vs : List V} {k : β × γ → Option ρ} {E : XK} (hG : Okc G S) (W : Wd S (O ++ F) H) (hm : (f g a).bind k = some out)
    (o j : Nat) (ho : O[o]? = some c) (hf : G[j]? = some (OT.f g p c)) (hn : (vs ++ [])[n]? = some (.ref p)) (ra : ∀ S, Okc G S → A.rep a ((vs ++ []).eraseIdx n) S)
    (next : ∀ r v c' S H, Okc (U.f r.1 v :: OT.f r.2 p c' :: G) S → Wd S (O.set o c' ++ F) H → k r = some out → Q v H) : spO n OT A f U (vs ++ []) H Q E := by
  obtain ⟨b, h1, h2⟩ := bind_some hm
  exact ⟨S, O.eraseIdx o ++ F, p, c, g, a, b, hn, ra S hG, Okc.at j hf hG, W.perm (perm_front ho), h1, fun v c' S' H' s w q1 q2 => next b v c' S' H' ⟨q2, q1, hG.mono s⟩ (w.perm (perm_set ho F)) h2⟩
theorem ra_nil : TyA.nil.rep () [] S := rfl
theorem ra_one {a : α} {v : V} (h : T.rep a v S) : (TyA.one T).rep a [v] S := ⟨v, rfl, h⟩
theorem ra_c {A : TyA β} {a : α} {b : β} {v : V} {vs : List V} (h : T.rep a v S) (r : A.rep b vs S) : (TyA.c T A).rep (a, b) (v :: vs) S := ⟨v, vs, rfl, h, r⟩
/-! ### pop -/
def x_popAt (xs : List α) (i : Int) : Option (α × List α) := if -(2 ^ 63) ≤ i ∧ i < 2 ^ 63 then (seqIndex? i xs.length).bind fun n => (xs[n]?).bind fun y => some (y, xs.eraseIdx n) else none
theorem v_popAt {xs : List α} {i : Int} {v : V} {p : Addr} {c : List Cell} {k : α × List α → Option ρ} (hG : Okc G S) (W : Wd S (O ++ F) H) (hm : (x_popAt xs i).bind k = some out) (o j l : Nat) (ho : O[o]? = some c) (hf : G[j]? = some ((oL T).f xs p c)) (hv : G[l]? = some (tInt.f i v))
    (next : ∀ r v c' S H, Okc (T.f r.1 v :: (oL T).f r.2 p c' :: G) S → Wd S (O.set o c' ++ F) H → k r = some out → Q v H) : rPopAt (.ref p) [v] H Q := by
  obtain ⟨r, h1, hm⟩ := bind_some hm
  unfold x_popAt at h1
  split at h1
  case isFalse => cases h1
  case isTrue hz =>
  obtain ⟨n, h2, h3⟩ := bind_some h1
  obtain ⟨y, h4, h5⟩ := bind_some h3
  cases h5
  obtain ⟨vs, e0, r0⟩ := (Okc.at j hf hG : (oL T).rep xs p c S)
  subst e0
  obtain ⟨w, h6, h7⟩ := r0.get h4
  obtain rfl : v = .int i := Okc.at l hv hG
  exact ⟨p, vs, i, n, w, rfl, rfl, W.at1 ho, hz.1, hz.2, by rw [← r0.length]; exact h2, h6, next (y, xs.eraseIdx n) w _ S _ ⟨h7, ⟨_, rfl, r0.eraseIdx n⟩, hG⟩ (W.put o ho _) hm⟩
theorem ty_list {p : Addr} {xs : List α} {c : List Cell} (hG : Okc G S) (W : Wd S (O ++ F) H) (o j : Nat) (ho : O[o]? = some c) (hf : G[j]? = some ((oL T).f xs p c)) : tyV K "list" (.ref p) H := by
  obtain ⟨vs, e0, r0⟩ := (Okc.at j hf hG : (oL T).rep xs p c S)
  subst e0
  exact .inl ⟨rfl, vs, SqL.of (W.at1 ho)⟩
/-- append of a value that was come to -/
theorem v_app {xs : List α} {y : α} {v : V} {p : Addr} {c : List Cell} {k : List α → Option ρ} (hG : Okc G S) (W : Wd S (O ++ F) H) (hm : (x_app xs y).bind k = some out) (o j l : Nat) (ho : O[o]? = some c) (hf : G[j]? = some ((oL T).f xs p c)) (hv : G[l]? = some (T.f y v))
    (next : ∀ c' S H, Okc ((oL T).f (xs ++ [y]) p c' :: G) S → Wd S (O.set o c' ++ F) H → k (xs ++ [y]) = some out → Q .non H) : rAppend (.ref p) [v] H Q := by
  obtain ⟨z, h2, hm⟩ := bind_some hm
  obtain ⟨hz, rfl⟩ := of_if h2
  obtain ⟨vs, e0, r0⟩ := (Okc.at j hf hG : (oL T).rep xs p c S)
  subst e0
  have hy : T.rep y v S := Okc.at l hv hG
  exact ⟨p, vs, v, rfl, rfl, W.at1 ho, by rw [← r0.length]; exact hz, next _ S _ ⟨⟨_, rfl, r0.append (Rl.one hy)⟩, hG⟩ (W.put o ho _) hm⟩
/-! ### a comprehension whose element changes an owned object -/
def mapE (f : γ → α → Option (β × γ)) : γ → List α → Option (List β × γ)
  | g, [] => some ([], g)
  | g, x :: xs => (f g x).bind fun r => (mapE f r.2 xs).bind fun q => some (r.1 :: q.1, q.2)
def x_mapE (f : γ → α → Option (β × γ)) (g : γ) (xs : List α) : Option (List β × γ) := if xs.length ≤ sizeLine then mapE f g xs else none
theorem c_lcE {ω : Type} {OT : OTy γ} {g : TG} {te : TE} {wi : TI} {vs : List Nat} {σ' : ω → St} {Fx : α → ω → List Fact} {mi : Option (List α)} {me : γ → α → Option (β × γ)} {gv : γ} {p : Addr} {c : List Cell} {k : List β × γ → Option ρ}
    (hG : Okc G S) (W : Wd S (O ++ F) H) (hm : (mi.bind fun xs => (x_mapE me gv xs).bind k) = some out) (o j : Nat) (ho : O[o]? = some c) (hf : G[j]? = some (OT.f gv p c))
    (hi : SimI G O [] wi σ mi T) (tg : TgOk g (wipe σ vs) T σ' Fx) (hw : ∀ w, wipe (σ' w) vs = wipe σ vs)
    (he : ∀ a w gv c S H F r, me gv a = some r → Okc (Fx a w ++ (OT.f gv p c :: fS S :: G)) S → Wd S (O.set o c ++ F) H → ∀ Q : VK, (∀ v c' S' H', Same S S' → Wd S' (O.set o c' ++ F) H' → OT.rep r.2 p c' S' → U.rep r.1 v S' → Q v H') → te (σ' w) H Q)
    (next : ∀ r q d c' S H, Okc ((oL U).f r.1 q d :: OT.f r.2 p c' :: G) S → Wd S ((d :: O.set o c') ++ F) H → k r = some out → Q (.ref q) H) : tLc wi g tYes te vs σ H Q := by
  obtain ⟨xs, h1, hm⟩ := bind_some hm
  obtain ⟨r, h2, hm⟩ := bind_some hm
  unfold x_mapE at h2
  split at h2
  case isFalse => cases h2
  case isTrue hz =>
  refine hi S H F xs hG W h1 _ fun J S1 H1 s1 w1 jok D hD => ?_
  have g0 : OT.rep gv p c S1 := OT.mono s1 (Okc.at j hf hG)
  have oset : O.set o c = O := by
    obtain ⟨hi, e⟩ := List.getElem?_eq_some_iff.mp ho
    rw [← e]
    exact List.set_getElem_self hi
  refine ⟨fun i m H' => m = xs.length - i ∧ i ≤ xs.length ∧ ∃ S' acc us gc cc rest, Same S1 S' ∧ Wd S' ([(D, .lst us)] :: (O.set o cc ++ F)) H' ∧ Rl U S' acc us ∧ OT.rep gc p cc S' ∧ acc.length ≤ i ∧ mapE me gc (xs.drop i) = some rest ∧ r.1 = acc ++ rest.1 ∧ r.2 = rest.2,
    ⟨xs.length, by simp, Nat.zero_le _, S1, [], [], gv, c, r, Same.refl _, by rw [oset]; exact w1.newO hD, .nil, g0, Nat.le_refl _, by simpa using h2, rfl, rfl⟩, ?_⟩
  rintro i m H' ⟨rfl, hi', S', acc, us, gc, cc, rest, s', w', ra, rg, hl, hc, e1, e2⟩
  have jk := jok S' H' s' (w'.sub (List.nil_sublist _))
  by_cases hlt : i < xs.length
  · have hd : xs.drop i = xs[i] :: xs.drop (i + 1) := (List.drop_eq_getElem_cons hlt)
    rw [hd] at hc
    obtain ⟨go, yl⟩ := jk.1 i xs[i] (by simp [hlt])
    have hz2 : us.length < sizeLine := by rw [← ra.length]; omega
    refine .inr ⟨go, fun H2 => ∃ S2 acc2 us2 g2 c2 rest2, Same S1 S2 ∧ Wd S2 ([(D, .lst us2)] :: (O.set o c2 ++ F)) H2 ∧ Rl U S2 acc2 us2 ∧ OT.rep g2 p c2 S2 ∧ acc2.length ≤ i + 1 ∧ mapE me g2 (xs.drop (i + 1)) = some rest2 ∧ r.1 = acc2 ++ rest2.1 ∧ r.2 = rest2.2,
      fun H2 q => ⟨xs.length - (i + 1), by omega, rfl, hlt, q⟩, fun x H2 y => ?_⟩
    obtain ⟨S2, s2, rx, wk⟩ := yl x H2 y
    have w2 := wk _ w'
    refine tg xs[i] x S2 H2 _ rx w2.st fun wt ok => ⟨hw wt, ?_⟩
    obtain ⟨q1, hq1, hc⟩ := bind_some hc
    obtain ⟨q2, hq2, hc⟩ := bind_some hc
    cases hc
    have hG2 : Okc (Fx xs[i] wt ++ (OT.f gc p cc :: fS S2 :: G)) S2 := ok.append ⟨OT.mono s2 rg, Same.refl _, hG.mono (s1.trans (s'.trans s2))⟩
    unfold tYes
    dsimp only
    rw [if_pos rfl]
    refine he xs[i] wt gc cc S2 H2 ([(D, .lst us)] :: F) q1 hq1 hG2 (w2.perm (perm_mid _ _ _)) _ fun v c4 S4 H4 s4 w4 rg4 rv => ?_
    have w5 := w4.perm (perm_mid _ _ _).symm
    exact ⟨us, w5.hd1, hz2, S4, acc ++ [q1.1], us ++ [v], q1.2, c4, q2, s'.trans (s2.trans s4), w5.put1 _, (ra.mono (s2.trans s4)).append (Rl.one rv), rg4, by simp; omega, hq2, by rw [e1]; simp, e2⟩
  · have e : i = xs.length := by omega
    subst e
    rw [List.drop_length] at hc
    cases hc
    rw [List.append_nil] at e1
    have e1 : r.1 = acc := e1
    have e2 : r.2 = gc := e2
    refine .inl ⟨jk.2, next r D [(D, .lst us)] cc S' H' ⟨⟨us, rfl, by rw [e1]; exact ra⟩, by show OT.rep r.2 p cc S'; rw [e2]; exact rg, hG.mono (s1.trans s')⟩ w' hm⟩
/-! ### a pair taken apart -/
theorem k_unpair {te : TE} {i j : Nat} {ma : Option (α × β)} {k : α × β → Option ρ} (hG : Okc G S) (W : Wd S (O ++ F) H) (hm : ma.bind k = some out) (hs : Sim G O te σ ma (tP T U))
    (next : ∀ a v w S H, Okc (T.f a.1 v :: U.f a.2 w :: G) S → Wd S (O ++ F) H → k a = some out → u D ((σ.set i (some v)).set j (some w)) H) : tSeq (tAsg te (gTup K 2 (gCons (gName i) (gCons (gName j) gNil)))) u D σ H := by
  obtain ⟨a, h1, h2⟩ := bind_some hm
  refine hs S H F a hG W h1 _ fun v S' H' s w q => ?_
  obtain ⟨p, y, z, rfl, g, r1, r2⟩ := q
  exact ⟨p, [y, z], rfl, SqT.of (w.st _ _ g), rfl, y, [z], rfl, z, [], rfl, rfl, next a y z S' H' ⟨r1, r2, hG.mono s⟩ w h2⟩
/-! ### index -/
def x_index (xs : List Int) (y : Int) : Option Int := Option.map (fun n : Nat => (n : Int)) (List.findIdx? (fun x => decide (x = y)) xs)
theorem flat_ints : ∀ xs : List Int, (xs.map V.int).all flatV = true
  | [] => rfl
  | _ :: xs => by rw [List.map_cons, List.all_cons, flat_ints xs]; rfl
theorem sim_index {TL : Ty (List Int)} [Lk O (oL tInt) TL] {ta tb : TE} {ma : Option (List Int)} {mb : Option Int} (ha : Sim G O ta σ ma TL) (hb : Sim G O tb σ mb tInt) : Sim G O (tBM K "list" (rIndex K) ta (tCons tb tNil)) σ (ma.bind fun a => mb.bind fun b => x_index a b) tInt := fun S H F r hG w hm Q k => by
  obtain ⟨a, h1, hm⟩ := bind_some hm
  obtain ⟨b, h2, hm⟩ := bind_some hm
  obtain ⟨n, h3, h4⟩ := Option.map_eq_some_iff.mp hm
  subst h4
  refine ha S H F a hG w h1 _ fun x S1 H1 s1 w1 q1 => ?_
  obtain ⟨p, vs, rfl, r, g⟩ := lkL (O := O) (T := tInt) q1
  have ev := rl_int r
  subst ev
  refine ⟨.inl ⟨rfl, _, SqL.of (g H1 F w1)⟩, ?_⟩
  refine hb S1 H1 F b (hG.mono s1) w1 h2 _ fun y S2 H2 s2 w2 q2 => ?_
  obtain rfl : y = .int b := q2
  obtain ⟨hn, e1, e2⟩ := List.findIdx?_eq_some_iff_getElem.mp h3
  have e1 : a[n] = b := of_decide_eq_true e1
  have g2 : H2 p = some (.lst (a.map V.int)) := by
    obtain ⟨p', vs', e, r', g'⟩ := lkL (O := O) (T := tInt) (TL.mono s2 q1)
    cases e
    rw [g' H2 F w2, rl_int r']
  refine ⟨p, a.map V.int, .int b, n, .int b, rfl, rfl, SqL.of g2, rfl, flat_ints a, by simp [hn, e1], by show (b == b) = true; simp, fun m z' hm' hz => ?_, k _ S2 H2 (s1.trans s2) w2 rfl⟩
  rw [List.getElem?_map] at hz
  have hml : m < a.length := Nat.lt_trans hm' hn
  rw [List.getElem?_eq_getElem hml] at hz
  cases hz
  have := e2 m hm'
  show (a[m] == b) = false
  rw [Bool.beq_eq_decide_eq]
  simpa using this
/-! ### dicts with int keys -/
def lookA {κ : Type} [DecidableEq κ] (d : List (κ × β)) (k : κ) : Option β := (d.find? fun p => decide (p.1 = k)).map (·.2)
def putA {κ : Type} [DecidableEq κ] (d : List (κ × β)) (k : κ) (y : β) : List (κ × β) := if (d.any fun p => decide (p.1 = k)) = true then d.map (fun p => if p.1 = k then (p.1, y) else p) else d ++ [(k, y)]
def x_putA {κ : Type} [DecidableEq κ] (d : List (κ × β)) (k : κ) (y : β) : Option (List (κ × β)) := if d.length < sizeLine then some (putA d k y) else none
def RlD {κ κ' : Type} (e : κ → κ') (U : Ty β) (S : Hp) (d : List (κ × β)) (kvs : List (κ' × V)) : Prop := Paired (fun (x : κ × β) (kv : κ' × V) => kv.1 = e x.1 ∧ U.rep x.2 kv.2 S) d kvs
theorem RlD.mono {κ κ' : Type} {e : κ → κ'} {S S' : Hp} {d : List (κ × β)} {kvs : List (κ' × V)} (h : Same S S') (r : RlD e U S d kvs) : RlD e U S' d kvs := Paired.mapP r fun _ _ q => ⟨q.1, U.mono h q.2⟩
theorem RlD.look {κ κ' : Type} [DecidableEq κ] [DecidableEq κ'] {e : κ → κ'} (inj : ∀ a b, e a = e b → a = b) {S : Hp} {d : List (κ × β)} {kvs : List (κ' × V)} (r : RlD e U S d kvs) (k : κ) :
    match lookA d k with
    | none => valV kvs (e k) = none
    | some y => ∃ v, valV kvs (e k) = some v ∧ U.rep y v S := by
  unfold RlD at r
  induction r with
  | nil => rfl
  | @cons x kv d kvs h t ih =>
    unfold lookA
    rw [List.find?_cons]
    by_cases hk : x.1 = k
    · rw [decide_eq_true hk]
      exact ⟨kv.2, valV_pos (by rw [h.1, hk]), h.2⟩
    · rw [decide_eq_false hk, valV_neg (fun z => hk (inj _ _ (h.1.symm.trans z)))]
      exact ih
theorem RlD.any {κ κ' : Type} [DecidableEq κ] [DecidableEq κ'] {e : κ → κ'} (inj : ∀ a b, e a = e b → a = b) {S : Hp} {d : List (κ × β)} {kvs : List (κ' × V)} (r : RlD e U S d kvs) (k : κ) :
    (kvs.any fun kv => decide (kv.1 = e k)) = (d.any fun p => decide (p.1 = k)) := by
  unfold RlD at r
  induction r with
  | nil => rfl
  | @cons x kv d kvs h t ih =>
    rw [List.any_cons, List.any_cons, ih]
    congr 1
    by_cases hk : x.1 = k
    · rw [decide_eq_true hk, decide_eq_true (by rw [h.1, hk])]
    · rw [decide_eq_false hk, decide_eq_false (fun z => hk (inj _ _ (h.1.symm.trans z)))]
theorem RlD.app {κ κ' : Type} {e : κ → κ'} {S : Hp} {k : κ} {y : β} {v : V} (hy : U.rep y v S) {d : List (κ × β)} {kvs : List (κ' × V)} (r : RlD e U S d kvs) : RlD e U S (d ++ [(k, y)]) (kvs ++ [(e k, v)]) := by
  unfold RlD at r
  induction r with
  | nil => exact .cons ⟨rfl, hy⟩ .nil
  | cons h t ih => exact .cons h ih
theorem RlD.put {κ κ' : Type} [DecidableEq κ] [DecidableEq κ'] {e : κ → κ'} (inj : ∀ a b, e a = e b → a = b) {S : Hp} {d : List (κ × β)} {kvs : List (κ' × V)} (r : RlD e U S d kvs) (k : κ) {y : β} {v : V} (hy : U.rep y v S) :
    RlD e U S (putA d k y) (putK kvs (e k) v) := by
  unfold putA putK
  rw [r.any inj k]
  by_cases ha : (d.any fun p => decide (p.1 = k)) = true
  · rw [if_pos ha, if_pos ha]
    clear ha
    unfold RlD at r ⊢
    induction r with
    | nil => exact .nil
    | @cons x kv d kvs h t ih =>
      refine .cons ?_ ih
      dsimp only
      by_cases hk : x.1 = k
      · rw [if_pos hk, if_pos (by rw [h.1, hk])]
        exact ⟨h.1, hy⟩
      · rw [if_neg hk, if_neg (fun z => hk (inj _ _ (h.1.symm.trans z)))]
        exact h
  · rw [if_neg ha, if_neg ha]
    exact r.app hy
def oDI (U : Ty β) : OTy (List (Int × β)) := ⟨fun d p c S => ∃ kvs : List (Key × V), c = [(p, .dK kvs)] ∧ RlD (fun i : Int => (Sum.inl i : Key)) U S d kvs, fun h ⟨kvs, e, r⟩ => ⟨kvs, e, r.mono h⟩⟩
def tDI (U : Ty β) : Ty (List (Int × β)) := ⟨fun d v S => ∃ p, ∃ kvs : List (Key × V), v = .ref p ∧ S p = some (.dK kvs) ∧ RlD (fun i : Int => (Sum.inl i : Key)) U S d kvs, fun h ⟨p, kvs, e, g, r⟩ => ⟨p, kvs, e, h _ _ g, r.mono h⟩⟩
theorem frz_DI : Frz (oDI U) (tDI U) := fun g p c S ⟨kvs, e, r⟩ h => ⟨p, kvs, rfl, h _ _ (by rw [e]; exact List.mem_cons_self ..), r⟩
instance : Lk O (oDI U) (tDI U) := ⟨fun _ _ _ ⟨p, kvs, e, h, r⟩ => ⟨p, _, e, ⟨kvs, rfl, r⟩, fun _ _ w a o m => by
  obtain ⟨rfl, rfl⟩ : a = p ∧ o = .dK kvs := by simpa using m
  exact w.st _ _ h⟩⟩
theorem inl_inj : ∀ a b : Int, (Sum.inl a : Key) = Sum.inl b → a = b := fun a b h => Sum.inl.inj h
theorem sim_dgetI {TD : Ty (List (Int × β))} [Lk O (oDI U) TD] {td tk : TE} {md : Option (List (Int × β))} {mk : Option Int} (hd : Sim G O td σ md TD) (hk : Sim G O tk σ mk tInt) : Sim G O (tDGet td tk) σ (md.bind fun d => mk.bind fun k => lookA d k) U := fun S H F r hG w hm Q kk => by
  obtain ⟨d, h1, hm⟩ := bind_some hm
  obtain ⟨k, h2, hm⟩ := bind_some hm
  refine hd S H F d hG w h1 _ fun x S1 H1 s1 w1 q1 => ?_
  refine hk S1 H1 F k (hG.mono s1) w1 h2 _ fun y S2 H2 s2 w2 q2 => ?_
  obtain ⟨p, c, rfl, ⟨kvs, rfl, rr⟩, g⟩ := Lk.lk (O := O) _ _ _ (TD.mono s2 q1)
  have l := rr.look inl_inj k
  rw [hm] at l
  obtain ⟨v, h3, h4⟩ := l
  refine ⟨p, v, rfl, ?_, kk v S2 H2 (s1.trans s2) w2 h4⟩
  have q := DGet.k (k := Sum.inl k) (g H2 F w2 _ _ (List.mem_cons_self ..))
  rw [h3] at q
  rw [show y = .int k from q2]
  exact q
theorem sim_dinI {TD : Ty (List (Int × β))} [Lk O (oDI U) TD] {td tk : TE} {md : Option (List (Int × β))} {mk : Option Int} (hk : Sim G O tk σ mk tInt) (hd : Sim G O td σ md TD) : Sim G O (tDIn tk td) σ (mk.bind fun k => md.bind fun d => some (lookA d k).isSome) tBool := fun S H F r hG w hm Q kk => by
  obtain ⟨k, h2, hm⟩ := bind_some hm
  obtain ⟨d, h1, hm⟩ := bind_some hm
  cases hm
  refine hk S H F k hG w h2 _ fun y S1 H1 s1 w1 q1 => ?_
  refine hd S1 H1 F d (hG.mono s1) w1 h1 _ fun x S2 H2 s2 w2 q2 => ?_
  obtain ⟨p, c, rfl, ⟨kvs, rfl, rr⟩, g⟩ := Lk.lk (O := O) _ _ _ q2
  have l := rr.look inl_inj k
  have q := DGet.k (k := Sum.inl k) (g H2 F w2 _ _ (List.mem_cons_self ..))
  obtain rfl : y = .int k := q1
  refine ⟨p, _, rfl, q, ?_⟩
  have e : (valV kvs (Sum.inl k : Key)).isSome = (lookA d k).isSome := by
    cases hl : lookA d k with
    | none => rw [hl] at l; rw [show valV kvs (Sum.inl k : Key) = none from l]; rfl
    | some z => rw [hl] at l; obtain ⟨v, h3, _⟩ := l; rw [show valV kvs (Sum.inl k : Key) = some v from h3]; rfl
  rw [e]
  exact kk _ S2 H2 (s1.trans s2) w2 rfl
theorem k_dputI {tv tk : TE} {i : Nat} {p : Addr} {c : List Cell} {d : List (Int × β)} {mv : Option β} {mk : Option Int} {k : List (Int × β) → Option ρ} (hG : Okc G S) (W : Wd S (O ++ F) H) (hm : (mv.bind fun y => mk.bind fun n => (x_putA d n y).bind k) = some out)
    (o j : Nat) (hi : σ[i]? = some (some (.ref p))) (ho : O[o]? = some c) (hf : G[j]? = some ((oDI U).f d p c)) (hs : Sim G O tv σ mv U) (hx : Sim G O tk σ mk tInt)
    (next : ∀ d' c' S H, Okc ((oDI U).f d' p c' :: G) S → Wd S (O.set o c' ++ F) H → k d' = some out → u D σ H) : tSeq (sDPut (tVar i) tk tv) u D σ H := by
  obtain ⟨y, h1, hm⟩ := bind_some hm
  obtain ⟨n, h2, hm⟩ := bind_some hm
  obtain ⟨z, h3, hm⟩ := bind_some hm
  obtain ⟨hz, rfl⟩ := of_if h3
  obtain ⟨kvs, e0, r0⟩ := (Okc.at j hf hG : (oDI U).rep d p c S)
  subst e0
  refine hs S H F y hG W h1 _ fun v S1 H1 s1 w1 q1 => ⟨.ref p, hi, ?_⟩
  refine hx S1 H1 F n (hG.mono s1) w1 h2 _ fun x S2 H2 s2 w2 q2 => ?_
  obtain rfl : x = .int n := q2
  have r := r0.mono (s1.trans s2)
  have hl : kvs.length < sizeLine := by rw [← Paired.length r]; exact hz
  exact ⟨p, _, rfl, DPut.k (k := Sum.inl n) (w2.at1 ho) hl, next _ _ S2 _ ⟨⟨_, rfl, r.put inl_inj n (U.mono s2 q1)⟩, hG.mono (s1.trans s2)⟩ (w2.put o ho _) hm⟩
theorem simF_newDI : SimF G O tDNewK σ (some []) (oDI U) := fun S H F r hG w hm Q k => by
  cases hm
  intro p hp
  exact k p _ S _ (Same.refl _) (w.newO hp) ⟨[], rfl, .nil⟩
theorem simF_dispI1 {i : Int} {tv : TE} {mv : Option β} (hv : Sim G O tv σ mv U) : SimF G O (tDisp [(tC (.int i), tv)]) σ (mv.bind fun y => some [(i, y)]) (oDI U) := fun S H F r hG w hm Q k => by
  obtain ⟨y, h1, hm⟩ := bind_some hm
  cases hm
  intro p hp
  refine hv S _ ([(p, .dK [])] :: F) y hG ((w.newO hp).perm (perm_mid _ _ _)) h1 _ fun v S' H' s w' q => ?_
  have w2 := w'.perm (perm_mid _ _ _).symm
  exact ⟨w2.hd1, [((Sum.inl i : Key), v)], rfl, (by show 1 ≤ 15; decide), k p _ S' _ s (w2.put1 _) ⟨_, rfl, .cons ⟨rfl, q⟩ .nil⟩⟩
/-! ### dicts keyed by tuples of ints -/
def kT (l : List Int) : List Key := l.map Sum.inl
theorem kT_inj : ∀ a b : List Int, kT a = kT b → a = b := fun a b h => List.map_inj_right (fun x y e => Sum.inl.inj e) |>.mp h
theorem kT_kV (l : List Int) : (kT l).map kV = l.map V.int := by unfold kT; rw [List.map_map]; rfl
def oDT (U : Ty β) : OTy (List (List Int × β)) := ⟨fun d p c S => ∃ kvs : List (List Key × V), c = [(p, .dT kvs)] ∧ RlD kT U S d kvs, fun h ⟨kvs, e, r⟩ => ⟨kvs, e, r.mono h⟩⟩
def tDT (U : Ty β) : Ty (List (List Int × β)) := ⟨fun d v S => ∃ p, ∃ kvs : List (List Key × V), v = .ref p ∧ S p = some (.dT kvs) ∧ RlD kT U S d kvs, fun h ⟨p, kvs, e, g, r⟩ => ⟨p, kvs, e, h _ _ g, r.mono h⟩⟩
theorem frz_DT : Frz (oDT U) (tDT U) := fun g p c S ⟨kvs, e, r⟩ h => ⟨p, kvs, rfl, h _ _ (by rw [e]; exact List.mem_cons_self ..), r⟩
instance : Lk O (oDT U) (tDT U) := ⟨fun _ _ _ ⟨p, kvs, e, h, r⟩ => ⟨p, _, e, ⟨kvs, rfl, r⟩, fun _ _ w a o m => by
  obtain ⟨rfl, rfl⟩ : a = p ∧ o = .dT kvs := by simpa using m
  exact w.st _ _ h⟩⟩
theorem simF_newDT : SimF G O tDNewT σ (some []) (oDT U) := fun S H F r hG w hm Q k => by
  cases hm
  intro p hp
  exact k p _ S _ (Same.refl _) (w.newO hp) ⟨[], rfl, .nil⟩
theorem sim_dgetT {TD : Ty (List (List Int × β))} [Lk O (oDT U) TD] {td tk : TE} {md : Option (List (List Int × β))} {mk : Option (List Int)} (hd : Sim G O td σ md TD) (hk : Sim G O tk σ mk (tT tInt)) : Sim G O (tDGet td tk) σ (md.bind fun d => mk.bind fun k => lookA d k) U := fun S H F r hG w hm Q kk => by
  obtain ⟨d, h1, hm⟩ := bind_some hm
  obtain ⟨k, h2, hm⟩ := bind_some hm
  refine hd S H F d hG w h1 _ fun x S1 H1 s1 w1 q1 => ?_
  refine hk S1 H1 F k (hG.mono s1) w1 h2 _ fun y S2 H2 s2 w2 q2 => ?_
  obtain ⟨p, c, rfl, ⟨kvs, rfl, rr⟩, g⟩ := Lk.lk (O := O) _ _ _ (TD.mono s2 q1)
  have l := rr.look kT_inj k
  rw [hm] at l
  obtain ⟨v, h3, h4⟩ := l
  obtain ⟨b, vs, rfl, gb, rb⟩ := q2
  refine ⟨p, v, rfl, ?_, kk v S2 H2 (s1.trans s2) w2 h4⟩
  have q := DGet.t (k := kT k) (g H2 F w2 _ _ (List.mem_cons_self ..)) (b := b) (by rw [w2.st _ _ gb, kT_kV, rl_int rb])
  rw [h3] at q
  exact q
theorem sim_dinT {TD : Ty (List (List Int × β))} [Lk O (oDT U) TD] {td tk : TE} {md : Option (List (List Int × β))} {mk : Option (List Int)} (hk : Sim G O tk σ mk (tT tInt)) (hd : Sim G O td σ md TD) : Sim G O (tDIn tk td) σ (mk.bind fun k => md.bind fun d => some (lookA d k).isSome) tBool := fun S H F r hG w hm Q kk => by
  obtain ⟨k, h2, hm⟩ := bind_some hm
  obtain ⟨d, h1, hm⟩ := bind_some hm
  cases hm
  refine hk S H F k hG w h2 _ fun y S1 H1 s1 w1 q1 => ?_
  refine hd S1 H1 F d (hG.mono s1) w1 h1 _ fun x S2 H2 s2 w2 q2 => ?_
  obtain ⟨p, c, rfl, ⟨kvs, rfl, rr⟩, g⟩ := Lk.lk (O := O) _ _ _ q2
  obtain ⟨b, vs, rfl, gb, rb⟩ := q1
  have l := rr.look kT_inj k
  have q := DGet.t (k := kT k) (g H2 F w2 _ _ (List.mem_cons_self ..)) (b := b) (by rw [w2.st _ _ (s2 _ _ gb), kT_kV, rl_int rb])
  refine ⟨p, _, rfl, q, ?_⟩
  have e : (valV kvs (kT k)).isSome = (lookA d k).isSome := by
    cases hl : lookA d k with
    | none => rw [hl] at l; rw [show valV kvs (kT k) = none from l]; rfl
    | some z => rw [hl] at l; obtain ⟨v, h3, _⟩ := l; rw [show valV kvs (kT k) = some v from h3]; rfl
  rw [e]
  exact kk _ S2 H2 (s1.trans s2) w2 rfl
theorem k_dputT {tv tk : TE} {i : Nat} {p : Addr} {c : List Cell} {d : List (List Int × β)} {mv : Option β} {mk : Option (List Int)} {k : List (List Int × β) → Option ρ} (hG : Okc G S) (W : Wd S (O ++ F) H) (hm : (mv.bind fun y => mk.bind fun n => (x_putA d n y).bind k) = some out)
    (o j : Nat) (hi : σ[i]? = some (some (.ref p))) (ho : O[o]? = some c) (hf : G[j]? = some ((oDT U).f d p c)) (hs : Sim G O tv σ mv U) (hx : Sim G O tk σ mk (tT tInt))
    (next : ∀ d' c' S H, Okc ((oDT U).f d' p c' :: G) S → Wd S (O.set o c' ++ F) H → k d' = some out → u D σ H) : tSeq (sDPut (tVar i) tk tv) u D σ H := by
  obtain ⟨y, h1, hm⟩ := bind_some hm
  obtain ⟨n, h2, hm⟩ := bind_some hm
  obtain ⟨z, h3, hm⟩ := bind_some hm
  obtain ⟨hz, rfl⟩ := of_if h3
  obtain ⟨kvs, e0, r0⟩ := (Okc.at j hf hG : (oDT U).rep d p c S)
  subst e0
  refine hs S H F y hG W h1 _ fun v S1 H1 s1 w1 q1 => ⟨.ref p, hi, ?_⟩
  refine hx S1 H1 F n (hG.mono s1) w1 h2 _ fun x S2 H2 s2 w2 q2 => ?_
  obtain ⟨b, vs, rfl, gb, rb⟩ := q2
  have r := r0.mono (s1.trans s2)
  have hl : kvs.length < sizeLine := by rw [← Paired.length r]; exact hz
  exact ⟨p, _, rfl, DPut.t (k := kT n) (w2.at1 ho) (b := b) (by rw [w2.st _ _ gb, kT_kV, rl_int rb]) hl, next _ _ S2 _ ⟨⟨_, rfl, r.put kT_inj n (U.mono s2 q1)⟩, hG.mono (s1.trans s2)⟩ (w2.put o ho _) hm⟩
end
end HF

set_option Elab.async false
set_option linter.all false
set_option maxRecDepth 100000
set_option maxHeartbeats 2000000
/-! Mini7: small ends of statements, methods, houses. -/
namespace HF
open PySem PySem.Spec L2
open PyProof.Rows hiding St
def pickE : Ow → List Nat → Option Ow
  | _, [] => some []
  | O, i :: r => (O[i]?).bind fun c => (pickE (O.eraseIdx i) r).bind fun q => some (c :: q)
theorem pickE_perm : ∀ {is : List Nat} {O O' : Ow}, pickE O is = some O' → ∃ rest, O.Perm (O' ++ rest)
  | [], O, O', h => by
    cases h
    exact ⟨O, List.Perm.refl _⟩
  | i :: r, O, O', h => by
    obtain ⟨c, h1, h2⟩ := bind_some h
    obtain ⟨q, h3, h4⟩ := bind_some h2
    cases h4
    obtain ⟨rest, h5⟩ := pickE_perm h3
    exact ⟨rest, (perm_erase h1).trans (h5.cons c)⟩
theorem Wd.pick {S H : Hp} {O O' F : Ow} (W : Wd S (O ++ F) H) (is : List Nat) (h : pickE O is = some O') : Wd S (O' ++ F) H := by
  obtain ⟨rest, p⟩ := pickE_perm h
  have q := W.perm ((p.append_right F).trans (List.Perm.of_eq (List.append_assoc _ _ _)))
  exact q.sub ((List.Sublist.refl _).append (List.sublist_append_right _ _))
section
variable {D : Ends} {σ : St} {H : Hp} {u : TS} {te : TE} {Q : VK}
theorem x_next {N : St → Hp → Prop} (h : N σ H) : tNext { D with nx := N } σ H := h
theorem x_break (h : D.bk σ H) : tSeq tBreak u D σ H := h
theorem x_cont (h : D.ct σ H) : tSeq tCont u D σ H := h
theorem x_pass (h : u D σ H) : tSeq tNext u D σ H := h
theorem x_retN (h : D.rt .non H) : tSeq tRetN u D σ H := h
end
theorem hu64 {A : Around} {k : Nat} (hr : Room k A) : A.units + 64 < cLine := hr.units
theorem hu65 {A : Around} {k : Nat} (hr : Room k A) : A.units + 65 < cLine := by have := hr.un; omega
/-! ### methods -/
structure Mtd (CX : CXT) (P : Program) (w : World) (K : PySem.W.Frag) (mg : Str → Option Value) (base : Heap) (k : Nat) (C : Addr) (m : Str) (sp : Sp) : Prop where
  ex : ∃ (f : Addr) (fd : FuncData) (ps : List Str), Cls K C ∧ Meth K C m f ∧ FnOk P w K mg base CX k f fd ps sp ∧ Binds K fd ps []
structure MDefAt (K : PySem.W.Frag) (C : Addr) (m qual : Str) (st : Stmt) : Prop where
  ex : ∃ (f : Addr) (fd : FuncData), FunD K m qual (defArgs st) (defBody st) (defScope st) [] [] f fd ∧ Cls K C ∧ Meth K C m f
section
variable {CX : CXT} {P : Program} {w : World} {K : PySem.W.Frag} {mg : Str → Option Value} {base : Heap}
theorem mtd_mk {C : Addr} {m qual : Str} {st : Stmt} {N ps : List Str} {k : Nat} {sp : Sp} (D : MDefAt K C m qual st) (S : FnScope N ps (defScope st)) (len : ∀ vs H Q E, sp vs H Q E → vs.length = ps.length)
    (hb : ∀ (kV doc pm : Value) (an : Option Addr) (cdv ct : Value) (us : List Value), us.length = ps.length → bindArgs (PySem.W.fnOf m qual (defArgs st) (defBody st) (defScope st) .none kV doc pm an cdv ct) ⟨us, []⟩ = pure (ps.zip us))
    (hbody : ∀ (f : Addr) (cdv : Value) (A : Around) (outer : List Env) (s : Shared) (H : Hp) (vs : List V) (Q : VK) (E : XK), Room k (A.deeper (envOfC qual (defScope st) s.heap.objs.size f cdv)) → sp vs H Q E →
      ∃ t, PSs (cxOf CX P w K mg base N qual (defScope st) f cdv A outer s H E) (defBody st) t ∧ t { nx := fun _ H' => Q .non H', rt := Q } (start N vs) H) : Mtd CX P w K mg base (k + 1) C m sp := by
  obtain ⟨f, fd, F, c, hm⟩ := D.ex
  exact ⟨f, fd, ps, c, hm, F.ok S len (fun cdv A outer s H vs Q E hr h => hbody f cdv A outer s H vs Q E hr h), F.bindsN hb⟩
end
section
variable {X : Cx} {CX : CXT} {k j : Nat} {C : Addr} {m : Str} {sp : Sp} {pos apos : Pos} {e o : Expr} {es : List Expr} {ta : TE} {t : TA} {E : XK}
theorem pe_mtd {pl : Sem Bool} (c : Mtd CX X.prog X.w X.K X.mg X.base k C m sp) (hr : Room j X.A) (hk : k ≤ j) (hx : Passes CX X E) (he : PE X o ta) (ha : PA X (e :: es) t)
    (hst : starEach (e :: es) X.env = (false, eval e X.env) :: starEach es X.env := by rfl) (hpl : (backTo pos (starEach es X.env)).any (·.1) = false := by rfl)
    (ht : eval (.Call (.Attribute o m apos) (e :: es) [] pos) X.env = (do
      let ov ← eval o X.env
      standAt apos.atName
      let (f, first) ← holding [ov] (getMethod ov m pl)
      callWith pos f first (backTo pos (starEach (e :: es) X.env)) (backToKw pos (keywordEach [] X.env))) := by rfl) :
    PE X (.Call (.Attribute o m apos) (e :: es) [] pos) (tMeth C m sp [] E ta t) := by
  obtain ⟨f, fd, ps, hc, hm, F, b⟩ := c.ex
  exact pe_meth (pl := pl) he hc hm F (hr.mono hk) b .nil hx ha hst hpl ht
theorem pe_mtd0 {pl : Sem Bool} (c : Mtd CX X.prog X.w X.K X.mg X.base k C m sp) (hr : Room j X.A) (hk : k ≤ j) (hx : Passes CX X E) (he : PE X o ta)
    (ht : eval (.Call (.Attribute o m apos) [] [] pos) X.env = (do
      let ov ← eval o X.env
      standAt apos.atName
      let (f, first) ← holding [ov] (getMethod ov m pl)
      callWith pos f first (backTo pos (starEach [] X.env)) (backToKw pos (keywordEach [] X.env))) := by rfl) :
    PE X (.Call (.Attribute o m apos) [] [] pos) (tMeth C m sp [] E ta tNil) := by
  obtain ⟨f, fd, ps, hc, hm, F, b⟩ := c.ex
  exact pe_meth0 (pl := pl) he hc hm F (hr.mono hk) b .nil hx ht
end
/-- o.m() -/
theorem sim_meth0 {α γ : Type} {G : List Fact} {O : Ow} {σ : St} {T : Ty α} {W : Ty γ} {C : Addr} {mn : Str} {f : α → Option γ} {to : TE} {mo : Option α} {E : XK} (hI : ∀ a v S, T.rep a v S → ∃ p dx fs, v = .ref p ∧ S p = some (.ins C dx fs) ∧ fs.lookup mn = none)
    (ho : Sim G O to σ mo T) : Sim G O (tMeth C mn (spP (TyA.one T) f W) [] E to tNil) σ (mo.bind fun o => f o) W := fun S H F r hG w hm Q k => by
  obtain ⟨o, h1, hm⟩ := bind_some hm
  refine ho S H F o hG w h1 _ fun x S1 H1 s1 w1 q1 => ?_
  obtain ⟨p, dx, fs, rfl, g, l⟩ := hI _ _ _ q1
  exact ⟨p, dx, fs, rfl, w1.st _ _ g, l, S1, O ++ F, o, r, ⟨_, rfl, q1⟩, w1, hm, fun v S3 H3 s3 w3 q3 => k v S3 H3 (s1.trans s3) w3 q3⟩
/-! ### a house -/
structure HouseD where
  belowM : List Int
  aboveM : List Int
  below : List (List Int)
  above : List (List Int)
  order : List Int
  count : Int
  hues : Int
  wires : List (Int × Int)
  direct : List (List Int)
def FldR {α : Type} (fs : List (Str × V)) (f : Str) (T : Ty α) (a : α) (S : Hp) : Prop := ∃ u, fs.lookup f = some u ∧ T.rep a u S
theorem FldR.mono {α : Type} {fs : List (Str × V)} {f : Str} {T : Ty α} {a : α} {S S' : Hp} (s : Same S S') (h : FldR fs f T a S) : FldR fs f T a S' := let ⟨u, e, r⟩ := h; ⟨u, e, T.mono s r⟩
structure HouseF (h : HouseD) (fs : List (Str × V)) (S : Hp) : Prop where
  belowM : FldR fs "_below_masks" (tL tInt) h.belowM S
  aboveM : FldR fs "_above_masks" (tL tInt) h.aboveM S
  below : FldR fs "_below" (tL (tL tInt)) h.below S
  above : FldR fs "_above" (tL (tL tInt)) h.above S
  order : FldR fs "_order" (tL tInt) h.order S
  count : FldR fs "count" tInt h.count S
  hues : FldR fs "hues" tInt h.hues S
  wires : FldR fs "wires" (tT (tP tInt tInt)) h.wires S
  direct : FldR fs "_direct" (tL (tL tInt)) h.direct S
  no : ∀ m : Str, m ≠ "_below_masks" → m ≠ "_above_masks" → m ≠ "_below" → m ≠ "_above" → m ≠ "_order" → m ≠ "count" → m ≠ "hues" → m ≠ "wires" → m ≠ "_direct" → fs.lookup m = none
def tHouse (C : Addr) : Ty HouseD := ⟨fun h v S => ∃ p dx fs, v = .ref p ∧ S p = some (.ins C dx fs) ∧ HouseF h fs S, fun s ⟨p, dx, fs, e, g, r⟩ =>
  ⟨p, dx, fs, e, s _ _ g, r.belowM.mono s, r.aboveM.mono s, r.below.mono s, r.above.mono s, r.order.mono s, r.count.mono s, r.hues.mono s, r.wires.mono s, r.direct.mono s, r.no⟩⟩
section
variable {α : Type} {K : PySem.W.Frag} {C : Addr} {f : Str} {T : Ty α} {g : HouseD → α}
theorem house_fld (c : Cls K C) (n : NoAttr K C f) (h : ∀ a fs S, HouseF a fs S → FldR fs f T (g a) S) : ∀ a v S, (tHouse C).rep a v S → ∃ p C' dx fs u, v = .ref p ∧ S p = some (.ins C' dx fs) ∧ Cls K C' ∧ NoAttr K C' f ∧ fs.lookup f = some u ∧ T.rep (g a) u S :=
  fun a v S ⟨p, dx, fs, e, q, r⟩ => by
    obtain ⟨u, h1, h2⟩ := h a fs S r
    exact ⟨p, C, dx, fs, u, e, q, c, n, h1, h2⟩
theorem house_no (m : Str) (h : ([ "_below_masks", "_above_masks", "_below", "_above", "_order", "count", "hues", "wires", "_direct"] : List Str).contains m = false) : ∀ a v S, (tHouse C).rep a v S → ∃ p dx fs, v = .ref p ∧ S p = some (.ins C dx fs) ∧ fs.lookup m = none :=
  fun a v S ⟨p, dx, fs, e, q, r⟩ => by
    refine ⟨p, dx, fs, e, q, r.no m ?_ ?_ ?_ ?_ ?_ ?_ ?_ ?_ ?_⟩ <;> (intro z; subst z; revert h; decide +kernel)
end
end HF

set_option Elab.async false
set_option linter.all false
set_option maxRecDepth 100000
set_option maxHeartbeats 2000000
/-! Mini8: what the printer leans on besides. -/
namespace HF
open PySem PySem.Spec L2
open PyProof.Rows hiding St
section
variable {α β γ δ ρ : Type} {G : List Fact} {O O0 F : Ow} {σ : St} {T : Ty α} {U : Ty β} {K : PySem.W.Frag} {S H : Hp} {D : Ends} {out : ρ} {u t t' : TS} {Q : VK}
theorem k_join2 {ω : Type} {k : β → Option ρ} {body : (β → Option ρ) → Option ρ} {σJ : β → ω → St} {OJ : β → ω → Ow} {Fb : β → ω → List Fact} (hG : Okc G S) (hm : joinK k body = some out)
    (next : ∀ b w S H, k b = some out → Okc (Fb b w ++ G) S → Wd S (OJ b w ++ F) H → u D (σJ b w) H)
    (main : (∀ b w S H, k b = some out → Okc (Fb b w ++ G) S → Wd S (OJ b w ++ F) H → u D (σJ b w) H) → body k = some out → tSeq t u D σ H) : tSeq t u D σ H := main next hm
theorem sim_Kown {OT : OTy α} {p : Addr} {c : List Cell} {g : α} (o j : Nat) (ho : O[o]? = some c) (hf : G[j]? = some (OT.f g p c)) : Sim G O (tC (.ref p)) σ (some g) (tOwn O OT) := fun S H F r hG w hm Q k => by
  cases hm
  exact k _ S H (Same.refl _) w ⟨p, c, rfl, List.mem_of_getElem? ho, Okc.at j hf hG⟩
theorem spO_vs1_0 {vs : List V} {p : Addr} {a : Unit} (hn : vs[0]? = some (.ref p)) (hA : TyA.nil.rep a (vs.eraseIdx 0) S) : vs = [.ref p] := by
  cases vs with
  | nil => simp at hn
  | cons x r =>
    simp at hn
    subst hn
    have h : r = [] := hA
    rw [h]
theorem spO_vs2_0 {vs : List V} {p : Addr} {a : α} (hn : vs[0]? = some (.ref p)) (hA : (TyA.one T).rep a (vs.eraseIdx 0) S) : ∃ v, vs = [.ref p, v] ∧ T.rep a v S := by
  cases vs with
  | nil => simp at hn
  | cons x r =>
    simp at hn
    subst hn
    obtain ⟨v, e, h⟩ := hA
    have e : r = [v] := e
    exact ⟨v, by rw [e], h⟩
theorem spO_vs3_0 {vs : List V} {p : Addr} {a : α × β} (hn : vs[0]? = some (.ref p)) (hA : (TyA.c T (TyA.one U)).rep a (vs.eraseIdx 0) S) : ∃ v w, vs = [.ref p, v, w] ∧ T.rep a.1 v S ∧ U.rep a.2 w S := by
  cases vs with
  | nil => simp at hn
  | cons x r =>
    simp at hn
    subst hn
    obtain ⟨v, ws, e, h, w, e2, h2⟩ := hA
    have e : r = v :: ws := e
    exact ⟨v, w, by rw [e, e2], h, h2⟩
/-- any number of further arguments behind the owned one -/
theorem spO_vs0 {vs : List V} {p : Addr} {A : TyA α} {a : α} (hn : vs[0]? = some (.ref p)) (hA : A.rep a (vs.eraseIdx 0) S) : ∃ ws, vs = .ref p :: ws ∧ A.rep a ws S := by
  cases vs with
  | nil => simp at hn
  | cons x r =>
    simp at hn
    subst hn
    exact ⟨r, rfl, hA⟩
theorem spO_vs6_0 {α1 α2 α3 α4 α5 : Type} {T1 : Ty α1} {T2 : Ty α2} {T3 : Ty α3} {T4 : Ty α4} {T5 : Ty α5} {vs : List V} {p : Addr} {a : α1 × α2 × α3 × α4 × α5} (hn : vs[0]? = some (.ref p)) (hA : (TyA.c T1 (TyA.c T2 (TyA.c T3 (TyA.c T4 (TyA.one T5))))).rep a (vs.eraseIdx 0) S) :
    ∃ v1 v2 v3 v4 v5, vs = [.ref p, v1, v2, v3, v4, v5] ∧ T1.rep a.1 v1 S ∧ T2.rep a.2.1 v2 S ∧ T3.rep a.2.2.1 v3 S ∧ T4.rep a.2.2.2.1 v4 S ∧ T5.rep a.2.2.2.2 v5 S := by
  obtain ⟨ws, rfl, h⟩ := spO_vs0 hn hA
  obtain ⟨v1, _, rfl, h1, v2, _, rfl, h2, v3, _, rfl, h3, v4, _, rfl, h4, v5, rfl, h5⟩ := h
  exact ⟨v1, v2, v3, v4, v5, rfl, h1, h2, h3, h4, h5⟩
theorem spO_vs6_5 {α1 α2 α3 α4 α5 : Type} {T1 : Ty α1} {T2 : Ty α2} {T3 : Ty α3} {T4 : Ty α4} {T5 : Ty α5} {vs : List V} {p : Addr} {a : α1 × α2 × α3 × α4 × α5} (hn : vs[5]? = some (.ref p)) (hA : (TyA.c T1 (TyA.c T2 (TyA.c T3 (TyA.c T4 (TyA.one T5))))).rep a (vs.eraseIdx 5) S) :
    ∃ v1 v2 v3 v4 v5, vs = [v1, v2, v3, v4, v5, .ref p] ∧ T1.rep a.1 v1 S ∧ T2.rep a.2.1 v2 S ∧ T3.rep a.2.2.1 v3 S ∧ T4.rep a.2.2.2.1 v4 S ∧ T5.rep a.2.2.2.2 v5 S := by
  obtain ⟨v1, w1, e1, h1, v2, w2, e2, h2, v3, w3, e3, h3, v4, w4, e4, h4, v5, e5, h5⟩ := hA
  subst e2 e3 e4 e5
  refine ⟨v1, v2, v3, v4, v5, ?_, h1, h2, h3, h4, h5⟩
  have e1 : vs.eraseIdx 5 = [v1, v2, v3, v4, v5] := e1
  match vs, hn, e1 with
  | [a0, a1, a2, a3, a4, a5], hn, e1 => simp at hn e1; obtain ⟨rfl, rfl, rfl, rfl, rfl⟩ := e1; rw [hn]
  | [], hn, _ => simp at hn
  | [_], hn, _ => simp at hn
  | [_, _], hn, _ => simp at hn
  | [_, _, _], hn, _ => simp at hn
  | [_, _, _, _], hn, _ => simp at hn
  | [_, _, _, _, _], hn, _ => simp at hn
  | _ :: _ :: _ :: _ :: _ :: _ :: _ :: _, _, e1 => simp at e1
end
end HF

set_option Elab.async false
set_option linter.all false
set_option maxRecDepth 100000
set_option maxHeartbeats 2000000
/-! Mini9: defs that hand out an object of the caller's own. -/
namespace HF
open PySem PySem.Spec L2
open PyProof.Rows hiding St
section
variable {α β γ δ ρ : Type} {G : List Fact} {O O0 F : Ow} {σ : St} {T : Ty α} {U : Ty β} {K : PySem.W.Frag} {S H : Hp} {D : Ends} {u t t' : TS} {Q : VK}
def spF (A : TyA α) (m : α → Option β) (OT : OTy β) : Sp := fun vs H Q _ => ∃ (S : Hp) (F : Ow) (a : α) (r : β), A.rep a vs S ∧ Wd S F H ∧ m a = some r ∧ ∀ p c S' H', Same S S' → Wd S' ([c] ++ F) H' → OT.rep r p c S' → Q (.ref p) H'
theorem simF_call {OT : OTy β} {A : TyA α} {f : α → Option β} {ta : TA} {ma : Option α} {E : XK} (h : SimA G O ta σ ma A) : SimF G O (tCall (spF A f OT) [] E ta) σ (ma.bind fun a => f a) OT := fun S H F r hG w hm Q k => by
  obtain ⟨a, h1, hm⟩ := bind_some hm
  refine h S H F a hG w h1 _ fun vs S1 H1 s1 w1 q1 => ?_
  refine ⟨S1, O ++ F, a, r, ?_, w1, hm, fun p c S2 H2 s2 w2 q2 => k p c S2 H2 (s1.trans s2) w2 q2⟩
  rw [List.append_nil]
  exact q1
theorem k_retF {OT : OTy ρ} {te : TE} {m : Option ρ} {out : ρ} (hG : Okc G S) (W : Wd S (O ++ F) H) (hm : m = some out) (hs : SimF G O te σ m OT)
    (next : ∀ p c S H, Okc (OT.f out p c :: G) S → Wd S ((c :: O) ++ F) H → D.rt (.ref p) H) : tSeq (tRet te) u D σ H :=
  hs S H F out hG W hm _ fun p c S' H' s w q => next p c S' H' ⟨q, hG.mono s⟩ w
end
/-! the lemmas of the kit with the fragment named ahead (a comprehension's inner context) -/
section
variable {X : Cx} {K : PySem.W.Frag}
theorem ix_listK (hK : X.K = K := by rfl) : IxR X (rIxL K) := by subst hK; exact ix_list
theorem ix_tupK (hK : X.K = K := by rfl) : IxR X (rIxT K) := by subst hK; exact ix_tup
theorem op_inDK (hu : X.A.units + 65 < cLine) (hK : X.K = K := by rfl) : OpR X (compareOp .In) (rInD K) := by subst hK; exact op_inD hu
theorem op_notInDK (hu : X.A.units + 65 < cLine) (hK : X.K = K := by rfl) : OpR X (compareOp .NotIn) (rNotInD K) := by subst hK; exact op_notInD hu
theorem op_eqDK (hu : X.A.units + 64 < cLine) (hK : X.K = K := by rfl) : OpR X (compareOp .Eq) (rEqD K) := by subst hK; exact op_eqD hu
theorem op_neDK (hu : X.A.units + 64 < cLine) (hK : X.K = K := by rfl) : OpR X (compareOp .NotEq) (rNeD K) := by subst hK; exact op_neD hu
theorem pe_fldK {e : Expr} {ta : TE} {f : Str} {pos : Pos} (he : PE X e ta) (hb : attributeBase e f X.env (eval e X.env) = eval e X.env := by rfl) (hK : X.K = K := by rfl) : PE X (.Attribute e f pos) (tFld K ta f) := by subst hK; exact pe_fld he hb
theorem pi_listK {tg l : Expr} {tl : TE} (hl : PE X l tl) (hK : X.K = K := by rfl) : PI X tg l (iList K tl) := by subst hK; exact pi_list hl
theorem pi_tupK {tg l : Expr} {tl : TE} (hl : PE X l tl) (hK : X.K = K := by rfl) : PI X tg l (iTup K tl) := by subst hK; exact pi_tup hl
theorem pi_enumK {e : Expr} {ta : TA} {p pos tpos : Pos} {elts : List Expr} {kk : Nat} (hg : Gl X "enumerate") (hm : X.mg "enumerate" = none) (ha : PA X [e] ta) (hs : starEach [e] X.env = [(false, eval e X.env)] := by rfl) (hK : X.K = K := by rfl) :
    PI X (.Tuple elts kk tpos) (.Call (.Name "enumerate" p) [e] [] pos) (iEnum K ta) := by subst hK; exact pi_enum hg hm ha hs
theorem pi_reversedK {tg e : Expr} {ta : TA} {p pos : Pos} (hg : Gl X "reversed") (hm : X.mg "reversed" = none) (ha : PA X [e] ta) (hs : starEach [e] X.env = [(false, eval e X.env)] := by rfl) (hK : X.K = K := by rfl) : PI X tg (.Call (.Name "reversed" p) [e] [] pos) (iRev K ta) := by
  subst hK; exact pi_reversed hg hm ha hs
theorem pe_revLK {e : Expr} {te : TE} {k : Nat} {p1 p2 p3 pos : Pos} (he : PE X e te) (hK : X.K = K := by rfl) : PE X (.Subscript e (.Slice none none (some (.UnaryOp .USub (.Constant (.int 1) k p1) p2)) p3) pos) (tRevL K te) := by subst hK; exact pe_revL he
theorem sl_listK (hK : X.K = K := by rfl) : SlR X (rSlL K) := by subst hK; exact sl_list
theorem call_lenK (hK : X.K = K := by rfl) : CallR X (.builtin "len") (rLn K) := by subst hK; exact call_len_seq
theorem call_listK (hK : X.K = K := by rfl) : CallR X (.type "list") (rLs K) := by subst hK; exact call_list_of
theorem call_tupleK (hK : X.K = K := by rfl) : CallR X (.type "tuple") (rTp K) := by subst hK; exact call_tuple_of
theorem cr_sumK (hc : X.calm = true := by rfl) (hK : X.K = K := by rfl) : CallR X (.builtin "sum") (rSum K) := by subst hK; exact cr_sum hc
theorem cr_allK (hc : X.calm = true := by rfl) (hK : X.K = K := by rfl) : CallR X (.builtin "all") (rAll K) := by subst hK; exact cr_all hc
theorem cr_anyK (hc : X.calm = true := by rfl) (hK : X.K = K := by rfl) : CallR X (.builtin "any") (rAny K) := by subst hK; exact cr_any hc
theorem call_isiKK (hK : X.K = K := by rfl) : CallR X (.builtin "isinstance") (rIsi K) := by subst hK; exact call_isi
theorem mt_indexK (hK : X.K = K := by rfl) : MtR X "list.index" (rIndex K) := by subst hK; exact mt_index
theorem pe_bmK {T name id : String} {r : V → List V → Hp → VK → Prop} {o e : Expr} {es : List Expr} {to : TE} {t : TA} {apos cpos : Pos} (pa : PlainAttrs T) (slot : Slot T name id) (hty : typeOf (.builtin id) = pure (.type "method_descriptor")) (hm : MtR X id r) (ho : PE X o to) (ha : PA X (e :: es) t)
    (hbase : attributeBase o name X.env (eval o X.env) = eval o X.env := by rfl)
    (hfew : ((backTo cpos (starEach (e :: es) X.env)).all (fun x => !x.1) && (backToKw cpos (keywordEach [] X.env)).all (fun x => x.1.isSome)
      && decide ((e :: es).length + ([] : List Keyword).length + (if ([] : List Keyword).isEmpty then 0 else 1) < 30)) = true := by rfl)
    (hline : (apos.endLine == cpos.line) = true := by rfl) (hs : starEach (e :: es) X.env = (false, eval e X.env) :: starEach es X.env := by rfl) (hplain : (backTo cpos (starEach es X.env)).any (·.1) = false := by rfl) (hK : X.K = K := by rfl) :
    PE X (.Call (.Attribute o name apos) (e :: es) [] cpos) (tBM K T r to t) := by subst hK; exact pe_bm pa slot hty hm ho ha hbase hfew hline hs hplain
theorem pg_tupK {es : List Expr} {k : Nat} {t : TGs} {n : Nat} {pos : Pos} (hc : X.calm = true) (h : PGs X es t)
    (hn : (assignEach es X.env).length = n := by rfl) (hst : (assignEach es X.env).findIdx? (·.1) = none := by rfl) (hK : X.K = K := by rfl) : PG X (.Tuple es k pos) (gTup K n t) := by subst hK; exact pg_tup hc h hn hst
abbrev tTru (K : PySem.W.Frag) (ta : TE) : TT := fun σ H Q => ta σ H fun x H' => ∃ k, TruV K x H' k ∧ Q k H'
theorem pt_truthK {a : Expr} {ta : TE} (ha : PE X a ta) (he : ∀ whole, isTrue a X.env whole = (do let v ← whole; standAt a.pos; holding [v] (truthy v))) (hK : X.K = K := by rfl) : PT X a (tTru K ta) := by subst hK; exact pt_truth ha he
end
/-! statement steps, as the printer needs them -/
section
variable {α β γ δ ρ : Type} {G : List Fact} {O O0 F : Ow} {σ : St} {T : Ty α} {U : Ty β} {K : PySem.W.Frag} {S H : Hp} {D : Ends} {out : ρ} {u t t' : TS} {Q : VK}
theorem y_next {N : St → Hp → Prop} {rt bk ct} (h : N σ H) : tNext (Ends.mk N rt bk ct) σ H := h
theorem y_join {ω : Type} {k : β → Option ρ} {body : (β → Option ρ) → Option ρ} {σJ : β → ω → St} {OJ : β → ω → Ow} {Fb : β → ω → List Fact} (hG : Okc G S) (W : Wd S (O ++ F) H) (hm : joinK k body = some out)
    (next : ∀ b w S H, k b = some out → Okc (Fb b w ++ G) S → Wd S (OJ b w ++ F) H → u D (σJ b w) H)
    (main : (∀ b w S H, k b = some out → Okc (Fb b w ++ G) S → Wd S (OJ b w ++ F) H → u D (σJ b w) H) → body k = some out → tSeq t u D σ H) : tSeq t u D σ H := main next hm
theorem y_bool {b : Bool} {v : V} {R : Bool → Prop} (hG : Okc G S) (j : Nat) (hf : G[j]? = some (tBool.f b v)) (h : R b) : ∃ k, v = .bl k ∧ R k := ⟨b, Okc.at j hf hG, h⟩
theorem y_cb1 {r : List V → Hp → VK → Prop} {te : TE} (h : te σ H fun x H1 => tCB r (tCons (tC x) tNil) ([] : St) H1 Q) : tCB r (tCons te tNil) σ H Q := h
end
end HF

set_option Elab.async false
set_option linter.all false
set_option maxRecDepth 100000
set_option maxHeartbeats 2000000
/-! Mini10: lists of lists of one's own; instances that are made; sorted pairs; constants of a class. -/
namespace HF
open PySem PySem.Spec L2
open PyProof.Rows hiding St
/-! ### a list of lists, all one's own -/
def cellsLL : List Addr → List (List V) → List Cell
  | a :: as, v :: vs => (a, .lst v) :: cellsLL as vs
  | _, _ => []
theorem cellsLL_keys : ∀ {as : List Addr} {vss : List (List V)}, as.length = vss.length → (cellsLL as vss).map (·.1) = as
  | [], [], _ => rfl
  | [], _ :: _, h => by cases h
  | _ :: _, [], h => by cases h
  | a :: as, v :: vs, h => by show a :: (cellsLL as vs).map (·.1) = _; rw [cellsLL_keys (by simpa using h)]
theorem cellsLL_mem : ∀ {as : List Addr} {vss : List (List V)} {i : Nat} {a : Addr} {v : List V}, as[i]? = some a → vss[i]? = some v → (a, HO.lst v) ∈ cellsLL as vss
  | [], _, _, _, _, h, _ => by simp at h
  | _ :: _, [], _, _, _, _, h => by simp at h
  | a :: as, v :: vs, 0, _, _, h1, h2 => by
    simp at h1 h2
    subst h1 h2
    exact List.mem_cons_self ..
  | a :: as, v :: vs, i + 1, _, _, h1, h2 => List.mem_cons_of_mem _ (cellsLL_mem (i := i) (by simpa using h1) (by simpa using h2))
theorem cellsLL_get : ∀ {as : List Addr} {vss : List (List V)} {b : Addr} {o : HO}, (b, o) ∈ cellsLL as vss → ∃ (i : Nat) (w : List V), as[i]? = some b ∧ vss[i]? = some w ∧ o = .lst w
  | [], _, _, _, h => by cases h
  | _ :: _, [], _, _, h => by cases h
  | a :: as, v :: vs, b, o, h => by
    rcases List.mem_cons.mp h with e | h
    · cases e
      exact ⟨0, v, rfl, rfl, rfl⟩
    · obtain ⟨i, w, h1, h2, h3⟩ := cellsLL_get h
      exact ⟨i + 1, w, by simpa using h1, by simpa using h2, h3⟩
theorem cellsLL_app : ∀ {as : List Addr} {vss : List (List V)} {a : Addr} {v : List V}, as.length = vss.length → cellsLL (as ++ [a]) (vss ++ [v]) = cellsLL as vss ++ [(a, .lst v)]
  | [], [], _, _, _ => rfl
  | [], _ :: _, _, _, h => by cases h
  | _ :: _, [], _, _, h => by cases h
  | a :: as, v :: vs, _, _, h => by show _ :: cellsLL (as ++ _) (vs ++ _) = _; rw [cellsLL_app (by simpa using h)]; rfl
section
variable {α β γ ρ : Type} {G : List Fact} {O O0 F : Ow} {σ : St} {T : Ty α} {U : Ty β} {K : PySem.W.Frag} {S H : Hp} {D : Ends} {out : ρ} {u : TS} {Q : VK}
def oLL (T : Ty α) : OTy (List (List α)) := ⟨fun xss p c S => ∃ ps vss, c = (p, .lst (ps.map V.ref)) :: cellsLL ps vss ∧ ps.length = vss.length ∧ Paired (Rl T S) xss vss,
  fun h ⟨ps, vss, e, l, r⟩ => ⟨ps, vss, e, l, Paired.mapP r fun _ _ q => q.mono h⟩⟩
theorem paired_get {R : α → β → Prop} : ∀ {xs : List α} {ys : List β} {i : Nat} {x : α}, Paired R xs ys → xs[i]? = some x → ∃ y, ys[i]? = some y ∧ R x y
  | _, _, _, _, .nil, h => by simp at h
  | _, _, 0, _, .cons r _, h => by simp at h; subst h; exact ⟨_, rfl, r⟩
  | _, _, i + 1, _, .cons _ rs, h => by
    obtain ⟨y, h1, h2⟩ := paired_get (i := i) rs (by simpa using h)
    exact ⟨y, by simpa using h1, h2⟩
theorem paired_set {R : α → β → Prop} {x : α} {y : β} (h : R x y) : ∀ {xs : List α} {ys : List β} (n : Nat), Paired R xs ys → Paired R (xs.set n x) (ys.set n y)
  | _, _, _, .nil => .nil
  | _, _, 0, .cons _ rs => .cons h rs
  | _, _, n + 1, .cons r rs => .cons r (paired_set h n rs)
theorem paired_app {R : α → β → Prop} {x : α} {y : β} (h : R x y) : ∀ {xs : List α} {ys : List β}, Paired R xs ys → Paired R (xs ++ [x]) (ys ++ [y])
  | _, _, .nil => .cons h .nil
  | _, _, .cons r rs => .cons r (paired_app h rs)
theorem frz_LL : Frz (oLL T) (tL (tL T)) := fun g p c S q h => by
  obtain ⟨ps, vss, e, l, r⟩ := q
  subst e
  refine ⟨p, ps.map V.ref, rfl, h _ _ (List.mem_cons_self ..), ?_⟩
  have h' : ∀ a o, (a, o) ∈ cellsLL ps vss → S a = some o := fun a o m => h a o (List.mem_cons_of_mem _ m)
  clear h
  show Paired (fun x v => (tL T).rep x v S) g (ps.map V.ref)
  induction r generalizing ps with
  | nil =>
    cases ps with
    | nil => exact .nil
    | cons => cases l
  | @cons x v xs vs q rs ih =>
    cases ps with
    | nil => cases l
    | cons a as => exact .cons ⟨a, v, rfl, h' _ _ (List.mem_cons_self ..), q⟩ (ih as (by simpa using l) fun b o m => h' b o (List.mem_cons_of_mem _ m))
theorem Wd.keysNd (W : Wd S (O ++ F) H) {o : Nat} {c : List Cell} (ho : O[o]? = some c) : (c.map (·.1)).Nodup := by
  have q := Wd0.nd (W.perm (perm_front ho))
  simp only [List.flatten_cons, List.map_append] at q
  exact (List.nodup_append.mp q).1
theorem Wd.putLL {ps : List Addr} {vss : List (List V)} {p a : Addr} {i : Nat} (W : Wd S (O ++ F) H) (o : Nat) (ho : O[o]? = some ((p, .lst (ps.map V.ref)) :: cellsLL ps vss)) (l : ps.length = vss.length) (hi : ps[i]? = some a) (w : List V) :
    Wd S (O.set o ((p, .lst (ps.map V.ref)) :: cellsLL ps (vss.set i w)) ++ F) (upd H a (.lst w)) := by
  have nd := W.keysNd ho
  have l' : ps.length = (vss.set i w).length := by rw [List.length_set]; exact l
  simp only [List.map_cons, cellsLL_keys l, List.nodup_cons] at nd
  refine (Wd.putG (W.perm (perm_front ho)) (c' := (p, .lst (ps.map V.ref)) :: cellsLL ps (vss.set i w)) ?_ ?_ ?_).perm (perm_set ho F)
  · simp only [List.map_cons, cellsLL_keys l, cellsLL_keys l']
  · intro b z m
    rcases List.mem_cons.mp m with e | m
    · cases e
      have ne : p ≠ a := fun e => nd.1 (e ▸ List.mem_of_getElem? hi)
      rw [upd_ne ne]
      exact W.at ho _ _ (List.mem_cons_self ..)
    · obtain ⟨j, y, h1, h2, rfl⟩ := cellsLL_get m
      by_cases e : j = i
      · subst e
        rw [hi] at h1
        cases h1
        have hj : j < vss.length := by rw [← l]; exact (List.getElem?_eq_some_iff.mp hi).1
        rw [List.getElem?_set_self hj] at h2
        cases h2
        exact upd_same
      · rw [List.getElem?_set_ne (fun q => e q.symm)] at h2
        have ne : b ≠ a := fun q => by
          subst q
          have b1 := (List.getElem?_eq_some_iff.mp h1)
          have b2 := (List.getElem?_eq_some_iff.mp hi)
          obtain ⟨b1, e1⟩ := b1
          obtain ⟨b2, e2⟩ := b2
          exact e ((List.getElem_inj nd.2).mp (e1.trans e2.symm))
        rw [upd_ne ne]
        exact W.at ho _ _ (List.mem_cons_of_mem _ (cellsLL_mem h1 h2))
  · intro b m
    have ne : b ≠ a := fun q => by
      subst q
      refine m ?_
      simp only [List.map_cons, cellsLL_keys l]
      exact List.mem_cons_of_mem _ (List.mem_of_getElem? hi)
    exact upd_ne ne
/-- at just this address -/
def tAt (p : Addr) : Ty Unit := ⟨fun _ v _ => v = .ref p, fun _ h => h⟩
theorem sim_ownAt {OT : OTy α} {p : Addr} {c : List Cell} {g : α} {i : Nat} (hs : σ[i]? = some (some (.ref p))) : Sim G O (tVar i) σ (some ()) (tAt p) := fun S H F r hG w hm Q k => by
  exact ⟨_, hs, k _ S H (Same.refl _) w rfl⟩
def x_app2 (xss : List (List α)) (n : Int) (y : α) : Option (List (List α)) := (ixN xss.length n).bind fun i => (xss[i]?).bind fun xs => if xs.length < sizeLine then some (xss.set i (xs ++ [y])) else none
theorem atI_ixN {vs : List α} {n : Int} {i : Nat} {a : α} (h : ixN vs.length n = some i) (g : vs[i]? = some a) : atI vs n = some a := by
  unfold atI
  rw [h]
  exact g
/-- xss[n].append(y) -/
theorem k_app2 {to ti te : TE} {p : Addr} {c : List Cell} {xss : List (List α)} {m0 : Option Unit} {mi : Option Int} {my : Option α} {k : List (List α) → Option ρ} (hG : Okc G S) (W : Wd S (O ++ F) H)
    (hm : (m0.bind fun _ => mi.bind fun n => my.bind fun y => (x_app2 xss n y).bind k) = some out) (o j : Nat) (ho : O[o]? = some c) (hf : G[j]? = some ((oLL T).f xss p c)) (ht : Sim G O to σ m0 (tAt p)) (hi : Sim G O ti σ mi tInt) (hs : Sim G O te σ my T)
    (next : ∀ xss' c' S H, Okc ((oLL T).f xss' p c' :: G) S → Wd S (O.set o c' ++ F) H → k xss' = some out → u D σ H) : tSeq (tDrop (tBM K "list" rAppend (tOp (rIxL K) to ti) (tCons te tNil))) u D σ H := by
  obtain ⟨_, h0, hm⟩ := bind_some hm
  obtain ⟨n, h1, hm⟩ := bind_some hm
  obtain ⟨y, h2, hm⟩ := bind_some hm
  obtain ⟨z, h3, hm⟩ := bind_some hm
  obtain ⟨i, h4, h5⟩ := bind_some h3
  obtain ⟨xs, h6, h7⟩ := bind_some h5
  obtain ⟨hz, e7⟩ := of_if h7
  obtain ⟨ps, vss, e0, l, r0⟩ := (Okc.at j hf hG : (oLL T).rep xss p c S)
  subst e0
  obtain ⟨vs, h8, h9⟩ := paired_get r0 h6
  have hi' : i < ps.length := by rw [l]; exact (List.getElem?_eq_some_iff.mp h8).1
  have hp : ps[i]? = some ps[i] := List.getElem?_eq_getElem hi'
  have hix : ixN (ps.map V.ref).length n = some i := by rw [List.length_map, l, ← Paired.length r0]; exact h4
  refine ht S H F () hG W h0 _ fun v0 S1 H1 s1 w1 q1 => ?_
  refine hi S1 H1 F n (hG.mono s1) w1 h1 _ fun v1 S2 H2 s2 w2 q2 => ?_
  have g2 := w2.at ho
  refine ⟨p, ps.map V.ref, n, .ref ps[i], q1, q2, SqL.of (g2 _ _ (List.mem_cons_self ..)), atI_ixN hix (by simp [hp]), .inl ⟨rfl, vs, SqL.of (g2 _ _ (List.mem_cons_of_mem _ (cellsLL_mem hp h8)))⟩, ?_⟩
  refine hs S2 H2 F y (hG.mono (s1.trans s2)) w2 h2 _ fun v S3 H3 s3 w3 q3 => ?_
  have s := s1.trans (s2.trans s3)
  have g3 := w3.at ho
  refine ⟨ps[i], vs, v, rfl, rfl, g3 _ _ (List.mem_cons_of_mem _ (cellsLL_mem hp h8)), by rw [← h9.length]; exact hz, next z _ S3 _ ⟨?_, hG.mono s⟩ (w3.putLL o ho l hp _) hm⟩
  rw [← e7]
  exact ⟨ps, vss.set i (vs ++ [v]), rfl, by rw [List.length_set]; exact l, paired_set ((h9.mono s).append (Rl.one q3)) i (Paired.mapP r0 fun _ _ q => q.mono s)⟩
def x_put2 (xss : List (List α)) (n m : Int) (y : α) : Option (List (List α)) := (ixN xss.length n).bind fun i => (xss[i]?).bind fun xs => (x_set xs m y).bind fun ys => some (xss.set i ys)
/-- xss[n][m] = y -/
theorem k_put2 {to ti tj te : TE} {p : Addr} {c : List Cell} {xss : List (List α)} {m0 : Option Unit} {mi mj : Option Int} {my : Option α} {k : List (List α) → Option ρ} (hG : Okc G S) (W : Wd S (O ++ F) H)
    (hm : (my.bind fun y => m0.bind fun _ => mi.bind fun n => mj.bind fun m => (x_put2 xss n m y).bind k) = some out) (o j : Nat) (ho : O[o]? = some c) (hf : G[j]? = some ((oLL T).f xss p c)) (ht : Sim G O to σ m0 (tAt p)) (hi : Sim G O ti σ mi tInt) (hj : Sim G O tj σ mj tInt) (hs : Sim G O te σ my T)
    (next : ∀ xss' c' S H, Okc ((oLL T).f xss' p c' :: G) S → Wd S (O.set o c' ++ F) H → k xss' = some out → u D σ H) : tSeq (tAsg te (gSub (tOp (rIxL K) to ti) tj rSetL)) u D σ H := by
  obtain ⟨y, h2, hm⟩ := bind_some hm
  obtain ⟨_, h0, hm⟩ := bind_some hm
  obtain ⟨n, h1, hm⟩ := bind_some hm
  obtain ⟨m, h10, hm⟩ := bind_some hm
  obtain ⟨z, h3, hm⟩ := bind_some hm
  obtain ⟨i, h4, h5⟩ := bind_some h3
  obtain ⟨xs, h6, h7⟩ := bind_some h5
  obtain ⟨ys, h8', e7⟩ := bind_some h7
  obtain ⟨l', hl', e8⟩ := bind_some h8'
  cases e8
  cases e7
  obtain ⟨ps, vss, e0, l, r0⟩ := (Okc.at j hf hG : (oLL T).rep xss p c S)
  subst e0
  obtain ⟨vs, h8, h9⟩ := paired_get r0 h6
  have hi' : i < ps.length := by rw [l]; exact (List.getElem?_eq_some_iff.mp h8).1
  have hp : ps[i]? = some ps[i] := List.getElem?_eq_getElem hi'
  have hix : ixN (ps.map V.ref).length n = some i := by rw [List.length_map, l, ← Paired.length r0]; exact h4
  refine hs S H F y hG W h2 _ fun v S1 H1 s1 w1 q1 => ?_
  refine ht S1 H1 F () (hG.mono s1) w1 h0 _ fun v0 S2 H2 s2 w2 q2 => ?_
  refine hi S2 H2 F n (hG.mono (s1.trans s2)) w2 h1 _ fun v1 S3 H3 s3 w3 q3 => ?_
  refine ⟨p, ps.map V.ref, n, .ref ps[i], q2, q3, SqL.of (w3.at ho _ _ (List.mem_cons_self ..)), atI_ixN hix (by simp [hp]), ?_⟩
  refine hj S3 H3 F m (hG.mono (s1.trans (s2.trans s3))) w3 h10 _ fun x S4 H4 s4 w4 q4 => ?_
  have s := s1.trans (s2.trans (s3.trans s4))
  refine ⟨ps[i], vs, m, l', rfl, q4, w4.at ho _ _ (List.mem_cons_of_mem _ (cellsLL_mem hp h8)), by rw [← h9.length]; exact hl', next _ _ S4 _ ⟨?_, hG.mono s⟩ (w4.putLL o ho l hp _) hm⟩
  exact ⟨ps, vss.set i (vs.set l' v), rfl, by rw [List.length_set]; exact l, paired_set ((h9.mono s).set (T.mono (s2.trans (s3.trans s4)) q1) l') i (Paired.mapP r0 fun _ _ q => q.mono s)⟩
end
end HF

set_option Elab.async false
set_option linter.all false
set_option maxRecDepth 100000
set_option maxHeartbeats 2000000
/-! Mini11: instances that are made; sorted pairs; constants of a class. -/
namespace HF
open PySem PySem.Spec L2 ClX
open PyProof.Rows hiding St
section
variable {α β γ δ ρ : Type} {G : List Fact} {O O0 F : Ow} {σ : St} {T : Ty α} {U : Ty β} {K : PySem.W.Frag} {S H : Hp} {D : Ends} {out : ρ} {u : TS} {Q : VK}
/-- [[..] for x in it], all its lists one's own -/
theorem simF_lcLL {ω : Type} {g : TG} {tt : TT} {te : TE} {wi : TI} {vs : List Nat} {σ' : ω → St} {Fx : α → ω → List Fact} {mi : Option (List α)} {mt : α → Option Bool} {me : α → Option (List β)}
    (hi : SimI G O O0 wi σ mi T) (tg : TgOk g (wipe σ vs) T σ' Fx) (hw : ∀ w, wipe (σ' w) vs = wipe σ vs) (hO : O0.Sublist O)
    (ht : ∀ a w, SimT (Fx a w ++ G) O tt (σ' w) (mt a)) (he : ∀ a w, SimF (Fx a w ++ G) O te (σ' w) (me a) (oL U)) :
    SimF G O (tLc wi g tt te vs) σ (mi.bind fun xs => x_comp mt me xs) (oLL U) := fun S H F r hG w hm Q k => by
  obtain ⟨xs, h1, hm⟩ := bind_some hm
  unfold x_comp at hm
  split at hm
  case isFalse => cases hm
  case isTrue hz =>
  refine hi S H F xs hG w h1 _ fun J S1 H1 s1 w1 jok D hD => ?_
  have sub : O0.Sublist (O ++ F) := hO.trans (List.sublist_append_left _ _)
  refine ⟨fun i m H' => m = xs.length - i ∧ i ≤ xs.length ∧ ∃ S' acc ps vss rest, Same S1 S' ∧ Wd S' (((D, .lst (ps.map V.ref)) :: cellsLL ps vss) :: (O ++ F)) H' ∧ ps.length = vss.length ∧ Paired (Rl U S') acc vss ∧ acc.length ≤ i ∧ compM mt me (xs.drop i) = some rest ∧ r = acc ++ rest,
    ⟨xs.length, by simp, Nat.zero_le _, S1, [], [], [], r, Same.refl _, w1.newO hD, rfl, .nil, Nat.le_refl _, by simpa using hm, rfl⟩, ?_⟩
  rintro i m H' ⟨rfl, hi', S', acc, ps, vss, rest, s', w', hps, ra, hl, hc, rfl⟩
  have jk := jok S' H' s' (w'.tail.sub sub)
  by_cases hlt : i < xs.length
  · have hd : xs.drop i = xs[i] :: xs.drop (i + 1) := (List.drop_eq_getElem_cons hlt)
    rw [hd] at hc
    obtain ⟨go, yl⟩ := jk.1 i xs[i] (by simp [hlt])
    have hz2 : (ps.map V.ref).length < sizeLine := by rw [List.length_map, hps, ← Paired.length ra]; omega
    refine .inr ⟨go, fun H2 => ∃ S2 acc2 ps2 vss2 rest2, Same S1 S2 ∧ Wd S2 (((D, .lst (ps2.map V.ref)) :: cellsLL ps2 vss2) :: (O ++ F)) H2 ∧ ps2.length = vss2.length ∧ Paired (Rl U S2) acc2 vss2 ∧ acc2.length ≤ i + 1 ∧ compM mt me (xs.drop (i + 1)) = some rest2 ∧ acc ++ rest = acc2 ++ rest2,
      fun H2 q => ⟨xs.length - (i + 1), by omega, rfl, hlt, q⟩, fun x H2 y => ?_⟩
    obtain ⟨S2, s2, rx, wk⟩ := yl x H2 y
    have w2 := wk _ w'
    refine tg xs[i] x S2 H2 _ rx w2.st fun wt ok => ⟨hw wt, ?_⟩
    obtain ⟨b, hb, hc⟩ := bind_some hc
    have hG2 : Okc (Fx xs[i] wt ++ G) S2 := ok.append (hG.mono (s1.trans (s'.trans s2)))
    refine ht xs[i] wt S2 H2 (((D, .lst (ps.map V.ref)) :: cellsLL ps vss) :: F) b hG2 (w2.perm (perm_mid _ _ _)) hb _ fun S3 H3 s3 w3 => ?_
    cases b with
    | false =>
      rw [if_neg Bool.false_ne_true]
      rw [if_neg Bool.false_ne_true] at hc
      exact ⟨S3, acc, ps, vss, rest, s'.trans (s2.trans s3), w3.perm (perm_mid _ _ _).symm, hps, Paired.mapP ra fun _ _ q => q.mono (s2.trans s3), by omega, hc, rfl⟩
    | true =>
      rw [if_pos rfl]
      rw [if_pos rfl] at hc
      obtain ⟨y, hy, hc⟩ := bind_some hc
      obtain ⟨ys, hys, hc⟩ := bind_some hc
      cases hc
      refine he xs[i] wt S3 H3 (((D, .lst (ps.map V.ref)) :: cellsLL ps vss) :: F) y (hG2.mono s3) w3 hy _ fun p c S4 H4 s4 w4 rv => ?_
      obtain ⟨us, e0, r0⟩ := rv
      subst e0
      have w4' : Wd S4 ([(p, HO.lst us)] :: (((D, .lst (ps.map V.ref)) :: cellsLL ps vss) :: (O ++ F))) H4 := w4.perm ((perm_mid _ _ _).symm.cons _)
      have w5 : Wd S4 (((D, .lst (ps.map V.ref)) :: (cellsLL ps vss ++ [(p, HO.lst us)])) :: (O ++ F)) H4 := by
        refine Wd0.perm w4' ?_
        show ((p, HO.lst us) :: (D, .lst (ps.map V.ref)) :: (cellsLL ps vss ++ (O ++ F).flatten)).Perm ((D, .lst (ps.map V.ref)) :: ((cellsLL ps vss ++ [(p, HO.lst us)]) ++ (O ++ F).flatten))
        refine (List.Perm.swap _ _ _).trans (List.Perm.cons _ ?_)
        rw [List.append_assoc]
        exact List.perm_middle.symm
      have gD : H4 D = some (.lst (ps.map V.ref)) := w5.mem (List.mem_cons_self ..) (List.mem_cons_self ..)
      have w6 : Wd S4 (((D, .lst ((ps ++ [p]).map V.ref)) :: cellsLL (ps ++ [p]) (vss ++ [us])) :: (O ++ F)) (upd H4 D (.lst (ps.map V.ref ++ [.ref p]))) := by
        rw [cellsLL_app hps]
        have nd : (((D, HO.lst (ps.map V.ref)) :: (cellsLL ps vss ++ [(p, HO.lst us)])).map (·.1)).Nodup := Wd.keysNd (O := [_]) (F := O ++ F) (o := 0) w5 rfl
        have nd2 := (List.nodup_cons.mp nd).1
        refine w5.putG (by simp) ?_ ?_
        · intro a o m
          rcases List.mem_cons.mp m with e | m2
          · cases e
            rw [upd_same]
            simp
          · have ne : a ≠ D := fun e => nd2 (List.mem_map.mpr ⟨(a, o), m2, e⟩)
            rw [upd_ne ne]
            exact w5.mem (List.mem_cons_self ..) (List.mem_cons_of_mem _ m2)
        · intro a m
          exact upd_ne fun e => m (by subst e; exact List.mem_cons_self ..)
      refine ⟨ps.map V.ref, gD, hz2, S4, acc ++ [y], ps ++ [p], vss ++ [us], ys, s'.trans (s2.trans (s3.trans s4)), w6, by simp [hps], paired_app r0 (Paired.mapP ra fun _ _ q => q.mono (s2.trans (s3.trans s4))), by simp; omega, hys, by simp⟩
  · have e : i = xs.length := by omega
    subst e
    rw [List.drop_length] at hc
    cases hc
    rw [List.append_nil] at k
    exact .inl ⟨jk.2, k D _ S' H' (s1.trans s') w' ⟨ps, vss, rfl, hps, ra⟩⟩
/-! ### instances -/
def oIns (C : Addr) (keys : List Str) (A : TyA α) : OTy α := ⟨fun a p c S => ∃ dx vs, c = [(p, .ins C dx (keys.zip vs)), (dx, .own p)] ∧ vs.length = keys.length ∧ keys.Nodup ∧ A.rep a vs S, fun h ⟨dx, vs, e, l, n, r⟩ => ⟨dx, vs, e, l, n, A.mono h r⟩⟩
def tIns (C : Addr) (keys : List Str) (A : TyA α) : Ty α := ⟨fun a v S => ∃ p dx vs, v = .ref p ∧ S p = some (.ins C dx (keys.zip vs)) ∧ S dx = some (.own p) ∧ vs.length = keys.length ∧ keys.Nodup ∧ A.rep a vs S,
  fun h ⟨p, dx, vs, e, g, g2, l, n, r⟩ => ⟨p, dx, vs, e, h _ _ g, h _ _ g2, l, n, A.mono h r⟩⟩
theorem frz_Ins {C : Addr} {keys : List Str} {A : TyA α} : Frz (oIns C keys A) (tIns C keys A) := fun g p c S ⟨dx, vs, e, l, n, r⟩ h =>
  ⟨p, dx, vs, rfl, h _ _ (by rw [e]; exact List.mem_cons_self ..), h _ _ (by rw [e]; exact List.mem_cons_of_mem _ (List.mem_cons_self ..)), l, n, r⟩
instance {C : Addr} {keys : List Str} {A : TyA α} : Lk O (oIns C keys A) (tIns C keys A) := ⟨fun _ _ _ ⟨p, dx, vs, e, h, h2, l, n, r⟩ => ⟨p, _, e, ⟨dx, vs, rfl, l, n, r⟩, fun _ _ w a o m => by
  rcases List.mem_cons.mp m with e | m
  · cases e
    exact w.st _ _ h
  · rcases List.mem_cons.mp m with e | m
    · cases e
      exact w.st _ _ h2
    · cases m⟩⟩
theorem lookup_zip : ∀ {keys : List Str} {vs : List V} {i : Nat} {k : Str}, keys.Nodup → vs.length = keys.length → keys[i]? = some k → (keys.zip vs).lookup k = vs[i]?
  | [], _, _, _, _, _, h => by simp at h
  | x :: keys, [], _, _, _, h, _ => by simp at h
  | x :: keys, v :: vs, 0, k, _, _, h => by
    simp at h
    subst h
    simp
  | x :: keys, v :: vs, i + 1, k, n, l, h => by
    have hk : keys[i]? = some k := by simpa using h
    have hne : (k == x) = false := by
      rw [beq_eq_false_iff_ne]
      intro e
      subst e
      exact (List.nodup_cons.mp n).1 (List.mem_of_getElem? hk)
    show ((x, v) :: keys.zip vs).lookup k = _
    rw [List.lookup_cons, hne]
    simpa using lookup_zip (List.nodup_cons.mp n).2 (by simpa using l) hk
theorem lookup_zip_none : ∀ {keys : List Str} {vs : List V} {k : Str}, k ∉ keys → (keys.zip vs).lookup k = none
  | [], _, _, _ => rfl
  | x :: keys, [], _, _ => rfl
  | x :: keys, v :: vs, k, h => by
    have hne : (k == x) = false := by
      rw [beq_eq_false_iff_ne]
      intro e
      exact h (e ▸ List.mem_cons_self ..)
    show ((x, v) :: keys.zip vs).lookup k = _
    rw [List.lookup_cons, hne]
    exact lookup_zip_none fun m => h (List.mem_cons_of_mem _ m)
theorem putF_zip_new : ∀ {keys : List Str} {vs : List V} {k : Str} {v : V}, k ∉ keys → vs.length = keys.length → putF k v (keys.zip vs) = (keys ++ [k]).zip (vs ++ [v])
  | [], [], _, _, _, _ => rfl
  | [], _ :: _, _, _, _, l => by cases l
  | x :: keys, [], _, _, _, l => by cases l
  | x :: keys, y :: vs, k, v, h, l => by
    have hne : ¬ x = k := fun e => h (e ▸ List.mem_cons_self ..)
    have e1 : (x :: keys).zip (y :: vs) = (x, y) :: keys.zip vs := rfl
    rw [e1]
    unfold putF
    rw [if_neg hne, putF_zip_new (fun m => h (List.mem_cons_of_mem _ m)) (by simpa using l)]
    rfl
theorem putF_zip_set : ∀ {keys : List Str} {vs : List V} {i : Nat} {k : Str} {v : V}, keys.Nodup → vs.length = keys.length → keys[i]? = some k → putF k v (keys.zip vs) = keys.zip (vs.set i v)
  | [], _, _, _, _, _, _, h => by simp at h
  | x :: keys, [], _, _, _, _, l, _ => by cases l
  | x :: keys, y :: vs, 0, k, v, _, _, h => by
    simp at h
    subst h
    show (if x = x then _ else _) = _
    rw [if_pos rfl]
    rfl
  | x :: keys, y :: vs, i + 1, k, v, n, l, h => by
    have hk : keys[i]? = some k := by simpa using h
    have hne : ¬ x = k := fun e => (List.nodup_cons.mp n).1 (by rw [e]; exact List.mem_of_getElem? hk)
    have e1 : (x :: keys).zip (y :: vs) = (x, y) :: keys.zip vs := rfl
    rw [e1]
    unfold putF
    rw [if_neg hne, putF_zip_set (List.nodup_cons.mp n).2 (by simpa using l) hk]
    rfl
/-- o.f -/
theorem sim_ofld {C : Addr} {keys : List Str} {A : TyA α} {TR : Ty α} [Lk O (oIns C keys A) TR] {i : Nat} {k : Str} {f : α → β} {td : TE} {md : Option α} (cl : Cls K C) (na : NoAttr K C k) (pj : Pj A i U f) (hk : keys[i]? = some k) (hd : Sim G O td σ md TR) :
    Sim G O (tFld K td k) σ (md.bind fun a => some (f a)) U := fun S H F r hG w hm Q kk => by
  obtain ⟨a, h1, hm⟩ := bind_some hm
  cases hm
  refine hd S H F a hG w h1 _ fun x S1 H1 s1 w1 q1 => ?_
  obtain ⟨p, c, rfl, ⟨dx, vs, rfl, l, n, r⟩, g⟩ := Lk.lk (O := O) _ _ _ q1
  obtain ⟨v, h2, h3⟩ := pj a vs S1 r
  exact ⟨p, C, dx, _, v, rfl, g H1 F w1 _ _ (List.mem_cons_self ..), cl, na, by rw [lookup_zip n l hk, h2], kk v S1 H1 s1 w1 h3⟩
theorem Wd.putIns {p dx C : Addr} {fs : List (Str × V)} (W : Wd S (O ++ F) H) (o : Nat) (ho : O[o]? = some [(p, .ins C dx fs), (dx, .own p)]) (gs : List (Str × V)) : Wd S (O.set o [(p, .ins C dx gs), (dx, .own p)] ++ F) (upd H p (.ins C dx gs)) := by
  have nd := W.keysNd ho
  have ne : dx ≠ p := fun e => by subst e; simp at nd
  refine (Wd.putG (W.perm (perm_front ho)) (c' := [(p, .ins C dx gs), (dx, .own p)]) rfl ?_ ?_).perm (perm_set ho F)
  · intro a z m
    rcases List.mem_cons.mp m with e | m
    · cases e
      exact upd_same
    · rcases List.mem_cons.mp m with e | m
      · cases e
        rw [upd_ne ne]
        exact W.at ho _ _ (List.mem_cons_of_mem _ (List.mem_cons_self ..))
      · cases m
  · intro b m
    exact upd_ne fun e => m (by subst e; exact List.mem_cons_self ..)
theorem sn_nil : Snp TyA.nil (TyA.one T) T (fun _ x => x) := fun a vs S x v e q => ⟨v, by rw [show vs = [] from e]; rfl, q⟩
/-- o.f = e, a new field -/
theorem k_fnew {C : Addr} {keys : List Str} (keys' : List Str) {A : TyA α} {A' : TyA γ} {key : Str} {g : α → β → γ} {tv : TE} {i : Nat} {p : Addr} {c : List Cell} {a : α} {mv : Option β} {k : γ → Option ρ} (hG : Okc G S) (W : Wd S (O ++ F) H) (hm : (mv.bind fun x => (some (g a x)).bind k) = some out)
    (o j : Nat) (hi : σ[i]? = some (some (.ref p))) (ho : O[o]? = some c) (hf : G[j]? = some ((oIns C keys A).f a p c)) (cl : Cls K C) (na : NoAttr K C key) (sn : Snp A A' U g) (he : keys ++ [key] = keys') (hk : keys'.Nodup) (hl : keys.length < 1000) (hs : Sim G O tv σ mv U)
    (next : ∀ x c' S H, Okc ((oIns C keys' A').f (g a x) p c' :: G) S → Wd S (O.set o c' ++ F) H → k (g a x) = some out → u D σ H) : tSeq (sFld K (tVar i) tv key) u D σ H := by
  subst he
  obtain ⟨x, h1, hm⟩ := bind_some hm
  obtain ⟨dx, vs, e0, l, nd, r0⟩ := (Okc.at j hf hG : (oIns C keys A).rep a p c S)
  subst e0
  have hn : key ∉ keys := fun m => (List.nodup_append.mp hk).2.2 _ m key (List.mem_singleton.mpr rfl) rfl
  refine hs S H F x hG W h1 _ fun v S1 H1 s1 w1 q1 => ⟨.ref p, hi, p, C, dx, _, rfl, w1.at ho _ _ (List.mem_cons_self ..), cl, na, by rw [List.length_zip]; omega, ?_⟩
  refine next x _ S1 _ ⟨⟨dx, vs ++ [v], rfl, by simp [l], hk, sn _ _ _ _ _ (A.mono s1 r0) q1⟩, hG.mono s1⟩ ?_ hm
  rw [putF_zip_new hn l]
  exact w1.putIns o ho _
/-- o.f = e, e a new object of one's own -/
theorem k_fnewO {OT : OTy β} {C : Addr} {keys : List Str} (keys' : List Str) {A : TyA α} {A' : Addr → TyA γ} {key : Str} {g : α → Unit → γ} {tv : TE} {i : Nat} {p : Addr} {c : List Cell} {a : α} {mv : Option β} {k : β → γ → Option ρ} (hG : Okc G S) (W : Wd S (O ++ F) H) (hm : (mv.bind fun x => (some (g a ())).bind (k x)) = some out)
    (o j : Nat) (hi : σ[i]? = some (some (.ref p))) (ho : O[o]? = some c) (hf : G[j]? = some ((oIns C keys A).f a p c)) (cl : Cls K C) (na : NoAttr K C key) (sn : ∀ q, Snp A (A' q) (tAt q) g) (he : keys ++ [key] = keys') (hk : keys'.Nodup) (hl : keys.length < 1000) (hs : SimF G O tv σ mv OT)
    (next : ∀ x q d c' S H, Okc (OT.f x q d :: (oIns C keys' (A' q)).f (g a ()) p c' :: G) S → Wd S ((d :: O.set o c') ++ F) H → k x (g a ()) = some out → u D σ H) : tSeq (sFld K (tVar i) tv key) u D σ H := by
  subst he
  obtain ⟨x, h1, hm⟩ := bind_some hm
  obtain ⟨dx, vs, e0, l, nd, r0⟩ := (Okc.at j hf hG : (oIns C keys A).rep a p c S)
  subst e0
  have hn : key ∉ keys := fun m => (List.nodup_append.mp hk).2.2 _ m key (List.mem_singleton.mpr rfl) rfl
  refine hs S H F x hG W h1 _ fun q d S1 H1 s1 w1 q1 => ?_
  have w1' : Wd S1 ((d :: O) ++ F) H1 := w1
  have ho' : (d :: O)[o + 1]? = some [(p, .ins C dx (keys.zip vs)), (dx, .own p)] := ho
  refine ⟨.ref p, hi, p, C, dx, _, rfl, w1'.at ho' _ _ (List.mem_cons_self ..), cl, na, by rw [List.length_zip]; omega, ?_⟩
  refine next x q d _ S1 _ ⟨q1, ⟨dx, vs ++ [.ref q], rfl, by simp [l], hk, sn q _ _ _ () (.ref q) (A.mono s1 r0) (show (tAt q).rep () (.ref q) S1 from rfl)⟩, hG.mono s1⟩ ?_ hm
  rw [putF_zip_new hn l]
  exact w1'.putIns (o + 1) ho' _
/-- o.f = e, a field anew -/
theorem k_fput {C : Addr} {keys : List Str} {A : TyA α} {n : Nat} {key : Str} {g : α → β → α} {tv : TE} {i : Nat} {p : Addr} {c : List Cell} {a : α} {mv : Option β} {k : α → Option ρ} (hG : Okc G S) (W : Wd S (O ++ F) H) (hm : (mv.bind fun x => (some (g a x)).bind k) = some out)
    (o j : Nat) (hi : σ[i]? = some (some (.ref p))) (ho : O[o]? = some c) (hf : G[j]? = some ((oIns C keys A).f a p c)) (cl : Cls K C) (na : NoAttr K C key) (st : Stp A n U g) (hk : keys[n]? = some key) (hl : keys.length < 1000) (hs : Sim G O tv σ mv U)
    (next : ∀ x c' S H, Okc ((oIns C keys A).f (g a x) p c' :: G) S → Wd S (O.set o c' ++ F) H → k (g a x) = some out → u D σ H) : tSeq (sFld K (tVar i) tv key) u D σ H := by
  obtain ⟨x, h1, hm⟩ := bind_some hm
  obtain ⟨dx, vs, e0, l, nd, r0⟩ := (Okc.at j hf hG : (oIns C keys A).rep a p c S)
  subst e0
  refine hs S H F x hG W h1 _ fun v S1 H1 s1 w1 q1 => ⟨.ref p, hi, p, C, dx, _, rfl, w1.at ho _ _ (List.mem_cons_self ..), cl, na, by rw [List.length_zip]; omega, ?_⟩
  refine next x _ S1 _ ⟨⟨dx, vs.set n v, rfl, by rw [List.length_set]; exact l, nd, st _ _ _ _ _ (A.mono s1 r0) q1⟩, hG.mono s1⟩ ?_ hm
  rw [putF_zip_set nd l hk]
  exact w1.putIns o ho _
/-- the last place, an address, is what lies there -/
def LsT (A : TyA α) (A' : TyA γ) (q : Addr) (T : Ty β) (g : α → β → γ) : Prop := ∀ a vs S y, A.rep a vs S → T.rep y (.ref q) S → A'.rep (g a y) vs S
theorem ls_one {q : Addr} : LsT (TyA.one (tAt q)) (TyA.one T) q T (fun _ y => y) := fun a vs S y ⟨v, e, r⟩ h => ⟨v, e, by rw [show v = .ref q from r]; exact h⟩
theorem ls_c {A : TyA α} {A' : TyA γ} {q : Addr} {g : α → β → γ} {W : Ty δ} (h : LsT A A' q T' g) : LsT (TyA.c W A) (TyA.c W A') q T' (fun a y => (a.1, g a.2 y)) := fun a vs S y ⟨v, ws, e, r, r2⟩ z => ⟨v, ws, e, r, h _ _ _ _ r2 z⟩
theorem k_cast {C : Addr} {keys : List Str} {A : TyA α} {A' : TyA γ} {g : α → β → γ} {p q : Addr} {c : List Cell} {a : α} {y : β} {P : Prop} (hG : Okc G S) (j l : Nat) (hf : G[j]? = some ((oIns C keys A).f a p c)) (hy : G[l]? = some (U.f y (.ref q))) (ls : LsT A A' q U g)
    (next : Okc ((oIns C keys A').f (g a y) p c :: G) S → P) : P := by
  obtain ⟨dx, vs, e0, l', nd, r0⟩ := (Okc.at j hf hG : (oIns C keys A).rep a p c S)
  exact next ⟨⟨dx, vs, e0, l', nd, ls _ _ _ _ r0 (Okc.at l hy hG)⟩, hG⟩
/-! ### making -/
/-- the promise of an __init__ -/
def spI (A : TyA α) (m : α → Option β) (C : Addr) (keys : List Str) (A' : TyA β) : Sp := fun vs H Q _ => ∃ (S : Hp) (F : Ow) (a : α) (r : β) (p dx : Addr) (ws : List V), vs = .ref p :: ws ∧ A.rep a ws S ∧ Wd S ([[(p, .ins C dx []), (dx, .own p)]] ++ F) H ∧ m a = some r ∧
  ∀ c S' H', Same S S' → Wd S' ([c] ++ F) H' → (oIns C keys A').rep r p c S' → Q .non H'
theorem simF_make {C : Addr} {keys : List Str} {A : TyA α} {A' : TyA β} {f : α → Option β} {ta : TA} {ma : Option α} {E : XK} (h : SimA G O ta σ ma A) : SimF G O (tMake C (spI A f C keys A') [] E ta) σ (ma.bind fun a => f a) (oIns C keys A') := fun S H F r hG w hm Q k => by
  obtain ⟨a, h1, hm⟩ := bind_some hm
  refine h S H F a hG w h1 _ fun vs S1 H1 s1 w1 q1 => fun x dx hx hdx ne => ?_
  refine ⟨S1, O ++ F, a, r, x, dx, vs ++ [], rfl, by rw [List.append_nil]; exact q1, ?_, hm, fun c S2 H2 s2 w2 q2 => ⟨rfl, k x c S2 H2 (s1.trans s2) w2 q2⟩⟩
  have w2 := w1.newO (o := .own x) hdx
  have hx2 : upd H1 dx (.own x) x = none := by rw [upd_ne (fun e => ne e.symm)]; exact hx
  have w3 := w2.newO (o := .ins C dx []) hx2
  exact w3
/-- a class that may be made by its name -/
structure Mak (CX : CXT) (P : Program) (w : World) (K : PySem.W.Frag) (mg : Str → Option Value) (base : Heap) (k : Nat) (x : Str) (C : Addr) (sp : Sp) : Prop where
  ex : ∃ (f : Addr) (fd : FuncData) (ps : List Str), Mk K C f ∧ FnOk P w K mg base CX k f fd ps sp ∧ mg x = some (.ref C) ∧ Binds K fd ps []
/-- an __init__ of the text; the last nd of its parameters have defaults -/
structure IDefAt (K : PySem.W.Frag) (mg : Str → Option Value) (x : Str) (C : Addr) (qual : Str) (st : Stmt) (nd : Nat) : Prop where
  ex : ∃ (f : Addr) (fd : FuncData) (dvs : List V), dvs.length = nd ∧ FunD K "__init__" qual (defArgs st) (defBody st) (defScope st) dvs [] f fd ∧ Mk K C f ∧ mg x = some (.ref C)
section
variable {CX : CXT} {P : Program} {w : World} {mg : Str → Option Value} {base : Heap}
theorem vals_nil {us : List Value} (h : Vals [] us) : us = [] := by cases h; rfl
theorem mak_mk {x qual : Str} {C : Addr} {st : Stmt} {N ps : List Str} {k nd : Nat} {sp : Sp} (D : IDefAt K mg x C qual st nd) (S : FnScope N ps (defScope st)) (len : ∀ vs H Q E, sp vs H Q E → vs.length = ps.length)
    (hb : (∀ (kV doc pm : Value) (an : Option Addr) (cdv ct : Value) (us : List Value), nd = 0 → us.length = ps.length → bindArgs (PySem.W.fnOf "__init__" qual (defArgs st) (defBody st) (defScope st) .none kV doc pm an cdv ct) ⟨us, []⟩ = pure (ps.zip us)) ∧
      (∀ (T : Addr) (kV doc pm : Value) (an : Option Addr) (cdv ct : Value) (us its : List Value), nd ≠ 0 → us.length = ps.length → its.length = nd →
        ∃ k, bindArgs (PySem.W.fnOf "__init__" qual (defArgs st) (defBody st) (defScope st) (.ref T) kV doc pm an cdv ct) ⟨us, []⟩ = seqItems? (.ref T) >>= k ∧ k (some its.toArray) = pure (ps.zip (us ++ its.drop nd))))
    (hbody : ∀ (f : Addr) (cdv : Value) (A : Around) (outer : List Env) (s : Shared) (H : Hp) (vs : List V) (Q : VK) (E : XK), Room k (A.deeper (envOfC qual (defScope st) s.heap.objs.size f cdv)) → sp vs H Q E →
      ∃ t, PSs (cxOf CX P w K mg base N qual (defScope st) f cdv A outer s H E) (defBody st) t ∧ t { nx := fun _ H' => Q .non H', rt := Q } (start N vs) H) : Mak CX P w K mg base (k + 1) x C sp := by
  obtain ⟨f, fd, dvs, hl, F, M, hm⟩ := D.ex
  refine ⟨f, fd, ps, M, F.ok S len (fun cdv A outer s H vs Q E hr h => hbody f cdv A outer s H vs Q E hr h), hm, ?_⟩
  cases dvs with
  | nil => exact F.bindsN fun kV doc pm an cdv ct us h => hb.1 kV doc pm an cdv ct us hl.symm h
  | cons d ds =>
    have h0 : nd ≠ 0 := by rw [← hl]; simp
    obtain ⟨vs, h1, h2⟩ := F.binds1 (ps := ps) ps.length (d :: ds).length (List.cons_ne_nil _ _) (by simp) fun T kV doc pm an cdv ct us its h3 h4 => by
      obtain ⟨k, e1, e2⟩ := hb.2 T kV doc pm an cdv ct us its h0 h3 (h4.trans hl)
      exact ⟨k, e1, by rw [hl]; exact e2⟩
    rw [List.drop_length] at h1
    rw [vals_nil h1] at h2
    exact h2
end
section
variable {X : Cx} {CX : CXT} {k j : Nat} {x : Str} {C : Addr} {sp : Sp} {p pos : Pos} {e : Expr} {es : List Expr} {t : TA} {E : XK}
theorem pe_mak (c : Mak CX X.prog X.w X.K X.mg X.base k x C sp) (hr : Room j X.A) (hk : k + 1 ≤ j) (hg : Gl X x) (hx : Passes CX X E) (ha : PA X (e :: es) t)
    (hdb : (x == ("__debug__" : Str)) = false := by decide) (he : starEach (e :: es) X.env = (false, eval e X.env) :: starEach es X.env := by rfl) (hpl : (backTo pos (starEach es X.env)).any (·.1) = false := by rfl) :
    PE X (.Call (.Name x p) (e :: es) [] pos) (tMake C sp [] E t) := by
  obtain ⟨f, fd, ps, M, F, hm, b⟩ := c.ex
  exact pe_make M F (hr.mono hk) hg hm b .nil hx ha hdb he hpl
end
/-! ### constants of a class -/
section
variable {X : Cx} {o e : Expr} {f : Str} {pos : Pos} {ta : TE}
theorem pe_cvalK (he : PE X e ta) (hb : attributeBase e f X.env (eval e X.env) = eval e X.env := by rfl) (hK : X.K = K := by rfl) : PE X (.Attribute e f pos) (tCVal K ta f) := by subst hK; exact pe_cval he hb
end
structure CCon (K : PySem.W.Frag) (C : Addr) (f : Str) (i : Int) : Prop where
  ex : ∃ mc u, CRead K C mc ∧ CVal K C mc f (.int i) u
theorem sim_cval {C : Addr} {f : Str} {i : Int} (c : CCon K C f i) : Sim G O (tCVal K (tC (.ref C)) f) σ (some i) tInt := fun S H F r hG w hm Q k => by
  cases hm
  obtain ⟨mc, u, h1, h2⟩ := c.ex
  exact ⟨C, mc, _, u, rfl, h1, h2, k _ S H (Same.refl _) w rfl⟩
/-! ### sorted pairs -/
def lexP (a b : Int × Int) : Bool := decide (a.1 < b.1 ∨ (a.1 = b.1 ∧ a.2 ≤ b.2))
def sortP (xs : List (Int × Int)) : List (Int × Int) := xs.mergeSort lexP
end
end HF

set_option Elab.async false
set_option linter.all false
set_option maxRecDepth 100000
set_option maxHeartbeats 2000000
/-! Mini12: sorted pairs. -/
namespace HF
open PySem PySem.Spec L2 ClX
open PyProof.Rows hiding St
theorem lexP_trans (a b c : Int × Int) : lexP a b = true → lexP b c = true → lexP a c = true := by
  unfold lexP
  simp only [decide_eq_true_eq]
  omega
theorem lexP_total (a b : Int × Int) : (lexP a b || lexP b a) = true := by
  unfold lexP
  simp only [Bool.or_eq_true, decide_eq_true_eq]
  omega
theorem lexP_lexB {a b : Int × Int} : lexP a b = true ↔ SrtO.lexB b a = false := by
  rw [SrtO.lexB_no]
  unfold lexP
  simp only [decide_eq_true_eq]
  omega
theorem eqv_lex {a b : Int × Int} : SrtO.eqv SrtO.lexB a b = true ↔ a = b := by
  rw [SrtO.eqv_iff, SrtO.lexB_no, SrtO.lexB_no]
  constructor
  · intro h
    exact Prod.ext (by omega) (by omega)
  · rintro rfl
    omega
theorem stb_perm {l m : List (Int × Int)} (h : l.Perm m) : SrtO.Stb SrtO.lexB l m := by
  refine ⟨h, fun x => ?_⟩
  have e1 : ∀ n : List (Int × Int), n.filter (SrtO.eqv SrtO.lexB x) = List.replicate (n.filter (SrtO.eqv SrtO.lexB x)).length x := fun n =>
    List.eq_replicate_of_mem fun b hb => (eqv_lex.mp (List.mem_filter.mp hb).2).symm
  rw [e1 l, e1 m, (h.filter _).length_eq]
theorem swo_lexB : SrtO.Swo SrtO.lexB := by
  refine ⟨fun x y h => ?_, fun x y z h1 h2 => ?_⟩
  · have a := SrtO.lexB_iff.mp h
    refine SrtO.lexB_no.mpr ?_
    omega
  · have a := SrtO.lexB_no.mp h1
    have b := SrtO.lexB_no.mp h2
    refine SrtO.lexB_no.mpr ?_
    omega
theorem srtd_sortP (xs : List (Int × Int)) : SrtO.Srtd SrtO.lexB (sortP xs) := by
  have h := List.pairwise_mergeSort (le := lexP) lexP_trans lexP_total xs
  exact h.imp fun r => lexP_lexB.mp r
theorem sortP_uniq {xs ys : List (Int × Int)} (h1 : SrtO.Srtd SrtO.lexB ys) (h2 : ys.Perm xs) : ys = sortP xs :=
  SrtO.stb_uniq swo_lexB h1 (srtd_sortP xs) (stb_perm (h2.trans (List.mergeSort_perm xs lexP).symm))
def keyP (S : Hp) : V → Int × Int
  | .ref t => (match S t with
    | some (.tup [.int i, .int j]) => (i, j)
    | _ => (0, 0))
  | _ => (0, 0)
theorem keyP_of {S : Hp} {a : Int × Int} {v : V} (h : (tP tInt tInt).rep a v S) : keyP S v = a ∧ ∃ t, v = .ref t ∧ S t = some (.tup [.int a.1, .int a.2]) := by
  obtain ⟨t, x, y, rfl, g, h1, h2⟩ := h
  have e1 : x = .int a.1 := h1
  have e2 : y = .int a.2 := h2
  subst e1 e2
  refine ⟨?_, t, rfl, g⟩
  show (match S t with
      | some (.tup [.int i, .int j]) => (i, j)
      | _ => (0, 0)) = a
  rw [g]
theorem keyP_map {S : Hp} {xs : List (Int × Int)} {vs : List V} (r : Rl (tP tInt tInt) S xs vs) : vs.map (keyP S) = xs := by
  induction r with
  | nil => rfl
  | cons q _ ih => rw [List.map_cons, ih, (keyP_of q).1]
section
variable {G : List Fact} {O : Ow} {σ : St} {K : PySem.W.Frag}
theorem simF_sortedP {TL : Ty (List (Int × Int))} [Lk O (oL (tP tInt tInt)) TL] {ta : TE} {ma : Option (List (Int × Int))} (ha : Sim G O ta σ ma TL) : SimF G O (tCB (rSortedPO K) (tCons ta tNil)) σ (ma.bind fun a => some (sortP a)) (oL (tP tInt tInt)) := fun S H F r hG w hm Q k => by
  obtain ⟨xs, h1, hm⟩ := bind_some hm
  cases hm
  refine ha S H F xs hG w h1 _ fun v S1 H1 s1 w1 q1 => ?_
  obtain ⟨p, vs, rfl, r, g⟩ := lkL (O := O) (T := tP tInt tInt) q1
  have hkey : ∀ v ∈ vs, (tP tInt tInt).rep (keyP S1 v) v S1 := fun v m => by
    obtain ⟨i, hi⟩ := List.getElem?_of_mem m
    obtain ⟨x, _, h3⟩ := r.getV hi
    rw [(keyP_of h3).1]
    exact h3
  have hmap : vs.map (keyP S1) = xs := keyP_map r
  refine ⟨p, vs, keyP S1, rfl, SqL.of (g H1 F w1), fun x m => ?_, fun ys q hs hb hn => ?_⟩
  · obtain ⟨_, t, e, h3⟩ := keyP_of (hkey x m)
    exact ⟨t, e, w1.st _ _ h3⟩
  · have hy : ys.map (keyP S1) = sortP xs := by
      refine sortP_uniq (SrtO.srtd_map hs) ?_
      have := (hb.perm).map (keyP S1)
      rw [hmap] at this
      exact this
    have hr : Rl (tP tInt tInt) S1 (ys.map (keyP S1)) ys := by
      have : ∀ y ∈ ys, (tP tInt tInt).rep (keyP S1 y) y S1 := fun y m => hkey y (hb.perm.mem_iff.mp m)
      clear hs hb hy
      induction ys with
      | nil => exact .nil
      | cons y ys ih => exact .cons (this y (List.mem_cons_self ..)) (ih fun z m => this z (List.mem_cons_of_mem _ m))
    rw [hy] at hr
    exact k q _ S1 _ s1 (w1.newO hn) ⟨ys, rfl, hr⟩
end
section
variable {X : Cx} {K : PySem.W.Frag}
theorem cr_sortedPK (hK : X.K = K := by rfl) : CallR X (.builtin "sorted") (rSortedPO K) := by subst hK; exact cr_sortedPO
end
end HF

set_option Elab.async false
set_option linter.all false
set_option maxRecDepth 100000
set_option maxHeartbeats 2000000
/-! Mini13: the house. -/
namespace HF
open PySem PySem.Spec L2 ClX
open PyProof.Rows hiding St
abbrev k_House : List Str := ["_below_masks", "_above_masks", "_below", "_above", "_order", "count", "hues", "wires", "_direct"]
abbrev R_House := List Int × List Int × List (List Int) × List (List Int) × List Int × Int × Int × List (Int × Int) × List (List Int)
abbrev A_House : TyA R_House := .c (tL tInt) (.c (tL tInt) (.c (tL (tL tInt)) (.c (tL (tL tInt)) (.c (tL tInt) (.c tInt (.c tInt (.c (tT (tP tInt tInt)) (.one (tL (tL tInt))))))))))
def toHouse (r : R_House) : HouseD := { belowM := r.1, aboveM := r.2.1, below := r.2.2.1, above := r.2.2.2.1, order := r.2.2.2.2.1, count := r.2.2.2.2.2.1, hues := r.2.2.2.2.2.2.1, wires := r.2.2.2.2.2.2.2.1, direct := r.2.2.2.2.2.2.2.2 }
theorem house_of {C : Addr} : ∀ (a : R_House) (v : V) (S : Hp), (tIns C k_House A_House).rep a v S → (tHouse C).rep (toHouse a) v S := fun a v S ⟨p, dx, vs, e, g, _, l, n, r⟩ => by
  obtain ⟨v1, _, rfl, h1, v2, _, rfl, h2, v3, _, rfl, h3, v4, _, rfl, h4, v5, _, rfl, h5, v6, _, rfl, h6, v7, _, rfl, h7, v8, _, rfl, h8, v9, rfl, h9⟩ := r
  exact ⟨p, dx, _, e, g, ⟨⟨_, rfl, h1⟩, ⟨_, rfl, h2⟩, ⟨_, rfl, h3⟩, ⟨_, rfl, h4⟩, ⟨_, rfl, h5⟩, ⟨_, rfl, h6⟩, ⟨_, rfl, h7⟩, ⟨_, rfl, h8⟩, ⟨_, rfl, h9⟩, fun m n1 n2 n3 n4 n5 n6 n7 n8 n9 => lookup_zip_none (by simp only [List.mem_cons, List.not_mem_nil, or_false, not_or]; exact ⟨n1, n2, n3, n4, n5, n6, n7, n8, n9⟩)⟩⟩
section
variable {X : Cx} {K : PySem.W.Frag} {o value : Expr} {f : Str} {pos pos' : Pos} {ta tv : TE}
theorem ps_fldK (ha : PE X o ta) (hv : PE X value tv) (hs : swapsWith value (some (.Attribute o f pos')) pos.line X.env = pure false := by rfl) (hK : X.K = K := by rfl) : PS X (.Assign [.Attribute o f pos'] value pos) (sFld K ta tv f) := by
  subst hK; exact ps_fld ha hv hs
end
theorem x_endI {β : Type} {OT : OTy β} {r out : β} {p : Addr} {c : List Cell} {S0 S H : Hp} {F : Ow} {Q : VK} (hm : some r = some out) (k : ∀ c S' H', Same S0 S' → Wd S' ([c] ++ F) H' → OT.rep out p c S' → Q .non H') (s : Same S0 S) (W : Wd S ([c] ++ F) H) (h : OT.rep r p c S) : Q .non H := by
  cases hm; exact k _ _ _ s W h
section
variable {G : List Fact} {O : Ow} {σ : St}
theorem sim_house {C : Addr} {t : TE} {m : Option R_House} (h : SimF G O t σ m (oIns C k_House A_House)) : Sim G O t σ (m.bind fun a => some (toHouse a)) (tHouse C) :=
  sim_imp (h.frz frz_Ins) house_of
end
end HF

set_option Elab.async false
set_option linter.all false
set_option maxRecDepth 100000
set_option maxHeartbeats 2000000
/-! Mini14: the script. -/
namespace HF
open PySem PySem.Spec L2 ClX
open PyProof.Rows hiding St
theorem SqL_mono {K : PySem.W.Frag} {S S' : Hp} {p : Addr} {xs : List V} (s : Same S S') (h : SqL K S p xs) : SqL K S' p xs := by
  rcases h with (h | ⟨o, h⟩) | h
  · exact .inl (.inl (s _ _ h))
  · exact .inl (.inr ⟨o, s _ _ h⟩)
  · exact .inr h
def tScr (K : PySem.W.Frag) : Ty (List Int) := ⟨fun xs v S => ∃ p, v = .ref p ∧ SqL K S p (xs.map V.int), fun s ⟨p, e, h⟩ => ⟨p, e, SqL_mono s h⟩⟩
section
variable {G : List Fact} {O : Ow} {σ : St} {K : PySem.W.Frag}
theorem simF_sliceS {te : TE} {tl th : TO} {ma : Option (List Int)} {ml mh : Option (Option Int)} (ha : Sim G O te σ ma (tScr K)) (hl : SimO G O tl σ ml) (hh : SimO G O th σ mh) :
    SimF G O (tSl (rSlL K) te tl th) σ (ma.bind fun a => ml.bind fun l => mh.bind fun h => some (cutL a l h)) (oL tInt) := fun S H F r hG w hm Q k => by
  obtain ⟨a, h1, hm⟩ := bind_some hm
  obtain ⟨b, h2, hm⟩ := bind_some hm
  obtain ⟨c, h3, hm⟩ := bind_some hm
  cases hm
  refine ha S H F a hG w h1 _ fun x S1 H1 s1 w1 q1 => ?_
  refine hl S1 H1 F b (hG.mono s1) w1 h2 _ fun S2 H2 s2 w2 => ?_
  refine hh S2 H2 F c (hG.mono (s1.trans s2)) w2 h3 _ fun S3 H3 s3 w3 => ?_
  obtain ⟨p, rfl, g⟩ := (tScr K).mono (s2.trans s3) q1
  exact ⟨p, _, rfl, SqL_mono w3.st g, fun l hl => k l _ S3 _ ((s1.trans s2).trans s3) (w3.newO hl) ⟨_, rfl, (rl_ints S3 a).cut b c⟩⟩
theorem sim_ixS {ta tb : TE} {ma : Option (List Int)} {mb : Option Int} (ha : Sim G O ta σ ma (tScr K)) (hb : Sim G O tb σ mb tInt) : Sim G O (tOp (rIxL K) ta tb) σ (ma.bind fun a => mb.bind fun b => x_ix a b) tInt :=
  sim_op2 (fun a b c x y S H F h1 h2 w e Q k => by
    obtain ⟨p, rfl, g⟩ := h1
    obtain ⟨v, h3, h4⟩ := atI_rl (rl_ints S a) e
    exact ⟨p, _, b, v, rfl, h2, SqL_mono w.st g, h3, k v S H (Same.refl _) w h4⟩) ha hb
theorem sim_lenS {ta : TE} {ma : Option (List Int)} (ha : Sim G O ta σ ma (tScr K)) : Sim G O (tCB (rLn K) (tCons ta tNil)) σ (ma.bind fun a => some (a.length : Int)) tInt := fun S H F r hG w hm Q k => by
  obtain ⟨a, h1, hm⟩ := bind_some hm
  cases hm
  refine ha S H F a hG w h1 _ fun v S1 H1 s1 w1 q => ?_
  obtain ⟨p, rfl, g⟩ := q
  refine ⟨p, _, rfl, .inl (SqL_mono w1.st g), k _ S1 H1 s1 w1 ?_⟩
  show V.int _ = V.int _
  rw [List.length_map]
end
/-- what the law's def promises, as the head asks for it -/
theorem law_end {K : PySem.W.Frag} {m : List Int → Option Bool} {H : Hp} {a : Addr} {ns : List Int} (hS : SqL K H a (ns.map V.int)) (hm : m ns = some true) : spP (TyA.one (tScr K)) m tBool [.ref a] H (fun v _ => v = .bl true) fun _ _ _ => False := by
  refine ⟨H, [], ns, true, ⟨_, rfl, a, rfl, hS⟩, ⟨Same.refl _, ?_, List.nodup_nil⟩, hm, fun v S' H' _ _ r => r⟩
  intro p o m
  cases m
end HF

set_option Elab.async false
set_option linter.all false
set_option maxRecDepth 100000
set_option maxHeartbeats 2000000
/-! Mini15: the head's hook, with the classes' constants. -/
namespace HF
open PySem PySem.Spec L2 ClX
open PyProof.Rows hiding St
def conB (K : PySem.W.Frag) (q : Str × Str × Int) : Bool := PySem.W.readsIn K (He.ga K q.1) (.type "type") &&
  (He.eqO (PySem.W.specialIn K (.ref (He.ga K q.1)) "__getattribute__") (some (some (.builtin "type.__getattribute__"))) &&
    match PySem.W.findCls K (.ref (He.ga K q.1)) (.type "type") q.2.1 with
    | some (.val u) => He.relB (.int q.2.2) u
    | _ => false)
theorem conB_ok {K : PySem.W.Frag} {q : Str × Str × Int} (h : conB K q = true) : CCon K (He.ga K q.1) q.2.1 q.2.2 := by
  obtain ⟨h1, h2⟩ := He.ba h
  obtain ⟨h3, h4⟩ := He.ba h2
  have h5 : (match PySem.W.findCls K (.ref (He.ga K q.1)) (.type "type") q.2.1 with
    | some (.val u) => He.relB (.int q.2.2) u
    | _ => false) = true := h4
  cases e : PySem.W.findCls K (.ref (He.ga K q.1)) (.type "type") q.2.1 with
  | none =>
    rw [e] at h5
    cases h5
  | some o =>
    rw [e] at h5
    cases o with
    | val u => exact ⟨_, u, ⟨h1, He.eqO_ok h3⟩, ⟨e, He.relB_ok h5⟩⟩
    | _ => cases h5
def exB (l : List (Str × Str × Int)) (K : PySem.W.Frag) : Bool := l.all fun q => conB K q
theorem exB_ok {l : List (Str × Str × Int)} {K : PySem.W.Frag} (h : exB l K = true) (i : Nat) {q : Str × Str × Int} (e : l[i]? = some q) : CCon K (He.ga K q.1) q.2.1 q.2.2 := conB_ok (List.all_eq_true.mp h q (List.mem_of_getElem? e))
abbrev AlX : Type := Bool × He.AlD
def asX (g : Addr → Option Obj) : Nat → List Addr
  | 0 => [mainGlobals, cStatics]
  | n + 1 => He.growD g (asX g n)
def obsK (fa : List He.Fa) (fn : List He.DefD) (l : List (Str × Str × Int)) (K : PySem.W.Frag) : AlX := (exB l K, He.obsD fa fn K)
def obsX (n : Nat) (fa : List He.Fa) (fn : List He.DefD) (l : List (Str × Str × Int)) (g : Addr → Option Obj) : AlX := obsK fa fn l (He.frG g (asX g n))
def hookX (n : Nat) (fa : List He.Fa) (fn : List He.DefD) (l : List (Str × Str × Int)) : PySem.W.Hook where
  α := AlX
  obs := fun s => obsX n fa fn l s.heap.get?
  val := fun _ => (true, He.valD fn)
  says := fun _ h => ∃ K : PySem.W.Frag, K.In h ∧ He.SaysD fa fn K ∧ exB l K = true
  of := fun _ _ e => ⟨_, He.frG_in, congrArg (fun z : AlX => z.2) e, congrArg (fun z : AlX => z.1) e⟩
  keeps := fun _ _ _ ⟨K, hK, c, d⟩ k => ⟨K, PySem.W.Frag.In.keeps hK k, c, d⟩
theorem obsX_eq {n : Nat} {fa : List He.Fa} {fn : List He.DefD} {l : List (Str × Str × Int)} {g : Addr → Option Obj} {s : Shared} (h : ∀ a, g a = s.heap.get? a) : obsX n fa fn l g = (hookX n fa fn l).obs s := by
  have e : g = s.heap.get? := funext h
  rw [e] <;> rfl
theorem int_okV {K : PySem.W.Frag} {h : Heap} {mg : Str → Option Value} (X : K.In h) (G : h.Ns mainGlobals mg) {x : Str} {i : Int} (c : (He.Fa.int x i).ok K = true) : ∃ u, mg x = some u ∧ RelV (.int i) u := by
  obtain ⟨t, e⟩ := He.int_ok X G c
  exact ⟨_, e, t, rfl⟩
theorem def_at {K : PySem.W.Frag} {mg : Str → Option Value} {x : Str} {st : Stmt} {f : Addr} (h : ∃ fd, FunD K x x (defArgs st) (defBody st) (defScope st) [] [] f fd) (e : mg x = some (.ref f)) : DefAt K mg x st := by
  obtain ⟨fd, F⟩ := h
  exact ⟨f, fd, F, e⟩
theorem mdef_at {K : PySem.W.Frag} {C : Addr} {m qual : Str} {st : Stmt} {f : Addr} (h : ∃ fd, FunD K m qual (defArgs st) (defBody st) (defScope st) [] [] f fd) (c : Cls K C) (e : Meth K C m f) : MDefAt K C m qual st := by
  obtain ⟨fd, F⟩ := h
  exact ⟨f, fd, F, c, e⟩
theorem idef_at {K : PySem.W.Frag} {mg : Str → Option Value} {x qual : Str} {C : Addr} {st : Stmt} {nd : Nat} {f : Addr} {dvs : List V} (h : ∃ fd, FunD K "__init__" qual (defArgs st) (defBody st) (defScope st) dvs [] f fd) (l : dvs.length = nd) (m : Mk K C f) (e : mg x = some (.ref C)) : IDefAt K mg x C qual st nd := by
  obtain ⟨fd, F⟩ := h
  exact ⟨f, fd, dvs, l, F, m, e⟩
theorem glo_okR {K : PySem.W.Frag} {h : Heap} {mg : Str → Option Value} (X : K.In h) (G : h.Ns mainGlobals mg) {x : Str} (c : (He.Fa.glo x).ok K = true) : ∃ u, mg x = some u ∧ RelV (.ref (He.ga K x)) u := ⟨_, He.glo_ok X G c, rfl⟩
end HF

set_option Elab.async false
set_option linter.all false
set_option maxRecDepth 100000
set_option maxHeartbeats 4000000
set_option pp.maxSteps 40
set_option pp.oneline true
namespace HF
open PySem PySem.Spec L2 ClX
open PyProof.Rows hiding St
abbrev R_bag := (List Int) × Int × Int × Int × Int
abbrev R_world := Int × Int × (List (Int × Int)) × (List Int) × (List (List Int)) × (List (List Int))
abbrev k_bag : List Str := ["cells", "place", "rest", "turn", "mix"]
abbrev k_world : List Str := ["count", "hues", "wires", "listed", "below", "above"]

def m_is_integer (value1 : Int) : Option Bool :=
  ((some value1).bind fun _ => some true).bind fun z3 => andM z3 (((some value1).bind fun _ => some false).bind fun z2 => some (!z2))
def m_bits (mask4 : Int) : Option (List Int) :=
  (((some mask4).bind fun z5 => some ((Builtin.Int.intBits z5 : Nat) : Int)).bind fun z6 => x_range 0 z6).bind fun z14 => x_comp (fun y7 => (((some mask4).bind fun z8 => (some y7).bind fun z9 => x_shr z8 z9).bind fun z10 => (some (1 : Int)).bind fun z11 => some (Builtin.bitAnd z10 z11)).bind fun z12 => (some (1 : Int)).bind fun z13 => some (decide (z12 = z13))) (fun y7 => some y7) z14
def m_below_masks (house15 : HouseD) : Option (List Int) :=
  (some house15).bind fun z16 => some z16.belowM
def m__is_wire (count17 : Int) (value18 : (Int × Int)) : Option Bool :=
  ((((some value18).bind fun _ => some true).bind fun z20 => some (!z20)).bind fun z24 => orM z24 (((some value18).bind fun _ => some 2).bind fun z22 => (some (2 : Int)).bind fun z23 => some (!decide (z22 = z23)))).bind fun c19 => if c19 = true then some false else (some value18).bind fun q25 => ((((some q25.1).bind fun a29 => m_is_integer a29).bind fun z30 => some (!z30)).bind fun z33 => orM z33 (((some q25.2).bind fun a31 => m_is_integer a31).bind fun z32 => some (!z32))).bind fun c28 => if c28 = true then some false else ((some (0 : Int)).bind fun z34 => (some q25.1).bind fun z35 => andM (decide (z34 ≤ z35)) ((some count17).bind fun z36 => some (decide (z35 < z36)))).bind fun z43 => andM z43 (((some (0 : Int)).bind fun z37 => (some q25.2).bind fun z38 => andM (decide (z37 ≤ z38)) ((some count17).bind fun z39 => some (decide (z38 < z39)))).bind fun z42 => andM z42 ((some q25.1).bind fun z40 => (some q25.2).bind fun z41 => some (!decide (z40 = z41))))
def m__join_wires (count44 : Int) (wires45 : (List (Int × Int))) : Option (List Int) :=
  (((some (0 : Int)).bind fun z46 => (some []).bind fun z47 => some (z46 :: z47)).bind fun z48 => (some count44).bind fun z49 => x_rep z48 z49).bind fun wired50 => (((some (0 : Int)).bind fun z54 => (some []).bind fun z55 => some (z54 :: z55)).bind fun z56 => (some count44).bind fun z57 => x_rep z56 z57).bind fun below58 => ((some wires45).bind fun z62 => some (enumL z62)).bind fun xs65 => (foldO (fun (bx63 : (List Int) × (List Int)) y64 => ((((some count44).bind fun z67 => (some y64.2).bind fun z68 => some (z67, z68)).bind fun a69 => m__is_wire a69.1 a69.2).bind fun z70 => some (!z70)).bind fun c66 => if c66 = true then none else (some y64.2).bind fun q71 => (((((some bx63.1).bind fun z75 => (some q71.1).bind fun z76 => x_ix z75 z76).bind fun z77 => (some q71.2).bind fun z78 => x_shr z77 z78).bind fun z79 => (some (1 : Int)).bind fun z80 => some (Builtin.bitAnd z79 z80)).bind fun z81 => (some (1 : Int)).bind fun z82 => some (decide (z81 = z82))).bind fun c74 => if c74 = true then none else (((((some bx63.2).bind fun z84 => (some q71.2).bind fun z85 => x_ix z84 z85).bind fun z86 => (some q71.1).bind fun z87 => x_shr z86 z87).bind fun z88 => (some (1 : Int)).bind fun z89 => some (Builtin.bitAnd z88 z89)).bind fun z90 => (some (1 : Int)).bind fun z91 => some (decide (z90 = z91))).bind fun c83 => if c83 = true then none else (((some bx63.1).bind fun z92 => (some q71.1).bind fun z93 => x_ix z92 z93).bind fun z96 => ((some (1 : Int)).bind fun z94 => (some q71.2).bind fun z95 => x_shl z94 z95).bind fun z97 => some (Builtin.bitOr z96 z97)).bind fun y98 => (some q71.1).bind fun n99 => (x_set bx63.1 n99 y98).bind fun wired100 => (((some bx63.2).bind fun z102 => (some q71.2).bind fun z103 => x_ix z102 z103).bind fun z106 => ((some (1 : Int)).bind fun z104 => (some q71.2).bind fun z105 => x_shl z104 z105).bind fun z107 => some (Builtin.bitOr z106 z107)).bind fun gained108 => ((some count44).bind fun z110 => x_range 0 z110).bind fun xs113 => (foldO (fun (bx111 : (List Int)) y112 => (((some y112).bind fun z115 => (some q71.1).bind fun z116 => some (decide (z115 = z116))).bind fun z125 => orM z125 (((((some bx111).bind fun z117 => (some y112).bind fun z118 => x_ix z117 z118).bind fun z119 => (some q71.1).bind fun z120 => x_shr z119 z120).bind fun z121 => (some (1 : Int)).bind fun z122 => some (Builtin.bitAnd z121 z122)).bind fun z123 => (some (1 : Int)).bind fun z124 => some (decide (z123 = z124)))).bind fun c114 => if c114 = true then (((some bx111).bind fun z126 => (some y112).bind fun z127 => x_ix z126 z127).bind fun z128 => (some gained108).bind fun z129 => some (Builtin.bitOr z128 z129)).bind fun y130 => (some y112).bind fun n131 => (x_set bx111 n131 y130).bind fun below132 => some below132 else some bx111) bx63.2 xs113).bind fun bx111 => some (wired100, bx111)) (wired50, below58) xs65).bind fun bx63 => some bx63.2
def m__turn_round (below134 : (List Int)) : Option (List Int) :=
  (((some (0 : Int)).bind fun z135 => (some []).bind fun z136 => some (z135 :: z136)).bind fun z138 => ((some below134).bind fun z137 => some (z137.length : Int)).bind fun z139 => x_rep z138 z139).bind fun upper_masks140 => ((some below134).bind fun z144 => some (enumL z144)).bind fun xs147 => (foldO (fun (bx145 : (List Int)) y146 => ((some y146.2).bind fun a148 => m_bits a148).bind fun xs151 => (foldO (fun (bx149 : (List Int)) y150 => (((some bx149).bind fun z152 => (some y150).bind fun z153 => x_ix z152 z153).bind fun z156 => ((some (1 : Int)).bind fun z154 => (some y146.1).bind fun z155 => x_shl z154 z155).bind fun z157 => some (Builtin.bitOr z156 z157)).bind fun y158 => (some y150).bind fun n159 => (x_set bx149 n159 y158).bind fun upper_masks160 => some upper_masks160) bx145 xs151).bind fun bx149 => some bx149) upper_masks140 xs147).bind fun bx145 => some bx145
def m__order_list (masks162 : (List Int)) : Option (List Int) :=
  (some ([] : (List Int))).bind fun lamps163 => (some (0 : Int)).bind fun listed167 => (whileO (fun (bx169 : (List Int) × Int) => ((some bx169.1).bind fun z170 => some (z170.length : Int)).bind fun z172 => ((some masks162).bind fun z171 => some (z171.length : Int)).bind fun z173 => some (decide (z172 < z173))) (fun (bx169 : (List Int) × Int) => (((some masks162).bind fun z174 => some (enumL z174)).bind fun z180 => x_comp (fun y175 => ((some y175.2).bind fun z176 => (some bx169.2).bind fun z177 => some (Builtin.bitAnd z176 z177)).bind fun z178 => (some y175.2).bind fun z179 => some (decide (z178 = z179))) (fun y175 => some y175.1) z180).bind fun ready181 => ((some ready181).bind fun z190 => x_comp (fun y183 => (((some bx169.2).bind fun z184 => (some y183).bind fun z185 => x_shr z184 z185).bind fun z186 => (some (1 : Int)).bind fun z187 => some (Builtin.bitAnd z186 z187)).bind fun z188 => (some (0 : Int)).bind fun z189 => some (decide (z188 = z189))) (fun y183 => some y183) z190).bind fun following191 => ((some following191).bind fun z193 => (some (0 : Int)).bind fun z194 => x_ix z193 z194).bind fun y195 => (x_app bx169.1 y195).bind fun lamps196 => ((some bx169.2).bind fun z202 => ((some (1 : Int)).bind fun z200 => ((some following191).bind fun z198 => (some (0 : Int)).bind fun z199 => x_ix z198 z199).bind fun z201 => x_shl z200 z201).bind fun z203 => some (Builtin.bitOr z202 z203)).bind fun listed204 => some (lamps196, listed204)) (masks162.length + 1) (lamps163, listed167)).bind fun bx169 => some bx169.1
def m_House___init__ (count207 : Int) (hues208 : Int) (wires209 : (List (Int × Int))) : Option ((List Int) × (List Int) × (List (List Int)) × (List (List Int)) × (List Int) × Int × Int × (List (Int × Int)) × (List (List Int))) :=
  ((((some count207).bind fun a211 => m_is_integer a211).bind fun z212 => some (!z212)).bind fun z217 => orM z217 (((some (1 : Int)).bind fun z213 => (some count207).bind fun z214 => andM (decide (z213 ≤ z214)) ((some (16 : Int)).bind fun z215 => some (decide (z214 ≤ z215)))).bind fun z216 => some (!z216))).bind fun c210 => if c210 = true then none else ((((some hues208).bind fun a219 => m_is_integer a219).bind fun z220 => some (!z220)).bind fun z225 => orM z225 (((some (2 : Int)).bind fun z221 => (some hues208).bind fun z222 => andM (decide (z221 ≤ z222)) ((some (10 : Int)).bind fun z223 => some (decide (z222 ≤ z223)))).bind fun z224 => some (!z224))).bind fun c218 => if c218 = true then none else (((some count207).bind fun z229 => (some wires209).bind fun z230 => some (z229, z230)).bind fun a231 => m__join_wires a231.1 a231.2).bind fun y226 => (some (y226)).bind fun self227 => (((some self227).bind fun z235 => some z235).bind fun a236 => m__turn_round a236).bind fun y232 => (some ((self227, y232))).bind fun self233 => (((some self233).bind fun z240 => some z240.1).bind fun z243 => x_comp (fun y241 => some true) (fun y241 => (some y241).bind fun a242 => m_bits a242) z243).bind fun y237 => (some ((self233.1, (self233.2, y237)))).bind fun self238 => (((some self238).bind fun z247 => some z247.2.1).bind fun z250 => x_comp (fun y248 => some true) (fun y248 => (some y248).bind fun a249 => m_bits a249) z250).bind fun y244 => (some ((self238.1, (self238.2.1, (self238.2.2, y244))))).bind fun self245 => (((some self245).bind fun z254 => some z254.2.1).bind fun a255 => m__order_list a255).bind fun y251 => (some ((self245.1, (self245.2.1, (self245.2.2.1, (self245.2.2.2, y251)))))).bind fun self252 => (some count207).bind fun y256 => (some ((self252.1, (self252.2.1, (self252.2.2.1, (self252.2.2.2.1, (self252.2.2.2.2, y256))))))).bind fun self257 => (some hues208).bind fun y259 => (some ((self257.1, (self257.2.1, (self257.2.2.1, (self257.2.2.2.1, (self257.2.2.2.2.1, (self257.2.2.2.2.2, y259)))))))).bind fun self260 => ((some wires209).bind fun z265 => some (sortP z265)).bind fun y262 => (some ((self260.1, (self260.2.1, (self260.2.2.1, (self260.2.2.2.1, (self260.2.2.2.2.1, (self260.2.2.2.2.2.1, (self260.2.2.2.2.2.2, y262))))))))).bind fun self263 => (((some count207).bind fun z269 => x_range 0 z269).bind fun z271 => x_comp (fun y270 => some true) (fun y270 => some ([] : (List Int))) z271).bind fun y266 => (some ((self263.1, (self263.2.1, (self263.2.2.1, (self263.2.2.2.1, (self263.2.2.2.2.1, (self263.2.2.2.2.2.1, (self263.2.2.2.2.2.2.1, (self263.2.2.2.2.2.2.2, ())))))))))).bind fun self267 => ((some self267).bind fun z274 => some z274.2.2.2.2.2.2.2.1).bind fun xs277 => (foldO (fun (bx275 : (List (List Int))) y276 => ((some self267).bind fun z278 => some z278.2.2.2.2.2.2.2.2).bind fun u279 => (some y276.1).bind fun n280 => (some y276.2).bind fun y281 => (x_app2 bx275 n280 y281).bind fun xss282 => some xss282) y266 xs277).bind fun bx275 => some (self267.1, (self267.2.1, (self267.2.2.1, (self267.2.2.2.1, (self267.2.2.2.2.1, (self267.2.2.2.2.2.1, (self267.2.2.2.2.2.2.1, (self267.2.2.2.2.2.2.2.1, bx275))))))))
def m_House_order (self284 : HouseD) : Option (List Int) :=
  (some self284).bind fun z285 => some z285.order
def m_is_state (house286 : HouseD) (value287 : (List Int)) : Option Bool :=
  ((((some value287).bind fun _ => some true).bind fun z289 => some (!z289)).bind fun z294 => orM z294 (((some value287).bind fun z290 => some (z290.length : Int)).bind fun z292 => ((some house286).bind fun z291 => some z291.count).bind fun z293 => some (!decide (z292 = z293)))).bind fun c288 => if c288 = true then some false else ((some value287).bind fun z302 => x_comp (fun y295 => some true) (fun y295 => ((some y295).bind fun a296 => m_is_integer a296).bind fun z301 => andM z301 ((some (0 : Int)).bind fun z298 => (some y295).bind fun z299 => andM (decide (z298 ≤ z299)) (((some house286).bind fun z297 => some z297.hues).bind fun z300 => some (decide (z299 < z300))))) z302).bind fun z303 => some (z303.all id)
def m__check_state (house304 : HouseD) (value305 : (List Int)) : Option Unit :=
  ((((some house304).bind fun z307 => (some value305).bind fun z308 => some (z307, z308)).bind fun a309 => m_is_state a309.1 a309.2).bind fun z310 => some (!z310)).bind fun c306 => if c306 = true then none else some ()
def m_mirror (house311 : HouseD) (state312 : (List Int)) : Option (List Int) :=
  (((some house311).bind fun z313 => (some state312).bind fun z314 => some (z313, z314)).bind fun a315 => m__check_state a315.1 a315.2).bind fun z316 => (some state312).bind fun z323 => x_comp (fun y317 => some true) (fun y317 => (((some house311).bind fun z318 => some z318.hues).bind fun z319 => (some (1 : Int)).bind fun z320 => some (z319 - z320)).bind fun z321 => (some y317).bind fun z322 => some (z321 - z322)) z323
def m_need_state (house324 : HouseD) (value325 : (List Int)) : Option Unit :=
  ((((some house324).bind fun z327 => (some value325).bind fun z328 => some (z327, z328)).bind fun a329 => m_is_state a329.1 a329.2).bind fun z330 => some (!z330)).bind fun c326 => if c326 = true then none else some ()
def m__power (base331 : Int) (exponent332 : Int) : Option Int :=
  (some (1 : Int)).bind fun result333 => ((some exponent332).bind fun z335 => x_range 0 z335).bind fun xs338 => (foldO (fun (bx336 : Int) y337 => ((some bx336).bind fun z339 => (some base331).bind fun z340 => x_mul z339 z340).bind fun result341 => some result341) result333 xs338).bind fun bx336 => some bx336
def m__all_lamps (house343 : HouseD) : Option Int :=
  ((some (1 : Int)).bind fun z345 => ((some house343).bind fun z344 => some z344.count).bind fun z346 => x_shl z345 z346).bind fun z347 => (some (1 : Int)).bind fun z348 => some (z347 - z348)
def m_waysT : Nat → HouseD → Int → (List Int) → Int → Int → (List (Int × Int)) → Option (Int × (List (Int × Int)))
  | 0, _, _, _, _, _, _ => none
  | fu + 1, house349, stay350, drops351, free352, mask353, known354 =>
  ((some mask353).bind fun z356 => (some known354).bind fun z357 => some (lookA z357 z356).isSome).bind fun c355 => if c355 = true then ((some known354).bind fun z358 => (some mask353).bind fun z359 => lookA z358 z359).bind fun r360 => some (r360, known354) else (((some house349).bind fun z361 => m_House_order z361).bind fun z368 => x_comp (fun y362 => (((some mask353).bind fun z363 => (some y362).bind fun z364 => x_shr z363 z364).bind fun z365 => (some (1 : Int)).bind fun z366 => some (Builtin.bitAnd z365 z366)).bind fun z367 => some (z367 != 0)) (fun y362 => some y362) z368).bind fun waiting369 => ((some waiting369).bind fun z371 => (some (0 : Int)).bind fun z372 => x_ix z371 z372).bind fun first373 => ((some mask353).bind fun z377 => ((some (1 : Int)).bind fun z375 => (some first373).bind fun z376 => x_shl z375 z376).bind fun z378 => some (z377 - z378)).bind fun rest379 => ((((some house349).bind fun a381 => m_below_masks a381).bind fun z382 => (some first373).bind fun z383 => x_ix z382 z383).bind fun z384 => (some rest379).bind fun z385 => some (Builtin.bitAnd z384 z385)).bind fun hanging386 => (m_waysT fu house349 stay350 drops351 free352 rest379 known354).bind fun r388 => ((some stay350).bind fun z391 => (some r388.1).bind fun z392 => x_mul z391 z392).bind fun x393 => ((((some drops351).bind fun z397 => (some first373).bind fun z398 => x_ix z397 z398).bind fun z399 => (some (0 : Int)).bind fun z400 => some (decide (z400 < z399))).bind fun c395 => if c395 = true then (((some drops351).bind fun z401 => (some first373).bind fun z402 => x_ix z401 z402).bind fun z408 => (((some free352).bind fun z405 => (((some hanging386).bind fun a403 => m_bits a403).bind fun z404 => some (z404.length : Int)).bind fun z406 => some (z405, z406)).bind fun a407 => m__power a407.1 a407.2).bind fun z409 => x_mul z408 z409).bind fun each410 => ((some rest379).bind fun z412 => (some hanging386).bind fun z413 => some (z412 - z413)).bind fun x414 => (m_waysT fu house349 stay350 drops351 free352 x414 r388.2).bind fun r416 => ((some each410).bind fun z419 => (some r416.1).bind fun z420 => x_mul z419 z420).bind fun x421 => ((some x393).bind fun z423 => (some x421).bind fun z424 => some (z423 + z424)).bind fun x425 => some (r416.2, x425) else some (r388.2, x393)).bind fun bx396 => (some bx396.2).bind fun y427 => (some mask353).bind fun n428 => (x_putA bx396.1 n428 y427).bind fun known429 => (some bx396.2).bind fun r431 => some (r431, known429)
def m_waysL : Nat → HouseD → Int → (List Int) → Int → Int → (List (Int × Int)) → Option (Int × (List (Int × Int)))
  | 0, _, _, _, _, _, _ => none
  | fu + 1, house432, stay433, drops434, free435, mask436, known437 =>
  ((some mask436).bind fun z439 => (some known437).bind fun z440 => some (lookA z440 z439).isSome).bind fun c438 => if c438 = true then ((some known437).bind fun z441 => (some mask436).bind fun z442 => lookA z441 z442).bind fun r443 => some (r443, known437) else (((some house432).bind fun z444 => m_House_order z444).bind fun z451 => x_comp (fun y445 => (((some mask436).bind fun z446 => (some y445).bind fun z447 => x_shr z446 z447).bind fun z448 => (some (1 : Int)).bind fun z449 => some (Builtin.bitAnd z448 z449)).bind fun z450 => some (z450 != 0)) (fun y445 => some y445) z451).bind fun waiting452 => ((some waiting452).bind fun z454 => (some (0 : Int)).bind fun z455 => x_ix z454 z455).bind fun first456 => ((some mask436).bind fun z460 => ((some (1 : Int)).bind fun z458 => (some first456).bind fun z459 => x_shl z458 z459).bind fun z461 => some (z460 - z461)).bind fun rest462 => ((((some house432).bind fun a464 => m_below_masks a464).bind fun z465 => (some first456).bind fun z466 => x_ix z465 z466).bind fun z467 => (some rest462).bind fun z468 => some (Builtin.bitAnd z467 z468)).bind fun hanging469 => (m_waysL fu house432 stay433 drops434 free435 rest462 known437).bind fun r471 => ((some stay433).bind fun z474 => (some r471.1).bind fun z475 => x_mul z474 z475).bind fun x476 => ((((some drops434).bind fun z480 => (some first456).bind fun z481 => x_ix z480 z481).bind fun z482 => (some (0 : Int)).bind fun z483 => some (decide (z483 < z482))).bind fun c478 => if c478 = true then (((some drops434).bind fun z484 => (some first456).bind fun z485 => x_ix z484 z485).bind fun z491 => (((some free435).bind fun z488 => (((some hanging469).bind fun a486 => m_bits a486).bind fun z487 => some (z487.length : Int)).bind fun z489 => some (z488, z489)).bind fun a490 => m__power a490.1 a490.2).bind fun z492 => x_mul z491 z492).bind fun each493 => ((some rest462).bind fun z495 => (some hanging469).bind fun z496 => some (z495 - z496)).bind fun x497 => (m_waysL fu house432 stay433 drops434 free435 x497 r471.2).bind fun r499 => ((some each493).bind fun z502 => (some r499.1).bind fun z503 => x_mul z502 z503).bind fun x504 => ((some x476).bind fun z506 => (some x504).bind fun z507 => some (z506 + z507)).bind fun x508 => some (r499.2, x508) else some (r471.2, x476)).bind fun bx479 => (some bx479.2).bind fun y510 => (some mask436).bind fun n511 => (x_putA bx479.1 n511 y510).bind fun known512 => (some bx479.2).bind fun r514 => some (r514, known512)
def m_free_count (house515 : HouseD) (state516 : (List Int)) (mask517 : Int) : Option Int :=
  (some (1 : Int)).bind fun x518 => ((some house515).bind fun z520 => some z520.hues).bind fun x521 => ((some (1 : Int)).bind fun z523 => some [((0 : Int), z523)]).bind fun o524 => (m_waysT 20 house515 x518 state516 x521 mask517 o524).bind fun r527 => some r527.1
def m_lower_count (house530 : HouseD) (state531 : (List Int)) : Option Int :=
  (((some house530).bind fun z532 => (some state531).bind fun z533 => some (z532, z533)).bind fun a534 => m_need_state a534.1 a534.2).bind fun z535 => ((some house530).bind fun z539 => ((some state531).bind fun z537 => ((some house530).bind fun a536 => m__all_lamps a536).bind fun z538 => some (z537, z538)).bind fun z540 => some (z539, z540)).bind fun a541 => m_free_count a541.1 a541.2.1 a541.2.2
def m_upper_count (house542 : HouseD) (state543 : (List Int)) : Option Int :=
  (((some house542).bind fun z544 => (some state543).bind fun z545 => some (z544, z545)).bind fun a546 => m_need_state a546.1 a546.2).bind fun z547 => ((some house542).bind fun z554 => ((((some house542).bind fun z548 => (some state543).bind fun z549 => some (z548, z549)).bind fun a550 => m_mirror a550.1 a550.2).bind fun z552 => ((some house542).bind fun a551 => m__all_lamps a551).bind fun z553 => some (z552, z553)).bind fun z555 => some (z554, z555)).bind fun a556 => m_free_count a556.1 a556.2.1 a556.2.2
def m_pair_count (house557 : HouseD) : Option Int :=
  ((some house557).bind fun z558 => some z558.hues).bind fun hues559 => (((((some hues559).bind fun z563 => ((some hues559).bind fun z561 => (some (1 : Int)).bind fun z562 => some (z561 - z562)).bind fun z564 => x_mul z563 z564).bind fun z565 => (some (2 : Int)).bind fun z566 => x_div z565 z566).bind fun z567 => (some []).bind fun z568 => some (z567 :: z568)).bind fun z570 => ((some house557).bind fun z569 => some z569.count).bind fun z571 => x_rep z570 z571).bind fun drops572 => ((some hues559).bind fun z574 => (some hues559).bind fun z575 => x_mul z574 z575).bind fun x576 => ((some house557).bind fun a578 => m__all_lamps a578).bind fun x579 => ((some (1 : Int)).bind fun z581 => some [((0 : Int), z581)]).bind fun o582 => (m_waysL 20 house557 hues559 drops572 x576 x579 o582).bind fun r585 => some r585.1
def m__law_bag (script588 : (List Int)) : Option R_bag :=
  (((some script588).bind fun z590 => (some none).bind fun z591 => ((some (63 : Int)).bind fun z589 => some (some z589)).bind fun z592 => some (cutL z590 z591 z592)).bind fun z595 => x_comp (fun y593 => some true) (fun y593 => (some y593).bind fun z594 => some (if z594 < 0 then -z594 else z594)) z595).bind fun z602 => ((some (0 : Int)).bind fun z600 => ((some (0 : Int)).bind fun z598 => ((some (0 : Int)).bind fun z596 => (some (145 : Int)).bind fun z597 => some (z596, z597)).bind fun z599 => some (z598, z599)).bind fun z601 => some (z600, z601)).bind fun z603 => some (z602, z603)
def m__law_draw (bag_here604 : R_bag) (size605 : Int) : Option (Int × R_bag) :=
  ((some bag_here604).bind fun z606 => some z606.2.2.1).bind fun rest607 => ((some rest607).bind fun z610 => (some (0 : Int)).bind fun z611 => some (decide (z611 < z610))).bind fun c609 => if c609 = true then ((some rest607).bind fun z612 => (some size605).bind fun z613 => x_div z612 z613).bind fun y614 => (some ((bag_here604.1, (bag_here604.2.1, (y614, bag_here604.2.2.2))))).bind fun bag_here615 => ((some rest607).bind fun z617 => (some size605).bind fun z618 => x_mod z617 z618).bind fun r619 => some (r619, bag_here615) else (((some bag_here604).bind fun z620 => some z620.2.2.2.1).bind fun z621 => (some (1 : Int)).bind fun z622 => some (z621 + z622)).bind fun turn623 => (some turn623).bind fun y625 => (some ((bag_here604.1, (bag_here604.2.1, (bag_here604.2.2.1, (y625, bag_here604.2.2.2.2)))))).bind fun bag_here626 => (((((some bag_here626).bind fun z628 => some z628.2.2.2.2).bind fun z629 => (some (48271 : Int)).bind fun z630 => x_mulS z629 z630).bind fun z633 => ((some turn623).bind fun z631 => (some (7919 : Int)).bind fun z632 => x_mulS z631 z632).bind fun z634 => some (z633 + z634)).bind fun z635 => (some (2147483647 : Int)).bind fun z636 => x_mod z635 z636).bind fun mix637 => ((some bag_here626).bind fun z639 => some z639.2.1).bind fun place640 => joinK (fun (bx643 : R_bag × Int) => (some bx643.2).bind fun y646 => (some ((bx643.1.1, (bx643.1.2.1, (bx643.1.2.2.1, (bx643.1.2.2.2.1, y646)))))).bind fun bag_here647 => (((((some bx643.2).bind fun z649 => (some (40692 : Int)).bind fun z650 => x_mulS z649 z650).bind fun z651 => (some (2147483399 : Int)).bind fun z652 => x_mod z651 z652).bind fun z653 => (some (31 : Int)).bind fun z654 => x_div z653 z654).bind fun z655 => (some size605).bind fun z656 => x_mod z655 z656).bind fun r657 => some (r657, bag_here647)) fun k644 => ((some place640).bind fun z660 => (((some bag_here626).bind fun z658 => some z658.1).bind fun z659 => some (z659.length : Int)).bind fun z661 => some (decide (z660 < z661))).bind fun c642 => if c642 = true then (((some bag_here626).bind fun z662 => some z662.1).bind fun z663 => (some place640).bind fun z664 => x_ix z663 z664).bind fun cell665 => ((some place640).bind fun z667 => (some (1 : Int)).bind fun z668 => some (z667 + z668)).bind fun y669 => (some ((bag_here626.1, (y669, bag_here626.2.2)))).bind fun bag_here670 => ((some cell665).bind fun z675 => ((some (10 : Int)).bind fun z673 => (some (18 : Int)).bind fun z674 => x_pow z673 z674).bind fun z676 => some (decide (z676 ≤ z675))).bind fun c672 => if c672 = true then (some mix637).bind fun y677 => (some ((bag_here670.1, (bag_here670.2.1, (bag_here670.2.2.1, (bag_here670.2.2.2.1, y677)))))).bind fun bag_here678 => ((some cell665).bind fun z680 => (some size605).bind fun z681 => x_div z680 z681).bind fun y682 => (some ((bag_here678.1, (bag_here678.2.1, (y682, bag_here678.2.2.2))))).bind fun bag_here683 => ((some cell665).bind fun z685 => (some size605).bind fun z686 => x_mod z685 z686).bind fun r687 => some (r687, bag_here683) else ((((some mix637).bind fun z690 => ((some cell665).bind fun z688 => (some (69621 : Int)).bind fun z689 => x_mulS z688 z689).bind fun z691 => some (z690 + z691)).bind fun z692 => (some (1 : Int)).bind fun z693 => some (z692 + z693)).bind fun z694 => (some (2147483647 : Int)).bind fun z695 => x_mod z694 z695).bind fun mix696 => k644 (bag_here670, mix696) else k644 (bag_here626, mix637)
def m__law_shuffled (bag_here698 : R_bag) (count_here699 : Int) : Option ((List Int) × R_bag) :=
  ((some count_here699).bind fun z700 => x_lrange 0 z700).bind fun lamps701 => (some ([] : (List Int))).bind fun line705 => ((some count_here699).bind fun z709 => x_range 0 z709).bind fun xs712 => (foldO (fun (bx710 : R_bag × (List Int) × (List Int)) y711 => ((some bx710.2.1).bind fun z713 => some (z713.length : Int)).bind fun x714 => (m__law_draw bx710.1 x714).bind fun r716 => (x_popAt bx710.2.1 r716.1).bind fun r719 => (x_app bx710.2.2 r719.1).bind fun line722 => some (r716.2, r719.2, line722)) (bag_here698, lamps701, line705) xs712).bind fun bx710 => (some bx710.2.2).bind fun r724 => some (r724, bx710.1)
def m__law_wired (bag_here725 : R_bag) (shape726 : Int) (split727 : Int) (parent728 : Int) (high729 : Int) (low730 : Int) : Option (Bool × R_bag) :=
  ((some shape726).bind fun z732 => (some (2 : Int)).bind fun z733 => some (decide (z732 < z733))).bind fun c731 => if c731 = true then ((some (2 : Int)).bind fun z736 => ((some (2 : Int)).bind fun z734 => (some shape726).bind fun z735 => x_mulS z734 z735).bind fun z737 => some (z736 + z737)).bind fun x738 => (m__law_draw bag_here725 x738).bind fun r740 => (some (0 : Int)).bind fun x743 => ((some r740.1).bind fun z745 => (some x743).bind fun z746 => some (decide (z745 = z746))).bind fun x747 => some (x747, r740.2) else ((some shape726).bind fun z750 => (some (2 : Int)).bind fun z751 => some (decide (z750 = z751))).bind fun c749 => if c749 = true then ((some high729).bind fun z754 => ((some low730).bind fun z752 => (some (1 : Int)).bind fun z753 => some (z752 - z753)).bind fun z755 => some (decide (z754 = z755))).bind fun r756 => some (r756, bag_here725) else ((some shape726).bind fun z758 => (some (3 : Int)).bind fun z759 => some (decide (z758 = z759))).bind fun c757 => if c757 = true then ((some high729).bind fun z760 => (some parent728).bind fun z761 => some (decide (z760 = z761))).bind fun r762 => some (r762, bag_here725) else (((some shape726).bind fun z763 => (some (4 : Int)).bind fun z764 => some (decide (z763 = z764))).bind fun z770 => andM z770 (((some high729).bind fun z765 => (some split727).bind fun z766 => some (decide (z765 < z766))).bind fun z769 => andM z769 ((some split727).bind fun z767 => (some low730).bind fun z768 => some (decide (z767 ≤ z768))))).bind fun r771 => some (r771, bag_here725)
def m__law_wires (bag_here772 : R_bag) (line773 : (List Int)) : Option ((List (Int × Int)) × R_bag) :=
  ((some (0 : Int)).bind fun z796 => ((some (0 : Int)).bind fun z794 => ((some (0 : Int)).bind fun z792 => ((some (0 : Int)).bind fun z790 => ((some (1 : Int)).bind fun z788 => ((some (1 : Int)).bind fun z786 => ((some (2 : Int)).bind fun z784 => ((some (2 : Int)).bind fun z782 => ((some (3 : Int)).bind fun z780 => ((some (3 : Int)).bind fun z778 => ((some (4 : Int)).bind fun z776 => ((some (5 : Int)).bind fun z774 => (some []).bind fun z775 => some (z774 :: z775)).bind fun z777 => some (z776 :: z777)).bind fun z779 => some (z778 :: z779)).bind fun z781 => some (z780 :: z781)).bind fun z783 => some (z782 :: z783)).bind fun z785 => some (z784 :: z785)).bind fun z787 => some (z786 :: z787)).bind fun z789 => some (z788 :: z789)).bind fun z791 => some (z790 :: z791)).bind fun z793 => some (z792 :: z793)).bind fun z795 => some (z794 :: z795)).bind fun z797 => some (z796 :: z797)).bind fun x798 => (some (12 : Int)).bind fun x800 => (m__law_draw bag_here772 x800).bind fun r802 => ((some x798).bind fun z805 => (some r802.1).bind fun z806 => x_ix z805 z806).bind fun x807 => (some (1 : Int)).bind fun x809 => ((some line773).bind fun z811 => some (z811.length : Int)).bind fun x812 => (m__law_draw r802.2 x812).bind fun r814 => ((some x809).bind fun z817 => (some r814.1).bind fun z818 => some (z817 + z818)).bind fun x819 => (some ([] : (List (Int × Int)))).bind fun wires_here821 => ((some (1 : Int)).bind fun z827 => ((some line773).bind fun z825 => some (z825.length : Int)).bind fun z828 => x_range z827 z828).bind fun xs831 => (foldO (fun (bx829 : R_bag × (List (Int × Int))) y830 => (m__law_draw bx829.1 y830).bind fun r832 => ((some y830).bind fun z835 => x_range 0 z835).bind fun xs838 => (foldO (fun (bx836 : R_bag × (List (Int × Int))) y837 => (m__law_wired bx836.1 x807 x819 r832.1 y837 y830).bind fun r840 => if r840.1 = true then (((some line773).bind fun z843 => (some y837).bind fun z844 => x_ix z843 z844).bind fun z847 => ((some line773).bind fun z845 => (some y830).bind fun z846 => x_ix z845 z846).bind fun z848 => some (z847, z848)).bind fun y849 => (x_app bx836.2 y849).bind fun wires_here850 => some (r840.2, wires_here850) else some (r840.2, bx836.2)) (r832.2, bx829.2) xs838).bind fun bx836 => some (bx836.1, bx836.2)) (r814.2, wires_here821) xs831).bind fun bx829 => joinK (fun (bx854 : R_bag × (List (Int × Int))) => (some bx854.2).bind fun r857 => some (r857, bx854.1)) fun k855 => (some (2 : Int)).bind fun x858 => (m__law_draw bx829.1 x858).bind fun r860 => (some (1 : Int)).bind fun x863 => ((some r860.1).bind fun z865 => (some x863).bind fun z866 => some (decide (z865 = z866))).bind fun x867 => if x867 = true then ((some bx829.2).bind fun z869 => some z869.reverse).bind fun wires_here870 => k855 (r860.2, wires_here870) else k855 (r860.2, bx829.2)
def m__law_all_in (lamps872 : (List Int)) (listed873 : (List Int)) : Option Bool :=
  (((some lamps872).bind fun z877 => x_comp (fun y874 => (some y874).bind fun z875 => (some listed873).bind fun z876 => some (decide (z875 ∈ z876))) (fun y874 => some y874) z877).bind fun z878 => some (z878.length : Int)).bind fun z880 => ((some lamps872).bind fun z879 => some (z879.length : Int)).bind fun z881 => some (decide (z880 = z881))
def m__law_known (count_here882 : Int) (hues_here883 : Int) (wires_here884 : (List (Int × Int))) (line885 : (List Int)) : Option R_world :=
  (((some count_here882).bind fun z886 => x_range 0 z886).bind fun z888 => x_comp (fun y887 => some true) (fun y887 => some ([] : (List Int))) z888).bind fun below889 => ((some count_here882).bind fun z893 => x_range 0 z893).bind fun xs896 => (foldO (fun (bx894 : (List (List Int))) y895 => ((some line885).bind fun z901 => (((some count_here882).bind fun z897 => (some (1 : Int)).bind fun z898 => some (z897 - z898)).bind fun z899 => (some y895).bind fun z900 => some (z899 - z900)).bind fun z902 => x_ix z901 z902).bind fun upper903 => (some ([] : (List Int))).bind fun found905 => (some wires_here884).bind fun xs909 => (foldO (fun (bx907 : (List Int)) y908 => (((some y908).bind fun z911 => some z911.1).bind fun z912 => (some upper903).bind fun z913 => some (decide (z912 = z913))).bind fun c910 => if c910 = true then (((some bx907).bind fun z917 => (((some y908).bind fun z914 => some z914.2).bind fun z915 => (some []).bind fun z916 => some (z915 :: z916)).bind fun z918 => x_cat z917 z918).bind fun z922 => ((some bx894).bind fun z920 => ((some y908).bind fun z919 => some z919.2).bind fun z921 => x_ix z920 z921).bind fun z923 => x_cat z922 z923).bind fun found924 => some found924 else some bx907) found905 xs909).bind fun bx907 => (((some count_here882).bind fun z926 => x_range 0 z926).bind fun z930 => x_comp (fun y927 => (some y927).bind fun z928 => (some bx907).bind fun z929 => some (decide (z928 ∈ z929))) (fun y927 => some y927) z930).bind fun y931 => (some upper903).bind fun n932 => (x_set bx894 n932 y931).bind fun below933 => some below933) below889 xs896).bind fun bx894 => (some ([] : (List (List Int)))).bind fun above935 => ((some count_here882).bind fun z939 => x_range 0 z939).bind fun xs942 => (foldO (fun (bx940 : (List (List Int))) y941 => (((some count_here882).bind fun z943 => x_range 0 z943).bind fun z949 => x_comp (fun y944 => (some y941).bind fun z947 => ((some bx894).bind fun z945 => (some y944).bind fun z946 => x_ix z945 z946).bind fun z948 => some (decide (z947 ∈ z948))) (fun y944 => some y944) z949).bind fun y950 => (x_app bx940 y950).bind fun above951 => some above951) above935 xs942).bind fun bx940 => (some ([] : (List Int))).bind fun listed953 => ((some count_here882).bind fun z957 => x_range 0 z957).bind fun xs960 => (foldO (fun (bx958 : (List Int)) y959 => (((some count_here882).bind fun z961 => x_range 0 z961).bind fun z965 => x_comp (fun y962 => (some y962).bind fun z963 => (some bx958).bind fun z964 => some (!decide (z963 ∈ z964))) (fun y962 => some y962) z965).bind fun left966 => ((some left966).bind fun z974 => x_comp (fun y968 => (((some bx940).bind fun z969 => (some y968).bind fun z970 => x_ix z969 z970).bind fun z971 => (some bx958).bind fun z972 => some (z971, z972)).bind fun a973 => m__law_all_in a973.1 a973.2) (fun y968 => some y968) z974).bind fun ready975 => ((some ready975).bind fun z977 => (some (0 : Int)).bind fun z978 => x_ix z977 z978).bind fun y979 => (x_app bx958 y979).bind fun listed980 => some listed980) listed953 xs960).bind fun bx958 => ((some count_here882).bind fun z986 => ((some hues_here883).bind fun z984 => ((some wires_here884).bind fun z982 => (some bx958).bind fun z983 => some (z982, z983)).bind fun z985 => some (z984, z985)).bind fun z987 => some (z986, z987)).bind fun world_here988 => (some bx894).bind fun y992 => (some ((world_here988.1, (world_here988.2.1, (world_here988.2.2.1, (world_here988.2.2.2, y992)))) : (Int × Int × (List (Int × Int)) × (List Int) × (List (List Int))))).bind fun world_here993 => (some bx940).bind fun y995 => (some ((world_here993.1, (world_here993.2.1, (world_here993.2.2.1, (world_here993.2.2.2.1, (world_here993.2.2.2.2, y995))))) : R_world)).bind fun world_here996 => some world_here996
def m__law_hues (bag_here998 : R_bag) : Option (Int × R_bag) :=
  (some (2 : Int)).bind fun x999 => (some (3 : Int)).bind fun x1001 => (m__law_draw bag_here998 x1001).bind fun r1003 => ((some x999).bind fun z1006 => (some r1003.1).bind fun z1007 => some (z1006 + z1007)).bind fun x1008 => joinK (fun (bx1011 : R_bag × Int) => (some bx1011.2).bind fun r1014 => some (r1014, bx1011.1)) fun k1012 => (some (5 : Int)).bind fun x1015 => (m__law_draw r1003.2 x1015).bind fun r1017 => (some (4 : Int)).bind fun x1020 => ((some r1017.1).bind fun z1022 => (some x1020).bind fun z1023 => some (decide (z1022 = z1023))).bind fun x1024 => if x1024 = true then (some (2 : Int)).bind fun x1026 => (some (9 : Int)).bind fun x1028 => (m__law_draw r1017.2 x1028).bind fun r1030 => ((some x1026).bind fun z1033 => (some r1030.1).bind fun z1034 => some (z1033 + z1034)).bind fun x1035 => k1012 (r1030.2, x1035) else k1012 (r1017.2, x1008)
def m__law_power (hues_here1037 : Int) (count_here1038 : Int) : Option Int :=
  (some (1 : Int)).bind fun many1039 => ((some count_here1038).bind fun z1041 => x_range 0 z1041).bind fun xs1044 => (foldO (fun (bx1042 : Int) y1043 => ((some bx1042).bind fun z1045 => (some hues_here1037).bind fun z1046 => x_mul z1045 z1046).bind fun many1047 => some many1047) many1039 xs1044).bind fun bx1042 => some bx1042
def m__law_count (bag_here1049 : R_bag) (hues_here1050 : Int) (room1051 : Int) : Option (Int × R_bag) :=
  (some (1 : Int)).bind fun most1052 => ((some (2 : Int)).bind fun z1055 => (some (17 : Int)).bind fun z1056 => x_range z1055 z1056).bind fun xs1059 => (foldO (fun (bx1057 : Int) y1058 => ((((some hues_here1050).bind fun z1061 => (some y1058).bind fun z1062 => some (z1061, z1062)).bind fun a1063 => m__law_power a1063.1 a1063.2).bind fun z1064 => (some room1051).bind fun z1065 => some (decide (z1064 ≤ z1065))).bind fun c1060 => if c1060 = true then (some y1058).bind fun most1066 => some most1066 else some bx1057) most1052 xs1059).bind fun bx1057 => (some (2 : Int)).bind fun x1069 => (m__law_draw bag_here1049 x1069).bind fun r1071 => (some (1 : Int)).bind fun x1074 => ((some r1071.1).bind fun z1076 => (some x1074).bind fun z1077 => some (decide (z1076 = z1077))).bind fun x1078 => if x1078 = true then (some bx1057).bind fun r1080 => some (r1080, r1071.2) else (some (1 : Int)).bind fun x1081 => (m__law_draw r1071.2 bx1057).bind fun r1083 => ((some x1081).bind fun z1086 => (some r1083.1).bind fun z1087 => some (z1086 + z1087)).bind fun x1088 => some (x1088, r1083.2)
def m__law_world (bag_here1090 : R_bag) (room1091 : Int) : Option (R_world × R_bag) :=
  (m__law_hues bag_here1090).bind fun r1092 => (m__law_count r1092.2 r1092.1 room1091).bind fun r1095 => (m__law_shuffled r1095.2 r1095.1).bind fun r1098 => (m__law_wires r1098.2 r1098.1).bind fun r1101 => (((some r1095.1).bind fun z1108 => ((some r1092.1).bind fun z1106 => ((some r1101.1).bind fun z1104 => (some r1098.1).bind fun z1105 => some (z1104, z1105)).bind fun z1107 => some (z1106, z1107)).bind fun z1109 => some (z1108, z1109)).bind fun a1110 => m__law_known a1110.1 a1110.2.1 a1110.2.2.1 a1110.2.2.2).bind fun r1111 => some (r1111, r1101.2)
def m__law_state (bag_here1112 : R_bag) (world_here1113 : R_world) : Option ((List Int) × R_bag) :=
  (((some world_here1113).bind fun z1114 => some z1114.1).bind fun z1115 => x_range 0 z1115).bind fun z1125 => (x_mapE (fun bag_here1117 y1116 => ((some world_here1113).bind fun z1119 => some z1119.2.1).bind fun x1120 => (m__law_draw bag_here1117 x1120).bind fun r1122 => some (r1122.1, r1122.2)) bag_here1112 z1125).bind fun r1126 => (some r1126.1).bind fun x1130 => some (x1130, r1126.2)
def m__law_obstacle (world_here1132 : R_world) (source1133 : (List Int)) (target1134 : (List Int)) : Option (Option Int) :=
  (((some world_here1132).bind fun z1135 => some z1135.1).bind fun z1136 => x_range 0 z1136).bind fun xs1139 => forK (fun (bx1137 : Unit) y1138 k1140 k1141 => (((some target1134).bind fun z1143 => (some y1138).bind fun z1144 => x_ix z1143 z1144).bind fun z1147 => ((some source1133).bind fun z1145 => (some y1138).bind fun z1146 => x_ix z1145 z1146).bind fun z1148 => some (decide (z1148 < z1147))).bind fun c1142 => if c1142 = true then (((some world_here1132).bind fun z1149 => some z1149.2.2.2.2.2).bind fun z1150 => (some y1138).bind fun z1151 => x_ix z1150 z1151).bind fun higher1152 => (((some higher1152).bind fun z1158 => x_comp (fun y1155 => some true) (fun y1155 => (some source1133).bind fun z1156 => (some y1155).bind fun z1157 => x_ix z1156 z1157) z1158).bind fun z1163 => ((some higher1152).bind fun z1162 => x_comp (fun y1159 => some true) (fun y1159 => (some target1134).bind fun z1160 => (some y1159).bind fun z1161 => x_ix z1160 z1161) z1162).bind fun z1164 => some (decide (z1163 = z1164))).bind fun c1154 => if c1154 = true then (some y1138).bind fun a => some (some a) else k1140 () else k1140 ()) (fun bx1137 => some (none : (Option Int))) xs1139 ()
def m__law_states (world_here1165 : R_world) : Option (List (List Int)) :=
  ((some ([] : (List Int))).bind fun z1166 => (some []).bind fun z1167 => some (z1166 :: z1167)).bind fun rows1168 => ((some world_here1165).bind fun z1170 => some z1170.2.2.2.1).bind fun xs1173 => (foldO (fun (bx1171 : (List (List Int))) y1172 => (some ([] : (List (List Int)))).bind fun longer1174 => (some bx1171).bind fun xs1180 => (foldO (fun (bx1178 : (List (List Int))) y1179 => (((some world_here1165).bind fun z1181 => some z1181.2.1).bind fun z1182 => x_range 0 z1182).bind fun xs1185 => (foldO (fun (bx1183 : (List (List Int))) y1184 => ((some y1179).bind fun z1193 => (((((some world_here1165).bind fun z1186 => some z1186.2.1).bind fun z1187 => (some (1 : Int)).bind fun z1188 => some (z1187 - z1188)).bind fun z1189 => (some y1184).bind fun z1190 => some (z1189 - z1190)).bind fun z1191 => (some []).bind fun z1192 => some (z1191 :: z1192)).bind fun z1194 => x_cat z1193 z1194).bind fun y1195 => (x_app bx1183 y1195).bind fun longer1196 => some longer1196) bx1178 xs1185).bind fun bx1183 => some bx1183) longer1174 xs1180).bind fun bx1178 => (some bx1178).bind fun rows1198 => some rows1198) rows1168 xs1173).bind fun bx1171 => ((((some world_here1165).bind fun z1200 => some z1200.1).bind fun z1201 => x_range 0 z1201).bind fun z1206 => x_comp (fun y1202 => some true) (fun y1202 => ((some world_here1165).bind fun z1203 => some z1203.2.2.2.1).bind fun z1204 => (some y1202).bind fun z1205 => x_index z1204 z1205) z1206).bind fun places1207 => (some ([] : (List (List Int)))).bind fun states_here1209 => (some bx1171).bind fun xs1215 => (foldO (fun (bx1213 : (List (List Int))) y1214 => ((some places1207).bind fun z1219 => x_comp (fun y1216 => some true) (fun y1216 => (some y1214).bind fun z1217 => (some y1216).bind fun z1218 => x_ix z1217 z1218) z1219).bind fun y1220 => (x_app bx1213 y1220).bind fun states_here1221 => some states_here1221) states_here1209 xs1215).bind fun bx1213 => some bx1213
def m__law_mirror (world_here1223 : R_world) (state_here1224 : (List Int)) : Option (List Int) :=
  (some state_here1224).bind fun z1231 => x_comp (fun y1225 => some true) (fun y1225 => (((some world_here1223).bind fun z1226 => some z1226.2.1).bind fun z1227 => (some (1 : Int)).bind fun z1228 => some (z1227 - z1228)).bind fun z1229 => (some y1225).bind fun z1230 => some (z1229 - z1230)) z1231
def m__law_is_integer (value1232 : Int) : Option Bool :=
  ((some value1232).bind fun _ => some true).bind fun z1234 => andM z1234 (((some value1232).bind fun _ => some false).bind fun z1233 => some (!z1233))
def m__law_apart (world_here1235 : R_world) (lamp1236 : Int) (row1237 : (List Int)) : Option Bool :=
  ((((some world_here1235).bind fun z1238 => some z1238.2.2.2.2.1).bind fun z1239 => (some lamp1236).bind fun z1240 => x_ix z1239 z1240).bind fun z1244 => (((some world_here1235).bind fun z1241 => some z1241.2.2.2.2.2).bind fun z1242 => (some lamp1236).bind fun z1243 => x_ix z1242 z1243).bind fun z1245 => x_cat z1244 z1245).bind fun near1246 => ((some row1237).bind fun z1251 => x_comp (fun y1248 => (some y1248).bind fun z1249 => (some near1246).bind fun z1250 => some (decide (z1249 ∈ z1250))) (fun y1248 => some y1248) z1251).bind fun z1252 => (some ([] : (List Int))).bind fun z1253 => some (decide (z1252 = z1253))
def m__law_antichains (world_here1254 : R_world) (lamps1255 : (List Int)) : Option (List (List Int)) :=
  ((some ([] : (List Int))).bind fun z1256 => (some []).bind fun z1257 => some (z1256 :: z1257)).bind fun rows1258 => (some lamps1255).bind fun xs1262 => (foldO (fun (bx1260 : (List (List Int))) y1261 => ((some bx1260).bind fun z1273 => x_comp (fun y1263 => ((some world_here1254).bind fun z1266 => ((some y1261).bind fun z1264 => (some y1263).bind fun z1265 => some (z1264, z1265)).bind fun z1267 => some (z1266, z1267)).bind fun a1268 => m__law_apart a1268.1 a1268.2.1 a1268.2.2) (fun y1263 => (some y1263).bind fun z1271 => ((some y1261).bind fun z1269 => (some []).bind fun z1270 => some (z1269 :: z1270)).bind fun z1272 => x_cat z1271 z1272) z1273).bind fun longer1274 => ((some bx1260).bind fun z1276 => (some longer1274).bind fun z1277 => x_cat z1276 z1277).bind fun rows1278 => some rows1278) rows1258 xs1262).bind fun bx1260 => some bx1260
def m__law_covered (world_here1280 : R_world) (row1281 : (List Int)) : Option Int :=
  (some ([] : (List Int))).bind fun under1282 => (some row1281).bind fun xs1286 => (foldO (fun (bx1284 : (List Int)) y1285 => ((some bx1284).bind fun z1290 => (((some world_here1280).bind fun z1287 => some z1287.2.2.2.2.1).bind fun z1288 => (some y1285).bind fun z1289 => x_ix z1288 z1289).bind fun z1291 => x_cat z1290 z1291).bind fun under1292 => some under1292) under1282 xs1286).bind fun bx1284 => ((((some world_here1280).bind fun z1294 => some z1294.1).bind fun z1295 => x_range 0 z1295).bind fun z1299 => x_comp (fun y1296 => (some y1296).bind fun z1297 => (some bx1284).bind fun z1298 => some (decide (z1297 ∈ z1298))) (fun y1296 => some y1296) z1299).bind fun z1300 => some (z1300.length : Int)
def m__law_pairs (world_here1301 : R_world) : Option Int :=
  ((some world_here1301).bind fun z1302 => some z1302.2.1).bind fun hues_here1303 => (some (0 : Int)).bind fun number1305 => (((some world_here1301).bind fun z1308 => ((some world_here1301).bind fun z1307 => some z1307.2.2.2.1).bind fun z1309 => some (z1308, z1309)).bind fun a1310 => m__law_antichains a1310.1 a1310.2).bind fun xs1313 => (foldO (fun (bx1311 : Int) y1312 => (((some world_here1301).bind fun z1314 => (some y1312).bind fun z1315 => some (z1314, z1315)).bind fun a1316 => m__law_covered a1316.1 a1316.2).bind fun under1317 => (((((some hues_here1303).bind fun z1321 => ((some hues_here1303).bind fun z1319 => (some (1 : Int)).bind fun z1320 => some (z1319 - z1320)).bind fun z1322 => x_mul z1321 z1322).bind fun z1323 => (some (2 : Int)).bind fun z1324 => x_div z1323 z1324).bind fun z1326 => ((some y1312).bind fun z1325 => some (z1325.length : Int)).bind fun z1327 => some (z1326, z1327)).bind fun a1328 => m__law_power a1328.1 a1328.2).bind fun falls1329 => ((some bx1311).bind fun z1342 => ((some falls1329).bind fun z1340 => (((some hues_here1303).bind fun z1337 => ((((some world_here1301).bind fun z1331 => some z1331.1).bind fun z1333 => ((some y1312).bind fun z1332 => some (z1332.length : Int)).bind fun z1334 => some (z1333 - z1334)).bind fun z1335 => (some under1317).bind fun z1336 => some (z1335 + z1336)).bind fun z1338 => some (z1337, z1338)).bind fun a1339 => m__law_power a1339.1 a1339.2).bind fun z1341 => x_mul z1340 z1341).bind fun z1343 => some (z1342 + z1343)).bind fun number1344 => some number1344) number1305 xs1313).bind fun bx1311 => some bx1311
def m__law_lower (world_here1346 : R_world) (state_here1347 : (List Int)) : Option Int :=
  (some (0 : Int)).bind fun number1348 => (((some world_here1346).bind fun z1350 => some z1350.2.2.2.1).bind fun z1356 => x_comp (fun y1351 => ((some state_here1347).bind fun z1352 => (some y1351).bind fun z1353 => x_ix z1352 z1353).bind fun z1354 => (some (0 : Int)).bind fun z1355 => some (decide (z1355 < z1354))) (fun y1351 => some y1351) z1356).bind fun lit1357 => (((some world_here1346).bind fun z1359 => (some lit1357).bind fun z1360 => some (z1359, z1360)).bind fun a1361 => m__law_antichains a1361.1 a1361.2).bind fun xs1364 => (foldO (fun (bx1362 : Int) y1363 => ((((some world_here1346).bind fun z1365 => some z1365.2.1).bind fun z1369 => (((some world_here1346).bind fun z1366 => (some y1363).bind fun z1367 => some (z1366, z1367)).bind fun a1368 => m__law_covered a1368.1 a1368.2).bind fun z1370 => some (z1369, z1370)).bind fun a1371 => m__law_power a1371.1 a1371.2).bind fun ways1372 => (some y1363).bind fun xs1376 => (foldO (fun (bx1374 : Int) y1375 => ((some bx1374).bind fun z1379 => ((some state_here1347).bind fun z1377 => (some y1375).bind fun z1378 => x_ix z1377 z1378).bind fun z1380 => x_mul z1379 z1380).bind fun ways1381 => some ways1381) ways1372 xs1376).bind fun bx1374 => ((some bx1362).bind fun z1383 => (some bx1374).bind fun z1384 => some (z1383 + z1384)).bind fun number1385 => some number1385) number1348 xs1364).bind fun bx1362 => some bx1362
def m__law_is_count (told1387 : Int) (due1388 : Int) : Option Bool :=
  ((some told1387).bind fun a1389 => m__law_is_integer a1389).bind fun z1392 => andM z1392 ((some told1387).bind fun z1390 => (some due1388).bind fun z1391 => some (decide (z1390 = z1391)))
def m__law_small (world_here1393 : R_world) (house1394 : HouseD) : Option Bool :=
  ((some world_here1393).bind fun a1395 => m__law_states a1395).bind fun every1396 => (some ([] : (List (List Int × Int)))).bind fun lower_here1398 => (some ([] : (List (List Int × Int)))).bind fun upper1402 => (some every1396).bind fun xs1408 => (foldO (fun (bx1406 : (List (List Int × Int)) × (List (List Int × Int))) y1407 => (some (0 : Int)).bind fun y1409 => (some y1407).bind fun n1410 => (x_putA bx1406.1 n1410 y1409).bind fun lower_here1411 => (some (0 : Int)).bind fun y1413 => (some y1407).bind fun n1414 => (x_putA bx1406.2 n1414 y1413).bind fun upper1415 => some (lower_here1411, upper1415)) (lower_here1398, upper1402) xs1408).bind fun bx1406 => (some every1396).bind fun xs1419 => (foldO (fun (bx1417 : (List (List Int × Int)) × (List (List Int × Int))) y1418 => (some every1396).bind fun xs1422 => (foldO (fun (bx1420 : (List (List Int × Int)) × (List (List Int × Int))) y1421 => ((((some world_here1393).bind fun z1426 => ((some y1418).bind fun z1424 => (some y1421).bind fun z1425 => some (z1424, z1425)).bind fun z1427 => some (z1426, z1427)).bind fun a1428 => m__law_obstacle a1428.1 a1428.2.1 a1428.2.2).bind fun z1429 => (some ()).bind fun z1430 => some z1429.isNone).bind fun c1423 => if c1423 = true then (((some bx1420.1).bind fun z1431 => (some y1418).bind fun z1432 => lookA z1431 z1432).bind fun z1433 => (some (1 : Int)).bind fun z1434 => some (z1433 + z1434)).bind fun y1435 => (some y1418).bind fun n1436 => (x_putA bx1420.1 n1436 y1435).bind fun lower_here1437 => (((some bx1420.2).bind fun z1439 => (some y1421).bind fun z1440 => lookA z1439 z1440).bind fun z1441 => (some (1 : Int)).bind fun z1442 => some (z1441 + z1442)).bind fun y1443 => (some y1421).bind fun n1444 => (x_putA bx1420.2 n1444 y1443).bind fun upper1445 => some (lower_here1437, upper1445) else some (bx1420.1, bx1420.2)) (bx1417.1, bx1417.2) xs1422).bind fun bx1420 => some (bx1420.1, bx1420.2)) (bx1406.1, bx1406.2) xs1419).bind fun bx1417 => (some (0 : Int)).bind fun downs1447 => (some (0 : Int)).bind fun ups1449 => (some every1396).bind fun xs1453 => forK (fun (bx1451 : Int × Int) y1452 k1454 k1455 => (((some house1394).bind fun z1456 => (some y1452).bind fun z1457 => some (z1456, z1457)).bind fun a1458 => m_lower_count a1458.1 a1458.2).bind fun first1459 => (((some house1394).bind fun z1461 => (some y1452).bind fun z1462 => some (z1461, z1462)).bind fun a1463 => m_upper_count a1463.1 a1463.2).bind fun second1464 => (((((some first1459).bind fun z1469 => ((some bx1417.1).bind fun z1467 => (some y1452).bind fun z1468 => lookA z1467 z1468).bind fun z1470 => some (z1469, z1470)).bind fun a1471 => m__law_is_count a1471.1 a1471.2).bind fun z1472 => some (!z1472)).bind fun z1479 => orM z1479 ((((some second1464).bind fun z1475 => ((some bx1417.2).bind fun z1473 => (some y1452).bind fun z1474 => lookA z1473 z1474).bind fun z1476 => some (z1475, z1476)).bind fun a1477 => m__law_is_count a1477.1 a1477.2).bind fun z1478 => some (!z1478))).bind fun c1466 => if c1466 = true then some false else ((some bx1451.1).bind fun z1480 => (some first1459).bind fun z1481 => some (z1480 + z1481)).bind fun downs1482 => ((some bx1451.2).bind fun z1484 => (some second1464).bind fun z1485 => some (z1484 + z1485)).bind fun ups1486 => k1454 (downs1482, ups1486)) (fun bx1451 => ((((some house1394).bind fun a1488 => m_pair_count a1488).bind fun z1489 => (some bx1451.1).bind fun z1490 => some (z1489, z1490)).bind fun a1491 => m__law_is_count a1491.1 a1491.2).bind fun z1494 => andM z1494 ((some bx1451.2).bind fun z1492 => (some bx1451.1).bind fun z1493 => some (decide (z1492 = z1493)))) xs1453 (downs1447, ups1449)
def m__law_great (bag_here1495 : R_bag) (world_here1496 : R_world) (house1497 : HouseD) : Option (Bool × R_bag) :=
  (m__law_state bag_here1495 world_here1496).bind fun r1498 => ((((some world_here1496).bind fun z1501 => some z1501.2.1).bind fun z1503 => ((some world_here1496).bind fun z1502 => some z1502.1).bind fun z1504 => some (z1503, z1504)).bind fun a1505 => m__law_power a1505.1 a1505.2).bind fun many1506 => (((some (0 : Int)).bind fun z1508 => (some []).bind fun z1509 => some (z1508 :: z1509)).bind fun z1511 => ((some world_here1496).bind fun z1510 => some z1510.1).bind fun z1512 => x_rep z1511 z1512).bind fun dark1513 => (((some world_here1496).bind fun z1515 => (some dark1513).bind fun z1516 => some (z1515, z1516)).bind fun a1517 => m__law_mirror a1517.1 a1517.2).bind fun bright1518 => (((((some house1497).bind fun a1521 => m_pair_count a1521).bind fun z1523 => ((some world_here1496).bind fun a1522 => m__law_pairs a1522).bind fun z1524 => some (z1523, z1524)).bind fun a1525 => m__law_is_count a1525.1 a1525.2).bind fun z1526 => some (!z1526)).bind fun c1520 => if c1520 = true then (some false).bind fun r1527 => some (r1527, r1498.2) else (((some bright1518).bind fun z1528 => (some many1506).bind fun z1529 => some (z1528, z1529)).bind fun z1534 => (((some dark1513).bind fun z1530 => (some (1 : Int)).bind fun z1531 => some (z1530, z1531)).bind fun z1532 => (some []).bind fun z1533 => some (z1532 :: z1533)).bind fun z1535 => some (z1534 :: z1535)).bind fun xs1538 => forK (fun (bx1536 : Unit) y1537 k1539 k1540 => ((((((some house1497).bind fun z1543 => ((some y1537).bind fun z1542 => some z1542.1).bind fun z1544 => some (z1543, z1544)).bind fun a1545 => m_lower_count a1545.1 a1545.2).bind fun z1547 => ((some y1537).bind fun z1546 => some z1546.2).bind fun z1548 => some (z1547, z1548)).bind fun a1549 => m__law_is_count a1549.1 a1549.2).bind fun z1550 => some (!z1550)).bind fun c1541 => if c1541 = true then (some false).bind fun r1551 => some (r1551, r1498.2) else k1539 ()) (fun bx1536 => (((some bright1518).bind fun z1552 => (some (1 : Int)).bind fun z1553 => some (z1552, z1553)).bind fun z1558 => (((some dark1513).bind fun z1554 => (some many1506).bind fun z1555 => some (z1554, z1555)).bind fun z1556 => (some []).bind fun z1557 => some (z1556 :: z1557)).bind fun z1559 => some (z1558 :: z1559)).bind fun xs1562 => forK (fun (bx1560 : Unit) y1561 k1563 k1564 => ((((((some house1497).bind fun z1567 => ((some y1561).bind fun z1566 => some z1566.1).bind fun z1568 => some (z1567, z1568)).bind fun a1569 => m_upper_count a1569.1 a1569.2).bind fun z1571 => ((some y1561).bind fun z1570 => some z1570.2).bind fun z1572 => some (z1571, z1572)).bind fun a1573 => m__law_is_count a1573.1 a1573.2).bind fun z1574 => some (!z1574)).bind fun c1565 => if c1565 = true then (some false).bind fun r1575 => some (r1575, r1498.2) else k1563 ()) (fun bx1560 => ((((((some house1497).bind fun z1577 => (some r1498.1).bind fun z1578 => some (z1577, z1578)).bind fun a1579 => m_lower_count a1579.1 a1579.2).bind fun z1583 => (((some world_here1496).bind fun z1580 => (some r1498.1).bind fun z1581 => some (z1580, z1581)).bind fun a1582 => m__law_lower a1582.1 a1582.2).bind fun z1584 => some (z1583, z1584)).bind fun a1585 => m__law_is_count a1585.1 a1585.2).bind fun z1586 => some (!z1586)).bind fun c1576 => if c1576 = true then (some false).bind fun r1587 => some (r1587, r1498.2) else (((((some house1497).bind fun z1588 => (some r1498.1).bind fun z1589 => some (z1588, z1589)).bind fun a1590 => m_upper_count a1590.1 a1590.2).bind fun z1597 => (((some world_here1496).bind fun z1594 => (((some world_here1496).bind fun z1591 => (some r1498.1).bind fun z1592 => some (z1591, z1592)).bind fun a1593 => m__law_mirror a1593.1 a1593.2).bind fun z1595 => some (z1594, z1595)).bind fun a1596 => m__law_lower a1596.1 a1596.2).bind fun z1598 => some (z1597, z1598)).bind fun a1599 => m__law_is_count a1599.1 a1599.2).bind fun r1600 => some (r1600, r1498.2)) xs1562 ()) xs1538 ()
def m__law_great_world (bag_here1601 : R_bag) : Option (R_world × R_bag) :=
  (m__law_hues bag_here1601).bind fun r1602 => joinK (fun (bx1606 : R_bag × (List Int) × (List (Int × Int))) => ((((some bx1606.2.1).bind fun z1609 => some (z1609.length : Int)).bind fun z1614 => ((some r1602.1).bind fun z1612 => ((some bx1606.2.2).bind fun z1610 => (some bx1606.2.1).bind fun z1611 => some (z1610, z1611)).bind fun z1613 => some (z1612, z1613)).bind fun z1615 => some (z1614, z1615)).bind fun a1616 => m__law_known a1616.1 a1616.2.1 a1616.2.2.1 a1616.2.2.2).bind fun r1617 => some (r1617, bx1606.1)) fun k1607 => (some (3 : Int)).bind fun x1618 => (m__law_draw r1602.2 x1618).bind fun r1620 => (some (2 : Int)).bind fun x1623 => ((some r1620.1).bind fun z1625 => (some x1623).bind fun z1626 => some (decide (z1625 = z1626))).bind fun x1627 => if x1627 = true then (some (9 : Int)).bind fun x1629 => (some (4 : Int)).bind fun x1631 => (m__law_draw r1620.2 x1631).bind fun r1633 => ((some x1629).bind fun z1636 => (some r1633.1).bind fun z1637 => some (z1636 + z1637)).bind fun x1638 => (m__law_shuffled r1633.2 x1638).bind fun r1640 => (((((some r1640.1).bind fun z1643 => some (z1643.length : Int)).bind fun z1644 => (some (1 : Int)).bind fun z1645 => some (z1644 - z1645)).bind fun z1646 => x_range 0 z1646).bind fun z1656 => x_comp (fun y1647 => some true) (fun y1647 => ((some r1640.1).bind fun z1648 => (some y1647).bind fun z1649 => x_ix z1648 z1649).bind fun z1654 => ((some r1640.1).bind fun z1652 => ((some y1647).bind fun z1650 => (some (1 : Int)).bind fun z1651 => some (z1650 + z1651)).bind fun z1653 => x_ix z1652 z1653).bind fun z1655 => some (z1654, z1655)) z1656).bind fun wires_here1657 => k1607 (r1640.2, r1640.1, wires_here1657) else (some (5 : Int)).bind fun x1659 => (some (4 : Int)).bind fun x1661 => (m__law_draw r1620.2 x1661).bind fun r1663 => ((some x1659).bind fun z1666 => (some r1663.1).bind fun z1667 => some (z1666 + z1667)).bind fun x1668 => (m__law_shuffled r1663.2 x1668).bind fun r1670 => (m__law_wires r1670.2 r1670.1).bind fun r1673 => k1607 (r1673.2, r1670.1, r1673.1)
def m_law (script1676 : (List Int)) : Option Bool :=
  ((some script1676).bind fun a1677 => m__law_bag a1677).bind fun bag_here1678 => (some (4 : Int)).bind fun x1683 => (m__law_draw bag_here1678 x1683).bind fun r1685 => (some (3 : Int)).bind fun x1688 => ((some r1685.1).bind fun z1690 => (some x1688).bind fun z1691 => some (decide (z1690 = z1691))).bind fun x1692 => if x1692 = true then (m__law_great_world r1685.2).bind fun r1694 => (((((some r1694.1).bind fun z1697 => some z1697.1).bind fun z1702 => (((some r1694.1).bind fun z1698 => some z1698.2.1).bind fun z1700 => ((some r1694.1).bind fun z1699 => some z1699.2.2.1).bind fun z1701 => some (z1700, z1701)).bind fun z1703 => some (z1702, z1703)).bind fun a1704 => m_House___init__ a1704.1 a1704.2.1 a1704.2.2).bind fun z1705 => some (toHouse z1705)).bind fun house1706 => (m__law_great r1694.2 r1694.1 house1706).bind fun r1708 => some r1708.1 else (some (32 : Int)).bind fun room1711 => joinK (fun (bx1714 : R_bag × Int) => (m__law_world bx1714.1 bx1714.2).bind fun r1717 => (((((some r1717.1).bind fun z1720 => some z1720.1).bind fun z1725 => (((some r1717.1).bind fun z1721 => some z1721.2.1).bind fun z1723 => ((some r1717.1).bind fun z1722 => some z1722.2.2.1).bind fun z1724 => some (z1723, z1724)).bind fun z1726 => some (z1725, z1726)).bind fun a1727 => m_House___init__ a1727.1 a1727.2.1 a1727.2.2).bind fun z1728 => some (toHouse z1728)).bind fun house1729 => ((some r1717.1).bind fun z1731 => (some house1729).bind fun z1732 => some (z1731, z1732)).bind fun a1733 => m__law_small a1733.1 a1733.2) fun k1715 => (some (8 : Int)).bind fun x1734 => (m__law_draw r1685.2 x1734).bind fun r1736 => (some (7 : Int)).bind fun x1739 => ((some r1736.1).bind fun z1741 => (some x1739).bind fun z1742 => some (decide (z1741 = z1742))).bind fun x1743 => if x1743 = true then (some (64 : Int)).bind fun room1745 => k1715 (r1736.2, room1745) else k1715 (r1736.2, room1711)
end HF

set_option Elab.async false
set_option linter.all false
set_option maxRecDepth 100000
set_option maxHeartbeats 4000000
set_option pp.maxSteps 40
set_option pp.oneline true
namespace HF
open PySem PySem.Spec L2 ClX
open PyProof.Rows hiding St
def top (i : Nat) : Stmt := PySem.Challenge.pw_huefall_k79_counts_sum_to_pairs.main.body.getD i (.Pass ⟨0, 0, 0, 0⟩)
structure EnvF (K : PySem.W.Frag) (mg : Str → Option Value) : Prop where
  g_abs : mg "abs" = none
  g_all : mg "all" = none
  g_bool : mg "bool" = none
  g_enumerate : mg "enumerate" = none
  g_int : mg "int" = none
  g_isinstance : mg "isinstance" = none
  g_len : mg "len" = none
  g_list : mg "list" = none
  g_range : mg "range" = none
  g_sorted : mg "sorted" = none
  g_tuple : mg "tuple" = none
  d_is_integer : DefAt K mg "is_integer" (top 7)
  d_bits : DefAt K mg "bits" (top 9)
  d_below_masks : DefAt K mg "below_masks" (top 10)
  d__is_wire : DefAt K mg "_is_wire" (top 12)
  d__join_wires : DefAt K mg "_join_wires" (top 13)
  d__turn_round : DefAt K mg "_turn_round" (top 14)
  d__order_list : DefAt K mg "_order_list" (top 15)
  d_House___init__ : IDefAt K mg "House" (He.ga K "House") "House.__init__" (inClass (top 16) 2) 1
  d_House_order : MDefAt K (He.ga K "House") "order" "House.order" (inClass (top 16) 10)
  d_is_state : DefAt K mg "is_state" (top 18)
  d__check_state : DefAt K mg "_check_state" (top 20)
  d_mirror : DefAt K mg "mirror" (top 19)
  d_need_state : DefAt K mg "need_state" (top 22)
  d__power : DefAt K mg "_power" (top 24)
  d__all_lamps : DefAt K mg "_all_lamps" (top 25)
  d__ways : DefAt K mg "_ways" (top 26)
  d_free_count : DefAt K mg "free_count" (top 27)
  d_lower_count : DefAt K mg "lower_count" (top 28)
  d_upper_count : DefAt K mg "upper_count" (top 29)
  d_pair_count : DefAt K mg "pair_count" (top 30)
  d__law_bag : DefAt K mg "_law_bag" (top 32)
  d__law_draw : DefAt K mg "_law_draw" (top 33)
  d__law_shuffled : DefAt K mg "_law_shuffled" (top 34)
  d__law_wired : DefAt K mg "_law_wired" (top 35)
  d__law_wires : DefAt K mg "_law_wires" (top 36)
  d__law_all_in : DefAt K mg "_law_all_in" (top 37)
  d__law_known : DefAt K mg "_law_known" (top 38)
  d__law_hues : DefAt K mg "_law_hues" (top 39)
  d__law_power : DefAt K mg "_law_power" (top 40)
  d__law_count : DefAt K mg "_law_count" (top 41)
  d__law_world : DefAt K mg "_law_world" (top 42)
  d__law_state : DefAt K mg "_law_state" (top 43)
  d__law_obstacle : DefAt K mg "_law_obstacle" (top 44)
  d__law_states : DefAt K mg "_law_states" (top 45)
  d__law_mirror : DefAt K mg "_law_mirror" (top 46)
  d__law_is_integer : DefAt K mg "_law_is_integer" (top 47)
  d__law_apart : DefAt K mg "_law_apart" (top 48)
  d__law_antichains : DefAt K mg "_law_antichains" (top 49)
  d__law_covered : DefAt K mg "_law_covered" (top 50)
  d__law_pairs : DefAt K mg "_law_pairs" (top 51)
  d__law_lower : DefAt K mg "_law_lower" (top 52)
  d__law_is_count : DefAt K mg "_law_is_count" (top 53)
  d__law_small : DefAt K mg "_law_small" (top 54)
  d__law_great : DefAt K mg "_law_great" (top 55)
  d__law_great_world : DefAt K mg "_law_great_world" (top 56)
  d_law : DefAt K mg "law" (top 57)
  cl_House : Cls K (He.ga K "House")
  gc_House : ∃ u, mg "House" = some u ∧ RelV (.ref (He.ga K "House")) u
  na_House__above : NoAttr K (He.ga K "House") "_above"
  na_House__above_masks : NoAttr K (He.ga K "House") "_above_masks"
  na_House__below : NoAttr K (He.ga K "House") "_below"
  na_House__below_masks : NoAttr K (He.ga K "House") "_below_masks"
  na_House__direct : NoAttr K (He.ga K "House") "_direct"
  na_House__order : NoAttr K (He.ga K "House") "_order"
  na_House_count : NoAttr K (He.ga K "House") "count"
  na_House_hues : NoAttr K (He.ga K "House") "hues"
  na_House_wires : NoAttr K (He.ga K "House") "wires"
  cc_House_MOST_HUES : CCon K (He.ga K "House") "MOST_HUES" 10
  cc_House_MOST_LAMPS : CCon K (He.ga K "House") "MOST_LAMPS" 16
section
variable {P : Program} {w : World} {K : PySem.W.Frag} {mg : Str → Option Value} {base : Heap}
abbrev A_bag : TyA R_bag := (TyA.c (tL tInt) (TyA.c tInt (TyA.c tInt (TyA.c tInt (TyA.one tInt)))))
abbrev A_world : TyA R_world := (TyA.c tInt (TyA.c tInt (TyA.c (tL (tP tInt tInt)) (TyA.c (tL tInt) (TyA.c (tL (tL tInt)) (TyA.one (tL (tL tInt))))))))
theorem sc_is_integer : FnScope ["value"] ["value"] (defScope (top 7)) := ⟨rfl, rfl, rfl, by decide +kernel, rfl, by decide +kernel, by decide +kernel⟩
theorem ok_is_integer (E : EnvF K mg) : Cal CX0 P w K mg base 1 "is_integer" (spP (TyA.one tInt) (fun a => m_is_integer a) tBool) := by
  refine cal_mk (k := 0) E.d_is_integer sc_is_integer (fun vs H Q E h => by obtain ⟨S, F, a, r, ⟨_, rfl, _⟩, _⟩ := h; rfl) (fun _ _ _ _ _ _ us hl => match us, hl with | [_], _ => rfl) ?_
  rintro f cdv A outer s H vs Q EX hr ⟨S, F, value1, out, ⟨v0, rfl, h0⟩, W, hm, k⟩
  refine ⟨_, PSs.nox (pss_cons (ps_ret (pe_and (pe_callB (call_isiKK (K := K)) rfl (by exact E.g_isinstance) (by decide +kernel) (pa_cons (pv 0) (pa_cons (pe_bltn (v := .ty "int") (u := .type "int") rfl (by exact E.g_int) (by decide +kernel) rfl) pa_nil))) (pe_one (pe_not (pe_callB (call_isiKK (K := K)) rfl (by exact E.g_isinstance) (by decide +kernel) (pa_cons (pv 0) (pa_cons (pe_bltn (v := .ty "bool") (u := .type "bool") rfl (by exact E.g_bool) (by decide +kernel) rfl) pa_nil))))))) pss_nil), ?_⟩
  have hG : Okc [fS S, tInt.f value1 v0] S := ⟨Same.refl _, h0, True.intro⟩
  have W : Wd S (([] : Ow) ++ F) H := W
  show (_ : TS) _ ([some v0] : L2.St) H
  exact k_ret hG W hm (sim_andV (sim_isi isI_int_int (sim_var 1 rfl rfl)) (sim_notV (sim_isi isI_int_bool (sim_var 1 rfl rfl)))) (fun v S H hG W hr => k v S H (Okc.at 0 rfl hG) (W.pick [] rfl) hr)
theorem sc_bits : FnScope ["mask", "lamp"] ["mask"] (defScope (top 9)) := ⟨rfl, rfl, rfl, by decide +kernel, rfl, by decide +kernel, by decide +kernel⟩
theorem ok_bits (E : EnvF K mg) : Cal CX0 P w K mg base 1 "bits" (spP (TyA.one tInt) (fun a => m_bits a) (tL tInt)) := by
  refine cal_mk (k := 0) E.d_bits sc_bits (fun vs H Q E h => by obtain ⟨S, F, a, r, ⟨_, rfl, _⟩, _⟩ := h; rfl) (fun _ _ _ _ _ _ us hl => match us, hl with | [_], _ => rfl) ?_
  rintro f cdv A outer s H vs Q EX hr ⟨S, F, mask4, out, ⟨v0, rfl, h0⟩, W, hm, k⟩
  refine ⟨_, PSs.nox (pss_cons (ps_ret (pe_lc (own := [("lamp", 1)]) rfl sc_bits.nd (pi_range1 rfl (by exact E.g_range) (pa_cons (pe_bits (pv 0)) pa_nil)) (blkOk_by (N := ["mask", "lamp"]) (sc := defScope (top 9)) (by decide +kernel)) (fun _ _ _ _ _ => (pg_name (i := 1) sc_bits.nd rfl (Or.inl rfl))) (fun _ _ _ _ _ => (pts_one (pt_cmpR op_eq (pe_op op_and (pe_op op_shr (pv 0) (pv 1)) pe_int) pe_int (nomark _)))) (fun _ _ _ _ _ => (pv 1)))) pss_nil), ?_⟩
  have hG : Okc [fS S, tInt.f mask4 v0] S := ⟨Same.refl _, h0, True.intro⟩
  have W : Wd S (([] : Ow) ++ F) H := W
  show (_ : TS) _ ([some v0, none] : L2.St) H
  exact k_ret hG W hm (SimF.sim (simF_lc (simI_range1 (sim_bitlen (sim_var 1 rfl rfl))) tg_name (fun _ => rfl) (List.nil_sublist _) (fun a w => (simT_test (sim_eqI (sim_and (sim_shr (sim_var 2 rfl rfl) (sim_var 0 rfl rfl)) sim_int) sim_int))) (fun a w => (sim_var 0 rfl rfl)))) (fun v S H hG W hr => k v S H (Okc.at 0 rfl hG) (W.pick [] rfl) hr)
theorem sc_below_masks : FnScope ["house"] ["house"] (defScope (top 10)) := ⟨rfl, rfl, rfl, by decide +kernel, rfl, by decide +kernel, by decide +kernel⟩
theorem ok_below_masks (E : EnvF K mg) : Cal CX0 P w K mg base 1 "below_masks" (spP (TyA.one (tHouse (He.ga K "House"))) (fun a => m_below_masks a) (tL tInt)) := by
  refine cal_mk (k := 0) E.d_below_masks sc_below_masks (fun vs H Q E h => by obtain ⟨S, F, a, r, ⟨_, rfl, _⟩, _⟩ := h; rfl) (fun _ _ _ _ _ _ us hl => match us, hl with | [_], _ => rfl) ?_
  rintro f cdv A outer s H vs Q EX hr ⟨S, F, house15, out, ⟨v0, rfl, h0⟩, W, hm, k⟩
  refine ⟨_, PSs.nox (pss_cons (ps_ret (pe_fldK (K := K) (pv 0))) pss_nil), ?_⟩
  have hG : Okc [fS S, (tHouse (He.ga K "House")).f house15 v0] S := ⟨Same.refl _, h0, True.intro⟩
  have W : Wd S (([] : Ow) ++ F) H := W
  show (_ : TS) _ ([some v0] : L2.St) H
  exact k_ret hG W hm (sim_fld (house_fld E.cl_House (E.na_House__below_masks) (fun _ _ _ h => h.belowM)) (sim_var 1 rfl rfl)) (fun v S H hG W hr => k v S H (Okc.at 0 rfl hG) (W.pick [] rfl) hr)
theorem sc__is_wire : FnScope ["count", "value", "upper", "lower"] ["count", "value"] (defScope (top 12)) := ⟨rfl, rfl, rfl, by decide +kernel, rfl, by decide +kernel, by decide +kernel⟩
theorem ok__is_wire (E : EnvF K mg) : Cal CX0 P w K mg base 2 "_is_wire" (spP (TyA.c tInt (TyA.one (tP tInt tInt))) (fun a => m__is_wire a.1 a.2) tBool) := by
  refine cal_mk (k := 1) E.d__is_wire sc__is_wire (fun vs H Q E h => by obtain ⟨S, F, a, r, ⟨_, _, rfl, _, ⟨_, rfl, _⟩⟩, _⟩ := h; rfl) (fun _ _ _ _ _ _ us hl => match us, hl with | [_, _], _ => rfl) ?_
  rintro f cdv A outer s H vs Q EX hr ⟨S, F, ⟨count17, value18⟩, out, ⟨v0, _, rfl, h0, ⟨v1, rfl, h1⟩⟩, W, hm, k⟩
  refine ⟨_, PSs.nox (pss_cons (ps_if (PW.pt (pw_or (pt_not (pt_val (pe_callB (call_isiKK (K := K)) rfl (by exact E.g_isinstance) (by decide +kernel) (pa_cons (pv 1) (pa_cons (pe_bltn (v := .ty "tuple") (u := .type "tuple") rfl (by exact E.g_tuple) (by decide +kernel) rfl) pa_nil))))) (pw_or1 (pt_cmpR op_ne (pe_callB (call_lenK (K := K)) rfl (by exact E.g_len) boot_len (pa_cons (pv 1) pa_nil)) pe_int (nomark _))))) (pss_cons (ps_ret pe_bl) pss_nil) pss_nil) (pss_cons (ps_asg (pv 1) (pg_tupK (K := K) (n := 2) rfl (pgs_cons (pg_name (i := 2) sc__is_wire.nd rfl (Or.inl rfl)) (pgs_cons (pg_name (i := 3) sc__is_wire.nd rfl (Or.inl rfl)) pgs_nil)))) (pss_cons (ps_if (PW.pt (pw_or (pt_not (pt_val (pe_cal (ok_is_integer E) (by exact hr) (by first | decide | omega) (by rfl) pass0 (pa_cons (pv 2) pa_nil)))) (pw_or1 (pt_not (pt_val (pe_cal (ok_is_integer E) (by exact hr) (by first | decide | omega) (by rfl) pass0 (pa_cons (pv 3) pa_nil))))))) (pss_cons (ps_ret pe_bl) pss_nil) pss_nil) (pss_cons (ps_ret (pe_and (pe_chain op_le op_lt pe_int (pv 2) (pv 0)) (pe_and (pe_chain op_le op_lt pe_int (pv 3) (pv 0)) (pe_one (pe_cmpR op_ne (pv 2) (pv 3) (nomark _)))))) pss_nil)))), ?_⟩
  have hG : Okc [fS S, tInt.f count17 v0, (tP tInt tInt).f value18 v1] S := ⟨Same.refl _, h0, h1, True.intro⟩
  have W : Wd S (([] : Ow) ++ F) H := W
  show (_ : TS) _ ([some v0, some v1, none, none] : L2.St) H
  refine k_if hG W hm (simT_or (simT_not (simT_B (sim_isi isI_pair_tuple (sim_var 2 rfl rfl)))) (simT_test (sim_neI (sim_lenP (sim_var 2 rfl rfl)) sim_int))) ?_ ?_
  · clear hG W hm
    intro S H hG W hm
    exact k_ret hG W hm sim_bl (fun v S H hG W hr => k v S H (Okc.at 0 rfl hG) (W.pick [] rfl) hr)
  · clear hG W hm
    intro S H hG W hm
    refine y_next ?_
    refine k_unpair hG W hm (sim_var 2 rfl rfl) ?_
    clear hG W hm
    intro q25 v26 v27 S H hG W hm
    refine k_if hG W hm (simT_or (simT_not (simT_B (sim_call (simA_one (sim_var 0 rfl rfl))))) (simT_not (simT_B (sim_call (simA_one (sim_var 1 rfl rfl)))))) ?_ ?_
    · clear hG W hm
      intro S H hG W hm
      exact k_ret hG W hm sim_bl (fun v S H hG W hr => k v S H (Okc.at 2 rfl hG) (W.pick [] rfl) hr)
    · clear hG W hm
      intro S H hG W hm
      refine y_next ?_
      exact k_ret hG W hm (sim_andV (sim_chain (p := (fun a b => decide (a ≤ b))) (p' := (fun a b => decide (a < b))) sim_int (sim_var 0 rfl rfl) (sim_var 3 rfl rfl)) (sim_andV (sim_chain (p := (fun a b => decide (a ≤ b))) (p' := (fun a b => decide (a < b))) sim_int (sim_var 1 rfl rfl) (sim_var 3 rfl rfl)) (sim_neI (sim_var 0 rfl rfl) (sim_var 1 rfl rfl)))) (fun v S H hG W hr => k v S H (Okc.at 2 rfl hG) (W.pick [] rfl) hr)
theorem sc__join_wires : FnScope ["count", "wires", "wired", "below", "index", "wire", "upper", "lower", "gained", "lamp"] ["count", "wires"] (defScope (top 13)) := ⟨rfl, rfl, rfl, by decide +kernel, rfl, by decide +kernel, by decide +kernel⟩
theorem ok__join_wires (E : EnvF K mg) : Cal CX0 P w K mg base 3 "_join_wires" (spP (TyA.c tInt (TyA.one (tL (tP tInt tInt)))) (fun a => m__join_wires a.1 a.2) (tL tInt)) := by
  refine cal_mk (k := 2) E.d__join_wires sc__join_wires (fun vs H Q E h => by obtain ⟨S, F, a, r, ⟨_, _, rfl, _, ⟨_, rfl, _⟩⟩, _⟩ := h; rfl) (fun _ _ _ _ _ _ us hl => match us, hl with | [_, _], _ => rfl) ?_
  rintro f cdv A outer s H vs Q EX hr ⟨S, F, ⟨count44, wires45⟩, out, ⟨v0, _, rfl, h0, ⟨v1, rfl, h1⟩⟩, W, hm, k⟩
  refine ⟨_, PSs.nox (pss_cons (ps_set (i := 2) sc__join_wires.nd rfl (Or.inl rfl) (pe_op op_rep (pe_lst (pa_cons pe_int pa_nil)) (pv 0))) (pss_cons (ps_set (i := 3) sc__join_wires.nd rfl (Or.inl rfl) (pe_op op_rep (pe_lst (pa_cons pe_int pa_nil)) (pv 0))) (pss_cons (ps_for PassesOwn.never rfl (pi_enumK (K := K) rfl (by exact E.g_enumerate) (pa_cons (pv 1) pa_nil)) (pg_tupK (K := K) (n := 2) rfl (pgs_cons (pg_name (i := 4) sc__join_wires.nd rfl (Or.inl rfl)) (pgs_cons (pg_name (i := 5) sc__join_wires.nd rfl (Or.inl rfl)) pgs_nil))) (pss_cons (ps_if (pt_not (pt_val (pe_cal (ok__is_wire E) (by exact hr) (by first | decide | omega) (by rfl) pass0 (pa_cons (pv 0) (pa_cons (pv 5) pa_nil))))) (pss_cons ps_never pss_nil) pss_nil) (pss_cons (ps_asg (pv 5) (pg_tupK (K := K) (n := 2) rfl (pgs_cons (pg_name (i := 6) sc__join_wires.nd rfl (Or.inl rfl)) (pgs_cons (pg_name (i := 7) sc__join_wires.nd rfl (Or.inl rfl)) pgs_nil)))) (pss_cons (ps_if (pt_cmpR op_eq (pe_op op_and (pe_op op_shr (pe_ix (ix_listK (K := K)) (pv 2) (pv 6) (by intro _ _; rfl)) (pv 7)) pe_int) pe_int (nomark _)) (pss_cons ps_never pss_nil) pss_nil) (pss_cons (ps_if (pt_cmpR op_eq (pe_op op_and (pe_op op_shr (pe_ix (ix_listK (K := K)) (pv 3) (pv 7) (by intro _ _; rfl)) (pv 6)) pe_int) pe_int (nomark _)) (pss_cons ps_never pss_nil) pss_nil) (pss_cons (ps_asg (pe_op op_or (pe_ix (ix_listK (K := K)) (pv 2) (pv 6) (by intro _ _; rfl)) (pe_op op_shl pe_int (pv 7))) (pg_sub (pv 2) (pv 6) set_list)) (pss_cons (ps_set (i := 8) sc__join_wires.nd rfl (Or.inl rfl) (pe_op op_or (pe_ix (ix_listK (K := K)) (pv 3) (pv 7) (by intro _ _; rfl)) (pe_op op_shl pe_int (pv 7)))) (pss_cons (ps_for PassesOwn.never rfl (pi_range1 rfl (by exact E.g_range) (pa_cons (pv 0) pa_nil)) (pg_name (i := 9) sc__join_wires.nd rfl (Or.inl rfl)) (pss_cons (ps_if (PW.pt (pw_or (pt_cmpR op_eq (pv 9) (pv 6) (nomark _)) (pw_or1 (pt_cmpR op_eq (pe_op op_and (pe_op op_shr (pe_ix (ix_listK (K := K)) (pv 3) (pv 9) (by intro _ _; rfl)) (pv 6)) pe_int) pe_int (nomark _))))) (pss_cons (ps_asg (pe_op op_or (pe_ix (ix_listK (K := K)) (pv 3) (pv 9) (by intro _ _; rfl)) (pv 8)) (pg_sub (pv 3) (pv 9) set_list)) pss_nil) pss_nil) pss_nil)) pss_nil)))))))) (pss_cons (ps_ret (pv 3)) pss_nil)))), ?_⟩
  have hG : Okc [fS S, tInt.f count44 v0, (tL (tP tInt tInt)).f wires45 v1] S := ⟨Same.refl _, h0, h1, True.intro⟩
  have W : Wd S (([] : Ow) ++ F) H := W
  show (_ : TS) _ ([some v0, some v1, none, none, none, none, none, none, none, none] : L2.St) H
  refine k_setO hG W hm (simF_rep (SimF.sim (simF_lst (simA_ln sim_int simA_ln0))) (sim_var 1 rfl rfl)) ?_
  clear hG W hm
  intro wired50 p52 c53 S H hG W hm
  refine k_setO hG W hm (simF_rep (SimF.sim (simF_lst (simA_ln sim_int simA_ln0))) (sim_var 2 rfl rfl)) ?_
  clear hG W hm
  intro below58 p60 c61 S H hG W hm
  refine k_fold (σJ := (fun (bx63 : (List Int) × (List Int)) (wx63 : List Cell × List Cell × Option V × Option V × Option V × Option V × Option V × Option V) => ([some v0, some v1, some (.ref p52), some (.ref p60), wx63.2.2.1, wx63.2.2.2.1, wx63.2.2.2.2.1, wx63.2.2.2.2.2.1, wx63.2.2.2.2.2.2.1, wx63.2.2.2.2.2.2.2] : L2.St))) (OJ := (fun (bx63 : (List Int) × (List Int)) (wx63 : List Cell × List Cell × Option V × Option V × Option V × Option V × Option V × Option V) => ([wx63.2.1, wx63.1] : Ow))) (Fb := (fun (bx63 : (List Int) × (List Int)) (wx63 : List Cell × List Cell × Option V × Option V × Option V × Option V × Option V × Option V) => ([(oL tInt).f bx63.1 p52 (wx63.1), (oL tInt).f bx63.2 p60 (wx63.2.1)] : List Fact))) (σT := (fun b w (tx63 : V × V) => (((fun (bx63 : (List Int) × (List Int)) (wx63 : List Cell × List Cell × Option V × Option V × Option V × Option V × Option V × Option V) => ([some v0, some v1, some (.ref p52), some (.ref p60), wx63.2.2.1, wx63.2.2.2.1, wx63.2.2.2.2.1, wx63.2.2.2.2.2.1, wx63.2.2.2.2.2.2.1, wx63.2.2.2.2.2.2.2] : L2.St)) b w).set 4 (some tx63.1)).set 5 (some tx63.2))) ((c53, c61, (none), (none), (none), (none), (none), (none)) : List Cell × List Cell × Option V × Option V × Option V × Option V × Option V × Option V) hG W hm (simI_enum (sim_var 4 rfl rfl)) (fun b w => tg_pair) (fun b w => List.nil_sublist _) rfl rfl (fun S h => (Okc.cons (Okc.at 1 rfl h) (Okc.cons (Okc.at 0 rfl h) h))) ?_ ?_
  · clear hG W hm
    intro S1 y64 bx63 b' wx63 tx63 S H hm hG W N hN
    refine k_if hG W hm (simT_not (simT_B (sim_call (simA_c (sim_var 8 rfl rfl) (simA_one (sim_var 1 rfl rfl)))))) ?_ ?_
    · clear hG W hm
      intro S H hG W hm
      cases hm
    · clear hG W hm
      intro S H hG W hm
      refine y_next ?_
      refine k_unpair hG W hm (sim_var 1 rfl rfl) ?_
      clear hG W hm
      intro q71 v72 v73 S H hG W hm
      refine k_if hG W hm (simT_test (sim_eqI (sim_and (sim_shr (sim_ix (sim_own 1 4 rfl rfl rfl) (sim_var 0 rfl rfl)) (sim_var 1 rfl rfl)) sim_int) sim_int)) ?_ ?_
      · clear hG W hm
        intro S H hG W hm
        cases hm
      · clear hG W hm
        intro S H hG W hm
        refine y_next ?_
        refine k_if hG W hm (simT_test (sim_eqI (sim_and (sim_shr (sim_ix (sim_own 0 5 rfl rfl rfl) (sim_var 1 rfl rfl)) (sim_var 0 rfl rfl)) sim_int) sim_int)) ?_ ?_
        · clear hG W hm
          intro S H hG W hm
          cases hm
        · clear hG W hm
          intro S H hG W hm
          refine y_next ?_
          refine k_put hG W hm 1 4 rfl rfl rfl (sim_or (sim_ix (sim_own 1 4 rfl rfl rfl) (sim_var 0 rfl rfl)) (sim_shl sim_int (sim_var 1 rfl rfl))) (sim_var 0 rfl rfl) ?_
          clear hG W hm
          intro wired100 c101 S H hG W hm
          refine k_set hG W hm (sim_or (sim_ix (sim_own 0 6 rfl rfl rfl) (sim_var 2 rfl rfl)) (sim_shl sim_int (sim_var 2 rfl rfl))) ?_
          clear hG W hm
          intro gained108 v109 S H hG W hm
          refine k_fold (σJ := (fun (bx111 : (List Int)) (wx111 : List Cell × Option V) => ([some v0, some v1, some (.ref p52), some (.ref p60), some (tx63.1), some (tx63.2), some (v72), some (v73), some (v109), wx111.2] : L2.St))) (OJ := (fun (bx111 : (List Int)) (wx111 : List Cell × Option V) => ([wx111.1, c101] : Ow))) (Fb := (fun (bx111 : (List Int)) (wx111 : List Cell × Option V) => ([(oL tInt).f bx111 p60 (wx111.1)] : List Fact))) (σT := (fun b w (tx111 : V) => ((fun (bx111 : (List Int)) (wx111 : List Cell × Option V) => ([some v0, some v1, some (.ref p52), some (.ref p60), some (tx63.1), some (tx63.2), some (v72), some (v73), some (v109), wx111.2] : L2.St)) b w).set 9 (some tx111))) ((wx63.2.1, (wx63.2.2.2.2.2.2.2)) : List Cell × Option V) hG W hm (simI_range1 (sim_var 12 rfl rfl)) (fun b w => tg_name) (fun b w => List.nil_sublist _) rfl rfl (fun S h => (Okc.cons (Okc.at 7 rfl h) h)) ?_ ?_
          · clear hG W hm
            intro S1 y112 bx111 b' wx111 tx111 S H hm hG W N hN
            refine k_if hG W hm (simT_or (simT_test (sim_eqI (sim_var 0 rfl rfl) (sim_var 5 rfl rfl))) (simT_test (sim_eqI (sim_and (sim_shr (sim_ix (sim_own 0 1 rfl rfl rfl) (sim_var 0 rfl rfl)) (sim_var 5 rfl rfl)) sim_int) sim_int))) ?_ ?_
            · clear hG W hm
              intro S H hG W hm
              refine k_put hG W hm 0 1 rfl rfl rfl (sim_or (sim_ix (sim_own 0 1 rfl rfl rfl) (sim_var 0 rfl rfl)) (sim_var 3 rfl rfl)) (sim_var 0 rfl rfl) ?_
              clear hG W hm
              intro below132 c133 S H hG W hm
              refine y_next ?_
              cases hm
              refine y_next ?_
              exact hN (c133, (some (tx111))) _ _ (Okc.cons (Okc.at 0 rfl hG) (Okc.dr 3 hG)) (W.pick [0, 0] rfl)
            · clear hG W hm
              intro S H hG W hm
              refine y_next ?_
              cases hm
              refine y_next ?_
              exact hN (wx111.1, (some (tx111))) _ _ (Okc.cons (Okc.at 1 rfl hG) (Okc.dr 2 hG)) (W.pick [0, 0] rfl)
          · clear hG W hm
            intro bx111 wx111 S H hm hG W
            cases hm
            refine y_next ?_
            exact hN (c101, wx111.1, (some (tx63.1)), (some (tx63.2)), (some (v72)), (some (v73)), (some (v109)), (wx111.2)) _ _ (Okc.cons (Okc.at 2 rfl hG) (Okc.cons (Okc.at 0 rfl hG) (Okc.dr 9 hG))) (W.pick [0, 0] rfl)
  · clear hG W hm
    intro bx63 wx63 S H hm hG W
    refine k_frz hG W frz_L 0 1 rfl rfl ?_
    clear hG W
    intro S hG W
    exact k_ret hG W hm (sim_var 0 rfl rfl) (fun v S H hG W hr => k v S H (Okc.at 5 rfl hG) (W.pick [] rfl) hr)
theorem sc__turn_round : FnScope ["below", "upper_masks", "upper", "mask", "lower"] ["below"] (defScope (top 14)) := ⟨rfl, rfl, rfl, by decide +kernel, rfl, by decide +kernel, by decide +kernel⟩
theorem ok__turn_round (E : EnvF K mg) : Cal CX0 P w K mg base 2 "_turn_round" (spP (TyA.one (tL tInt)) (fun a => m__turn_round a) (tL tInt)) := by
  refine cal_mk (k := 1) E.d__turn_round sc__turn_round (fun vs H Q E h => by obtain ⟨S, F, a, r, ⟨_, rfl, _⟩, _⟩ := h; rfl) (fun _ _ _ _ _ _ us hl => match us, hl with | [_], _ => rfl) ?_
  rintro f cdv A outer s H vs Q EX hr ⟨S, F, below134, out, ⟨v0, rfl, h0⟩, W, hm, k⟩
  refine ⟨_, PSs.nox (pss_cons (ps_set (i := 1) sc__turn_round.nd rfl (Or.inl rfl) (pe_op op_rep (pe_lst (pa_cons pe_int pa_nil)) (pe_callB (call_lenK (K := K)) rfl (by exact E.g_len) boot_len (pa_cons (pv 0) pa_nil)))) (pss_cons (ps_for PassesOwn.never rfl (pi_enumK (K := K) rfl (by exact E.g_enumerate) (pa_cons (pv 0) pa_nil)) (pg_tupK (K := K) (n := 2) rfl (pgs_cons (pg_name (i := 2) sc__turn_round.nd rfl (Or.inl rfl)) (pgs_cons (pg_name (i := 3) sc__turn_round.nd rfl (Or.inl rfl)) pgs_nil))) (pss_cons (ps_for PassesOwn.never rfl (pi_listK (K := K) (pe_cal (ok_bits E) (by exact hr) (by first | decide | omega) (by rfl) pass0 (pa_cons (pv 3) pa_nil))) (pg_name (i := 4) sc__turn_round.nd rfl (Or.inl rfl)) (pss_cons (ps_asg (pe_op op_or (pe_ix (ix_listK (K := K)) (pv 1) (pv 4) (by intro _ _; rfl)) (pe_op op_shl pe_int (pv 2))) (pg_sub (pv 1) (pv 4) set_list)) pss_nil)) pss_nil)) (pss_cons (ps_ret (pv 1)) pss_nil))), ?_⟩
  have hG : Okc [fS S, (tL tInt).f below134 v0] S := ⟨Same.refl _, h0, True.intro⟩
  have W : Wd S (([] : Ow) ++ F) H := W
  show (_ : TS) _ ([some v0, none, none, none, none] : L2.St) H
  refine k_setO hG W hm (simF_rep (SimF.sim (simF_lst (simA_ln sim_int simA_ln0))) (sim_len (sim_var 1 rfl rfl))) ?_
  clear hG W hm
  intro upper_masks140 p142 c143 S H hG W hm
  refine k_fold (σJ := (fun (bx145 : (List Int)) (wx145 : List Cell × Option V × Option V × Option V) => ([some v0, some (.ref p142), wx145.2.1, wx145.2.2.1, wx145.2.2.2] : L2.St))) (OJ := (fun (bx145 : (List Int)) (wx145 : List Cell × Option V × Option V × Option V) => ([wx145.1] : Ow))) (Fb := (fun (bx145 : (List Int)) (wx145 : List Cell × Option V × Option V × Option V) => ([(oL tInt).f bx145 p142 (wx145.1)] : List Fact))) (σT := (fun b w (tx145 : V × V) => (((fun (bx145 : (List Int)) (wx145 : List Cell × Option V × Option V × Option V) => ([some v0, some (.ref p142), wx145.2.1, wx145.2.2.1, wx145.2.2.2] : L2.St)) b w).set 2 (some tx145.1)).set 3 (some tx145.2))) ((c143, (none), (none), (none)) : List Cell × Option V × Option V × Option V) hG W hm (simI_enum (sim_var 2 rfl rfl)) (fun b w => tg_pair) (fun b w => List.nil_sublist _) rfl rfl (fun S h => (Okc.cons (Okc.at 0 rfl h) h)) ?_ ?_
  · clear hG W hm
    intro S1 y146 bx145 b' wx145 tx145 S H hm hG W N hN
    refine k_fold (σJ := (fun (bx149 : (List Int)) (wx149 : List Cell × Option V) => ([some v0, some (.ref p142), some (tx145.1), some (tx145.2), wx149.2] : L2.St))) (OJ := (fun (bx149 : (List Int)) (wx149 : List Cell × Option V) => ([wx149.1] : Ow))) (Fb := (fun (bx149 : (List Int)) (wx149 : List Cell × Option V) => ([(oL tInt).f bx149 p142 (wx149.1)] : List Fact))) (σT := (fun b w (tx149 : V) => ((fun (bx149 : (List Int)) (wx149 : List Cell × Option V) => ([some v0, some (.ref p142), some (tx145.1), some (tx145.2), wx149.2] : L2.St)) b w).set 4 (some tx149))) ((wx145.1, (wx145.2.2.2)) : List Cell × Option V) hG W hm (simI_list (sim_call (simA_one (sim_var 1 rfl rfl)))) (fun b w => tg_name) (fun b w => List.nil_sublist _) rfl rfl (fun S h => (Okc.cons (Okc.at 2 rfl h) h)) ?_ ?_
    · clear hG W hm
      intro S1 y150 bx149 b' wx149 tx149 S H hm hG W N hN
      refine k_put hG W hm 0 1 rfl rfl rfl (sim_or (sim_ix (sim_own 0 1 rfl rfl rfl) (sim_var 0 rfl rfl)) (sim_shl sim_int (sim_var 3 rfl rfl))) (sim_var 0 rfl rfl) ?_
      clear hG W hm
      intro upper_masks160 c161 S H hG W hm
      cases hm
      refine y_next ?_
      exact hN (c161, (some (tx149))) _ _ (Okc.cons (Okc.at 0 rfl hG) (Okc.dr 3 hG)) (W.pick [0] rfl)
    · clear hG W hm
      intro bx149 wx149 S H hm hG W
      cases hm
      refine y_next ?_
      exact hN (wx149.1, (some (tx145.1)), (some (tx145.2)), (wx149.2)) _ _ (Okc.cons (Okc.at 0 rfl hG) (Okc.dr 4 hG)) (W.pick [0] rfl)
  · clear hG W hm
    intro bx145 wx145 S H hm hG W
    refine k_frz hG W frz_L 0 0 rfl rfl ?_
    clear hG W
    intro S hG W
    exact k_ret hG W hm (sim_var 0 rfl rfl) (fun v S H hG W hr => k v S H (Okc.at 3 rfl hG) (W.pick [] rfl) hr)
theorem sc__order_list : FnScope ["masks", "lamps", "listed", "ready", "following", "lamp", "mask"] ["masks"] (defScope (top 15)) := ⟨rfl, rfl, rfl, by decide +kernel, rfl, by decide +kernel, by decide +kernel⟩
theorem ok__order_list (E : EnvF K mg) : Cal CX0 P w K mg base 1 "_order_list" (spP (TyA.one (tL tInt)) (fun a => m__order_list a) (tL tInt)) := by
  refine cal_mk (k := 0) E.d__order_list sc__order_list (fun vs H Q E h => by obtain ⟨S, F, a, r, ⟨_, rfl, _⟩, _⟩ := h; rfl) (fun _ _ _ _ _ _ us hl => match us, hl with | [_], _ => rfl) ?_
  rintro f cdv A outer s H vs Q EX hr ⟨S, F, masks162, out, ⟨v0, rfl, h0⟩, W, hm, k⟩
  refine ⟨_, PSs.nox (pss_cons (ps_set (i := 1) sc__order_list.nd rfl (Or.inl rfl) (pe_lst pa_nil)) (pss_cons (ps_set (i := 2) sc__order_list.nd rfl (Or.inr rfl) pe_int) (pss_cons (ps_while PassesOwn.never (pt_cmpR op_lt (pe_callB (call_lenK (K := K)) rfl (by exact E.g_len) boot_len (pa_cons (pv 1) pa_nil)) (pe_callB (call_lenK (K := K)) rfl (by exact E.g_len) boot_len (pa_cons (pv 0) pa_nil)) (nomark _)) (pss_cons (ps_setLc (i := 3) (own := [("lamp", 5), ("mask", 6)]) rfl sc__order_list.nd rfl rfl (sw_true rfl rfl rfl (by decide +kernel)) (pi_enumK (K := K) rfl (by exact E.g_enumerate) (pa_cons (pv 0) pa_nil)) (blkOk_by (N := ["masks", "lamps", "listed", "ready", "following", "lamp", "mask"]) (sc := defScope (top 15)) (by decide +kernel)) (fun _ _ _ _ _ => (pg_tupK (K := K) (n := 2) rfl (pgs_cons (pg_name (i := 5) sc__order_list.nd rfl (Or.inl rfl)) (pgs_cons (pg_name (i := 6) sc__order_list.nd rfl (Or.inl rfl)) pgs_nil)))) (fun _ _ _ _ _ => (pts_one (pt_cmpR op_eq (pe_op op_and (pv 6) (pv 2)) (pv 6) (nomark _)))) (fun _ _ _ _ _ => (pv 5))) (pss_cons (ps_setLc (i := 4) (own := [("lamp", 5)]) rfl sc__order_list.nd rfl rfl (sw_true rfl rfl rfl (by decide +kernel)) (pi_listK (K := K) (pv 3)) (blkOk_by (N := ["masks", "lamps", "listed", "ready", "following", "lamp", "mask"]) (sc := defScope (top 15)) (by decide +kernel)) (fun _ _ _ _ _ => (pg_name (i := 5) sc__order_list.nd rfl (Or.inl rfl))) (fun _ _ _ _ _ => (pts_one (pt_cmpR op_eq (pe_op op_and (pe_op op_shr (pv 2) (pv 5)) pe_int) pe_int (nomark _)))) (fun _ _ _ _ _ => (pv 5))) (pss_cons (ps_expr (pe_bmK (K := K) PySem.F.plainAttrs_list PySem.F.slot_list_append PySem.F.type_list_append mt_append (pv 1) (pa_cons (pe_ix (ix_listK (K := K)) (pv 4) pe_int (by intro _ _; rfl)) pa_nil))) (pss_cons (ps_set (i := 2) sc__order_list.nd rfl (Or.inr rfl) (pe_op op_or (pv 2) (pe_op op_shl pe_int (pe_ix (ix_listK (K := K)) (pv 4) pe_int (by intro _ _; rfl))))) pss_nil))))) (pss_cons (ps_ret (pv 1)) pss_nil)))), ?_⟩
  have hG : Okc [fS S, (tL tInt).f masks162 v0] S := ⟨Same.refl _, h0, True.intro⟩
  have W : Wd S (([] : Ow) ++ F) H := W
  show (_ : TS) _ ([some v0, none, none, none, none, none, none] : L2.St) H
  refine k_setO hG W hm (simF_lst (T := tInt) simA_ln0) ?_
  clear hG W hm
  intro lamps163 p165 c166 S H hG W hm
  refine k_set hG W hm sim_int ?_
  clear hG W hm
  intro listed167 v168 S H hG W hm
  refine k_while (σJ := (fun (bx169 : (List Int) × Int) (wx169 : List Cell × V × Option V × Option V) => ([some v0, some (.ref p165), some (wx169.2.1), wx169.2.2.1, wx169.2.2.2, none, none] : L2.St))) (OJ := (fun (bx169 : (List Int) × Int) (wx169 : List Cell × V × Option V × Option V) => ([wx169.1] : Ow))) (Fb := (fun (bx169 : (List Int) × Int) (wx169 : List Cell × V × Option V × Option V) => ([(oL tInt).f bx169.1 p165 (wx169.1), tInt.f bx169.2 (wx169.2.1)] : List Fact))) ((c166, v168, (none), (none)) : List Cell × V × Option V × Option V) hG W hm (fun b w => (simT_test (sim_lt (sim_len (sim_own 0 0 rfl rfl rfl)) (sim_len (sim_var 5 rfl rfl))))) rfl rfl (fun S h => (Okc.cons (Okc.at 1 rfl h) (Okc.cons (Okc.at 0 rfl h) h))) ?_ ?_
  · clear hG W hm
    intro bx169 b' wx169 S H hm hG W N hN
    refine k_set hG W hm (SimF.sim (simF_lc (simI_enum (sim_var 5 rfl rfl)) tg_pair (fun _ => rfl) (List.nil_sublist _) (fun a w => (simT_test (sim_eqI (sim_and (sim_var 1 rfl rfl) (sim_var 3 rfl rfl)) (sim_var 1 rfl rfl)))) (fun a w => (sim_var 0 rfl rfl)))) ?_
    clear hG W hm
    intro ready181 v182 S H hG W hm
    refine k_set hG W hm (SimF.sim (simF_lc (simI_list (sim_var 0 rfl rfl)) tg_name (fun _ => rfl) (List.nil_sublist _) (fun a w => (simT_test (sim_eqI (sim_and (sim_shr (sim_var 3 rfl rfl) (sim_var 0 rfl rfl)) sim_int) sim_int))) (fun a w => (sim_var 0 rfl rfl)))) ?_
    clear hG W hm
    intro following191 v192 S H hG W hm
    refine k_app hG W hm 0 2 rfl rfl rfl (sim_ix (sim_var 0 rfl rfl) sim_int) ?_
    clear hG W hm
    intro y195 c197 S H hG W hm
    revert hG hm; generalize (bx169.1 ++ [y195]) = lamps196; intro hG hm
    refine k_set hG W hm (sim_or (sim_var 4 rfl rfl) (sim_shl sim_int (sim_ix (sim_var 1 rfl rfl) sim_int))) ?_
    clear hG W hm
    intro listed204 v205 S H hG W hm
    cases hm
    refine y_next ?_
    exact hN (c197, v205, (some (v182)), (some (v192))) _ _ (Okc.cons (Okc.at 1 rfl hG) (Okc.cons (Okc.at 0 rfl hG) (Okc.dr 6 hG))) (W.pick [0] rfl)
  · clear hG W hm
    intro bx169 wx169 S H hm hG W
    refine k_frz hG W frz_L 0 0 rfl rfl ?_
    clear hG W
    intro S hG W
    exact k_ret hG W hm (sim_var 0 rfl rfl) (fun v S H hG W hr => k v S H (Okc.at 5 rfl hG) (W.pick [] rfl) hr)
theorem sc_House___init__ : FnScope ["self", "count", "hues", "wires", "upper", "lower", "mask", "_"] ["self", "count", "hues", "wires"] (defScope (inClass (top 16) 2)) := ⟨rfl, rfl, rfl, by decide +kernel, rfl, by decide +kernel, by decide +kernel⟩
theorem ok_House___init__ (E : EnvF K mg) : Mak CX0 P w K mg base 4 "House" (He.ga K "House") (spI (TyA.c tInt (TyA.c tInt (TyA.one (tL (tP tInt tInt))))) (fun a => m_House___init__ a.1 a.2.1 a.2.2) (He.ga K "House") [("_below_masks" : Str), ("_above_masks" : Str), ("_below" : Str), ("_above" : Str), ("_order" : Str), ("count" : Str), ("hues" : Str), ("wires" : Str), ("_direct" : Str)] (TyA.c (tL tInt) (TyA.c (tL tInt) (TyA.c (tL (tL tInt)) (TyA.c (tL (tL tInt)) (TyA.c (tL tInt) (TyA.c tInt (TyA.c tInt (TyA.c (tT (tP tInt tInt)) (TyA.one (tL (tL tInt)))))))))))) := by
  refine mak_mk (k := 3) E.d_House___init__ sc_House___init__ (fun vs H Q E h => by obtain ⟨S, F, a, r, p, dx, ws, rfl, ⟨_, _, rfl, _, ⟨_, _, rfl, _, ⟨_, rfl, _⟩⟩⟩, _⟩ := h; rfl) ⟨fun kV doc pm an cdv ct us h0 hl => absurd h0 (by decide), fun T kV doc pm an cdv ct us its h0 hl hi => match us, its, hl, hi with | [_, _, _, _], [_], _, _ => ⟨_, rfl, rfl⟩⟩ ?_
  rintro f cdv A outer s H vs Q EX hr ⟨S, F, ⟨count207, hues208, wires209⟩, out, p0, dx0, ws, rfl, ⟨v1, _, rfl, h1, ⟨v2, _, rfl, h2, ⟨v3, rfl, h3⟩⟩⟩, W, hm, k⟩
  refine ⟨_, PSs.nox (pss_cons (ps_if (PW.pt (pw_or (pt_not (pt_val (pe_cal (ok_is_integer E) (by exact hr) (by first | decide | omega) (by rfl) pass0 (pa_cons (pv 1) pa_nil)))) (pw_or1 (pt_not (pt_chain op_le op_le pe_int (pv 1) (pe_cvalK (K := K) (C8.pe_gc rfl (by exact E.gc_House)))))))) (pss_cons ps_never pss_nil) pss_nil) (pss_cons (ps_if (PW.pt (pw_or (pt_not (pt_val (pe_cal (ok_is_integer E) (by exact hr) (by first | decide | omega) (by rfl) pass0 (pa_cons (pv 2) pa_nil)))) (pw_or1 (pt_not (pt_chain op_le op_le pe_int (pv 2) (pe_cvalK (K := K) (C8.pe_gc rfl (by exact E.gc_House)))))))) (pss_cons ps_never pss_nil) pss_nil) (pss_cons (ps_fldK (K := K) (pv 0) (pe_cal (ok__join_wires E) (by exact hr) (by first | decide | omega) (by rfl) pass0 (pa_cons (pv 1) (pa_cons (pv 3) pa_nil)))) (pss_cons (ps_fldK (K := K) (pv 0) (pe_cal (ok__turn_round E) (by exact hr) (by first | decide | omega) (by rfl) pass0 (pa_cons (pe_fldK (K := K) (pv 0)) pa_nil))) (pss_cons (ps_fldK (K := K) (pv 0) (pe_lc (own := [("mask", 6)]) rfl sc_House___init__.nd (pi_listK (K := K) (pe_fldK (K := K) (pv 0))) (blkOk_by (N := ["self", "count", "hues", "wires", "upper", "lower", "mask", "_"]) (sc := defScope (inClass (top 16) 2)) (by decide +kernel)) (fun _ _ _ _ _ => (pg_name (i := 6) sc_House___init__.nd rfl (Or.inl rfl))) (fun _ _ _ _ _ => pts_nil) (fun _ _ _ _ _ => (pe_cal (ok_bits E) (by exact hr) (by first | decide | omega) (by rfl) pass0 (pa_cons (pv 6) pa_nil))))) (pss_cons (ps_fldK (K := K) (pv 0) (pe_lc (own := [("mask", 6)]) rfl sc_House___init__.nd (pi_listK (K := K) (pe_fldK (K := K) (pv 0))) (blkOk_by (N := ["self", "count", "hues", "wires", "upper", "lower", "mask", "_"]) (sc := defScope (inClass (top 16) 2)) (by decide +kernel)) (fun _ _ _ _ _ => (pg_name (i := 6) sc_House___init__.nd rfl (Or.inl rfl))) (fun _ _ _ _ _ => pts_nil) (fun _ _ _ _ _ => (pe_cal (ok_bits E) (by exact hr) (by first | decide | omega) (by rfl) pass0 (pa_cons (pv 6) pa_nil))))) (pss_cons (ps_fldK (K := K) (pv 0) (pe_cal (ok__order_list E) (by exact hr) (by first | decide | omega) (by rfl) pass0 (pa_cons (pe_fldK (K := K) (pv 0)) pa_nil))) (pss_cons (ps_fldK (K := K) (pv 0) (pv 1)) (pss_cons (ps_fldK (K := K) (pv 0) (pv 2)) (pss_cons (ps_fldK (K := K) (pv 0) (pe_callTy (call_tupleK (K := K)) rfl (by exact E.g_tuple) (by decide +kernel) (pa_cons (pe_callB (cr_sortedPK (K := K)) rfl (by exact E.g_sorted) (by decide +kernel) (pa_cons (pv 3) pa_nil)) pa_nil))) (pss_cons (ps_fldK (K := K) (pv 0) (pe_lc (own := [("_", 7)]) rfl sc_House___init__.nd (pi_range1 rfl (by exact E.g_range) (pa_cons (pv 1) pa_nil)) (blkOk_by (N := ["self", "count", "hues", "wires", "upper", "lower", "mask", "_"]) (sc := defScope (inClass (top 16) 2)) (by decide +kernel)) (fun _ _ _ _ _ => (pg_name (i := 7) sc_House___init__.nd rfl (Or.inl rfl))) (fun _ _ _ _ _ => pts_nil) (fun _ _ _ _ _ => (pe_lst pa_nil)))) (pss_cons (ps_for PassesOwn.never rfl (pi_tupK (K := K) (pe_fldK (K := K) (pv 0))) (pg_tupK (K := K) (n := 2) rfl (pgs_cons (pg_name (i := 4) sc_House___init__.nd rfl (Or.inl rfl)) (pgs_cons (pg_name (i := 5) sc_House___init__.nd rfl (Or.inl rfl)) pgs_nil))) (pss_cons (ps_expr (pe_bmK (K := K) PySem.F.plainAttrs_list PySem.F.slot_list_append PySem.F.type_list_append mt_append (pe_ix (ix_listK (K := K)) (pe_fldK (K := K) (pv 0)) (pv 4) (by intro _ _; rfl)) (pa_cons (pv 5) pa_nil))) pss_nil)) pss_nil)))))))))))), ?_⟩
  have hG : Okc [fS S, (oIns (He.ga K "House") [] TyA.nil).f () p0 [(p0, .ins (He.ga K "House") dx0 []), (dx0, .own p0)], tInt.f count207 v1, tInt.f hues208 v2, (tL (tP tInt tInt)).f wires209 v3] S := ⟨Same.refl _, ⟨dx0, [], rfl, rfl, List.nodup_nil, rfl⟩, h1, h2, h3, True.intro⟩
  have W : Wd S ([[(p0, .ins (He.ga K "House") dx0 []), (dx0, .own p0)]] ++ F) H := W
  show (_ : TS) _ ([some (.ref p0), some v1, some v2, some v3, none, none, none, none] : L2.St) H
  refine k_if hG W hm (simT_or (simT_not (simT_B (sim_call (simA_one (sim_var 2 rfl rfl))))) (simT_not (simT_test (sim_chain (p := (fun a b => decide (a ≤ b))) (p' := (fun a b => decide (a ≤ b))) sim_int (sim_var 2 rfl rfl) (sim_cval E.cc_House_MOST_LAMPS))))) ?_ ?_
  · clear hG W hm
    intro S H hG W hm
    cases hm
  · clear hG W hm
    intro S H hG W hm
    refine y_next ?_
    refine k_if hG W hm (simT_or (simT_not (simT_B (sim_call (simA_one (sim_var 3 rfl rfl))))) (simT_not (simT_test (sim_chain (p := (fun a b => decide (a ≤ b))) (p' := (fun a b => decide (a ≤ b))) sim_int (sim_var 3 rfl rfl) (sim_cval E.cc_House_MOST_HUES))))) ?_ ?_
    · clear hG W hm
      intro S H hG W hm
      cases hm
    · clear hG W hm
      intro S H hG W hm
      refine y_next ?_
      refine k_fnew [("_below_masks" : Str)] (g := fun a x => x) (a := ()) (A' := (TyA.one (tL tInt))) hG W hm 0 1 rfl rfl rfl E.cl_House E.na_House__below_masks sn_nil rfl (by decide +kernel) (by decide) (sim_call (simA_c (sim_var 2 rfl rfl) (simA_one (sim_var 4 rfl rfl)))) ?_
      clear hG W hm
      intro y226 c228 S H hG W hm
      revert hG hm; generalize ((y226) : ((List Int))) = self227; intro hG hm
      refine k_fnew [("_below_masks" : Str), ("_above_masks" : Str)] (g := fun a x => (a, x)) (a := self227) (A' := (TyA.c (tL tInt) (TyA.one (tL tInt)))) hG W hm 0 0 rfl rfl rfl E.cl_House E.na_House__above_masks sn_one rfl (by decide +kernel) (by decide) (sim_call (simA_one (sim_ofld E.cl_House E.na_House__below_masks pj_one rfl (sim_own 0 0 rfl rfl rfl)))) ?_
      clear hG W hm
      intro y232 c234 S H hG W hm
      revert hG hm; generalize (((self227, y232)) : ((List Int) × (List Int))) = self233; intro hG hm
      refine k_fnew [("_below_masks" : Str), ("_above_masks" : Str), ("_below" : Str)] (g := fun a x => (a.1, (a.2, x))) (a := self233) (A' := (TyA.c (tL tInt) (TyA.c (tL tInt) (TyA.one (tL (tL tInt)))))) hG W hm 0 0 rfl rfl rfl E.cl_House E.na_House__below (sn_c sn_one) rfl (by decide +kernel) (by decide) (SimF.sim (simF_lc (simI_list (sim_ofld E.cl_House E.na_House__below_masks pj_0 rfl (sim_own 0 0 rfl rfl rfl))) tg_name (fun _ => rfl) (List.nil_sublist _) (fun a w => simT_yes) (fun a w => (sim_call (simA_one (sim_var 0 rfl rfl)))))) ?_
      clear hG W hm
      intro y237 c239 S H hG W hm
      revert hG hm; generalize (((self233.1, (self233.2, y237))) : ((List Int) × (List Int) × (List (List Int)))) = self238; intro hG hm
      refine k_fnew [("_below_masks" : Str), ("_above_masks" : Str), ("_below" : Str), ("_above" : Str)] (g := fun a x => (a.1, (a.2.1, (a.2.2, x)))) (a := self238) (A' := (TyA.c (tL tInt) (TyA.c (tL tInt) (TyA.c (tL (tL tInt)) (TyA.one (tL (tL tInt))))))) hG W hm 0 0 rfl rfl rfl E.cl_House E.na_House__above (sn_c (sn_c sn_one)) rfl (by decide +kernel) (by decide) (SimF.sim (simF_lc (simI_list (sim_ofld E.cl_House E.na_House__above_masks (pj_s pj_0) rfl (sim_own 0 0 rfl rfl rfl))) tg_name (fun _ => rfl) (List.nil_sublist _) (fun a w => simT_yes) (fun a w => (sim_call (simA_one (sim_var 0 rfl rfl)))))) ?_
      clear hG W hm
      intro y244 c246 S H hG W hm
      revert hG hm; generalize (((self238.1, (self238.2.1, (self238.2.2, y244)))) : ((List Int) × (List Int) × (List (List Int)) × (List (List Int)))) = self245; intro hG hm
      refine k_fnew [("_below_masks" : Str), ("_above_masks" : Str), ("_below" : Str), ("_above" : Str), ("_order" : Str)] (g := fun a x => (a.1, (a.2.1, (a.2.2.1, (a.2.2.2, x))))) (a := self245) (A' := (TyA.c (tL tInt) (TyA.c (tL tInt) (TyA.c (tL (tL tInt)) (TyA.c (tL (tL tInt)) (TyA.one (tL tInt))))))) hG W hm 0 0 rfl rfl rfl E.cl_House E.na_House__order (sn_c (sn_c (sn_c sn_one))) rfl (by decide +kernel) (by decide) (sim_call (simA_one (sim_ofld E.cl_House E.na_House__above_masks (pj_s pj_0) rfl (sim_own 0 0 rfl rfl rfl)))) ?_
      clear hG W hm
      intro y251 c253 S H hG W hm
      revert hG hm; generalize (((self245.1, (self245.2.1, (self245.2.2.1, (self245.2.2.2, y251))))) : ((List Int) × (List Int) × (List (List Int)) × (List (List Int)) × (List Int))) = self252; intro hG hm
      refine k_fnew [("_below_masks" : Str), ("_above_masks" : Str), ("_below" : Str), ("_above" : Str), ("_order" : Str), ("count" : Str)] (g := fun a x => (a.1, (a.2.1, (a.2.2.1, (a.2.2.2.1, (a.2.2.2.2, x)))))) (a := self252) (A' := (TyA.c (tL tInt) (TyA.c (tL tInt) (TyA.c (tL (tL tInt)) (TyA.c (tL (tL tInt)) (TyA.c (tL tInt) (TyA.one tInt))))))) hG W hm 0 0 rfl rfl rfl E.cl_House E.na_House_count (sn_c (sn_c (sn_c (sn_c sn_one)))) rfl (by decide +kernel) (by decide) (sim_var 7 rfl rfl) ?_
      clear hG W hm
      intro y256 c258 S H hG W hm
      revert hG hm; generalize (((self252.1, (self252.2.1, (self252.2.2.1, (self252.2.2.2.1, (self252.2.2.2.2, y256)))))) : ((List Int) × (List Int) × (List (List Int)) × (List (List Int)) × (List Int) × Int)) = self257; intro hG hm
      refine k_fnew [("_below_masks" : Str), ("_above_masks" : Str), ("_below" : Str), ("_above" : Str), ("_order" : Str), ("count" : Str), ("hues" : Str)] (g := fun a x => (a.1, (a.2.1, (a.2.2.1, (a.2.2.2.1, (a.2.2.2.2.1, (a.2.2.2.2.2, x))))))) (a := self257) (A' := (TyA.c (tL tInt) (TyA.c (tL tInt) (TyA.c (tL (tL tInt)) (TyA.c (tL (tL tInt)) (TyA.c (tL tInt) (TyA.c tInt (TyA.one tInt)))))))) hG W hm 0 0 rfl rfl rfl E.cl_House E.na_House_hues (sn_c (sn_c (sn_c (sn_c (sn_c sn_one))))) rfl (by decide +kernel) (by decide) (sim_var 9 rfl rfl) ?_
      clear hG W hm
      intro y259 c261 S H hG W hm
      revert hG hm; generalize (((self257.1, (self257.2.1, (self257.2.2.1, (self257.2.2.2.1, (self257.2.2.2.2.1, (self257.2.2.2.2.2, y259))))))) : ((List Int) × (List Int) × (List (List Int)) × (List (List Int)) × (List Int) × Int × Int)) = self260; intro hG hm
      refine k_fnew [("_below_masks" : Str), ("_above_masks" : Str), ("_below" : Str), ("_above" : Str), ("_order" : Str), ("count" : Str), ("hues" : Str), ("wires" : Str)] (g := fun a x => (a.1, (a.2.1, (a.2.2.1, (a.2.2.2.1, (a.2.2.2.2.1, (a.2.2.2.2.2.1, (a.2.2.2.2.2.2, x)))))))) (a := self260) (A' := (TyA.c (tL tInt) (TyA.c (tL tInt) (TyA.c (tL (tL tInt)) (TyA.c (tL (tL tInt)) (TyA.c (tL tInt) (TyA.c tInt (TyA.c tInt (TyA.one (tT (tP tInt tInt))))))))))) hG W hm 0 0 rfl rfl rfl E.cl_House E.na_House_wires (sn_c (sn_c (sn_c (sn_c (sn_c (sn_c sn_one)))))) rfl (by decide +kernel) (by decide) (sim_tuple (SimF.sim (simF_sortedP (sim_var 11 rfl rfl)))) ?_
      clear hG W hm
      intro y262 c264 S H hG W hm
      revert hG hm; generalize (((self260.1, (self260.2.1, (self260.2.2.1, (self260.2.2.2.1, (self260.2.2.2.2.1, (self260.2.2.2.2.2.1, (self260.2.2.2.2.2.2, y262)))))))) : ((List Int) × (List Int) × (List (List Int)) × (List (List Int)) × (List Int) × Int × Int × (List (Int × Int)))) = self263; intro hG hm
      refine k_fnewO [("_below_masks" : Str), ("_above_masks" : Str), ("_below" : Str), ("_above" : Str), ("_order" : Str), ("count" : Str), ("hues" : Str), ("wires" : Str), ("_direct" : Str)] (g := fun a x => (a.1, (a.2.1, (a.2.2.1, (a.2.2.2.1, (a.2.2.2.2.1, (a.2.2.2.2.2.1, (a.2.2.2.2.2.2.1, (a.2.2.2.2.2.2.2, x))))))))) (a := self263) (A' := fun q => (TyA.c (tL tInt) (TyA.c (tL tInt) (TyA.c (tL (tL tInt)) (TyA.c (tL (tL tInt)) (TyA.c (tL tInt) (TyA.c tInt (TyA.c tInt (TyA.c (tT (tP tInt tInt)) (TyA.one (tAt q))))))))))) hG W hm 0 0 rfl rfl rfl E.cl_House E.na_House__direct (fun q => (sn_c (sn_c (sn_c (sn_c (sn_c (sn_c (sn_c sn_one)))))))) rfl (by decide +kernel) (by decide) (simF_lcLL (simI_range1 (sim_var 10 rfl rfl)) tg_name (fun _ => rfl) (List.nil_sublist _) (fun a w => simT_yes) (fun a w => (simF_lst (T := tInt) simA_ln0))) ?_
      clear hG W hm
      intro y266 p272 c273 c268 S H hG W hm
      revert hG hm; generalize (((self263.1, (self263.2.1, (self263.2.2.1, (self263.2.2.2.1, (self263.2.2.2.2.1, (self263.2.2.2.2.2.1, (self263.2.2.2.2.2.2.1, (self263.2.2.2.2.2.2.2, ()))))))))) : ((List Int) × (List Int) × (List (List Int)) × (List (List Int)) × (List Int) × Int × Int × (List (Int × Int)) × Unit)) = self267; intro hG hm
      refine k_fold (σJ := (fun (bx275 : (List (List Int))) (wx275 : List Cell × Option V × Option V) => ([some (.ref p0), some v1, some v2, some v3, wx275.2.1, wx275.2.2, none, none] : L2.St))) (OJ := (fun (bx275 : (List (List Int))) (wx275 : List Cell × Option V × Option V) => ([wx275.1, c268] : Ow))) (Fb := (fun (bx275 : (List (List Int))) (wx275 : List Cell × Option V × Option V) => ([(oLL tInt).f bx275 p272 (wx275.1)] : List Fact))) (σT := (fun b w (tx275 : V × V) => (((fun (bx275 : (List (List Int))) (wx275 : List Cell × Option V × Option V) => ([some (.ref p0), some v1, some v2, some v3, wx275.2.1, wx275.2.2, none, none] : L2.St)) b w).set 4 (some tx275.1)).set 5 (some tx275.2))) ((c273, (none), (none)) : List Cell × Option V × Option V) hG W hm (simI_tup (sim_ofld E.cl_House E.na_House_wires (pj_s (pj_s (pj_s (pj_s (pj_s (pj_s (pj_s pj_0))))))) rfl (sim_own 1 1 rfl rfl rfl))) (fun b w => tg_pair) (fun b w => List.nil_sublist _) rfl rfl (fun S h => (Okc.cons (Okc.at 0 rfl h) h)) ?_ ?_
      · clear hG W hm
        intro S1 y276 bx275 b' wx275 tx275 S H hm hG W N hN
        refine k_app2 hG W hm 0 2 rfl rfl (sim_ofld E.cl_House E.na_House__direct (pj_s (pj_s (pj_s (pj_s (pj_s (pj_s (pj_s (pj_s pj_one)))))))) rfl (sim_own 1 5 rfl rfl rfl)) (sim_var 0 rfl rfl) (sim_var 1 rfl rfl) ?_
        clear hG W hm
        intro xss282 c283 S H hG W hm
        cases hm
        refine y_next ?_
        exact hN (c283, (some (tx275.1)), (some (tx275.2))) _ _ (Okc.cons (Okc.at 0 rfl hG) (Okc.dr 4 hG)) (W.pick [0, 0] rfl)
      · clear hG W hm
        intro bx275 wx275 S H hm hG W
        refine k_frz hG W frz_LL 0 0 rfl rfl ?_
        clear hG W
        intro S hG W
        refine k_cast hG 3 0 rfl rfl (ls_c (ls_c (ls_c (ls_c (ls_c (ls_c (ls_c (ls_c ls_one)))))))) ?_
        clear hG
        intro hG
        exact x_endI hm k (Okc.at 13 rfl hG) (W.pick [0] rfl) (Okc.at 0 rfl hG)
theorem sc_House_order : FnScope ["self"] ["self"] (defScope (inClass (top 16) 10)) := ⟨rfl, rfl, rfl, by decide +kernel, rfl, by decide +kernel, by decide +kernel⟩
theorem ok_House_order (E : EnvF K mg) : Mtd CX0 P w K mg base 1 (He.ga K "House") "order" (spP (TyA.one (tHouse (He.ga K "House"))) (fun a => m_House_order a) (tL tInt)) := by
  refine mtd_mk (k := 0) E.d_House_order sc_House_order (fun vs H Q E h => by obtain ⟨S, F, a, r, ⟨_, rfl, _⟩, _⟩ := h; rfl) (fun _ _ _ _ _ _ us hl => match us, hl with | [_], _ => rfl) ?_
  rintro f cdv A outer s H vs Q EX hr ⟨S, F, self284, out, ⟨v0, rfl, h0⟩, W, hm, k⟩
  refine ⟨_, PSs.nox (pss_cons (ps_ret (pe_callTy (call_listK (K := K)) rfl (by exact E.g_list) (by decide +kernel) (pa_cons (pe_fldK (K := K) (pv 0)) pa_nil))) pss_nil), ?_⟩
  have hG : Okc [fS S, (tHouse (He.ga K "House")).f self284 v0] S := ⟨Same.refl _, h0, True.intro⟩
  have W : Wd S (([] : Ow) ++ F) H := W
  show (_ : TS) _ ([some v0] : L2.St) H
  exact k_ret hG W hm (SimF.sim (simF_list (sim_fld (house_fld E.cl_House (E.na_House__order) (fun _ _ _ h => h.order)) (sim_var 1 rfl rfl)))) (fun v S H hG W hr => k v S H (Okc.at 0 rfl hG) (W.pick [] rfl) hr)
theorem sc_is_state : FnScope ["house", "value", "hue"] ["house", "value"] (defScope (top 18)) := ⟨rfl, rfl, rfl, by decide +kernel, rfl, by decide +kernel, by decide +kernel⟩
theorem ok_is_state (E : EnvF K mg) : Cal CX0 P w K mg base 2 "is_state" (spP (TyA.c (tHouse (He.ga K "House")) (TyA.one (tT tInt))) (fun a => m_is_state a.1 a.2) tBool) := by
  refine cal_mk (k := 1) E.d_is_state sc_is_state (fun vs H Q E h => by obtain ⟨S, F, a, r, ⟨_, _, rfl, _, ⟨_, rfl, _⟩⟩, _⟩ := h; rfl) (fun _ _ _ _ _ _ us hl => match us, hl with | [_, _], _ => rfl) ?_
  rintro f cdv A outer s H vs Q EX hr ⟨S, F, ⟨house286, value287⟩, out, ⟨v0, _, rfl, h0, ⟨v1, rfl, h1⟩⟩, W, hm, k⟩
  refine ⟨_, PSs.nox (pss_cons (ps_if (PW.pt (pw_or (pt_not (pt_val (pe_callB (call_isiKK (K := K)) rfl (by exact E.g_isinstance) (by decide +kernel) (pa_cons (pv 1) (pa_cons (pe_bltn (v := .ty "tuple") (u := .type "tuple") rfl (by exact E.g_tuple) (by decide +kernel) rfl) pa_nil))))) (pw_or1 (pt_cmpR op_ne (pe_callB (call_lenK (K := K)) rfl (by exact E.g_len) boot_len (pa_cons (pv 1) pa_nil)) (pe_fldK (K := K) (pv 0)) (nomark _))))) (pss_cons (ps_ret pe_bl) pss_nil) pss_nil) (pss_cons (ps_ret (pe_callB (cr_allK (K := K)) rfl (by exact E.g_all) (by decide +kernel) (pa_cons (pe_lc (own := [("hue", 2)]) rfl sc_is_state.nd (pi_tupK (K := K) (pv 1)) (blkOk_by (N := ["house", "value", "hue"]) (sc := defScope (top 18)) (by decide +kernel)) (fun _ _ _ _ _ => (pg_name (i := 2) sc_is_state.nd rfl (Or.inl rfl))) (fun _ _ _ _ _ => pts_nil) (fun _ _ _ _ _ => (pe_and (pe_cal (ok_is_integer E) (by exact hr) (by first | decide | omega) (by rfl) pass0 (pa_cons (pv 2) pa_nil)) (pe_one (pe_chain op_le op_lt pe_int (pv 2) (pe_fldK (K := K) (pv 0))))))) pa_nil))) pss_nil)), ?_⟩
  have hG : Okc [fS S, (tHouse (He.ga K "House")).f house286 v0, (tT tInt).f value287 v1] S := ⟨Same.refl _, h0, h1, True.intro⟩
  have W : Wd S (([] : Ow) ++ F) H := W
  show (_ : TS) _ ([some v0, some v1, none] : L2.St) H
  refine k_if hG W hm (simT_or (simT_not (simT_B (sim_isi isI_tup_tuple (sim_var 2 rfl rfl)))) (simT_test (sim_neI (sim_lenT (sim_var 2 rfl rfl)) (sim_fld (house_fld E.cl_House (E.na_House_count) (fun _ _ _ h => h.count)) (sim_var 1 rfl rfl))))) ?_ ?_
  · clear hG W hm
    intro S H hG W hm
    exact k_ret hG W hm sim_bl (fun v S H hG W hr => k v S H (Okc.at 0 rfl hG) (W.pick [] rfl) hr)
  · clear hG W hm
    intro S H hG W hm
    refine y_next ?_
    exact k_ret hG W hm (sim_all (SimF.sim (simF_lc (simI_tup (sim_var 2 rfl rfl)) tg_name (fun _ => rfl) (List.nil_sublist _) (fun a w => simT_yes) (fun a w => (sim_andV (sim_call (simA_one (sim_var 0 rfl rfl))) (sim_chain (p := (fun a b => decide (a ≤ b))) (p' := (fun a b => decide (a < b))) sim_int (sim_var 0 rfl rfl) (sim_fld (house_fld E.cl_House (E.na_House_hues) (fun _ _ _ h => h.hues)) (sim_var 2 rfl rfl)))))))) (fun v S H hG W hr => k v S H (Okc.at 0 rfl hG) (W.pick [] rfl) hr)
theorem sc__check_state : FnScope ["house", "value"] ["house", "value"] (defScope (top 20)) := ⟨rfl, rfl, rfl, by decide +kernel, rfl, by decide +kernel, by decide +kernel⟩
theorem ok__check_state (E : EnvF K mg) : Cal CX0 P w K mg base 3 "_check_state" (spP (TyA.c (tHouse (He.ga K "House")) (TyA.one (tT tInt))) (fun a => m__check_state a.1 a.2) tUnit) := by
  refine cal_mk (k := 2) E.d__check_state sc__check_state (fun vs H Q E h => by obtain ⟨S, F, a, r, ⟨_, _, rfl, _, ⟨_, rfl, _⟩⟩, _⟩ := h; rfl) (fun _ _ _ _ _ _ us hl => match us, hl with | [_, _], _ => rfl) ?_
  rintro f cdv A outer s H vs Q EX hr ⟨S, F, ⟨house304, value305⟩, out, ⟨v0, _, rfl, h0, ⟨v1, rfl, h1⟩⟩, W, hm, k⟩
  refine ⟨_, PSs.nox (pss_cons (ps_if (pt_not (pt_val (pe_cal (ok_is_state E) (by exact hr) (by first | decide | omega) (by rfl) pass0 (pa_cons (pv 0) (pa_cons (pv 1) pa_nil))))) (pss_cons ps_never pss_nil) pss_nil) pss_nil), ?_⟩
  have hG : Okc [fS S, (tHouse (He.ga K "House")).f house304 v0, (tT tInt).f value305 v1] S := ⟨Same.refl _, h0, h1, True.intro⟩
  have W : Wd S (([] : Ow) ++ F) H := W
  show (_ : TS) _ ([some v0, some v1] : L2.St) H
  refine k_if hG W hm (simT_not (simT_B (sim_call (simA_c (sim_var 1 rfl rfl) (simA_one (sim_var 2 rfl rfl)))))) ?_ ?_
  · clear hG W hm
    intro S H hG W hm
    cases hm
  · clear hG W hm
    intro S H hG W hm
    refine y_next ?_
    cases hm
    exact k _ _ _ (Okc.at 0 rfl hG) (W.pick [] rfl) rfl
theorem sc_mirror : FnScope ["house", "state", "hue"] ["house", "state"] (defScope (top 19)) := ⟨rfl, rfl, rfl, by decide +kernel, rfl, by decide +kernel, by decide +kernel⟩
theorem ok_mirror (E : EnvF K mg) : Cal CX0 P w K mg base 4 "mirror" (spP (TyA.c (tHouse (He.ga K "House")) (TyA.one (tT tInt))) (fun a => m_mirror a.1 a.2) (tT tInt)) := by
  refine cal_mk (k := 3) E.d_mirror sc_mirror (fun vs H Q E h => by obtain ⟨S, F, a, r, ⟨_, _, rfl, _, ⟨_, rfl, _⟩⟩, _⟩ := h; rfl) (fun _ _ _ _ _ _ us hl => match us, hl with | [_, _], _ => rfl) ?_
  rintro f cdv A outer s H vs Q EX hr ⟨S, F, ⟨house311, state312⟩, out, ⟨v0, _, rfl, h0, ⟨v1, rfl, h1⟩⟩, W, hm, k⟩
  refine ⟨_, PSs.nox (pss_cons (ps_expr (pe_cal (ok__check_state E) (by exact hr) (by first | decide | omega) (by rfl) pass0 (pa_cons (pv 0) (pa_cons (pv 1) pa_nil)))) (pss_cons (ps_ret (pe_callTy (call_tupleK (K := K)) rfl (by exact E.g_tuple) (by decide +kernel) (pa_cons (pe_lc (own := [("hue", 2)]) rfl sc_mirror.nd (pi_tupK (K := K) (pv 1)) (blkOk_by (N := ["house", "state", "hue"]) (sc := defScope (top 19)) (by decide +kernel)) (fun _ _ _ _ _ => (pg_name (i := 2) sc_mirror.nd rfl (Or.inl rfl))) (fun _ _ _ _ _ => pts_nil) (fun _ _ _ _ _ => (pe_op op_sub (pe_op op_sub (pe_fldK (K := K) (pv 0)) pe_int) (pv 2)))) pa_nil))) pss_nil)), ?_⟩
  have hG : Okc [fS S, (tHouse (He.ga K "House")).f house311 v0, (tT tInt).f state312 v1] S := ⟨Same.refl _, h0, h1, True.intro⟩
  have W : Wd S (([] : Ow) ++ F) H := W
  show (_ : TS) _ ([some v0, some v1, none] : L2.St) H
  refine k_drop hG W hm (sim_call (simA_c (sim_var 1 rfl rfl) (simA_one (sim_var 2 rfl rfl)))) ?_
  clear hG W hm
  intro z316 S H hG W hm
  exact k_ret hG W hm (sim_tuple (SimF.sim (simF_lc (simI_tup (sim_var 2 rfl rfl)) tg_name (fun _ => rfl) (List.nil_sublist _) (fun a w => simT_yes) (fun a w => (sim_sub (sim_sub (sim_fld (house_fld E.cl_House (E.na_House_hues) (fun _ _ _ h => h.hues)) (sim_var 2 rfl rfl)) sim_int) (sim_var 0 rfl rfl)))))) (fun v S H hG W hr => k v S H (Okc.at 0 rfl hG) (W.pick [] rfl) hr)
theorem sc_need_state : FnScope ["house", "value"] ["house", "value"] (defScope (top 22)) := ⟨rfl, rfl, rfl, by decide +kernel, rfl, by decide +kernel, by decide +kernel⟩
theorem ok_need_state (E : EnvF K mg) : Cal CX0 P w K mg base 3 "need_state" (spP (TyA.c (tHouse (He.ga K "House")) (TyA.one (tT tInt))) (fun a => m_need_state a.1 a.2) tUnit) := by
  refine cal_mk (k := 2) E.d_need_state sc_need_state (fun vs H Q E h => by obtain ⟨S, F, a, r, ⟨_, _, rfl, _, ⟨_, rfl, _⟩⟩, _⟩ := h; rfl) (fun _ _ _ _ _ _ us hl => match us, hl with | [_, _], _ => rfl) ?_
  rintro f cdv A outer s H vs Q EX hr ⟨S, F, ⟨house324, value325⟩, out, ⟨v0, _, rfl, h0, ⟨v1, rfl, h1⟩⟩, W, hm, k⟩
  refine ⟨_, PSs.nox (pss_cons (ps_if (pt_not (pt_val (pe_cal (ok_is_state E) (by exact hr) (by first | decide | omega) (by rfl) pass0 (pa_cons (pv 0) (pa_cons (pv 1) pa_nil))))) (pss_cons ps_never pss_nil) pss_nil) pss_nil), ?_⟩
  have hG : Okc [fS S, (tHouse (He.ga K "House")).f house324 v0, (tT tInt).f value325 v1] S := ⟨Same.refl _, h0, h1, True.intro⟩
  have W : Wd S (([] : Ow) ++ F) H := W
  show (_ : TS) _ ([some v0, some v1] : L2.St) H
  refine k_if hG W hm (simT_not (simT_B (sim_call (simA_c (sim_var 1 rfl rfl) (simA_one (sim_var 2 rfl rfl)))))) ?_ ?_
  · clear hG W hm
    intro S H hG W hm
    cases hm
  · clear hG W hm
    intro S H hG W hm
    refine y_next ?_
    cases hm
    exact k _ _ _ (Okc.at 0 rfl hG) (W.pick [] rfl) rfl
theorem sc__power : FnScope ["base", "exponent", "result", "_"] ["base", "exponent"] (defScope (top 24)) := ⟨rfl, rfl, rfl, by decide +kernel, rfl, by decide +kernel, by decide +kernel⟩
theorem ok__power (E : EnvF K mg) : Cal CX0 P w K mg base 1 "_power" (spP (TyA.c tInt (TyA.one tInt)) (fun a => m__power a.1 a.2) tInt) := by
  refine cal_mk (k := 0) E.d__power sc__power (fun vs H Q E h => by obtain ⟨S, F, a, r, ⟨_, _, rfl, _, ⟨_, rfl, _⟩⟩, _⟩ := h; rfl) (fun _ _ _ _ _ _ us hl => match us, hl with | [_, _], _ => rfl) ?_
  rintro f cdv A outer s H vs Q EX hr ⟨S, F, ⟨base331, exponent332⟩, out, ⟨v0, _, rfl, h0, ⟨v1, rfl, h1⟩⟩, W, hm, k⟩
  refine ⟨_, PSs.nox (pss_cons (ps_set (i := 2) sc__power.nd rfl (Or.inl rfl) pe_int) (pss_cons (ps_for PassesOwn.never rfl (pi_range1 rfl (by exact E.g_range) (pa_cons (pv 1) pa_nil)) (pg_name (i := 3) sc__power.nd rfl (Or.inl rfl)) (pss_cons (ps_set (i := 2) sc__power.nd rfl (Or.inl rfl) (pe_op op_mulW (pv 2) (pv 0))) pss_nil)) (pss_cons (ps_ret (pv 2)) pss_nil))), ?_⟩
  have hG : Okc [fS S, tInt.f base331 v0, tInt.f exponent332 v1] S := ⟨Same.refl _, h0, h1, True.intro⟩
  have W : Wd S (([] : Ow) ++ F) H := W
  show (_ : TS) _ ([some v0, some v1, none, none] : L2.St) H
  refine k_set hG W hm sim_int ?_
  clear hG W hm
  intro result333 v334 S H hG W hm
  refine k_fold (σJ := (fun (bx336 : Int) (wx336 : V × Option V) => ([some v0, some v1, some (wx336.1), wx336.2] : L2.St))) (OJ := (fun (bx336 : Int) (wx336 : V × Option V) => ([] : Ow))) (Fb := (fun (bx336 : Int) (wx336 : V × Option V) => ([tInt.f bx336 (wx336.1)] : List Fact))) (σT := (fun b w (tx336 : V) => ((fun (bx336 : Int) (wx336 : V × Option V) => ([some v0, some v1, some (wx336.1), wx336.2] : L2.St)) b w).set 3 (some tx336))) ((v334, (none)) : V × Option V) hG W hm (simI_range1 (sim_var 3 rfl rfl)) (fun b w => tg_name) (fun b w => List.nil_sublist _) rfl rfl (fun S h => (Okc.cons (Okc.at 0 rfl h) h)) ?_ ?_
  · clear hG W hm
    intro S1 y337 bx336 b' wx336 tx336 S H hm hG W N hN
    refine k_set hG W hm (sim_mul (sim_var 1 rfl rfl) (sim_var 5 rfl rfl)) ?_
    clear hG W hm
    intro result341 v342 S H hG W hm
    cases hm
    refine y_next ?_
    exact hN (v342, (some (tx336))) _ _ (Okc.cons (Okc.at 0 rfl hG) (Okc.dr 3 hG)) (W.pick [] rfl)
  · clear hG W hm
    intro bx336 wx336 S H hm hG W
    exact k_ret hG W hm (sim_var 0 rfl rfl) (fun v S H hG W hr => k v S H (Okc.at 2 rfl hG) (W.pick [] rfl) hr)
theorem sc__all_lamps : FnScope ["house"] ["house"] (defScope (top 25)) := ⟨rfl, rfl, rfl, by decide +kernel, rfl, by decide +kernel, by decide +kernel⟩
theorem ok__all_lamps (E : EnvF K mg) : Cal CX0 P w K mg base 1 "_all_lamps" (spP (TyA.one (tHouse (He.ga K "House"))) (fun a => m__all_lamps a) tInt) := by
  refine cal_mk (k := 0) E.d__all_lamps sc__all_lamps (fun vs H Q E h => by obtain ⟨S, F, a, r, ⟨_, rfl, _⟩, _⟩ := h; rfl) (fun _ _ _ _ _ _ us hl => match us, hl with | [_], _ => rfl) ?_
  rintro f cdv A outer s H vs Q EX hr ⟨S, F, house343, out, ⟨v0, rfl, h0⟩, W, hm, k⟩
  refine ⟨_, PSs.nox (pss_cons (ps_ret (pe_op op_sub (pe_op op_shl pe_int (pe_fldK (K := K) (pv 0))) pe_int)) pss_nil), ?_⟩
  have hG : Okc [fS S, (tHouse (He.ga K "House")).f house343 v0] S := ⟨Same.refl _, h0, True.intro⟩
  have W : Wd S (([] : Ow) ++ F) H := W
  show (_ : TS) _ ([some v0] : L2.St) H
  exact k_ret hG W hm (sim_sub (sim_shl sim_int (sim_fld (house_fld E.cl_House (E.na_House_count) (fun _ _ _ h => h.count)) (sim_var 1 rfl rfl))) sim_int) (fun v S H hG W hr => k v S H (Okc.at 0 rfl hG) (W.pick [] rfl) hr)
theorem sc__ways : FnScope ["house", "stay", "drops", "free", "mask", "known", "waiting", "first", "rest", "hanging", "number", "each", "lamp"] ["house", "stay", "drops", "free", "mask", "known"] (defScope (top 26)) := ⟨rfl, rfl, rfl, by decide +kernel, rfl, by decide +kernel, by decide +kernel⟩
theorem ok_waysT_ (E : EnvF K mg) : ∀ fu : Nat, Cal CX0 P w K mg base (fu + 2) "_ways" (spO 5 (oDI tInt) (TyA.c (tHouse (He.ga K "House")) (TyA.c tInt (TyA.c (tT tInt) (TyA.c tInt (TyA.one tInt))))) (fun g a => m_waysT fu a.1 a.2.1 a.2.2.1 a.2.2.2.1 a.2.2.2.2 g) tInt)
  | 0 => by
    refine cal_mk (k := 1) E.d__ways sc__ways (fun vs H Q E h => by obtain ⟨S, F, p, c, g, a, r, hn, hA, _⟩ := h; obtain ⟨_, _, _, _, _, rfl, _⟩ := (spO_vs6_5 hn hA); rfl) (fun _ _ _ _ _ _ us hl => match us, hl with | [_, _, _, _, _, _], _ => rfl) ?_
    rintro f cdv A outer s H vs Q EX hr ⟨S, F, p0, c0, g, a, out, hn, hA, hp0, W, hm, k⟩
    exact (nomatch hm)
  | fu + 1 => by
    have IH := ok_waysT_ E fu
    refine cal_mk (k := fu + 2) E.d__ways sc__ways (fun vs H Q E h => by obtain ⟨S, F, p, c, g, a, r, hn, hA, _⟩ := h; obtain ⟨_, _, _, _, _, rfl, _⟩ := (spO_vs6_5 hn hA); rfl) (fun _ _ _ _ _ _ us hl => match us, hl with | [_, _, _, _, _, _], _ => rfl) ?_
    rintro f cdv A outer s H vs Q EX hr ⟨S, F, p0, c0, known354, ⟨house349, stay350, drops351, free352, mask353⟩, out, hn, hA, hp0, W, hm, k⟩
    obtain ⟨v0, v1, v2, v3, v4, rfl, h0, h1, h2, h3, h4⟩ := (spO_vs6_5 hn hA)
    refine ⟨_, PSs.nox (pss_cons (ps_if (pt_cmp (pc_din (by exact hu_of hr) (pv 4) (pv 5))) (pss_cons (ps_ret (pe_dget (by exact hu_of hr) (pv 5) (pv 4) (by intro _ _; rfl))) pss_nil) pss_nil) (pss_cons (ps_setLc (i := 6) (own := [("lamp", 12)]) rfl sc__ways.nd rfl rfl (sw_true rfl rfl rfl (by decide +kernel)) (pi_listK (K := K) (pe_mtd0 (ok_House_order E) (by exact hr) (by first | decide | omega) pass0 (pv 0))) (blkOk_by (N := ["house", "stay", "drops", "free", "mask", "known", "waiting", "first", "rest", "hanging", "number", "each", "lamp"]) (sc := defScope (top 26)) (by decide +kernel)) (fun _ _ _ _ _ => (pg_name (i := 12) sc__ways.nd rfl (Or.inl rfl))) (fun _ _ _ _ _ => (pts_one (pt_truthK (K := K) (pe_op op_and (pe_op op_shr (pv 4) (pv 12)) pe_int) (by intro _; rfl)))) (fun _ _ _ _ _ => (pv 12))) (pss_cons (ps_set (i := 7) sc__ways.nd rfl (Or.inl rfl) (pe_ix (ix_listK (K := K)) (pv 6) pe_int (by intro _ _; rfl))) (pss_cons (ps_set (i := 8) sc__ways.nd rfl (Or.inl rfl) (pe_op op_sub (pv 4) (pe_op op_shl pe_int (pv 7)))) (pss_cons (ps_set (i := 9) sc__ways.nd rfl (Or.inl rfl) (pe_op op_and (pe_ix (ix_listK (K := K)) (pe_cal (ok_below_masks E) (by exact hr) (by first | decide | omega) (by rfl) pass0 (pa_cons (pv 0) pa_nil)) (pv 7) (by intro _ _; rfl)) (pv 8))) (pss_cons (ps_set (i := 10) sc__ways.nd rfl (Or.inl rfl) (pe_op op_mulW (pv 1) (pe_cal IH (by exact hr) (by first | decide | omega) (by rfl) pass0 (pa_cons (pv 0) (pa_cons (pv 1) (pa_cons (pv 2) (pa_cons (pv 3) (pa_cons (pv 8) (pa_cons (pv 5) pa_nil))))))))) (pss_cons (ps_if (pt_cmpR op_gt (pe_ix (ix_tupK (K := K)) (pv 2) (pv 7) (by intro _ _; rfl)) pe_int (nomark _)) (pss_cons (ps_set (i := 11) sc__ways.nd rfl (Or.inl rfl) (pe_op op_mulW (pe_ix (ix_tupK (K := K)) (pv 2) (pv 7) (by intro _ _; rfl)) (pe_cal (ok__power E) (by exact hr) (by first | decide | omega) (by rfl) pass0 (pa_cons (pv 3) (pa_cons (pe_callB (call_lenK (K := K)) rfl (by exact E.g_len) boot_len (pa_cons (pe_cal (ok_bits E) (by exact hr) (by first | decide | omega) (by rfl) pass0 (pa_cons (pv 9) pa_nil)) pa_nil)) pa_nil))))) (pss_cons (ps_set (i := 10) sc__ways.nd rfl (Or.inl rfl) (pe_op op_add (pv 10) (pe_op op_mulW (pv 11) (pe_cal IH (by exact hr) (by first | decide | omega) (by rfl) pass0 (pa_cons (pv 0) (pa_cons (pv 1) (pa_cons (pv 2) (pa_cons (pv 3) (pa_cons (pe_op op_sub (pv 8) (pv 9)) (pa_cons (pv 5) pa_nil)))))))))) pss_nil)) pss_nil) (pss_cons (ps_dput (by exact hu_of hr) (pv 5) (pv 4) (pv 10) rfl) (pss_cons (ps_ret (pv 10)) pss_nil))))))))), ?_⟩
    have hG : Okc [fS S, (tHouse (He.ga K "House")).f house349 v0, tInt.f stay350 v1, (tT tInt).f drops351 v2, tInt.f free352 v3, tInt.f mask353 v4, (oDI tInt).f known354 p0 c0] S := ⟨Same.refl _, h0, h1, h2, h3, h4, hp0, True.intro⟩
    have W : Wd S ([c0] ++ F) H := W
    show (_ : TS) _ ([some v0, some v1, some v2, some v3, some v4, some (.ref p0), none, none, none, none, none, none, none] : L2.St) H
    refine k_if hG W hm (simT_B (sim_dinI (sim_var 5 rfl rfl) (sim_own 0 6 rfl rfl rfl))) ?_ ?_
    · clear hG W hm
      intro S H hG W hm
      refine e_ret ?_
      refine c_pure hG W hm (sim_dgetI (sim_own 0 6 rfl rfl rfl) (sim_var 5 rfl rfl)) ?_
      clear hG W hm
      intro r360 v S H hG W hm
      cases hm
      exact k _ _ _ _ (Okc.at 1 rfl hG) (W.pick [0] rfl) (Okc.at 7 rfl hG) (Okc.at 0 rfl hG)
    · clear hG W hm
      intro S H hG W hm
      refine y_next ?_
      refine k_set hG W hm (SimF.sim (simF_lc (simI_list (sim_meth0 (house_no "order" (by decide +kernel)) (sim_var 1 rfl rfl))) tg_name (fun _ => rfl) (List.nil_sublist _) (fun a w => (simT_truI (sim_and (sim_shr (sim_var 6 rfl rfl) (sim_var 0 rfl rfl)) sim_int))) (fun a w => (sim_var 0 rfl rfl)))) ?_
      clear hG W hm
      intro waiting369 v370 S H hG W hm
      refine k_set hG W hm (sim_ix (sim_var 0 rfl rfl) sim_int) ?_
      clear hG W hm
      intro first373 v374 S H hG W hm
      refine k_set hG W hm (sim_sub (sim_var 7 rfl rfl) (sim_shl sim_int (sim_var 0 rfl rfl))) ?_
      clear hG W hm
      intro rest379 v380 S H hG W hm
      refine k_set hG W hm (sim_and (sim_ix (sim_call (simA_one (sim_var 4 rfl rfl))) (sim_var 1 rfl rfl)) (sim_var 0 rfl rfl)) ?_
      clear hG W hm
      intro hanging386 v387 S H hG W hm
      refine e_set ?_
      refine e_op ?_
      refine c_ref rfl ?_
      refine e_call ?_
      refine e_cons ?_
      refine c_ref rfl ?_
      refine e_cons ?_
      refine c_ref rfl ?_
      refine e_cons ?_
      refine c_ref rfl ?_
      refine e_cons ?_
      refine c_ref rfl ?_
      refine e_cons ?_
      refine c_ref rfl ?_
      refine e_cons ?_
      refine c_ref rfl ?_
      refine e_nil ?_
      refine v_callO (g := known354) (a := (house349, stay350, drops351, free352, rest379)) hG W hm 0 10 rfl rfl rfl (fun S h => (ra_c (Okc.at 5 rfl h) (ra_c (Okc.at 6 rfl h) (ra_c (Okc.at 7 rfl h) (ra_c (Okc.at 8 rfl h) (ra_one (Okc.at 1 rfl h))))))) ?_
      clear hG W hm
      intro r388 v389 c390 S H hG W hm
      refine x_op (σ := ([] : L2.St)) ?_
      refine c_pure hG W hm (sim_mul (sim_K 8 rfl) (sim_K 0 rfl)) ?_
      clear hG W hm
      intro x393 v394 S H hG W hm
      refine k_ifj (σJ := (fun (bx396 : (List (Int × Int)) × Int) (wx396 : List Cell × V × Option V) => ([some v0, some v1, some v2, some v3, some v4, some (.ref p0), some (v370), some (v374), some (v380), some (v387), some (wx396.2.1), wx396.2.2, none] : L2.St))) (OJ := (fun (bx396 : (List (Int × Int)) × Int) (wx396 : List Cell × V × Option V) => ([wx396.1] : Ow))) (Fb := (fun (bx396 : (List (Int × Int)) × Int) (wx396 : List Cell × V × Option V) => ([(oDI tInt).f bx396.1 p0 (wx396.1), tInt.f bx396.2 (wx396.2.1)] : List Fact))) hG W hm (simT_test (sim_gt (sim_ixT (sim_var 10 rfl rfl) (sim_var 5 rfl rfl)) sim_int)) ?_ ?_ ?_
      · clear hG W hm
        intro S H _ hm hG W N hN
        refine k_set hG W hm (sim_mul (sim_ixT (sim_var 10 rfl rfl) (sim_var 5 rfl rfl)) (sim_call (simA_c (sim_var 11 rfl rfl) (simA_one (sim_len (sim_call (simA_one (sim_var 3 rfl rfl)))))))) ?_
        clear hG W hm
        intro each410 v411 S H hG W hm
        refine e_set ?_
        refine e_op ?_
        refine c_ref rfl ?_
        refine e_op ?_
        refine c_ref rfl ?_
        refine e_call ?_
        refine e_cons ?_
        refine c_ref rfl ?_
        refine e_cons ?_
        refine c_ref rfl ?_
        refine e_cons ?_
        refine c_ref rfl ?_
        refine e_cons ?_
        refine c_ref rfl ?_
        refine e_cons ?_
        refine c_pure hG W hm (sim_sub (sim_var 5 rfl rfl) (sim_var 4 rfl rfl)) ?_
        clear hG W hm
        intro x414 v415 S H hG W hm
        refine e_cons ?_
        refine c_ref rfl ?_
        refine e_nil ?_
        refine v_callO (g := r388.2) (a := (house349, stay350, drops351, free352, x414)) hG W hm 0 4 rfl rfl rfl (fun S h => (ra_c (Okc.at 10 rfl h) (ra_c (Okc.at 11 rfl h) (ra_c (Okc.at 12 rfl h) (ra_c (Okc.at 13 rfl h) (ra_one (Okc.at 0 rfl h))))))) ?_
        clear hG W hm
        intro r416 v417 c418 S H hG W hm
        refine x_op (σ := ([] : L2.St)) ?_
        refine c_pure hG W hm (sim_mul (sim_K 3 rfl) (sim_K 0 rfl)) ?_
        clear hG W hm
        intro x421 v422 S H hG W hm
        refine x_op (σ := ([] : L2.St)) ?_
        refine c_pure hG W hm (sim_add (sim_K 5 rfl) (sim_K 0 rfl)) ?_
        clear hG W hm
        intro x425 v426 S H hG W hm
        refine y_next ?_
        cases hm
        exact hN (c418, v426, (some (v411))) _ _ (Okc.cons (Okc.at 3 rfl hG) (Okc.cons (Okc.at 0 rfl hG) (Okc.dr 6 hG))) (W.pick [0] rfl)
      · clear hG W hm
        intro S H _ hm hG W N hN
        refine y_next ?_
        cases hm
        exact hN (c390, v394, (none)) _ _ (Okc.cons (Okc.at 2 rfl hG) (Okc.cons (Okc.at 0 rfl hG) (Okc.dr 0 hG))) (W.pick [0] rfl)
      · clear hG W hm
        intro bx396 wx396 S H hG W hm
        refine k_dputI hG W hm 0 0 rfl rfl rfl (sim_var 1 rfl rfl) (sim_var 14 rfl rfl) ?_
        clear hG W hm
        intro known429 c430 S H hG W hm
        refine e_ret ?_
        refine c_pure hG W hm (sim_var 2 rfl rfl) ?_
        clear hG W hm
        intro r431 v S H hG W hm
        cases hm
        exact k _ _ _ _ (Okc.at 11 rfl hG) (W.pick [0] rfl) (Okc.at 1 rfl hG) (Okc.at 0 rfl hG)
theorem ok_waysT (E : EnvF K mg) : Cal CX0 P w K mg base 22 "_ways" (spO 5 (oDI tInt) (TyA.c (tHouse (He.ga K "House")) (TyA.c tInt (TyA.c (tT tInt) (TyA.c tInt (TyA.one tInt))))) (fun g a => m_waysT 20 a.1 a.2.1 a.2.2.1 a.2.2.2.1 a.2.2.2.2 g) tInt) := ok_waysT_ E 20
theorem ok_waysL_ (E : EnvF K mg) : ∀ fu : Nat, Cal CX0 P w K mg base (fu + 2) "_ways" (spO 5 (oDI tInt) (TyA.c (tHouse (He.ga K "House")) (TyA.c tInt (TyA.c (tL tInt) (TyA.c tInt (TyA.one tInt))))) (fun g a => m_waysL fu a.1 a.2.1 a.2.2.1 a.2.2.2.1 a.2.2.2.2 g) tInt)
  | 0 => by
    refine cal_mk (k := 1) E.d__ways sc__ways (fun vs H Q E h => by obtain ⟨S, F, p, c, g, a, r, hn, hA, _⟩ := h; obtain ⟨_, _, _, _, _, rfl, _⟩ := (spO_vs6_5 hn hA); rfl) (fun _ _ _ _ _ _ us hl => match us, hl with | [_, _, _, _, _, _], _ => rfl) ?_
    rintro f cdv A outer s H vs Q EX hr ⟨S, F, p0, c0, g, a, out, hn, hA, hp0, W, hm, k⟩
    exact (nomatch hm)
  | fu + 1 => by
    have IH := ok_waysL_ E fu
    refine cal_mk (k := fu + 2) E.d__ways sc__ways (fun vs H Q E h => by obtain ⟨S, F, p, c, g, a, r, hn, hA, _⟩ := h; obtain ⟨_, _, _, _, _, rfl, _⟩ := (spO_vs6_5 hn hA); rfl) (fun _ _ _ _ _ _ us hl => match us, hl with | [_, _, _, _, _, _], _ => rfl) ?_
    rintro f cdv A outer s H vs Q EX hr ⟨S, F, p0, c0, known437, ⟨house432, stay433, drops434, free435, mask436⟩, out, hn, hA, hp0, W, hm, k⟩
    obtain ⟨v0, v1, v2, v3, v4, rfl, h0, h1, h2, h3, h4⟩ := (spO_vs6_5 hn hA)
    refine ⟨_, PSs.nox (pss_cons (ps_if (pt_cmp (pc_din (by exact hu_of hr) (pv 4) (pv 5))) (pss_cons (ps_ret (pe_dget (by exact hu_of hr) (pv 5) (pv 4) (by intro _ _; rfl))) pss_nil) pss_nil) (pss_cons (ps_setLc (i := 6) (own := [("lamp", 12)]) rfl sc__ways.nd rfl rfl (sw_true rfl rfl rfl (by decide +kernel)) (pi_listK (K := K) (pe_mtd0 (ok_House_order E) (by exact hr) (by first | decide | omega) pass0 (pv 0))) (blkOk_by (N := ["house", "stay", "drops", "free", "mask", "known", "waiting", "first", "rest", "hanging", "number", "each", "lamp"]) (sc := defScope (top 26)) (by decide +kernel)) (fun _ _ _ _ _ => (pg_name (i := 12) sc__ways.nd rfl (Or.inl rfl))) (fun _ _ _ _ _ => (pts_one (pt_truthK (K := K) (pe_op op_and (pe_op op_shr (pv 4) (pv 12)) pe_int) (by intro _; rfl)))) (fun _ _ _ _ _ => (pv 12))) (pss_cons (ps_set (i := 7) sc__ways.nd rfl (Or.inl rfl) (pe_ix (ix_listK (K := K)) (pv 6) pe_int (by intro _ _; rfl))) (pss_cons (ps_set (i := 8) sc__ways.nd rfl (Or.inl rfl) (pe_op op_sub (pv 4) (pe_op op_shl pe_int (pv 7)))) (pss_cons (ps_set (i := 9) sc__ways.nd rfl (Or.inl rfl) (pe_op op_and (pe_ix (ix_listK (K := K)) (pe_cal (ok_below_masks E) (by exact hr) (by first | decide | omega) (by rfl) pass0 (pa_cons (pv 0) pa_nil)) (pv 7) (by intro _ _; rfl)) (pv 8))) (pss_cons (ps_set (i := 10) sc__ways.nd rfl (Or.inl rfl) (pe_op op_mulW (pv 1) (pe_cal IH (by exact hr) (by first | decide | omega) (by rfl) pass0 (pa_cons (pv 0) (pa_cons (pv 1) (pa_cons (pv 2) (pa_cons (pv 3) (pa_cons (pv 8) (pa_cons (pv 5) pa_nil))))))))) (pss_cons (ps_if (pt_cmpR op_gt (pe_ix (ix_listK (K := K)) (pv 2) (pv 7) (by intro _ _; rfl)) pe_int (nomark _)) (pss_cons (ps_set (i := 11) sc__ways.nd rfl (Or.inl rfl) (pe_op op_mulW (pe_ix (ix_listK (K := K)) (pv 2) (pv 7) (by intro _ _; rfl)) (pe_cal (ok__power E) (by exact hr) (by first | decide | omega) (by rfl) pass0 (pa_cons (pv 3) (pa_cons (pe_callB (call_lenK (K := K)) rfl (by exact E.g_len) boot_len (pa_cons (pe_cal (ok_bits E) (by exact hr) (by first | decide | omega) (by rfl) pass0 (pa_cons (pv 9) pa_nil)) pa_nil)) pa_nil))))) (pss_cons (ps_set (i := 10) sc__ways.nd rfl (Or.inl rfl) (pe_op op_add (pv 10) (pe_op op_mulW (pv 11) (pe_cal IH (by exact hr) (by first | decide | omega) (by rfl) pass0 (pa_cons (pv 0) (pa_cons (pv 1) (pa_cons (pv 2) (pa_cons (pv 3) (pa_cons (pe_op op_sub (pv 8) (pv 9)) (pa_cons (pv 5) pa_nil)))))))))) pss_nil)) pss_nil) (pss_cons (ps_dput (by exact hu_of hr) (pv 5) (pv 4) (pv 10) rfl) (pss_cons (ps_ret (pv 10)) pss_nil))))))))), ?_⟩
    have hG : Okc [fS S, (tHouse (He.ga K "House")).f house432 v0, tInt.f stay433 v1, (tL tInt).f drops434 v2, tInt.f free435 v3, tInt.f mask436 v4, (oDI tInt).f known437 p0 c0] S := ⟨Same.refl _, h0, h1, h2, h3, h4, hp0, True.intro⟩
    have W : Wd S ([c0] ++ F) H := W
    show (_ : TS) _ ([some v0, some v1, some v2, some v3, some v4, some (.ref p0), none, none, none, none, none, none, none] : L2.St) H
    refine k_if hG W hm (simT_B (sim_dinI (sim_var 5 rfl rfl) (sim_own 0 6 rfl rfl rfl))) ?_ ?_
    · clear hG W hm
      intro S H hG W hm
      refine e_ret ?_
      refine c_pure hG W hm (sim_dgetI (sim_own 0 6 rfl rfl rfl) (sim_var 5 rfl rfl)) ?_
      clear hG W hm
      intro r443 v S H hG W hm
      cases hm
      exact k _ _ _ _ (Okc.at 1 rfl hG) (W.pick [0] rfl) (Okc.at 7 rfl hG) (Okc.at 0 rfl hG)
    · clear hG W hm
      intro S H hG W hm
      refine y_next ?_
      refine k_set hG W hm (SimF.sim (simF_lc (simI_list (sim_meth0 (house_no "order" (by decide +kernel)) (sim_var 1 rfl rfl))) tg_name (fun _ => rfl) (List.nil_sublist _) (fun a w => (simT_truI (sim_and (sim_shr (sim_var 6 rfl rfl) (sim_var 0 rfl rfl)) sim_int))) (fun a w => (sim_var 0 rfl rfl)))) ?_
      clear hG W hm
      intro waiting452 v453 S H hG W hm
      refine k_set hG W hm (sim_ix (sim_var 0 rfl rfl) sim_int) ?_
      clear hG W hm
      intro first456 v457 S H hG W hm
      refine k_set hG W hm (sim_sub (sim_var 7 rfl rfl) (sim_shl sim_int (sim_var 0 rfl rfl))) ?_
      clear hG W hm
      intro rest462 v463 S H hG W hm
      refine k_set hG W hm (sim_and (sim_ix (sim_call (simA_one (sim_var 4 rfl rfl))) (sim_var 1 rfl rfl)) (sim_var 0 rfl rfl)) ?_
      clear hG W hm
      intro hanging469 v470 S H hG W hm
      refine e_set ?_
      refine e_op ?_
      refine c_ref rfl ?_
      refine e_call ?_
      refine e_cons ?_
      refine c_ref rfl ?_
      refine e_cons ?_
      refine c_ref rfl ?_
      refine e_cons ?_
      refine c_ref rfl ?_
      refine e_cons ?_
      refine c_ref rfl ?_
      refine e_cons ?_
      refine c_ref rfl ?_
      refine e_cons ?_
      refine c_ref rfl ?_
      refine e_nil ?_
      refine v_callO (g := known437) (a := (house432, stay433, drops434, free435, rest462)) hG W hm 0 10 rfl rfl rfl (fun S h => (ra_c (Okc.at 5 rfl h) (ra_c (Okc.at 6 rfl h) (ra_c (Okc.at 7 rfl h) (ra_c (Okc.at 8 rfl h) (ra_one (Okc.at 1 rfl h))))))) ?_
      clear hG W hm
      intro r471 v472 c473 S H hG W hm
      refine x_op (σ := ([] : L2.St)) ?_
      refine c_pure hG W hm (sim_mul (sim_K 8 rfl) (sim_K 0 rfl)) ?_
      clear hG W hm
      intro x476 v477 S H hG W hm
      refine k_ifj (σJ := (fun (bx479 : (List (Int × Int)) × Int) (wx479 : List Cell × V × Option V) => ([some v0, some v1, some v2, some v3, some v4, some (.ref p0), some (v453), some (v457), some (v463), some (v470), some (wx479.2.1), wx479.2.2, none] : L2.St))) (OJ := (fun (bx479 : (List (Int × Int)) × Int) (wx479 : List Cell × V × Option V) => ([wx479.1] : Ow))) (Fb := (fun (bx479 : (List (Int × Int)) × Int) (wx479 : List Cell × V × Option V) => ([(oDI tInt).f bx479.1 p0 (wx479.1), tInt.f bx479.2 (wx479.2.1)] : List Fact))) hG W hm (simT_test (sim_gt (sim_ix (sim_var 10 rfl rfl) (sim_var 5 rfl rfl)) sim_int)) ?_ ?_ ?_
      · clear hG W hm
        intro S H _ hm hG W N hN
        refine k_set hG W hm (sim_mul (sim_ix (sim_var 10 rfl rfl) (sim_var 5 rfl rfl)) (sim_call (simA_c (sim_var 11 rfl rfl) (simA_one (sim_len (sim_call (simA_one (sim_var 3 rfl rfl)))))))) ?_
        clear hG W hm
        intro each493 v494 S H hG W hm
        refine e_set ?_
        refine e_op ?_
        refine c_ref rfl ?_
        refine e_op ?_
        refine c_ref rfl ?_
        refine e_call ?_
        refine e_cons ?_
        refine c_ref rfl ?_
        refine e_cons ?_
        refine c_ref rfl ?_
        refine e_cons ?_
        refine c_ref rfl ?_
        refine e_cons ?_
        refine c_ref rfl ?_
        refine e_cons ?_
        refine c_pure hG W hm (sim_sub (sim_var 5 rfl rfl) (sim_var 4 rfl rfl)) ?_
        clear hG W hm
        intro x497 v498 S H hG W hm
        refine e_cons ?_
        refine c_ref rfl ?_
        refine e_nil ?_
        refine v_callO (g := r471.2) (a := (house432, stay433, drops434, free435, x497)) hG W hm 0 4 rfl rfl rfl (fun S h => (ra_c (Okc.at 10 rfl h) (ra_c (Okc.at 11 rfl h) (ra_c (Okc.at 12 rfl h) (ra_c (Okc.at 13 rfl h) (ra_one (Okc.at 0 rfl h))))))) ?_
        clear hG W hm
        intro r499 v500 c501 S H hG W hm
        refine x_op (σ := ([] : L2.St)) ?_
        refine c_pure hG W hm (sim_mul (sim_K 3 rfl) (sim_K 0 rfl)) ?_
        clear hG W hm
        intro x504 v505 S H hG W hm
        refine x_op (σ := ([] : L2.St)) ?_
        refine c_pure hG W hm (sim_add (sim_K 5 rfl) (sim_K 0 rfl)) ?_
        clear hG W hm
        intro x508 v509 S H hG W hm
        refine y_next ?_
        cases hm
        exact hN (c501, v509, (some (v494))) _ _ (Okc.cons (Okc.at 3 rfl hG) (Okc.cons (Okc.at 0 rfl hG) (Okc.dr 6 hG))) (W.pick [0] rfl)
      · clear hG W hm
        intro S H _ hm hG W N hN
        refine y_next ?_
        cases hm
        exact hN (c473, v477, (none)) _ _ (Okc.cons (Okc.at 2 rfl hG) (Okc.cons (Okc.at 0 rfl hG) (Okc.dr 0 hG))) (W.pick [0] rfl)
      · clear hG W hm
        intro bx479 wx479 S H hG W hm
        refine k_dputI hG W hm 0 0 rfl rfl rfl (sim_var 1 rfl rfl) (sim_var 14 rfl rfl) ?_
        clear hG W hm
        intro known512 c513 S H hG W hm
        refine e_ret ?_
        refine c_pure hG W hm (sim_var 2 rfl rfl) ?_
        clear hG W hm
        intro r514 v S H hG W hm
        cases hm
        exact k _ _ _ _ (Okc.at 11 rfl hG) (W.pick [0] rfl) (Okc.at 1 rfl hG) (Okc.at 0 rfl hG)
theorem ok_waysL (E : EnvF K mg) : Cal CX0 P w K mg base 22 "_ways" (spO 5 (oDI tInt) (TyA.c (tHouse (He.ga K "House")) (TyA.c tInt (TyA.c (tL tInt) (TyA.c tInt (TyA.one tInt))))) (fun g a => m_waysL 20 a.1 a.2.1 a.2.2.1 a.2.2.2.1 a.2.2.2.2 g) tInt) := ok_waysL_ E 20
theorem sc_free_count : FnScope ["house", "state", "mask"] ["house", "state", "mask"] (defScope (top 27)) := ⟨rfl, rfl, rfl, by decide +kernel, rfl, by decide +kernel, by decide +kernel⟩
theorem ok_free_count (E : EnvF K mg) : Cal CX0 P w K mg base 23 "free_count" (spP (TyA.c (tHouse (He.ga K "House")) (TyA.c (tT tInt) (TyA.one tInt))) (fun a => m_free_count a.1 a.2.1 a.2.2) tInt) := by
  refine cal_mk (k := 22) E.d_free_count sc_free_count (fun vs H Q E h => by obtain ⟨S, F, a, r, ⟨_, _, rfl, _, ⟨_, _, rfl, _, ⟨_, rfl, _⟩⟩⟩, _⟩ := h; rfl) (fun _ _ _ _ _ _ us hl => match us, hl with | [_, _, _], _ => rfl) ?_
  rintro f cdv A outer s H vs Q EX hr ⟨S, F, ⟨house515, state516, mask517⟩, out, ⟨v0, _, rfl, h0, ⟨v1, _, rfl, h1, ⟨v2, rfl, h2⟩⟩⟩, W, hm, k⟩
  refine ⟨_, PSs.nox (pss_cons (ps_ret (pe_cal (ok_waysT E) (by exact hr) (by first | decide | omega) (by rfl) pass0 (pa_cons (pv 0) (pa_cons pe_int (pa_cons (pv 1) (pa_cons (pe_fldK (K := K) (pv 0)) (pa_cons (pv 2) (pa_cons (pe_disp (pps_cons pe_int pe_int pps_nil) rfl rfl (fun h => nomatch h) (by decide)) pa_nil)))))))) pss_nil), ?_⟩
  have hG : Okc [fS S, (tHouse (He.ga K "House")).f house515 v0, (tT tInt).f state516 v1, tInt.f mask517 v2] S := ⟨Same.refl _, h0, h1, h2, True.intro⟩
  have W : Wd S (([] : Ow) ++ F) H := W
  show (_ : TS) _ ([some v0, some v1, some v2] : L2.St) H
  refine e_ret ?_
  refine e_call ?_
  refine e_cons ?_
  refine c_ref rfl ?_
  refine e_cons ?_
  refine c_pure hG W hm sim_int ?_
  clear hG W hm
  intro x518 v519 S H hG W hm
  refine e_cons ?_
  refine c_ref rfl ?_
  refine e_cons ?_
  refine c_pure hG W hm (sim_fld (house_fld E.cl_House (E.na_House_hues) (fun _ _ _ h => h.hues)) (sim_var 2 rfl rfl)) ?_
  clear hG W hm
  intro x521 v522 S H hG W hm
  refine e_cons ?_
  refine c_ref rfl ?_
  refine e_cons ?_
  refine c_fresh hG W hm (simF_dispI1 sim_int) ?_
  clear hG W hm
  intro o524 p525 c526 S H hG W hm
  refine e_nil ?_
  refine v_callO (g := o524) (a := (house515, x518, state516, x521, mask517)) hG W hm 0 0 rfl rfl rfl (fun S h => (ra_c (Okc.at 4 rfl h) (ra_c (Okc.at 2 rfl h) (ra_c (Okc.at 5 rfl h) (ra_c (Okc.at 1 rfl h) (ra_one (Okc.at 6 rfl h))))))) ?_
  clear hG W hm
  intro r527 v528 c529 S H hG W hm
  cases hm
  exact k _ _ _ (Okc.at 5 rfl hG) (W.pick [] rfl) (Okc.at 0 rfl hG)
theorem sc_lower_count : FnScope ["house", "state"] ["house", "state"] (defScope (top 28)) := ⟨rfl, rfl, rfl, by decide +kernel, rfl, by decide +kernel, by decide +kernel⟩
theorem ok_lower_count (E : EnvF K mg) : Cal CX0 P w K mg base 24 "lower_count" (spP (TyA.c (tHouse (He.ga K "House")) (TyA.one (tT tInt))) (fun a => m_lower_count a.1 a.2) tInt) := by
  refine cal_mk (k := 23) E.d_lower_count sc_lower_count (fun vs H Q E h => by obtain ⟨S, F, a, r, ⟨_, _, rfl, _, ⟨_, rfl, _⟩⟩, _⟩ := h; rfl) (fun _ _ _ _ _ _ us hl => match us, hl with | [_, _], _ => rfl) ?_
  rintro f cdv A outer s H vs Q EX hr ⟨S, F, ⟨house530, state531⟩, out, ⟨v0, _, rfl, h0, ⟨v1, rfl, h1⟩⟩, W, hm, k⟩
  refine ⟨_, PSs.nox (pss_cons (ps_expr (pe_cal (ok_need_state E) (by exact hr) (by first | decide | omega) (by rfl) pass0 (pa_cons (pv 0) (pa_cons (pv 1) pa_nil)))) (pss_cons (ps_ret (pe_cal (ok_free_count E) (by exact hr) (by first | decide | omega) (by rfl) pass0 (pa_cons (pv 0) (pa_cons (pv 1) (pa_cons (pe_cal (ok__all_lamps E) (by exact hr) (by first | decide | omega) (by rfl) pass0 (pa_cons (pv 0) pa_nil)) pa_nil))))) pss_nil)), ?_⟩
  have hG : Okc [fS S, (tHouse (He.ga K "House")).f house530 v0, (tT tInt).f state531 v1] S := ⟨Same.refl _, h0, h1, True.intro⟩
  have W : Wd S (([] : Ow) ++ F) H := W
  show (_ : TS) _ ([some v0, some v1] : L2.St) H
  refine k_drop hG W hm (sim_call (simA_c (sim_var 1 rfl rfl) (simA_one (sim_var 2 rfl rfl)))) ?_
  clear hG W hm
  intro z535 S H hG W hm
  exact k_ret hG W hm (sim_call (simA_c (sim_var 1 rfl rfl) (simA_c (sim_var 2 rfl rfl) (simA_one (sim_call (simA_one (sim_var 1 rfl rfl))))))) (fun v S H hG W hr => k v S H (Okc.at 0 rfl hG) (W.pick [] rfl) hr)
theorem sc_upper_count : FnScope ["house", "state"] ["house", "state"] (defScope (top 29)) := ⟨rfl, rfl, rfl, by decide +kernel, rfl, by decide +kernel, by decide +kernel⟩
theorem ok_upper_count (E : EnvF K mg) : Cal CX0 P w K mg base 24 "upper_count" (spP (TyA.c (tHouse (He.ga K "House")) (TyA.one (tT tInt))) (fun a => m_upper_count a.1 a.2) tInt) := by
  refine cal_mk (k := 23) E.d_upper_count sc_upper_count (fun vs H Q E h => by obtain ⟨S, F, a, r, ⟨_, _, rfl, _, ⟨_, rfl, _⟩⟩, _⟩ := h; rfl) (fun _ _ _ _ _ _ us hl => match us, hl with | [_, _], _ => rfl) ?_
  rintro f cdv A outer s H vs Q EX hr ⟨S, F, ⟨house542, state543⟩, out, ⟨v0, _, rfl, h0, ⟨v1, rfl, h1⟩⟩, W, hm, k⟩
  refine ⟨_, PSs.nox (pss_cons (ps_expr (pe_cal (ok_need_state E) (by exact hr) (by first | decide | omega) (by rfl) pass0 (pa_cons (pv 0) (pa_cons (pv 1) pa_nil)))) (pss_cons (ps_ret (pe_cal (ok_free_count E) (by exact hr) (by first | decide | omega) (by rfl) pass0 (pa_cons (pv 0) (pa_cons (pe_cal (ok_mirror E) (by exact hr) (by first | decide | omega) (by rfl) pass0 (pa_cons (pv 0) (pa_cons (pv 1) pa_nil))) (pa_cons (pe_cal (ok__all_lamps E) (by exact hr) (by first | decide | omega) (by rfl) pass0 (pa_cons (pv 0) pa_nil)) pa_nil))))) pss_nil)), ?_⟩
  have hG : Okc [fS S, (tHouse (He.ga K "House")).f house542 v0, (tT tInt).f state543 v1] S := ⟨Same.refl _, h0, h1, True.intro⟩
  have W : Wd S (([] : Ow) ++ F) H := W
  show (_ : TS) _ ([some v0, some v1] : L2.St) H
  refine k_drop hG W hm (sim_call (simA_c (sim_var 1 rfl rfl) (simA_one (sim_var 2 rfl rfl)))) ?_
  clear hG W hm
  intro z547 S H hG W hm
  exact k_ret hG W hm (sim_call (simA_c (sim_var 1 rfl rfl) (simA_c (sim_call (simA_c (sim_var 1 rfl rfl) (simA_one (sim_var 2 rfl rfl)))) (simA_one (sim_call (simA_one (sim_var 1 rfl rfl))))))) (fun v S H hG W hr => k v S H (Okc.at 0 rfl hG) (W.pick [] rfl) hr)
theorem sc_pair_count : FnScope ["house", "hues", "drops"] ["house"] (defScope (top 30)) := ⟨rfl, rfl, rfl, by decide +kernel, rfl, by decide +kernel, by decide +kernel⟩
theorem ok_pair_count (E : EnvF K mg) : Cal CX0 P w K mg base 23 "pair_count" (spP (TyA.one (tHouse (He.ga K "House"))) (fun a => m_pair_count a) tInt) := by
  refine cal_mk (k := 22) E.d_pair_count sc_pair_count (fun vs H Q E h => by obtain ⟨S, F, a, r, ⟨_, rfl, _⟩, _⟩ := h; rfl) (fun _ _ _ _ _ _ us hl => match us, hl with | [_], _ => rfl) ?_
  rintro f cdv A outer s H vs Q EX hr ⟨S, F, house557, out, ⟨v0, rfl, h0⟩, W, hm, k⟩
  refine ⟨_, PSs.nox (pss_cons (ps_set (i := 1) sc_pair_count.nd rfl (Or.inl rfl) (pe_fldK (K := K) (pv 0))) (pss_cons (ps_set (i := 2) sc_pair_count.nd rfl (Or.inl rfl) (pe_op op_rep (pe_lst (pa_cons (pe_op op_fdiv (pe_op op_mulW (pv 1) (pe_op op_sub (pv 1) pe_int)) pe_int) pa_nil)) (pe_fldK (K := K) (pv 0)))) (pss_cons (ps_ret (pe_cal (ok_waysL E) (by exact hr) (by first | decide | omega) (by rfl) pass0 (pa_cons (pv 0) (pa_cons (pv 1) (pa_cons (pv 2) (pa_cons (pe_op op_mulW (pv 1) (pv 1)) (pa_cons (pe_cal (ok__all_lamps E) (by exact hr) (by first | decide | omega) (by rfl) pass0 (pa_cons (pv 0) pa_nil)) (pa_cons (pe_disp (pps_cons pe_int pe_int pps_nil) rfl rfl (fun h => nomatch h) (by decide)) pa_nil)))))))) pss_nil))), ?_⟩
  have hG : Okc [fS S, (tHouse (He.ga K "House")).f house557 v0] S := ⟨Same.refl _, h0, True.intro⟩
  have W : Wd S (([] : Ow) ++ F) H := W
  show (_ : TS) _ ([some v0, none, none] : L2.St) H
  refine k_set hG W hm (sim_fld (house_fld E.cl_House (E.na_House_hues) (fun _ _ _ h => h.hues)) (sim_var 1 rfl rfl)) ?_
  clear hG W hm
  intro hues559 v560 S H hG W hm
  refine k_set hG W hm (SimF.sim (simF_rep (SimF.sim (simF_lst (simA_ln (sim_div (sim_mul (sim_var 0 rfl rfl) (sim_sub (sim_var 0 rfl rfl) sim_int)) sim_int) simA_ln0))) (sim_fld (house_fld E.cl_House (E.na_House_count) (fun _ _ _ h => h.count)) (sim_var 2 rfl rfl)))) ?_
  clear hG W hm
  intro drops572 v573 S H hG W hm
  refine e_ret ?_
  refine e_call ?_
  refine e_cons ?_
  refine c_ref rfl ?_
  refine e_cons ?_
  refine c_ref rfl ?_
  refine e_cons ?_
  refine c_ref rfl ?_
  refine e_cons ?_
  refine c_pure hG W hm (sim_mul (sim_var 1 rfl rfl) (sim_var 1 rfl rfl)) ?_
  clear hG W hm
  intro x576 v577 S H hG W hm
  refine e_cons ?_
  refine c_pure hG W hm (sim_call (simA_one (sim_var 4 rfl rfl))) ?_
  clear hG W hm
  intro x579 v580 S H hG W hm
  refine e_cons ?_
  refine c_fresh hG W hm (simF_dispI1 sim_int) ?_
  clear hG W hm
  intro o582 p583 c584 S H hG W hm
  refine e_nil ?_
  refine v_callO (g := o582) (a := (house557, hues559, drops572, x576, x579)) hG W hm 0 0 rfl rfl rfl (fun S h => (ra_c (Okc.at 6 rfl h) (ra_c (Okc.at 4 rfl h) (ra_c (Okc.at 3 rfl h) (ra_c (Okc.at 2 rfl h) (ra_one (Okc.at 1 rfl h))))))) ?_
  clear hG W hm
  intro r585 v586 c587 S H hG W hm
  cases hm
  exact k _ _ _ (Okc.at 7 rfl hG) (W.pick [] rfl) (Okc.at 0 rfl hG)
theorem sc__law_bag : FnScope ["_law_script", "_law_cell"] ["_law_script"] (defScope (top 32)) := ⟨rfl, rfl, rfl, by decide +kernel, rfl, by decide +kernel, by decide +kernel⟩
theorem ok__law_bag (E : EnvF K mg) : Cal CX0 P w K mg base 1 "_law_bag" (spF (TyA.one (tScr K)) (fun a => m__law_bag a) (oRec k_bag A_bag)) := by
  refine cal_mk (k := 0) E.d__law_bag sc__law_bag (fun vs H Q E h => by obtain ⟨S, F, a, r, ⟨_, rfl, _⟩, _⟩ := h; rfl) (fun _ _ _ _ _ _ us hl => match us, hl with | [_], _ => rfl) ?_
  rintro f cdv A outer s H vs Q EX hr ⟨S, F, script588, out, ⟨v0, rfl, h0⟩, W, hm, k⟩
  refine ⟨_, PSs.nox (pss_cons (ps_ret (pe_disp (pps_cons pe_str (pe_lc (own := [("_law_cell", 1)]) rfl sc__law_bag.nd (pi_listK (K := K) (pe_slice (sl_listK (K := K)) (pv 0) po_none (po_some pe_int))) (blkOk_by (N := ["_law_script", "_law_cell"]) (sc := defScope (top 32)) (by decide +kernel)) (fun _ _ _ _ _ => (pg_name (i := 1) sc__law_bag.nd rfl (Or.inl rfl))) (fun _ _ _ _ _ => pts_nil) (fun _ _ _ _ _ => (pe_callB call_abs rfl (by exact E.g_abs) (by decide +kernel) (pa_cons (pv 1) pa_nil)))) (pps_cons pe_str pe_int (pps_cons pe_str pe_int (pps_cons pe_str pe_int (pps_cons pe_str pe_int pps_nil))))) rfl rfl (fun h => nomatch h) (by decide))) pss_nil), ?_⟩
  have hG : Okc [fS S, (tScr K).f script588 v0] S := ⟨Same.refl _, h0, True.intro⟩
  have W : Wd S (([] : Ow) ++ F) H := W
  show (_ : TS) _ ([some v0, none] : L2.St) H
  exact k_retF hG W hm (simF_disp (by decide +kernel) (by decide) (simPs_c (SimF.sim (simF_lc (simI_list (SimF.sim (simF_sliceS (sim_var 1 rfl rfl) simO_no (simO_part sim_int)))) tg_name (fun _ => rfl) (List.nil_sublist _) (fun a w => simT_yes) (fun a w => (sim_abs (sim_var 0 rfl rfl))))) (simPs_c sim_int (simPs_c sim_int (simPs_c sim_int (simPs_one sim_int)))))) (fun p c S H hG W => k p c S H (Okc.at 1 rfl hG) (W.pick [0] rfl) (Okc.at 0 rfl hG))
theorem sc__law_draw : FnScope ["_law_bag_here", "_law_size", "_law_rest", "_law_turn", "_law_mix", "_law_place", "_law_cell"] ["_law_bag_here", "_law_size"] (defScope (top 33)) := ⟨rfl, rfl, rfl, by decide +kernel, rfl, by decide +kernel, by decide +kernel⟩
theorem ok__law_draw (E : EnvF K mg) : Cal CX0 P w K mg base 1 "_law_draw" (spO 0 (oRec k_bag A_bag) (TyA.one tInt) (fun g a => m__law_draw g a) tInt) := by
  refine cal_mk (k := 0) E.d__law_draw sc__law_draw (fun vs H Q E h => by obtain ⟨S, F, p, c, g, a, r, hn, hA, _⟩ := h; obtain ⟨_, rfl, _⟩ := (spO_vs2_0 hn hA); rfl) (fun _ _ _ _ _ _ us hl => match us, hl with | [_, _], _ => rfl) ?_
  rintro f cdv A outer s H vs Q EX hr ⟨S, F, p0, c0, bag_here604, size605, out, hn, hA, hp0, W, hm, k⟩
  obtain ⟨v1, rfl, h1⟩ := (spO_vs2_0 hn hA)
  refine ⟨_, PSs.nox (pss_cons (ps_set (i := 2) sc__law_draw.nd rfl (Or.inl rfl) (pe_dget (by exact hu_of hr) (pv 0) pe_str (by intro _ _; rfl))) (pss_cons (ps_if (pt_cmpR op_gt (pv 2) pe_int (nomark _)) (pss_cons (ps_dput (by exact hu_of hr) (pv 0) pe_str (pe_op op_fdiv (pv 2) (pv 1)) rfl) (pss_cons (ps_ret (pe_op op_mod (pe_callTy call_int1 rfl (by exact E.g_int) (by decide +kernel) (pa_cons (pv 2) pa_nil)) (pv 1))) pss_nil)) pss_nil) (pss_cons (ps_set (i := 3) sc__law_draw.nd rfl (Or.inl rfl) (pe_op op_add (pe_dget (by exact hu_of hr) (pv 0) pe_str (by intro _ _; rfl)) pe_int)) (pss_cons (ps_dput (by exact hu_of hr) (pv 0) pe_str (pv 3) rfl) (pss_cons (ps_set (i := 4) sc__law_draw.nd rfl (Or.inl rfl) (pe_op op_mod (pe_callTy call_int1 rfl (by exact E.g_int) (by decide +kernel) (pa_cons (pe_op op_add (pe_op op_mul (pe_dget (by exact hu_of hr) (pv 0) pe_str (by intro _ _; rfl)) pe_int) (pe_op op_mul (pv 3) pe_int)) pa_nil)) pe_int)) (pss_cons (ps_set (i := 5) sc__law_draw.nd rfl (Or.inl rfl) (pe_dget (by exact hu_of hr) (pv 0) pe_str (by intro _ _; rfl))) (pss_cons (ps_if (pt_cmpR op_lt (pv 5) (pe_callB (call_lenK (K := K)) rfl (by exact E.g_len) boot_len (pa_cons (pe_dget (by exact hu_of hr) (pv 0) pe_str (by intro _ _; rfl)) pa_nil)) (nomark _)) (pss_cons (ps_set (i := 6) sc__law_draw.nd rfl (Or.inl rfl) (pe_ix (ix_listK (K := K)) (pe_dget (by exact hu_of hr) (pv 0) pe_str (by intro _ _; rfl)) (pv 5) (by intro _ _; rfl))) (pss_cons (ps_dput (by exact hu_of hr) (pv 0) pe_str (pe_op op_add (pv 5) pe_int) rfl) (pss_cons (ps_if (pt_cmpR op_ge (pv 6) (pe_op op_pow pe_int pe_int) (nomark _)) (pss_cons (ps_dput (by exact hu_of hr) (pv 0) pe_str (pv 4) rfl) (pss_cons (ps_dput (by exact hu_of hr) (pv 0) pe_str (pe_op op_fdiv (pv 6) (pv 1)) rfl) (pss_cons (ps_ret (pe_op op_mod (pe_callTy call_int1 rfl (by exact E.g_int) (by decide +kernel) (pa_cons (pv 6) pa_nil)) (pv 1))) pss_nil))) pss_nil) (pss_cons (ps_set (i := 4) sc__law_draw.nd rfl (Or.inl rfl) (pe_op op_mod (pe_callTy call_int1 rfl (by exact E.g_int) (by decide +kernel) (pa_cons (pe_op op_add (pe_op op_add (pv 4) (pe_op op_mul (pv 6) pe_int)) pe_int) pa_nil)) pe_int)) pss_nil)))) pss_nil) (pss_cons (ps_dput (by exact hu_of hr) (pv 0) pe_str (pv 4) rfl) (pss_cons (ps_ret (pe_op op_mod (pe_op op_fdiv (pe_op op_mod (pe_callTy call_int1 rfl (by exact E.g_int) (by decide +kernel) (pa_cons (pe_op op_mul (pv 4) pe_int) pa_nil)) pe_int) pe_int) (pv 1))) pss_nil))))))))), ?_⟩
  have hG : Okc [fS S, (oRec k_bag A_bag).f bag_here604 p0 c0, tInt.f size605 v1] S := ⟨Same.refl _, hp0, h1, True.intro⟩
  have W : Wd S ([c0] ++ F) H := W
  show (_ : TS) _ ([some (.ref p0), some v1, none, none, none, none, none] : L2.St) H
  refine k_set hG W hm (sim_get (pj_s (pj_s pj_0)) rfl (sim_own 0 1 rfl rfl rfl)) ?_
  clear hG W hm
  intro rest607 v608 S H hG W hm
  refine k_if hG W hm (simT_test (sim_gt (sim_var 0 rfl rfl) sim_int)) ?_ ?_
  · clear hG W hm
    intro S H hG W hm
    refine k_rput (g := fun a x => (a.1, (a.2.1, (x, a.2.2.2)))) (a := bag_here604) hG W hm 0 2 rfl rfl rfl (st_s (st_s st_0)) rfl (by show _ < (2 ^ 24 : Nat); decide) (sim_div (sim_var 0 rfl rfl) (sim_var 3 rfl rfl)) ?_
    clear hG W hm
    intro y614 c616 S H hG W hm
    revert hG hm; generalize (((bag_here604.1, (bag_here604.2.1, (y614, bag_here604.2.2.2)))) : R_bag) = bag_here615; intro hG hm
    refine e_ret ?_
    refine c_pure hG W hm (sim_mod (sim_intI (sim_var 1 rfl rfl)) (sim_var 4 rfl rfl)) ?_
    clear hG W hm
    intro r619 v S H hG W hm
    cases hm
    exact k _ _ _ _ (Okc.at 3 rfl hG) (W.pick [0] rfl) (Okc.at 1 rfl hG) (Okc.at 0 rfl hG)
  · clear hG W hm
    intro S H hG W hm
    refine y_next ?_
    refine k_set hG W hm (sim_add (sim_get (pj_s (pj_s (pj_s pj_0))) rfl (sim_own 0 2 rfl rfl rfl)) sim_int) ?_
    clear hG W hm
    intro turn623 v624 S H hG W hm
    refine k_rput (g := fun a x => (a.1, (a.2.1, (a.2.2.1, (x, a.2.2.2.2))))) (a := bag_here604) hG W hm 0 3 rfl rfl rfl (st_s (st_s (st_s st_0))) rfl (by show _ < (2 ^ 24 : Nat); decide) (sim_var 0 rfl rfl) ?_
    clear hG W hm
    intro y625 c627 S H hG W hm
    revert hG hm; generalize (((bag_here604.1, (bag_here604.2.1, (bag_here604.2.2.1, (y625, bag_here604.2.2.2.2))))) : R_bag) = bag_here626; intro hG hm
    refine k_set hG W hm (sim_mod (sim_intI (sim_add (sim_mulS (sim_get (pj_s (pj_s (pj_s (pj_s pj_one)))) rfl (sim_own 0 0 rfl rfl rfl)) sim_int) (sim_mulS (sim_var 1 rfl rfl) sim_int))) sim_int) ?_
    clear hG W hm
    intro mix637 v638 S H hG W hm
    refine k_set hG W hm (sim_get (pj_s pj_0) rfl (sim_own 0 1 rfl rfl rfl)) ?_
    clear hG W hm
    intro place640 v641 S H hG W hm
    refine y_join (σJ := (fun (bx643 : R_bag × Int) (wx643 : List Cell × V × Option V) => ([some (.ref p0), some v1, some (v608), some (v624), some (wx643.2.1), some (v641), wx643.2.2] : L2.St))) (OJ := (fun (bx643 : R_bag × Int) (wx643 : List Cell × V × Option V) => ([wx643.1] : Ow))) (Fb := (fun (bx643 : R_bag × Int) (wx643 : List Cell × V × Option V) => ([(oRec k_bag A_bag).f bx643.1 p0 (wx643.1), tInt.f bx643.2 (wx643.2.1)] : List Fact))) hG W hm ?_ ?_
    · clear hG W hm
      intro bx643 wx643 S H hm hG W
      refine k_rput (g := fun a x => (a.1, (a.2.1, (a.2.2.1, (a.2.2.2.1, x))))) (a := bx643.1) hG W hm 0 0 rfl rfl rfl (st_s (st_s (st_s (st_s st_one)))) rfl (by show _ < (2 ^ 24 : Nat); decide) (sim_var 1 rfl rfl) ?_
      clear hG W hm
      intro y646 c648 S H hG W hm
      revert hG hm; generalize (((bx643.1.1, (bx643.1.2.1, (bx643.1.2.2.1, (bx643.1.2.2.2.1, y646))))) : R_bag) = bag_here647; intro hG hm
      refine e_ret ?_
      refine c_pure hG W hm (sim_mod (sim_div (sim_mod (sim_intI (sim_mulS (sim_var 2 rfl rfl) sim_int)) sim_int) sim_int) (sim_var 10 rfl rfl)) ?_
      clear hG W hm
      intro r657 v S H hG W hm
      cases hm
      exact k _ _ _ _ (Okc.at 9 rfl hG) (W.pick [0] rfl) (Okc.at 1 rfl hG) (Okc.at 0 rfl hG)
    · clear hm
      intro nxt645 hm
      refine k_if hG W hm (simT_test (sim_lt (sim_var 0 rfl rfl) (sim_len (sim_get pj_0 rfl (sim_own 0 2 rfl rfl rfl))))) ?_ ?_
      · clear hG W hm
        intro S H hG W hm
        refine k_set hG W hm (sim_ix (sim_get pj_0 rfl (sim_own 0 2 rfl rfl rfl)) (sim_var 0 rfl rfl)) ?_
        clear hG W hm
        intro cell665 v666 S H hG W hm
        refine k_rput (g := fun a x => (a.1, (x, a.2.2))) (a := bag_here626) hG W hm 0 3 rfl rfl rfl (st_s st_0) rfl (by show _ < (2 ^ 24 : Nat); decide) (sim_add (sim_var 1 rfl rfl) sim_int) ?_
        clear hG W hm
        intro y669 c671 S H hG W hm
        revert hG hm; generalize (((bag_here626.1, (y669, bag_here626.2.2))) : R_bag) = bag_here670; intro hG hm
        refine k_if hG W hm (simT_test (sim_ge (sim_var 1 rfl rfl) (sim_pow sim_int sim_int))) ?_ ?_
        · clear hG W hm
          intro S H hG W hm
          refine k_rput (g := fun a x => (a.1, (a.2.1, (a.2.2.1, (a.2.2.2.1, x))))) (a := bag_here670) hG W hm 0 0 rfl rfl rfl (st_s (st_s (st_s (st_s st_one)))) rfl (by show _ < (2 ^ 24 : Nat); decide) (sim_var 3 rfl rfl) ?_
          clear hG W hm
          intro y677 c679 S H hG W hm
          revert hG hm; generalize (((bag_here670.1, (bag_here670.2.1, (bag_here670.2.2.1, (bag_here670.2.2.2.1, y677))))) : R_bag) = bag_here678; intro hG hm
          refine k_rput (g := fun a x => (a.1, (a.2.1, (x, a.2.2.2)))) (a := bag_here678) hG W hm 0 0 rfl rfl rfl (st_s (st_s st_0)) rfl (by show _ < (2 ^ 24 : Nat); decide) (sim_div (sim_var 2 rfl rfl) (sim_var 10 rfl rfl)) ?_
          clear hG W hm
          intro y682 c684 S H hG W hm
          revert hG hm; generalize (((bag_here678.1, (bag_here678.2.1, (y682, bag_here678.2.2.2)))) : R_bag) = bag_here683; intro hG hm
          refine e_ret ?_
          refine c_pure hG W hm (sim_mod (sim_intI (sim_var 3 rfl rfl)) (sim_var 11 rfl rfl)) ?_
          clear hG W hm
          intro r687 v S H hG W hm
          cases hm
          exact k _ _ _ _ (Okc.at 10 rfl hG) (W.pick [0] rfl) (Okc.at 1 rfl hG) (Okc.at 0 rfl hG)
        · clear hG W hm
          intro S H hG W hm
          refine y_next ?_
          refine k_set hG W hm (sim_mod (sim_intI (sim_add (sim_add (sim_var 3 rfl rfl) (sim_mulS (sim_var 1 rfl rfl) sim_int)) sim_int)) sim_int) ?_
          clear hG W hm
          intro mix696 v697 S H hG W hm
          refine y_next ?_
          exact nxt645 _ (c671, v697, (some (v666))) _ _ hm (Okc.cons (Okc.at 1 rfl hG) (Okc.cons (Okc.at 0 rfl hG) (Okc.dr 3 hG))) (W.pick [0] rfl)
      · clear hG W hm
        intro S H hG W hm
        refine y_next ?_
        exact nxt645 _ (c627, v638, (none)) _ _ hm (Okc.cons (Okc.at 2 rfl hG) (Okc.cons (Okc.at 1 rfl hG) (Okc.dr 0 hG))) (W.pick [0] rfl)
theorem sc__law_shuffled : FnScope ["_law_bag_here", "_law_count_here", "_law_lamps", "_law_line", "_law_k"] ["_law_bag_here", "_law_count_here"] (defScope (top 34)) := ⟨rfl, rfl, rfl, by decide +kernel, rfl, by decide +kernel, by decide +kernel⟩
theorem ok__law_shuffled (E : EnvF K mg) : Cal CX0 P w K mg base 2 "_law_shuffled" (spO 0 (oRec k_bag A_bag) (TyA.one tInt) (fun g a => m__law_shuffled g a) (tL tInt)) := by
  refine cal_mk (k := 1) E.d__law_shuffled sc__law_shuffled (fun vs H Q E h => by obtain ⟨S, F, p, c, g, a, r, hn, hA, _⟩ := h; obtain ⟨_, rfl, _⟩ := (spO_vs2_0 hn hA); rfl) (fun _ _ _ _ _ _ us hl => match us, hl with | [_, _], _ => rfl) ?_
  rintro f cdv A outer s H vs Q EX hr ⟨S, F, p0, c0, bag_here698, count_here699, out, hn, hA, hp0, W, hm, k⟩
  obtain ⟨v1, rfl, h1⟩ := (spO_vs2_0 hn hA)
  refine ⟨_, PSs.nox (pss_cons (ps_set (i := 2) sc__law_shuffled.nd rfl (Or.inl rfl) (pe_listRg rfl rfl (by exact E.g_list) (prg_1 rfl (by exact E.g_range) (pv 1)))) (pss_cons (ps_set (i := 3) sc__law_shuffled.nd rfl (Or.inl rfl) (pe_lst pa_nil)) (pss_cons (ps_for PassesOwn.never rfl (pi_range1 rfl (by exact E.g_range) (pa_cons (pv 1) pa_nil)) (pg_name (i := 4) sc__law_shuffled.nd rfl (Or.inl rfl)) (pss_cons (ps_expr (pe_bmK (K := K) PySem.F.plainAttrs_list PySem.F.slot_list_append PySem.F.type_list_append mt_append (pv 3) (pa_cons (pe_bmK (K := K) PySem.F.plainAttrs_list PySem.F.slot_list_pop PySem.F.type_list_pop mt_popAt (pv 2) (pa_cons (pe_cal (ok__law_draw E) (by exact hr) (by first | decide | omega) (by rfl) pass0 (pa_cons (pv 0) (pa_cons (pe_callB (call_lenK (K := K)) rfl (by exact E.g_len) boot_len (pa_cons (pv 2) pa_nil)) pa_nil))) pa_nil)) pa_nil))) pss_nil)) (pss_cons (ps_ret (pv 3)) pss_nil)))), ?_⟩
  have hG : Okc [fS S, (oRec k_bag A_bag).f bag_here698 p0 c0, tInt.f count_here699 v1] S := ⟨Same.refl _, hp0, h1, True.intro⟩
  have W : Wd S ([c0] ++ F) H := W
  show (_ : TS) _ ([some (.ref p0), some v1, none, none, none] : L2.St) H
  refine k_setO hG W hm (simF_lrange1 (sim_var 2 rfl rfl)) ?_
  clear hG W hm
  intro lamps701 p703 c704 S H hG W hm
  refine k_setO hG W hm (simF_lst (T := tInt) simA_ln0) ?_
  clear hG W hm
  intro line705 p707 c708 S H hG W hm
  refine k_fold (σJ := (fun (bx710 : R_bag × (List Int) × (List Int)) (wx710 : List Cell × List Cell × List Cell × Option V) => ([some (.ref p0), some v1, some (.ref p703), some (.ref p707), wx710.2.2.2] : L2.St))) (OJ := (fun (bx710 : R_bag × (List Int) × (List Int)) (wx710 : List Cell × List Cell × List Cell × Option V) => ([wx710.2.2.1, wx710.2.1, wx710.1] : Ow))) (Fb := (fun (bx710 : R_bag × (List Int) × (List Int)) (wx710 : List Cell × List Cell × List Cell × Option V) => ([(oRec k_bag A_bag).f bx710.1 p0 (wx710.1), (oL tInt).f bx710.2.1 p703 (wx710.2.1), (oL tInt).f bx710.2.2 p707 (wx710.2.2.1)] : List Fact))) (σT := (fun b w (tx710 : V) => ((fun (bx710 : R_bag × (List Int) × (List Int)) (wx710 : List Cell × List Cell × List Cell × Option V) => ([some (.ref p0), some v1, some (.ref p703), some (.ref p707), wx710.2.2.2] : L2.St)) b w).set 4 (some tx710))) ((c0, c704, c708, (none)) : List Cell × List Cell × List Cell × Option V) hG W hm (simI_range1 (sim_var 4 rfl rfl)) (fun b w => tg_name) (fun b w => List.nil_sublist _) rfl rfl (fun S h => (Okc.cons (Okc.at 3 rfl h) (Okc.cons (Okc.at 1 rfl h) (Okc.cons (Okc.at 0 rfl h) h)))) ?_ ?_
  · clear hG W hm
    intro S1 y711 bx710 b' wx710 tx710 S H hm hG W N hN
    refine e_drop ?_
    refine e_bm ?_
    refine c_ref rfl ?_
    refine ⟨ty_list hG W 0 3 rfl rfl, ?_⟩
    refine e_cons ?_
    refine e_bm ?_
    refine c_ref rfl ?_
    refine ⟨ty_list hG W 1 2 rfl rfl, ?_⟩
    refine e_cons ?_
    refine e_call ?_
    refine e_cons ?_
    refine c_ref rfl ?_
    refine e_cons ?_
    refine c_pure hG W hm (sim_len (sim_own 1 2 rfl rfl rfl)) ?_
    clear hG W hm
    intro x714 v715 S H hG W hm
    refine e_nil ?_
    refine v_callO (g := bx710.1) (a := x714) hG W hm 2 2 rfl rfl rfl (fun S h => (ra_one (Okc.at 0 rfl h))) ?_
    clear hG W hm
    intro r716 v717 c718 S H hG W hm
    refine e_nil ?_
    refine v_popAt hG W hm 1 5 0 rfl rfl rfl ?_
    clear hG W hm
    intro r719 v720 c721 S H hG W hm
    refine e_nil ?_
    refine v_app hG W hm 0 8 0 rfl rfl rfl ?_
    clear hG W hm
    intro c723 S H hG W hm
    revert hG hm; generalize (bx710.2.2 ++ [r719.1]) = line722; intro hG hm
    cases hm
    refine y_next ?_
    exact hN (c718, c721, c723, (some (tx710))) _ _ (Okc.cons (Okc.at 4 rfl hG) (Okc.cons (Okc.at 2 rfl hG) (Okc.cons (Okc.at 0 rfl hG) (Okc.dr 10 hG)))) (W.pick [0, 0, 0] rfl)
  · clear hG W hm
    intro bx710 wx710 S H hm hG W
    refine k_frz hG W frz_L 0 2 rfl rfl ?_
    clear hG W
    intro S hG W
    refine e_ret ?_
    refine c_pure hG W hm (sim_var 0 rfl rfl) ?_
    clear hG W hm
    intro r724 v S H hG W hm
    cases hm
    exact k _ _ _ _ (Okc.at 7 rfl hG) (W.pick [1] rfl) (Okc.at 2 rfl hG) (Okc.at 0 rfl hG)
theorem sc__law_wired : FnScope ["_law_bag_here", "_law_shape", "_law_split", "_law_parent", "_law_high", "_law_low"] ["_law_bag_here", "_law_shape", "_law_split", "_law_parent", "_law_high", "_law_low"] (defScope (top 35)) := ⟨rfl, rfl, rfl, by decide +kernel, rfl, by decide +kernel, by decide +kernel⟩
theorem ok__law_wired (E : EnvF K mg) : Cal CX0 P w K mg base 2 "_law_wired" (spO 0 (oRec k_bag A_bag) (TyA.c tInt (TyA.c tInt (TyA.c tInt (TyA.c tInt (TyA.one tInt))))) (fun g a => m__law_wired g a.1 a.2.1 a.2.2.1 a.2.2.2.1 a.2.2.2.2) tBool) := by
  refine cal_mk (k := 1) E.d__law_wired sc__law_wired (fun vs H Q E h => by obtain ⟨S, F, p, c, g, a, r, hn, hA, _⟩ := h; obtain ⟨_, _, _, _, _, rfl, _⟩ := (spO_vs6_0 hn hA); rfl) (fun _ _ _ _ _ _ us hl => match us, hl with | [_, _, _, _, _, _], _ => rfl) ?_
  rintro f cdv A outer s H vs Q EX hr ⟨S, F, p0, c0, bag_here725, ⟨shape726, split727, parent728, high729, low730⟩, out, hn, hA, hp0, W, hm, k⟩
  obtain ⟨v1, v2, v3, v4, v5, rfl, h1, h2, h3, h4, h5⟩ := (spO_vs6_0 hn hA)
  refine ⟨_, PSs.nox (pss_cons (ps_if (pt_cmpR op_lt (pv 1) pe_int (nomark _)) (pss_cons (ps_ret (pe_cmpR op_eq (pe_cal (ok__law_draw E) (by exact hr) (by first | decide | omega) (by rfl) pass0 (pa_cons (pv 0) (pa_cons (pe_op op_add pe_int (pe_op op_mul pe_int (pv 1))) pa_nil))) pe_int (nomark _))) pss_nil) pss_nil) (pss_cons (ps_if (pt_cmpR op_eq (pv 1) pe_int (nomark _)) (pss_cons (ps_ret (pe_cmpR op_eq (pv 4) (pe_op op_sub (pv 5) pe_int) (nomark _))) pss_nil) pss_nil) (pss_cons (ps_if (pt_cmpR op_eq (pv 1) pe_int (nomark _)) (pss_cons (ps_ret (pe_cmpR op_eq (pv 4) (pv 3) (nomark _))) pss_nil) pss_nil) (pss_cons (ps_ret (pe_and (pe_cmpR op_eq (pv 1) pe_int (nomark _)) (pe_and (pe_cmpR op_lt (pv 4) (pv 2) (nomark _)) (pe_one (pe_cmpR op_le (pv 2) (pv 5) (nomark _)))))) pss_nil)))), ?_⟩
  have hG : Okc [fS S, (oRec k_bag A_bag).f bag_here725 p0 c0, tInt.f shape726 v1, tInt.f split727 v2, tInt.f parent728 v3, tInt.f high729 v4, tInt.f low730 v5] S := ⟨Same.refl _, hp0, h1, h2, h3, h4, h5, True.intro⟩
  have W : Wd S ([c0] ++ F) H := W
  show (_ : TS) _ ([some (.ref p0), some v1, some v2, some v3, some v4, some v5] : L2.St) H
  refine k_if hG W hm (simT_test (sim_lt (sim_var 2 rfl rfl) sim_int)) ?_ ?_
  · clear hG W hm
    intro S H hG W hm
    refine e_ret ?_
    refine e_op ?_
    refine e_call ?_
    refine e_cons ?_
    refine c_ref rfl ?_
    refine e_cons ?_
    refine c_pure hG W hm (sim_add sim_int (sim_mulS sim_int (sim_var 2 rfl rfl))) ?_
    clear hG W hm
    intro x738 v739 S H hG W hm
    refine e_nil ?_
    refine v_callO (g := bag_here725) (a := x738) hG W hm 0 2 rfl rfl rfl (fun S h => (ra_one (Okc.at 0 rfl h))) ?_
    clear hG W hm
    intro r740 v741 c742 S H hG W hm
    refine c_pure hG W hm sim_int ?_
    clear hG W hm
    intro x743 v744 S H hG W hm
    refine x_op (σ := ([] : L2.St)) ?_
    refine c_pure hG W hm (sim_eqI (sim_K 1 rfl) (sim_K 0 rfl)) ?_
    clear hG W hm
    intro x747 v748 S H hG W hm
    cases hm
    exact k _ _ _ _ (Okc.at 5 rfl hG) (W.pick [0] rfl) (Okc.at 3 rfl hG) (Okc.at 0 rfl hG)
  · clear hG W hm
    intro S H hG W hm
    refine y_next ?_
    refine k_if hG W hm (simT_test (sim_eqI (sim_var 2 rfl rfl) sim_int)) ?_ ?_
    · clear hG W hm
      intro S H hG W hm
      refine e_ret ?_
      refine c_pure hG W hm (sim_eqI (sim_var 5 rfl rfl) (sim_sub (sim_var 6 rfl rfl) sim_int)) ?_
      clear hG W hm
      intro r756 v S H hG W hm
      cases hm
      exact k _ _ _ _ (Okc.at 1 rfl hG) (W.pick [0] rfl) (Okc.at 2 rfl hG) (Okc.at 0 rfl hG)
    · clear hG W hm
      intro S H hG W hm
      refine y_next ?_
      refine k_if hG W hm (simT_test (sim_eqI (sim_var 2 rfl rfl) sim_int)) ?_ ?_
      · clear hG W hm
        intro S H hG W hm
        refine e_ret ?_
        refine c_pure hG W hm (sim_eqI (sim_var 5 rfl rfl) (sim_var 4 rfl rfl)) ?_
        clear hG W hm
        intro r762 v S H hG W hm
        cases hm
        exact k _ _ _ _ (Okc.at 1 rfl hG) (W.pick [0] rfl) (Okc.at 2 rfl hG) (Okc.at 0 rfl hG)
      · clear hG W hm
        intro S H hG W hm
        refine y_next ?_
        refine e_ret ?_
        refine c_pure hG W hm (sim_andV (sim_eqI (sim_var 2 rfl rfl) sim_int) (sim_andV (sim_lt (sim_var 5 rfl rfl) (sim_var 3 rfl rfl)) (sim_le (sim_var 3 rfl rfl) (sim_var 6 rfl rfl)))) ?_
        clear hG W hm
        intro r771 v S H hG W hm
        cases hm
        exact k _ _ _ _ (Okc.at 1 rfl hG) (W.pick [0] rfl) (Okc.at 2 rfl hG) (Okc.at 0 rfl hG)
theorem sc__law_wires : FnScope ["_law_bag_here", "_law_line", "_law_shape", "_law_split", "_law_wires_here", "_law_low", "_law_parent", "_law_high"] ["_law_bag_here", "_law_line"] (defScope (top 36)) := ⟨rfl, rfl, rfl, by decide +kernel, rfl, by decide +kernel, by decide +kernel⟩
theorem ok__law_wires (E : EnvF K mg) : Cal CX0 P w K mg base 3 "_law_wires" (spO 0 (oRec k_bag A_bag) (TyA.one (tL tInt)) (fun g a => m__law_wires g a) (tL (tP tInt tInt))) := by
  refine cal_mk (k := 2) E.d__law_wires sc__law_wires (fun vs H Q E h => by obtain ⟨S, F, p, c, g, a, r, hn, hA, _⟩ := h; obtain ⟨_, rfl, _⟩ := (spO_vs2_0 hn hA); rfl) (fun _ _ _ _ _ _ us hl => match us, hl with | [_, _], _ => rfl) ?_
  rintro f cdv A outer s H vs Q EX hr ⟨S, F, p0, c0, bag_here772, line773, out, hn, hA, hp0, W, hm, k⟩
  obtain ⟨v1, rfl, h1⟩ := (spO_vs2_0 hn hA)
  refine ⟨_, PSs.nox (pss_cons (ps_set (i := 2) sc__law_wires.nd rfl (Or.inl rfl) (pe_ix (ix_listK (K := K)) (pe_lst (pa_cons pe_int (pa_cons pe_int (pa_cons pe_int (pa_cons pe_int (pa_cons pe_int (pa_cons pe_int (pa_cons pe_int (pa_cons pe_int (pa_cons pe_int (pa_cons pe_int (pa_cons pe_int (pa_cons pe_int pa_nil))))))))))))) (pe_cal (ok__law_draw E) (by exact hr) (by first | decide | omega) (by rfl) pass0 (pa_cons (pv 0) (pa_cons pe_int pa_nil))) (by intro _ _; rfl))) (pss_cons (ps_set (i := 3) sc__law_wires.nd rfl (Or.inl rfl) (pe_op op_add pe_int (pe_cal (ok__law_draw E) (by exact hr) (by first | decide | omega) (by rfl) pass0 (pa_cons (pv 0) (pa_cons (pe_callB (call_lenK (K := K)) rfl (by exact E.g_len) boot_len (pa_cons (pv 1) pa_nil)) pa_nil))))) (pss_cons (ps_set (i := 4) sc__law_wires.nd rfl (Or.inl rfl) (pe_lst pa_nil)) (pss_cons (ps_for PassesOwn.never rfl (pi_range2 rfl (by exact E.g_range) (pa_cons pe_int (pa_cons (pe_callB (call_lenK (K := K)) rfl (by exact E.g_len) boot_len (pa_cons (pv 1) pa_nil)) pa_nil))) (pg_name (i := 5) sc__law_wires.nd rfl (Or.inl rfl)) (pss_cons (ps_set (i := 6) sc__law_wires.nd rfl (Or.inl rfl) (pe_cal (ok__law_draw E) (by exact hr) (by first | decide | omega) (by rfl) pass0 (pa_cons (pv 0) (pa_cons (pv 5) pa_nil)))) (pss_cons (ps_for PassesOwn.never rfl (pi_range1 rfl (by exact E.g_range) (pa_cons (pv 5) pa_nil)) (pg_name (i := 7) sc__law_wires.nd rfl (Or.inl rfl)) (pss_cons (ps_if (pt_val (pe_cal (ok__law_wired E) (by exact hr) (by first | decide | omega) (by rfl) pass0 (pa_cons (pv 0) (pa_cons (pv 2) (pa_cons (pv 3) (pa_cons (pv 6) (pa_cons (pv 7) (pa_cons (pv 5) pa_nil)))))))) (pss_cons (ps_expr (pe_bmK (K := K) PySem.F.plainAttrs_list PySem.F.slot_list_append PySem.F.type_list_append mt_append (pv 4) (pa_cons (pe_tup (pa_cons (pe_ix (ix_listK (K := K)) (pv 1) (pv 7) (by intro _ _; rfl)) (pa_cons (pe_ix (ix_listK (K := K)) (pv 1) (pv 5) (by intro _ _; rfl)) pa_nil))) pa_nil))) pss_nil) pss_nil) pss_nil)) pss_nil))) (pss_cons (ps_if (pt_cmpR op_eq (pe_cal (ok__law_draw E) (by exact hr) (by first | decide | omega) (by rfl) pass0 (pa_cons (pv 0) (pa_cons pe_int pa_nil))) pe_int (nomark _)) (pss_cons (ps_set (i := 4) sc__law_wires.nd rfl (Or.inl rfl) (pe_revLK (K := K) (pv 4))) pss_nil) pss_nil) (pss_cons (ps_ret (pv 4)) pss_nil)))))), ?_⟩
  have hG : Okc [fS S, (oRec k_bag A_bag).f bag_here772 p0 c0, (tL tInt).f line773 v1] S := ⟨Same.refl _, hp0, h1, True.intro⟩
  have W : Wd S ([c0] ++ F) H := W
  show (_ : TS) _ ([some (.ref p0), some v1, none, none, none, none, none, none] : L2.St) H
  refine e_set ?_
  refine e_op ?_
  refine c_pure hG W hm (SimF.sim (simF_lst (simA_ln sim_int (simA_ln sim_int (simA_ln sim_int (simA_ln sim_int (simA_ln sim_int (simA_ln sim_int (simA_ln sim_int (simA_ln sim_int (simA_ln sim_int (simA_ln sim_int (simA_ln sim_int (simA_ln sim_int simA_ln0)))))))))))))) ?_
  clear hG W hm
  intro x798 v799 S H hG W hm
  refine e_call ?_
  refine e_cons ?_
  refine c_ref rfl ?_
  refine e_cons ?_
  refine c_pure hG W hm sim_int ?_
  clear hG W hm
  intro x800 v801 S H hG W hm
  refine e_nil ?_
  refine v_callO (g := bag_here772) (a := x800) hG W hm 0 3 rfl rfl rfl (fun S h => (ra_one (Okc.at 0 rfl h))) ?_
  clear hG W hm
  intro r802 v803 c804 S H hG W hm
  refine x_op (σ := ([] : L2.St)) ?_
  refine c_pure hG W hm (sim_ix (sim_K 3 rfl) (sim_K 0 rfl)) ?_
  clear hG W hm
  intro x807 v808 S H hG W hm
  refine e_set ?_
  refine e_op ?_
  refine c_pure hG W hm sim_int ?_
  clear hG W hm
  intro x809 v810 S H hG W hm
  refine e_call ?_
  refine e_cons ?_
  refine c_ref rfl ?_
  refine e_cons ?_
  refine c_pure hG W hm (sim_len (sim_var 8 rfl rfl)) ?_
  clear hG W hm
  intro x812 v813 S H hG W hm
  refine e_nil ?_
  refine v_callO (g := r802.2) (a := x812) hG W hm 0 4 rfl rfl rfl (fun S h => (ra_one (Okc.at 0 rfl h))) ?_
  clear hG W hm
  intro r814 v815 c816 S H hG W hm
  refine x_op (σ := ([] : L2.St)) ?_
  refine c_pure hG W hm (sim_add (sim_K 3 rfl) (sim_K 0 rfl)) ?_
  clear hG W hm
  intro x819 v820 S H hG W hm
  refine k_setO hG W hm (simF_lst (T := (tP tInt tInt)) simA_ln0) ?_
  clear hG W hm
  intro wires_here821 p823 c824 S H hG W hm
  refine k_fold (σJ := (fun (bx829 : R_bag × (List (Int × Int))) (wx829 : List Cell × List Cell × Option V × Option V × Option V) => ([some (.ref p0), some v1, some (v808), some (v820), some (.ref p823), wx829.2.2.1, wx829.2.2.2.1, wx829.2.2.2.2] : L2.St))) (OJ := (fun (bx829 : R_bag × (List (Int × Int))) (wx829 : List Cell × List Cell × Option V × Option V × Option V) => ([wx829.2.1, wx829.1] : Ow))) (Fb := (fun (bx829 : R_bag × (List (Int × Int))) (wx829 : List Cell × List Cell × Option V × Option V × Option V) => ([(oRec k_bag A_bag).f bx829.1 p0 (wx829.1), (oL (tP tInt tInt)).f bx829.2 p823 (wx829.2.1)] : List Fact))) (σT := (fun b w (tx829 : V) => ((fun (bx829 : R_bag × (List (Int × Int))) (wx829 : List Cell × List Cell × Option V × Option V × Option V) => ([some (.ref p0), some v1, some (v808), some (v820), some (.ref p823), wx829.2.2.1, wx829.2.2.2.1, wx829.2.2.2.2] : L2.St)) b w).set 5 (some tx829))) ((c816, c824, (none), (none), (none)) : List Cell × List Cell × Option V × Option V × Option V) hG W hm (simI_range2 sim_int (sim_len (sim_var 13 rfl rfl))) (fun b w => tg_name) (fun b w => List.nil_sublist _) rfl rfl (fun S h => (Okc.cons (Okc.at 3 rfl h) (Okc.cons (Okc.at 0 rfl h) h))) ?_ ?_
  · clear hG W hm
    intro S1 y830 bx829 b' wx829 tx829 S H hm hG W N hN
    refine e_set ?_
    refine e_call ?_
    refine e_cons ?_
    refine c_ref rfl ?_
    refine e_cons ?_
    refine c_ref rfl ?_
    refine e_nil ?_
    refine v_callO (g := bx829.1) (a := y830) hG W hm 1 1 rfl rfl rfl (fun S h => (ra_one (Okc.at 0 rfl h))) ?_
    clear hG W hm
    intro r832 v833 c834 S H hG W hm
    refine k_fold (σJ := (fun (bx836 : R_bag × (List (Int × Int))) (wx836 : List Cell × List Cell × Option V) => ([some (.ref p0), some v1, some (v808), some (v820), some (.ref p823), some (tx829), some (v833), wx836.2.2] : L2.St))) (OJ := (fun (bx836 : R_bag × (List (Int × Int))) (wx836 : List Cell × List Cell × Option V) => ([wx836.2.1, wx836.1] : Ow))) (Fb := (fun (bx836 : R_bag × (List (Int × Int))) (wx836 : List Cell × List Cell × Option V) => ([(oRec k_bag A_bag).f bx836.1 p0 (wx836.1), (oL (tP tInt tInt)).f bx836.2 p823 (wx836.2.1)] : List Fact))) (σT := (fun b w (tx836 : V) => ((fun (bx836 : R_bag × (List (Int × Int))) (wx836 : List Cell × List Cell × Option V) => ([some (.ref p0), some v1, some (v808), some (v820), some (.ref p823), some (tx829), some (v833), wx836.2.2] : L2.St)) b w).set 7 (some tx836))) ((c834, wx829.2.1, (wx829.2.2.2.2)) : List Cell × List Cell × Option V) hG W hm (simI_range1 (sim_var 2 rfl rfl)) (fun b w => tg_name) (fun b w => List.nil_sublist _) rfl rfl (fun S h => (Okc.cons (Okc.at 1 rfl h) (Okc.cons (Okc.at 4 rfl h) h))) ?_ ?_
    · clear hG W hm
      intro S1 y837 bx836 b' wx836 tx836 S H hm hG W N hN
      refine e_if ?_
      refine e_tB ?_
      refine e_call ?_
      refine e_cons ?_
      refine c_ref rfl ?_
      refine e_cons ?_
      refine c_ref rfl ?_
      refine e_cons ?_
      refine c_ref rfl ?_
      refine e_cons ?_
      refine c_ref rfl ?_
      refine e_cons ?_
      refine c_ref rfl ?_
      refine e_cons ?_
      refine c_ref rfl ?_
      refine e_nil ?_
      refine v_callO (g := bx836.1) (a := (x807, x819, r832.1, y837, y830)) hG W hm 1 1 rfl rfl rfl (fun S h => (ra_c (Okc.at 16 rfl h) (ra_c (Okc.at 11 rfl h) (ra_c (Okc.at 4 rfl h) (ra_c (Okc.at 0 rfl h) (ra_one (Okc.at 6 rfl h))))))) ?_
      clear hG W hm
      intro r840 v841 c842 S H hG W hm
      refine y_bool hG 0 rfl ?_
      refine c_ite hm ?_ ?_
      · clear hm
        intro _ hm
        refine k_app hG W hm 0 4 rfl rfl rfl (sim_pair (sim_ix (sim_var 25 rfl rfl) (sim_var 2 rfl rfl)) (sim_ix (sim_var 25 rfl rfl) (sim_var 8 rfl rfl))) ?_
        clear hG W hm
        intro y849 c851 S H hG W hm
        revert hG hm; generalize (bx836.2 ++ [y849]) = wires_here850; intro hG hm
        refine y_next ?_
        cases hm
        refine y_next ?_
        exact hN (c842, c851, (some (tx836))) _ _ (Okc.cons (Okc.at 2 rfl hG) (Okc.cons (Okc.at 0 rfl hG) (Okc.dr 6 hG))) (W.pick [0, 0] rfl)
      · clear hm
        intro _ hm
        refine y_next ?_
        cases hm
        refine y_next ?_
        exact hN (c842, wx836.2.1, (some (tx836))) _ _ (Okc.cons (Okc.at 1 rfl hG) (Okc.cons (Okc.at 4 rfl hG) (Okc.dr 5 hG))) (W.pick [0, 0] rfl)
    · clear hG W hm
      intro bx836 wx836 S H hm hG W
      cases hm
      refine y_next ?_
      exact hN (wx836.1, wx836.2.1, (some (tx829)), (some (v833)), (wx836.2.2)) _ _ (Okc.cons (Okc.at 0 rfl hG) (Okc.cons (Okc.at 1 rfl hG) (Okc.dr 7 hG))) (W.pick [0, 0] rfl)
  · clear hG W hm
    intro bx829 wx829 S H hm hG W
    refine k_frz hG W frz_L 0 1 rfl rfl ?_
    clear hG W
    intro S hG W
    refine y_join (σJ := (fun (bx854 : R_bag × (List (Int × Int))) (wx854 : List Cell × V) => ([some (.ref p0), some v1, some (v808), some (v820), some (wx854.2), wx829.2.2.1, wx829.2.2.2.1, wx829.2.2.2.2] : L2.St))) (OJ := (fun (bx854 : R_bag × (List (Int × Int))) (wx854 : List Cell × V) => ([wx854.1] : Ow))) (Fb := (fun (bx854 : R_bag × (List (Int × Int))) (wx854 : List Cell × V) => ([(oRec k_bag A_bag).f bx854.1 p0 (wx854.1), (tL (tP tInt tInt)).f bx854.2 (wx854.2)] : List Fact))) hG W hm ?_ ?_
    · clear hG W hm
      intro bx854 wx854 S H hm hG W
      refine e_ret ?_
      refine c_pure hG W hm (sim_var 1 rfl rfl) ?_
      clear hG W hm
      intro r857 v S H hG W hm
      cases hm
      exact k _ _ _ _ (Okc.at 17 rfl hG) (W.pick [0] rfl) (Okc.at 1 rfl hG) (Okc.at 0 rfl hG)
    · clear hm
      intro nxt856 hm
      refine e_if ?_
      refine e_test ?_
      refine e_op ?_
      refine e_call ?_
      refine e_cons ?_
      refine c_ref rfl ?_
      refine e_cons ?_
      refine c_pure hG W hm sim_int ?_
      clear hG W hm
      intro x858 v859 S H hG W hm
      refine e_nil ?_
      refine v_callO (g := bx829.1) (a := x858) hG W hm 0 2 rfl rfl rfl (fun S h => (ra_one (Okc.at 0 rfl h))) ?_
      clear hG W hm
      intro r860 v861 c862 S H hG W hm
      refine c_pure hG W hm sim_int ?_
      clear hG W hm
      intro x863 v864 S H hG W hm
      refine x_op (σ := ([] : L2.St)) ?_
      refine c_pure hG W hm (sim_eqI (sim_K 1 rfl) (sim_K 0 rfl)) ?_
      clear hG W hm
      intro x867 v868 S H hG W hm
      refine y_bool hG 0 rfl ?_
      refine c_ite hm ?_ ?_
      · clear hm
        intro _ hm
        refine k_set hG W hm (SimF.sim (simF_rev (sim_var 5 rfl rfl))) ?_
        clear hG W hm
        intro wires_here870 v871 S H hG W hm
        refine y_next ?_
        exact nxt856 _ (c862, v871) _ _ hm (Okc.cons (Okc.at 4 rfl hG) (Okc.cons (Okc.at 0 rfl hG) (Okc.dr 6 hG))) (W.pick [0] rfl)
      · clear hm
        intro _ hm
        refine y_next ?_
        exact nxt856 _ (c862, (.ref p823)) _ _ hm (Okc.cons (Okc.at 3 rfl hG) (Okc.cons (Okc.at 5 rfl hG) (Okc.dr 5 hG))) (W.pick [0] rfl)
theorem sc__law_all_in : FnScope ["_law_lamps", "_law_listed", "_law_lamp"] ["_law_lamps", "_law_listed"] (defScope (top 37)) := ⟨rfl, rfl, rfl, by decide +kernel, rfl, by decide +kernel, by decide +kernel⟩
theorem ok__law_all_in (E : EnvF K mg) : Cal CX0 P w K mg base 1 "_law_all_in" (spP (TyA.c (tL tInt) (TyA.one (tL tInt))) (fun a => m__law_all_in a.1 a.2) tBool) := by
  refine cal_mk (k := 0) E.d__law_all_in sc__law_all_in (fun vs H Q E h => by obtain ⟨S, F, a, r, ⟨_, _, rfl, _, ⟨_, rfl, _⟩⟩, _⟩ := h; rfl) (fun _ _ _ _ _ _ us hl => match us, hl with | [_, _], _ => rfl) ?_
  rintro f cdv A outer s H vs Q EX hr ⟨S, F, ⟨lamps872, listed873⟩, out, ⟨v0, _, rfl, h0, ⟨v1, rfl, h1⟩⟩, W, hm, k⟩
  refine ⟨_, PSs.nox (pss_cons (ps_ret (pe_cmpR op_eq (pe_callB (call_lenK (K := K)) rfl (by exact E.g_len) boot_len (pa_cons (pe_lc (own := [("_law_lamp", 2)]) rfl sc__law_all_in.nd (pi_listK (K := K) (pv 0)) (blkOk_by (N := ["_law_lamps", "_law_listed", "_law_lamp"]) (sc := defScope (top 37)) (by decide +kernel)) (fun _ _ _ _ _ => (pg_name (i := 2) sc__law_all_in.nd rfl (Or.inl rfl))) (fun _ _ _ _ _ => (pts_one (pt_cmpR (op_inDK (K := K) (by exact hu65 hr)) (pv 2) (pv 1) (by with_unfolding_all rfl)))) (fun _ _ _ _ _ => (pv 2))) pa_nil)) (pe_callB (call_lenK (K := K)) rfl (by exact E.g_len) boot_len (pa_cons (pv 0) pa_nil)) (nomark _))) pss_nil), ?_⟩
  have hG : Okc [fS S, (tL tInt).f lamps872 v0, (tL tInt).f listed873 v1] S := ⟨Same.refl _, h0, h1, True.intro⟩
  have W : Wd S (([] : Ow) ++ F) H := W
  show (_ : TS) _ ([some v0, some v1, none] : L2.St) H
  exact k_ret hG W hm (sim_eqI (sim_len (SimF.sim (simF_lc (simI_list (sim_var 1 rfl rfl)) tg_name (fun _ => rfl) (List.nil_sublist _) (fun a w => (simT_test (sim_in (sim_var 0 rfl rfl) (sim_var 3 rfl rfl)))) (fun a w => (sim_var 0 rfl rfl))))) (sim_len (sim_var 1 rfl rfl))) (fun v S H hG W hr => k v S H (Okc.at 0 rfl hG) (W.pick [] rfl) hr)
theorem sc__law_known : FnScope ["_law_count_here", "_law_hues_here", "_law_wires_here", "_law_line", "_law_below", "_law_k", "_law_upper", "_law_found", "_law_wire", "_law_above", "_law_lamp", "_law_listed", "_law_left", "_law_ready", "_law_world_here"] ["_law_count_here", "_law_hues_here", "_law_wires_here", "_law_line"] (defScope (top 38)) := ⟨rfl, rfl, rfl, by decide +kernel, rfl, by decide +kernel, by decide +kernel⟩
theorem ok__law_known (E : EnvF K mg) : Cal CX0 P w K mg base 2 "_law_known" (spP (TyA.c tInt (TyA.c tInt (TyA.c (tL (tP tInt tInt)) (TyA.one (tL tInt))))) (fun a => m__law_known a.1 a.2.1 a.2.2.1 a.2.2.2) (tRec k_world A_world)) := by
  refine cal_mk (k := 1) E.d__law_known sc__law_known (fun vs H Q E h => by obtain ⟨S, F, a, r, ⟨_, _, rfl, _, ⟨_, _, rfl, _, ⟨_, _, rfl, _, ⟨_, rfl, _⟩⟩⟩⟩, _⟩ := h; rfl) (fun _ _ _ _ _ _ us hl => match us, hl with | [_, _, _, _], _ => rfl) ?_
  rintro f cdv A outer s H vs Q EX hr ⟨S, F, ⟨count_here882, hues_here883, wires_here884, line885⟩, out, ⟨v0, _, rfl, h0, ⟨v1, _, rfl, h1, ⟨v2, _, rfl, h2, ⟨v3, rfl, h3⟩⟩⟩⟩, W, hm, k⟩
  refine ⟨_, PSs.nox (pss_cons (ps_set (i := 4) sc__law_known.nd rfl (Or.inr rfl) (pe_lc (own := [("_law_lamp", 10)]) rfl sc__law_known.nd (pi_range1 rfl (by exact E.g_range) (pa_cons (pv 0) pa_nil)) (blkOk_by (N := ["_law_count_here", "_law_hues_here", "_law_wires_here", "_law_line", "_law_below", "_law_k", "_law_upper", "_law_found", "_law_wire", "_law_above", "_law_lamp", "_law_listed", "_law_left", "_law_ready", "_law_world_here"]) (sc := defScope (top 38)) (by decide +kernel)) (fun _ _ _ _ _ => (pg_name (i := 10) sc__law_known.nd rfl (Or.inl rfl))) (fun _ _ _ _ _ => pts_nil) (fun _ _ _ _ _ => (pe_lst pa_nil)))) (pss_cons (ps_for PassesOwn.never rfl (pi_range1 rfl (by exact E.g_range) (pa_cons (pv 0) pa_nil)) (pg_name (i := 5) sc__law_known.nd rfl (Or.inl rfl)) (pss_cons (ps_set (i := 6) sc__law_known.nd rfl (Or.inl rfl) (pe_ix (ix_listK (K := K)) (pv 3) (pe_op op_sub (pe_op op_sub (pv 0) pe_int) (pv 5)) (by intro _ _; rfl))) (pss_cons (ps_set (i := 7) sc__law_known.nd rfl (Or.inr rfl) (pe_lst pa_nil)) (pss_cons (ps_for PassesOwn.never rfl (pi_listK (K := K) (pv 2)) (pg_name (i := 8) sc__law_known.nd rfl (Or.inl rfl)) (pss_cons (ps_if (pt_cmpR op_eq (pe_ix (ix_tupK (K := K)) (pv 8) pe_int (by intro _ _; rfl)) (pv 6) (nomark _)) (pss_cons (ps_set (i := 7) sc__law_known.nd rfl (Or.inr rfl) (pe_op op_cat (pe_op op_cat (pv 7) (pe_lst (pa_cons (pe_ix (ix_tupK (K := K)) (pv 8) pe_int (by intro _ _; rfl)) pa_nil))) (pe_ix (ix_listK (K := K)) (pv 4) (pe_ix (ix_tupK (K := K)) (pv 8) pe_int (by intro _ _; rfl)) (by intro _ _; rfl)))) pss_nil) pss_nil) pss_nil)) (pss_cons (ps_asg (pe_lc (own := [("_law_lamp", 10)]) rfl sc__law_known.nd (pi_range1 rfl (by exact E.g_range) (pa_cons (pv 0) pa_nil)) (blkOk_by (N := ["_law_count_here", "_law_hues_here", "_law_wires_here", "_law_line", "_law_below", "_law_k", "_law_upper", "_law_found", "_law_wire", "_law_above", "_law_lamp", "_law_listed", "_law_left", "_law_ready", "_law_world_here"]) (sc := defScope (top 38)) (by decide +kernel)) (fun _ _ _ _ _ => (pg_name (i := 10) sc__law_known.nd rfl (Or.inl rfl))) (fun _ _ _ _ _ => (pts_one (pt_cmpR (op_inDK (K := K) (by exact hu65 hr)) (pv 10) (pv 7) (by with_unfolding_all rfl)))) (fun _ _ _ _ _ => (pv 10))) (pg_sub (pv 4) (pv 6) set_list)) pss_nil))))) (pss_cons (ps_set (i := 9) sc__law_known.nd rfl (Or.inr rfl) (pe_lst pa_nil)) (pss_cons (ps_for PassesOwn.never rfl (pi_range1 rfl (by exact E.g_range) (pa_cons (pv 0) pa_nil)) (pg_name (i := 10) sc__law_known.nd rfl (Or.inr rfl)) (pss_cons (ps_expr (pe_bmK (K := K) PySem.F.plainAttrs_list PySem.F.slot_list_append PySem.F.type_list_append mt_append (pv 9) (pa_cons (pe_lc (own := [("_law_upper", 6)]) rfl sc__law_known.nd (pi_range1 rfl (by exact E.g_range) (pa_cons (pv 0) pa_nil)) (blkOk_by (N := ["_law_count_here", "_law_hues_here", "_law_wires_here", "_law_line", "_law_below", "_law_k", "_law_upper", "_law_found", "_law_wire", "_law_above", "_law_lamp", "_law_listed", "_law_left", "_law_ready", "_law_world_here"]) (sc := defScope (top 38)) (by decide +kernel)) (fun _ _ _ _ _ => (pg_name (i := 6) sc__law_known.nd rfl (Or.inl rfl))) (fun _ _ _ _ _ => (pts_one (pt_cmpR (op_inDK (K := K) (by exact hu65 hr)) (pv 10) (pe_ix (ix_listK (K := K)) (pv 4) (pv 6) (by intro _ _; rfl)) (by with_unfolding_all rfl)))) (fun _ _ _ _ _ => (pv 6))) pa_nil))) pss_nil)) (pss_cons (ps_set (i := 11) sc__law_known.nd rfl (Or.inr rfl) (pe_lst pa_nil)) (pss_cons (ps_for PassesOwn.never rfl (pi_range1 rfl (by exact E.g_range) (pa_cons (pv 0) pa_nil)) (pg_name (i := 5) sc__law_known.nd rfl (Or.inl rfl)) (pss_cons (ps_setLc (i := 12) (own := [("_law_lamp", 10)]) rfl sc__law_known.nd rfl rfl (sw_true rfl rfl rfl (by decide +kernel)) (pi_range1 rfl (by exact E.g_range) (pa_cons (pv 0) pa_nil)) (blkOk_by (N := ["_law_count_here", "_law_hues_here", "_law_wires_here", "_law_line", "_law_below", "_law_k", "_law_upper", "_law_found", "_law_wire", "_law_above", "_law_lamp", "_law_listed", "_law_left", "_law_ready", "_law_world_here"]) (sc := defScope (top 38)) (by decide +kernel)) (fun _ _ _ _ _ => (pg_name (i := 10) sc__law_known.nd rfl (Or.inl rfl))) (fun _ _ _ _ _ => (pts_one (pt_cmpR (op_notInDK (K := K) (by exact hu65 hr)) (pv 10) (pv 11) (by with_unfolding_all rfl)))) (fun _ _ _ _ _ => (pv 10))) (pss_cons (ps_setLc (i := 13) (own := [("_law_lamp", 10)]) rfl sc__law_known.nd rfl rfl (sw_true rfl rfl rfl (by decide +kernel)) (pi_listK (K := K) (pv 12)) (blkOk_by (N := ["_law_count_here", "_law_hues_here", "_law_wires_here", "_law_line", "_law_below", "_law_k", "_law_upper", "_law_found", "_law_wire", "_law_above", "_law_lamp", "_law_listed", "_law_left", "_law_ready", "_law_world_here"]) (sc := defScope (top 38)) (by decide +kernel)) (fun _ _ _ _ _ => (pg_name (i := 10) sc__law_known.nd rfl (Or.inl rfl))) (fun _ _ _ _ _ => (pts_one (pt_val (pe_cal (ok__law_all_in E) (by exact hr) (by first | decide | omega) (by rfl) pass0 (pa_cons (pe_ix (ix_listK (K := K)) (pv 9) (pv 10) (by intro _ _; rfl)) (pa_cons (pv 11) pa_nil)))))) (fun _ _ _ _ _ => (pv 10))) (pss_cons (ps_expr (pe_bmK (K := K) PySem.F.plainAttrs_list PySem.F.slot_list_append PySem.F.type_list_append mt_append (pv 11) (pa_cons (pe_ix (ix_listK (K := K)) (pv 13) pe_int (by intro _ _; rfl)) pa_nil))) pss_nil)))) (pss_cons (ps_set (i := 14) sc__law_known.nd rfl (Or.inl rfl) (pe_disp (pps_cons pe_str (pv 0) (pps_cons pe_str (pv 1) (pps_cons pe_str (pv 2) (pps_cons pe_str (pv 11) pps_nil)))) rfl rfl (fun h => nomatch h) (by decide))) (pss_cons (ps_dput (by exact hu_of hr) (pv 14) pe_str (pv 4) rfl) (pss_cons (ps_dput (by exact hu_of hr) (pv 14) pe_str (pv 9) rfl) (pss_cons (ps_ret (pv 14)) pss_nil)))))))))), ?_⟩
  have hG : Okc [fS S, tInt.f count_here882 v0, tInt.f hues_here883 v1, (tL (tP tInt tInt)).f wires_here884 v2, (tL tInt).f line885 v3] S := ⟨Same.refl _, h0, h1, h2, h3, True.intro⟩
  have W : Wd S (([] : Ow) ++ F) H := W
  show (_ : TS) _ ([some v0, some v1, some v2, some v3, none, none, none, none, none, none, none, none, none, none, none] : L2.St) H
  refine k_setO hG W hm (simF_lc (simI_range1 (sim_var 1 rfl rfl)) tg_name (fun _ => rfl) (List.nil_sublist _) (fun a w => simT_yes) (fun a w => (SimF.sim (simF_lst (T := tInt) simA_ln0)))) ?_
  clear hG W hm
  intro below889 p891 c892 S H hG W hm
  refine k_fold (σJ := (fun (bx894 : (List (List Int))) (wx894 : List Cell × Option V × Option V × Option V × Option V) => ([some v0, some v1, some v2, some v3, some (.ref p891), wx894.2.1, wx894.2.2.1, wx894.2.2.2.1, wx894.2.2.2.2, none, none, none, none, none, none] : L2.St))) (OJ := (fun (bx894 : (List (List Int))) (wx894 : List Cell × Option V × Option V × Option V × Option V) => ([wx894.1] : Ow))) (Fb := (fun (bx894 : (List (List Int))) (wx894 : List Cell × Option V × Option V × Option V × Option V) => ([(oL (tL tInt)).f bx894 p891 (wx894.1)] : List Fact))) (σT := (fun b w (tx894 : V) => ((fun (bx894 : (List (List Int))) (wx894 : List Cell × Option V × Option V × Option V × Option V) => ([some v0, some v1, some v2, some v3, some (.ref p891), wx894.2.1, wx894.2.2.1, wx894.2.2.2.1, wx894.2.2.2.2, none, none, none, none, none, none] : L2.St)) b w).set 5 (some tx894))) ((c892, (none), (none), (none), (none)) : List Cell × Option V × Option V × Option V × Option V) hG W hm (simI_range1 (sim_var 2 rfl rfl)) (fun b w => tg_name) (fun b w => List.nil_sublist _) rfl rfl (fun S h => (Okc.cons (Okc.at 0 rfl h) h)) ?_ ?_
  · clear hG W hm
    intro S1 y895 bx894 b' wx894 tx894 S H hm hG W N hN
    refine k_set hG W hm (sim_ix (sim_var 8 rfl rfl) (sim_sub (sim_sub (sim_var 5 rfl rfl) sim_int) (sim_var 0 rfl rfl))) ?_
    clear hG W hm
    intro upper903 v904 S H hG W hm
    refine k_set hG W hm (SimF.sim (simF_lst (T := tInt) simA_ln0)) ?_
    clear hG W hm
    intro found905 v906 S H hG W hm
    refine k_fold (σJ := (fun (bx907 : (List Int)) (wx907 : V × Option V) => ([some v0, some v1, some v2, some v3, some (.ref p891), some (tx894), some (v904), some (wx907.1), wx907.2, none, none, none, none, none, none] : L2.St))) (OJ := (fun (bx907 : (List Int)) (wx907 : V × Option V) => ([wx894.1] : Ow))) (Fb := (fun (bx907 : (List Int)) (wx907 : V × Option V) => ([(tL tInt).f bx907 (wx907.1)] : List Fact))) (σT := (fun b w (tx907 : V) => ((fun (bx907 : (List Int)) (wx907 : V × Option V) => ([some v0, some v1, some v2, some v3, some (.ref p891), some (tx894), some (v904), some (wx907.1), wx907.2, none, none, none, none, none, none] : L2.St)) b w).set 8 (some tx907))) ((v906, (wx894.2.2.2.2)) : V × Option V) hG W hm (simI_list (sim_var 9 rfl rfl)) (fun b w => tg_name) (fun b w => List.nil_sublist _) rfl rfl (fun S h => (Okc.cons (Okc.at 0 rfl h) h)) ?_ ?_
    · clear hG W hm
      intro S1 y908 bx907 b' wx907 tx907 S H hm hG W N hN
      refine k_if hG W hm (simT_test (sim_eqI (sim_fst (sim_var 0 rfl rfl)) (sim_var 4 rfl rfl))) ?_ ?_
      · clear hG W hm
        intro S H hG W hm
        refine k_set hG W hm (SimF.sim (simF_cat (SimF.sim (simF_cat (sim_var 1 rfl rfl) (SimF.sim (simF_lst (simA_ln (sim_snd (sim_var 0 rfl rfl)) simA_ln0))))) (sim_ix (sim_own 0 6 rfl rfl rfl) (sim_snd (sim_var 0 rfl rfl))))) ?_
        clear hG W hm
        intro found924 v925 S H hG W hm
        refine y_next ?_
        cases hm
        refine y_next ?_
        exact hN (v925, (some (tx907))) _ _ (Okc.cons (Okc.at 0 rfl hG) (Okc.dr 3 hG)) (W.pick [0] rfl)
      · clear hG W hm
        intro S H hG W hm
        refine y_next ?_
        cases hm
        refine y_next ?_
        exact hN (wx907.1, (some (tx907))) _ _ (Okc.cons (Okc.at 1 rfl hG) (Okc.dr 2 hG)) (W.pick [0] rfl)
    · clear hG W hm
      intro bx907 wx907 S H hm hG W
      refine k_put hG W hm 0 4 rfl rfl rfl (SimF.sim (simF_lc (simI_range1 (sim_var 8 rfl rfl)) tg_name (fun _ => rfl) (List.nil_sublist _) (fun a w => (simT_test (sim_in (sim_var 0 rfl rfl) (sim_var 1 rfl rfl)))) (fun a w => (sim_var 0 rfl rfl)))) (sim_var 2 rfl rfl) ?_
      clear hG W hm
      intro below933 c934 S H hG W hm
      cases hm
      refine y_next ?_
      exact hN (c934, (some (tx894)), (some (v904)), (some (wx907.1)), (wx907.2)) _ _ (Okc.cons (Okc.at 0 rfl hG) (Okc.dr 6 hG)) (W.pick [0] rfl)
  · clear hG W hm
    intro bx894 wx894 S H hm hG W
    refine k_setO hG W hm (simF_lst (T := (tL tInt)) simA_ln0) ?_
    clear hG W hm
    intro above935 p937 c938 S H hG W hm
    refine k_fold (σJ := (fun (bx940 : (List (List Int))) (wx940 : List Cell × Option V) => ([some v0, some v1, some v2, some v3, some (.ref p891), wx894.2.1, wx894.2.2.1, wx894.2.2.2.1, wx894.2.2.2.2, some (.ref p937), wx940.2, none, none, none, none] : L2.St))) (OJ := (fun (bx940 : (List (List Int))) (wx940 : List Cell × Option V) => ([wx940.1, wx894.1] : Ow))) (Fb := (fun (bx940 : (List (List Int))) (wx940 : List Cell × Option V) => ([(oL (tL tInt)).f bx940 p937 (wx940.1)] : List Fact))) (σT := (fun b w (tx940 : V) => ((fun (bx940 : (List (List Int))) (wx940 : List Cell × Option V) => ([some v0, some v1, some v2, some v3, some (.ref p891), wx894.2.1, wx894.2.2.1, wx894.2.2.2.1, wx894.2.2.2.2, some (.ref p937), wx940.2, none, none, none, none] : L2.St)) b w).set 10 (some tx940))) ((c938, (none)) : List Cell × Option V) hG W hm (simI_range1 (sim_var 4 rfl rfl)) (fun b w => tg_name) (fun b w => List.nil_sublist _) rfl rfl (fun S h => (Okc.cons (Okc.at 0 rfl h) h)) ?_ ?_
    · clear hG W hm
      intro S1 y941 bx940 b' wx940 tx940 S H hm hG W N hN
      refine k_app hG W hm 0 1 rfl rfl rfl (SimF.sim (simF_lc (simI_range1 (sim_var 7 rfl rfl)) tg_name (fun _ => rfl) (List.nil_sublist _) (fun a w => (simT_test (sim_in (sim_var 1 rfl rfl) (sim_ix (sim_own 1 5 rfl rfl rfl) (sim_var 0 rfl rfl))))) (fun a w => (sim_var 0 rfl rfl)))) ?_
      clear hG W hm
      intro y950 c952 S H hG W hm
      revert hG hm; generalize (bx940 ++ [y950]) = above951; intro hG hm
      cases hm
      refine y_next ?_
      exact hN (c952, (some (tx940))) _ _ (Okc.cons (Okc.at 0 rfl hG) (Okc.dr 3 hG)) (W.pick [0, 0] rfl)
    · clear hG W hm
      intro bx940 wx940 S H hm hG W
      refine k_setO hG W hm (simF_lst (T := tInt) simA_ln0) ?_
      clear hG W hm
      intro listed953 p955 c956 S H hG W hm
      refine k_fold (σJ := (fun (bx958 : (List Int)) (wx958 : List Cell × Option V × Option V × Option V) => ([some v0, some v1, some v2, some v3, some (.ref p891), wx958.2.1, wx894.2.2.1, wx894.2.2.2.1, wx894.2.2.2.2, some (.ref p937), wx940.2, some (.ref p955), wx958.2.2.1, wx958.2.2.2, none] : L2.St))) (OJ := (fun (bx958 : (List Int)) (wx958 : List Cell × Option V × Option V × Option V) => ([wx958.1, wx940.1, wx894.1] : Ow))) (Fb := (fun (bx958 : (List Int)) (wx958 : List Cell × Option V × Option V × Option V) => ([(oL tInt).f bx958 p955 (wx958.1)] : List Fact))) (σT := (fun b w (tx958 : V) => ((fun (bx958 : (List Int)) (wx958 : List Cell × Option V × Option V × Option V) => ([some v0, some v1, some v2, some v3, some (.ref p891), wx958.2.1, wx894.2.2.1, wx894.2.2.2.1, wx894.2.2.2.2, some (.ref p937), wx940.2, some (.ref p955), wx958.2.2.1, wx958.2.2.2, none] : L2.St)) b w).set 5 (some tx958))) ((c956, (wx894.2.1), (none), (none)) : List Cell × Option V × Option V × Option V) hG W hm (simI_range1 (sim_var 6 rfl rfl)) (fun b w => tg_name) (fun b w => List.nil_sublist _) rfl rfl (fun S h => (Okc.cons (Okc.at 0 rfl h) h)) ?_ ?_
      · clear hG W hm
        intro S1 y959 bx958 b' wx958 tx958 S H hm hG W N hN
        refine k_set hG W hm (SimF.sim (simF_lc (simI_range1 (sim_var 9 rfl rfl)) tg_name (fun _ => rfl) (List.nil_sublist _) (fun a w => (simT_test (sim_peek 0 2 rfl rfl frz_L sc_bool (sim_notIn (sim_var 1 rfl rfl) (sim_var 0 rfl rfl))))) (fun a w => (sim_var 0 rfl rfl)))) ?_
        clear hG W hm
        intro left966 v967 S H hG W hm
        refine k_set hG W hm (SimF.sim (simF_lc (simI_list (sim_var 0 rfl rfl)) tg_name (fun _ => rfl) (List.nil_sublist _) (fun a w => (simT_B (sim_peek 0 3 rfl rfl frz_L sc_bool (sim_call (simA_c (sim_ix (sim_own 0 7 rfl rfl rfl) (sim_var 1 rfl rfl)) (simA_one (sim_var 0 rfl rfl))))))) (fun a w => (sim_var 0 rfl rfl)))) ?_
        clear hG W hm
        intro ready975 v976 S H hG W hm
        refine k_app hG W hm 0 3 rfl rfl rfl (sim_ix (sim_var 0 rfl rfl) sim_int) ?_
        clear hG W hm
        intro y979 c981 S H hG W hm
        revert hG hm; generalize (bx958 ++ [y979]) = listed980; intro hG hm
        cases hm
        refine y_next ?_
        exact hN (c981, (some (tx958)), (some (v967)), (some (v976))) _ _ (Okc.cons (Okc.at 0 rfl hG) (Okc.dr 5 hG)) (W.pick [0, 0, 0] rfl)
      · clear hG W hm
        intro bx958 wx958 S H hm hG W
        refine k_frz hG W frz_L 0 0 rfl rfl ?_
        clear hG W
        intro S hG W
        refine k_setO hG W hm (simF_disp (by decide +kernel) (by decide) (simPs_c (sim_var 8 rfl rfl) (simPs_c (sim_var 9 rfl rfl) (simPs_c (sim_var 10 rfl rfl) (simPs_one (sim_var 0 rfl rfl)))))) ?_
        clear hG W hm
        intro world_here988 p990 c991 S H hG W hm
        refine k_frz hG W frz_L 2 6 rfl rfl ?_
        clear hG W
        intro S hG W
        refine k_rnew (g := fun a x => (a.1, (a.2.1, (a.2.2.1, (a.2.2.2, x))))) (a := world_here988) (A' := (TyA.c tInt (TyA.c tInt (TyA.c (tL (tP tInt tInt)) (TyA.c (tL tInt) (TyA.one (tL (tL tInt)))))))) hG W hm 0 1 rfl rfl rfl (sn_c (sn_c (sn_c sn_one))) (by decide +kernel) (by show _ < (2 ^ 24 : Nat); decide) (sim_var 0 rfl rfl) ?_
        clear hG W hm
        intro y992 c994 S H hG W hm
        revert hG hm; generalize (((world_here988.1, (world_here988.2.1, (world_here988.2.2.1, (world_here988.2.2.2, y992))))) : (Int × Int × (List (Int × Int)) × (List Int) × (List (List Int)))) = world_here993; intro hG hm
        refine k_frz hG W frz_L 1 6 rfl rfl ?_
        clear hG W
        intro S hG W
        refine k_rnew (g := fun a x => (a.1, (a.2.1, (a.2.2.1, (a.2.2.2.1, (a.2.2.2.2, x)))))) (a := world_here993) (A' := (TyA.c tInt (TyA.c tInt (TyA.c (tL (tP tInt tInt)) (TyA.c (tL tInt) (TyA.c (tL (tL tInt)) (TyA.one (tL (tL tInt))))))))) hG W hm 0 1 rfl rfl rfl (sn_c (sn_c (sn_c (sn_c sn_one)))) (by decide +kernel) (by show _ < (2 ^ 24 : Nat); decide) (sim_var 0 rfl rfl) ?_
        clear hG W hm
        intro y995 c997 S H hG W hm
        revert hG hm; generalize (((world_here993.1, (world_here993.2.1, (world_here993.2.2.1, (world_here993.2.2.2.1, (world_here993.2.2.2.2, y995)))))) : R_world) = world_here996; intro hG hm
        refine k_frz hG W frz_Rec 0 0 rfl rfl ?_
        clear hG W
        intro S hG W
        exact k_ret hG W hm (sim_var 0 rfl rfl) (fun v S H hG W hr => k v S H (Okc.at 13 rfl hG) (W.pick [] rfl) hr)
theorem sc__law_hues : FnScope ["_law_bag_here", "_law_hues_here"] ["_law_bag_here"] (defScope (top 39)) := ⟨rfl, rfl, rfl, by decide +kernel, rfl, by decide +kernel, by decide +kernel⟩
theorem ok__law_hues (E : EnvF K mg) : Cal CX0 P w K mg base 2 "_law_hues" (spO 0 (oRec k_bag A_bag) TyA.nil (fun g _ => m__law_hues g) tInt) := by
  refine cal_mk (k := 1) E.d__law_hues sc__law_hues (fun vs H Q E h => by obtain ⟨S, F, p, c, g, a, r, hn, hA, _⟩ := h; obtain rfl := (spO_vs1_0 hn hA); rfl) (fun _ _ _ _ _ _ us hl => match us, hl with | [_], _ => rfl) ?_
  rintro f cdv A outer s H vs Q EX hr ⟨S, F, p0, c0, bag_here998, _, out, hn, hA, hp0, W, hm, k⟩
  obtain rfl := (spO_vs1_0 hn hA)
  refine ⟨_, PSs.nox (pss_cons (ps_set (i := 1) sc__law_hues.nd rfl (Or.inl rfl) (pe_op op_add pe_int (pe_cal (ok__law_draw E) (by exact hr) (by first | decide | omega) (by rfl) pass0 (pa_cons (pv 0) (pa_cons pe_int pa_nil))))) (pss_cons (ps_if (pt_cmpR op_eq (pe_cal (ok__law_draw E) (by exact hr) (by first | decide | omega) (by rfl) pass0 (pa_cons (pv 0) (pa_cons pe_int pa_nil))) pe_int (nomark _)) (pss_cons (ps_set (i := 1) sc__law_hues.nd rfl (Or.inl rfl) (pe_op op_add pe_int (pe_cal (ok__law_draw E) (by exact hr) (by first | decide | omega) (by rfl) pass0 (pa_cons (pv 0) (pa_cons pe_int pa_nil))))) pss_nil) pss_nil) (pss_cons (ps_ret (pv 1)) pss_nil))), ?_⟩
  have hG : Okc [fS S, (oRec k_bag A_bag).f bag_here998 p0 c0] S := ⟨Same.refl _, hp0, True.intro⟩
  have W : Wd S ([c0] ++ F) H := W
  show (_ : TS) _ ([some (.ref p0), none] : L2.St) H
  refine e_set ?_
  refine e_op ?_
  refine c_pure hG W hm sim_int ?_
  clear hG W hm
  intro x999 v1000 S H hG W hm
  refine e_call ?_
  refine e_cons ?_
  refine c_ref rfl ?_
  refine e_cons ?_
  refine c_pure hG W hm sim_int ?_
  clear hG W hm
  intro x1001 v1002 S H hG W hm
  refine e_nil ?_
  refine v_callO (g := bag_here998) (a := x1001) hG W hm 0 3 rfl rfl rfl (fun S h => (ra_one (Okc.at 0 rfl h))) ?_
  clear hG W hm
  intro r1003 v1004 c1005 S H hG W hm
  refine x_op (σ := ([] : L2.St)) ?_
  refine c_pure hG W hm (sim_add (sim_K 3 rfl) (sim_K 0 rfl)) ?_
  clear hG W hm
  intro x1008 v1009 S H hG W hm
  refine y_join (σJ := (fun (bx1011 : R_bag × Int) (wx1011 : List Cell × V) => ([some (.ref p0), some (wx1011.2)] : L2.St))) (OJ := (fun (bx1011 : R_bag × Int) (wx1011 : List Cell × V) => ([wx1011.1] : Ow))) (Fb := (fun (bx1011 : R_bag × Int) (wx1011 : List Cell × V) => ([(oRec k_bag A_bag).f bx1011.1 p0 (wx1011.1), tInt.f bx1011.2 (wx1011.2)] : List Fact))) hG W hm ?_ ?_
  · clear hG W hm
    intro bx1011 wx1011 S H hm hG W
    refine e_ret ?_
    refine c_pure hG W hm (sim_var 1 rfl rfl) ?_
    clear hG W hm
    intro r1014 v S H hG W hm
    cases hm
    exact k _ _ _ _ (Okc.at 8 rfl hG) (W.pick [0] rfl) (Okc.at 1 rfl hG) (Okc.at 0 rfl hG)
  · clear hm
    intro nxt1013 hm
    refine e_if ?_
    refine e_test ?_
    refine e_op ?_
    refine e_call ?_
    refine e_cons ?_
    refine c_ref rfl ?_
    refine e_cons ?_
    refine c_pure hG W hm sim_int ?_
    clear hG W hm
    intro x1015 v1016 S H hG W hm
    refine e_nil ?_
    refine v_callO (g := r1003.2) (a := x1015) hG W hm 0 3 rfl rfl rfl (fun S h => (ra_one (Okc.at 0 rfl h))) ?_
    clear hG W hm
    intro r1017 v1018 c1019 S H hG W hm
    refine c_pure hG W hm sim_int ?_
    clear hG W hm
    intro x1020 v1021 S H hG W hm
    refine x_op (σ := ([] : L2.St)) ?_
    refine c_pure hG W hm (sim_eqI (sim_K 1 rfl) (sim_K 0 rfl)) ?_
    clear hG W hm
    intro x1024 v1025 S H hG W hm
    refine y_bool hG 0 rfl ?_
    refine c_ite hm ?_ ?_
    · clear hm
      intro _ hm
      refine e_set ?_
      refine e_op ?_
      refine c_pure hG W hm sim_int ?_
      clear hG W hm
      intro x1026 v1027 S H hG W hm
      refine e_call ?_
      refine e_cons ?_
      refine c_ref rfl ?_
      refine e_cons ?_
      refine c_pure hG W hm sim_int ?_
      clear hG W hm
      intro x1028 v1029 S H hG W hm
      refine e_nil ?_
      refine v_callO (g := r1017.2) (a := x1028) hG W hm 0 5 rfl rfl rfl (fun S h => (ra_one (Okc.at 0 rfl h))) ?_
      clear hG W hm
      intro r1030 v1031 c1032 S H hG W hm
      refine x_op (σ := ([] : L2.St)) ?_
      refine c_pure hG W hm (sim_add (sim_K 3 rfl) (sim_K 0 rfl)) ?_
      clear hG W hm
      intro x1035 v1036 S H hG W hm
      refine y_next ?_
      exact nxt1013 _ (c1032, v1036) _ _ hm (Okc.cons (Okc.at 2 rfl hG) (Okc.cons (Okc.at 0 rfl hG) (Okc.dr 10 hG))) (W.pick [0] rfl)
    · clear hm
      intro _ hm
      refine y_next ?_
      exact nxt1013 _ (c1019, v1009) _ _ hm (Okc.cons (Okc.at 3 rfl hG) (Okc.cons (Okc.at 5 rfl hG) (Okc.dr 5 hG))) (W.pick [0] rfl)
theorem sc__law_power : FnScope ["_law_hues_here", "_law_count_here", "_law_many", "_law_k"] ["_law_hues_here", "_law_count_here"] (defScope (top 40)) := ⟨rfl, rfl, rfl, by decide +kernel, rfl, by decide +kernel, by decide +kernel⟩
theorem ok__law_power (E : EnvF K mg) : Cal CX0 P w K mg base 1 "_law_power" (spP (TyA.c tInt (TyA.one tInt)) (fun a => m__law_power a.1 a.2) tInt) := by
  refine cal_mk (k := 0) E.d__law_power sc__law_power (fun vs H Q E h => by obtain ⟨S, F, a, r, ⟨_, _, rfl, _, ⟨_, rfl, _⟩⟩, _⟩ := h; rfl) (fun _ _ _ _ _ _ us hl => match us, hl with | [_, _], _ => rfl) ?_
  rintro f cdv A outer s H vs Q EX hr ⟨S, F, ⟨hues_here1037, count_here1038⟩, out, ⟨v0, _, rfl, h0, ⟨v1, rfl, h1⟩⟩, W, hm, k⟩
  refine ⟨_, PSs.nox (pss_cons (ps_set (i := 2) sc__law_power.nd rfl (Or.inl rfl) pe_int) (pss_cons (ps_for PassesOwn.never rfl (pi_range1 rfl (by exact E.g_range) (pa_cons (pv 1) pa_nil)) (pg_name (i := 3) sc__law_power.nd rfl (Or.inl rfl)) (pss_cons (ps_set (i := 2) sc__law_power.nd rfl (Or.inl rfl) (pe_op op_mulW (pv 2) (pv 0))) pss_nil)) (pss_cons (ps_ret (pv 2)) pss_nil))), ?_⟩
  have hG : Okc [fS S, tInt.f hues_here1037 v0, tInt.f count_here1038 v1] S := ⟨Same.refl _, h0, h1, True.intro⟩
  have W : Wd S (([] : Ow) ++ F) H := W
  show (_ : TS) _ ([some v0, some v1, none, none] : L2.St) H
  refine k_set hG W hm sim_int ?_
  clear hG W hm
  intro many1039 v1040 S H hG W hm
  refine k_fold (σJ := (fun (bx1042 : Int) (wx1042 : V × Option V) => ([some v0, some v1, some (wx1042.1), wx1042.2] : L2.St))) (OJ := (fun (bx1042 : Int) (wx1042 : V × Option V) => ([] : Ow))) (Fb := (fun (bx1042 : Int) (wx1042 : V × Option V) => ([tInt.f bx1042 (wx1042.1)] : List Fact))) (σT := (fun b w (tx1042 : V) => ((fun (bx1042 : Int) (wx1042 : V × Option V) => ([some v0, some v1, some (wx1042.1), wx1042.2] : L2.St)) b w).set 3 (some tx1042))) ((v1040, (none)) : V × Option V) hG W hm (simI_range1 (sim_var 3 rfl rfl)) (fun b w => tg_name) (fun b w => List.nil_sublist _) rfl rfl (fun S h => (Okc.cons (Okc.at 0 rfl h) h)) ?_ ?_
  · clear hG W hm
    intro S1 y1043 bx1042 b' wx1042 tx1042 S H hm hG W N hN
    refine k_set hG W hm (sim_mul (sim_var 1 rfl rfl) (sim_var 5 rfl rfl)) ?_
    clear hG W hm
    intro many1047 v1048 S H hG W hm
    cases hm
    refine y_next ?_
    exact hN (v1048, (some (tx1042))) _ _ (Okc.cons (Okc.at 0 rfl hG) (Okc.dr 3 hG)) (W.pick [] rfl)
  · clear hG W hm
    intro bx1042 wx1042 S H hm hG W
    exact k_ret hG W hm (sim_var 0 rfl rfl) (fun v S H hG W hr => k v S H (Okc.at 2 rfl hG) (W.pick [] rfl) hr)
theorem sc__law_count : FnScope ["_law_bag_here", "_law_hues_here", "_law_room", "_law_most", "_law_k"] ["_law_bag_here", "_law_hues_here", "_law_room"] (defScope (top 41)) := ⟨rfl, rfl, rfl, by decide +kernel, rfl, by decide +kernel, by decide +kernel⟩
theorem ok__law_count (E : EnvF K mg) : Cal CX0 P w K mg base 2 "_law_count" (spO 0 (oRec k_bag A_bag) (TyA.c tInt (TyA.one tInt)) (fun g a => m__law_count g a.1 a.2) tInt) := by
  refine cal_mk (k := 1) E.d__law_count sc__law_count (fun vs H Q E h => by obtain ⟨S, F, p, c, g, a, r, hn, hA, _⟩ := h; obtain ⟨_, _, rfl, _⟩ := (spO_vs3_0 hn hA); rfl) (fun _ _ _ _ _ _ us hl => match us, hl with | [_, _, _], _ => rfl) ?_
  rintro f cdv A outer s H vs Q EX hr ⟨S, F, p0, c0, bag_here1049, ⟨hues_here1050, room1051⟩, out, hn, hA, hp0, W, hm, k⟩
  obtain ⟨v1, v2, rfl, h1, h2⟩ := (spO_vs3_0 hn hA)
  refine ⟨_, PSs.nox (pss_cons (ps_set (i := 3) sc__law_count.nd rfl (Or.inl rfl) pe_int) (pss_cons (ps_for PassesOwn.never rfl (pi_range2 rfl (by exact E.g_range) (pa_cons pe_int (pa_cons pe_int pa_nil))) (pg_name (i := 4) sc__law_count.nd rfl (Or.inl rfl)) (pss_cons (ps_if (pt_cmpR op_le (pe_cal (ok__law_power E) (by exact hr) (by first | decide | omega) (by rfl) pass0 (pa_cons (pv 1) (pa_cons (pv 4) pa_nil))) (pv 2) (nomark _)) (pss_cons (ps_set (i := 3) sc__law_count.nd rfl (Or.inl rfl) (pv 4)) pss_nil) pss_nil) pss_nil)) (pss_cons (ps_if (pt_cmpR op_eq (pe_cal (ok__law_draw E) (by exact hr) (by first | decide | omega) (by rfl) pass0 (pa_cons (pv 0) (pa_cons pe_int pa_nil))) pe_int (nomark _)) (pss_cons (ps_ret (pv 3)) pss_nil) pss_nil) (pss_cons (ps_ret (pe_op op_add pe_int (pe_cal (ok__law_draw E) (by exact hr) (by first | decide | omega) (by rfl) pass0 (pa_cons (pv 0) (pa_cons (pv 3) pa_nil))))) pss_nil)))), ?_⟩
  have hG : Okc [fS S, (oRec k_bag A_bag).f bag_here1049 p0 c0, tInt.f hues_here1050 v1, tInt.f room1051 v2] S := ⟨Same.refl _, hp0, h1, h2, True.intro⟩
  have W : Wd S ([c0] ++ F) H := W
  show (_ : TS) _ ([some (.ref p0), some v1, some v2, none, none] : L2.St) H
  refine k_set hG W hm sim_int ?_
  clear hG W hm
  intro most1052 v1053 S H hG W hm
  refine k_fold (σJ := (fun (bx1057 : Int) (wx1057 : V × Option V) => ([some (.ref p0), some v1, some v2, some (wx1057.1), wx1057.2] : L2.St))) (OJ := (fun (bx1057 : Int) (wx1057 : V × Option V) => ([c0] : Ow))) (Fb := (fun (bx1057 : Int) (wx1057 : V × Option V) => ([tInt.f bx1057 (wx1057.1)] : List Fact))) (σT := (fun b w (tx1057 : V) => ((fun (bx1057 : Int) (wx1057 : V × Option V) => ([some (.ref p0), some v1, some v2, some (wx1057.1), wx1057.2] : L2.St)) b w).set 4 (some tx1057))) ((v1053, (none)) : V × Option V) hG W hm (simI_range2 sim_int sim_int) (fun b w => tg_name) (fun b w => List.nil_sublist _) rfl rfl (fun S h => (Okc.cons (Okc.at 0 rfl h) h)) ?_ ?_
  · clear hG W hm
    intro S1 y1058 bx1057 b' wx1057 tx1057 S H hm hG W N hN
    refine k_if hG W hm (simT_test (sim_le (sim_call (simA_c (sim_var 6 rfl rfl) (simA_one (sim_var 0 rfl rfl)))) (sim_var 7 rfl rfl))) ?_ ?_
    · clear hG W hm
      intro S H hG W hm
      refine k_set hG W hm (sim_var 0 rfl rfl) ?_
      clear hG W hm
      intro most1066 v1067 S H hG W hm
      refine y_next ?_
      cases hm
      refine y_next ?_
      exact hN (v1067, (some (tx1057))) _ _ (Okc.cons (Okc.at 0 rfl hG) (Okc.dr 3 hG)) (W.pick [0] rfl)
    · clear hG W hm
      intro S H hG W hm
      refine y_next ?_
      cases hm
      refine y_next ?_
      exact hN (wx1057.1, (some (tx1057))) _ _ (Okc.cons (Okc.at 1 rfl hG) (Okc.dr 2 hG)) (W.pick [0] rfl)
  · clear hG W hm
    intro bx1057 wx1057 S H hm hG W
    refine e_if ?_
    refine e_test ?_
    refine e_op ?_
    refine e_call ?_
    refine e_cons ?_
    refine c_ref rfl ?_
    refine e_cons ?_
    refine c_pure hG W hm sim_int ?_
    clear hG W hm
    intro x1069 v1070 S H hG W hm
    refine e_nil ?_
    refine v_callO (g := bag_here1049) (a := x1069) hG W hm 0 4 rfl rfl rfl (fun S h => (ra_one (Okc.at 0 rfl h))) ?_
    clear hG W hm
    intro r1071 v1072 c1073 S H hG W hm
    refine c_pure hG W hm sim_int ?_
    clear hG W hm
    intro x1074 v1075 S H hG W hm
    refine x_op (σ := ([] : L2.St)) ?_
    refine c_pure hG W hm (sim_eqI (sim_K 1 rfl) (sim_K 0 rfl)) ?_
    clear hG W hm
    intro x1078 v1079 S H hG W hm
    refine y_bool hG 0 rfl ?_
    refine c_ite hm ?_ ?_
    · clear hm
      intro _ hm
      refine e_ret ?_
      refine c_pure hG W hm (sim_var 5 rfl rfl) ?_
      clear hG W hm
      intro r1080 v S H hG W hm
      cases hm
      exact k _ _ _ _ (Okc.at 8 rfl hG) (W.pick [0] rfl) (Okc.at 4 rfl hG) (Okc.at 0 rfl hG)
    · clear hm
      intro _ hm
      refine y_next ?_
      refine e_ret ?_
      refine e_op ?_
      refine c_pure hG W hm sim_int ?_
      clear hG W hm
      intro x1081 v1082 S H hG W hm
      refine e_call ?_
      refine e_cons ?_
      refine c_ref rfl ?_
      refine e_cons ?_
      refine c_ref rfl ?_
      refine e_nil ?_
      refine v_callO (g := r1071.2) (a := bx1057) hG W hm 0 4 rfl rfl rfl (fun S h => (ra_one (Okc.at 6 rfl h))) ?_
      clear hG W hm
      intro r1083 v1084 c1085 S H hG W hm
      refine x_op (σ := ([] : L2.St)) ?_
      refine c_pure hG W hm (sim_add (sim_K 2 rfl) (sim_K 0 rfl)) ?_
      clear hG W hm
      intro x1088 v1089 S H hG W hm
      cases hm
      exact k _ _ _ _ (Okc.at 11 rfl hG) (W.pick [0] rfl) (Okc.at 2 rfl hG) (Okc.at 0 rfl hG)
theorem sc__law_world : FnScope ["_law_bag_here", "_law_room", "_law_hues_here", "_law_count_here", "_law_line", "_law_wires_here"] ["_law_bag_here", "_law_room"] (defScope (top 42)) := ⟨rfl, rfl, rfl, by decide +kernel, rfl, by decide +kernel, by decide +kernel⟩
theorem ok__law_world (E : EnvF K mg) : Cal CX0 P w K mg base 4 "_law_world" (spO 0 (oRec k_bag A_bag) (TyA.one tInt) (fun g a => m__law_world g a) (tRec k_world A_world)) := by
  refine cal_mk (k := 3) E.d__law_world sc__law_world (fun vs H Q E h => by obtain ⟨S, F, p, c, g, a, r, hn, hA, _⟩ := h; obtain ⟨_, rfl, _⟩ := (spO_vs2_0 hn hA); rfl) (fun _ _ _ _ _ _ us hl => match us, hl with | [_, _], _ => rfl) ?_
  rintro f cdv A outer s H vs Q EX hr ⟨S, F, p0, c0, bag_here1090, room1091, out, hn, hA, hp0, W, hm, k⟩
  obtain ⟨v1, rfl, h1⟩ := (spO_vs2_0 hn hA)
  refine ⟨_, PSs.nox (pss_cons (ps_set (i := 2) sc__law_world.nd rfl (Or.inl rfl) (pe_cal (ok__law_hues E) (by exact hr) (by first | decide | omega) (by rfl) pass0 (pa_cons (pv 0) pa_nil))) (pss_cons (ps_set (i := 3) sc__law_world.nd rfl (Or.inl rfl) (pe_cal (ok__law_count E) (by exact hr) (by first | decide | omega) (by rfl) pass0 (pa_cons (pv 0) (pa_cons (pv 2) (pa_cons (pv 1) pa_nil))))) (pss_cons (ps_set (i := 4) sc__law_world.nd rfl (Or.inl rfl) (pe_cal (ok__law_shuffled E) (by exact hr) (by first | decide | omega) (by rfl) pass0 (pa_cons (pv 0) (pa_cons (pv 3) pa_nil)))) (pss_cons (ps_set (i := 5) sc__law_world.nd rfl (Or.inl rfl) (pe_cal (ok__law_wires E) (by exact hr) (by first | decide | omega) (by rfl) pass0 (pa_cons (pv 0) (pa_cons (pv 4) pa_nil)))) (pss_cons (ps_ret (pe_cal (ok__law_known E) (by exact hr) (by first | decide | omega) (by rfl) pass0 (pa_cons (pv 3) (pa_cons (pv 2) (pa_cons (pv 5) (pa_cons (pv 4) pa_nil)))))) pss_nil))))), ?_⟩
  have hG : Okc [fS S, (oRec k_bag A_bag).f bag_here1090 p0 c0, tInt.f room1091 v1] S := ⟨Same.refl _, hp0, h1, True.intro⟩
  have W : Wd S ([c0] ++ F) H := W
  show (_ : TS) _ ([some (.ref p0), some v1, none, none, none, none] : L2.St) H
  refine e_set ?_
  refine e_call ?_
  refine e_cons ?_
  refine c_ref rfl ?_
  refine e_nil ?_
  refine v_callO (g := bag_here1090) (a := ()) hG W hm 0 1 rfl rfl rfl (fun S h => ra_nil) ?_
  clear hG W hm
  intro r1092 v1093 c1094 S H hG W hm
  refine e_set ?_
  refine e_call ?_
  refine e_cons ?_
  refine c_ref rfl ?_
  refine e_cons ?_
  refine c_ref rfl ?_
  refine e_cons ?_
  refine c_ref rfl ?_
  refine e_nil ?_
  refine v_callO (g := r1092.2) (a := (r1092.1, room1091)) hG W hm 0 1 rfl rfl rfl (fun S h => (ra_c (Okc.at 0 rfl h) (ra_one (Okc.at 4 rfl h)))) ?_
  clear hG W hm
  intro r1095 v1096 c1097 S H hG W hm
  refine e_set ?_
  refine e_call ?_
  refine e_cons ?_
  refine c_ref rfl ?_
  refine e_cons ?_
  refine c_ref rfl ?_
  refine e_nil ?_
  refine v_callO (g := r1095.2) (a := r1095.1) hG W hm 0 1 rfl rfl rfl (fun S h => (ra_one (Okc.at 0 rfl h))) ?_
  clear hG W hm
  intro r1098 v1099 c1100 S H hG W hm
  refine e_set ?_
  refine e_call ?_
  refine e_cons ?_
  refine c_ref rfl ?_
  refine e_cons ?_
  refine c_ref rfl ?_
  refine e_nil ?_
  refine v_callO (g := r1098.2) (a := r1098.1) hG W hm 0 1 rfl rfl rfl (fun S h => (ra_one (Okc.at 0 rfl h))) ?_
  clear hG W hm
  intro r1101 v1102 c1103 S H hG W hm
  refine e_ret ?_
  refine c_pure hG W hm (sim_call (simA_c (sim_var 4 rfl rfl) (simA_c (sim_var 6 rfl rfl) (simA_c (sim_var 0 rfl rfl) (simA_one (sim_var 2 rfl rfl)))))) ?_
  clear hG W hm
  intro r1111 v S H hG W hm
  cases hm
  exact k _ _ _ _ (Okc.at 9 rfl hG) (W.pick [0] rfl) (Okc.at 2 rfl hG) (Okc.at 0 rfl hG)
theorem sc__law_state : FnScope ["_law_bag_here", "_law_world_here", "_law_lamp"] ["_law_bag_here", "_law_world_here"] (defScope (top 43)) := ⟨rfl, rfl, rfl, by decide +kernel, rfl, by decide +kernel, by decide +kernel⟩
theorem ok__law_state (E : EnvF K mg) : Cal CX0 P w K mg base 2 "_law_state" (spO 0 (oRec k_bag A_bag) (TyA.one (tRec k_world A_world)) (fun g a => m__law_state g a) (tT tInt)) := by
  refine cal_mk (k := 1) E.d__law_state sc__law_state (fun vs H Q E h => by obtain ⟨S, F, p, c, g, a, r, hn, hA, _⟩ := h; obtain ⟨_, rfl, _⟩ := (spO_vs2_0 hn hA); rfl) (fun _ _ _ _ _ _ us hl => match us, hl with | [_, _], _ => rfl) ?_
  rintro f cdv A outer s H vs Q EX hr ⟨S, F, p0, c0, bag_here1112, world_here1113, out, hn, hA, hp0, W, hm, k⟩
  obtain ⟨v1, rfl, h1⟩ := (spO_vs2_0 hn hA)
  refine ⟨_, PSs.nox (pss_cons (ps_ret (pe_callTy (call_tupleK (K := K)) rfl (by exact E.g_tuple) (by decide +kernel) (pa_cons (pe_lc (own := [("_law_lamp", 2)]) rfl sc__law_state.nd (pi_range1 rfl (by exact E.g_range) (pa_cons (pe_dget (by exact hu_of hr) (pv 1) pe_str (by intro _ _; rfl)) pa_nil)) (blkOk_by (N := ["_law_bag_here", "_law_world_here", "_law_lamp"]) (sc := defScope (top 43)) (by decide +kernel)) (fun _ _ _ _ _ => (pg_name (i := 2) sc__law_state.nd rfl (Or.inl rfl))) (fun _ _ _ _ _ => pts_nil) (fun _ _ _ _ _ => (pe_cal (ok__law_draw E) (by exact hr) (by first | decide | omega) (by rfl) pass0 (pa_cons (pv 0) (pa_cons (pe_dget (by exact hu_of hr) (pv 1) pe_str (by intro _ _; rfl)) pa_nil))))) pa_nil))) pss_nil), ?_⟩
  have hG : Okc [fS S, (oRec k_bag A_bag).f bag_here1112 p0 c0, (tRec k_world A_world).f world_here1113 v1] S := ⟨Same.refl _, hp0, h1, True.intro⟩
  have W : Wd S ([c0] ++ F) H := W
  show (_ : TS) _ ([some (.ref p0), some v1, none] : L2.St) H
  refine e_ret ?_
  refine y_cb1 ?_
  refine c_lcE (U := tInt) hG W hm 0 1 rfl rfl (simI_range1 (sim_get pj_0 rfl (sim_var 2 rfl rfl))) tg_name (fun _ => rfl) ?_ ?_
  · clear hG W hm
    intro y1116 w bag_here1117 c1118 S H F _ hm hG W Q hQ
    refine e_call ?_
    refine e_cons ?_
    refine c_ref rfl ?_
    refine e_cons ?_
    refine c_pure hG W hm (sim_get (pj_s pj_0) rfl (sim_var 5 rfl rfl)) ?_
    clear hG W hm
    intro x1120 v1121 S H hG W hm
    refine e_nil ?_
    refine v_callO (g := bag_here1117) (a := x1120) hG W hm 0 2 rfl rfl rfl (fun S h => (ra_one (Okc.at 0 rfl h))) ?_
    clear hG W hm
    intro r1122 v1123 c1124 S H hG W hm
    cases hm
    exact hQ _ _ _ _ (Okc.at 5 rfl hG) W (Okc.at 1 rfl hG) (Okc.at 0 rfl hG)
  · clear hG W hm
    intro r1126 p1127 c1128 c1129 S H hG W hm
    refine c_pure hG W hm (sim_tuple (sim_Kown 0 0 rfl rfl)) ?_
    clear hG W hm
    intro x1130 v1131 S H hG W hm
    cases hm
    exact k _ _ _ _ (Okc.at 3 rfl hG) (W.pick [1] rfl) (Okc.at 2 rfl hG) (Okc.at 0 rfl hG)
theorem sc__law_obstacle : FnScope ["_law_world_here", "_law_source", "_law_target", "_law_lamp", "_law_higher", "_law_upper"] ["_law_world_here", "_law_source", "_law_target"] (defScope (top 44)) := ⟨rfl, rfl, rfl, by decide +kernel, rfl, by decide +kernel, by decide +kernel⟩
theorem ok__law_obstacle (E : EnvF K mg) : Cal CX0 P w K mg base 1 "_law_obstacle" (spP (TyA.c (tRec k_world A_world) (TyA.c (tT tInt) (TyA.one (tT tInt)))) (fun a => m__law_obstacle a.1 a.2.1 a.2.2) (tO tInt)) := by
  refine cal_mk (k := 0) E.d__law_obstacle sc__law_obstacle (fun vs H Q E h => by obtain ⟨S, F, a, r, ⟨_, _, rfl, _, ⟨_, _, rfl, _, ⟨_, rfl, _⟩⟩⟩, _⟩ := h; rfl) (fun _ _ _ _ _ _ us hl => match us, hl with | [_, _, _], _ => rfl) ?_
  rintro f cdv A outer s H vs Q EX hr ⟨S, F, ⟨world_here1132, source1133, target1134⟩, out, ⟨v0, _, rfl, h0, ⟨v1, _, rfl, h1, ⟨v2, rfl, h2⟩⟩⟩, W, hm, k⟩
  refine ⟨_, PSs.nox (pss_cons (ps_for PassesOwn.never rfl (pi_range1 rfl (by exact E.g_range) (pa_cons (pe_dget (by exact hu_of hr) (pv 0) pe_str (by intro _ _; rfl)) pa_nil)) (pg_name (i := 3) sc__law_obstacle.nd rfl (Or.inl rfl)) (pss_cons (ps_if (pt_cmpR op_gt (pe_ix (ix_tupK (K := K)) (pv 2) (pv 3) (by intro _ _; rfl)) (pe_ix (ix_tupK (K := K)) (pv 1) (pv 3) (by intro _ _; rfl)) (nomark _)) (pss_cons (ps_set (i := 4) sc__law_obstacle.nd rfl (Or.inl rfl) (pe_ix (ix_listK (K := K)) (pe_dget (by exact hu_of hr) (pv 0) pe_str (by intro _ _; rfl)) (pv 3) (by intro _ _; rfl))) (pss_cons (ps_if (pt_cmpR (op_eqDK (K := K) (by exact hu64 hr)) (pe_lc (own := [("_law_upper", 5)]) rfl sc__law_obstacle.nd (pi_listK (K := K) (pv 4)) (blkOk_by (N := ["_law_world_here", "_law_source", "_law_target", "_law_lamp", "_law_higher", "_law_upper"]) (sc := defScope (top 44)) (by decide +kernel)) (fun _ _ _ _ _ => (pg_name (i := 5) sc__law_obstacle.nd rfl (Or.inl rfl))) (fun _ _ _ _ _ => pts_nil) (fun _ _ _ _ _ => (pe_ix (ix_tupK (K := K)) (pv 1) (pv 5) (by intro _ _; rfl)))) (pe_lc (own := [("_law_upper", 5)]) rfl sc__law_obstacle.nd (pi_listK (K := K) (pv 4)) (blkOk_by (N := ["_law_world_here", "_law_source", "_law_target", "_law_lamp", "_law_higher", "_law_upper"]) (sc := defScope (top 44)) (by decide +kernel)) (fun _ _ _ _ _ => (pg_name (i := 5) sc__law_obstacle.nd rfl (Or.inl rfl))) (fun _ _ _ _ _ => pts_nil) (fun _ _ _ _ _ => (pe_ix (ix_tupK (K := K)) (pv 2) (pv 5) (by intro _ _; rfl)))) (nomark _)) (pss_cons (ps_ret (pv 3)) pss_nil) pss_nil) pss_nil)) pss_nil) pss_nil)) (pss_cons (ps_ret pe_non) pss_nil)), ?_⟩
  have hG : Okc [fS S, (tRec k_world A_world).f world_here1132 v0, (tT tInt).f source1133 v1, (tT tInt).f target1134 v2] S := ⟨Same.refl _, h0, h1, h2, True.intro⟩
  have W : Wd S (([] : Ow) ++ F) H := W
  show (_ : TS) _ ([some v0, some v1, some v2, none, none, none] : L2.St) H
  refine k_forK (σJ := (fun (bx1137 : Unit) (wx1137 : Option V × Option V) => ([some v0, some v1, some v2, wx1137.1, wx1137.2, none] : L2.St))) (OJ := (fun (bx1137 : Unit) (wx1137 : Option V × Option V) => ([] : Ow))) (Fb := (fun (bx1137 : Unit) (wx1137 : Option V × Option V) => ([] : List Fact))) (σT := (fun b w (tx1137 : V) => ((fun (bx1137 : Unit) (wx1137 : Option V × Option V) => ([some v0, some v1, some v2, wx1137.1, wx1137.2, none] : L2.St)) b w).set 3 (some tx1137))) (((none), (none)) : Option V × Option V) hG W hm (simI_range1 (sim_get pj_0 rfl (sim_var 1 rfl rfl))) (fun b w => tg_name) (fun b w => List.nil_sublist _) rfl rfl (fun S h => h) ?_ ?_
  · clear hG W hm
    intro S1 y1138 bx1137 wx1137 tx1137 S H k1140 hm hG W Nx1137 hNx1137 hBx1137
    refine k_if hG W hm (simT_test (sim_gt (sim_ixT (sim_var 5 rfl rfl) (sim_var 0 rfl rfl)) (sim_ixT (sim_var 4 rfl rfl) (sim_var 0 rfl rfl)))) ?_ ?_
    · clear hG W hm
      intro S H hG W hm
      refine k_set hG W hm (sim_ix (sim_get (pj_s (pj_s (pj_s (pj_s (pj_s pj_one))))) rfl (sim_var 3 rfl rfl)) (sim_var 0 rfl rfl)) ?_
      clear hG W hm
      intro higher1152 v1153 S H hG W hm
      refine k_if hG W hm (simT_test (sim_eqD (SimF.sim (simF_lc (simI_list (sim_var 0 rfl rfl)) tg_name (fun _ => rfl) (List.nil_sublist _) (fun a w => simT_yes) (fun a w => (sim_ixT (sim_var 6 rfl rfl) (sim_var 0 rfl rfl))))) (SimF.sim (simF_lc (simI_list (sim_var 0 rfl rfl)) tg_name (fun _ => rfl) (List.nil_sublist _) (fun a w => simT_yes) (fun a w => (sim_ixT (sim_var 7 rfl rfl) (sim_var 0 rfl rfl))))))) ?_ ?_
      · clear hG W hm
        intro S H hG W hm
        exact k_ret hG W hm (sim_some nn_int (sim_var 1 rfl rfl)) (fun v S H hG W hr => k v S H (Okc.at 3 rfl hG) (W.pick [] rfl) hr)
      · clear hG W hm
        intro S H hG W hm
        refine y_next ?_
        refine y_next ?_
        refine y_next ?_
        exact hNx1137 _ ((some (tx1137)), (some (v1153))) _ _ hm (Okc.dr 2 hG) (W.pick [] rfl)
    · clear hG W hm
      intro S H hG W hm
      refine y_next ?_
      refine y_next ?_
      exact hNx1137 _ ((some (tx1137)), (wx1137.2)) _ _ hm (Okc.dr 1 hG) (W.pick [] rfl)
  · clear hG W hm
    intro bx1137 wx1137 S H hm hG W
    exact k_ret hG W hm sim_nonO (fun v S H hG W hr => k v S H (Okc.at 0 rfl hG) (W.pick [] rfl) hr)
theorem sc__law_states : FnScope ["_law_world_here", "_law_rows", "_law_lamp", "_law_longer", "_law_row", "_law_k", "_law_places", "_law_states_here", "_law_place"] ["_law_world_here"] (defScope (top 45)) := ⟨rfl, rfl, rfl, by decide +kernel, rfl, by decide +kernel, by decide +kernel⟩
theorem ok__law_states (E : EnvF K mg) : Cal CX0 P w K mg base 1 "_law_states" (spP (TyA.one (tRec k_world A_world)) (fun a => m__law_states a) (tL (tT tInt))) := by
  refine cal_mk (k := 0) E.d__law_states sc__law_states (fun vs H Q E h => by obtain ⟨S, F, a, r, ⟨_, rfl, _⟩, _⟩ := h; rfl) (fun _ _ _ _ _ _ us hl => match us, hl with | [_], _ => rfl) ?_
  rintro f cdv A outer s H vs Q EX hr ⟨S, F, world_here1165, out, ⟨v0, rfl, h0⟩, W, hm, k⟩
  refine ⟨_, PSs.nox (pss_cons (ps_set (i := 1) sc__law_states.nd rfl (Or.inl rfl) (pe_lst (pa_cons (pe_lst pa_nil) pa_nil))) (pss_cons (ps_for PassesOwn.never rfl (pi_listK (K := K) (pe_dget (by exact hu_of hr) (pv 0) pe_str (by intro _ _; rfl))) (pg_name (i := 2) sc__law_states.nd rfl (Or.inl rfl)) (pss_cons (ps_set (i := 3) sc__law_states.nd rfl (Or.inl rfl) (pe_lst pa_nil)) (pss_cons (ps_for PassesOwn.never rfl (pi_listK (K := K) (pv 1)) (pg_name (i := 4) sc__law_states.nd rfl (Or.inr rfl)) (pss_cons (ps_for PassesOwn.never rfl (pi_range1 rfl (by exact E.g_range) (pa_cons (pe_dget (by exact hu_of hr) (pv 0) pe_str (by intro _ _; rfl)) pa_nil)) (pg_name (i := 5) sc__law_states.nd rfl (Or.inl rfl)) (pss_cons (ps_expr (pe_bmK (K := K) PySem.F.plainAttrs_list PySem.F.slot_list_append PySem.F.type_list_append mt_append (pv 3) (pa_cons (pe_op op_cat (pv 4) (pe_lst (pa_cons (pe_op op_sub (pe_op op_sub (pe_dget (by exact hu_of hr) (pv 0) pe_str (by intro _ _; rfl)) pe_int) (pv 5)) pa_nil))) pa_nil))) pss_nil)) pss_nil)) (pss_cons (ps_set (i := 1) sc__law_states.nd rfl (Or.inl rfl) (pv 3)) pss_nil)))) (pss_cons (ps_setLc (i := 6) (own := [("_law_lamp", 2)]) rfl sc__law_states.nd rfl rfl (sw_true rfl rfl rfl (by decide +kernel)) (pi_range1 rfl (by exact E.g_range) (pa_cons (pe_dget (by exact hu_of hr) (pv 0) pe_str (by intro _ _; rfl)) pa_nil)) (blkOk_by (N := ["_law_world_here", "_law_rows", "_law_lamp", "_law_longer", "_law_row", "_law_k", "_law_places", "_law_states_here", "_law_place"]) (sc := defScope (top 45)) (by decide +kernel)) (fun _ _ _ _ _ => (pg_name (i := 2) sc__law_states.nd rfl (Or.inl rfl))) (fun _ _ _ _ _ => pts_nil) (fun _ _ _ _ _ => (pe_bmK (K := K) PySem.F.plainAttrs_list PySem.F.slot_list_index PySem.F.type_list_index (mt_indexK (K := K)) (pe_dget (by exact hu_of hr) (pv 0) pe_str (by intro _ _; rfl)) (pa_cons (pv 2) pa_nil)))) (pss_cons (ps_set (i := 7) sc__law_states.nd rfl (Or.inl rfl) (pe_lst pa_nil)) (pss_cons (ps_for PassesOwn.never rfl (pi_listK (K := K) (pv 1)) (pg_name (i := 4) sc__law_states.nd rfl (Or.inr rfl)) (pss_cons (ps_expr (pe_bmK (K := K) PySem.F.plainAttrs_list PySem.F.slot_list_append PySem.F.type_list_append mt_append (pv 7) (pa_cons (pe_callTy (call_tupleK (K := K)) rfl (by exact E.g_tuple) (by decide +kernel) (pa_cons (pe_lc (own := [("_law_place", 8)]) rfl sc__law_states.nd (pi_listK (K := K) (pv 6)) (blkOk_by (N := ["_law_world_here", "_law_rows", "_law_lamp", "_law_longer", "_law_row", "_law_k", "_law_places", "_law_states_here", "_law_place"]) (sc := defScope (top 45)) (by decide +kernel)) (fun _ _ _ _ _ => (pg_name (i := 8) sc__law_states.nd rfl (Or.inl rfl))) (fun _ _ _ _ _ => pts_nil) (fun _ _ _ _ _ => (pe_ix (ix_listK (K := K)) (pv 4) (pv 8) (by intro _ _; rfl)))) pa_nil)) pa_nil))) pss_nil)) (pss_cons (ps_ret (pv 7)) pss_nil)))))), ?_⟩
  have hG : Okc [fS S, (tRec k_world A_world).f world_here1165 v0] S := ⟨Same.refl _, h0, True.intro⟩
  have W : Wd S (([] : Ow) ++ F) H := W
  show (_ : TS) _ ([some v0, none, none, none, none, none, none, none, none] : L2.St) H
  refine k_set hG W hm (SimF.sim (simF_lst (simA_ln (SimF.sim (simF_lst (T := tInt) simA_ln0)) simA_ln0))) ?_
  clear hG W hm
  intro rows1168 v1169 S H hG W hm
  refine k_fold (σJ := (fun (bx1171 : (List (List Int))) (wx1171 : V × Option V × Option V × Option V × Option V) => ([some v0, some (wx1171.1), wx1171.2.1, wx1171.2.2.1, wx1171.2.2.2.1, wx1171.2.2.2.2, none, none, none] : L2.St))) (OJ := (fun (bx1171 : (List (List Int))) (wx1171 : V × Option V × Option V × Option V × Option V) => ([] : Ow))) (Fb := (fun (bx1171 : (List (List Int))) (wx1171 : V × Option V × Option V × Option V × Option V) => ([(tL (tL tInt)).f bx1171 (wx1171.1)] : List Fact))) (σT := (fun b w (tx1171 : V) => ((fun (bx1171 : (List (List Int))) (wx1171 : V × Option V × Option V × Option V × Option V) => ([some v0, some (wx1171.1), wx1171.2.1, wx1171.2.2.1, wx1171.2.2.2.1, wx1171.2.2.2.2, none, none, none] : L2.St)) b w).set 2 (some tx1171))) ((v1169, (none), (none), (none), (none)) : V × Option V × Option V × Option V × Option V) hG W hm (simI_list (sim_get (pj_s (pj_s (pj_s pj_0))) rfl (sim_var 2 rfl rfl))) (fun b w => tg_name) (fun b w => List.nil_sublist _) rfl rfl (fun S h => (Okc.cons (Okc.at 0 rfl h) h)) ?_ ?_
  · clear hG W hm
    intro S1 y1172 bx1171 b' wx1171 tx1171 S H hm hG W N hN
    refine k_setO hG W hm (simF_lst (T := (tL tInt)) simA_ln0) ?_
    clear hG W hm
    intro longer1174 p1176 c1177 S H hG W hm
    refine k_fold (σJ := (fun (bx1178 : (List (List Int))) (wx1178 : List Cell × Option V × Option V) => ([some v0, some (wx1171.1), some (tx1171), some (.ref p1176), wx1178.2.1, wx1178.2.2, none, none, none] : L2.St))) (OJ := (fun (bx1178 : (List (List Int))) (wx1178 : List Cell × Option V × Option V) => ([wx1178.1] : Ow))) (Fb := (fun (bx1178 : (List (List Int))) (wx1178 : List Cell × Option V × Option V) => ([(oL (tL tInt)).f bx1178 p1176 (wx1178.1)] : List Fact))) (σT := (fun b w (tx1178 : V) => ((fun (bx1178 : (List (List Int))) (wx1178 : List Cell × Option V × Option V) => ([some v0, some (wx1171.1), some (tx1171), some (.ref p1176), wx1178.2.1, wx1178.2.2, none, none, none] : L2.St)) b w).set 4 (some tx1178))) ((c1177, (wx1171.2.2.2.1), (wx1171.2.2.2.2)) : List Cell × Option V × Option V) hG W hm (simI_list (sim_var 2 rfl rfl)) (fun b w => tg_name) (fun b w => List.nil_sublist _) rfl rfl (fun S h => (Okc.cons (Okc.at 0 rfl h) h)) ?_ ?_
    · clear hG W hm
      intro S1 y1179 bx1178 b' wx1178 tx1178 S H hm hG W N hN
      refine k_fold (σJ := (fun (bx1183 : (List (List Int))) (wx1183 : List Cell × Option V) => ([some v0, some (wx1171.1), some (tx1171), some (.ref p1176), some (tx1178), wx1183.2, none, none, none] : L2.St))) (OJ := (fun (bx1183 : (List (List Int))) (wx1183 : List Cell × Option V) => ([wx1183.1] : Ow))) (Fb := (fun (bx1183 : (List (List Int))) (wx1183 : List Cell × Option V) => ([(oL (tL tInt)).f bx1183 p1176 (wx1183.1)] : List Fact))) (σT := (fun b w (tx1183 : V) => ((fun (bx1183 : (List (List Int))) (wx1183 : List Cell × Option V) => ([some v0, some (wx1171.1), some (tx1171), some (.ref p1176), some (tx1178), wx1183.2, none, none, none] : L2.St)) b w).set 5 (some tx1183))) ((wx1178.1, (wx1178.2.2)) : List Cell × Option V) hG W hm (simI_range1 (sim_get (pj_s pj_0) rfl (sim_var 9 rfl rfl))) (fun b w => tg_name) (fun b w => List.nil_sublist _) rfl rfl (fun S h => (Okc.cons (Okc.at 1 rfl h) h)) ?_ ?_
      · clear hG W hm
        intro S1 y1184 bx1183 b' wx1183 tx1183 S H hm hG W N hN
        refine k_app hG W hm 0 1 rfl rfl rfl (SimF.sim (simF_cat (sim_var 3 rfl rfl) (SimF.sim (simF_lst (simA_ln (sim_sub (sim_sub (sim_get (pj_s pj_0) rfl (sim_var 12 rfl rfl)) sim_int) (sim_var 0 rfl rfl)) simA_ln0))))) ?_
        clear hG W hm
        intro y1195 c1197 S H hG W hm
        revert hG hm; generalize (bx1183 ++ [y1195]) = longer1196; intro hG hm
        cases hm
        refine y_next ?_
        exact hN (c1197, (some (tx1183))) _ _ (Okc.cons (Okc.at 0 rfl hG) (Okc.dr 3 hG)) (W.pick [0] rfl)
      · clear hG W hm
        intro bx1183 wx1183 S H hm hG W
        cases hm
        refine y_next ?_
        exact hN (wx1183.1, (some (tx1178)), (wx1183.2)) _ _ (Okc.cons (Okc.at 0 rfl hG) (Okc.dr 3 hG)) (W.pick [0] rfl)
    · clear hG W hm
      intro bx1178 wx1178 S H hm hG W
      refine k_frz hG W frz_L 0 0 rfl rfl ?_
      clear hG W
      intro S hG W
      refine k_set hG W hm (sim_var 0 rfl rfl) ?_
      clear hG W hm
      intro rows1198 v1199 S H hG W hm
      cases hm
      refine y_next ?_
      exact hN (v1199, (some (tx1171)), (some (.ref p1176)), (wx1178.2.1), (wx1178.2.2)) _ _ (Okc.cons (Okc.at 0 rfl hG) (Okc.dr 6 hG)) (W.pick [] rfl)
  · clear hG W hm
    intro bx1171 wx1171 S H hm hG W
    refine k_set hG W hm (SimF.sim (simF_lc (simI_range1 (sim_get pj_0 rfl (sim_var 3 rfl rfl))) tg_name (fun _ => rfl) (List.nil_sublist _) (fun a w => simT_yes) (fun a w => (sim_index (sim_get (pj_s (pj_s (pj_s pj_0))) rfl (sim_var 4 rfl rfl)) (sim_var 0 rfl rfl))))) ?_
    clear hG W hm
    intro places1207 v1208 S H hG W hm
    refine k_setO hG W hm (simF_lst (T := (tT tInt)) simA_ln0) ?_
    clear hG W hm
    intro states_here1209 p1211 c1212 S H hG W hm
    refine k_fold (σJ := (fun (bx1213 : (List (List Int))) (wx1213 : List Cell × Option V) => ([some v0, some (wx1171.1), wx1171.2.1, wx1171.2.2.1, wx1213.2, wx1171.2.2.2.2, some (v1208), some (.ref p1211), none] : L2.St))) (OJ := (fun (bx1213 : (List (List Int))) (wx1213 : List Cell × Option V) => ([wx1213.1] : Ow))) (Fb := (fun (bx1213 : (List (List Int))) (wx1213 : List Cell × Option V) => ([(oL (tT tInt)).f bx1213 p1211 (wx1213.1)] : List Fact))) (σT := (fun b w (tx1213 : V) => ((fun (bx1213 : (List (List Int))) (wx1213 : List Cell × Option V) => ([some v0, some (wx1171.1), wx1171.2.1, wx1171.2.2.1, wx1213.2, wx1171.2.2.2.2, some (v1208), some (.ref p1211), none] : L2.St)) b w).set 4 (some tx1213))) ((c1212, (wx1171.2.2.2.1)) : List Cell × Option V) hG W hm (simI_list (sim_var 2 rfl rfl)) (fun b w => tg_name) (fun b w => List.nil_sublist _) rfl rfl (fun S h => (Okc.cons (Okc.at 0 rfl h) h)) ?_ ?_
    · clear hG W hm
      intro S1 y1214 bx1213 b' wx1213 tx1213 S H hm hG W N hN
      refine k_app hG W hm 0 1 rfl rfl rfl (sim_tuple (SimF.sim (simF_lc (simI_list (sim_var 4 rfl rfl)) tg_name (fun _ => rfl) (List.nil_sublist _) (fun a w => simT_yes) (fun a w => (sim_ix (sim_var 1 rfl rfl) (sim_var 0 rfl rfl)))))) ?_
      clear hG W hm
      intro y1220 c1222 S H hG W hm
      revert hG hm; generalize (bx1213 ++ [y1220]) = states_here1221; intro hG hm
      cases hm
      refine y_next ?_
      exact hN (c1222, (some (tx1213))) _ _ (Okc.cons (Okc.at 0 rfl hG) (Okc.dr 3 hG)) (W.pick [0] rfl)
    · clear hG W hm
      intro bx1213 wx1213 S H hm hG W
      refine k_frz hG W frz_L 0 0 rfl rfl ?_
      clear hG W
      intro S hG W
      exact k_ret hG W hm (sim_var 0 rfl rfl) (fun v S H hG W hr => k v S H (Okc.at 6 rfl hG) (W.pick [] rfl) hr)
theorem sc__law_mirror : FnScope ["_law_world_here", "_law_state_here", "_law_hue"] ["_law_world_here", "_law_state_here"] (defScope (top 46)) := ⟨rfl, rfl, rfl, by decide +kernel, rfl, by decide +kernel, by decide +kernel⟩
theorem ok__law_mirror (E : EnvF K mg) : Cal CX0 P w K mg base 1 "_law_mirror" (spP (TyA.c (tRec k_world A_world) (TyA.one (tT tInt))) (fun a => m__law_mirror a.1 a.2) (tT tInt)) := by
  refine cal_mk (k := 0) E.d__law_mirror sc__law_mirror (fun vs H Q E h => by obtain ⟨S, F, a, r, ⟨_, _, rfl, _, ⟨_, rfl, _⟩⟩, _⟩ := h; rfl) (fun _ _ _ _ _ _ us hl => match us, hl with | [_, _], _ => rfl) ?_
  rintro f cdv A outer s H vs Q EX hr ⟨S, F, ⟨world_here1223, state_here1224⟩, out, ⟨v0, _, rfl, h0, ⟨v1, rfl, h1⟩⟩, W, hm, k⟩
  refine ⟨_, PSs.nox (pss_cons (ps_ret (pe_callTy (call_tupleK (K := K)) rfl (by exact E.g_tuple) (by decide +kernel) (pa_cons (pe_lc (own := [("_law_hue", 2)]) rfl sc__law_mirror.nd (pi_tupK (K := K) (pv 1)) (blkOk_by (N := ["_law_world_here", "_law_state_here", "_law_hue"]) (sc := defScope (top 46)) (by decide +kernel)) (fun _ _ _ _ _ => (pg_name (i := 2) sc__law_mirror.nd rfl (Or.inl rfl))) (fun _ _ _ _ _ => pts_nil) (fun _ _ _ _ _ => (pe_op op_sub (pe_op op_sub (pe_dget (by exact hu_of hr) (pv 0) pe_str (by intro _ _; rfl)) pe_int) (pv 2)))) pa_nil))) pss_nil), ?_⟩
  have hG : Okc [fS S, (tRec k_world A_world).f world_here1223 v0, (tT tInt).f state_here1224 v1] S := ⟨Same.refl _, h0, h1, True.intro⟩
  have W : Wd S (([] : Ow) ++ F) H := W
  show (_ : TS) _ ([some v0, some v1, none] : L2.St) H
  exact k_ret hG W hm (sim_tuple (SimF.sim (simF_lc (simI_tup (sim_var 2 rfl rfl)) tg_name (fun _ => rfl) (List.nil_sublist _) (fun a w => simT_yes) (fun a w => (sim_sub (sim_sub (sim_get (pj_s pj_0) rfl (sim_var 2 rfl rfl)) sim_int) (sim_var 0 rfl rfl)))))) (fun v S H hG W hr => k v S H (Okc.at 0 rfl hG) (W.pick [] rfl) hr)
theorem sc__law_is_integer : FnScope ["_law_value"] ["_law_value"] (defScope (top 47)) := ⟨rfl, rfl, rfl, by decide +kernel, rfl, by decide +kernel, by decide +kernel⟩
theorem ok__law_is_integer (E : EnvF K mg) : Cal CX0 P w K mg base 1 "_law_is_integer" (spP (TyA.one tInt) (fun a => m__law_is_integer a) tBool) := by
  refine cal_mk (k := 0) E.d__law_is_integer sc__law_is_integer (fun vs H Q E h => by obtain ⟨S, F, a, r, ⟨_, rfl, _⟩, _⟩ := h; rfl) (fun _ _ _ _ _ _ us hl => match us, hl with | [_], _ => rfl) ?_
  rintro f cdv A outer s H vs Q EX hr ⟨S, F, value1232, out, ⟨v0, rfl, h0⟩, W, hm, k⟩
  refine ⟨_, PSs.nox (pss_cons (ps_ret (pe_and (pe_callB (call_isiKK (K := K)) rfl (by exact E.g_isinstance) (by decide +kernel) (pa_cons (pv 0) (pa_cons (pe_bltn (v := .ty "int") (u := .type "int") rfl (by exact E.g_int) (by decide +kernel) rfl) pa_nil))) (pe_one (pe_not (pe_callB (call_isiKK (K := K)) rfl (by exact E.g_isinstance) (by decide +kernel) (pa_cons (pv 0) (pa_cons (pe_bltn (v := .ty "bool") (u := .type "bool") rfl (by exact E.g_bool) (by decide +kernel) rfl) pa_nil))))))) pss_nil), ?_⟩
  have hG : Okc [fS S, tInt.f value1232 v0] S := ⟨Same.refl _, h0, True.intro⟩
  have W : Wd S (([] : Ow) ++ F) H := W
  show (_ : TS) _ ([some v0] : L2.St) H
  exact k_ret hG W hm (sim_andV (sim_isi isI_int_int (sim_var 1 rfl rfl)) (sim_notV (sim_isi isI_int_bool (sim_var 1 rfl rfl)))) (fun v S H hG W hr => k v S H (Okc.at 0 rfl hG) (W.pick [] rfl) hr)
theorem sc__law_apart : FnScope ["_law_world_here", "_law_lamp", "_law_row", "_law_near", "_law_other"] ["_law_world_here", "_law_lamp", "_law_row"] (defScope (top 48)) := ⟨rfl, rfl, rfl, by decide +kernel, rfl, by decide +kernel, by decide +kernel⟩
theorem ok__law_apart (E : EnvF K mg) : Cal CX0 P w K mg base 1 "_law_apart" (spP (TyA.c (tRec k_world A_world) (TyA.c tInt (TyA.one (tL tInt)))) (fun a => m__law_apart a.1 a.2.1 a.2.2) tBool) := by
  refine cal_mk (k := 0) E.d__law_apart sc__law_apart (fun vs H Q E h => by obtain ⟨S, F, a, r, ⟨_, _, rfl, _, ⟨_, _, rfl, _, ⟨_, rfl, _⟩⟩⟩, _⟩ := h; rfl) (fun _ _ _ _ _ _ us hl => match us, hl with | [_, _, _], _ => rfl) ?_
  rintro f cdv A outer s H vs Q EX hr ⟨S, F, ⟨world_here1235, lamp1236, row1237⟩, out, ⟨v0, _, rfl, h0, ⟨v1, _, rfl, h1, ⟨v2, rfl, h2⟩⟩⟩, W, hm, k⟩
  refine ⟨_, PSs.nox (pss_cons (ps_set (i := 3) sc__law_apart.nd rfl (Or.inr rfl) (pe_op op_cat (pe_ix (ix_listK (K := K)) (pe_dget (by exact hu_of hr) (pv 0) pe_str (by intro _ _; rfl)) (pv 1) (by intro _ _; rfl)) (pe_ix (ix_listK (K := K)) (pe_dget (by exact hu_of hr) (pv 0) pe_str (by intro _ _; rfl)) (pv 1) (by intro _ _; rfl)))) (pss_cons (ps_ret (pe_cmpR (op_eqDK (K := K) (by exact hu64 hr)) (pe_lc (own := [("_law_other", 4)]) rfl sc__law_apart.nd (pi_listK (K := K) (pv 2)) (blkOk_by (N := ["_law_world_here", "_law_lamp", "_law_row", "_law_near", "_law_other"]) (sc := defScope (top 48)) (by decide +kernel)) (fun _ _ _ _ _ => (pg_name (i := 4) sc__law_apart.nd rfl (Or.inl rfl))) (fun _ _ _ _ _ => (pts_one (pt_cmpR (op_inDK (K := K) (by exact hu65 hr)) (pv 4) (pv 3) (by with_unfolding_all rfl)))) (fun _ _ _ _ _ => (pv 4))) (pe_lst pa_nil) (nomark _))) pss_nil)), ?_⟩
  have hG : Okc [fS S, (tRec k_world A_world).f world_here1235 v0, tInt.f lamp1236 v1, (tL tInt).f row1237 v2] S := ⟨Same.refl _, h0, h1, h2, True.intro⟩
  have W : Wd S (([] : Ow) ++ F) H := W
  show (_ : TS) _ ([some v0, some v1, some v2, none, none] : L2.St) H
  refine k_set hG W hm (SimF.sim (simF_cat (sim_ix (sim_get (pj_s (pj_s (pj_s (pj_s pj_0)))) rfl (sim_var 1 rfl rfl)) (sim_var 2 rfl rfl)) (sim_ix (sim_get (pj_s (pj_s (pj_s (pj_s (pj_s pj_one))))) rfl (sim_var 1 rfl rfl)) (sim_var 2 rfl rfl)))) ?_
  clear hG W hm
  intro near1246 v1247 S H hG W hm
  exact k_ret hG W hm (sim_eqD (SimF.sim (simF_lc (simI_list (sim_var 4 rfl rfl)) tg_name (fun _ => rfl) (List.nil_sublist _) (fun a w => (simT_test (sim_in (sim_var 0 rfl rfl) (sim_var 1 rfl rfl)))) (fun a w => (sim_var 0 rfl rfl)))) (SimF.sim (simF_lst (T := tInt) simA_ln0))) (fun v S H hG W hr => k v S H (Okc.at 1 rfl hG) (W.pick [] rfl) hr)
theorem sc__law_antichains : FnScope ["_law_world_here", "_law_lamps", "_law_rows", "_law_lamp", "_law_longer", "_law_row"] ["_law_world_here", "_law_lamps"] (defScope (top 49)) := ⟨rfl, rfl, rfl, by decide +kernel, rfl, by decide +kernel, by decide +kernel⟩
theorem ok__law_antichains (E : EnvF K mg) : Cal CX0 P w K mg base 2 "_law_antichains" (spP (TyA.c (tRec k_world A_world) (TyA.one (tL tInt))) (fun a => m__law_antichains a.1 a.2) (tL (tL tInt))) := by
  refine cal_mk (k := 1) E.d__law_antichains sc__law_antichains (fun vs H Q E h => by obtain ⟨S, F, a, r, ⟨_, _, rfl, _, ⟨_, rfl, _⟩⟩, _⟩ := h; rfl) (fun _ _ _ _ _ _ us hl => match us, hl with | [_, _], _ => rfl) ?_
  rintro f cdv A outer s H vs Q EX hr ⟨S, F, ⟨world_here1254, lamps1255⟩, out, ⟨v0, _, rfl, h0, ⟨v1, rfl, h1⟩⟩, W, hm, k⟩
  refine ⟨_, PSs.nox (pss_cons (ps_set (i := 2) sc__law_antichains.nd rfl (Or.inl rfl) (pe_lst (pa_cons (pe_lst pa_nil) pa_nil))) (pss_cons (ps_for PassesOwn.never rfl (pi_listK (K := K) (pv 1)) (pg_name (i := 3) sc__law_antichains.nd rfl (Or.inr rfl)) (pss_cons (ps_setLc (i := 4) (own := [("_law_row", 5)]) rfl sc__law_antichains.nd rfl rfl (sw_true rfl rfl rfl (by decide +kernel)) (pi_listK (K := K) (pv 2)) (blkOk_by (N := ["_law_world_here", "_law_lamps", "_law_rows", "_law_lamp", "_law_longer", "_law_row"]) (sc := defScope (top 49)) (by decide +kernel)) (fun _ _ _ _ _ => (pg_name (i := 5) sc__law_antichains.nd rfl (Or.inl rfl))) (fun _ _ _ _ _ => (pts_one (pt_val (pe_cal (ok__law_apart E) (by exact hr) (by first | decide | omega) (by rfl) pass0 (pa_cons (pv 0) (pa_cons (pv 3) (pa_cons (pv 5) pa_nil))))))) (fun _ _ _ _ _ => (pe_op op_cat (pv 5) (pe_lst (pa_cons (pv 3) pa_nil))))) (pss_cons (ps_set (i := 2) sc__law_antichains.nd rfl (Or.inl rfl) (pe_op op_cat (pv 2) (pv 4))) pss_nil))) (pss_cons (ps_ret (pv 2)) pss_nil))), ?_⟩
  have hG : Okc [fS S, (tRec k_world A_world).f world_here1254 v0, (tL tInt).f lamps1255 v1] S := ⟨Same.refl _, h0, h1, True.intro⟩
  have W : Wd S (([] : Ow) ++ F) H := W
  show (_ : TS) _ ([some v0, some v1, none, none, none, none] : L2.St) H
  refine k_set hG W hm (SimF.sim (simF_lst (simA_ln (SimF.sim (simF_lst (T := tInt) simA_ln0)) simA_ln0))) ?_
  clear hG W hm
  intro rows1258 v1259 S H hG W hm
  refine k_fold (σJ := (fun (bx1260 : (List (List Int))) (wx1260 : V × Option V × Option V) => ([some v0, some v1, some (wx1260.1), wx1260.2.1, wx1260.2.2, none] : L2.St))) (OJ := (fun (bx1260 : (List (List Int))) (wx1260 : V × Option V × Option V) => ([] : Ow))) (Fb := (fun (bx1260 : (List (List Int))) (wx1260 : V × Option V × Option V) => ([(tL (tL tInt)).f bx1260 (wx1260.1)] : List Fact))) (σT := (fun b w (tx1260 : V) => ((fun (bx1260 : (List (List Int))) (wx1260 : V × Option V × Option V) => ([some v0, some v1, some (wx1260.1), wx1260.2.1, wx1260.2.2, none] : L2.St)) b w).set 3 (some tx1260))) ((v1259, (none), (none)) : V × Option V × Option V) hG W hm (simI_list (sim_var 3 rfl rfl)) (fun b w => tg_name) (fun b w => List.nil_sublist _) rfl rfl (fun S h => (Okc.cons (Okc.at 0 rfl h) h)) ?_ ?_
  · clear hG W hm
    intro S1 y1261 bx1260 b' wx1260 tx1260 S H hm hG W N hN
    refine k_set hG W hm (SimF.sim (simF_lc (simI_list (sim_var 1 rfl rfl)) tg_name (fun _ => rfl) (List.nil_sublist _) (fun a w => (simT_B (sim_call (simA_c (sim_var 6 rfl rfl) (simA_c (sim_var 1 rfl rfl) (simA_one (sim_var 0 rfl rfl))))))) (fun a w => (SimF.sim (simF_cat (sim_var 0 rfl rfl) (SimF.sim (simF_lst (simA_ln (sim_var 1 rfl rfl) simA_ln0)))))))) ?_
    clear hG W hm
    intro longer1274 v1275 S H hG W hm
    refine k_set hG W hm (SimF.sim (simF_cat (sim_var 2 rfl rfl) (sim_var 0 rfl rfl))) ?_
    clear hG W hm
    intro rows1278 v1279 S H hG W hm
    cases hm
    refine y_next ?_
    exact hN (v1279, (some (tx1260)), (some (v1275))) _ _ (Okc.cons (Okc.at 0 rfl hG) (Okc.dr 4 hG)) (W.pick [] rfl)
  · clear hG W hm
    intro bx1260 wx1260 S H hm hG W
    exact k_ret hG W hm (sim_var 0 rfl rfl) (fun v S H hG W hr => k v S H (Okc.at 2 rfl hG) (W.pick [] rfl) hr)
theorem sc__law_covered : FnScope ["_law_world_here", "_law_row", "_law_under", "_law_lamp"] ["_law_world_here", "_law_row"] (defScope (top 50)) := ⟨rfl, rfl, rfl, by decide +kernel, rfl, by decide +kernel, by decide +kernel⟩
theorem ok__law_covered (E : EnvF K mg) : Cal CX0 P w K mg base 1 "_law_covered" (spP (TyA.c (tRec k_world A_world) (TyA.one (tL tInt))) (fun a => m__law_covered a.1 a.2) tInt) := by
  refine cal_mk (k := 0) E.d__law_covered sc__law_covered (fun vs H Q E h => by obtain ⟨S, F, a, r, ⟨_, _, rfl, _, ⟨_, rfl, _⟩⟩, _⟩ := h; rfl) (fun _ _ _ _ _ _ us hl => match us, hl with | [_, _], _ => rfl) ?_
  rintro f cdv A outer s H vs Q EX hr ⟨S, F, ⟨world_here1280, row1281⟩, out, ⟨v0, _, rfl, h0, ⟨v1, rfl, h1⟩⟩, W, hm, k⟩
  refine ⟨_, PSs.nox (pss_cons (ps_set (i := 2) sc__law_covered.nd rfl (Or.inr rfl) (pe_lst pa_nil)) (pss_cons (ps_for PassesOwn.never rfl (pi_listK (K := K) (pv 1)) (pg_name (i := 3) sc__law_covered.nd rfl (Or.inl rfl)) (pss_cons (ps_set (i := 2) sc__law_covered.nd rfl (Or.inr rfl) (pe_op op_cat (pv 2) (pe_ix (ix_listK (K := K)) (pe_dget (by exact hu_of hr) (pv 0) pe_str (by intro _ _; rfl)) (pv 3) (by intro _ _; rfl)))) pss_nil)) (pss_cons (ps_ret (pe_callB (call_lenK (K := K)) rfl (by exact E.g_len) boot_len (pa_cons (pe_lc (own := [("_law_lamp", 3)]) rfl sc__law_covered.nd (pi_range1 rfl (by exact E.g_range) (pa_cons (pe_dget (by exact hu_of hr) (pv 0) pe_str (by intro _ _; rfl)) pa_nil)) (blkOk_by (N := ["_law_world_here", "_law_row", "_law_under", "_law_lamp"]) (sc := defScope (top 50)) (by decide +kernel)) (fun _ _ _ _ _ => (pg_name (i := 3) sc__law_covered.nd rfl (Or.inl rfl))) (fun _ _ _ _ _ => (pts_one (pt_cmpR (op_inDK (K := K) (by exact hu65 hr)) (pv 3) (pv 2) (by with_unfolding_all rfl)))) (fun _ _ _ _ _ => (pv 3))) pa_nil))) pss_nil))), ?_⟩
  have hG : Okc [fS S, (tRec k_world A_world).f world_here1280 v0, (tL tInt).f row1281 v1] S := ⟨Same.refl _, h0, h1, True.intro⟩
  have W : Wd S (([] : Ow) ++ F) H := W
  show (_ : TS) _ ([some v0, some v1, none, none] : L2.St) H
  refine k_set hG W hm (SimF.sim (simF_lst (T := tInt) simA_ln0)) ?_
  clear hG W hm
  intro under1282 v1283 S H hG W hm
  refine k_fold (σJ := (fun (bx1284 : (List Int)) (wx1284 : V × Option V) => ([some v0, some v1, some (wx1284.1), wx1284.2] : L2.St))) (OJ := (fun (bx1284 : (List Int)) (wx1284 : V × Option V) => ([] : Ow))) (Fb := (fun (bx1284 : (List Int)) (wx1284 : V × Option V) => ([(tL tInt).f bx1284 (wx1284.1)] : List Fact))) (σT := (fun b w (tx1284 : V) => ((fun (bx1284 : (List Int)) (wx1284 : V × Option V) => ([some v0, some v1, some (wx1284.1), wx1284.2] : L2.St)) b w).set 3 (some tx1284))) ((v1283, (none)) : V × Option V) hG W hm (simI_list (sim_var 3 rfl rfl)) (fun b w => tg_name) (fun b w => List.nil_sublist _) rfl rfl (fun S h => (Okc.cons (Okc.at 0 rfl h) h)) ?_ ?_
  · clear hG W hm
    intro S1 y1285 bx1284 b' wx1284 tx1284 S H hm hG W N hN
    refine k_set hG W hm (SimF.sim (simF_cat (sim_var 1 rfl rfl) (sim_ix (sim_get (pj_s (pj_s (pj_s (pj_s pj_0)))) rfl (sim_var 5 rfl rfl)) (sim_var 0 rfl rfl)))) ?_
    clear hG W hm
    intro under1292 v1293 S H hG W hm
    cases hm
    refine y_next ?_
    exact hN (v1293, (some (tx1284))) _ _ (Okc.cons (Okc.at 0 rfl hG) (Okc.dr 3 hG)) (W.pick [] rfl)
  · clear hG W hm
    intro bx1284 wx1284 S H hm hG W
    exact k_ret hG W hm (sim_len (SimF.sim (simF_lc (simI_range1 (sim_get pj_0 rfl (sim_var 3 rfl rfl))) tg_name (fun _ => rfl) (List.nil_sublist _) (fun a w => (simT_test (sim_in (sim_var 0 rfl rfl) (sim_var 1 rfl rfl)))) (fun a w => (sim_var 0 rfl rfl))))) (fun v S H hG W hr => k v S H (Okc.at 2 rfl hG) (W.pick [] rfl) hr)
theorem sc__law_pairs : FnScope ["_law_world_here", "_law_hues_here", "_law_number", "_law_row", "_law_under", "_law_falls"] ["_law_world_here"] (defScope (top 51)) := ⟨rfl, rfl, rfl, by decide +kernel, rfl, by decide +kernel, by decide +kernel⟩
theorem ok__law_pairs (E : EnvF K mg) : Cal CX0 P w K mg base 3 "_law_pairs" (spP (TyA.one (tRec k_world A_world)) (fun a => m__law_pairs a) tInt) := by
  refine cal_mk (k := 2) E.d__law_pairs sc__law_pairs (fun vs H Q E h => by obtain ⟨S, F, a, r, ⟨_, rfl, _⟩, _⟩ := h; rfl) (fun _ _ _ _ _ _ us hl => match us, hl with | [_], _ => rfl) ?_
  rintro f cdv A outer s H vs Q EX hr ⟨S, F, world_here1301, out, ⟨v0, rfl, h0⟩, W, hm, k⟩
  refine ⟨_, PSs.nox (pss_cons (ps_set (i := 1) sc__law_pairs.nd rfl (Or.inl rfl) (pe_dget (by exact hu_of hr) (pv 0) pe_str (by intro _ _; rfl))) (pss_cons (ps_set (i := 2) sc__law_pairs.nd rfl (Or.inl rfl) pe_int) (pss_cons (ps_for PassesOwn.never rfl (pi_listK (K := K) (pe_cal (ok__law_antichains E) (by exact hr) (by first | decide | omega) (by rfl) pass0 (pa_cons (pv 0) (pa_cons (pe_dget (by exact hu_of hr) (pv 0) pe_str (by intro _ _; rfl)) pa_nil)))) (pg_name (i := 3) sc__law_pairs.nd rfl (Or.inl rfl)) (pss_cons (ps_set (i := 4) sc__law_pairs.nd rfl (Or.inl rfl) (pe_cal (ok__law_covered E) (by exact hr) (by first | decide | omega) (by rfl) pass0 (pa_cons (pv 0) (pa_cons (pv 3) pa_nil)))) (pss_cons (ps_set (i := 5) sc__law_pairs.nd rfl (Or.inl rfl) (pe_cal (ok__law_power E) (by exact hr) (by first | decide | omega) (by rfl) pass0 (pa_cons (pe_op op_fdiv (pe_op op_mulW (pv 1) (pe_op op_sub (pv 1) pe_int)) pe_int) (pa_cons (pe_callB (call_lenK (K := K)) rfl (by exact E.g_len) boot_len (pa_cons (pv 3) pa_nil)) pa_nil)))) (pss_cons (ps_set (i := 2) sc__law_pairs.nd rfl (Or.inl rfl) (pe_op op_add (pv 2) (pe_op op_mulW (pv 5) (pe_cal (ok__law_power E) (by exact hr) (by first | decide | omega) (by rfl) pass0 (pa_cons (pv 1) (pa_cons (pe_op op_add (pe_op op_sub (pe_dget (by exact hu_of hr) (pv 0) pe_str (by intro _ _; rfl)) (pe_callB (call_lenK (K := K)) rfl (by exact E.g_len) boot_len (pa_cons (pv 3) pa_nil))) (pv 4)) pa_nil)))))) pss_nil)))) (pss_cons (ps_ret (pv 2)) pss_nil)))), ?_⟩
  have hG : Okc [fS S, (tRec k_world A_world).f world_here1301 v0] S := ⟨Same.refl _, h0, True.intro⟩
  have W : Wd S (([] : Ow) ++ F) H := W
  show (_ : TS) _ ([some v0, none, none, none, none, none] : L2.St) H
  refine k_set hG W hm (sim_get (pj_s pj_0) rfl (sim_var 1 rfl rfl)) ?_
  clear hG W hm
  intro hues_here1303 v1304 S H hG W hm
  refine k_set hG W hm sim_int ?_
  clear hG W hm
  intro number1305 v1306 S H hG W hm
  refine k_fold (σJ := (fun (bx1311 : Int) (wx1311 : V × Option V × Option V × Option V) => ([some v0, some (v1304), some (wx1311.1), wx1311.2.1, wx1311.2.2.1, wx1311.2.2.2] : L2.St))) (OJ := (fun (bx1311 : Int) (wx1311 : V × Option V × Option V × Option V) => ([] : Ow))) (Fb := (fun (bx1311 : Int) (wx1311 : V × Option V × Option V × Option V) => ([tInt.f bx1311 (wx1311.1)] : List Fact))) (σT := (fun b w (tx1311 : V) => ((fun (bx1311 : Int) (wx1311 : V × Option V × Option V × Option V) => ([some v0, some (v1304), some (wx1311.1), wx1311.2.1, wx1311.2.2.1, wx1311.2.2.2] : L2.St)) b w).set 3 (some tx1311))) ((v1306, (none), (none), (none)) : V × Option V × Option V × Option V) hG W hm (simI_list (sim_call (simA_c (sim_var 3 rfl rfl) (simA_one (sim_get (pj_s (pj_s (pj_s pj_0))) rfl (sim_var 3 rfl rfl)))))) (fun b w => tg_name) (fun b w => List.nil_sublist _) rfl rfl (fun S h => (Okc.cons (Okc.at 0 rfl h) h)) ?_ ?_
  · clear hG W hm
    intro S1 y1312 bx1311 b' wx1311 tx1311 S H hm hG W N hN
    refine k_set hG W hm (sim_call (simA_c (sim_var 6 rfl rfl) (simA_one (sim_var 0 rfl rfl)))) ?_
    clear hG W hm
    intro under1317 v1318 S H hG W hm
    refine k_set hG W hm (sim_call (simA_c (sim_div (sim_mul (sim_var 5 rfl rfl) (sim_sub (sim_var 5 rfl rfl) sim_int)) sim_int) (simA_one (sim_len (sim_var 1 rfl rfl))))) ?_
    clear hG W hm
    intro falls1329 v1330 S H hG W hm
    refine k_set hG W hm (sim_add (sim_var 3 rfl rfl) (sim_mul (sim_var 0 rfl rfl) (sim_call (simA_c (sim_var 6 rfl rfl) (simA_one (sim_add (sim_sub (sim_get pj_0 rfl (sim_var 8 rfl rfl)) (sim_len (sim_var 2 rfl rfl))) (sim_var 1 rfl rfl))))))) ?_
    clear hG W hm
    intro number1344 v1345 S H hG W hm
    cases hm
    refine y_next ?_
    exact hN (v1345, (some (tx1311)), (some (v1318)), (some (v1330))) _ _ (Okc.cons (Okc.at 0 rfl hG) (Okc.dr 5 hG)) (W.pick [] rfl)
  · clear hG W hm
    intro bx1311 wx1311 S H hm hG W
    exact k_ret hG W hm (sim_var 0 rfl rfl) (fun v S H hG W hr => k v S H (Okc.at 3 rfl hG) (W.pick [] rfl) hr)
theorem sc__law_lower : FnScope ["_law_world_here", "_law_state_here", "_law_number", "_law_lit", "_law_row", "_law_ways", "_law_lamp"] ["_law_world_here", "_law_state_here"] (defScope (top 52)) := ⟨rfl, rfl, rfl, by decide +kernel, rfl, by decide +kernel, by decide +kernel⟩
theorem ok__law_lower (E : EnvF K mg) : Cal CX0 P w K mg base 3 "_law_lower" (spP (TyA.c (tRec k_world A_world) (TyA.one (tT tInt))) (fun a => m__law_lower a.1 a.2) tInt) := by
  refine cal_mk (k := 2) E.d__law_lower sc__law_lower (fun vs H Q E h => by obtain ⟨S, F, a, r, ⟨_, _, rfl, _, ⟨_, rfl, _⟩⟩, _⟩ := h; rfl) (fun _ _ _ _ _ _ us hl => match us, hl with | [_, _], _ => rfl) ?_
  rintro f cdv A outer s H vs Q EX hr ⟨S, F, ⟨world_here1346, state_here1347⟩, out, ⟨v0, _, rfl, h0, ⟨v1, rfl, h1⟩⟩, W, hm, k⟩
  refine ⟨_, PSs.nox (pss_cons (ps_set (i := 2) sc__law_lower.nd rfl (Or.inl rfl) pe_int) (pss_cons (ps_setLc (i := 3) (own := [("_law_lamp", 6)]) rfl sc__law_lower.nd rfl rfl (sw_true rfl rfl rfl (by decide +kernel)) (pi_listK (K := K) (pe_dget (by exact hu_of hr) (pv 0) pe_str (by intro _ _; rfl))) (blkOk_by (N := ["_law_world_here", "_law_state_here", "_law_number", "_law_lit", "_law_row", "_law_ways", "_law_lamp"]) (sc := defScope (top 52)) (by decide +kernel)) (fun _ _ _ _ _ => (pg_name (i := 6) sc__law_lower.nd rfl (Or.inl rfl))) (fun _ _ _ _ _ => (pts_one (pt_cmpR op_gt (pe_ix (ix_tupK (K := K)) (pv 1) (pv 6) (by intro _ _; rfl)) pe_int (nomark _)))) (fun _ _ _ _ _ => (pv 6))) (pss_cons (ps_for PassesOwn.never rfl (pi_listK (K := K) (pe_cal (ok__law_antichains E) (by exact hr) (by first | decide | omega) (by rfl) pass0 (pa_cons (pv 0) (pa_cons (pv 3) pa_nil)))) (pg_name (i := 4) sc__law_lower.nd rfl (Or.inl rfl)) (pss_cons (ps_set (i := 5) sc__law_lower.nd rfl (Or.inl rfl) (pe_cal (ok__law_power E) (by exact hr) (by first | decide | omega) (by rfl) pass0 (pa_cons (pe_dget (by exact hu_of hr) (pv 0) pe_str (by intro _ _; rfl)) (pa_cons (pe_cal (ok__law_covered E) (by exact hr) (by first | decide | omega) (by rfl) pass0 (pa_cons (pv 0) (pa_cons (pv 4) pa_nil))) pa_nil)))) (pss_cons (ps_for PassesOwn.never rfl (pi_listK (K := K) (pv 4)) (pg_name (i := 6) sc__law_lower.nd rfl (Or.inl rfl)) (pss_cons (ps_set (i := 5) sc__law_lower.nd rfl (Or.inl rfl) (pe_op op_mulW (pv 5) (pe_ix (ix_tupK (K := K)) (pv 1) (pv 6) (by intro _ _; rfl)))) pss_nil)) (pss_cons (ps_set (i := 2) sc__law_lower.nd rfl (Or.inl rfl) (pe_op op_add (pv 2) (pv 5))) pss_nil)))) (pss_cons (ps_ret (pv 2)) pss_nil)))), ?_⟩
  have hG : Okc [fS S, (tRec k_world A_world).f world_here1346 v0, (tT tInt).f state_here1347 v1] S := ⟨Same.refl _, h0, h1, True.intro⟩
  have W : Wd S (([] : Ow) ++ F) H := W
  show (_ : TS) _ ([some v0, some v1, none, none, none, none, none] : L2.St) H
  refine k_set hG W hm sim_int ?_
  clear hG W hm
  intro number1348 v1349 S H hG W hm
  refine k_set hG W hm (SimF.sim (simF_lc (simI_list (sim_get (pj_s (pj_s (pj_s pj_0))) rfl (sim_var 2 rfl rfl))) tg_name (fun _ => rfl) (List.nil_sublist _) (fun a w => (simT_test (sim_gt (sim_ixT (sim_var 4 rfl rfl) (sim_var 0 rfl rfl)) sim_int))) (fun a w => (sim_var 0 rfl rfl)))) ?_
  clear hG W hm
  intro lit1357 v1358 S H hG W hm
  refine k_fold (σJ := (fun (bx1362 : Int) (wx1362 : V × Option V × Option V × Option V) => ([some v0, some v1, some (wx1362.1), some (v1358), wx1362.2.1, wx1362.2.2.1, wx1362.2.2.2] : L2.St))) (OJ := (fun (bx1362 : Int) (wx1362 : V × Option V × Option V × Option V) => ([] : Ow))) (Fb := (fun (bx1362 : Int) (wx1362 : V × Option V × Option V × Option V) => ([tInt.f bx1362 (wx1362.1)] : List Fact))) (σT := (fun b w (tx1362 : V) => ((fun (bx1362 : Int) (wx1362 : V × Option V × Option V × Option V) => ([some v0, some v1, some (wx1362.1), some (v1358), wx1362.2.1, wx1362.2.2.1, wx1362.2.2.2] : L2.St)) b w).set 4 (some tx1362))) ((v1349, (none), (none), (none)) : V × Option V × Option V × Option V) hG W hm (simI_list (sim_call (simA_c (sim_var 3 rfl rfl) (simA_one (sim_var 0 rfl rfl))))) (fun b w => tg_name) (fun b w => List.nil_sublist _) rfl rfl (fun S h => (Okc.cons (Okc.at 1 rfl h) h)) ?_ ?_
  · clear hG W hm
    intro S1 y1363 bx1362 b' wx1362 tx1362 S H hm hG W N hN
    refine k_set hG W hm (sim_call (simA_c (sim_get (pj_s pj_0) rfl (sim_var 6 rfl rfl)) (simA_one (sim_call (simA_c (sim_var 6 rfl rfl) (simA_one (sim_var 0 rfl rfl))))))) ?_
    clear hG W hm
    intro ways1372 v1373 S H hG W hm
    refine k_fold (σJ := (fun (bx1374 : Int) (wx1374 : V × Option V) => ([some v0, some v1, some (wx1362.1), some (v1358), some (tx1362), some (wx1374.1), wx1374.2] : L2.St))) (OJ := (fun (bx1374 : Int) (wx1374 : V × Option V) => ([] : Ow))) (Fb := (fun (bx1374 : Int) (wx1374 : V × Option V) => ([tInt.f bx1374 (wx1374.1)] : List Fact))) (σT := (fun b w (tx1374 : V) => ((fun (bx1374 : Int) (wx1374 : V × Option V) => ([some v0, some v1, some (wx1362.1), some (v1358), some (tx1362), some (wx1374.1), wx1374.2] : L2.St)) b w).set 6 (some tx1374))) ((v1373, (wx1362.2.2.2)) : V × Option V) hG W hm (simI_list (sim_var 1 rfl rfl)) (fun b w => tg_name) (fun b w => List.nil_sublist _) rfl rfl (fun S h => (Okc.cons (Okc.at 0 rfl h) h)) ?_ ?_
    · clear hG W hm
      intro S1 y1375 bx1374 b' wx1374 tx1374 S H hm hG W N hN
      refine k_set hG W hm (sim_mul (sim_var 1 rfl rfl) (sim_ixT (sim_var 11 rfl rfl) (sim_var 0 rfl rfl))) ?_
      clear hG W hm
      intro ways1381 v1382 S H hG W hm
      cases hm
      refine y_next ?_
      exact hN (v1382, (some (tx1374))) _ _ (Okc.cons (Okc.at 0 rfl hG) (Okc.dr 3 hG)) (W.pick [] rfl)
    · clear hG W hm
      intro bx1374 wx1374 S H hm hG W
      refine k_set hG W hm (sim_add (sim_var 3 rfl rfl) (sim_var 0 rfl rfl)) ?_
      clear hG W hm
      intro number1385 v1386 S H hG W hm
      cases hm
      refine y_next ?_
      exact hN (v1386, (some (tx1362)), (some (wx1374.1)), (wx1374.2)) _ _ (Okc.cons (Okc.at 0 rfl hG) (Okc.dr 5 hG)) (W.pick [] rfl)
  · clear hG W hm
    intro bx1362 wx1362 S H hm hG W
    exact k_ret hG W hm (sim_var 0 rfl rfl) (fun v S H hG W hr => k v S H (Okc.at 3 rfl hG) (W.pick [] rfl) hr)
theorem sc__law_is_count : FnScope ["_law_told", "_law_due"] ["_law_told", "_law_due"] (defScope (top 53)) := ⟨rfl, rfl, rfl, by decide +kernel, rfl, by decide +kernel, by decide +kernel⟩
theorem ok__law_is_count (E : EnvF K mg) : Cal CX0 P w K mg base 2 "_law_is_count" (spP (TyA.c tInt (TyA.one tInt)) (fun a => m__law_is_count a.1 a.2) tBool) := by
  refine cal_mk (k := 1) E.d__law_is_count sc__law_is_count (fun vs H Q E h => by obtain ⟨S, F, a, r, ⟨_, _, rfl, _, ⟨_, rfl, _⟩⟩, _⟩ := h; rfl) (fun _ _ _ _ _ _ us hl => match us, hl with | [_, _], _ => rfl) ?_
  rintro f cdv A outer s H vs Q EX hr ⟨S, F, ⟨told1387, due1388⟩, out, ⟨v0, _, rfl, h0, ⟨v1, rfl, h1⟩⟩, W, hm, k⟩
  refine ⟨_, PSs.nox (pss_cons (ps_ret (pe_and (pe_cal (ok__law_is_integer E) (by exact hr) (by first | decide | omega) (by rfl) pass0 (pa_cons (pv 0) pa_nil)) (pe_one (pe_cmpR op_eq (pv 0) (pv 1) (nomark _))))) pss_nil), ?_⟩
  have hG : Okc [fS S, tInt.f told1387 v0, tInt.f due1388 v1] S := ⟨Same.refl _, h0, h1, True.intro⟩
  have W : Wd S (([] : Ow) ++ F) H := W
  show (_ : TS) _ ([some v0, some v1] : L2.St) H
  exact k_ret hG W hm (sim_andV (sim_call (simA_one (sim_var 1 rfl rfl))) (sim_eqI (sim_var 1 rfl rfl) (sim_var 2 rfl rfl))) (fun v S H hG W hr => k v S H (Okc.at 0 rfl hG) (W.pick [] rfl) hr)
theorem sc__law_small : FnScope ["_law_world_here", "_law_house", "_law_every", "_law_lower_here", "_law_upper", "_law_state_here", "_law_other", "_law_downs", "_law_ups", "_law_first", "_law_second"] ["_law_world_here", "_law_house"] (defScope (top 54)) := ⟨rfl, rfl, rfl, by decide +kernel, rfl, by decide +kernel, by decide +kernel⟩
theorem ok__law_small (E : EnvF K mg) : Cal CX0 P w K mg base 25 "_law_small" (spP (TyA.c (tRec k_world A_world) (TyA.one (tHouse (He.ga K "House")))) (fun a => m__law_small a.1 a.2) tBool) := by
  refine cal_mk (k := 24) E.d__law_small sc__law_small (fun vs H Q E h => by obtain ⟨S, F, a, r, ⟨_, _, rfl, _, ⟨_, rfl, _⟩⟩, _⟩ := h; rfl) (fun _ _ _ _ _ _ us hl => match us, hl with | [_, _], _ => rfl) ?_
  rintro f cdv A outer s H vs Q EX hr ⟨S, F, ⟨world_here1393, house1394⟩, out, ⟨v0, _, rfl, h0, ⟨v1, rfl, h1⟩⟩, W, hm, k⟩
  refine ⟨_, PSs.nox (pss_cons (ps_set (i := 2) sc__law_small.nd rfl (Or.inl rfl) (pe_cal (ok__law_states E) (by exact hr) (by first | decide | omega) (by rfl) pass0 (pa_cons (pv 0) pa_nil))) (pss_cons (ps_set (i := 3) sc__law_small.nd rfl (Or.inl rfl) pe_dnewT) (pss_cons (ps_set (i := 4) sc__law_small.nd rfl (Or.inl rfl) pe_dnewT) (pss_cons (ps_for PassesOwn.never rfl (pi_listK (K := K) (pv 2)) (pg_name (i := 5) sc__law_small.nd rfl (Or.inl rfl)) (pss_cons (ps_dput (by exact hu_of hr) (pv 3) (pv 5) pe_int rfl) (pss_cons (ps_dput (by exact hu_of hr) (pv 4) (pv 5) pe_int rfl) pss_nil))) (pss_cons (ps_for PassesOwn.never rfl (pi_listK (K := K) (pv 2)) (pg_name (i := 5) sc__law_small.nd rfl (Or.inl rfl)) (pss_cons (ps_for PassesOwn.never rfl (pi_listK (K := K) (pv 2)) (pg_name (i := 6) sc__law_small.nd rfl (Or.inl rfl)) (pss_cons (ps_if (pt_cmpR op_isN (pe_cal (ok__law_obstacle E) (by exact hr) (by first | decide | omega) (by rfl) pass0 (pa_cons (pv 0) (pa_cons (pv 5) (pa_cons (pv 6) pa_nil)))) pe_non (nomark _)) (pss_cons (ps_dput (by exact hu_of hr) (pv 3) (pv 5) (pe_op op_add (pe_dget (by exact hu_of hr) (pv 3) (pv 5) (by intro _ _; rfl)) pe_int) rfl) (pss_cons (ps_dput (by exact hu_of hr) (pv 4) (pv 6) (pe_op op_add (pe_dget (by exact hu_of hr) (pv 4) (pv 6) (by intro _ _; rfl)) pe_int) rfl) pss_nil)) pss_nil) pss_nil)) pss_nil)) (pss_cons (ps_set (i := 7) sc__law_small.nd rfl (Or.inl rfl) pe_int) (pss_cons (ps_set (i := 8) sc__law_small.nd rfl (Or.inl rfl) pe_int) (pss_cons (ps_for PassesOwn.never rfl (pi_listK (K := K) (pv 2)) (pg_name (i := 5) sc__law_small.nd rfl (Or.inl rfl)) (pss_cons (ps_set (i := 9) sc__law_small.nd rfl (Or.inl rfl) (pe_cal (ok_lower_count E) (by exact hr) (by first | decide | omega) (by rfl) pass0 (pa_cons (pv 1) (pa_cons (pv 5) pa_nil)))) (pss_cons (ps_set (i := 10) sc__law_small.nd rfl (Or.inl rfl) (pe_cal (ok_upper_count E) (by exact hr) (by first | decide | omega) (by rfl) pass0 (pa_cons (pv 1) (pa_cons (pv 5) pa_nil)))) (pss_cons (ps_if (PW.pt (pw_or (pt_not (pt_val (pe_cal (ok__law_is_count E) (by exact hr) (by first | decide | omega) (by rfl) pass0 (pa_cons (pv 9) (pa_cons (pe_dget (by exact hu_of hr) (pv 3) (pv 5) (by intro _ _; rfl)) pa_nil))))) (pw_or1 (pt_not (pt_val (pe_cal (ok__law_is_count E) (by exact hr) (by first | decide | omega) (by rfl) pass0 (pa_cons (pv 10) (pa_cons (pe_dget (by exact hu_of hr) (pv 4) (pv 5) (by intro _ _; rfl)) pa_nil)))))))) (pss_cons (ps_ret pe_bl) pss_nil) pss_nil) (pss_cons (ps_set (i := 7) sc__law_small.nd rfl (Or.inl rfl) (pe_op op_add (pv 7) (pv 9))) (pss_cons (ps_set (i := 8) sc__law_small.nd rfl (Or.inl rfl) (pe_op op_add (pv 8) (pv 10))) pss_nil)))))) (pss_cons (ps_ret (pe_and (pe_cal (ok__law_is_count E) (by exact hr) (by first | decide | omega) (by rfl) pass0 (pa_cons (pe_cal (ok_pair_count E) (by exact hr) (by first | decide | omega) (by rfl) pass0 (pa_cons (pv 1) pa_nil)) (pa_cons (pv 7) pa_nil))) (pe_one (pe_cmpR op_eq (pv 8) (pv 7) (nomark _))))) pss_nil))))))))), ?_⟩
  have hG : Okc [fS S, (tRec k_world A_world).f world_here1393 v0, (tHouse (He.ga K "House")).f house1394 v1] S := ⟨Same.refl _, h0, h1, True.intro⟩
  have W : Wd S (([] : Ow) ++ F) H := W
  show (_ : TS) _ ([some v0, some v1, none, none, none, none, none, none, none, none, none] : L2.St) H
  refine k_set hG W hm (sim_call (simA_one (sim_var 1 rfl rfl))) ?_
  clear hG W hm
  intro every1396 v1397 S H hG W hm
  refine k_setO hG W hm (simF_newDT (U := tInt)) ?_
  clear hG W hm
  intro lower_here1398 p1400 c1401 S H hG W hm
  refine k_setO hG W hm (simF_newDT (U := tInt)) ?_
  clear hG W hm
  intro upper1402 p1404 c1405 S H hG W hm
  refine k_fold (σJ := (fun (bx1406 : (List (List Int × Int)) × (List (List Int × Int))) (wx1406 : List Cell × List Cell × Option V) => ([some v0, some v1, some (v1397), some (.ref p1400), some (.ref p1404), wx1406.2.2, none, none, none, none, none] : L2.St))) (OJ := (fun (bx1406 : (List (List Int × Int)) × (List (List Int × Int))) (wx1406 : List Cell × List Cell × Option V) => ([wx1406.2.1, wx1406.1] : Ow))) (Fb := (fun (bx1406 : (List (List Int × Int)) × (List (List Int × Int))) (wx1406 : List Cell × List Cell × Option V) => ([(oDT tInt).f bx1406.1 p1400 (wx1406.1), (oDT tInt).f bx1406.2 p1404 (wx1406.2.1)] : List Fact))) (σT := (fun b w (tx1406 : V) => ((fun (bx1406 : (List (List Int × Int)) × (List (List Int × Int))) (wx1406 : List Cell × List Cell × Option V) => ([some v0, some v1, some (v1397), some (.ref p1400), some (.ref p1404), wx1406.2.2, none, none, none, none, none] : L2.St)) b w).set 5 (some tx1406))) ((c1401, c1405, (none)) : List Cell × List Cell × Option V) hG W hm (simI_list (sim_var 2 rfl rfl)) (fun b w => tg_name) (fun b w => List.nil_sublist _) rfl rfl (fun S h => (Okc.cons (Okc.at 1 rfl h) (Okc.cons (Okc.at 0 rfl h) h))) ?_ ?_
  · clear hG W hm
    intro S1 y1407 bx1406 b' wx1406 tx1406 S H hm hG W N hN
    refine k_dputT hG W hm 1 1 rfl rfl rfl sim_int (sim_var 0 rfl rfl) ?_
    clear hG W hm
    intro lower_here1411 c1412 S H hG W hm
    refine k_dputT hG W hm 0 3 rfl rfl rfl sim_int (sim_var 1 rfl rfl) ?_
    clear hG W hm
    intro upper1415 c1416 S H hG W hm
    cases hm
    refine y_next ?_
    exact hN (c1412, c1416, (some (tx1406))) _ _ (Okc.cons (Okc.at 1 rfl hG) (Okc.cons (Okc.at 0 rfl hG) (Okc.dr 5 hG))) (W.pick [0, 0] rfl)
  · clear hG W hm
    intro bx1406 wx1406 S H hm hG W
    refine k_fold (σJ := (fun (bx1417 : (List (List Int × Int)) × (List (List Int × Int))) (wx1417 : List Cell × List Cell × Option V × Option V) => ([some v0, some v1, some (v1397), some (.ref p1400), some (.ref p1404), wx1417.2.2.1, wx1417.2.2.2, none, none, none, none] : L2.St))) (OJ := (fun (bx1417 : (List (List Int × Int)) × (List (List Int × Int))) (wx1417 : List Cell × List Cell × Option V × Option V) => ([wx1417.2.1, wx1417.1] : Ow))) (Fb := (fun (bx1417 : (List (List Int × Int)) × (List (List Int × Int))) (wx1417 : List Cell × List Cell × Option V × Option V) => ([(oDT tInt).f bx1417.1 p1400 (wx1417.1), (oDT tInt).f bx1417.2 p1404 (wx1417.2.1)] : List Fact))) (σT := (fun b w (tx1417 : V) => ((fun (bx1417 : (List (List Int × Int)) × (List (List Int × Int))) (wx1417 : List Cell × List Cell × Option V × Option V) => ([some v0, some v1, some (v1397), some (.ref p1400), some (.ref p1404), wx1417.2.2.1, wx1417.2.2.2, none, none, none, none] : L2.St)) b w).set 5 (some tx1417))) ((wx1406.1, wx1406.2.1, (wx1406.2.2), (none)) : List Cell × List Cell × Option V × Option V) hG W hm (simI_list (sim_var 4 rfl rfl)) (fun b w => tg_name) (fun b w => List.nil_sublist _) rfl rfl (fun S h => (Okc.cons (Okc.at 0 rfl h) (Okc.cons (Okc.at 1 rfl h) h))) ?_ ?_
    · clear hG W hm
      intro S1 y1418 bx1417 b' wx1417 tx1417 S H hm hG W N hN
      refine k_fold (σJ := (fun (bx1420 : (List (List Int × Int)) × (List (List Int × Int))) (wx1420 : List Cell × List Cell × Option V) => ([some v0, some v1, some (v1397), some (.ref p1400), some (.ref p1404), some (tx1417), wx1420.2.2, none, none, none, none] : L2.St))) (OJ := (fun (bx1420 : (List (List Int × Int)) × (List (List Int × Int))) (wx1420 : List Cell × List Cell × Option V) => ([wx1420.2.1, wx1420.1] : Ow))) (Fb := (fun (bx1420 : (List (List Int × Int)) × (List (List Int × Int))) (wx1420 : List Cell × List Cell × Option V) => ([(oDT tInt).f bx1420.1 p1400 (wx1420.1), (oDT tInt).f bx1420.2 p1404 (wx1420.2.1)] : List Fact))) (σT := (fun b w (tx1420 : V) => ((fun (bx1420 : (List (List Int × Int)) × (List (List Int × Int))) (wx1420 : List Cell × List Cell × Option V) => ([some v0, some v1, some (v1397), some (.ref p1400), some (.ref p1404), some (tx1417), wx1420.2.2, none, none, none, none] : L2.St)) b w).set 6 (some tx1420))) ((wx1417.1, wx1417.2.1, (wx1417.2.2.2)) : List Cell × List Cell × Option V) hG W hm (simI_list (sim_var 8 rfl rfl)) (fun b w => tg_name) (fun b w => List.nil_sublist _) rfl rfl (fun S h => (Okc.cons (Okc.at 1 rfl h) (Okc.cons (Okc.at 2 rfl h) h))) ?_ ?_
      · clear hG W hm
        intro S1 y1421 bx1420 b' wx1420 tx1420 S H hm hG W N hN
        refine k_if hG W hm (simT_test (sim_isN (sim_call (simA_c (sim_var 14 rfl rfl) (simA_c (sim_var 4 rfl rfl) (simA_one (sim_var 0 rfl rfl))))) sim_non)) ?_ ?_
        · clear hG W hm
          intro S H hG W hm
          refine k_dputT hG W hm 1 1 rfl rfl rfl (sim_add (sim_dgetT (sim_own 1 1 rfl rfl rfl) (sim_var 4 rfl rfl)) sim_int) (sim_var 4 rfl rfl) ?_
          clear hG W hm
          intro lower_here1437 c1438 S H hG W hm
          refine k_dputT hG W hm 0 3 rfl rfl rfl (sim_add (sim_dgetT (sim_own 0 3 rfl rfl rfl) (sim_var 1 rfl rfl)) sim_int) (sim_var 1 rfl rfl) ?_
          clear hG W hm
          intro upper1445 c1446 S H hG W hm
          refine y_next ?_
          cases hm
          refine y_next ?_
          exact hN (c1438, c1446, (some (tx1420))) _ _ (Okc.cons (Okc.at 1 rfl hG) (Okc.cons (Okc.at 0 rfl hG) (Okc.dr 5 hG))) (W.pick [0, 0] rfl)
        · clear hG W hm
          intro S H hG W hm
          refine y_next ?_
          cases hm
          refine y_next ?_
          exact hN (wx1420.1, wx1420.2.1, (some (tx1420))) _ _ (Okc.cons (Okc.at 1 rfl hG) (Okc.cons (Okc.at 2 rfl hG) (Okc.dr 3 hG))) (W.pick [0, 0] rfl)
      · clear hG W hm
        intro bx1420 wx1420 S H hm hG W
        cases hm
        refine y_next ?_
        exact hN (wx1420.1, wx1420.2.1, (some (tx1417)), (wx1420.2.2)) _ _ (Okc.cons (Okc.at 0 rfl hG) (Okc.cons (Okc.at 1 rfl hG) (Okc.dr 5 hG))) (W.pick [0, 0] rfl)
    · clear hG W hm
      intro bx1417 wx1417 S H hm hG W
      refine k_set hG W hm sim_int ?_
      clear hG W hm
      intro downs1447 v1448 S H hG W hm
      refine k_set hG W hm sim_int ?_
      clear hG W hm
      intro ups1449 v1450 S H hG W hm
      refine k_forK (σJ := (fun (bx1451 : Int × Int) (wx1451 : V × V × Option V × Option V × Option V) => ([some v0, some v1, some (v1397), some (.ref p1400), some (.ref p1404), wx1451.2.2.1, wx1417.2.2.2, some (wx1451.1), some (wx1451.2.1), wx1451.2.2.2.1, wx1451.2.2.2.2] : L2.St))) (OJ := (fun (bx1451 : Int × Int) (wx1451 : V × V × Option V × Option V × Option V) => ([wx1417.2.1, wx1417.1] : Ow))) (Fb := (fun (bx1451 : Int × Int) (wx1451 : V × V × Option V × Option V × Option V) => ([tInt.f bx1451.1 (wx1451.1), tInt.f bx1451.2 (wx1451.2.1)] : List Fact))) (σT := (fun b w (tx1451 : V) => ((fun (bx1451 : Int × Int) (wx1451 : V × V × Option V × Option V × Option V) => ([some v0, some v1, some (v1397), some (.ref p1400), some (.ref p1404), wx1451.2.2.1, wx1417.2.2.2, some (wx1451.1), some (wx1451.2.1), wx1451.2.2.2.1, wx1451.2.2.2.2] : L2.St)) b w).set 5 (some tx1451))) ((v1448, v1450, (wx1417.2.2.1), (none), (none)) : V × V × Option V × Option V × Option V) hG W hm (simI_list (sim_var 8 rfl rfl)) (fun b w => tg_name) (fun b w => List.nil_sublist _) rfl rfl (fun S h => (Okc.cons (Okc.at 1 rfl h) (Okc.cons (Okc.at 0 rfl h) h))) ?_ ?_
      · clear hG W hm
        intro S1 y1452 bx1451 wx1451 tx1451 S H k1454 hm hG W Nx1451 hNx1451 hBx1451
        refine k_set hG W hm (sim_call (simA_c (sim_var 15 rfl rfl) (simA_one (sim_var 0 rfl rfl)))) ?_
        clear hG W hm
        intro first1459 v1460 S H hG W hm
        refine k_set hG W hm (sim_call (simA_c (sim_var 16 rfl rfl) (simA_one (sim_var 1 rfl rfl)))) ?_
        clear hG W hm
        intro second1464 v1465 S H hG W hm
        refine k_if hG W hm (simT_or (simT_not (simT_B (sim_call (simA_c (sim_var 1 rfl rfl) (simA_one (sim_dgetT (sim_own 1 8 rfl rfl rfl) (sim_var 2 rfl rfl))))))) (simT_not (simT_B (sim_call (simA_c (sim_var 0 rfl rfl) (simA_one (sim_dgetT (sim_own 0 9 rfl rfl rfl) (sim_var 2 rfl rfl)))))))) ?_ ?_
        · clear hG W hm
          intro S H hG W hm
          exact k_ret hG W hm sim_bl (fun v S H hG W hr => k v S H (Okc.at 15 rfl hG) (W.pick [] rfl) hr)
        · clear hG W hm
          intro S H hG W hm
          refine y_next ?_
          refine k_set hG W hm (sim_add (sim_var 3 rfl rfl) (sim_var 1 rfl rfl)) ?_
          clear hG W hm
          intro downs1482 v1483 S H hG W hm
          refine k_set hG W hm (sim_add (sim_var 5 rfl rfl) (sim_var 1 rfl rfl)) ?_
          clear hG W hm
          intro ups1486 v1487 S H hG W hm
          refine y_next ?_
          exact hNx1451 _ (v1483, v1487, (some (tx1451)), (some (v1460)), (some (v1465))) _ _ hm (Okc.cons (Okc.at 1 rfl hG) (Okc.cons (Okc.at 0 rfl hG) (Okc.dr 7 hG))) (W.pick [0, 0] rfl)
      · clear hG W hm
        intro bx1451 wx1451 S H hm hG W
        exact k_ret hG W hm (sim_andV (sim_call (simA_c (sim_call (simA_one (sim_var 13 rfl rfl))) (simA_one (sim_var 0 rfl rfl)))) (sim_eqI (sim_var 1 rfl rfl) (sim_var 0 rfl rfl))) (fun v S H hG W hr => k v S H (Okc.at 11 rfl hG) (W.pick [] rfl) hr)
theorem sc__law_great : FnScope ["_law_bag_here", "_law_world_here", "_law_house", "_law_state_here", "_law_many", "_law_dark", "_law_bright", "_law_pair"] ["_law_bag_here", "_law_world_here", "_law_house"] (defScope (top 55)) := ⟨rfl, rfl, rfl, by decide +kernel, rfl, by decide +kernel, by decide +kernel⟩
theorem ok__law_great (E : EnvF K mg) : Cal CX0 P w K mg base 25 "_law_great" (spO 0 (oRec k_bag A_bag) (TyA.c (tRec k_world A_world) (TyA.one (tHouse (He.ga K "House")))) (fun g a => m__law_great g a.1 a.2) tBool) := by
  refine cal_mk (k := 24) E.d__law_great sc__law_great (fun vs H Q E h => by obtain ⟨S, F, p, c, g, a, r, hn, hA, _⟩ := h; obtain ⟨_, _, rfl, _⟩ := (spO_vs3_0 hn hA); rfl) (fun _ _ _ _ _ _ us hl => match us, hl with | [_, _, _], _ => rfl) ?_
  rintro f cdv A outer s H vs Q EX hr ⟨S, F, p0, c0, bag_here1495, ⟨world_here1496, house1497⟩, out, hn, hA, hp0, W, hm, k⟩
  obtain ⟨v1, v2, rfl, h1, h2⟩ := (spO_vs3_0 hn hA)
  refine ⟨_, PSs.nox (pss_cons (ps_set (i := 3) sc__law_great.nd rfl (Or.inl rfl) (pe_cal (ok__law_state E) (by exact hr) (by first | decide | omega) (by rfl) pass0 (pa_cons (pv 0) (pa_cons (pv 1) pa_nil)))) (pss_cons (ps_set (i := 4) sc__law_great.nd rfl (Or.inl rfl) (pe_cal (ok__law_power E) (by exact hr) (by first | decide | omega) (by rfl) pass0 (pa_cons (pe_dget (by exact hu_of hr) (pv 1) pe_str (by intro _ _; rfl)) (pa_cons (pe_dget (by exact hu_of hr) (pv 1) pe_str (by intro _ _; rfl)) pa_nil)))) (pss_cons (ps_set (i := 5) sc__law_great.nd rfl (Or.inl rfl) (pe_callTy (call_tupleK (K := K)) rfl (by exact E.g_tuple) (by decide +kernel) (pa_cons (pe_op op_rep (pe_lst (pa_cons pe_int pa_nil)) (pe_dget (by exact hu_of hr) (pv 1) pe_str (by intro _ _; rfl))) pa_nil))) (pss_cons (ps_set (i := 6) sc__law_great.nd rfl (Or.inl rfl) (pe_cal (ok__law_mirror E) (by exact hr) (by first | decide | omega) (by rfl) pass0 (pa_cons (pv 1) (pa_cons (pv 5) pa_nil)))) (pss_cons (ps_if (pt_not (pt_val (pe_cal (ok__law_is_count E) (by exact hr) (by first | decide | omega) (by rfl) pass0 (pa_cons (pe_cal (ok_pair_count E) (by exact hr) (by first | decide | omega) (by rfl) pass0 (pa_cons (pv 2) pa_nil)) (pa_cons (pe_cal (ok__law_pairs E) (by exact hr) (by first | decide | omega) (by rfl) pass0 (pa_cons (pv 1) pa_nil)) pa_nil))))) (pss_cons (ps_ret pe_bl) pss_nil) pss_nil) (pss_cons (ps_for PassesOwn.never rfl (pi_listK (K := K) (pe_lst (pa_cons (pe_tup (pa_cons (pv 6) (pa_cons (pv 4) pa_nil))) (pa_cons (pe_tup (pa_cons (pv 5) (pa_cons pe_int pa_nil))) pa_nil)))) (pg_name (i := 7) sc__law_great.nd rfl (Or.inl rfl)) (pss_cons (ps_if (pt_not (pt_val (pe_cal (ok__law_is_count E) (by exact hr) (by first | decide | omega) (by rfl) pass0 (pa_cons (pe_cal (ok_lower_count E) (by exact hr) (by first | decide | omega) (by rfl) pass0 (pa_cons (pv 2) (pa_cons (pe_ix (ix_tupK (K := K)) (pv 7) pe_int (by intro _ _; rfl)) pa_nil))) (pa_cons (pe_ix (ix_tupK (K := K)) (pv 7) pe_int (by intro _ _; rfl)) pa_nil))))) (pss_cons (ps_ret pe_bl) pss_nil) pss_nil) pss_nil)) (pss_cons (ps_for PassesOwn.never rfl (pi_listK (K := K) (pe_lst (pa_cons (pe_tup (pa_cons (pv 6) (pa_cons pe_int pa_nil))) (pa_cons (pe_tup (pa_cons (pv 5) (pa_cons (pv 4) pa_nil))) pa_nil)))) (pg_name (i := 7) sc__law_great.nd rfl (Or.inl rfl)) (pss_cons (ps_if (pt_not (pt_val (pe_cal (ok__law_is_count E) (by exact hr) (by first | decide | omega) (by rfl) pass0 (pa_cons (pe_cal (ok_upper_count E) (by exact hr) (by first | decide | omega) (by rfl) pass0 (pa_cons (pv 2) (pa_cons (pe_ix (ix_tupK (K := K)) (pv 7) pe_int (by intro _ _; rfl)) pa_nil))) (pa_cons (pe_ix (ix_tupK (K := K)) (pv 7) pe_int (by intro _ _; rfl)) pa_nil))))) (pss_cons (ps_ret pe_bl) pss_nil) pss_nil) pss_nil)) (pss_cons (ps_if (pt_not (pt_val (pe_cal (ok__law_is_count E) (by exact hr) (by first | decide | omega) (by rfl) pass0 (pa_cons (pe_cal (ok_lower_count E) (by exact hr) (by first | decide | omega) (by rfl) pass0 (pa_cons (pv 2) (pa_cons (pv 3) pa_nil))) (pa_cons (pe_cal (ok__law_lower E) (by exact hr) (by first | decide | omega) (by rfl) pass0 (pa_cons (pv 1) (pa_cons (pv 3) pa_nil))) pa_nil))))) (pss_cons (ps_ret pe_bl) pss_nil) pss_nil) (pss_cons (ps_ret (pe_cal (ok__law_is_count E) (by exact hr) (by first | decide | omega) (by rfl) pass0 (pa_cons (pe_cal (ok_upper_count E) (by exact hr) (by first | decide | omega) (by rfl) pass0 (pa_cons (pv 2) (pa_cons (pv 3) pa_nil))) (pa_cons (pe_cal (ok__law_lower E) (by exact hr) (by first | decide | omega) (by rfl) pass0 (pa_cons (pv 1) (pa_cons (pe_cal (ok__law_mirror E) (by exact hr) (by first | decide | omega) (by rfl) pass0 (pa_cons (pv 1) (pa_cons (pv 3) pa_nil))) pa_nil))) pa_nil)))) pss_nil))))))))), ?_⟩
  have hG : Okc [fS S, (oRec k_bag A_bag).f bag_here1495 p0 c0, (tRec k_world A_world).f world_here1496 v1, (tHouse (He.ga K "House")).f house1497 v2] S := ⟨Same.refl _, hp0, h1, h2, True.intro⟩
  have W : Wd S ([c0] ++ F) H := W
  show (_ : TS) _ ([some (.ref p0), some v1, some v2, none, none, none, none, none] : L2.St) H
  refine e_set ?_
  refine e_call ?_
  refine e_cons ?_
  refine c_ref rfl ?_
  refine e_cons ?_
  refine c_ref rfl ?_
  refine e_nil ?_
  refine v_callO (g := bag_here1495) (a := world_here1496) hG W hm 0 1 rfl rfl rfl (fun S h => (ra_one (Okc.at 2 rfl h))) ?_
  clear hG W hm
  intro r1498 v1499 c1500 S H hG W hm
  refine k_set hG W hm (sim_call (simA_c (sim_get (pj_s pj_0) rfl (sim_var 4 rfl rfl)) (simA_one (sim_get pj_0 rfl (sim_var 4 rfl rfl))))) ?_
  clear hG W hm
  intro many1506 v1507 S H hG W hm
  refine k_set hG W hm (sim_tuple (SimF.sim (simF_rep (SimF.sim (simF_lst (simA_ln sim_int simA_ln0))) (sim_get pj_0 rfl (sim_var 5 rfl rfl))))) ?_
  clear hG W hm
  intro dark1513 v1514 S H hG W hm
  refine k_set hG W hm (sim_call (simA_c (sim_var 6 rfl rfl) (simA_one (sim_var 0 rfl rfl)))) ?_
  clear hG W hm
  intro bright1518 v1519 S H hG W hm
  refine k_if hG W hm (simT_not (simT_B (sim_call (simA_c (sim_call (simA_one (sim_var 8 rfl rfl))) (simA_one (sim_call (simA_one (sim_var 7 rfl rfl)))))))) ?_ ?_
  · clear hG W hm
    intro S H hG W hm
    refine e_ret ?_
    refine c_pure hG W hm sim_bl ?_
    clear hG W hm
    intro r1527 v S H hG W hm
    cases hm
    exact k _ _ _ _ (Okc.at 6 rfl hG) (W.pick [0] rfl) (Okc.at 5 rfl hG) (Okc.at 0 rfl hG)
  · clear hG W hm
    intro S H hG W hm
    refine y_next ?_
    refine k_forK (σJ := (fun (bx1536 : Unit) (wx1536 : Option V) => ([some (.ref p0), some v1, some v2, some (v1499), some (v1507), some (v1514), some (v1519), wx1536] : L2.St))) (OJ := (fun (bx1536 : Unit) (wx1536 : Option V) => ([c1500] : Ow))) (Fb := (fun (bx1536 : Unit) (wx1536 : Option V) => ([] : List Fact))) (σT := (fun b w (tx1536 : V) => ((fun (bx1536 : Unit) (wx1536 : Option V) => ([some (.ref p0), some v1, some v2, some (v1499), some (v1507), some (v1514), some (v1519), wx1536] : L2.St)) b w).set 7 (some tx1536))) ((none) : Option V) hG W hm (simI_list (SimF.sim (simF_lst (simA_ln (sim_pair (sim_var 0 rfl rfl) (sim_var 2 rfl rfl)) (simA_ln (sim_pair (sim_var 1 rfl rfl) sim_int) simA_ln0))))) (fun b w => tg_name) (fun b w => List.nil_sublist _) rfl rfl (fun S h => h) ?_ ?_
    · clear hG W hm
      intro S1 y1537 bx1536 wx1536 tx1536 S H k1539 hm hG W Nx1536 hNx1536 hBx1536
      refine k_if hG W hm (simT_not (simT_B (sim_call (simA_c (sim_call (simA_c (sim_var 10 rfl rfl) (simA_one (sim_fst (sim_var 0 rfl rfl))))) (simA_one (sim_snd (sim_var 0 rfl rfl))))))) ?_ ?_
      · clear hG W hm
        intro S H hG W hm
        refine e_ret ?_
        refine c_pure hG W hm sim_bl ?_
        clear hG W hm
        intro r1551 v S H hG W hm
        cases hm
        exact k _ _ _ _ (Okc.at 8 rfl hG) (W.pick [0] rfl) (Okc.at 7 rfl hG) (Okc.at 0 rfl hG)
      · clear hG W hm
        intro S H hG W hm
        refine y_next ?_
        refine y_next ?_
        exact hNx1536 _ (some (tx1536)) _ _ hm (Okc.dr 1 hG) (W.pick [0] rfl)
    · clear hG W hm
      intro bx1536 wx1536 S H hm hG W
      refine k_forK (σJ := (fun (bx1560 : Unit) (wx1560 : Option V) => ([some (.ref p0), some v1, some v2, some (v1499), some (v1507), some (v1514), some (v1519), wx1560] : L2.St))) (OJ := (fun (bx1560 : Unit) (wx1560 : Option V) => ([c1500] : Ow))) (Fb := (fun (bx1560 : Unit) (wx1560 : Option V) => ([] : List Fact))) (σT := (fun b w (tx1560 : V) => ((fun (bx1560 : Unit) (wx1560 : Option V) => ([some (.ref p0), some v1, some v2, some (v1499), some (v1507), some (v1514), some (v1519), wx1560] : L2.St)) b w).set 7 (some tx1560))) ((wx1536) : Option V) hG W hm (simI_list (SimF.sim (simF_lst (simA_ln (sim_pair (sim_var 0 rfl rfl) sim_int) (simA_ln (sim_pair (sim_var 1 rfl rfl) (sim_var 2 rfl rfl)) simA_ln0))))) (fun b w => tg_name) (fun b w => List.nil_sublist _) rfl rfl (fun S h => h) ?_ ?_
      · clear hG W hm
        intro S1 y1561 bx1560 wx1560 tx1560 S H k1563 hm hG W Nx1560 hNx1560 hBx1560
        refine k_if hG W hm (simT_not (simT_B (sim_call (simA_c (sim_call (simA_c (sim_var 10 rfl rfl) (simA_one (sim_fst (sim_var 0 rfl rfl))))) (simA_one (sim_snd (sim_var 0 rfl rfl))))))) ?_ ?_
        · clear hG W hm
          intro S H hG W hm
          refine e_ret ?_
          refine c_pure hG W hm sim_bl ?_
          clear hG W hm
          intro r1575 v S H hG W hm
          cases hm
          exact k _ _ _ _ (Okc.at 8 rfl hG) (W.pick [0] rfl) (Okc.at 7 rfl hG) (Okc.at 0 rfl hG)
        · clear hG W hm
          intro S H hG W hm
          refine y_next ?_
          refine y_next ?_
          exact hNx1560 _ (some (tx1560)) _ _ hm (Okc.dr 1 hG) (W.pick [0] rfl)
      · clear hG W hm
        intro bx1560 wx1560 S H hm hG W
        refine k_if hG W hm (simT_not (simT_B (sim_call (simA_c (sim_call (simA_c (sim_var 8 rfl rfl) (simA_one (sim_var 3 rfl rfl)))) (simA_one (sim_call (simA_c (sim_var 7 rfl rfl) (simA_one (sim_var 3 rfl rfl))))))))) ?_ ?_
        · clear hG W hm
          intro S H hG W hm
          refine e_ret ?_
          refine c_pure hG W hm sim_bl ?_
          clear hG W hm
          intro r1587 v S H hG W hm
          cases hm
          exact k _ _ _ _ (Okc.at 6 rfl hG) (W.pick [0] rfl) (Okc.at 5 rfl hG) (Okc.at 0 rfl hG)
        · clear hG W hm
          intro S H hG W hm
          refine y_next ?_
          refine e_ret ?_
          refine c_pure hG W hm (sim_call (simA_c (sim_call (simA_c (sim_var 8 rfl rfl) (simA_one (sim_var 3 rfl rfl)))) (simA_one (sim_call (simA_c (sim_var 7 rfl rfl) (simA_one (sim_call (simA_c (sim_var 7 rfl rfl) (simA_one (sim_var 3 rfl rfl)))))))))) ?_
          clear hG W hm
          intro r1600 v S H hG W hm
          cases hm
          exact k _ _ _ _ (Okc.at 6 rfl hG) (W.pick [0] rfl) (Okc.at 5 rfl hG) (Okc.at 0 rfl hG)
theorem sc__law_great_world : FnScope ["_law_bag_here", "_law_hues_here", "_law_line", "_law_wires_here", "_law_k"] ["_law_bag_here"] (defScope (top 56)) := ⟨rfl, rfl, rfl, by decide +kernel, rfl, by decide +kernel, by decide +kernel⟩
theorem ok__law_great_world (E : EnvF K mg) : Cal CX0 P w K mg base 4 "_law_great_world" (spO 0 (oRec k_bag A_bag) TyA.nil (fun g _ => m__law_great_world g) (tRec k_world A_world)) := by
  refine cal_mk (k := 3) E.d__law_great_world sc__law_great_world (fun vs H Q E h => by obtain ⟨S, F, p, c, g, a, r, hn, hA, _⟩ := h; obtain rfl := (spO_vs1_0 hn hA); rfl) (fun _ _ _ _ _ _ us hl => match us, hl with | [_], _ => rfl) ?_
  rintro f cdv A outer s H vs Q EX hr ⟨S, F, p0, c0, bag_here1601, _, out, hn, hA, hp0, W, hm, k⟩
  obtain rfl := (spO_vs1_0 hn hA)
  refine ⟨_, PSs.nox (pss_cons (ps_set (i := 1) sc__law_great_world.nd rfl (Or.inl rfl) (pe_cal (ok__law_hues E) (by exact hr) (by first | decide | omega) (by rfl) pass0 (pa_cons (pv 0) pa_nil))) (pss_cons (ps_if (pt_cmpR op_eq (pe_cal (ok__law_draw E) (by exact hr) (by first | decide | omega) (by rfl) pass0 (pa_cons (pv 0) (pa_cons pe_int pa_nil))) pe_int (nomark _)) (pss_cons (ps_set (i := 2) sc__law_great_world.nd rfl (Or.inr rfl) (pe_cal (ok__law_shuffled E) (by exact hr) (by first | decide | omega) (by rfl) pass0 (pa_cons (pv 0) (pa_cons (pe_op op_add pe_int (pe_cal (ok__law_draw E) (by exact hr) (by first | decide | omega) (by rfl) pass0 (pa_cons (pv 0) (pa_cons pe_int pa_nil)))) pa_nil)))) (pss_cons (ps_setLc (i := 3) (own := [("_law_k", 4)]) rfl sc__law_great_world.nd rfl rfl (sw_true rfl rfl rfl (by decide +kernel)) (pi_range1 rfl (by exact E.g_range) (pa_cons (pe_op op_sub (pe_callB (call_lenK (K := K)) rfl (by exact E.g_len) boot_len (pa_cons (pv 2) pa_nil)) pe_int) pa_nil)) (blkOk_by (N := ["_law_bag_here", "_law_hues_here", "_law_line", "_law_wires_here", "_law_k"]) (sc := defScope (top 56)) (by decide +kernel)) (fun _ _ _ _ _ => (pg_name (i := 4) sc__law_great_world.nd rfl (Or.inl rfl))) (fun _ _ _ _ _ => pts_nil) (fun _ _ _ _ _ => (pe_tup (pa_cons (pe_ix (ix_listK (K := K)) (pv 2) (pv 4) (by intro _ _; rfl)) (pa_cons (pe_ix (ix_listK (K := K)) (pv 2) (pe_op op_add (pv 4) pe_int) (by intro _ _; rfl)) pa_nil))))) pss_nil)) (pss_cons (ps_set (i := 2) sc__law_great_world.nd rfl (Or.inr rfl) (pe_cal (ok__law_shuffled E) (by exact hr) (by first | decide | omega) (by rfl) pass0 (pa_cons (pv 0) (pa_cons (pe_op op_add pe_int (pe_cal (ok__law_draw E) (by exact hr) (by first | decide | omega) (by rfl) pass0 (pa_cons (pv 0) (pa_cons pe_int pa_nil)))) pa_nil)))) (pss_cons (ps_set (i := 3) sc__law_great_world.nd rfl (Or.inl rfl) (pe_cal (ok__law_wires E) (by exact hr) (by first | decide | omega) (by rfl) pass0 (pa_cons (pv 0) (pa_cons (pv 2) pa_nil)))) pss_nil))) (pss_cons (ps_ret (pe_cal (ok__law_known E) (by exact hr) (by first | decide | omega) (by rfl) pass0 (pa_cons (pe_callB (call_lenK (K := K)) rfl (by exact E.g_len) boot_len (pa_cons (pv 2) pa_nil)) (pa_cons (pv 1) (pa_cons (pv 3) (pa_cons (pv 2) pa_nil)))))) pss_nil))), ?_⟩
  have hG : Okc [fS S, (oRec k_bag A_bag).f bag_here1601 p0 c0] S := ⟨Same.refl _, hp0, True.intro⟩
  have W : Wd S ([c0] ++ F) H := W
  show (_ : TS) _ ([some (.ref p0), none, none, none, none] : L2.St) H
  refine e_set ?_
  refine e_call ?_
  refine e_cons ?_
  refine c_ref rfl ?_
  refine e_nil ?_
  refine v_callO (g := bag_here1601) (a := ()) hG W hm 0 1 rfl rfl rfl (fun S h => ra_nil) ?_
  clear hG W hm
  intro r1602 v1603 c1604 S H hG W hm
  refine y_join (σJ := (fun (bx1606 : R_bag × (List Int) × (List (Int × Int))) (wx1606 : List Cell × V × V) => ([some (.ref p0), some (v1603), some (wx1606.2.1), some (wx1606.2.2), none] : L2.St))) (OJ := (fun (bx1606 : R_bag × (List Int) × (List (Int × Int))) (wx1606 : List Cell × V × V) => ([wx1606.1] : Ow))) (Fb := (fun (bx1606 : R_bag × (List Int) × (List (Int × Int))) (wx1606 : List Cell × V × V) => ([(oRec k_bag A_bag).f bx1606.1 p0 (wx1606.1), (tL tInt).f bx1606.2.1 (wx1606.2.1), (tL (tP tInt tInt)).f bx1606.2.2 (wx1606.2.2)] : List Fact))) hG W hm ?_ ?_
  · clear hG W hm
    intro bx1606 wx1606 S H hm hG W
    refine e_ret ?_
    refine c_pure hG W hm (sim_call (simA_c (sim_len (sim_var 1 rfl rfl)) (simA_c (sim_var 3 rfl rfl) (simA_c (sim_var 2 rfl rfl) (simA_one (sim_var 1 rfl rfl)))))) ?_
    clear hG W hm
    intro r1617 v S H hG W hm
    cases hm
    exact k _ _ _ _ (Okc.at 6 rfl hG) (W.pick [0] rfl) (Okc.at 1 rfl hG) (Okc.at 0 rfl hG)
  · clear hm
    intro nxt1608 hm
    refine e_if ?_
    refine e_test ?_
    refine e_op ?_
    refine e_call ?_
    refine e_cons ?_
    refine c_ref rfl ?_
    refine e_cons ?_
    refine c_pure hG W hm sim_int ?_
    clear hG W hm
    intro x1618 v1619 S H hG W hm
    refine e_nil ?_
    refine v_callO (g := r1602.2) (a := x1618) hG W hm 0 2 rfl rfl rfl (fun S h => (ra_one (Okc.at 0 rfl h))) ?_
    clear hG W hm
    intro r1620 v1621 c1622 S H hG W hm
    refine c_pure hG W hm sim_int ?_
    clear hG W hm
    intro x1623 v1624 S H hG W hm
    refine x_op (σ := ([] : L2.St)) ?_
    refine c_pure hG W hm (sim_eqI (sim_K 1 rfl) (sim_K 0 rfl)) ?_
    clear hG W hm
    intro x1627 v1628 S H hG W hm
    refine y_bool hG 0 rfl ?_
    refine c_ite hm ?_ ?_
    · clear hm
      intro _ hm
      refine e_set ?_
      refine e_call ?_
      refine e_cons ?_
      refine c_ref rfl ?_
      refine e_cons ?_
      refine e_op ?_
      refine c_pure hG W hm sim_int ?_
      clear hG W hm
      intro x1629 v1630 S H hG W hm
      refine e_call ?_
      refine e_cons ?_
      refine c_ref rfl ?_
      refine e_cons ?_
      refine c_pure hG W hm sim_int ?_
      clear hG W hm
      intro x1631 v1632 S H hG W hm
      refine e_nil ?_
      refine v_callO (g := r1620.2) (a := x1631) hG W hm 0 5 rfl rfl rfl (fun S h => (ra_one (Okc.at 0 rfl h))) ?_
      clear hG W hm
      intro r1633 v1634 c1635 S H hG W hm
      refine x_op (σ := ([] : L2.St)) ?_
      refine c_pure hG W hm (sim_add (sim_K 3 rfl) (sim_K 0 rfl)) ?_
      clear hG W hm
      intro x1638 v1639 S H hG W hm
      refine e_nil ?_
      refine v_callO (g := r1633.2) (a := x1638) hG W hm 0 2 rfl rfl rfl (fun S h => (ra_one (Okc.at 0 rfl h))) ?_
      clear hG W hm
      intro r1640 v1641 c1642 S H hG W hm
      refine k_set hG W hm (SimF.sim (simF_lc (simI_range1 (sim_sub (sim_len (sim_var 0 rfl rfl)) sim_int)) tg_name (fun _ => rfl) (List.nil_sublist _) (fun a w => simT_yes) (fun a w => (sim_pair (sim_ix (sim_var 1 rfl rfl) (sim_var 0 rfl rfl)) (sim_ix (sim_var 1 rfl rfl) (sim_add (sim_var 0 rfl rfl) sim_int)))))) ?_
      clear hG W hm
      intro wires_here1657 v1658 S H hG W hm
      refine y_next ?_
      exact nxt1608 _ (c1642, v1641, v1658) _ _ hm (Okc.cons (Okc.at 2 rfl hG) (Okc.cons (Okc.at 1 rfl hG) (Okc.cons (Okc.at 0 rfl hG) (Okc.dr 13 hG)))) (W.pick [0] rfl)
    · clear hm
      intro _ hm
      refine e_set ?_
      refine e_call ?_
      refine e_cons ?_
      refine c_ref rfl ?_
      refine e_cons ?_
      refine e_op ?_
      refine c_pure hG W hm sim_int ?_
      clear hG W hm
      intro x1659 v1660 S H hG W hm
      refine e_call ?_
      refine e_cons ?_
      refine c_ref rfl ?_
      refine e_cons ?_
      refine c_pure hG W hm sim_int ?_
      clear hG W hm
      intro x1661 v1662 S H hG W hm
      refine e_nil ?_
      refine v_callO (g := r1620.2) (a := x1661) hG W hm 0 5 rfl rfl rfl (fun S h => (ra_one (Okc.at 0 rfl h))) ?_
      clear hG W hm
      intro r1663 v1664 c1665 S H hG W hm
      refine x_op (σ := ([] : L2.St)) ?_
      refine c_pure hG W hm (sim_add (sim_K 3 rfl) (sim_K 0 rfl)) ?_
      clear hG W hm
      intro x1668 v1669 S H hG W hm
      refine e_nil ?_
      refine v_callO (g := r1663.2) (a := x1668) hG W hm 0 2 rfl rfl rfl (fun S h => (ra_one (Okc.at 0 rfl h))) ?_
      clear hG W hm
      intro r1670 v1671 c1672 S H hG W hm
      refine e_set ?_
      refine e_call ?_
      refine e_cons ?_
      refine c_ref rfl ?_
      refine e_cons ?_
      refine c_ref rfl ?_
      refine e_nil ?_
      refine v_callO (g := r1670.2) (a := r1670.1) hG W hm 0 1 rfl rfl rfl (fun S h => (ra_one (Okc.at 0 rfl h))) ?_
      clear hG W hm
      intro r1673 v1674 c1675 S H hG W hm
      refine y_next ?_
      exact nxt1608 _ (c1675, v1671, v1674) _ _ hm (Okc.cons (Okc.at 1 rfl hG) (Okc.cons (Okc.at 2 rfl hG) (Okc.cons (Okc.at 0 rfl hG) (Okc.dr 14 hG)))) (W.pick [0] rfl)
theorem sc_law : FnScope ["_law_script", "_law_bag_here", "_law_world_here", "_law_house", "_law_room"] ["_law_script"] (defScope (top 57)) := ⟨rfl, rfl, rfl, by decide +kernel, rfl, by decide +kernel, by decide +kernel⟩
theorem fn_law (E : EnvF K mg) {f : Addr} {fd : FuncData} (D : FunD K "law" "law" (defArgs (top 57)) (defBody (top 57)) (defScope (top 57)) [] [] f fd) : FnOk P w K mg base CX0 26 f fd ["_law_script"] (spP (TyA.one (tScr K)) (fun a => m_law a) tBool) := by
  refine D.ok (k := 25) sc_law (fun vs H Q E h => by obtain ⟨S, F, a, r, ⟨_, rfl, _⟩, _⟩ := h; rfl) ?_
  rintro cdv A outer s H vs Q EX hr ⟨S, F, script1676, out, ⟨v0, rfl, h0⟩, W, hm, k⟩
  refine ⟨_, PSs.nox (pss_cons (ps_set (i := 1) sc_law.nd rfl (Or.inl rfl) (pe_cal (ok__law_bag E) (by exact hr) (by first | decide | omega) (by rfl) pass0 (pa_cons (pv 0) pa_nil))) (pss_cons (ps_if (pt_cmpR op_eq (pe_cal (ok__law_draw E) (by exact hr) (by first | decide | omega) (by rfl) pass0 (pa_cons (pv 1) (pa_cons pe_int pa_nil))) pe_int (nomark _)) (pss_cons (ps_set (i := 2) sc_law.nd rfl (Or.inl rfl) (pe_cal (ok__law_great_world E) (by exact hr) (by first | decide | omega) (by rfl) pass0 (pa_cons (pv 1) pa_nil))) (pss_cons (ps_set (i := 3) sc_law.nd rfl (Or.inl rfl) (pe_mak (ok_House___init__ E) (by exact hr) (by first | decide | omega) (by rfl) pass0 (pa_cons (pe_dget (by exact hu_of hr) (pv 2) pe_str (by intro _ _; rfl)) (pa_cons (pe_dget (by exact hu_of hr) (pv 2) pe_str (by intro _ _; rfl)) (pa_cons (pe_callTy (call_listK (K := K)) rfl (by exact E.g_list) (by decide +kernel) (pa_cons (pe_dget (by exact hu_of hr) (pv 2) pe_str (by intro _ _; rfl)) pa_nil)) pa_nil))))) (pss_cons (ps_ret (pe_cal (ok__law_great E) (by exact hr) (by first | decide | omega) (by rfl) pass0 (pa_cons (pv 1) (pa_cons (pv 2) (pa_cons (pv 3) pa_nil))))) pss_nil))) pss_nil) (pss_cons (ps_set (i := 4) sc_law.nd rfl (Or.inl rfl) pe_int) (pss_cons (ps_if (pt_cmpR op_eq (pe_cal (ok__law_draw E) (by exact hr) (by first | decide | omega) (by rfl) pass0 (pa_cons (pv 1) (pa_cons pe_int pa_nil))) pe_int (nomark _)) (pss_cons (ps_set (i := 4) sc_law.nd rfl (Or.inl rfl) pe_int) pss_nil) pss_nil) (pss_cons (ps_set (i := 2) sc_law.nd rfl (Or.inl rfl) (pe_cal (ok__law_world E) (by exact hr) (by first | decide | omega) (by rfl) pass0 (pa_cons (pv 1) (pa_cons (pv 4) pa_nil)))) (pss_cons (ps_set (i := 3) sc_law.nd rfl (Or.inl rfl) (pe_mak (ok_House___init__ E) (by exact hr) (by first | decide | omega) (by rfl) pass0 (pa_cons (pe_dget (by exact hu_of hr) (pv 2) pe_str (by intro _ _; rfl)) (pa_cons (pe_dget (by exact hu_of hr) (pv 2) pe_str (by intro _ _; rfl)) (pa_cons (pe_callTy (call_listK (K := K)) rfl (by exact E.g_list) (by decide +kernel) (pa_cons (pe_dget (by exact hu_of hr) (pv 2) pe_str (by intro _ _; rfl)) pa_nil)) pa_nil))))) (pss_cons (ps_ret (pe_cal (ok__law_small E) (by exact hr) (by first | decide | omega) (by rfl) pass0 (pa_cons (pv 2) (pa_cons (pv 3) pa_nil)))) pss_nil))))))), ?_⟩
  have hG : Okc [fS S, (tScr K).f script1676 v0] S := ⟨Same.refl _, h0, True.intro⟩
  have W : Wd S (([] : Ow) ++ F) H := W
  show (_ : TS) _ ([some v0, none, none, none, none] : L2.St) H
  refine k_setO hG W hm (simF_call (simA_one (sim_var 1 rfl rfl))) ?_
  clear hG W hm
  intro bag_here1678 p1680 c1681 S H hG W hm
  refine e_if ?_
  refine e_test ?_
  refine e_op ?_
  refine e_call ?_
  refine e_cons ?_
  refine c_ref rfl ?_
  refine e_cons ?_
  refine c_pure hG W hm sim_int ?_
  clear hG W hm
  intro x1683 v1684 S H hG W hm
  refine e_nil ?_
  refine v_callO (g := bag_here1678) (a := x1683) hG W hm 0 1 rfl rfl rfl (fun S h => (ra_one (Okc.at 0 rfl h))) ?_
  clear hG W hm
  intro r1685 v1686 c1687 S H hG W hm
  refine c_pure hG W hm sim_int ?_
  clear hG W hm
  intro x1688 v1689 S H hG W hm
  refine x_op (σ := ([] : L2.St)) ?_
  refine c_pure hG W hm (sim_eqI (sim_K 1 rfl) (sim_K 0 rfl)) ?_
  clear hG W hm
  intro x1692 v1693 S H hG W hm
  refine y_bool hG 0 rfl ?_
  refine c_ite hm ?_ ?_
  · clear hm
    intro _ hm
    refine e_set ?_
    refine e_call ?_
    refine e_cons ?_
    refine c_ref rfl ?_
    refine e_nil ?_
    refine v_callO (g := r1685.2) (a := ()) hG W hm 0 3 rfl rfl rfl (fun S h => ra_nil) ?_
    clear hG W hm
    intro r1694 v1695 c1696 S H hG W hm
    refine k_set hG W hm (sim_house (simF_make (simA_c (sim_get pj_0 rfl (sim_var 0 rfl rfl)) (simA_c (sim_get (pj_s pj_0) rfl (sim_var 0 rfl rfl)) (simA_one (SimF.sim (simF_list (sim_get (pj_s (pj_s pj_0)) rfl (sim_var 0 rfl rfl))))))))) ?_
    clear hG W hm
    intro house1706 v1707 S H hG W hm
    refine e_ret ?_
    refine e_call ?_
    refine e_cons ?_
    refine c_ref rfl ?_
    refine e_cons ?_
    refine c_ref rfl ?_
    refine e_cons ?_
    refine c_ref rfl ?_
    refine e_nil ?_
    refine v_callO (g := r1694.2) (a := (r1694.1, house1706)) hG W hm 0 2 rfl rfl rfl (fun S h => (ra_c (Okc.at 1 rfl h) (ra_one (Okc.at 0 rfl h)))) ?_
    clear hG W hm
    intro r1708 v1709 c1710 S H hG W hm
    cases hm
    exact k _ _ _ (Okc.at 11 rfl hG) (W.pick [] rfl) (Okc.at 0 rfl hG)
  · clear hm
    intro _ hm
    refine y_next ?_
    refine k_set hG W hm sim_int ?_
    clear hG W hm
    intro room1711 v1712 S H hG W hm
    refine y_join (σJ := (fun (bx1714 : R_bag × Int) (wx1714 : List Cell × V) => ([some v0, some (.ref p1680), none, none, some (wx1714.2)] : L2.St))) (OJ := (fun (bx1714 : R_bag × Int) (wx1714 : List Cell × V) => ([wx1714.1] : Ow))) (Fb := (fun (bx1714 : R_bag × Int) (wx1714 : List Cell × V) => ([(oRec k_bag A_bag).f bx1714.1 p1680 (wx1714.1), tInt.f bx1714.2 (wx1714.2)] : List Fact))) hG W hm ?_ ?_
    · clear hG W hm
      intro bx1714 wx1714 S H hm hG W
      refine e_set ?_
      refine e_call ?_
      refine e_cons ?_
      refine c_ref rfl ?_
      refine e_cons ?_
      refine c_ref rfl ?_
      refine e_nil ?_
      refine v_callO (g := bx1714.1) (a := bx1714.2) hG W hm 0 0 rfl rfl rfl (fun S h => (ra_one (Okc.at 1 rfl h))) ?_
      clear hG W hm
      intro r1717 v1718 c1719 S H hG W hm
      refine k_set hG W hm (sim_house (simF_make (simA_c (sim_get pj_0 rfl (sim_var 0 rfl rfl)) (simA_c (sim_get (pj_s pj_0) rfl (sim_var 0 rfl rfl)) (simA_one (SimF.sim (simF_list (sim_get (pj_s (pj_s pj_0)) rfl (sim_var 0 rfl rfl))))))))) ?_
      clear hG W hm
      intro house1729 v1730 S H hG W hm
      exact k_ret hG W hm (sim_call (simA_c (sim_var 1 rfl rfl) (simA_one (sim_var 0 rfl rfl)))) (fun v S H hG W hr => k v S H (Okc.at 12 rfl hG) (W.pick [] rfl) hr)
    · clear hm
      intro nxt1716 hm
      refine e_if ?_
      refine e_test ?_
      refine e_op ?_
      refine e_call ?_
      refine e_cons ?_
      refine c_ref rfl ?_
      refine e_cons ?_
      refine c_pure hG W hm sim_int ?_
      clear hG W hm
      intro x1734 v1735 S H hG W hm
      refine e_nil ?_
      refine v_callO (g := r1685.2) (a := x1734) hG W hm 0 5 rfl rfl rfl (fun S h => (ra_one (Okc.at 0 rfl h))) ?_
      clear hG W hm
      intro r1736 v1737 c1738 S H hG W hm
      refine c_pure hG W hm sim_int ?_
      clear hG W hm
      intro x1739 v1740 S H hG W hm
      refine x_op (σ := ([] : L2.St)) ?_
      refine c_pure hG W hm (sim_eqI (sim_K 1 rfl) (sim_K 0 rfl)) ?_
      clear hG W hm
      intro x1743 v1744 S H hG W hm
      refine y_bool hG 0 rfl ?_
      refine c_ite hm ?_ ?_
      · clear hm
        intro _ hm
        refine k_set hG W hm sim_int ?_
        clear hG W hm
        intro room1745 v1746 S H hG W hm
        refine y_next ?_
        exact nxt1716 _ (c1738, v1746) _ _ hm (Okc.cons (Okc.at 4 rfl hG) (Okc.cons (Okc.at 0 rfl hG) (Okc.dr 6 hG))) (W.pick [0] rfl)
      · clear hm
        intro _ hm
        refine y_next ?_
        exact nxt1716 _ (c1738, v1712) _ _ hm (Okc.cons (Okc.at 3 rfl hG) (Okc.cons (Okc.at 5 rfl hG) (Okc.dr 5 hG))) (W.pick [0] rfl)
end
end HF

set_option Elab.async false
set_option linter.all false
set_option maxRecDepth 100000
set_option maxHeartbeats 1000000
/-! MathA: the mirrors' loops in plain Lean. -/
namespace HF
open PySem PySem.Spec L2
open PyProof.Rows hiding St
section
variable {α β γ ρ : Type}
/-- not by rfl: the kernel shall not compute -/
theorem bs {a : α} {f : α → Option β} : (some a).bind f = f a := Option.ext fun x => Iff.rfl
theorem foldO_inv {f : β → α → Option β} (P : List α → β → Prop) : ∀ (xs pre : List α) (b : β), P pre b → (∀ p x q b, pre ++ xs = p ++ x :: q → pre.length ≤ p.length → P p b → ∃ b', f b x = some b' ∧ P (p ++ [x]) b') →
    ∃ b', foldO f b xs = some b' ∧ P (pre ++ xs) b'
  | [], pre, b, h, _ => ⟨b, rfl, by simpa using h⟩
  | x :: xs, pre, b, h, st => by
    obtain ⟨b', h1, h2⟩ := st pre x xs b rfl (Nat.le_refl _) h
    obtain ⟨b'', h3, h4⟩ := foldO_inv P xs (pre ++ [x]) b' h2 fun p y q b e l hp => st p y q b (by simpa using e) (by simp at l; omega) hp
    exact ⟨b'', by show (f b x).bind _ = _; rw [h1]; exact h3, by simpa using h4⟩
theorem foldO_spec {f : β → α → Option β} (P : List α → β → Prop) {xs : List α} {b : β} (h0 : P [] b) (st : ∀ p x q b, xs = p ++ x :: q → P p b → ∃ b', f b x = some b' ∧ P (p ++ [x]) b') : ∃ b', foldO f b xs = some b' ∧ P xs b' := by
  have := foldO_inv P xs [] b h0 fun p x q b e _ hp => st p x q b (by simpa using e) hp
  simpa using this
theorem foldO_all {f : β → α → Option β} (I : β → Prop) {xs : List α} {b : β} (h0 : I b) (st : ∀ x b, x ∈ xs → I b → ∃ b', f b x = some b' ∧ I b') : ∃ b', foldO f b xs = some b' ∧ I b' := by
  obtain ⟨b', h1, h2⟩ := foldO_spec (f := f) (fun _ b => I b) (xs := xs) h0 fun p x q b e hp => st x b (by rw [e]; simp) hp
  exact ⟨b', h1, h2⟩
/-- the loop in plain Lean -/
theorem foldO_eq {f : β → α → Option β} {g : β → α → β} {I : β → Prop} : ∀ {xs : List α} {b : β}, I b → (∀ b x, x ∈ xs → I b → f b x = some (g b x) ∧ I (g b x)) → foldO f b xs = some (xs.foldl g b) ∧ I (xs.foldl g b)
  | [], b, h, _ => ⟨rfl, h⟩
  | x :: xs, b, h, st => by
    obtain ⟨h1, h2⟩ := st b x (List.mem_cons_self ..) h
    obtain ⟨h3, h4⟩ := foldO_eq (f := f) (g := g) (I := I) (xs := xs) h2 fun b y m hb => st b y (List.mem_cons_of_mem _ m) hb
    exact ⟨by show (f b x).bind _ = _; rw [h1]; exact h3, h4⟩
theorem foldO_map {f : β → α → Option β} (g : β → α → β) {xs : List α} {b : β} (st : ∀ b x, x ∈ xs → f b x = some (g b x)) : foldO f b xs = some (xs.foldl g b) := (foldO_eq (I := fun _ => True) True.intro fun b x m _ => ⟨st b x m, True.intro⟩).1
theorem rangeL_succ (n : Nat) : rangeL 0 (n + 1) = rangeL 0 n ++ [(n : Int)] := by
  unfold rangeL
  rw [List.range_succ, List.map_append]
  simp
theorem mem_rangeL {n : Nat} {x : Int} : x ∈ rangeL 0 n ↔ 0 ≤ x ∧ x < n := by
  unfold rangeL
  simp only [List.mem_map, List.mem_range, Int.zero_add]
  constructor
  · rintro ⟨a, h, rfl⟩
    omega
  · intro h
    exact ⟨x.toNat, by omega, by omega⟩
theorem length_rangeL {a : Int} {n : Nat} : (rangeL a n).length = n := by simp [rangeL]
theorem nodup_rangeL {n : Nat} : (rangeL 0 n).Nodup := by
  unfold rangeL
  rw [List.nodup_iff_pairwise_ne, List.pairwise_map]
  exact List.nodup_range.imp fun h e => h (by omega)
theorem x_range_eq {n : Int} (h : n < 2 ^ 62) : x_range 0 n = some (rangeL 0 n.toNat) ∨ n < -(2 ^ 62) := by
  unfold x_range
  by_cases h1 : -(2 ^ 62) ≤ n
  · left
    rw [if_pos ⟨by decide, by decide, h1, h⟩, Int.sub_zero]
  · right
    omega
theorem x_range_nat {n : Nat} (h : n ≤ 1000000) : x_range 0 (n : Int) = some (rangeL 0 n) := by
  unfold x_range
  rw [if_pos ⟨by decide, by decide, by omega, by omega⟩, Int.sub_zero, Int.toNat_natCast]
theorem x_range_int {n : Int} (h : 0 ≤ n) (h2 : n ≤ 1000000) : x_range 0 n = some (rangeL 0 n.toNat) := by
  unfold x_range
  rw [if_pos ⟨by decide, by decide, by omega, by omega⟩, Int.sub_zero]
/-- a loop over a range -/
theorem foldO_rangeN {f : β → Int → Option β} (P : Nat → β → Prop) {n : Nat} {b : β} (h0 : P 0 b) (st : ∀ k b, k < n → P k b → ∃ b', f b (k : Int) = some b' ∧ P (k + 1) b') : ∃ b', foldO f b (rangeL 0 n) = some b' ∧ P n b' := by
  obtain ⟨b', h1, h2⟩ := foldO_spec (f := f) (fun p b => P p.length b) (xs := rangeL 0 n) h0 fun p x q b e hp => by
    have hx : x = (p.length : Int) ∧ p.length < n := by
      have h := congrArg (fun l => l[p.length]?) e
      simp only [List.getElem?_append_right (Nat.le_refl _), Nat.sub_self, List.getElem?_cons_zero] at h
      obtain ⟨h1, h2⟩ := rangeL_get h
      exact ⟨by omega, h1⟩
    obtain ⟨b', h1, h2⟩ := st p.length b hx.2 hp
    exact ⟨b', by rw [hx.1]; exact h1, by simpa using h2⟩
  rw [length_rangeL] at h2
  exact ⟨b', h1, h2⟩
theorem compM_eq {t : α → Option Bool} {e : α → Option β} {t' : α → Bool} {e' : α → β} : ∀ {xs : List α}, (∀ x ∈ xs, t x = some (t' x)) → (∀ x ∈ xs, t' x = true → e x = some (e' x)) → compM t e xs = some ((xs.filter t').map e')
  | [], _, _ => rfl
  | x :: xs, h1, h2 => by
    have ih := compM_eq (t := t) (e := e) (t' := t') (e' := e') (xs := xs) (fun y m => h1 y (List.mem_cons_of_mem _ m)) fun y m => h2 y (List.mem_cons_of_mem _ m)
    show (t x).bind _ = _
    rw [h1 x (List.mem_cons_self ..), Option.bind_some, ih]
    cases hx : t' x with
    | true =>
      rw [if_pos rfl, h2 x (List.mem_cons_self ..) hx, Option.bind_some, List.filter_cons_of_pos hx]
      rfl
    | false =>
      rw [if_neg Bool.false_ne_true, List.filter_cons_of_neg (by rw [hx]; exact Bool.false_ne_true)]
theorem x_comp_eq {t : α → Option Bool} {e : α → Option β} (t' : α → Bool) (e' : α → β) {xs : List α} (hl : xs.length ≤ 16777216) (h1 : ∀ x ∈ xs, t x = some (t' x)) (h2 : ∀ x ∈ xs, t' x = true → e x = some (e' x)) : x_comp t e xs = some ((xs.filter t').map e') := by
  unfold x_comp
  rw [if_pos (show xs.length ≤ sizeLine from hl)]
  exact compM_eq h1 h2
theorem x_comp_map {e : α → Option β} (e' : α → β) {xs : List α} (hl : xs.length ≤ 16777216) (h2 : ∀ x ∈ xs, e x = some (e' x)) : x_comp (fun _ => some true) e xs = some (xs.map e') := by
  rw [x_comp_eq (fun _ => true) e' hl (fun _ _ => rfl) fun x m _ => h2 x m, List.filter_eq_self.mpr fun _ _ => rfl]
theorem x_comp_filter {t : α → Option Bool} (t' : α → Bool) {xs : List α} (hl : xs.length ≤ 16777216) (h1 : ∀ x ∈ xs, t x = some (t' x)) : x_comp t (fun x => some x) xs = some (xs.filter t') := by
  rw [x_comp_eq t' (fun x => x) hl h1 fun _ _ _ => rfl]
  simp
theorem x_ix_nat {xs : List α} {i : Nat} (h : i < xs.length) : x_ix xs (i : Int) = some xs[i] := by
  unfold x_ix atI ixN
  rw [if_pos (by omega), if_pos (by omega), Option.bind_some, Int.toNat_natCast]
  exact List.getElem?_eq_getElem h
theorem x_ix_get {xs : List α} {i : Int} {a : α} (h0 : 0 ≤ i) (h : xs[i.toNat]? = some a) : x_ix xs i = some a := by
  have hl := (List.getElem?_eq_some_iff.mp h).1
  unfold x_ix atI ixN
  rw [if_pos h0, if_pos (by omega), Option.bind_some]
  exact h
theorem x_set_nat {xs : List α} {i : Int} {y : α} (h0 : 0 ≤ i) (h : i < xs.length) : x_set xs i y = some (xs.set i.toNat y) := by
  unfold x_set ixN
  rw [if_pos h0, if_pos h, Option.bind_some]
theorem x_app_eq {xs : List α} {y : α} (h : xs.length < 16777216) : x_app xs y = some (xs ++ [y]) := by
  unfold x_app
  rw [if_pos (show xs.length < sizeLine from h)]
theorem x_cat_eq {xs ys : List α} (h : xs.length + ys.length ≤ 16777216) : x_cat xs ys = some (xs ++ ys) := by
  unfold x_cat
  rw [if_pos (show xs.length + ys.length ≤ sizeLine from h)]
theorem x_rep1 {x : α} {n : Int} (h0 : 0 ≤ n) (h : n ≤ 1000000) : x_rep [x] n = some (List.replicate n.toNat x) := by
  unfold x_rep
  rw [if_pos ⟨by omega, by omega, by show _ ≤ 16777216; simp; omega⟩]
  congr 1
  generalize n.toNat = k
  induction k with
  | zero => rfl
  | succ k ih => rw [List.replicate_succ, List.flatten_cons, ih, List.replicate_succ]; rfl
theorem forK_go {f : β → α → (β → Option γ) → (β → Option γ) → Option γ} {k : β → Option γ} {g : β → α → β} {I : β → Prop} : ∀ {xs : List α} {b : β}, I b → (∀ b x kn kb, x ∈ xs → I b → f b x kn kb = kn (g b x) ∧ I (g b x)) → forK f k xs b = k (xs.foldl g b) ∧ I (xs.foldl g b)
  | [], b, h, _ => ⟨rfl, h⟩
  | x :: xs, b, h, st => by
    obtain ⟨_, h2⟩ := st b x k k (List.mem_cons_self ..) h
    obtain ⟨h3, h4⟩ := forK_go (f := f) (k := k) (g := g) (I := I) (xs := xs) h2 fun b y kn kb m hb => st b y kn kb (List.mem_cons_of_mem _ m) hb
    exact ⟨by show f b x _ k = _; rw [(st b x _ k (List.mem_cons_self ..) h).1]; exact h3, h4⟩
/-- a loop that looks for the first one -/
theorem forK_find {f : Unit → α → (Unit → Option γ) → (Unit → Option γ) → Option γ} {k : Unit → Option γ} (c : α → Bool) (r : α → Option γ) : ∀ {xs : List α}, (∀ x kn kb, x ∈ xs → f () x kn kb = if c x = true then r x else kn ()) → forK f k xs () = match xs.find? c with | some x => r x | none => k ()
  | [], _ => rfl
  | x :: xs, h => by
    show f () x _ _ = _
    rw [h x _ _ (List.mem_cons_self ..)]
    cases hc : c x with
    | true => rw [if_pos rfl, List.find?_cons_of_pos hc]
    | false =>
      rw [if_neg Bool.false_ne_true, List.find?_cons_of_neg (by rw [hc]; exact Bool.false_ne_true)]
      exact forK_find c r fun y kn kb m => h y kn kb (List.mem_cons_of_mem _ m)
theorem whileO_inv {c : β → Option Bool} {f : β → Option β} (P : Nat → β → Prop) : ∀ (n : Nat) (b : β) (m : Nat), m < n → P m b → (∀ m b, P (m + 1) b → c b = some true ∧ ∃ b', f b = some b' ∧ P m b') → (∀ b, P 0 b → c b = some false) → ∃ b', whileO c f n b = some b' ∧ P 0 b'
  | 0, _, _, h, _, _, _ => by omega
  | n + 1, b, 0, _, hp, _, h0 => ⟨b, by show (c b).bind _ = _; rw [h0 b hp]; rfl, hp⟩
  | n + 1, b, m + 1, h, hp, st, h0 => by
    obtain ⟨h1, b', h2, h3⟩ := st m b hp
    obtain ⟨b'', h4, h5⟩ := whileO_inv P n b' m (by omega) h3 st h0
    exact ⟨b'', by show (c b).bind _ = _; rw [h1, Option.bind_some, if_pos rfl, h2, Option.bind_some]; exact h4, h5⟩
/-! ### it comes to a value with Q -/
def Ok (m : Option α) (Q : α → Prop) : Prop := ∃ r, m = some r ∧ Q r
theorem Ok.pure {a : α} {Q : α → Prop} (h : Q a) : Ok (some a) Q := ⟨a, rfl, h⟩
theorem Ok.bind {m : Option α} {k : α → Option β} {P : α → Prop} {Q : β → Prop} (h : Ok m P) (n : ∀ a, P a → Ok (k a) Q) : Ok (m.bind k) Q := by
  obtain ⟨a, rfl, h⟩ := h
  exact n a h
theorem Ok.bindE {m : Option α} {k : α → Option β} {a : α} {Q : β → Prop} (h : m = some a) (n : Ok (k a) Q) : Ok (m.bind k) Q := by
  rw [h]
  exact n
theorem Ok.mono {m : Option α} {P Q : α → Prop} (h : Ok m P) (n : ∀ a, P a → Q a) : Ok m Q := by
  obtain ⟨a, e, h⟩ := h
  exact ⟨a, e, n a h⟩
theorem Ok.eq {m : Option α} {a : α} (h : m = some a) : Ok m (fun b => b = a) := ⟨a, h, rfl⟩
theorem Ok.of {m : Option α} {a : α} (h : Ok m (fun b => b = a)) : m = some a := by
  obtain ⟨b, e, rfl⟩ := h
  exact e
theorem Ok.ite {c : Bool} {A B : Option α} {Q : α → Prop} (h1 : c = true → Ok A Q) (h2 : c = false → Ok B Q) : Ok (if c = true then A else B) Q := by
  cases c with
  | true => exact h1 rfl
  | false => exact h2 rfl
theorem Ok.fold {f : β → α → Option β} {k : β → Option γ} {b : β} {xs : List α} {Q : γ → Prop} (P : List α → β → Prop) (h0 : P [] b) (st : ∀ p x q b, xs = p ++ x :: q → P p b → Ok (f b x) (P (p ++ [x]))) (n : ∀ b, P xs b → Ok (k b) Q) : Ok ((foldO f b xs).bind k) Q :=
  Ok.bind (foldO_spec P h0 st) n
theorem Ok.foldI {f : β → α → Option β} {k : β → Option γ} {b : β} {xs : List α} {Q : γ → Prop} (I : β → Prop) (h0 : I b) (st : ∀ x b, x ∈ xs → I b → Ok (f b x) I) (n : ∀ b, I b → Ok (k b) Q) : Ok ((foldO f b xs).bind k) Q :=
  Ok.bind (foldO_all I h0 st) n
theorem Ok.foldN {f : β → Int → Option β} {k : β → Option γ} {b : β} {n : Nat} {Q : γ → Prop} (P : Nat → β → Prop) (h0 : P 0 b) (st : ∀ k b, k < n → P k b → Ok (f b (k : Int)) (P (k + 1))) (m : ∀ b, P n b → Ok (k b) Q) : Ok ((foldO f b (rangeL 0 n)).bind k) Q :=
  Ok.bind (foldO_rangeN P h0 st) m
theorem Ok.while {c : β → Option Bool} {f : β → Option β} {k : β → Option γ} {b : β} {n : Nat} {Q : γ → Prop} (P : Nat → β → Prop) (m : Nat) (hm : m < n) (h0 : P m b) (st : ∀ m b, P (m + 1) b → c b = some true ∧ Ok (f b) (P m)) (e : ∀ b, P 0 b → c b = some false) (nx : ∀ b, P 0 b → Ok (k b) Q) : Ok ((whileO c f n b).bind k) Q :=
  Ok.bind (whileO_inv P n b m hm h0 st e) nx
end
end HF

set_option Elab.async false
set_option linter.all false
set_option maxRecDepth 100000
set_option maxHeartbeats 1000000
/-! MathB: masks. -/
namespace HF
open PySem PySem.Spec L2
open PyProof.Rows hiding St
theorem and_nat (a b : Nat) : Builtin.bitAnd (a : Int) (b : Int) = ((a &&& b : Nat) : Int) := by
  unfold Builtin.bitAnd
  simp
theorem or_nat (a b : Nat) : Builtin.bitOr (a : Int) (b : Int) = ((a ||| b : Nat) : Int) := by
  unfold Builtin.bitOr Builtin.bitAnd
  have h1 : decide (0 ≤ Builtin.bitNot (a : Int)) = false := by unfold Builtin.bitNot; simp; omega
  have h2 : decide (0 ≤ Builtin.bitNot (b : Int)) = false := by unfold Builtin.bitNot; simp; omega
  have h3 : ∀ x : Int, Builtin.bitNot (Builtin.bitNot x) = x := fun x => by unfold Builtin.bitNot; omega
  rw [h1, h2]
  simp only [h3, Int.toNat_natCast]
theorem x_shr_nat (m i : Nat) : x_shr (m : Int) (i : Int) = some ((m >>> i : Nat) : Int) := by
  unfold x_shr
  rw [if_pos (by omega), Int.toNat_natCast, Nat.shiftRight_eq_div_pow]
  simp
theorem x_shl1 (i : Nat) (h : i ≤ 1000000) : x_shl 1 (i : Int) = some ((2 ^ i : Nat) : Int) := by
  unfold x_shl
  rw [if_pos ⟨by omega, by omega, by decide⟩, Int.toNat_natCast]
  simp
theorem bit1 (m i : Nat) : (((m >>> i : Nat) &&& 1 : Nat) = 1) = (m.testBit i = true) := by
  have h := Nat.and_one_is_mod (m >>> i)
  rw [Nat.testBit_eq_decide_div_mod_eq, h, Nat.shiftRight_eq_div_pow]
  simp
theorem bit0 (m i : Nat) : (((m >>> i : Nat) &&& 1 : Nat) = 0) = (m.testBit i = false) := by
  have h := Nat.and_one_is_mod (m >>> i)
  rw [Nat.testBit_eq_decide_div_mod_eq, h, Nat.shiftRight_eq_div_pow]
  simp
/-- mask >> lamp & 1 == 1 -/
theorem tst1 (m i : Nat) : ((x_shr (m : Int) (i : Int)).bind fun a => some (Builtin.bitAnd a 1)) = some (if m.testBit i = true then 1 else 0) := by
  rw [x_shr_nat, Option.bind_some]
  congr 1
  have := and_nat (m >>> i) 1
  rw [show ((1 : Nat) : Int) = 1 from rfl] at this
  rw [this]
  have h1 := bit1 m i
  have h0 := bit0 m i
  cases hb : m.testBit i with
  | true =>
    rw [hb] at h1
    simp only [eq_self, eq_iff_iff, iff_true] at h1
    rw [h1]
    rfl
  | false =>
    rw [hb] at h0
    simp only [eq_self, eq_iff_iff, iff_true] at h0
    rw [h0]
    rfl
theorem lt_intBits (m : Nat) : m < 2 ^ (Builtin.Int.intBits (m : Int)) := by
  unfold Builtin.Int.intBits
  by_cases h : m = 0
  · subst h
    decide
  · rw [if_neg (by simp [h])]
    exact Nat.lt_log2_self
theorem intBits_le {m n : Nat} (h : m < 2 ^ n) : Builtin.Int.intBits (m : Int) ≤ n := by
  unfold Builtin.Int.intBits
  by_cases h0 : m = 0
  · subst h0
    simp
  · rw [if_neg (by simp [h0])]
    have h1 := (Nat.log2_lt h0).mpr h
    show (m : Int).natAbs.log2 + 1 ≤ n
    rw [Int.natAbs_natCast]
    omega
/-- a list of masks that says a relation -/
structure ML (n : Nat) (B : List Int) (R : Int → Int → Prop) : Prop where
  len : B.length = n
  ent : ∀ u : Nat, u < n → ∃ m : Nat, B[u]? = some (m : Int) ∧ m < 2 ^ n ∧ ∀ v : Nat, m.testBit v = true ↔ R u v
  dom : ∀ u v, R u v → 0 ≤ v ∧ v < n
theorem ML.ix {n : Nat} {B : List Int} {R : Int → Int → Prop} (h : ML n B R) {u : Int} (h0 : 0 ≤ u) (h1 : u < n) : ∃ m : Nat, x_ix B u = some (m : Int) ∧ m < 2 ^ n ∧ ∀ v : Nat, m.testBit v = true ↔ R u v := by
  obtain ⟨k, rfl⟩ := Int.eq_ofNat_of_zero_le h0
  obtain ⟨m, e1, e2, e3⟩ := h.ent k (by omega)
  exact ⟨m, x_ix_get h0 (by simpa using e1), e2, e3⟩
theorem ML.set {n : Nat} {B : List Int} {R R' : Int → Int → Prop} (h : ML n B R) {u : Int} (h0 : 0 ≤ u) (h1 : u < n) {m : Nat} (hm : m < 2 ^ n) (e : ∀ v : Nat, m.testBit v = true ↔ R' u v) (o : ∀ x y, x ≠ u → (R' x y ↔ R x y)) (d : ∀ v, R' u v → 0 ≤ v ∧ v < n) :
    ∃ B', x_set B u (m : Int) = some B' ∧ ML n B' R' := by
  obtain ⟨k, rfl⟩ := Int.eq_ofNat_of_zero_le h0
  have hk : k < n := by omega
  refine ⟨B.set k (m : Int), x_set_nat h0 (by rw [h.len]; omega), by rw [List.length_set]; exact h.len, fun x hx => ?_, fun x y q => ?_⟩
  · by_cases q : x = k
    · subst q
      exact ⟨m, by rw [List.getElem?_set_self (by rw [h.len]; exact hx)], hm, e⟩
    · obtain ⟨m', e1, e2, e3⟩ := h.ent x hx
      exact ⟨m', by rw [List.getElem?_set_ne (by omega)]; exact e1, e2, fun v => (e3 v).trans (o _ _ (by omega)).symm⟩
  · by_cases q' : x = (k : Int)
    · subst q'
      exact d y q
    · exact h.dom x y ((o x y q').mp q)
theorem ML.congr {n : Nat} {B : List Int} {R R' : Int → Int → Prop} (h : ML n B R) (e : ∀ u v, 0 ≤ u → u < n → (R u v ↔ R' u v)) (d : ∀ u v, R' u v → 0 ≤ v ∧ v < n) : ML n B R' :=
  ⟨h.len, fun u hu => by
    obtain ⟨m, e1, e2, e3⟩ := h.ent u hu
    exact ⟨m, e1, e2, fun v => (e3 v).trans (e u v (by omega) (by omega))⟩, d⟩
theorem testBit_lt {m n : Nat} (h : ∀ v, m.testBit v = true → v < n) : m < 2 ^ n := Nat.lt_pow_two_of_testBit m fun i hi => by
  cases hb : m.testBit i with
  | false => rfl
  | true => have := h i hb; omega
theorem ML.zero (n : Nat) : ML n (List.replicate n 0) (fun _ _ => False) := ⟨by simp, fun u hu => ⟨0, by simp [hu], Nat.two_pow_pos _, fun v => by simp⟩, fun _ _ h => h.elim⟩
end HF

set_option Elab.async false
set_option linter.all false
set_option maxRecDepth 100000
set_option maxHeartbeats 1000000
/-! MathC: the house's wires. -/
namespace HF
open PySem PySem.Spec L2
open PyProof.Rows hiding St
theorem is_integer_eq (x : Int) : m_is_integer x = some true := rfl
abbrev Wr (P : List (Int × Int)) (u v : Int) : Prop := (u, v) ∈ P
/-- v lies beneath u -/
abbrev Dn (P : List (Int × Int)) : Int → Int → Prop := Relation.TransGen (Wr P)
theorem Dn.mono {P Q : List (Int × Int)} (h : ∀ x ∈ P, x ∈ Q) {u v : Int} (d : Dn P u v) : Dn Q u v := by
  induction d with
  | single e => exact .single (h _ e)
  | tail _ e ih => exact .tail ih (h _ e)
theorem Dn.trans {P : List (Int × Int)} {a b c : Int} (h1 : Dn P a b) (h2 : Dn P b c) : Dn P a c := by
  induction h2 with
  | single e => exact .tail h1 e
  | tail _ e ih => exact .tail ih e
theorem dn_snoc {P : List (Int × Int)} {u l x y : Int} : Dn (P ++ [(u, l)]) x y ↔ Dn P x y ∨ ((x = u ∨ Dn P x u) ∧ (y = l ∨ Dn P l y)) := by
  constructor
  · intro d
    induction d with
    | @single b e =>
      rcases List.mem_append.mp e with e | e
      · exact .inl (.single e)
      · simp at e
        exact .inr ⟨.inl e.1, .inl e.2⟩
    | @tail b c _ e ih =>
      rcases List.mem_append.mp e with e' | e'
      · rcases ih with ih | ⟨h1, h2⟩
        · exact .inl (.tail ih e')
        · refine .inr ⟨h1, .inr ?_⟩
          rcases h2 with h2 | h2
          · rw [h2] at e'
            exact .single e'
          · exact .tail h2 e'
      · have e1 : b = u ∧ c = l := by simpa using e'
        obtain ⟨rfl, rfl⟩ := e1
        rcases ih with ih | ⟨h1, h2⟩
        · exact .inr ⟨.inr ih, .inl rfl⟩
        · exact .inr ⟨h1, .inl rfl⟩
  · have up : ∀ {a b}, Dn P a b → Dn (P ++ [(u, l)]) a b := fun d => d.mono fun _ m => List.mem_append_left _ m
    have e : Dn (P ++ [(u, l)]) u l := .single (List.mem_append_right _ (List.mem_singleton.mpr rfl))
    rintro (h | ⟨h1, h2⟩)
    · exact up h
    · have a : Dn (P ++ [(u, l)]) x l := by
        rcases h1 with rfl | h1
        · exact e
        · exact (up h1).trans e
      rcases h2 with rfl | h2
      · exact a
      · exact a.trans (up h2)
/-- wires that a house takes: along an order of the lamps -/
structure GoodW (n : Nat) (rk : Int → Nat) (P : List (Int × Int)) : Prop where
  nd : P.Nodup
  dom : ∀ u v, (u, v) ∈ P → 0 ≤ u ∧ u < n ∧ 0 ≤ v ∧ v < n
  up : ∀ u v, (u, v) ∈ P → rk u < rk v
theorem GoodW.dn {n : Nat} {rk : Int → Nat} {P Q : List (Int × Int)} (h : GoodW n rk P) (hq : ∀ x ∈ Q, x ∈ P) {u v : Int} (d : Dn Q u v) : rk u < rk v ∧ 0 ≤ u ∧ u < n ∧ 0 ≤ v ∧ v < n := by
  induction d with
  | single e =>
    have := h.dom _ _ (hq _ e)
    exact ⟨h.up _ _ (hq _ e), this⟩
  | tail _ e ih =>
    have := h.dom _ _ (hq _ e)
    have := h.up _ _ (hq _ e)
    omega
theorem is_wire_eq (n u v : Int) : m__is_wire n (u, v) = some (decide (0 ≤ u ∧ u < n ∧ 0 ≤ v ∧ v < n ∧ u ≠ v)) := by
  unfold m__is_wire
  simp only [Option.bind_some, is_integer_eq, orM, andM]
  by_cases h1 : 0 ≤ u <;> by_cases h2 : u < n <;> by_cases h3 : 0 ≤ v <;> by_cases h4 : v < n <;> by_cases h5 : u = v <;> simp [h1, h2, h3, h4, h5] <;> omega
theorem enumL_mem {α : Type} {xs : List α} {p : Int × α} (h : p ∈ enumL xs) : ∃ i : Nat, p.1 = (i : Int) ∧ xs[i]? = some p.2 := by
  obtain ⟨i, hi⟩ := List.getElem?_of_mem h
  obtain ⟨a, h1, h2⟩ := enumL_get hi
  exact ⟨i, by rw [h2], by rw [h2]; exact h1⟩
theorem enumL_snd {α : Type} (xs : List α) : (enumL xs).map (·.2) = xs := by
  unfold enumL
  rw [List.map_map]
  show (xs.zipIdx.map fun p => p.1) = xs
  simp
/-- the test of one bit of a mask in a list -/
theorem ML.bit {n : Nat} {B : List Int} {R : Int → Int → Prop} (h : ML n B R) {u v : Int} (h0 : 0 ≤ u) (h1 : u < n) (h2 : 0 ≤ v) : ∃ b : Bool, (b = true ↔ R u v) ∧ (((x_ix B u).bind fun a => x_shr a v).bind fun a => some (Builtin.bitAnd a 1)) = some (if b = true then 1 else 0) := by
  obtain ⟨m, e1, _, e3⟩ := h.ix h0 h1
  obtain ⟨k, rfl⟩ := Int.eq_ofNat_of_zero_le h2
  refine ⟨m.testBit k, e3 k, ?_⟩
  rw [e1, Option.bind_some]
  exact tst1 m k
theorem ML.orBit {n : Nat} {B : List Int} {R : Int → Int → Prop} (hn : n ≤ 1000) (h : ML n B R) {u l : Int} (h0 : 0 ≤ u) (h1 : u < n) (h2 : 0 ≤ l) (h3 : l < n) :
    ∃ m : Nat, ((x_ix B u).bind fun a => (x_shl 1 l).bind fun b => some (Builtin.bitOr a b)) = some (m : Int) ∧ m < 2 ^ n ∧ ∀ v : Nat, m.testBit v = true ↔ R u v ∨ (v : Int) = l := by
  obtain ⟨m, e1, e2, e3⟩ := h.ix h0 h1
  obtain ⟨k, rfl⟩ := Int.eq_ofNat_of_zero_le h2
  have hb : ∀ v : Nat, (m ||| 2 ^ k).testBit v = true ↔ R u v ∨ (v : Int) = (k : Int) := fun v => by
    rw [Nat.testBit_or, Nat.testBit_two_pow, Bool.or_eq_true, e3 v, decide_eq_true_eq]
    constructor
    · rintro (h | h)
      · exact .inl h
      · exact .inr (by omega)
    · rintro (h | h)
      · exact .inl h
      · exact .inr (by omega)
  refine ⟨m ||| 2 ^ k, ?_, testBit_lt fun v hv => ?_, hb⟩
  · rw [e1, x_shl1 k (by omega), bs, bs, or_nat]
  · rcases (hb v).mp hv with q | q
    · have := h.dom _ _ q
      omega
    · omega
theorem test1 {m : Option Int} {b : Bool} (h : m = some (if b = true then 1 else 0)) : (m.bind fun z => some (decide (z = 1))) = some b := by
  rw [h]
  cases b <;> rfl
theorem test0 {m : Option Int} {b : Bool} (h : m = some (if b = true then 1 else 0)) : (m.bind fun z => some (decide (z = 0))) = some (!b) := by
  rw [h]
  cases b <;> rfl
theorem join_wires_eq {n : Nat} {rk : Int → Nat} {P : List (Int × Int)} (hn : n ≤ 1000) (h : GoodW n rk P) : Ok (m__join_wires n P) fun B => ML n B (Dn P) := by
  unfold m__join_wires
  simp only [bs]
  refine Ok.bindE (x_rep1 (by omega) (by omega)) ?_
  refine Ok.bindE (x_rep1 (by omega) (by omega)) ?_
  rw [Int.toNat_natCast]
  refine Ok.fold (fun (p : List (Int × (Int × Int))) (b : List Int × List Int) => ML n b.1 (Wr (p.map (·.2))) ∧ ML n b.2 (Dn (p.map (·.2)))) ?_ ?_ ?_
  · refine ⟨(ML.zero n).congr (fun u v _ _ => by simp) (fun u v h => by simp at h), (ML.zero n).congr (fun u v _ _ => ?_) (fun u v h => ?_)⟩
    · constructor
      · exact False.elim
      · intro d
        induction d with
        | single e => simp at e
        | tail _ e => simp at e
    · induction h with
      | single e => simp at e
      | tail _ e => simp at e
  · rintro p ⟨i, u, l⟩ q ⟨wd, bl⟩ e ⟨h1, h2⟩
    have eP : P = p.map (·.2) ++ (u, l) :: q.map (·.2) := by
      have := congrArg (List.map (·.2)) e
      rw [enumL_snd] at this
      simpa using this
    have hm : (u, l) ∈ P := by rw [eP]; simp
    obtain ⟨d1, d2, d3, d4⟩ := h.dom u l hm
    have hr := h.up u l hm
    have ne : u ≠ l := fun e => by subst e; omega
    have sub : ∀ x ∈ p.map (·.2), x ∈ P := fun x m => by rw [eP]; exact List.mem_append_left _ m
    dsimp only at h1 h2 ⊢
    rw [is_wire_eq, decide_eq_true (p := _) ⟨d1, d2, d3, d4, ne⟩]
    simp only [Option.bind_some, Bool.not_true, Bool.false_eq_true, if_false]
    obtain ⟨b, hb, eb⟩ := h1.bit d1 d2 d3
    have hbf : b = false := by
      cases b with
      | false => rfl
      | true =>
        have : (u, l) ∈ p.map (·.2) := hb.mp rfl
        have nd := h.nd
        rw [eP] at nd
        exact absurd rfl ((List.nodup_append.mp nd).2.2 _ this _ (List.mem_cons_self ..))
    subst hbf
    refine Ok.bindE (test1 eb) ?_
    simp only [Bool.false_eq_true, if_false]
    obtain ⟨b, hb, eb⟩ := h2.bit d3 d4 d1
    have hbf : b = false := by
      cases b with
      | false => rfl
      | true =>
        have := (h.dn sub (hb.mp rfl)).1
        omega
    subst hbf
    refine Ok.bindE (test1 eb) ?_
    simp only [Bool.false_eq_true, if_false]
    obtain ⟨m, em, lm, bm⟩ := h1.orBit hn d1 d2 d3 d4
    refine Ok.bindE em ?_
    obtain ⟨wd', ew, hw⟩ := h1.set (R' := Wr ((p ++ [(i, (u, l))]).map (·.2))) d1 d2 lm (fun v => by
      rw [bm v]
      simp [Wr]) (fun x y hx => by simp [Wr]; exact fun e _ => absurd e hx) (fun v hv => by
      have := h.dom u v (by
        rw [eP]
        simp [Wr] at hv ⊢
        rcases hv with hv | hv
        · exact .inl hv
        · exact .inr (.inl hv))
      omega)
    refine Ok.bindE ew ?_
    obtain ⟨g, eg, lg, bg⟩ := h2.orBit hn d3 d4 d3 d4
    refine Ok.bindE eg ?_
    refine Ok.bindE (x_range_nat (by omega)) ?_
    have hsn : ∀ x y, Dn ((p ++ [(i, (u, l))]).map (·.2)) x y ↔ Dn (p.map (·.2)) x y ∨ ((x = u ∨ Dn (p.map (·.2)) x u) ∧ (y = l ∨ Dn (p.map (·.2)) l y)) := fun x y => by
      rw [List.map_append]
      exact dn_snoc
    refine Ok.foldN (fun k b => ML n b (fun x y => Dn (p.map (·.2)) x y ∨ (x < k ∧ (x = u ∨ Dn (p.map (·.2)) x u) ∧ (y = l ∨ Dn (p.map (·.2)) l y)))) ?_ ?_ ?_
    · refine h2.congr (fun x y hx _ => ⟨.inl, fun q => ?_⟩) (fun x y q => ?_)
      · rcases q with q | q
        · exact q
        · omega
      · rcases q with q | ⟨_, _, q⟩
        · exact h2.dom _ _ q
        · rcases q with rfl | q
          · exact ⟨d3, d4⟩
          · exact h2.dom _ _ q
    · intro k b hk hb
      have k0 : (0 : Int) ≤ k := by omega
      have k1 : (k : Int) < n := by omega
      obtain ⟨t, ht, et⟩ := hb.bit k0 k1 d1
      rw [test1 et]
      have ho : orM (decide ((k : Int) = u)) (some t) = some (decide ((k : Int) = u) || t) := orM_some _ _
      rw [ho, bs]
      have hc : (decide ((k : Int) = u) || t) = true ↔ ((k : Int) = u ∨ Dn (p.map (·.2)) k u) := by
        rw [Bool.or_eq_true, decide_eq_true_eq, ht]
        constructor
        · rintro (q | q | q)
          · exact .inl q
          · exact .inr q
          · omega
        · rintro (q | q)
          · exact .inl q
          · exact .inr (.inl q)
      refine Ok.ite (fun ct => ?_) (fun cf => ?_)
      · have ct' := hc.mp ct
        obtain ⟨mk, e1, e2, e3⟩ := hb.ix k0 k1
        rw [e1, bs, or_nat, bs]
        have hbit : ∀ v : Nat, (mk ||| g).testBit v = true ↔ (Dn (p.map (·.2)) k v ∨ ((v : Int) = l ∨ Dn (p.map (·.2)) l v)) := fun v => by
          rw [Nat.testBit_or, Bool.or_eq_true, e3 v, bg v]
          constructor
          · rintro ((q | q) | (q | q))
            · exact .inl q
            · omega
            · exact .inr (.inr q)
            · exact .inr (.inl q)
          · rintro (q | q | q)
            · exact .inl (.inl q)
            · exact .inr (.inr q)
            · exact .inr (.inl q)
        have dm : ∀ y, (Dn (p.map (·.2)) k y ∨ (y = l ∨ Dn (p.map (·.2)) l y)) → 0 ≤ y ∧ y < n := fun y q => by
          rcases q with q | rfl | q
          · exact h2.dom _ _ q
          · exact ⟨d3, d4⟩
          · exact h2.dom _ _ q
        obtain ⟨b', eb', hb'⟩ := hb.set (R' := fun x y => Dn (p.map (·.2)) x y ∨ (x < ((k + 1 : Nat) : Int) ∧ (x = u ∨ Dn (p.map (·.2)) x u) ∧ (y = l ∨ Dn (p.map (·.2)) l y))) k0 k1 (m := mk ||| g) (testBit_lt fun v hv => by
            have := dm v ((hbit v).mp hv)
            omega) (fun v => by
            rw [hbit v]
            constructor
            · rintro (q | q)
              · exact .inl q
              · exact .inr ⟨by omega, ct', q⟩
            · rintro (q | ⟨_, _, q⟩)
              · exact .inl q
              · exact .inr q) (fun x y hx => by
            constructor
            · rintro (q | ⟨q1, q2⟩)
              · exact .inl q
              · exact .inr ⟨by omega, q2⟩
            · rintro (q | ⟨q1, q2⟩)
              · exact .inl q
              · exact .inr ⟨by omega, q2⟩) (fun y q => by
            rcases q with q | ⟨_, _, q⟩
            · exact dm y (.inl q)
            · exact dm y (.inr q))
        rw [eb', bs]
        exact Ok.pure hb'
      · have cf' : ¬ ((k : Int) = u ∨ Dn (p.map (·.2)) k u) := fun q => by
          rw [hc.mpr q] at cf
          cases cf
        refine Ok.pure (hb.congr (fun x y _ _ => ?_) (fun x y q => ?_))
        · constructor
          · rintro (q | ⟨q1, q2⟩)
            · exact .inl q
            · exact .inr ⟨by omega, q2⟩
          · rintro (q | ⟨q1, q2⟩)
            · exact .inl q
            · by_cases hx : x = k
              · subst hx
                exact absurd q2.1 cf'
              · exact .inr ⟨by omega, q2⟩
        · rcases q with q | ⟨_, _, q⟩
          · exact h2.dom _ _ q
          · rcases q with rfl | q
            · exact ⟨d3, d4⟩
            · exact h2.dom _ _ q
    · intro b hb
      refine Ok.pure ⟨hw, hb.congr (fun x y _ hx => ?_) (fun x y q => ?_)⟩
      · rw [hsn]
        constructor
        · rintro (q | ⟨_, q⟩)
          · exact .inl q
          · exact .inr q
        · rintro (q | q)
          · exact .inl q
          · exact .inr ⟨by omega, q⟩
      · have := h.dn (Q := (p ++ [(i, (u, l))]).map (·.2)) (fun x m => by
          rw [eP]
          simp at m ⊢
          rcases m with m | m
          · exact .inl m
          · exact .inr (.inl m)) q
        omega
  · rintro ⟨wd, bl⟩ ⟨_, h2⟩
    rw [enumL_snd] at h2
    exact Ok.pure h2
end HF

set_option Elab.async false
set_option linter.all false
set_option maxRecDepth 100000
set_option maxHeartbeats 1000000
/-! MathD: bits, turning round, the order list. -/
namespace HF
open PySem PySem.Spec L2
open PyProof.Rows hiding St
theorem enumL_at {α : Type} {xs : List α} {p q : List (Int × α)} {x : Int × α} (e : enumL xs = p ++ x :: q) : x.1 = (p.length : Int) ∧ xs[p.length]? = some x.2 := by
  have h : (enumL xs)[p.length]? = some x := by rw [e]; simp
  obtain ⟨a, h1, h2⟩ := enumL_get h
  rw [h2]
  exact ⟨rfl, h1⟩
theorem enumL_len {α : Type} (xs : List α) : (enumL xs).length = xs.length := by simp [enumL]
/-- the lamps of a mask -/
theorem bits_eq {n m : Nat} (hn : n ≤ 1000) (hm : m < 2 ^ n) : m_bits (m : Int) = some ((rangeL 0 n).filter fun v => m.testBit v.toNat) := by
  unfold m_bits
  simp only [bs]
  have hk := intBits_le hm
  rw [x_range_nat (by omega), bs]
  rw [x_comp_filter (fun v => m.testBit v.toNat) (by rw [length_rangeL]; omega) (fun x hx => ?_)]
  · congr 1
    obtain ⟨d, hd⟩ := Nat.exists_eq_add_of_le hk
    rw [hd]
    unfold rangeL
    rw [List.range_add, List.map_append, List.filter_append]
    have : (List.filter (fun v : Int => m.testBit v.toNat) (List.map (fun i : Nat => 0 + (i : Int)) (List.map (fun x => Builtin.Int.intBits (m : Int) + x) (List.range d)))) = [] := by
      rw [List.filter_eq_nil_iff]
      intro v hv
      simp only [List.mem_map, List.mem_range] at hv
      obtain ⟨a, ⟨b, _, rfl⟩, rfl⟩ := hv
      have h1 := lt_intBits m
      have h2 : m < 2 ^ (Builtin.Int.intBits (m : Int) + b) := Nat.lt_of_lt_of_le h1 (Nat.pow_le_pow_right (by decide) (by omega))
      have e : (0 + ((Builtin.Int.intBits (m : Int) + b : Nat) : Int)).toNat = Builtin.Int.intBits (m : Int) + b := by omega
      rw [e, Nat.testBit_lt_two_pow h2]
      decide
    rw [this, List.append_nil]
  · obtain ⟨h0, h1⟩ := mem_rangeL.mp hx
    obtain ⟨k, rfl⟩ := Int.eq_ofNat_of_zero_le h0
    rw [test1 (tst1 m k)]
    rfl
noncomputable def dnB (P : List (Int × Int)) (u v : Int) : Bool := @decide (Dn P u v) (Classical.propDecidable _)
theorem dnB_iff {P : List (Int × Int)} {u v : Int} : dnB P u v = true ↔ Dn P u v := by unfold dnB; exact @decide_eq_true_iff _ (Classical.propDecidable _)
theorem nodup_len {α : Type} [DecidableEq α] : ∀ {l m : List α}, l.Nodup → l ⊆ m → l.length ≤ m.length
  | [], _, _, _ => Nat.zero_le _
  | a :: l, m, h, s => by
    obtain ⟨h1, h2⟩ := List.nodup_cons.mp h
    have ha : a ∈ m := s (List.mem_cons_self ..)
    have ih := nodup_len (l := l) (m := m.erase a) h2 fun x hx => (List.mem_erase_of_ne (fun e => h1 (by rw [← e]; exact hx))).mpr (s (List.mem_cons_of_mem _ hx))
    rw [List.length_erase_of_mem ha] at ih
    have := List.length_pos_of_mem ha
    simp only [List.length_cons]
    omega
noncomputable def belowL (n : Nat) (P : List (Int × Int)) (u : Int) : List Int := (rangeL 0 n).filter fun v => dnB P u v
noncomputable def aboveL (n : Nat) (P : List (Int × Int)) (v : Int) : List Int := (rangeL 0 n).filter fun u => dnB P u v
theorem mask_list {n m : Nat} {R : Int → Prop} {p : Int → Bool} (h : ∀ v : Nat, m.testBit v = true ↔ R v) (hp : ∀ v, p v = true ↔ R v) : (rangeL 0 n).filter (fun v => m.testBit v.toNat) = (rangeL 0 n).filter p := by
  refine List.filter_congr fun v hv => ?_
  obtain ⟨h0, _⟩ := mem_rangeL.mp hv
  obtain ⟨k, rfl⟩ := Int.eq_ofNat_of_zero_le h0
  have h1 := h k
  have h2 := hp k
  rw [Int.toNat_natCast]
  cases e1 : m.testBit k <;> cases e2 : p (k : Int) <;> simp_all
/-- turned round -/
theorem turn_round_eq {n : Nat} (hn : n ≤ 1000) {B : List Int} {R : Int → Int → Prop} (h : ML n B R) (hd : ∀ u v, R u v → 0 ≤ u ∧ u < n) : Ok (m__turn_round B) fun U => ML n U (fun x y => R y x) := by
  unfold m__turn_round
  simp only [bs]
  rw [h.len]
  refine Ok.bindE (x_rep1 (by omega) (by omega)) ?_
  rw [Int.toNat_natCast]
  refine Ok.fold (fun (p : List (Int × Int)) (b : List Int) => ML n b (fun x y => R y x ∧ y < (p.length : Int))) ?_ ?_ ?_
  · exact (ML.zero n).congr (fun u v _ _ => ⟨False.elim, fun q => by have := hd _ _ q.1; simp at q; omega⟩) (fun u v q => by have := hd _ _ q.1; simp at q; omega)
  · rintro p ⟨i, mk⟩ q b e hb
    obtain ⟨e1, e2⟩ := enumL_at e
    dsimp only at e1 e2 ⊢
    subst e1
    have hp : p.length < n := by rw [← h.len]; exact (List.getElem?_eq_some_iff.mp e2).1
    obtain ⟨m, e3, lm, bm⟩ := h.ent p.length hp
    rw [e2] at e3
    cases e3
    rw [bits_eq hn lm, bs, List.length_append, List.length_singleton]
    have hmem : ∀ x, x ∈ (rangeL 0 n).filter (fun v => m.testBit v.toNat) ↔ R (p.length : Int) x := fun x => by
      rw [List.mem_filter, mem_rangeL]
      constructor
      · rintro ⟨⟨q1, q2⟩, q3⟩
        obtain ⟨k, rfl⟩ := Int.eq_ofNat_of_zero_le q1
        exact (bm k).mp (by simpa using q3)
      · intro q
        have d := h.dom _ _ q
        obtain ⟨k, rfl⟩ := Int.eq_ofNat_of_zero_le d.1
        exact ⟨d, by simpa using (bm k).mpr q⟩
    refine Ok.fold (fun (p' : List Int) (b : List Int) => ML n b (fun x y => (R y x ∧ y < (p.length : Int)) ∨ (y = (p.length : Int) ∧ x ∈ p'))) ?_ ?_ ?_
    · exact hb.congr (fun u v _ _ => by simp) (fun u v q => by simp at q; exact hb.dom u v q)
    · intro p' x q' b e' hb'
      have hx : R (p.length : Int) x := (hmem x).mp (by rw [e']; simp)
      have dx := h.dom _ _ hx
      obtain ⟨m', em, lm', bm'⟩ := hb'.orBit hn dx.1 dx.2 (l := (p.length : Int)) (by omega) (by omega)
      refine Ok.bindE em ?_
      obtain ⟨b', eb, hb''⟩ := hb'.set (R' := fun x' y => (R y x' ∧ y < (p.length : Int)) ∨ (y = (p.length : Int) ∧ x' ∈ p' ++ [x])) dx.1 dx.2 lm' (fun v => by
        rw [bm' v]
        simp only [List.mem_append, List.mem_singleton, or_true, and_true]
        constructor
        · rintro ((q | q) | q)
          · exact .inl q
          · exact .inr q.1
          · exact .inr q
        · rintro (q | q)
          · exact .inl (.inl q)
          · exact .inr q) (fun x' y hx' => by simp [hx']) (fun v q => by
        rcases q with q | q
        · have := hd _ _ q.1
          omega
        · omega)
      rw [eb, bs]
      exact Ok.pure hb''
    · intro b hb'
      refine Ok.pure (hb'.congr (fun x y _ _ => ?_) (fun x y q => ?_))
      · rw [hmem]
        constructor
        · rintro (q | ⟨rfl, q⟩)
          · exact ⟨q.1, by omega⟩
          · exact ⟨q, by omega⟩
        · rintro ⟨q1, q2⟩
          by_cases hy : y = (p.length : Int)
          · exact .inr ⟨hy, hy ▸ q1⟩
          · exact .inl ⟨q1, by omega⟩
      · exact hd _ _ q.1
  · intro b hb
    rw [enumL_len, h.len] at hb
    exact Ok.pure (hb.congr (fun x y _ _ => ⟨fun q => q.1, fun q => ⟨q, (hd _ _ q).2⟩⟩) (fun x y q => hd _ _ q))
/-- the greedy order -/
def gr (n : Nat) (up : Int → List Int) : Nat → List Int
  | 0 => []
  | k + 1 => gr n up k ++ (((rangeL 0 n).filter fun x => !decide (x ∈ gr n up k) && (up x).all fun y => decide (y ∈ gr n up k)).take 1)
/-- there is always a next one -/
theorem gr_next {n : Nat} {up : Int → List Int} {rk : Int → Nat} (hup : ∀ x y, y ∈ up x → (0 ≤ y ∧ y < n) ∧ rk y < rk x) {ls : List Int} (hl : ls.length < n) : ∃ x r, ((rangeL 0 n).filter fun x => !decide (x ∈ ls) && (up x).all fun y => decide (y ∈ ls)) = x :: r := by
  have hex : ∃ x, (0 ≤ x ∧ x < (n : Int)) ∧ x ∉ ls := by
    refine Classical.byContradiction fun hno => ?_
    have hsub : rangeL 0 n ⊆ ls := fun x hx => Classical.byContradiction fun q => hno ⟨x, mem_rangeL.mp hx, q⟩
    have := nodup_len nodup_rangeL hsub
    rw [length_rangeL] at this
    omega
  have hmin : ∀ (k : Nat) (x : Int), rk x < k → (0 ≤ x ∧ x < (n : Int)) → x ∉ ls → ∃ x, (0 ≤ x ∧ x < (n : Int)) ∧ x ∉ ls ∧ ∀ y ∈ up x, y ∈ ls := fun k => by
    induction k with
    | zero => intro x h; omega
    | succ k ih =>
      intro x hk hx hn
      by_cases hall : ∀ y ∈ up x, y ∈ ls
      · exact ⟨x, hx, hn, hall⟩
      · simp only [Classical.not_forall] at hall
        obtain ⟨y, hy, hny⟩ := hall
        obtain ⟨d, r⟩ := hup x y hy
        exact ih y (by omega) d hny
  obtain ⟨x, hx, hn⟩ := hex
  obtain ⟨x, hx, hn, ha⟩ := hmin (rk x + 1) x (by omega) hx hn
  have hm : x ∈ (rangeL 0 n).filter fun x => !decide (x ∈ ls) && (up x).all fun y => decide (y ∈ ls) := by
    rw [List.mem_filter, mem_rangeL]
    refine ⟨hx, ?_⟩
    rw [Bool.and_eq_true, List.all_eq_true]
    exact ⟨by simp [hn], fun y hy => decide_eq_true (ha y hy)⟩
  cases h : (rangeL 0 n).filter fun x => !decide (x ∈ ls) && (up x).all fun y => decide (y ∈ ls) with
  | nil => rw [h] at hm; cases hm
  | cons a r => exact ⟨a, r, rfl⟩
theorem gr_len {n : Nat} {up : Int → List Int} {rk : Int → Nat} (hup : ∀ x y, y ∈ up x → (0 ≤ y ∧ y < n) ∧ rk y < rk x) : ∀ k, k ≤ n → (gr n up k).length = k
  | 0, _ => rfl
  | k + 1, h => by
    have ih := gr_len hup k (by omega)
    obtain ⟨x, r, e⟩ := gr_next hup (ls := gr n up k) (by omega)
    show (gr n up k ++ _).length = _
    rw [e, List.length_append, ih]
    rfl
theorem gr_mem {n : Nat} {up : Int → List Int} : ∀ k x, x ∈ gr n up k → 0 ≤ x ∧ x < (n : Int)
  | 0, x, h => by cases h
  | k + 1, x, h => by
    rcases List.mem_append.mp h with h | h
    · exact gr_mem k x h
    · exact mem_rangeL.mp (List.mem_filter.mp (List.mem_of_mem_take h)).1
theorem gr_nodup {n : Nat} {up : Int → List Int} : ∀ k, (gr n up k).Nodup
  | 0 => List.nodup_nil
  | k + 1 => by
    refine List.nodup_append.mpr ⟨gr_nodup k, (nodup_rangeL.filter _).sublist (List.take_sublist _ _), fun a ha b hb e => ?_⟩
    have := (List.mem_filter.mp (List.mem_of_mem_take hb)).2
    rw [Bool.and_eq_true] at this
    subst e
    simp [ha] at this
end HF

set_option Elab.async false
set_option linter.all false
set_option maxRecDepth 100000
set_option maxHeartbeats 1000000
/-! MathE: the order list; the house. -/
namespace HF
open PySem PySem.Spec L2
open PyProof.Rows hiding St
theorem enumL_fst {α : Type} (xs : List α) : (enumL xs).map (·.1) = rangeL 0 xs.length := by
  have h : xs.zipIdx.map (fun p => p.2) = List.range xs.length := by
    rw [List.range_eq_range']
    exact List.zipIdx_map_snd 0 xs
  unfold enumL rangeL
  rw [List.map_map, ← h, List.map_map]
  refine List.map_congr_left fun p _ => ?_
  simp
theorem x_ix0 {α : Type} {x : α} {r : List α} : x_ix (x :: r) 0 = some x := x_ix_get (by decide) rfl
theorem enum_filter {α : Type} {xs : List α} {t : Int × α → Bool} {s : Int → Bool} (h : ∀ (i : Nat) a, xs[i]? = some a → t ((i : Int), a) = s i) : ((enumL xs).filter t).map (·.1) = (rangeL 0 xs.length).filter s := by
  rw [← enumL_fst, List.filter_map]
  congr 1
  refine List.filter_congr fun p hp => ?_
  obtain ⟨i, h1, h2⟩ := enumL_mem hp
  obtain ⟨a, b⟩ := p
  dsimp only at h1 h2 ⊢
  subst h1
  exact h i b h2
theorem and_sub {m L : Nat} : m &&& L = m ↔ ∀ v, m.testBit v = true → L.testBit v = true := by
  constructor
  · intro h v hv
    rw [← h, Nat.testBit_and] at hv
    simp at hv
    exact hv.2
  · intro h
    refine Nat.eq_of_testBit_eq fun v => ?_
    rw [Nat.testBit_and]
    have := h v
    cases hm : m.testBit v <;> simp_all
theorem order_list_eq {n : Nat} (hn : n ≤ 1000) {A : List Int} {up : Int → List Int} {rk : Int → Nat} (h : ML n A (fun x y => y ∈ up x)) (hup : ∀ x y, y ∈ up x → (0 ≤ y ∧ y < n) ∧ rk y < rk x) : m__order_list A = some (gr n up n) := by
  refine Ok.of ?_
  unfold m__order_list
  simp only [bs]
  refine Ok.while (fun m b => m ≤ n ∧ b.1 = gr n up (n - m) ∧ ∃ L : Nat, b.2 = (L : Int) ∧ ∀ v : Nat, L.testBit v = true ↔ (v : Int) ∈ b.1) n (by rw [h.len]; omega) ⟨Nat.le_refl _, by simp [gr], 0, rfl, fun v => by simp⟩ ?_ ?_ ?_
  · rintro m ⟨ls, li⟩ ⟨hm, e1, L, e2, hL⟩
    dsimp only at e1 e2 hL ⊢
    subst e2
    have hlen : ls.length = n - (m + 1) := by rw [e1]; exact gr_len hup _ (by omega)
    refine ⟨by rw [decide_eq_true (by rw [hlen, h.len]; omega)], ?_⟩
    have hr : x_comp (fun y : Int × Int => some (decide (Builtin.bitAnd y.2 (L : Int) = y.2))) (fun y => some y.1) (enumL A) = some ((rangeL 0 n).filter fun x => (up x).all fun y => decide (y ∈ ls)) := by
      rw [x_comp_eq (fun y : Int × Int => decide (Builtin.bitAnd y.2 (L : Int) = y.2)) (fun y => y.1) (by rw [enumL_len, h.len]; omega) (fun _ _ => rfl) fun _ _ _ => rfl]
      congr 1
      have := enum_filter (xs := A) (t := fun y : Int × Int => decide (Builtin.bitAnd y.2 (L : Int) = y.2)) (s := fun x => (up x).all fun y => decide (y ∈ ls)) fun i a hi => ?_
      · rw [h.len] at this
        exact this
      · have hin : i < n := by rw [← h.len]; exact (List.getElem?_eq_some_iff.mp hi).1
        obtain ⟨m, em, _, bm⟩ := h.ent i hin
        rw [hi] at em
        cases em
        dsimp only
        rw [Bool.eq_iff_iff, decide_eq_true_eq, and_nat, List.all_eq_true]
        rw [show (((m &&& L : Nat) : Int) = (m : Int)) ↔ m &&& L = m from by omega, and_sub]
        constructor
        · intro q y hy
          have d := (hup _ _ hy).1
          obtain ⟨k, rfl⟩ := Int.eq_ofNat_of_zero_le d.1
          exact decide_eq_true ((hL k).mp (q k ((bm k).mpr hy)))
        · intro q v hv
          exact (hL v).mpr (of_decide_eq_true (q v ((bm v).mp hv)))
    rw [hr, bs]
    rw [x_comp_filter (fun x => !decide (x ∈ ls)) (Nat.le_trans (List.length_filter_le _ _) (by rw [length_rangeL]; omega)) fun x hx => ?_, bs, List.filter_filter]
    · obtain ⟨x, r, e⟩ := gr_next hup (ls := ls) (by omega)
      rw [e]
      rw [x_ix0]
      have hxm : 0 ≤ x ∧ x < (n : Int) := by
        have : x ∈ (rangeL 0 n).filter fun x => !decide (x ∈ ls) && (up x).all fun y => decide (y ∈ ls) := by rw [e]; exact List.mem_cons_self ..
        exact mem_rangeL.mp (List.mem_filter.mp this).1
      obtain ⟨k, rfl⟩ := Int.eq_ofNat_of_zero_le hxm.1
      simp only [bs]
      rw [x_app_eq (by omega), bs, x_shl1 k (by omega), bs, or_nat]
      refine Ok.pure ⟨by omega, ?_, L ||| 2 ^ k, rfl, fun v => ?_⟩
      · have e3 : n - m = (n - (m + 1)) + 1 := by omega
        dsimp only
        rw [e3]
        show _ = gr n up (n - (m + 1)) ++ _
        rw [← e1, e]
        rfl
      · dsimp only
        rw [Nat.testBit_or, Nat.testBit_two_pow, Bool.or_eq_true, hL, decide_eq_true_eq, List.mem_append, List.mem_singleton, show (k = v) ↔ ((v : Int) = (k : Int)) from by omega]
    · obtain ⟨hx1, _⟩ := List.mem_filter.mp hx
      obtain ⟨h0, _⟩ := mem_rangeL.mp hx1
      obtain ⟨k, rfl⟩ := Int.eq_ofNat_of_zero_le h0
      rw [test0 (tst1 L k)]
      congr 1
      rw [Bool.eq_iff_iff]
      have := hL k
      cases hb : L.testBit k <;> simp_all
  · rintro ⟨ls, li⟩ ⟨_, e1, _⟩
    dsimp only at e1 ⊢
    rw [e1, gr_len hup _ (by omega), h.len]
    simp
  · rintro ⟨ls, li⟩ ⟨_, e1, _⟩
    exact Ok.pure (by simpa using e1)
/-- a house of n lamps, q hues, wires P -/
structure HouseOk (n q : Nat) (P : List (Int × Int)) (h : HouseD) : Prop where
  belowM : ML n h.belowM (Dn P)
  aboveM : ML n h.aboveM (fun x y => Dn P y x)
  below : h.below = (rangeL 0 n).map (belowL n P)
  above : h.above = (rangeL 0 n).map (aboveL n P)
  order : h.order = gr n (aboveL n P) n
  count : h.count = n
  hues : h.hues = q
  wires : h.wires = sortP P
theorem mem_aboveL {n : Nat} {rk : Int → Nat} {P : List (Int × Int)} (h : GoodW n rk P) {x y : Int} : y ∈ aboveL n P x ↔ Dn P y x := by
  unfold aboveL
  rw [List.mem_filter, mem_rangeL, dnB_iff]
  exact ⟨fun q => q.2, fun q => ⟨by have := h.dn (fun _ m => m) q; omega, q⟩⟩
theorem mem_belowL {n : Nat} {rk : Int → Nat} {P : List (Int × Int)} (h : GoodW n rk P) {x y : Int} : y ∈ belowL n P x ↔ Dn P x y := by
  unfold belowL
  rw [List.mem_filter, mem_rangeL, dnB_iff]
  exact ⟨fun q => q.2, fun q => ⟨by have := h.dn (fun _ m => m) q; omega, q⟩⟩
/-- the lists of the masks -/
theorem masks_lists {n : Nat} (hn : n ≤ 1000) {B : List Int} {R : Int → Int → Prop} (h : ML n B R) {f : Int → List Int} (hf : ∀ u : Nat, u < n → ∃ p : Int → Bool, f u = (rangeL 0 n).filter p ∧ ∀ v, p v = true ↔ R u v) : x_comp (fun _ => some true) (fun y => m_bits y) B = some ((rangeL 0 n).map f) := by
  have e : ∀ (i : Nat) (y : Int), B[i]? = some y → m_bits y = some (f i) := fun i y hi => by
    have hin : i < n := by rw [← h.len]; exact (List.getElem?_eq_some_iff.mp hi).1
    obtain ⟨m, em, lm, bm⟩ := h.ent i hin
    rw [hi] at em
    cases em
    obtain ⟨p, e1, e2⟩ := hf i hin
    rw [bits_eq hn lm, e1, mask_list bm e2]
  have hg : ∀ y ∈ B, m_bits y = some ((m_bits y).getD []) := fun y hy => by
    obtain ⟨i, hi⟩ := List.getElem?_of_mem hy
    rw [e i y hi]
    rfl
  have hl : B.length ≤ 16777216 := by
    rw [h.len]
    omega
  have h2 : (B.map fun y => (m_bits y).getD []) = (rangeL 0 n).map f := by
    refine List.ext_getElem? fun i => ?_
    rw [List.getElem?_map, List.getElem?_map]
    by_cases hi : i < n
    · have hB : i < B.length := by rw [h.len]; exact hi
      rw [List.getElem?_eq_getElem hB, List.getElem?_eq_getElem (by rw [length_rangeL]; exact hi)]
      rw [Option.map_some, Option.map_some, e i _ (List.getElem?_eq_getElem hB)]
      simp [rangeL]
    · rw [List.getElem?_eq_none (by rw [h.len]; omega), List.getElem?_eq_none (by rw [length_rangeL]; omega), Option.map_none, Option.map_none]
  rw [← h2]
  exact x_comp_map (fun y => (m_bits y).getD []) hl hg
theorem app2_ok {xss : List (List Int)} {u v : Int} {n : Nat} (hl : xss.length = n) (h0 : 0 ≤ u) (h1 : u < n) {c : Nat} (hc : ∀ xs ∈ xss, xs.length ≤ c) (hc2 : c < 1000000) : Ok (x_app2 xss u v) fun r => r.length = n ∧ ∀ xs ∈ r, xs.length ≤ c + 1 := by
  unfold x_app2 ixN
  rw [if_pos h0, if_pos (by omega), bs]
  have hu : u.toNat < xss.length := by omega
  rw [List.getElem?_eq_getElem hu, bs, if_pos (show _ < sizeLine from by have := hc _ (List.getElem_mem hu); show _ < 16777216; omega)]
  refine Ok.pure ⟨by rw [List.length_set]; exact hl, fun xs hx => ?_⟩
  rcases List.mem_or_eq_of_mem_set hx with hx | rfl
  · have := hc xs hx
    omega
  · have := hc _ (List.getElem_mem hu)
    simp
    omega
theorem house_eq {n q : Nat} {rk : Int → Nat} {P : List (Int × Int)} (hn : 1 ≤ n ∧ n ≤ 16) (hq : 2 ≤ q ∧ q ≤ 10) (h : GoodW n rk P) (hP : P.length ≤ 1000) : Ok (m_House___init__ n q P) fun r => HouseOk n q P (toHouse r) := by
  have hd : ∀ u v, Dn P u v → 0 ≤ u ∧ u < (n : Int) := fun u v d => by have := h.dn (fun _ m => m) d; omega
  unfold m_House___init__
  simp only [bs, is_integer_eq, orM, andM]
  have c1 : decide ((1 : Int) ≤ (n : Int)) = true := decide_eq_true (by omega)
  have c2 : decide ((n : Int) ≤ 16) = true := decide_eq_true (by omega)
  have c3 : decide ((2 : Int) ≤ (q : Int)) = true := decide_eq_true (by omega)
  have c4 : decide ((q : Int) ≤ 10) = true := decide_eq_true (by omega)
  simp only [c1, c2, c3, c4, bs, Bool.not_true, Bool.false_eq_true, if_false, if_true]
  refine Ok.bind (join_wires_eq (by omega) h) fun B hB => ?_
  refine Ok.bind (turn_round_eq (by omega) hB hd) fun A hA => ?_
  refine Ok.bindE (masks_lists (by omega) hB (f := belowL n P) fun u _ => ⟨fun v => dnB P u v, rfl, fun v => dnB_iff⟩) ?_
  refine Ok.bindE (masks_lists (by omega) hA (f := aboveL n P) fun u _ => ⟨fun v => dnB P v u, rfl, fun v => dnB_iff⟩) ?_
  have hup : ∀ x y, y ∈ aboveL n P x → (0 ≤ y ∧ y < (n : Int)) ∧ rk y < rk x := fun x y hy => by
    have := h.dn (fun _ m => m) ((mem_aboveL h).mp hy)
    omega
  refine Ok.bindE (order_list_eq (by omega) (up := aboveL n P) (rk := rk) (hA.congr (fun u v _ _ => (mem_aboveL h).symm) fun u v q => by have := (hup u v q).1; exact this) hup) ?_
  rw [x_range_nat (by omega), bs]
  refine Ok.bindE (x_comp_map (fun _ => ([] : List Int)) (by rw [length_rangeL]; omega) fun _ _ => rfl) ?_
  refine Ok.fold (fun p b => b.length = n ∧ ∀ xs ∈ b, xs.length ≤ p.length) ?_ ?_ ?_
  · refine ⟨by simp [length_rangeL], fun xs hx => ?_⟩
    obtain ⟨_, _, rfl⟩ := List.mem_map.mp hx
    simp
  · rintro p ⟨u, v⟩ r b e ⟨h1, h2⟩
    have hperm : (sortP P).Perm P := List.mergeSort_perm P lexP
    have hm : (u, v) ∈ P := hperm.mem_iff.mp (by rw [e]; simp)
    have hl : p.length < 1000 := by
      have := hperm.length_eq
      rw [e] at this
      simp at this
      omega
    obtain ⟨d1, d2, _⟩ := h.dom u v hm
    refine Ok.bind (app2_ok h1 d1 d2 h2 (by omega)) fun r hr => Ok.pure ⟨hr.1, fun xs hx => ?_⟩
    have := hr.2 xs hx
    simp
    omega
  · intro b hb
    exact Ok.pure ⟨hB, hA, rfl, rfl, rfl, rfl, rfl, rfl⟩
end HF

set_option Elab.async false
set_option linter.all false
set_option maxRecDepth 100000
set_option maxHeartbeats 1000000
/-! MathF: the law's own world. -/
namespace HF
open PySem PySem.Spec L2
open PyProof.Rows hiding St
theorem dn_head {P : List (Int × Int)} {u y : Int} : Dn P u y ↔ ∃ l, (u, l) ∈ P ∧ (y = l ∨ Dn P l y) := by
  constructor
  · intro d
    induction d with
    | single e => exact ⟨_, e, .inl rfl⟩
    | @tail b c _ e ih =>
      obtain ⟨l, h1, h2⟩ := ih
      refine ⟨l, h1, .inr ?_⟩
      rcases h2 with rfl | h2
      · exact .single e
      · exact .tail h2 e
  · rintro ⟨l, h1, rfl | h2⟩
    · exact .single h1
    · exact (Relation.TransGen.single h1 : Dn P u l).trans h2
/-- the order of a line -/
abbrev rkL (line : List Int) (x : Int) : Nat := line.idxOf x
def worldOf (n q : Nat) (P : List (Int × Int)) : (Int × Int × (List (Int × Int)) × (List Int) × (List (List Int)) × (List (List Int))) → Prop := fun w =>
  w.1 = n ∧ w.2.1 = q ∧ w.2.2.1 = P ∧ w.2.2.2.1 = gr n (aboveL n P) n ∧ w.2.2.2.2.1 = (rangeL 0 n).map (belowL n P) ∧ w.2.2.2.2.2 = (rangeL 0 n).map (aboveL n P)
theorem map_range_ix {n : Nat} {f : Int → List Int} {x : Int} (h0 : 0 ≤ x) (h1 : x < n) : x_ix ((rangeL 0 n).map f) x = some (f x) := by
  refine x_ix_get h0 ?_
  rw [List.getElem?_map]
  unfold rangeL
  rw [List.getElem?_map, List.getElem?_range (by omega)]
  simp
  congr 1
  omega
theorem all_in_eq (xs ls : List Int) (h : xs.length ≤ 1000000) : m__law_all_in xs ls = some (xs.all fun y => decide (y ∈ ls)) := by
  unfold m__law_all_in
  simp only [bs]
  rw [x_comp_filter (fun y => decide (y ∈ ls)) (by omega) fun _ _ => rfl, bs, bs]
  congr 1
  rw [Bool.eq_iff_iff, decide_eq_true_eq, List.all_eq_true]
  constructor
  · intro e
    have e' : (xs.filter fun y => decide (y ∈ ls)).length = xs.length := by omega
    exact List.length_filter_eq_length_iff.mp e'
  · intro e
    have := List.length_filter_eq_length_iff.mpr e
    omega
theorem known_eq {n q : Nat} {P : List (Int × Int)} {line : List Int} (hn : 1 ≤ n ∧ n ≤ 16) (hl : line.Perm (rangeL 0 n)) (h : GoodW n (rkL line) P) (hP : P.length ≤ 1000) : Ok (m__law_known n q P line) (worldOf n q P) := by
  have hlen : line.length = n := by rw [hl.length_eq, length_rangeL]
  have hnd : line.Nodup := hl.nodup_iff.mpr nodup_rangeL
  unfold m__law_known
  simp only [bs]
  rw [x_range_nat (by omega)]
  simp only [bs]
  refine Ok.bindE (x_comp_map (fun _ => ([] : List Int)) (by rw [length_rangeL]; omega) fun _ _ => rfl) ?_
  refine Ok.foldN (fun k b => b.length = n ∧ (∀ x : Int, 0 ≤ x → x < n → n ≤ rkL line x + k → b[x.toNat]? = some (belowL n P x)) ∧ ∀ l ∈ b, l.length ≤ n) ?_ ?_ ?_
  · refine ⟨by simp [length_rangeL], fun x h0 h1 h2 => ?_, fun l hl => ?_⟩
    · have : rkL line x < line.length := List.idxOf_lt_length_of_mem (hl.mem_iff.mpr (mem_rangeL.mpr ⟨h0, h1⟩))
      omega
    · obtain ⟨_, _, rfl⟩ := List.mem_map.mp hl
      simp
  · rintro k b hk ⟨b1, b2, b3⟩
    have hi : n - 1 - k < line.length := by omega
    have e0 : ((n : Int) - 1 - (k : Int)) = ((n - 1 - k : Nat) : Int) := by omega
    rw [e0, x_ix_nat hi, bs]
    generalize hu : line[n - 1 - k] = u
    have hum : u ∈ line := by rw [← hu]; exact List.getElem_mem hi
    have hur := mem_rangeL.mp (hl.mem_iff.mp hum)
    have hrk : rkL line u = n - 1 - k := by rw [← hu]; exact hnd.idxOf_getElem _ hi
    refine Ok.fold (fun p (f : List Int) => (∀ y, y ∈ f ↔ ∃ l, (u, l) ∈ p ∧ (y = l ∨ Dn P l y)) ∧ f.length ≤ p.length * (n + 1)) ?_ ?_ ?_
    · exact ⟨fun y => by simp, by simp⟩
    · rintro p ⟨a, l⟩ r f e ⟨f1, f2⟩
      have hm : (a, l) ∈ P := by rw [e]; simp
      have hpl : p.length < P.length := by rw [e]; simp
      dsimp only
      refine Ok.ite (fun c => ?_) (fun c => ?_)
      · have ha : a = u := of_decide_eq_true c
        subst ha
        obtain ⟨d1, d2, d3, d4⟩ := h.dom a l hm
        have hr := h.up a l hm
        have eb := b2 l d3 d4 (by omega)
        have hb := b3 _ (List.mem_of_getElem? eb)
        have hsz : p.length * (n + 1) ≤ 1000 * 17 := Nat.mul_le_mul (by omega) (by omega)
        rw [x_cat_eq (by simp; omega), bs, x_ix_get d3 eb, bs, x_cat_eq (by simp; omega), bs]
        refine Ok.pure ⟨fun y => ?_, ?_⟩
        · rw [List.mem_append, List.mem_append, f1 y, List.mem_singleton, mem_belowL h]
          constructor
          · rintro ((⟨l', q1, q2⟩ | q) | q)
            · exact ⟨l', List.mem_append_left _ q1, q2⟩
            · exact ⟨l, by simp, .inl q⟩
            · exact ⟨l, by simp, .inr q⟩
          · rintro ⟨l', q1, q2⟩
            rcases List.mem_append.mp q1 with q1 | q1
            · exact .inl (.inl ⟨l', q1, q2⟩)
            · have : l' = l := by simpa using q1
              subst this
              rcases q2 with q2 | q2
              · exact .inl (.inr q2)
              · exact .inr q2
        · simp only [List.length_append, List.length_singleton]
          rw [Nat.add_mul]
          omega
      · have ha : a ≠ u := of_decide_eq_false c
        refine Ok.pure ⟨fun y => ?_, ?_⟩
        · rw [f1 y]
          constructor
          · rintro ⟨l', q1, q2⟩
            exact ⟨l', List.mem_append_left _ q1, q2⟩
          · rintro ⟨l', q1, q2⟩
            rcases List.mem_append.mp q1 with q1 | q1
            · exact ⟨l', q1, q2⟩
            · simp at q1
              exact absurd q1.1.symm ha
        · simp only [List.length_append, List.length_singleton]
          rw [Nat.add_mul]
          omega
    · rintro f ⟨f1, _⟩
      rw [x_comp_filter (fun y => decide (y ∈ f)) (by rw [length_rangeL]; omega) fun _ _ => rfl, bs]
      have ef : (rangeL 0 n).filter (fun y => decide (y ∈ f)) = belowL n P u := by
        unfold belowL
        refine List.filter_congr fun y _ => ?_
        rw [Bool.eq_iff_iff, decide_eq_true_eq, f1 y, dnB_iff, dn_head]
      rw [ef, x_set_nat hur.1 (by rw [b1]; exact hur.2), bs]
      refine Ok.pure ⟨by rw [List.length_set]; exact b1, fun x h0 h1 h2 => ?_, fun l hl' => ?_⟩
      · by_cases hx : x = u
        · subst hx
          rw [List.getElem?_set_self (by omega)]
        · rw [List.getElem?_set_ne (by omega)]
          refine b2 x h0 h1 ?_
          have hne : rkL line x ≠ rkL line u := fun e => hx (by
            have hx1 : line.idxOf x < line.length := List.idxOf_lt_length_of_mem (hl.mem_iff.mpr (mem_rangeL.mpr ⟨h0, h1⟩))
            have hu1 : line.idxOf u < line.length := List.idxOf_lt_length_of_mem hum
            have e1 := List.getElem_idxOf hx1
            have e2 := List.getElem_idxOf hu1
            have e3 : line[line.idxOf x] = line[line.idxOf u] := by congr 1
            rw [← e1, ← e2, e3])
          omega
      · rcases List.mem_or_eq_of_mem_set hl' with q | rfl
        · exact b3 l q
        · unfold belowL
          exact Nat.le_trans (List.length_filter_le _ _) (by rw [length_rangeL]; omega)
  · rintro b ⟨b1, b2, _⟩
    have eb : b = (rangeL 0 n).map (belowL n P) := by
      refine List.ext_getElem? fun i => ?_
      by_cases hi : i < n
      · have := b2 (i : Int) (by omega) (by omega) (by omega)
        rw [Int.toNat_natCast] at this
        rw [this, List.getElem?_map]
        unfold rangeL
        rw [List.getElem?_map, List.getElem?_range hi]
        simp
      · rw [List.getElem?_eq_none (by omega), List.getElem?_eq_none (by rw [List.length_map, length_rangeL]; omega)]
    subst eb
    refine Ok.foldN (fun k (b : List (List Int)) => b = (rangeL 0 k).map (aboveL n P)) (by simp [rangeL]) ?_ ?_
    · intro k b hk hb
      have e : x_comp (fun y : Int => (x_ix ((rangeL 0 n).map (belowL n P)) y).bind fun z => some (decide ((k : Int) ∈ z))) (fun y => some y) (rangeL 0 n) = some (aboveL n P k) := by
        rw [x_comp_filter (fun y => dnB P y k) (by rw [length_rangeL]; omega) fun x hx => ?_]
        · rfl
        · obtain ⟨h0, h1⟩ := mem_rangeL.mp hx
          rw [map_range_ix h0 h1, bs]
          congr 1
          rw [Bool.eq_iff_iff, decide_eq_true_eq, mem_belowL h, dnB_iff]
      rw [e, bs, x_app_eq (by rw [hb]; simp [length_rangeL]; omega), bs]
      refine Ok.pure ?_
      rw [hb, rangeL_succ, List.map_append]
      rfl
    · intro b hb
      subst hb
      have hup : ∀ x y, y ∈ aboveL n P x → (0 ≤ y ∧ y < (n : Int)) ∧ rkL line y < rkL line x := fun x y hy => by
        have := h.dn (fun _ m => m) ((mem_aboveL h).mp hy)
        omega
      refine Ok.foldN (fun k (b : List Int) => b = gr n (aboveL n P) k) rfl ?_ ?_
      · intro k b hk hb
        have hbl : b.length = k := by rw [hb]; exact gr_len hup k (by omega)
        rw [x_comp_filter (fun y => !decide (y ∈ b)) (by rw [length_rangeL]; omega) fun _ _ => rfl, bs]
        rw [x_comp_filter (fun y => (aboveL n P y).all fun z => decide (z ∈ b)) (Nat.le_trans (List.length_filter_le _ _) (by rw [length_rangeL]; omega)) fun x hx => ?_, bs, List.filter_filter]
        · obtain ⟨x, r, e⟩ := gr_next hup (ls := b) (by omega)
          have e' : (rangeL 0 n).filter (fun a => ((aboveL n P a).all fun z => decide (z ∈ b)) && !decide (a ∈ b)) = x :: r := by
            rw [← e]
            exact List.filter_congr fun a _ => Bool.and_comm _ _
          rw [e', x_ix0, bs, x_app_eq (by omega), bs]
          refine Ok.pure ?_
          show b ++ [x] = gr n (aboveL n P) k ++ _
          rw [← hb, e]
          rfl
        · obtain ⟨hx1, _⟩ := List.mem_filter.mp hx
          obtain ⟨h0, h1⟩ := mem_rangeL.mp hx1
          rw [map_range_ix h0 h1, bs]
          refine all_in_eq _ _ ?_
          unfold aboveL
          exact Nat.le_trans (List.length_filter_le _ _) (by rw [length_rangeL]; omega)
      · intro b hb
        subst hb
        exact Ok.pure ⟨rfl, rfl, rfl, rfl, rfl, rfl⟩
end HF

set_option Elab.async false
set_option linter.all false
set_option maxRecDepth 100000
set_option maxHeartbeats 1000000
/-! MathG: what is drawn. -/
namespace HF
open PySem PySem.Spec L2
open PyProof.Rows hiding St
theorem Ok.foldA {β γ : Type} {a : Int} {f : β → Int → Option β} {k : β → Option γ} {b : β} {n : Nat} {Q : γ → Prop} (P : Nat → β → Prop) (h0 : P 0 b) (st : ∀ k b, k < n → P k b → Ok (f b (a + (k : Int))) (P (k + 1))) (m : ∀ b, P n b → Ok (k b) Q) : Ok ((foldO f b (rangeL a n)).bind k) Q := by
  refine Ok.fold (fun p b => P p.length b) h0 (fun p x q b e hp => ?_) fun b hb => m b (by rw [length_rangeL] at hb; exact hb)
  have h : (rangeL a n)[p.length]? = some x := by rw [e]; simp
  obtain ⟨h1, h2⟩ := rangeL_get h
  rw [h2]
  exact (st p.length b h1 hp).mono fun b hb => by simpa using hb
theorem x_mulS_r {i c : Int} (h : -(2 ^ 64) < c ∧ c < 2 ^ 64) : x_mulS i c = some (i * c) := by
  unfold x_mulS
  rw [if_pos (.inr h)]
theorem x_mulS_l {i c : Int} (h : -(2 ^ 64) < c ∧ c < 2 ^ 64) : x_mulS c i = some (c * i) := by
  unfold x_mulS
  rw [if_pos (.inl h)]
theorem x_mod_pos {i j : Int} (h : 0 < j) : x_mod i j = some (i % j) := by
  unfold x_mod
  rw [if_pos h]
theorem x_div_pos {i j : Int} (h : 0 < j) (h2 : j < 1073741824) : x_div i j = some (i / j) := by
  unfold x_div
  rw [if_pos ⟨h, h2⟩]
structure BagOk (b : R_bag) : Prop where
  cells : b.1.length ≤ 63
  p0 : 0 ≤ b.2.1
theorem ml1 (i : Int) : x_mulS i 48271 = some (i * 48271) := x_mulS_r (by decide)
theorem ml2 (i : Int) : x_mulS i 7919 = some (i * 7919) := x_mulS_r (by decide)
theorem ml3 (i : Int) : x_mulS i 69621 = some (i * 69621) := x_mulS_r (by decide)
theorem ml4 (i : Int) : x_mulS i 40692 = some (i * 40692) := x_mulS_r (by decide)
theorem md1 (i : Int) : x_mod i 2147483647 = some (i % 2147483647) := x_mod_pos (by decide)
theorem md2 (i : Int) : x_mod i 2147483399 = some (i % 2147483399) := x_mod_pos (by decide)
theorem dv1 (i : Int) : x_div i 31 = some (i / 31) := x_div_pos (by decide) (by decide)
theorem pw1 : x_pow 10 18 = some (10 ^ 18) := by decide
theorem draw_ok {b : R_bag} {s : Int} (hb : BagOk b) (h0 : 0 < s) (h1 : s < 1073741824) : Ok (m__law_draw b s) fun r => (0 ≤ r.1 ∧ r.1 < s) ∧ BagOk r.2 := by
  have hr : ∀ x : Int, 0 ≤ x % s ∧ x % s < s := fun x => ⟨Int.emod_nonneg _ (by omega), Int.emod_lt_of_pos _ h0⟩
  have hd : ∀ i, x_div i s = some (i / s) := fun i => x_div_pos h0 h1
  have hm : ∀ i, x_mod i s = some (i % s) := fun i => x_mod_pos h0
  unfold m__law_draw
  simp only [bs, joinK, ml1, ml2, ml3, ml4, md1, md2, dv1, pw1, hd, hm]
  refine Ok.ite (fun c => ?_) (fun c => ?_)
  · exact Ok.pure ⟨hr _, hb.cells, hb.p0⟩
  · refine Ok.ite (fun c => ?_) (fun c => ?_)
    · have hp : b.2.1 < (b.1.length : Int) := of_decide_eq_true c
      obtain ⟨k, hk⟩ := Int.eq_ofNat_of_zero_le hb.p0
      rw [hk, x_ix_nat (by omega), bs]
      refine Ok.ite (fun c => ?_) (fun c => ?_)
      · exact Ok.pure ⟨hr _, hb.cells, by show (0 : Int) ≤ (k : Int) + 1; omega⟩
      · exact Ok.pure ⟨hr _, hb.cells, by show (0 : Int) ≤ (k : Int) + 1; omega⟩
    · exact Ok.pure ⟨hr _, hb.cells, hb.p0⟩
theorem bag_ok {script : List Int} (h : script.length ≤ 63) : Ok (m__law_bag script) BagOk := by
  unfold m__law_bag
  simp only [bs]
  have hl : (cutL script none (some 63)).length ≤ 63 := by
    unfold cutL
    rw [List.length_take, List.length_drop]
    omega
  rw [x_comp_map (fun z : Int => if z < 0 then -z else z) (by omega) fun _ _ => rfl, bs]
  exact Ok.pure ⟨by simpa using hl, Int.le_refl 0⟩
theorem x_popAt_eq {α : Type} {xs : List α} {k : Nat} (h : k < xs.length) (h2 : xs.length ≤ 1000) : x_popAt xs (k : Int) = some (xs[k], xs.eraseIdx k) := by
  unfold x_popAt seqIndex?
  rw [if_pos ⟨by omega, by omega⟩]
  have e1 : ¬ ((k : Int) < 0) := by omega
  simp only [e1, if_false]
  have e2 : (decide (0 ≤ (k : Int)) && decide ((k : Int) < (xs.length : Int))) = true := by simp; omega
  simp only [e2, if_true, bs, Int.toNat_natCast]
  rw [List.getElem?_eq_getElem h, bs]
theorem shuffled_ok {b : R_bag} {n : Nat} (hb : BagOk b) (hn : n ≤ 16) : Ok (m__law_shuffled b n) fun r => r.1.Perm (rangeL 0 n) ∧ BagOk r.2 := by
  have hlr : x_lrange 0 (n : Int) = some (rangeL 0 n) := by
    unfold x_lrange
    rw [if_pos ⟨by decide, by decide, by omega, by omega, by omega⟩, Int.sub_zero, Int.toNat_natCast]
    rfl
  unfold m__law_shuffled
  simp only [bs]
  rw [hlr, bs, x_range_nat (by omega), bs]
  refine Ok.foldN (fun k s => BagOk s.1 ∧ s.2.1.length + k = n ∧ s.2.2.length = k ∧ (s.2.1 ++ s.2.2).Perm (rangeL 0 n)) ⟨hb, by simp [length_rangeL], rfl, by simp⟩ ?_ ?_
  · rintro k ⟨s, ls, li⟩ hk ⟨h1, h2, h3, h4⟩
    dsimp only at h1 h2 h3 h4 ⊢
    refine Ok.bind (draw_ok h1 (by omega) (by omega)) fun r hr => ?_
    obtain ⟨⟨r0, r1⟩, rb⟩ := hr
    obtain ⟨i, hi⟩ := Int.eq_ofNat_of_zero_le r0
    have hil : i < ls.length := by omega
    rw [hi, x_popAt_eq hil (by omega), bs, x_app_eq (by omega), bs]
    refine Ok.pure ⟨rb, ?_, by simp [h3], ?_⟩
    · dsimp only
      rw [List.length_eraseIdx_of_lt hil]
      omega
    · dsimp only
      refine List.Perm.trans ?_ h4
      have p1 : ls.Perm (ls[i] :: ls.eraseIdx i) := perm_erase (List.getElem?_eq_getElem hil)
      refine List.Perm.trans ?_ (p1.symm.append_right li)
      rw [← List.append_assoc]
      exact List.perm_append_comm.trans (by simp)
  · rintro ⟨s, ls, li⟩ ⟨h1, h2, _, h4⟩
    have : ls = [] := List.eq_nil_of_length_eq_zero (by dsimp only at h2; omega)
    subst this
    exact Ok.pure ⟨by simpa using h4, h1⟩
theorem wired_ok {b : R_bag} {shape split parent high low : Int} (hb : BagOk b) (h0 : 0 ≤ shape) : Ok (m__law_wired b shape split parent high low) fun r => BagOk r.2 := by
  unfold m__law_wired
  simp only [bs, andM]
  refine Ok.ite (fun c => ?_) (fun c => ?_)
  · have c' : shape < 2 := of_decide_eq_true c
    rw [x_mulS_l (by decide), bs, bs]
    refine Ok.bind (draw_ok hb (by omega) (by omega)) fun r hr => ?_
    exact Ok.pure hr.2
  · refine Ok.ite (fun c => Ok.pure hb) (fun c => ?_)
    refine Ok.ite (fun c => Ok.pure hb) (fun c => ?_)
    refine Ok.bind (P := fun _ => True) ?_ fun a _ => Ok.pure hb
    refine Ok.ite (fun c => ?_) (fun c => Ok.pure True.intro)
    refine Ok.ite (fun c => Ok.pure True.intro) (fun c => Ok.pure True.intro)
end HF

set_option Elab.async false
set_option linter.all false
set_option maxRecDepth 100000
set_option maxHeartbeats 1000000
/-! MathH: wires, hues, counts, worlds that are drawn. -/
namespace HF
open PySem PySem.Spec L2
open PyProof.Rows hiding St
theorem x_range_a {a b : Int} (h0 : -1000000 ≤ a) (h1 : a ≤ 1000000) (h2 : -1000000 ≤ b) (h3 : b ≤ 1000000) : x_range a b = some (rangeL a (b - a).toNat) := by
  unfold x_range
  rw [if_pos ⟨by omega, by omega, by omega, by omega⟩]
/-- wires from earlier to later in the line -/
def Fw (line : List Int) (P : List (Int × Int)) (low h : Nat) : Prop := ∀ u v, (u, v) ∈ P → ∃ i j : Nat, i < j ∧ line[i]? = some u ∧ line[j]? = some v ∧ (j < low ∨ (j = low ∧ i < h))
theorem fw_good {n : Nat} {line : List Int} {P : List (Int × Int)} {low h : Nat} (hl : line.Perm (rangeL 0 n)) (nd : P.Nodup) (f : Fw line P low h) : GoodW n (rkL line) P := by
  have hnd : line.Nodup := hl.nodup_iff.mpr nodup_rangeL
  refine ⟨nd, fun u v m => ?_, fun u v m => ?_⟩
  · obtain ⟨i, j, _, e1, e2, _⟩ := f u v m
    have m1 := mem_rangeL.mp (hl.mem_iff.mp (List.mem_of_getElem? e1))
    have m2 := mem_rangeL.mp (hl.mem_iff.mp (List.mem_of_getElem? e2))
    omega
  · obtain ⟨i, j, hij, e1, e2, _⟩ := f u v m
    obtain ⟨b1, q1⟩ := List.getElem?_eq_some_iff.mp e1
    obtain ⟨b2, q2⟩ := List.getElem?_eq_some_iff.mp e2
    have r1 : rkL line u = i := by rw [← q1]; exact hnd.idxOf_getElem _ b1
    have r2 : rkL line v = j := by rw [← q2]; exact hnd.idxOf_getElem _ b2
    omega
theorem shapes_ok {k : Nat} (h : k < 12) : Ok (x_ix [(0 : Int), 0, 0, 0, 1, 1, 2, 2, 3, 3, 4, 5] (k : Int)) fun v => 0 ≤ v := by
  rw [x_ix_nat h]
  refine Ok.pure ?_
  have : ∀ v ∈ [(0 : Int), 0, 0, 0, 1, 1, 2, 2, 3, 3, 4, 5], 0 ≤ v := by decide
  exact this _ (List.getElem_mem _)
theorem wires_ok {b : R_bag} {n : Nat} {line : List Int} (hb : BagOk b) (hn : 1 ≤ n ∧ n ≤ 16) (hl : line.Perm (rangeL 0 n)) : Ok (m__law_wires b line) fun r => GoodW n (rkL line) r.1 ∧ r.1.length ≤ 1000 ∧ BagOk r.2 := by
  have hlen : line.length = n := by rw [hl.length_eq, length_rangeL]
  have hnd : line.Nodup := hl.nodup_iff.mpr nodup_rangeL
  unfold m__law_wires
  simp only [bs, joinK]
  refine Ok.bind (draw_ok hb (by decide) (by decide)) fun r1 h1 => ?_
  obtain ⟨⟨a0, a1⟩, hb1⟩ := h1
  obtain ⟨k, hk⟩ := Int.eq_ofNat_of_zero_le a0
  rw [hk]
  refine Ok.bind (shapes_ok (by omega)) fun shape hs => ?_
  rw [hlen]
  refine Ok.bind (draw_ok hb1 (by omega) (by omega)) fun r2 h2 => ?_
  rw [x_range_a (by decide) (by decide) (by omega) (by omega), bs]
  refine Ok.foldA (fun k s => BagOk s.1 ∧ s.2.Nodup ∧ Fw line s.2 (k + 1) 0 ∧ s.2.length ≤ k * 16) ⟨h2.2, List.nodup_nil, fun u v m => (by cases m), by simp⟩ ?_ ?_
  · rintro k ⟨s, ws⟩ hk ⟨i1, i2, i3, i4⟩
    dsimp only at i1 i2 i3 i4 ⊢
    have elow : ((1 : Int) + (k : Int)) = ((k + 1 : Nat) : Int) := by omega
    rw [elow]
    refine Ok.bind (draw_ok i1 (by omega) (by omega)) fun r hr => ?_
    rw [x_range_nat (by omega), bs]
    refine Ok.foldN (fun m s => BagOk s.1 ∧ s.2.Nodup ∧ Fw line s.2 (k + 1) m ∧ s.2.length ≤ k * 16 + m) ⟨hr.2, i2, i3, by omega⟩ ?_ ?_
    · rintro m ⟨s, ws⟩ hm ⟨j1, j2, j3, j4⟩
      dsimp only at j1 j2 j3 j4 ⊢
      refine Ok.bind (wired_ok j1 hs) fun r hr => ?_
      have up : Fw line ws (k + 1) (m + 1) := fun u v q => by
        obtain ⟨i, j, e1, e2, e3, e4⟩ := j3 u v q
        exact ⟨i, j, e1, e2, e3, by omega⟩
      refine Ok.ite (fun c => ?_) (fun c => Ok.pure ⟨hr, j2, up, by dsimp only; omega⟩)
      have b1 : m < line.length := by omega
      have b2 : k + 1 < line.length := by omega
      rw [x_ix_nat b1, bs, x_ix_nat b2, bs, bs, x_app_eq (by omega), bs]
      refine Ok.pure ⟨hr, ?_, ?_, by simp; omega⟩
      · refine List.nodup_append.mpr ⟨j2, by simp, fun x hx y hy e => ?_⟩
        have hy' : y = (line[m], line[k + 1]) := by simpa using hy
        subst e
        subst hy'
        obtain ⟨i, j, e1, e2, e3, e4⟩ := j3 _ _ hx
        obtain ⟨c1, q1⟩ := List.getElem?_eq_some_iff.mp e2
        obtain ⟨c2, q2⟩ := List.getElem?_eq_some_iff.mp e3
        have z1 := (List.getElem_inj hnd).mp q1
        have z2 := (List.getElem_inj hnd).mp q2
        omega
      · intro u v q
        rcases List.mem_append.mp q with q | q
        · exact up u v q
        · have e : u = line[m] ∧ v = line[k + 1] := by simpa using q
          obtain ⟨rfl, rfl⟩ := e
          exact ⟨m, k + 1, hm, List.getElem?_eq_getElem b1, List.getElem?_eq_getElem b2, .inr ⟨rfl, by omega⟩⟩
    · rintro ⟨s, ws⟩ ⟨j1, j2, j3, j4⟩
      exact Ok.pure ⟨j1, j2, fun u v q => by
        obtain ⟨i, j, e1, e2, e3, e4⟩ := j3 u v q
        exact ⟨i, j, e1, e2, e3, by omega⟩, by dsimp only at j4 ⊢; omega⟩
  · rintro ⟨s, ws⟩ ⟨j1, j2, j3, j4⟩
    dsimp only at j1 j2 j3 j4 ⊢
    have hw : ws.length ≤ 1000 := by
      have : ((n : Int) - 1).toNat * 16 ≤ 16 * 16 := Nat.mul_le_mul_right _ (by omega)
      omega
    refine Ok.bind (draw_ok j1 (by decide) (by decide)) fun r hr => ?_
    refine Ok.ite (fun c => ?_) (fun c => ?_)
    · have nd : ws.reverse.Nodup := (List.reverse_perm ws).nodup_iff.mpr j2
      exact Ok.pure ⟨fw_good hl nd (fun u v m => j3 u v (List.mem_reverse.mp m)), by simpa using hw, hr.2⟩
    · exact Ok.pure ⟨fw_good hl j2 j3, hw, hr.2⟩
theorem hues_ok {b : R_bag} (hb : BagOk b) : Ok (m__law_hues b) fun r => (2 ≤ r.1 ∧ r.1 ≤ 10) ∧ BagOk r.2 := by
  unfold m__law_hues
  simp only [bs, joinK]
  refine Ok.bind (draw_ok hb (by decide) (by decide)) fun r1 h1 => ?_
  refine Ok.bind (draw_ok h1.2 (by decide) (by decide)) fun r2 h2 => ?_
  refine Ok.ite (fun c => ?_) (fun c => ?_)
  · refine Ok.bind (draw_ok h2.2 (by decide) (by decide)) fun r3 h3 => ?_
    exact Ok.pure ⟨by dsimp only; omega, h3.2⟩
  · exact Ok.pure ⟨by dsimp only; omega, h2.2⟩
theorem wide_of {i : Int} {k : Nat} (h : i.natAbs ≤ 2 ^ k) (hk : k < 4000) : wide i := Nat.lt_of_le_of_lt h (Nat.pow_lt_pow_right (by decide) hk)
theorem x_mul_wide {i j : Int} {a b : Nat} (h1 : i.natAbs ≤ 2 ^ a) (h2 : j.natAbs ≤ 2 ^ b) (ha : a < 4000) (hb : b < 4000) : x_mul i j = some (i * j) := by
  unfold x_mul
  rw [if_pos ⟨wide_of h1 ha, wide_of h2 hb⟩]
theorem pow_abs {h : Int} (hh : h.natAbs ≤ 2 ^ 10) : ∀ k : Nat, (h ^ k).natAbs ≤ 2 ^ (10 * k)
  | 0 => by simp
  | k + 1 => by
    rw [Int.pow_succ, Int.natAbs_mul, Nat.mul_succ, Nat.pow_add]
    exact Nat.mul_le_mul (pow_abs hh k) hh
theorem power_eq {h : Int} {c : Nat} (hh : h.natAbs ≤ 2 ^ 10) (hc : c ≤ 300) : m__law_power h c = some (h ^ c) := by
  refine Ok.of ?_
  unfold m__law_power
  simp only [bs]
  rw [x_range_nat (by omega), bs]
  refine Ok.foldN (fun k b => b = h ^ k) (by simp) (fun k b hk hb => ?_) fun b hb => Ok.pure hb
  subst hb
  rw [x_mul_wide (pow_abs hh k) hh (by omega) (by decide), bs]
  exact Ok.pure (Int.pow_succ ..).symm
theorem count_ok {b : R_bag} {q : Nat} {room : Int} (hb : BagOk b) (hq : 2 ≤ q ∧ q ≤ 10) : Ok (m__law_count b q room) fun r => ∃ c : Nat, r.1 = (c : Int) ∧ (1 ≤ c ∧ c ≤ 16) ∧ (c = 1 ∨ ((q ^ c : Nat) : Int) ≤ room) ∧ BagOk r.2 := by
  unfold m__law_count
  simp only [bs]
  rw [x_range_a (by decide) (by decide) (by decide) (by decide), bs]
  refine Ok.foldA (fun k s => ∃ c : Nat, s = (c : Int) ∧ (1 ≤ c ∧ c ≤ 16) ∧ (c = 1 ∨ ((q ^ c : Nat) : Int) ≤ room)) ⟨1, rfl, by decide, .inl rfl⟩ ?_ ?_
  · intro k s hk hs
    have e : ((2 : Int) + (k : Int)) = ((k + 2 : Nat) : Int) := by omega
    have hk' : k < 15 := hk
    rw [e, power_eq (by omega) (by omega), bs]
    refine Ok.ite (fun c => ?_) (fun c => Ok.pure hs)
    exact Ok.pure ⟨k + 2, rfl, by omega, .inr (by simpa using c)⟩
  · rintro _ ⟨c, rfl, h1, h2⟩
    refine Ok.bind (draw_ok hb (by decide) (by decide)) fun r hr => ?_
    refine Ok.ite (fun _ => Ok.pure ⟨c, rfl, h1, h2, hr.2⟩) (fun _ => ?_)
    refine Ok.bind (draw_ok hr.2 (by omega) (by omega)) fun r2 h3 => ?_
    obtain ⟨⟨a0, a1⟩, hb2⟩ := h3
    obtain ⟨k, hk⟩ := Int.eq_ofNat_of_zero_le a0
    refine Ok.pure ⟨k + 1, by dsimp only; omega, by omega, ?_, hb2⟩
    rcases h2 with h2 | h2
    · exact .inl (by omega)
    · refine .inr (Int.le_trans ?_ h2)
      exact Int.ofNat_le.mpr (Nat.pow_le_pow_right (by omega) (by omega))
/-- a world that was drawn -/
theorem world_ok {b : R_bag} {room : Int} (hb : BagOk b) : Ok (m__law_world b room) fun r => ∃ (n q : Nat) (P : List (Int × Int)) (line : List Int), (1 ≤ n ∧ n ≤ 16) ∧ (2 ≤ q ∧ q ≤ 10) ∧ (n = 1 ∨ ((q ^ n : Nat) : Int) ≤ room) ∧ GoodW n (rkL line) P ∧ P.length ≤ 1000 ∧ worldOf n q P r.1 ∧ BagOk r.2 := by
  unfold m__law_world
  simp only [bs]
  refine Ok.bind (hues_ok hb) fun r1 h1 => ?_
  obtain ⟨hq, hb1⟩ := h1
  obtain ⟨q, eq⟩ := Int.eq_ofNat_of_zero_le (show 0 ≤ r1.1 by omega)
  rw [eq] at hq ⊢
  refine Ok.bind (count_ok hb1 (by omega)) fun r2 h2 => ?_
  obtain ⟨n, en, hn, hroom, hb2⟩ := h2
  rw [en]
  refine Ok.bind (shuffled_ok hb2 (by omega)) fun r3 h3 => ?_
  refine Ok.bind (wires_ok h3.2 hn h3.1) fun r4 h4 => ?_
  refine Ok.bind (known_eq hn h3.1 h4.1 h4.2.1) fun w hw => ?_
  exact Ok.pure ⟨n, q, r4.1, r3.1, hn, by omega, hroom, h4.1, h4.2.1, hw, h4.2.2⟩
end HF

set_option Elab.async false
set_option linter.all false
set_option maxRecDepth 100000
set_option maxHeartbeats 1000000
/-! MathI: the counting recursion. -/
namespace HF
open PySem PySem.Spec L2
open PyProof.Rows hiding St
/-! ### masks that are taken away -/
theorem sub_bits : ∀ (n r h : Nat), r < 2 ^ n → (∀ v, h.testBit v = true → r.testBit v = true) → h ≤ r ∧ ∀ v, (r - h).testBit v = (r.testBit v && !h.testBit v)
  | 0, r, h, hr, hs => by
    have r0 : r = 0 := by simpa using hr
    have h0 : h = 0 := Nat.eq_of_testBit_eq fun v => by
      cases hb : h.testBit v with
      | false => simp
      | true => have := hs v hb; rw [r0] at this; simp at this
    subst r0 h0
    simp
  | n + 1, r, h, hr, hs => by
    obtain ⟨i1, i2⟩ := sub_bits n (r / 2) (h / 2) (by rw [Nat.pow_succ] at hr; omega) fun v hv => by
      have := hs (v + 1) (by rw [Nat.testBit_succ]; exact hv)
      rw [Nat.testBit_succ] at this
      exact this
    have z := hs 0
    rw [Nat.testBit_zero, Nat.testBit_zero, decide_eq_true_eq, decide_eq_true_eq] at z
    have hle : h ≤ r := by omega
    refine ⟨hle, fun v => ?_⟩
    cases v with
    | zero =>
      rw [Nat.testBit_zero, Nat.testBit_zero, Nat.testBit_zero, Bool.eq_iff_iff]
      simp
      omega
    | succ v =>
      rw [Nat.testBit_succ, Nat.testBit_succ, Nat.testBit_succ, ← i2 v]
      congr 1
      omega
/-! ### dicts -/
section
variable {κ β : Type} [DecidableEq κ]
theorem lookA_cons (p : κ × β) (d : List (κ × β)) (k : κ) : lookA (p :: d) k = if p.1 = k then some p.2 else lookA d k := by
  unfold lookA
  rw [List.find?_cons]
  by_cases h : p.1 = k
  · rw [if_pos h]
    simp [h]
  · rw [if_neg h]
    simp [h]
theorem lookA_none {d : List (κ × β)} {k : κ} : lookA d k = none ↔ k ∉ d.map (·.1) := by
  induction d with
  | nil => simp [lookA]
  | cons p d ih =>
    rw [lookA_cons]
    by_cases h : p.1 = k
    · rw [if_pos h]
      simp [h]
    · rw [if_neg h, ih]
      simp
      exact fun _ e => h e.symm
theorem any_keys {d : List (κ × β)} {k : κ} : (d.any fun p => decide (p.1 = k)) = true ↔ k ∈ d.map (·.1) := by
  rw [List.any_eq_true, List.mem_map]
  constructor
  · rintro ⟨p, h1, h2⟩
    exact ⟨p, h1, of_decide_eq_true h2⟩
  · rintro ⟨p, h1, h2⟩
    exact ⟨p, h1, decide_eq_true h2⟩
theorem putA_keys {d : List (κ × β)} {k : κ} {y : β} : (putA d k y).map (·.1) = if k ∈ d.map (·.1) then d.map (·.1) else d.map (·.1) ++ [k] := by
  unfold putA
  by_cases h : k ∈ d.map (·.1)
  · rw [if_pos (any_keys.mpr h), if_pos h, List.map_map]
    refine List.map_congr_left fun p _ => ?_
    show (if p.1 = k then _ else _ : κ × β).1 = p.1
    split <;> rfl
  · rw [if_neg (fun q => h (any_keys.mp q)), if_neg h, List.map_append]
    rfl
theorem lookA_map_ne {d : List (κ × β)} {k j : κ} {y : β} (h : j ≠ k) : lookA (d.map fun p => if p.1 = k then (p.1, y) else p) j = lookA d j := by
  induction d with
  | nil => rfl
  | cons p d ih =>
    rw [List.map_cons, lookA_cons, lookA_cons, ih]
    by_cases hp : p.1 = k
    · rw [if_pos hp]
      have : ¬ p.1 = j := fun e => h (e.symm.trans hp)
      rw [if_neg this, if_neg this]
    · rw [if_neg hp]
theorem lookA_map_eq {d : List (κ × β)} {k : κ} {y : β} (h : k ∈ d.map (·.1)) : lookA (d.map fun p => if p.1 = k then (p.1, y) else p) k = some y := by
  induction d with
  | nil => cases h
  | cons p d ih =>
    rw [List.map_cons, lookA_cons]
    by_cases hp : p.1 = k
    · rw [if_pos hp, if_pos hp]
    · rw [if_neg hp, if_neg hp]
      refine ih ?_
      rcases List.mem_cons.mp h with e | h
      · exact absurd e.symm hp
      · exact h
theorem lookA_app {d : List (κ × β)} {k j : κ} {y : β} (h : k ∉ d.map (·.1)) : lookA (d ++ [(k, y)]) j = if j = k then some y else lookA d j := by
  induction d with
  | nil =>
    rw [List.nil_append, lookA_cons]
    by_cases e : k = j
    · rw [if_pos e, if_pos e.symm]
    · rw [if_neg e, if_neg (fun q => e q.symm)]
  | cons p d ih =>
    rw [List.cons_append, lookA_cons, lookA_cons, ih (fun m => h (List.mem_cons_of_mem _ m))]
    by_cases e : p.1 = j
    · have : ¬ j = k := fun q => h (by rw [← q, ← e]; exact List.mem_cons_self ..)
      rw [if_pos e, if_neg this, if_pos e]
    · rw [if_neg e, if_neg e]
theorem lookA_putA {d : List (κ × β)} {k j : κ} {y : β} : lookA (putA d k y) j = if j = k then some y else lookA d j := by
  unfold putA
  by_cases h : k ∈ d.map (·.1)
  · rw [if_pos (any_keys.mpr h)]
    by_cases e : j = k
    · subst e
      rw [if_pos rfl, lookA_map_eq h]
    · rw [if_neg e, lookA_map_ne e]
  · rw [if_neg (fun q => h (any_keys.mp q)), lookA_app h]
end
/-! ### the recursion on lists of lamps -/
def Wl (lt : Int → Int → Bool) (stay free : Int) (d : Int → Int) : List Int → Int
  | [] => 1
  | x :: L => stay * Wl lt stay free d L + (if 0 < d x then d x * free ^ (L.filter fun y => lt x y).length * Wl lt stay free d (L.filter fun y => !lt x y) else 0)
termination_by L => L.length
decreasing_by
  · simp
  · simp
    refine Nat.lt_succ_of_le (Nat.le_trans (List.length_filter_le _ _) ?_)
    simp
theorem len_split (p : Int → Bool) (L : List Int) : (L.filter p).length + (L.filter fun y => !p y).length = L.length := by
  induction L with
  | nil => rfl
  | cons x L ih =>
    rw [List.filter_cons, List.filter_cons]
    cases p x <;> simp <;> omega
theorem Wl_abs {lt : Int → Int → Bool} {stay free : Int} {d : Int → Int} (hs : stay.natAbs ≤ 2 ^ 4) (hf : free.natAbs ≤ 2 ^ 7) (hd : ∀ x, (d x).natAbs ≤ 2 ^ 6) : ∀ (k : Nat) (L : List Int), L.length ≤ k → (Wl lt stay free d L).natAbs ≤ 2 ^ (8 * L.length)
  | k, [], _ => by rw [Wl]; simp
  | 0, x :: L, h => by simp at h
  | k + 1, x :: L, h => by
    have hl : L.length ≤ k := by simpa using h
    have i1 := Wl_abs (lt := lt) hs hf hd k L hl
    have i2 := Wl_abs (lt := lt) hs hf hd k (L.filter fun y => !lt x y) (Nat.le_trans (List.length_filter_le _ _) hl)
    have hsp : (L.filter fun y => lt x y).length + (L.filter fun y => !lt x y).length = L.length := len_split (lt x) L
    rw [Wl]
    have t1 : (stay * Wl lt stay free d L).natAbs ≤ 2 ^ (8 * L.length + 4) := by
      rw [Int.natAbs_mul, Nat.add_comm, Nat.pow_add]
      exact Nat.mul_le_mul hs i1
    have t2 : ∀ j : Nat, (free ^ j).natAbs ≤ 2 ^ (7 * j) := fun j => by
      induction j with
      | zero => simp
      | succ j ih =>
        rw [Int.pow_succ, Int.natAbs_mul, Nat.mul_succ, Nat.pow_add]
        exact Nat.mul_le_mul ih hf
    have t3 : (d x * free ^ (L.filter fun y => lt x y).length * Wl lt stay free d (L.filter fun y => !lt x y)).natAbs ≤ 2 ^ (8 * L.length + 6) := by
      rw [Int.natAbs_mul, Int.natAbs_mul]
      refine Nat.le_trans (Nat.mul_le_mul (Nat.mul_le_mul (hd x) (t2 _)) i2) ?_
      rw [← Nat.pow_add, ← Nat.pow_add]
      exact Nat.pow_le_pow_right (by decide) (by omega)
    have e8 : (2 : Nat) ^ (8 * (x :: L).length) = 2 ^ (8 * L.length) * 256 := by
      rw [List.length_cons, Nat.mul_succ, Nat.pow_add]
    rw [Nat.pow_add] at t1 t3
    have t4 : (if 0 < d x then d x * free ^ (L.filter fun y => lt x y).length * Wl lt stay free d (L.filter fun y => !lt x y) else 0).natAbs ≤ 2 ^ (8 * L.length) * 2 ^ 6 := by
      split
      · exact t3
      · simp
    have := Int.natAbs_add_le (stay * Wl lt stay free d L) (if 0 < d x then d x * free ^ (L.filter fun y => lt x y).length * Wl lt stay free d (L.filter fun y => !lt x y) else 0)
    rw [e8]
    omega
end HF

set_option Elab.async false
set_option linter.all false
set_option maxRecDepth 100000
set_option maxHeartbeats 1000000
/-! MathJ: the program's counting recursion computes it. -/
namespace HF
open PySem PySem.Spec L2
open PyProof.Rows hiding St
def ofM (ord : List Int) (m : Nat) : List Int := ord.filter fun v => m.testBit v.toNat
theorem ppower_eq {h : Int} {c : Nat} (hh : h.natAbs ≤ 2 ^ 10) (hc : c ≤ 300) : m__power h c = some (h ^ c) := by
  refine Ok.of ?_
  unfold m__power
  simp only [bs]
  rw [x_range_nat (by omega), bs]
  refine Ok.foldN (fun k b => b = h ^ k) (by simp) (fun k b hk hb => ?_) fun b hb => Ok.pure hb
  subst hb
  rw [x_mul_wide (pow_abs hh k) hh (by omega) (by decide), bs]
  exact Ok.pure (Int.pow_succ ..).symm
/-- what is known: masks with their numbers -/
structure Kn (n : Nat) (f : Nat → Int) (d : List (Int × Int)) : Prop where
  val : ∀ k v, lookA d k = some v → ∃ m : Nat, k = (m : Int) ∧ v = f m
  zero : (lookA d 0).isSome = true
  nd : (d.map (·.1)).Nodup
  dom : ∀ k, k ∈ d.map (·.1) → 0 ≤ k ∧ k < ((2 ^ n : Nat) : Int)
theorem Kn.len {n : Nat} {f : Nat → Int} {d : List (Int × Int)} (h : Kn n f d) : d.length ≤ 2 ^ n := by
  have := nodup_len (l := d.map (·.1)) (m := rangeL 0 (2 ^ n)) h.nd fun k hk => mem_rangeL.mpr (h.dom k hk)
  rwa [List.length_map, length_rangeL] at this
theorem Kn.put {n m : Nat} {f : Nat → Int} {d : List (Int × Int)} (h : Kn n f d) (hn : n ≤ 16) (hm : m < 2 ^ n) : ∃ d', x_putA d (m : Int) (f m) = some d' ∧ Kn n f d' := by
  have hl := h.len
  have h16 : 2 ^ n ≤ 2 ^ 16 := Nat.pow_le_pow_right (by decide) hn
  refine ⟨putA d m (f m), ?_, fun k v hv => ?_, ?_, ?_, fun k hk => ?_⟩
  · unfold x_putA
    rw [if_pos (show d.length < sizeLine from by show d.length < 16777216; omega)]
  · rw [lookA_putA] at hv
    by_cases e : k = (m : Int)
    · rw [if_pos e] at hv
      exact ⟨m, e, by cases hv; rfl⟩
    · rw [if_neg e] at hv
      exact h.val k v hv
  · rw [lookA_putA]
    split
    · rfl
    · exact h.zero
  · rw [putA_keys]
    split
    · exact h.nd
    · rename_i hk
      exact List.nodup_append.mpr ⟨h.nd, by simp, fun a ha b hb e => by
        have : b = (m : Int) := by simpa using hb
        exact hk (by rw [← this, ← e]; exact ha)⟩
  · rw [putA_keys] at hk
    split at hk
    · exact h.dom k hk
    · rcases List.mem_append.mp hk with hk | hk
      · exact h.dom k hk
      · have : k = (m : Int) := by simpa using hk
        omega
theorem ofM_len_bits {n m : Nat} {ord : List Int} (hp : ord.Perm (rangeL 0 n)) : ((rangeL 0 n).filter fun v => m.testBit v.toNat).length = (ofM ord m).length := ((hp.filter _).length_eq).symm
section
variable {n q : Nat} {P : List (Int × Int)} {h : HouseD} {stay free : Int} {drops : List Int}
noncomputable abbrev Wm (n : Nat) (P : List (Int × Int)) (stay free : Int) (drops : List Int) (m : Nat) : Int := Wl (dnB P) stay free (fun x => drops.getD x.toNat 0) (ofM (gr n (aboveL n P) n) m)
theorem gr_perm {n : Nat} {up : Int → List Int} {rk : Int → Nat} (hup : ∀ x y, y ∈ up x → (0 ≤ y ∧ y < n) ∧ rk y < rk x) : (gr n up n).Perm (rangeL 0 n) := by
  refine (List.perm_ext_iff_of_nodup (gr_nodup n) nodup_rangeL).mpr fun x => ⟨fun hx => mem_rangeL.mpr (gr_mem n x hx), fun hx => Classical.byContradiction fun hn => ?_⟩
  have := nodup_len (l := x :: gr n up n) (m := rangeL 0 n) (List.nodup_cons.mpr ⟨hn, gr_nodup n⟩) fun y hy => by
    rcases List.mem_cons.mp hy with rfl | hy
    · exact hx
    · exact mem_rangeL.mpr (gr_mem n y hy)
  rw [List.length_cons, gr_len hup n (Nat.le_refl _), length_rangeL] at this
  omega
theorem up_ok {rk : Int → Nat} (hP : GoodW n rk P) : ∀ x y, y ∈ aboveL n P x → (0 ≤ y ∧ y < (n : Int)) ∧ rk y < rk x := fun x y hy => by
  have := hP.dn (fun _ m => m) ((mem_aboveL hP).mp hy)
  omega
theorem ways_ok {rk : Int → Nat} (hn : 1 ≤ n ∧ n ≤ 16) (hP : GoodW n rk P) (hh : HouseOk n q P h) (hs : stay.natAbs ≤ 2 ^ 4) (hf : free.natAbs ≤ 2 ^ 7) (hdl : drops.length = n) (hd : ∀ x : Int, (drops.getD x.toNat 0).natAbs ≤ 2 ^ 6) :
    ∀ (fu m : Nat) (known : List (Int × Int)), m < 2 ^ n → (ofM (gr n (aboveL n P) n) m).length < fu → Kn n (Wm n P stay free drops) known → Ok (m_waysT fu h stay drops free (m : Int) known) fun r => r.1 = Wm n P stay free drops m ∧ Kn n (Wm n P stay free drops) r.2
  | 0, m, known, _, hl, _ => absurd hl (Nat.not_lt_zero _)
  | fu + 1, m, known, hm, hl, hk => by
    have IH := ways_ok (rk := rk) hn hP hh hs hf hdl hd fu
    have ordP := gr_perm (up_ok hP)
    have ordN : (gr n (aboveL n P) n).Nodup := gr_nodup n
    have hW : ∀ L : List Int, (Wl (dnB P) stay free (fun x => drops.getD x.toNat 0) L).natAbs ≤ 2 ^ (8 * L.length) := fun L => Wl_abs hs hf hd L.length L (Nat.le_refl _)
    have hlen16 : ∀ m', (ofM (gr n (aboveL n P) n) m').length ≤ 16 := fun m' => by
      have := List.length_filter_le (fun v : Int => m'.testBit v.toNat) (gr n (aboveL n P) n)
      rw [ordP.length_eq, length_rangeL] at this
      unfold ofM
      omega
    unfold m_waysT
    simp only [bs, m_House_order, m_below_masks, hh.order]
    refine Ok.ite (fun c => ?_) (fun c => ?_)
    · obtain ⟨v, hv⟩ := Option.isSome_iff_exists.mp c
      obtain ⟨m', e1, e2⟩ := hk.val _ _ hv
      have : m = m' := by omega
      subst this
      rw [hv, bs]
      exact Ok.pure ⟨e2, hk⟩
    · have hm0 : m ≠ 0 := fun e => by
        subst e
        have hz := hk.zero
        rw [show ((0 : Nat) : Int) = 0 from rfl, hz] at c
        cases c
      have hw : x_comp (fun y => ((x_shr (m : Int) y).bind fun z => some (Builtin.bitAnd z 1)).bind fun z => some (z != 0)) (fun y => some y) (gr n (aboveL n P) n) = some (ofM (gr n (aboveL n P) n) m) := by
        refine x_comp_filter (fun v : Int => m.testBit v.toNat) (by rw [ordP.length_eq, length_rangeL]; omega) fun y hy => ?_
        obtain ⟨h0, _⟩ := gr_mem n y hy
        obtain ⟨k, rfl⟩ := Int.eq_ofNat_of_zero_le h0
        rw [tst1, bs, Int.toNat_natCast]
        cases m.testBit k <;> rfl
      rw [hw, bs]
      cases e : ofM (gr n (aboveL n P) n) m with
      | nil =>
        refine absurd (Nat.eq_of_testBit_eq fun v => ?_) hm0
        rw [Nat.zero_testBit]
        cases hb : m.testBit v with
        | false => rfl
        | true =>
          have hv : v < n := Classical.byContradiction fun q => by
            rw [Nat.testBit_lt_two_pow (Nat.lt_of_lt_of_le hm (Nat.pow_le_pow_right (by decide) (by omega)))] at hb
            cases hb
          have : (v : Int) ∈ ofM (gr n (aboveL n P) n) m := List.mem_filter.mpr ⟨ordP.mem_iff.mpr (mem_rangeL.mpr ⟨by omega, by omega⟩), by simpa using hb⟩
          rw [e] at this
          cases this
      | cons x L =>
        have hxm : x ∈ ofM (gr n (aboveL n P) n) m := by rw [e]; exact List.mem_cons_self ..
        obtain ⟨hxo, hxb⟩ := List.mem_filter.mp hxm
        obtain ⟨h0, h1⟩ := gr_mem n x hxo
        obtain ⟨k, rfl⟩ := Int.eq_ofNat_of_zero_le h0
        rw [Int.toNat_natCast] at hxb
        obtain ⟨r1, r2⟩ := sub_bits n m (2 ^ k) hm fun v hv => by
          rw [Nat.testBit_two_pow] at hv
          have : k = v := of_decide_eq_true hv
          rw [← this]
          exact hxb
        have eL : ofM (gr n (aboveL n P) n) (m - 2 ^ k) = L := by
          have nd : (ofM (gr n (aboveL n P) n) m).Nodup := ordN.filter _
          rw [e] at nd
          have : ofM (gr n (aboveL n P) n) (m - 2 ^ k) = (ofM (gr n (aboveL n P) n) m).filter fun y => decide (y ≠ (k : Int)) := by
            unfold ofM
            rw [List.filter_filter]
            refine List.filter_congr fun y hy => ?_
            obtain ⟨g0, _⟩ := gr_mem n y hy
            obtain ⟨j, rfl⟩ := Int.eq_ofNat_of_zero_le g0
            rw [Int.toNat_natCast, r2, Nat.testBit_two_pow, Bool.and_comm]
            congr 1
            by_cases hj : k = j
            · subst hj
              simp
            · simp [hj]
              omega
          rw [this, e, List.filter_cons_of_neg (by simp), List.filter_eq_self.mpr]
          intro y hy
          exact decide_eq_true fun q => (List.nodup_cons.mp nd).1 (by rw [← q]; exact hy)
        have hr : m - 2 ^ k < 2 ^ n := Nat.lt_of_le_of_lt (Nat.sub_le _ _) hm
        obtain ⟨bm, eb, lb, bb⟩ := hh.belowM.ix h0 h1
        have hrest : ((m : Int) - ((2 ^ k : Nat) : Int)) = ((m - 2 ^ k : Nat) : Int) := by omega
        simp only [x_ix0, bs, x_shl1 k (by omega), hrest, eb, and_nat]
        have hLl : L.length + 1 < fu + 1 := by rw [e] at hl; simpa using hl
        have hL16 : L.length ≤ 16 := by rw [← eL]; exact hlen16 _
        refine Ok.bind (IH (m - 2 ^ k) known hr (by rw [eL]; omega) hk) fun ra ha => ?_
        obtain ⟨ea, ka⟩ := ha
        have ea' : ra.1 = Wl (dnB P) stay free (fun x => drops.getD x.toNat 0) L := by rw [ea]; show Wl _ _ _ _ _ = _; rw [eL]
        rw [x_mul_wide hs (show ra.1.natAbs ≤ 2 ^ (8 * L.length) by rw [ea']; exact hW L) (by decide) (by omega), bs]
        have hkd : k < drops.length := by omega
        have edk : drops.getD k 0 = drops[k] := by simp [List.getD, List.getElem?_eq_getElem hkd]
        rw [x_ix_nat hkd, bs]
        have hdk : (drops[k]).natAbs ≤ 2 ^ 6 := by
          have := hd (k : Int)
          rw [Int.toNat_natCast, edk] at this
          exact this
        have hpre : ∀ v, (bm &&& (m - 2 ^ k)).testBit v = true → (m - 2 ^ k).testBit v = true := fun v hv => by
          rw [Nat.testBit_and, Bool.and_eq_true] at hv
          exact hv.2
        obtain ⟨s1, s2⟩ := sub_bits n (m - 2 ^ k) (bm &&& (m - 2 ^ k)) hr hpre
        have eh : ofM (gr n (aboveL n P) n) (bm &&& (m - 2 ^ k)) = L.filter fun y => dnB P k y := by
          rw [← eL]
          unfold ofM
          rw [List.filter_filter]
          refine List.filter_congr fun y hy => ?_
          obtain ⟨g0, _⟩ := gr_mem n y hy
          obtain ⟨j, rfl⟩ := Int.eq_ofNat_of_zero_le g0
          rw [Int.toNat_natCast, Nat.testBit_and]
          congr 1
          rw [Bool.eq_iff_iff, bb j, dnB_iff]
        have er : ofM (gr n (aboveL n P) n) ((m - 2 ^ k) - (bm &&& (m - 2 ^ k))) = L.filter fun y => !dnB P k y := by
          rw [← eL]
          unfold ofM
          rw [List.filter_filter]
          refine List.filter_congr fun y hy => ?_
          obtain ⟨g0, _⟩ := gr_mem n y hy
          obtain ⟨j, rfl⟩ := Int.eq_ofNat_of_zero_le g0
          rw [Int.toNat_natCast, s2, Nat.testBit_and]
          have hbj : bm.testBit j = dnB P k j := by rw [Bool.eq_iff_iff, bb j, dnB_iff]
          rw [hbj]
          cases (m - 2 ^ k).testBit j <;> cases dnB P k j <;> rfl
        have hlt : bm &&& (m - 2 ^ k) < 2 ^ n := Nat.lt_of_le_of_lt s1 hr
        have key : ∀ v : Int, ra.2 = ra.2 → (v = stay * ra.1 + (if 0 < drops[k] then drops[k] * free ^ (L.filter fun y => dnB P k y).length * Wl (dnB P) stay free (fun x => drops.getD x.toNat 0) (L.filter fun y => !dnB P k y) else 0)) → v = Wm n P stay free drops m := fun v _ ev => by
          rw [ev]
          show _ = Wl _ _ _ _ _
          rw [e, Wl, ea', Int.toNat_natCast, edk]
        have fin : ∀ (v : Int) (kn : List (Int × Int)), v = Wm n P stay free drops m → Kn n (Wm n P stay free drops) kn → Ok ((x_putA kn (m : Int) v).bind fun known429 => some (v, known429)) fun r => r.1 = Wm n P stay free drops m ∧ Kn n (Wm n P stay free drops) r.2 := fun v kn ev hkn => by
          obtain ⟨d', e1, e2⟩ := hkn.put (by omega) hm
          rw [ev, e1, bs]
          exact Ok.pure ⟨rfl, e2⟩
        by_cases hpos : 0 < drops[k]
        · rw [decide_eq_true hpos, bs, if_pos rfl]
          simp only [bs]
          rw [bits_eq (by omega) hlt]
          simp only [bs]
          rw [ofM_len_bits ordP, eh]
          have hc16 : (L.filter fun y => dnB P k y).length ≤ 16 := Nat.le_trans (List.length_filter_le _ _) hL16
          have hf10 : free.natAbs ≤ 2 ^ 10 := Nat.le_trans hf (by decide)
          rw [ppower_eq hf10 (by omega), bs, x_mul_wide hdk (pow_abs hf10 _) (by decide) (by omega), bs]
          have hsub : (((m - 2 ^ k : Nat) : Int) - ((bm &&& (m - 2 ^ k) : Nat) : Int)) = (((m - 2 ^ k) - (bm &&& (m - 2 ^ k)) : Nat) : Int) := by omega
          rw [hsub, Option.bind_assoc]
          have hl2 : (L.filter fun y => !dnB P k y).length ≤ L.length := List.length_filter_le _ _
          refine Ok.bind (IH _ ra.2 (Nat.lt_of_le_of_lt (Nat.sub_le _ _) hr) (by rw [er]; omega) ka) fun rb hb => ?_
          obtain ⟨eb2, kb⟩ := hb
          have eb' : rb.1 = Wl (dnB P) stay free (fun x => drops.getD x.toNat 0) (L.filter fun y => !dnB P k y) := by rw [eb2]; show Wl _ _ _ _ _ = _; rw [er]
          have hea : (drops[k] * free ^ (L.filter fun y => dnB P k y).length).natAbs ≤ 2 ^ (6 + 10 * (L.filter fun y => dnB P k y).length) := by
            rw [Int.natAbs_mul, Nat.pow_add]
            exact Nat.mul_le_mul hdk (pow_abs hf10 _)
          rw [x_mul_wide hea (show rb.1.natAbs ≤ 2 ^ (8 * (L.filter fun y => !dnB P k y).length) by rw [eb']; exact hW _) (by omega) (by omega)]
          simp only [bs]
          exact fin _ _ (key _ rfl (by rw [if_pos hpos, eb'])) kb
        · rw [decide_eq_false hpos, bs, if_neg Bool.false_ne_true]
          simp only [bs]
          exact fin _ _ (key _ rfl (by rw [if_neg hpos]; omega)) ka
end
end HF

set_option Elab.async false
set_option linter.all false
set_option maxRecDepth 100000
set_option maxHeartbeats 1000000
/-! MathK: lower_count, upper_count, pair_count. -/
namespace HF
open PySem PySem.Spec L2
open PyProof.Rows hiding St
/-- a state -/
structure StOk (n q : Nat) (s : List Int) : Prop where
  len : s.length = n
  hue : ∀ x ∈ s, 0 ≤ x ∧ x < (q : Int)
section
variable {n q : Nat} {P : List (Int × Int)} {h : HouseD} {s : List Int}
theorem is_state_ok (hn : n ≤ 1000) (hh : HouseOk n q P h) (hs : StOk n q s) : m_is_state h s = some true := by
  have hz : x_comp (fun _ => some true) (fun y : Int => andM true (andM (decide (0 ≤ y)) (some (decide (y < h.hues))))) s = some (s.map fun y => decide (0 ≤ y) && decide (y < h.hues)) :=
    x_comp_map _ (by rw [hs.len]; omega) fun y _ => by rw [andM_some, andM_some]; rfl
  unfold m_is_state
  simp only [bs, is_integer_eq, hz]
  rw [hh.count, hs.len]
  have e : orM (!true) (some (!decide ((n : Int) = (n : Int)))) = some false := by simp [orM]
  rw [e, bs, if_neg Bool.false_ne_true]
  congr 1
  rw [List.all_eq_true]
  intro b hb
  obtain ⟨x, hx, rfl⟩ := List.mem_map.mp hb
  have := hs.hue x hx
  rw [hh.hues]
  simp
  omega
theorem need_ok (hn : n ≤ 1000) (hh : HouseOk n q P h) (hs : StOk n q s) : m_need_state h s = some () := by
  unfold m_need_state
  simp only [bs]
  rw [is_state_ok hn hh hs]
  simp only [bs]
  rfl
theorem check_ok (hn : n ≤ 1000) (hh : HouseOk n q P h) (hs : StOk n q s) : m__check_state h s = some () := by
  unfold m__check_state
  simp only [bs]
  rw [is_state_ok hn hh hs]
  simp only [bs]
  rfl
def mirS (q : Nat) (s : List Int) : List Int := s.map fun v => (q : Int) - 1 - v
theorem mirS_ok (hs : StOk n q s) : StOk n q (mirS q s) := ⟨by unfold mirS; rw [List.length_map]; exact hs.len, fun x hx => by
  obtain ⟨y, hy, rfl⟩ := List.mem_map.mp hx
  have := hs.hue y hy
  omega⟩
theorem mirror_eq (hn : n ≤ 1000) (hh : HouseOk n q P h) (hs : StOk n q s) : m_mirror h s = some (mirS q s) := by
  unfold m_mirror
  simp only [bs]
  rw [check_ok hn hh hs, bs]
  rw [x_comp_map (fun y => h.hues - 1 - y) (by rw [hs.len]; omega) fun _ _ => rfl, hh.hues]
  rfl
theorem all_lamps_eq (hn : n ≤ 16) (hh : HouseOk n q P h) : m__all_lamps h = some ((2 ^ n - 1 : Nat) : Int) := by
  unfold m__all_lamps
  simp only [bs]
  rw [hh.count, x_shl1 n (by omega), bs]
  congr 1
  have := Nat.two_pow_pos n
  omega
theorem ofM_all (ord : List Int) (ho : ∀ x ∈ ord, 0 ≤ x ∧ x < (n : Int)) : ofM ord (2 ^ n - 1) = ord := by
  unfold ofM
  rw [List.filter_eq_self]
  intro x hx
  have := ho x hx
  rw [Nat.testBit_two_pow_sub_one]
  simp
  omega
theorem kn0 {f : Nat → Int} (hf : f 0 = 1) : Kn n f [((0 : Int), (1 : Int))] := by
  refine ⟨fun k v hv => ?_, by decide, by simp, fun k hk => ?_⟩
  · rw [lookA_cons] at hv
    by_cases e : (0 : Int) = k
    · rw [if_pos e] at hv
      exact ⟨0, by omega, by cases hv; exact hf.symm⟩
    · rw [if_neg e] at hv
      cases hv
  · have : k = 0 := by simpa using hk
    have := Nat.two_pow_pos n
    omega
theorem Wm0 {stay free : Int} {drops : List Int} : Wm n P stay free drops 0 = 1 := by
  show Wl _ _ _ _ _ = _
  have : ofM (gr n (aboveL n P) n) 0 = [] := by
    unfold ofM
    simp
  rw [this, Wl]
theorem getD_bound {b : Nat} (hs : ∀ x ∈ s, x.natAbs ≤ b) (x : Int) : (s.getD x.toNat 0).natAbs ≤ b := by
  rw [List.getD_eq_getElem?_getD]
  cases e : s[x.toNat]? with
  | none => simp
  | some v => exact hs v (List.mem_of_getElem? e)
/-- the number, along the order list -/
noncomputable abbrev Wo (n : Nat) (P : List (Int × Int)) (stay free : Int) (drops : List Int) : Int := Wl (dnB P) stay free (fun x => drops.getD x.toNat 0) (gr n (aboveL n P) n)
theorem lower_eq {rk : Int → Nat} (hn : 1 ≤ n ∧ n ≤ 16) (hq : 2 ≤ q ∧ q ≤ 10) (hP : GoodW n rk P) (hh : HouseOk n q P h) (hs : StOk n q s) : m_lower_count h s = some (Wo n P 1 q s) := by
  have ho : ∀ x ∈ gr n (aboveL n P) n, 0 ≤ x ∧ x < (n : Int) := fun x hx => gr_mem n x hx
  have hpos := Nat.two_pow_pos n
  unfold m_lower_count
  simp only [bs]
  rw [need_ok (by omega) hh hs, bs, all_lamps_eq hn.2 hh]
  simp only [bs]
  unfold m_free_count
  simp only [bs]
  rw [hh.hues]
  obtain ⟨r, e1, e2, _⟩ := ways_ok (h := h) (stay := 1) (free := (q : Int)) (drops := s) hn hP hh (by decide) (show (q : Int).natAbs ≤ 128 by omega) hs.len (getD_bound fun x hx => by have := hs.hue x hx; show x.natAbs ≤ 64; omega) 20 (2 ^ n - 1) [(0, 1)] (by omega) (by
    rw [ofM_all _ ho, gr_len (up_ok hP) n (Nat.le_refl _)]
    omega) (kn0 Wm0)
  rw [e1, bs, e2]
  show some (Wl _ _ _ _ _) = _
  rw [ofM_all _ ho]
theorem upper_eq {rk : Int → Nat} (hn : 1 ≤ n ∧ n ≤ 16) (hq : 2 ≤ q ∧ q ≤ 10) (hP : GoodW n rk P) (hh : HouseOk n q P h) (hs : StOk n q s) : m_upper_count h s = some (Wo n P 1 q (mirS q s)) := by
  have hl := lower_eq hn hq hP hh (mirS_ok hs)
  unfold m_lower_count at hl
  simp only [bs] at hl
  rw [need_ok (by omega) hh (mirS_ok hs), bs] at hl
  unfold m_upper_count
  simp only [bs]
  rw [need_ok (by omega) hh hs, bs, mirror_eq (by omega) hh hs, bs]
  exact hl
theorem waysL_eq : ∀ fu, m_waysL fu = m_waysT fu
  | 0 => rfl
  | fu + 1 => by
    funext a b c d e f
    unfold m_waysL m_waysT
    rw [waysL_eq fu]
theorem pair_eq {rk : Int → Nat} (hn : 1 ≤ n ∧ n ≤ 16) (hq : 2 ≤ q ∧ q ≤ 10) (hP : GoodW n rk P) (hh : HouseOk n q P h) : m_pair_count h = some (Wo n P q (q * q) (List.replicate n ((q : Int) * (q - 1) / 2))) := by
  have ho : ∀ x ∈ gr n (aboveL n P) n, 0 ≤ x ∧ x < (n : Int) := fun x hx => gr_mem n x hx
  have hpos := Nat.two_pow_pos n
  have hq4 : (q : Int).natAbs ≤ 2 ^ 4 := by show _ ≤ 16; omega
  have hqq : ((q : Int) * (q - 1)).natAbs ≤ 2 ^ 7 := by
    rw [Int.natAbs_mul]
    exact Nat.le_trans (Nat.mul_le_mul (show (q : Int).natAbs ≤ 10 by omega) (show ((q : Int) - 1).natAbs ≤ 9 by omega)) (by decide)
  have hq2 : ((q : Int) * q).natAbs ≤ 2 ^ 7 := by
    rw [Int.natAbs_mul]
    exact Nat.le_trans (Nat.mul_le_mul (show (q : Int).natAbs ≤ 10 by omega) (show (q : Int).natAbs ≤ 10 by omega)) (by decide)
  have hd : ((q : Int) * (q - 1) / 2).natAbs ≤ 2 ^ 6 := by
    show _ ≤ 64
    have : ((q : Int) * (q - 1)).natAbs ≤ 128 := hqq
    omega
  unfold m_pair_count
  simp only [bs, waysL_eq]
  rw [hh.hues, x_mul_wide hq4 (show ((q : Int) - 1).natAbs ≤ 2 ^ 4 by show _ ≤ 16; omega) (by decide) (by decide), bs, x_div_pos (by decide) (by decide)]
  simp only [bs]
  rw [hh.count, x_rep1 (by omega) (by omega), bs, x_mul_wide hq4 hq4 (by decide) (by decide), bs, all_lamps_eq hn.2 hh, bs, Int.toNat_natCast]
  obtain ⟨r, e1, e2, _⟩ := ways_ok (h := h) (stay := (q : Int)) (free := (q : Int) * q) (drops := List.replicate n ((q : Int) * (q - 1) / 2)) hn hP hh hq4 hq2 (by simp) (getD_bound fun x hx => by rw [List.eq_of_mem_replicate hx]; exact hd) 20 (2 ^ n - 1) [(0, 1)] (by omega) (by
    rw [ofM_all _ ho, gr_len (up_ok hP) n (Nat.le_refl _)]
    omega) (kn0 Wm0)
  rw [e1, bs, e2]
  show some (Wl _ _ _ _ _) = _
  rw [ofM_all _ ho]
end
end HF

set_option Elab.async false
set_option linter.all false
set_option maxRecDepth 100000
set_option maxHeartbeats 1000000
/-! MathL: counting words. -/
namespace HF
open PySem PySem.Spec L2
open PyProof.Rows hiding St
/-- an order list: nothing later lies above, and it is transitive -/
structure Lin (lt : Int → Int → Bool) (L : List Int) : Prop where
  later : L.Pairwise fun x y => lt y x = false
  irr : ∀ x, lt x x = false
  tr : ∀ x y z, lt x y = true → lt y z = true → lt x z = true
theorem Lin.tail {lt : Int → Int → Bool} {x : Int} {L : List Int} (h : Lin lt (x :: L)) : Lin lt L := ⟨(List.pairwise_cons.mp h.later).2, h.irr, h.tr⟩
/-- the number of words, S: what is covered -/
def Cg (lt : Int → Int → Bool) (stay free : Int) (S : Int → Bool) : List Int → List Int → Int
  | x :: L, d :: ds => if S x = true then free * Cg lt stay free S L ds else stay * Cg lt stay free S L ds + d * Cg lt stay free (fun y => S y || lt x y) L ds
  | _, _ => 1
/-- what is covered is closed downwards -/
def Down (lt : Int → Int → Bool) (S : Int → Bool) : Prop := ∀ x y, S x = true → lt x y = true → S y = true
theorem Down.ext {lt : Int → Int → Bool} {S : Int → Bool} {x : Int} (h : Down lt S) (tr : ∀ x y z, lt x y = true → lt y z = true → lt x z = true) : Down lt fun y => S y || lt x y := fun a b h1 h2 => by
  rcases Bool.or_eq_true _ _ ▸ h1 with q | q
  · exact Bool.or_eq_true _ _ ▸ .inl (h a b q h2)
  · exact Bool.or_eq_true _ _ ▸ .inr (tr x a b q h2)
theorem filter_or {S p : Int → Bool} (L : List Int) : (L.filter fun y => !(S y || p y)) = (L.filter fun y => !S y).filter fun y => !p y := by
  rw [List.filter_filter]
  exact List.filter_congr fun y _ => by cases S y <;> cases p y <;> rfl
theorem cov_or {S p : Int → Bool} (L : List Int) : (L.filter fun y => S y || p y).length = (L.filter S).length + ((L.filter fun y => !S y).filter p).length := by
  induction L with
  | nil => rfl
  | cons x L ih =>
    rw [List.filter_cons, List.filter_cons, List.filter_cons]
    cases h1 : S x <;> cases h2 : p x <;> simp [h2, ih] <;> omega
/-- it is the recursion of the program -/
theorem Cg_Wl {lt : Int → Int → Bool} {stay free : Int} {d : Int → Int} (hd : ∀ x, 0 ≤ d x) : ∀ (L : List Int) (S : Int → Bool), Cg lt stay free S L (L.map d) = free ^ (L.filter S).length * Wl lt stay free d (L.filter fun y => !S y)
  | [], S => by simp [Cg, Wl]
  | x :: L, S => by
    rw [List.map_cons, Cg]
    have i1 := Cg_Wl hd L S (stay := stay) (free := free) (lt := lt)
    have i2 := Cg_Wl hd L (fun y => S y || lt x y) (stay := stay) (free := free) (lt := lt)
    cases h : S x with
    | true =>
      rw [if_pos rfl, List.filter_cons_of_pos h, List.filter_cons_of_neg (by rw [h]; decide), List.length_cons, i1, Int.pow_succ]
      grind
    | false =>
      rw [if_neg Bool.false_ne_true, List.filter_cons_of_neg (by rw [h]; decide), List.filter_cons_of_pos (by rw [h]; rfl), i1, i2, Wl, filter_or, cov_or]
      by_cases hp : 0 < d x
      · rw [if_pos hp, Int.pow_add]
        grind
      · have : d x = 0 := by have := hd x; omega
        rw [if_neg hp, this]
        grind
/-! ### words -/
def words (vals : List Int) : Nat → List (List Int)
  | 0 => [[]]
  | k + 1 => vals.flatMap fun v => (words vals k).map fun r => v :: r
/-- reached, along the order list: cl says whether a value stays, drops, or rises -/
def okW (lt : Int → Int → Bool) (cl : Int → Int → Ordering) (S : Int → Bool) : List Int → List Int → List Int → Bool
  | x :: L, a :: as, v :: r => if S x = true then okW lt cl S L as r else match cl a v with
    | .eq => okW lt cl S L as r
    | .lt => okW lt cl (fun y => S y || lt x y) L as r
    | .gt => false
  | _, _, _ => true
theorem countP_flatMap {α β : Type} (p : β → Bool) (f : α → List β) (xs : List α) : (xs.flatMap f).countP p = (xs.map fun x => (f x).countP p).sum := by
  induction xs with
  | nil => rfl
  | cons x xs ih => rw [List.flatMap_cons, List.countP_append, ih, List.map_cons, List.sum_cons]
theorem sum_const {α : Type} (xs : List α) (c : Nat) : (xs.map fun _ => c).sum = xs.length * c := by
  induction xs with
  | nil => simp
  | cons x xs ih => rw [List.map_cons, List.sum_cons, ih, List.length_cons]; grind
theorem sum_cls (vals : List Int) (cl : Int → Ordering) (A B : Nat) : (vals.map fun v => match cl v with | .eq => A | .lt => B | .gt => 0).sum = (vals.countP fun v => cl v == .eq) * A + (vals.countP fun v => cl v == .lt) * B := by
  induction vals with
  | nil => simp
  | cons v vals ih =>
    rw [List.map_cons, List.sum_cons, ih, List.countP_cons, List.countP_cons]
    cases cl v <;> simp <;> grind
theorem count_words {lt : Int → Int → Bool} {cl : Int → Int → Ordering} {vals : List Int} {stay : Nat} {d : Int → Nat} (hs : ∀ a, a ∈ vals → (vals.countP fun v => cl a v == .eq) = stay) (hd : ∀ a, a ∈ vals → (vals.countP fun v => cl a v == .lt) = d a) :
    ∀ (L as : List Int) (S : Int → Bool), as.length = L.length → (∀ a ∈ as, a ∈ vals) → (((words vals L.length).countP fun r => okW lt cl S L as r : Nat) : Int) = Cg lt stay vals.length S L (as.map fun a => (d a : Int))
  | [], [], S, _, _ => by simp [words, okW, Cg]
  | [], _ :: _, _, h, _ => by simp at h
  | _ :: _, [], _, h, _ => by simp at h
  | x :: L, a :: as, S, h, hv => by
    have i1 := count_words hs hd L as S (by simpa using h) (fun b m => hv b (List.mem_cons_of_mem _ m)) (lt := lt)
    have i2 := count_words hs hd L as (fun y => S y || lt x y) (by simpa using h) (fun b m => hv b (List.mem_cons_of_mem _ m)) (lt := lt)
    rw [List.length_cons, words, countP_flatMap, List.map_cons, Cg, ← i1, ← i2]
    have e : ∀ v, ((words vals L.length).map fun r => v :: r).countP (fun r => okW lt cl S (x :: L) (a :: as) r) = if S x = true then (words vals L.length).countP fun r => okW lt cl S L as r else match cl a v with
        | .eq => (words vals L.length).countP fun r => okW lt cl S L as r
        | .lt => (words vals L.length).countP fun r => okW lt cl (fun y => S y || lt x y) L as r
        | .gt => 0 := fun v => by
      rw [List.countP_map]
      by_cases hS : S x = true
      · rw [if_pos hS]
        refine List.countP_congr fun r _ => ?_
        show (okW lt cl S (x :: L) (a :: as) (v :: r) = true) ↔ _
        rw [okW, if_pos hS]
      · rw [if_neg hS]
        have : ((fun r => okW lt cl S (x :: L) (a :: as) r) ∘ fun r => v :: r) = fun r => match cl a v with
            | .eq => okW lt cl S L as r
            | .lt => okW lt cl (fun y => S y || lt x y) L as r
            | .gt => false := funext fun r => by
          show okW lt cl S (x :: L) (a :: as) (v :: r) = _
          rw [okW, if_neg hS]
        rw [this]
        cases cl a v <;> simp
    by_cases hS : S x = true
    · rw [if_pos hS]
      simp only [e, if_pos hS]
      rw [sum_const]
      simp
    · rw [if_neg hS]
      simp only [e, if_neg hS]
      rw [sum_cls, hs a (hv a (List.mem_cons_self ..)), hd a (hv a (List.mem_cons_self ..))]
      simp
end HF

set_option Elab.async false
set_option linter.all false
set_option maxRecDepth 100000
set_option maxHeartbeats 1000000
/-! MathM: all states; the obstacle. -/
namespace HF
open PySem PySem.Spec L2
open PyProof.Rows hiding St
def valsD (q : Nat) : List Int := (rangeL 0 q).map fun k => (q : Int) - 1 - k
theorem valsD_len {q : Nat} : (valsD q).length = q := by simp [valsD, length_rangeL]
theorem mem_valsD {q : Nat} {v : Int} : v ∈ valsD q ↔ 0 ≤ v ∧ v < q := by
  unfold valsD
  rw [List.mem_map]
  constructor
  · rintro ⟨k, hk, rfl⟩
    have := mem_rangeL.mp hk
    omega
  · intro h
    exact ⟨q - 1 - v, mem_rangeL.mpr (by omega), by omega⟩
theorem valsD_nodup {q : Nat} : (valsD q).Nodup := by
  unfold valsD
  rw [List.nodup_iff_pairwise_ne, List.pairwise_map]
  exact (nodup_rangeL (n := q)).imp fun h e => h (by omega)
theorem words_len {vals : List Int} : ∀ {k : Nat} {r : List Int}, r ∈ words vals k → r.length = k ∧ ∀ v ∈ r, v ∈ vals
  | 0, r, h => by
    have : r = [] := by simpa [words] using h
    subst this
    exact ⟨rfl, fun v m => by cases m⟩
  | k + 1, r, h => by
    rw [words, List.mem_flatMap] at h
    obtain ⟨v, hv, h⟩ := h
    obtain ⟨r', hr, rfl⟩ := List.mem_map.mp h
    obtain ⟨h1, h2⟩ := words_len hr
    refine ⟨by simp [h1], fun x hx => ?_⟩
    rcases List.mem_cons.mp hx with rfl | hx
    · exact hv
    · exact h2 x hx
theorem words_card {vals : List Int} : ∀ k : Nat, (words vals k).length = vals.length ^ k
  | 0 => rfl
  | k + 1 => by
    rw [words, List.length_flatMap]
    simp only [List.length_map]
    rw [sum_const, words_card k, Nat.pow_succ, Nat.mul_comm]
theorem words_snoc {vals : List Int} : ∀ k : Nat, words vals (k + 1) = (words vals k).flatMap fun r => vals.map fun v => r ++ [v]
  | 0 => by
    show vals.flatMap (fun v => [[v]]) = [[]].flatMap fun r => vals.map fun v => r ++ [v]
    rw [← List.map_eq_flatMap]
    simp
  | k + 1 => by
    have e1 : words vals (k + 1 + 1) = vals.flatMap fun v => (words vals (k + 1)).map fun r => v :: r := rfl
    have e2 : words vals (k + 1) = vals.flatMap fun v => (words vals k).map fun r => v :: r := rfl
    rw [e1]
    conv => lhs; rw [words_snoc k]
    rw [e2]
    rw [List.flatMap_assoc]
    congr 1
    funext v
    rw [List.map_flatMap, List.flatMap_map]
    congr 1
    funext r
    rw [List.map_map]
    rfl
theorem words_nodup {vals : List Int} (h : vals.Nodup) : ∀ k : Nat, (words vals k).Nodup
  | 0 => by simp [words]
  | k + 1 => by
    rw [words]
    rw [List.nodup_iff_pairwise_ne, List.pairwise_flatMap]
    refine ⟨fun v _ => ?_, ?_⟩
    · rw [List.pairwise_map]
      exact (words_nodup h k).imp fun hne e => hne (List.cons.inj e).2
    · refine h.imp fun hne x hx y hy e => ?_
      obtain ⟨r, _, rfl⟩ := List.mem_map.mp hx
      obtain ⟨r', _, rfl⟩ := List.mem_map.mp hy
      exact hne (List.cons.inj e).1
/-- the state of a word along the order list -/
def stOf (n : Nat) (ord r : List Int) : List Int := (rangeL 0 n).map fun l => r.getD (ord.idxOf l) 0
theorem stOf_ok {n q : Nat} {ord r : List Int} (ho : ord.Perm (rangeL 0 n)) (hr : r ∈ words (valsD q) n) : StOk n q (stOf n ord r) := by
  obtain ⟨h1, h2⟩ := words_len hr
  refine ⟨by simp [stOf, length_rangeL], fun x hx => ?_⟩
  obtain ⟨l, hl, rfl⟩ := List.mem_map.mp hx
  have hi : ord.idxOf l < ord.length := List.idxOf_lt_length_of_mem (ho.mem_iff.mpr hl)
  rw [ho.length_eq, length_rangeL] at hi
  rw [List.getD_eq_getElem?_getD, List.getElem?_eq_getElem (by omega), Option.getD_some]
  exact mem_valsD.mp (h2 _ (List.getElem_mem _))
theorem stOf_get {n : Nat} {ord r : List Int} {l : Int} (h0 : 0 ≤ l) (h1 : l < n) : (stOf n ord r).getD l.toNat 0 = r.getD (ord.idxOf l) 0 := by
  unfold stOf rangeL
  rw [List.getD_eq_getElem?_getD, List.getElem?_map, List.getElem?_map, List.getElem?_range (by omega)]
  simp
  rw [Int.max_eq_left h0]
theorem stOf_map {n : Nat} {ord r : List Int} (ho : ord.Perm (rangeL 0 n)) (hr : r.length = n) : ord.map (fun l => (stOf n ord r).getD l.toNat 0) = r := by
  have hnd : ord.Nodup := ho.nodup_iff.mpr nodup_rangeL
  have hl : ord.length = n := by rw [ho.length_eq, length_rangeL]
  refine List.ext_getElem (by rw [List.length_map, hl, hr]) fun i h1 h2 => ?_
  rw [List.getElem_map]
  have hi : i < ord.length := by omega
  have hm := mem_rangeL.mp (ho.mem_iff.mp (List.getElem_mem hi))
  rw [stOf_get hm.1 hm.2, hnd.idxOf_getElem _ hi, List.getD_eq_getElem?_getD, List.getElem?_eq_getElem h2, Option.getD_some]
theorem x_index_eq {xs : List Int} (hn : xs.Nodup) {i : Nat} (h : i < xs.length) : x_index xs xs[i] = some (i : Int) := by
  unfold x_index
  have : List.findIdx? (fun x => decide (x = xs[i])) xs = some i := by
    rw [List.findIdx?_eq_some_iff_getElem]
    refine ⟨h, by simp, fun j hj => ?_⟩
    simp
    intro e
    have := (List.getElem_inj hn).mp e
    omega
  rw [this]
  rfl
section
variable {n q : Nat} {P : List (Int × Int)} {w : R_world}
noncomputable def everyS (n q : Nat) (P : List (Int × Int)) : List (List Int) := (words (valsD q) n).map (stOf n (gr n (aboveL n P) n))
theorem states_eq {rk : Int → Nat} (hn : 1 ≤ n ∧ n ≤ 16) (hq : 2 ≤ q ∧ q ≤ 10) (hs : q ^ n ≤ 1000) (hP : GoodW n rk P) (hw : worldOf n q P w) : m__law_states w = some (everyS n q P) := by
  obtain ⟨w1, w2, w3, w4, w5, w6⟩ := hw
  have ordP := gr_perm (up_ok hP)
  have ordL : (gr n (aboveL n P) n).length = n := by rw [ordP.length_eq, length_rangeL]
  refine Ok.of ?_
  unfold m__law_states
  simp only [bs, w1, w2, w4]
  refine Ok.fold (fun p rows => rows = words (valsD q) p.length) rfl ?_ ?_
  · rintro p x rest rows e rfl
    have hpl : p.length < n := by
      have := congrArg List.length e
      rw [ordL] at this
      simp at this
      omega
    have hcard : (words (valsD q) p.length).length = q ^ p.length := by rw [words_card, valsD_len]
    have hcard2 : q ^ p.length * q ≤ 1000 := by
      rw [← Nat.pow_succ]
      exact Nat.le_trans (Nat.pow_le_pow_right (by omega) hpl) hs
    refine Ok.fold (fun p2 longer => longer = p2.flatMap fun r => (valsD q).map fun v => r ++ [v]) rfl ?_ ?_
    · rintro p2 r rest2 longer e2 rfl
      have hr : r ∈ words (valsD q) p.length := by rw [e2]; simp
      have hrl := (words_len hr).1
      have hp2 : p2.length < q ^ p.length := by
        have := congrArg List.length e2
        rw [hcard] at this
        simp at this
        omega
      have hbase : (p2.flatMap fun r => (valsD q).map fun v => r ++ [v]).length = p2.length * q := by
        rw [List.length_flatMap]
        simp only [List.length_map, valsD_len]
        exact sum_const _ _
      have hb2 : p2.length * q + q ≤ 1000 := by
        have : (p2.length + 1) * q ≤ q ^ p.length * q := Nat.mul_le_mul_right _ (by omega)
        rw [Nat.succ_mul] at this
        omega
      rw [x_range_nat (by omega), bs]
      refine Ok.foldN (fun k longer => longer = (p2.flatMap fun r => (valsD q).map fun v => r ++ [v]) ++ ((rangeL 0 k).map fun j => r ++ [(q : Int) - 1 - j])) (by simp [rangeL]) ?_ ?_
      · rintro k longer hk rfl
        have hln : ((p2.flatMap fun r => (valsD q).map fun v => r ++ [v]) ++ ((rangeL 0 k).map fun j => r ++ [(q : Int) - 1 - j])).length = p2.length * q + k := by
          rw [List.length_append, hbase, List.length_map, length_rangeL]
        rw [x_cat_eq (by simp; omega), bs, x_app_eq (by rw [hln]; omega), bs]
        refine Ok.pure ?_
        rw [rangeL_succ, List.map_append, List.append_assoc]
        rfl
      · rintro longer rfl
        refine Ok.pure ?_
        rw [List.flatMap_append]
        simp [valsD]
    · rintro longer rfl
      refine Ok.pure ?_
      rw [List.length_append, List.length_singleton, words_snoc]
  · rintro rows rfl
    rw [ordL, x_range_nat (by omega), bs]
    have hnd : (gr n (aboveL n P) n).Nodup := gr_nodup n
    refine Ok.bindE (x_comp_map (fun l => ((gr n (aboveL n P) n).idxOf l : Int)) (by rw [length_rangeL]; omega) fun l hl => ?_) ?_
    · have hi : (gr n (aboveL n P) n).idxOf l < (gr n (aboveL n P) n).length := List.idxOf_lt_length_of_mem (ordP.mem_iff.mpr hl)
      have := x_index_eq hnd hi
      rw [List.getElem_idxOf hi] at this
      exact this
    · refine Ok.fold (fun p st => st = p.map (stOf n (gr n (aboveL n P) n))) rfl ?_ ?_
      · rintro p r rest st e rfl
        have hr : r ∈ words (valsD q) n := by rw [e]; simp
        have hrl := (words_len hr).1
        have hpl : p.length < 1000 := by
          have := congrArg List.length e
          rw [words_card, valsD_len] at this
          simp at this
          omega
        rw [x_comp_map (fun k : Int => r.getD k.toNat 0) (by rw [List.length_map, length_rangeL]; omega) fun k hk => ?_, bs, x_app_eq (by rw [List.length_map]; omega), bs]
        · refine Ok.pure ?_
          rw [List.map_append, List.map_map]
          rfl
        · obtain ⟨l, hl, rfl⟩ := List.mem_map.mp hk
          have hi : (gr n (aboveL n P) n).idxOf l < (gr n (aboveL n P) n).length := List.idxOf_lt_length_of_mem (ordP.mem_iff.mpr hl)
          rw [x_ix_nat (by omega), Int.toNat_natCast, List.getD_eq_getElem?_getD, List.getElem?_eq_getElem (by omega)]
          rfl
      · rintro st rfl
        exact Ok.pure rfl
end
end HF

set_option Elab.async false
set_option linter.all false
set_option maxRecDepth 100000
set_option maxHeartbeats 1000000
/-! MathN: the obstacle; the numbers as counts. -/
namespace HF
open PySem PySem.Spec L2
open PyProof.Rows hiding St
def clL (a v : Int) : Ordering := if v = a then .eq else if v < a then .lt else .gt
def clU (a v : Int) : Ordering := clL v a
theorem okW_flip {lt : Int → Int → Bool} : ∀ (L as r : List Int) (S : Int → Bool), okW lt clU S L as r = okW lt clL S L r as
  | [], _, _, _ => by simp [okW]
  | _ :: _, [], r, _ => by cases r <;> simp [okW]
  | _ :: _, _ :: _, [], _ => by simp [okW]
  | x :: L, a :: as, v :: r, S => by
    rw [okW, okW, okW_flip L as r S, okW_flip L as r (fun y => S y || lt x y)]
    rfl
theorem okW_iff {lt : Int → Int → Bool} {cl : Int → Int → Ordering} {a t : Int → Int} : ∀ (L : List Int) (S : Int → Bool), Lin lt L → Down lt S → (okW lt cl S L (L.map a) (L.map t) = true ↔ ∀ l ∈ L, cl (a l) (t l) = .gt → S l = true ∨ ∃ u ∈ L, lt u l = true ∧ cl (a u) (t u) ≠ .eq)
  | [], S, _, _ => by simp [okW]
  | x :: L, S, hL, hS => by
    have i1 := okW_iff (cl := cl) (a := a) (t := t) L S hL.tail hS
    have i2 := okW_iff (cl := cl) (a := a) (t := t) L (fun y => S y || lt x y) hL.tail (hS.ext hL.tr)
    have hx := List.pairwise_cons.mp hL.later
    rw [List.map_cons, List.map_cons, okW]
    by_cases hSx : S x = true
    · rw [if_pos hSx, i1]
      constructor
      · intro h l hl hg
        rcases List.mem_cons.mp hl with rfl | hl
        · exact .inl hSx
        · rcases h l hl hg with q | ⟨u, q1, q2⟩
          · exact .inl q
          · exact .inr ⟨u, List.mem_cons_of_mem _ q1, q2⟩
      · intro h l hl hg
        rcases h l (List.mem_cons_of_mem _ hl) hg with q | ⟨u, q1, q2, q3⟩
        · exact .inl q
        · rcases List.mem_cons.mp q1 with rfl | q1
          · exact .inl (hS _ _ hSx q2)
          · exact .inr ⟨u, q1, q2, q3⟩
    · rw [if_neg hSx]
      cases hc : cl (a x) (t x) with
      | eq =>
        show okW lt cl S L (L.map a) (L.map t) = true ↔ _
        rw [i1]
        constructor
        · intro h l hl hg
          rcases List.mem_cons.mp hl with rfl | hl
          · rw [hc] at hg
            cases hg
          · rcases h l hl hg with q | ⟨u, q1, q2⟩
            · exact .inl q
            · exact .inr ⟨u, List.mem_cons_of_mem _ q1, q2⟩
        · intro h l hl hg
          rcases h l (List.mem_cons_of_mem _ hl) hg with q | ⟨u, q1, q2, q3⟩
          · exact .inl q
          · rcases List.mem_cons.mp q1 with rfl | q1
            · exact absurd hc q3
            · exact .inr ⟨u, q1, q2, q3⟩
      | lt =>
        show okW lt cl (fun y => S y || lt x y) L (L.map a) (L.map t) = true ↔ _
        rw [i2]
        constructor
        · intro h l hl hg
          rcases List.mem_cons.mp hl with rfl | hl
          · rw [hc] at hg
            cases hg
          · rcases h l hl hg with q | ⟨u, q1, q2⟩
            · rcases Bool.or_eq_true _ _ ▸ q with q | q
              · exact .inl q
              · exact .inr ⟨x, List.mem_cons_self .., q, by rw [hc]; intro e; cases e⟩
            · exact .inr ⟨u, List.mem_cons_of_mem _ q1, q2⟩
        · intro h l hl hg
          rcases h l (List.mem_cons_of_mem _ hl) hg with q | ⟨u, q1, q2, q3⟩
          · exact .inl (by simp [q])
          · rcases List.mem_cons.mp q1 with rfl | q1
            · exact .inl (by simp [q2])
            · exact .inr ⟨u, q1, q2, q3⟩
      | gt =>
        show (false = true) ↔ _
        constructor
        · intro h
          cases h
        · intro h
          rcases h x (List.mem_cons_self ..) hc with q | ⟨u, q1, q2, _⟩
          · exact absurd q hSx
          · rcases List.mem_cons.mp q1 with rfl | q1
            · rw [hL.irr] at q2
              cases q2
            · rw [hx.1 u q1] at q2
              cases q2
section
variable {n q : Nat} {P : List (Int × Int)} {w : R_world} {rk : Int → Nat}
theorem ord_lin (hP : GoodW n rk P) : Lin (dnB P) (gr n (aboveL n P) n) := by
  have hup := up_ok hP
  refine ⟨?_, fun x => ?_, fun x y z h1 h2 => dnB_iff.mpr ((dnB_iff.mp h1).trans (dnB_iff.mp h2))⟩
  · have key : ∀ k, k ≤ n → (gr n (aboveL n P) k).Pairwise (fun x y => dnB P y x = false) ∧ ∀ x ∈ gr n (aboveL n P) k, ∀ y, Dn P y x → y ∈ gr n (aboveL n P) k := fun k => by
      induction k with
      | zero => intro _; exact ⟨List.Pairwise.nil, fun x hx => by cases hx⟩
      | succ k ih =>
        intro hk
        obtain ⟨h1, h2⟩ := ih (by omega)
        obtain ⟨x, r, e⟩ := gr_next hup (ls := gr n (aboveL n P) k) (by rw [gr_len hup k (by omega)]; omega)
        have hxm : x ∈ (rangeL 0 n).filter fun x => !decide (x ∈ gr n (aboveL n P) k) && (aboveL n P x).all fun y => decide (y ∈ gr n (aboveL n P) k) := by rw [e]; exact List.mem_cons_self ..
        obtain ⟨_, hb⟩ := List.mem_filter.mp hxm
        rw [Bool.and_eq_true, List.all_eq_true] at hb
        have hnx : x ∉ gr n (aboveL n P) k := by simpa using hb.1
        have hab : ∀ y, Dn P y x → y ∈ gr n (aboveL n P) k := fun y hy => of_decide_eq_true (hb.2 y ((mem_aboveL hP).mpr hy))
        have eg : gr n (aboveL n P) (k + 1) = gr n (aboveL n P) k ++ [x] := by
          show gr n (aboveL n P) k ++ _ = _
          rw [e]
          rfl
        rw [eg]
        refine ⟨List.pairwise_append.mpr ⟨h1, List.pairwise_singleton _ _, fun a ha b hb => ?_⟩, fun a ha y hy => ?_⟩
        · have : b = x := by simpa using hb
          subst this
          cases hd : dnB P b a with
          | false => rfl
          | true => exact absurd (h2 a ha b (dnB_iff.mp hd)) hnx
        · rcases List.mem_append.mp ha with ha | ha
          · exact List.mem_append_left _ (h2 a ha y hy)
          · have : a = x := by simpa using ha
            subst this
            exact List.mem_append_left _ (hab y hy)
    exact (key n (Nat.le_refl _)).1
  · cases hd : dnB P x x with
    | false => rfl
    | true => have := (hP.dn (fun _ m => m) (dnB_iff.mp hd)).1; omega
/-- t can be reached from s -/
noncomputable def rch (n : Nat) (P : List (Int × Int)) (s t : List Int) : Bool := okW (dnB P) clL (fun _ => false) (gr n (aboveL n P) n) ((gr n (aboveL n P) n).map fun l => s.getD l.toNat 0) ((gr n (aboveL n P) n).map fun l => t.getD l.toNat 0)
theorem rch_iff (hP : GoodW n rk P) {s t : List Int} : rch n P s t = true ↔ ∀ l, 0 ≤ l → l < (n : Int) → s.getD l.toNat 0 < t.getD l.toNat 0 → ∃ u, Dn P u l ∧ s.getD u.toNat 0 ≠ t.getD u.toNat 0 := by
  have ordP := gr_perm (up_ok hP)
  unfold rch
  rw [okW_iff (a := fun l => s.getD l.toNat 0) (t := fun l => t.getD l.toNat 0) _ _ (ord_lin hP) (fun _ _ h => by cases h)]
  have hgt : ∀ a v : Int, clL a v = .gt ↔ a < v := fun a v => by
    unfold clL
    split
    · constructor
      · intro h; cases h
      · omega
    · split
      · constructor
        · intro h; cases h
        · omega
      · simp; omega
  have heq : ∀ a v : Int, clL a v ≠ .eq ↔ a ≠ v := fun a v => by
    unfold clL
    split
    · simp; omega
    · split <;> simp <;> omega
  constructor
  · intro h l h0 h1 hlt
    rcases h l (ordP.mem_iff.mpr (mem_rangeL.mpr ⟨h0, h1⟩)) ((hgt _ _).mpr hlt) with q | ⟨u, _, q2, q3⟩
    · cases q
    · exact ⟨u, dnB_iff.mp q2, (heq _ _).mp q3⟩
  · intro h l hl hg
    have hm := mem_rangeL.mp (ordP.mem_iff.mp hl)
    obtain ⟨u, q1, q2⟩ := h l hm.1 hm.2 ((hgt _ _).mp hg)
    have hu := hP.dn (fun _ m => m) q1
    exact .inr ⟨u, ordP.mem_iff.mpr (mem_rangeL.mpr ⟨hu.2.1, hu.2.2.1⟩), dnB_iff.mpr q1, (heq _ _).mpr q2⟩
theorem st_ix {s : List Int} (hs : StOk n q s) {l : Int} (h0 : 0 ≤ l) (h1 : l < n) : x_ix s l = some (s.getD l.toNat 0) := by
  refine x_ix_get h0 ?_
  have := hs.len
  rw [List.getD_eq_getElem?_getD, List.getElem?_eq_getElem (by omega), Option.getD_some]
theorem obstacle_eq (hn : 1 ≤ n ∧ n ≤ 16) (hP : GoodW n rk P) (hw : worldOf n q P w) {s t : List Int} (hs : StOk n q s) (ht : StOk n q t) : Ok (m__law_obstacle w s t) fun o => o.isNone = rch n P s t := by
  obtain ⟨w1, w2, w3, w4, w5, w6⟩ := hw
  unfold m__law_obstacle
  simp only [bs, w1, w6]
  rw [x_range_nat (by omega), bs]
  have hal : ∀ l, (aboveL n P l).length ≤ 16 := fun l => by
    unfold aboveL
    exact Nat.le_trans (List.length_filter_le _ _) (by rw [length_rangeL]; omega)
  rw [forK_find (fun l => decide (s.getD l.toNat 0 < t.getD l.toNat 0) && (aboveL n P l).all fun u => decide (s.getD u.toNat 0 = t.getD u.toNat 0)) (fun l => some (some l)) fun l kn kb hl => ?_]
  · cases hf : (rangeL 0 n).find? fun l => decide (s.getD l.toNat 0 < t.getD l.toNat 0) && (aboveL n P l).all fun u => decide (s.getD u.toNat 0 = t.getD u.toNat 0) with
    | some l =>
      refine Ok.pure ?_
      have h1 := List.find?_some hf
      have h2 := mem_rangeL.mp (List.mem_of_find?_eq_some hf)
      rw [Bool.and_eq_true, decide_eq_true_eq, List.all_eq_true] at h1
      show false = _
      refine (Bool.eq_false_iff.mpr fun hr => ?_).symm
      obtain ⟨u, q1, q2⟩ := (rch_iff hP).mp hr l h2.1 h2.2 h1.1
      exact q2 (of_decide_eq_true (h1.2 u ((mem_aboveL hP).mpr q1)))
    | none =>
      refine Ok.pure ?_
      show true = _
      refine ((rch_iff hP).mpr fun l h0 h1 hlt => ?_).symm
      have := List.find?_eq_none.mp hf l (mem_rangeL.mpr ⟨h0, h1⟩)
      rw [Bool.and_eq_true, not_and, decide_eq_true_eq] at this
      have hna := this hlt
      rw [List.all_eq_true] at hna
      simp only [Classical.not_forall] at hna
      obtain ⟨u, hu, hne⟩ := hna
      exact ⟨u, (mem_aboveL hP).mp hu, fun e => hne (decide_eq_true e)⟩
  · have hm := mem_rangeL.mp hl
    rw [st_ix ht hm.1 hm.2, bs, st_ix hs hm.1 hm.2, bs, bs]
    by_cases hlt : s.getD l.toNat 0 < t.getD l.toNat 0
    · rw [decide_eq_true hlt, if_pos rfl, map_range_ix hm.1 hm.2, bs]
      have hab : ∀ u ∈ aboveL n P l, 0 ≤ u ∧ u < (n : Int) := fun u hu => mem_rangeL.mp (List.mem_filter.mp hu).1
      rw [x_comp_map (fun u : Int => s.getD u.toNat 0) (by have := hal l; omega) (fun u hu => st_ix hs (hab u hu).1 (hab u hu).2), bs,
        x_comp_map (fun u : Int => t.getD u.toNat 0) (by have := hal l; omega) (fun u hu => st_ix ht (hab u hu).1 (hab u hu).2), bs, bs]
      have e : (decide ((aboveL n P l).map (fun u : Int => s.getD u.toNat 0) = (aboveL n P l).map (fun u : Int => t.getD u.toNat 0))) = ((aboveL n P l).all fun u => decide (s.getD u.toNat 0 = t.getD u.toNat 0)) := by
        rw [Bool.eq_iff_iff, decide_eq_true_eq, List.all_eq_true, List.map_inj_left]
        exact ⟨fun h u hu => decide_eq_true (h u hu), fun h u hu => of_decide_eq_true (h u hu)⟩
      rw [e]
      simp
    · rw [decide_eq_false hlt, if_neg Bool.false_ne_true]
      simp
end
end HF

set_option Elab.async false
set_option linter.all false
set_option maxRecDepth 100000
set_option maxHeartbeats 1000000
/-! MathO: the numbers are counts of states. -/
namespace HF
open PySem PySem.Spec L2
open PyProof.Rows hiding St
theorem valsD_succ (q : Nat) : valsD (q + 1) = (q : Int) :: valsD q := by
  unfold valsD rangeL
  rw [List.range_succ_eq_map]
  simp only [List.map_cons, List.map_map]
  congr 1
  · simp
  · refine List.map_congr_left fun k _ => ?_
    simp
    omega
theorem cnt_lt (a : Nat) : ∀ q : Nat, (valsD q).countP (fun v => decide (v < (a : Int))) = min a q
  | 0 => by simp [valsD, rangeL]
  | q + 1 => by
    rw [valsD_succ, List.countP_cons, cnt_lt a q]
    by_cases h : q < a
    · simp [h]
      omega
    · simp [h]
      omega
theorem cnt_eq (a : Nat) : ∀ q : Nat, (valsD q).countP (fun v => decide (v = (a : Int))) = if a < q then 1 else 0
  | 0 => by simp [valsD, rangeL]
  | q + 1 => by
    rw [valsD_succ, List.countP_cons, cnt_eq a q]
    by_cases h : q = a
    · subst h
      simp
    · have h' : ¬ (q : Int) = (a : Int) := by omega
      by_cases h2 : a < q
      · have : a < q + 1 := by omega
        simp [h', h2, this]
      · have : ¬ a < q + 1 := by omega
        simp [h', h2, this]
theorem cnt_gt (a : Nat) : ∀ q : Nat, (valsD q).countP (fun v => decide ((a : Int) < v)) = q - (a + 1)
  | 0 => by simp [valsD, rangeL]
  | q + 1 => by
    rw [valsD_succ, List.countP_cons, cnt_gt a q]
    by_cases h : a < q
    · simp [h]
      omega
    · simp [h]
      omega
theorem clL_lt (a v : Int) : (clL a v == .lt) = decide (v < a) := by
  unfold clL
  split
  · subst_vars; simp
  · split <;> simp [*]
theorem clL_eq (a v : Int) : (clL a v == .eq) = decide (v = a) := by
  unfold clL
  split
  · simp [*]
  · split <;> simp [*]
theorem clU_lt (a v : Int) : (clU a v == .lt) = decide (a < v) := clL_lt v a
theorem clU_eq (a v : Int) : (clU a v == .eq) = decide (v = a) := by
  rw [show (clU a v == .eq) = decide (a = v) from clL_eq v a]
  exact decide_eq_decide.mpr ⟨Eq.symm, Eq.symm⟩
section
variable {n q : Nat} {P : List (Int × Int)} {rk : Int → Nat}
/-- the hues along the order list -/
noncomputable abbrev along (n : Nat) (P : List (Int × Int)) (s : List Int) : List Int := (gr n (aboveL n P) n).map fun l => s.getD l.toNat 0
theorem along_st (hP : GoodW n rk P) {r : List Int} (hr : r ∈ words (valsD q) n) : along n P (stOf n (gr n (aboveL n P) n) r) = r := stOf_map (gr_perm (up_ok hP)) (words_len hr).1
theorem getD_ok {s : List Int} (hs : StOk n q s) {l : Int} (h0 : 0 ≤ l) (h1 : l < n) : 0 ≤ s.getD l.toNat 0 ∧ s.getD l.toNat 0 < (q : Int) := by
  have := hs.len
  rw [List.getD_eq_getElem?_getD, List.getElem?_eq_getElem (by omega), Option.getD_some]
  exact hs.hue _ (List.getElem_mem _)
theorem getD_nn {s : List Int} (hs : StOk n q s) (l : Int) : 0 ≤ s.getD l.toNat 0 := by
  rw [List.getD_eq_getElem?_getD]
  cases e : s[l.toNat]? with
  | none => simp
  | some v => exact (hs.hue v (List.mem_of_getElem? e)).1
theorem along_mem {s : List Int} (hs : StOk n q s) : ∀ a ∈ along n P s, a ∈ valsD q := fun a ha => by
  obtain ⟨l, hl, rfl⟩ := List.mem_map.mp ha
  have := gr_mem n l hl
  exact mem_valsD.mpr (getD_ok hs this.1 this.2)
theorem Wo_Cg {stay free : Int} {s : List Int} (hs : ∀ l : Int, 0 ≤ s.getD l.toNat 0) : Wo n P stay free s = Cg (dnB P) stay free (fun _ => false) (gr n (aboveL n P) n) (along n P s) := by
  have := Cg_Wl (lt := dnB P) (stay := stay) (free := free) (d := fun l => s.getD l.toNat 0) hs (gr n (aboveL n P) n) (fun _ => false)
  rw [show along n P s = (gr n (aboveL n P) n).map (fun l => s.getD l.toNat 0) from rfl, this]
  rw [List.filter_eq_self.mpr (show ∀ a ∈ gr n (aboveL n P) n, (!false) = true from fun _ _ => rfl), List.filter_eq_nil_iff.mpr (show ∀ a ∈ gr n (aboveL n P) n, ¬ false = true from fun _ _ => Bool.false_ne_true)]
  simp only [List.length_nil, Int.pow_zero, Int.one_mul]
theorem gr_length (hP : GoodW n rk P) : (gr n (aboveL n P) n).length = n := gr_len (up_ok hP) n (Nat.le_refl _)
theorem lower_cnt (hP : GoodW n rk P) {s : List Int} (hs : StOk n q s) : Wo n P 1 q s = (((everyS n q P).countP fun t => rch n P s t : Nat) : Int) := by
  have hv : ∀ a ∈ along n P s, a ∈ valsD q := along_mem hs
  rw [Wo_Cg (getD_nn hs)]
  have hc := count_words (lt := dnB P) (cl := clL) (vals := valsD q) (stay := 1) (d := Int.toNat) (fun a ha => by
    obtain ⟨h0, h1⟩ := mem_valsD.mp ha
    obtain ⟨k, rfl⟩ := Int.eq_ofNat_of_zero_le h0
    simp only [clL_eq]
    rw [cnt_eq, if_pos (by omega)]) (fun a ha => by
    obtain ⟨h0, h1⟩ := mem_valsD.mp ha
    obtain ⟨k, rfl⟩ := Int.eq_ofNat_of_zero_le h0
    simp only [clL_lt]
    rw [cnt_lt]
    simp
    omega) (gr n (aboveL n P) n) (along n P s) (fun _ => false) (by simp [along]) hv
  rw [gr_length hP, valsD_len] at hc
  have e1 : (along n P s).map (fun a => ((Int.toNat a : Nat) : Int)) = along n P s := by
    conv => rhs; rw [← List.map_id (along n P s)]
    refine List.map_congr_left fun a ha => ?_
    have := (mem_valsD.mp (hv a ha)).1
    simp
    omega
  rw [e1] at hc
  show Cg (dnB P) ((1 : Nat) : Int) q _ _ _ = _
  rw [← hc]
  unfold everyS
  rw [List.countP_map]
  congr 1
  refine List.countP_congr fun r hr => ?_
  show _ ↔ rch n P s _ = true
  unfold rch
  rw [show (gr n (aboveL n P) n).map (fun l => (stOf n (gr n (aboveL n P) n) r).getD l.toNat 0) = r from along_st hP hr]
theorem mirS_along (hP : GoodW n rk P) {s : List Int} (hs : StOk n q s) : along n P (mirS q s) = (along n P s).map fun a => (q : Int) - 1 - a := by
  unfold along
  rw [List.map_map]
  refine List.map_congr_left fun l hl => ?_
  have hm := gr_mem n l hl
  have := hs.len
  have hb : l.toNat < s.length := by omega
  show (mirS q s).getD l.toNat 0 = (q : Int) - 1 - s.getD l.toNat 0
  unfold mirS
  rw [List.getD_eq_getElem?_getD, List.getElem?_map, List.getD_eq_getElem?_getD, List.getElem?_eq_getElem hb]
  rfl
theorem upper_cnt (hP : GoodW n rk P) {s : List Int} (hs : StOk n q s) : Wo n P 1 q (mirS q s) = (((everyS n q P).countP fun t => rch n P t s : Nat) : Int) := by
  have hv : ∀ a ∈ along n P s, a ∈ valsD q := along_mem hs
  rw [Wo_Cg (getD_nn (mirS_ok hs)), mirS_along hP hs]
  have hc := count_words (lt := dnB P) (cl := clU) (vals := valsD q) (stay := 1) (d := fun a => q - (a.toNat + 1)) (fun a ha => by
    obtain ⟨h0, h1⟩ := mem_valsD.mp ha
    obtain ⟨k, rfl⟩ := Int.eq_ofNat_of_zero_le h0
    simp only [clU_eq]
    rw [cnt_eq, if_pos (by omega)]) (fun a ha => by
    obtain ⟨h0, h1⟩ := mem_valsD.mp ha
    obtain ⟨k, rfl⟩ := Int.eq_ofNat_of_zero_le h0
    simp only [clU_lt]
    rw [cnt_gt]
    simp) (gr n (aboveL n P) n) (along n P s) (fun _ => false) (by simp [along]) hv
  rw [gr_length hP, valsD_len] at hc
  have e1 : (along n P s).map (fun a => ((q - (Int.toNat a + 1) : Nat) : Int)) = (along n P s).map fun a => (q : Int) - 1 - a := by
    refine List.map_congr_left fun a ha => ?_
    have := mem_valsD.mp (hv a ha)
    omega
  rw [e1] at hc
  show Cg (dnB P) ((1 : Nat) : Int) q _ _ _ = _
  rw [← hc]
  unfold everyS
  rw [List.countP_map]
  congr 1
  refine List.countP_congr fun r hr => ?_
  rw [okW_flip]
  show _ ↔ rch n P _ s = true
  unfold rch
  rw [show (gr n (aboveL n P) n).map (fun l => (stOf n (gr n (aboveL n P) n) r).getD l.toNat 0) = r from along_st hP hr]
/-! ### the pairs -/
theorem sumI_flatMap {α β : Type} (g : β → Int) (f : α → List β) (xs : List α) : ((xs.flatMap f).map g).sum = (xs.map fun x => ((f x).map g).sum).sum := by
  induction xs with
  | nil => rfl
  | cons x xs ih => rw [List.flatMap_cons, List.map_append, List.sum_append, ih, List.map_cons, List.sum_cons]
theorem sumI_mul {α : Type} (c : Int) (g : α → Int) (xs : List α) : (xs.map fun x => c * g x).sum = c * (xs.map g).sum := by
  induction xs with
  | nil => simp
  | cons x xs ih => rw [List.map_cons, List.sum_cons, ih, List.map_cons, List.sum_cons]; grind
theorem sumI_add {α : Type} (f g : α → Int) (xs : List α) : (xs.map fun x => f x + g x).sum = (xs.map f).sum + (xs.map g).sum := by
  induction xs with
  | nil => simp
  | cons x xs ih => rw [List.map_cons, List.sum_cons, ih, List.map_cons, List.sum_cons, List.map_cons, List.sum_cons]; omega
theorem sumI_const {α : Type} (c : Int) (xs : List α) : (xs.map fun _ => c).sum = xs.length * c := by
  induction xs with
  | nil => simp
  | cons x xs ih => rw [List.map_cons, List.sum_cons, ih, List.length_cons]; grind
theorem cg_sum {lt : Int → Int → Bool} {vals : List Int} {free : Int} : ∀ (L : List Int) (S : Int → Bool), ((words vals L.length).map fun r => Cg lt 1 free S L r).sum = Cg lt vals.length (vals.length * free) S L (List.replicate L.length vals.sum)
  | [], S => by simp [words, Cg]
  | x :: L, S => by
    have i1 := cg_sum L S (lt := lt) (vals := vals) (free := free)
    have i2 := cg_sum L (fun y => S y || lt x y) (lt := lt) (vals := vals) (free := free)
    rw [List.length_cons, words, sumI_flatMap, List.replicate_succ, Cg]
    simp only [List.map_map, Function.comp_def]
    simp only [Cg]
    by_cases h : S x = true
    · simp only [if_pos h]
      simp only [sumI_mul]
      rw [sumI_const, i1]
      grind
    · simp only [if_neg h]
      simp only [sumI_add, sumI_mul]
      rw [sumI_const, i1, i2]
      have : ∀ c : Int, (vals.map fun v => v * c).sum = vals.sum * c := fun c => by
        induction vals with
        | nil => simp
        | cons v vs ih => rw [List.map_cons, List.sum_cons, List.sum_cons]; rw [show (vs.map fun v => v * c).sum = vs.sum * c from by
            clear ih i1 i2
            induction vs with
            | nil => simp
            | cons w ws ih => rw [List.map_cons, List.sum_cons, List.sum_cons, ih]; grind]; grind
      rw [this]
      grind
theorem sum_valsD : ∀ q : Nat, 2 * (valsD q).sum = (q : Int) * (q - 1)
  | 0 => by simp [valsD, rangeL]
  | q + 1 => by
    rw [valsD_succ, List.sum_cons]
    have := sum_valsD q
    grind
theorem pairs_cnt (hP : GoodW n rk P) : ((everyS n q P).map fun s => Wo n P 1 q s).sum = Wo n P q (q * q) (List.replicate n ((q : Int) * (q - 1) / 2)) := by
  have hs2 : (q : Int) * (q - 1) / 2 = (valsD q).sum := by
    have := sum_valsD q
    omega
  have hnn : 0 ≤ (valsD q).sum := by
    have : ∀ l : List Int, (∀ v ∈ l, 0 ≤ v) → 0 ≤ l.sum := fun l => by
      induction l with
      | nil => simp
      | cons v l ih =>
        intro h
        rw [List.sum_cons]
        have h1 := h v (List.mem_cons_self ..)
        have h2 := ih fun w hw => h w (List.mem_cons_of_mem _ hw)
        omega
    exact this _ fun v hv => (mem_valsD.mp hv).1
  have hc := cg_sum (lt := dnB P) (vals := valsD q) (free := (q : Int)) (gr n (aboveL n P) n) (fun _ => false)
  rw [gr_length hP, valsD_len] at hc
  rw [hs2, Wo_Cg (s := List.replicate n (valsD q).sum) (fun l => by
    rw [List.getD_eq_getElem?_getD, List.getElem?_replicate]
    split
    · exact hnn
    · simp)]
  have e1 : along n P (List.replicate n (valsD q).sum) = List.replicate n (valsD q).sum := by
    refine List.eq_replicate_iff.mpr ⟨by simp [along, gr_length hP], fun a ha => ?_⟩
    obtain ⟨l, hl, rfl⟩ := List.mem_map.mp ha
    have := gr_mem n l hl
    rw [List.getD_eq_getElem?_getD, List.getElem?_replicate, if_pos (by omega)]
    rfl
  rw [e1, ← hc]
  unfold everyS
  rw [List.map_map]
  congr 1
  refine List.map_congr_left fun r hr => ?_
  show Wo n P 1 q (stOf n _ r) = _
  rw [Wo_Cg (getD_nn (stOf_ok (gr_perm (up_ok hP)) hr)), along_st hP hr]
end
end HF

set_option Elab.async false
set_option linter.all false
set_option maxRecDepth 100000
set_option maxHeartbeats 1000000
/-! MathP: the small houses. -/
namespace HF
open PySem PySem.Spec L2
open PyProof.Rows hiding St
/-- a dict over states -/
def Dct (E : List (List Int)) (f : List Int → Int) (d : List (List Int × Int)) : Prop := d.map (·.1) = E ∧ ∀ s ∈ E, lookA d s = some (f s)
theorem Dct.look {E : List (List Int)} {f : List Int → Int} {d : List (List Int × Int)} (h : Dct E f d) {s : List Int} (hs : s ∈ E) : lookA d s = some (f s) := h.2 s hs
theorem Dct.putN {E : List (List Int)} {f : List Int → Int} {d : List (List Int × Int)} (h : Dct E f d) {s : List Int} {y : Int} (hs : s ∉ E) (hl : E.length ≤ 1000) (f' : List Int → Int) (h1 : f' s = y) (h2 : ∀ t ∈ E, f' t = f t) : ∃ d', x_putA d s y = some d' ∧ Dct (E ++ [s]) f' d' := by
  obtain ⟨h3, h4⟩ := h
  have hdl : d.length = E.length := by rw [← h3, List.length_map]
  refine ⟨putA d s y, ?_, ?_, fun t ht => ?_⟩
  · unfold x_putA
    rw [if_pos (show d.length < sizeLine from by show d.length < 16777216; omega)]
  · rw [putA_keys, h3, if_neg hs]
  · rw [lookA_putA]
    rcases List.mem_append.mp ht with ht | ht
    · have : t ≠ s := fun e => hs (by rw [← e]; exact ht)
      rw [if_neg this, h4 t ht, h2 t ht]
    · have : t = s := by simpa using ht
      rw [if_pos this, this, h1]
theorem Dct.putO {E : List (List Int)} {f : List Int → Int} {d : List (List Int × Int)} (h : Dct E f d) {s : List Int} {y : Int} (hs : s ∈ E) (hl : E.length ≤ 1000) (f' : List Int → Int) (h1 : f' s = y) (h2 : ∀ t ∈ E, t ≠ s → f' t = f t) : ∃ d', x_putA d s y = some d' ∧ Dct E f' d' := by
  obtain ⟨h3, h4⟩ := h
  have hdl : d.length = E.length := by rw [← h3, List.length_map]
  refine ⟨putA d s y, ?_, ?_, fun t ht => ?_⟩
  · unfold x_putA
    rw [if_pos (show d.length < sizeLine from by show d.length < 16777216; omega)]
  · rw [putA_keys, h3, if_pos hs]
  · rw [lookA_putA]
    by_cases e : t = s
    · rw [if_pos e, e, h1]
    · rw [if_neg e, h4 t ht, h2 t ht e]
theorem is_count_eq (a b : Int) : m__law_is_count a b = some (decide (a = b)) := by
  unfold m__law_is_count m__law_is_integer
  simp only [bs, andM]
  rfl
theorem sumN_comm {α : Type} (R : α → α → Bool) (xs : List α) : ∀ ys : List α, (xs.map fun s => ((ys.countP (R s) : Nat) : Int)).sum = (ys.map fun t => ((xs.countP fun s => R s t : Nat) : Int)).sum
  | [] => by
    have : ∀ l : List α, (l.map fun _ => (0 : Int)).sum = 0 := fun l => by
      induction l with
      | nil => rfl
      | cons _ _ ih => rw [List.map_cons, List.sum_cons, ih]; rfl
    simpa using this xs
  | y :: ys => by
    rw [List.map_cons, List.sum_cons, ← sumN_comm R xs ys]
    clear sumN_comm
    induction xs with
    | nil => simp
    | cons x xs ih =>
      rw [List.map_cons, List.sum_cons, List.map_cons, List.sum_cons, ih, List.countP_cons, List.countP_cons]
      cases R x y <;> simp <;> omega
section
variable {n q : Nat} {P : List (Int × Int)} {w : R_world} {h : HouseD} {rk : Int → Nat}
theorem everyS_ok (hP : GoodW n rk P) : ∀ s ∈ everyS n q P, StOk n q s := fun s hs => by
  obtain ⟨r, hr, rfl⟩ := List.mem_map.mp hs
  exact stOf_ok (gr_perm (up_ok hP)) hr
theorem everyS_nodup (hP : GoodW n rk P) : (everyS n q P).Nodup := by
  unfold everyS
  rw [List.nodup_iff_pairwise_ne, List.pairwise_map]
  refine (words_nodup valsD_nodup n).imp_of_mem fun {a b} ha hb hne e => hne ?_
  rw [← along_st hP ha, ← along_st hP hb, e]
theorem everyS_len : (everyS n q P).length = q ^ n := by
  unfold everyS
  rw [List.length_map, words_card, valsD_len]
theorem small_ok (hn : 1 ≤ n ∧ n ≤ 16) (hq : 2 ≤ q ∧ q ≤ 10) (hsz : q ^ n ≤ 1000) (hP : GoodW n rk P) (hw : worldOf n q P w) (hh : HouseOk n q P h) : m__law_small w h = some true := by
  have eE := states_eq hn hq hsz hP hw
  have En : (everyS n q P).Nodup := everyS_nodup hP
  have El : (everyS n q P).length ≤ 1000 := by rw [everyS_len]; exact hsz
  have Es : ∀ s ∈ everyS n q P, StOk n q s := everyS_ok hP
  refine Ok.of ?_
  unfold m__law_small
  simp only [bs]
  rw [eE, bs]
  have hpc := pairs_cnt (q := q) hP
  have hlc : ∀ s ∈ everyS n q P, Wo n P 1 q s = (((everyS n q P).countP fun t => rch n P s t : Nat) : Int) := fun s hs => lower_cnt hP (Es s hs)
  have huc : ∀ s ∈ everyS n q P, Wo n P 1 q (mirS q s) = (((everyS n q P).countP fun t => rch n P t s : Nat) : Int) := fun s hs => upper_cnt hP (Es s hs)
  generalize hE : everyS n q P = E at *
  have Ei : ∀ {p : List (List Int)} {s r}, E = p ++ s :: r → s ∉ p ∧ s ∈ E ∧ p.length ≤ 1000 := fun {p s r} e => by
    rw [e] at En El
    refine ⟨fun hm => (List.nodup_append.mp En).2.2 s hm s (List.mem_cons_self ..) rfl, by rw [e]; simp, ?_⟩
    simp at El
    omega
  refine Ok.fold (fun p (b : List (List Int × Int) × List (List Int × Int)) => Dct p (fun _ => 0) b.1 ∧ Dct p (fun _ => 0) b.2) ⟨⟨rfl, fun s m => (by cases m)⟩, ⟨rfl, fun s m => (by cases m)⟩⟩ ?_ ?_
  · rintro p s r ⟨d1, d2⟩ e ⟨h1, h2⟩
    obtain ⟨i1, i2, i3⟩ := Ei e
    dsimp only at h1 h2 ⊢
    obtain ⟨d1', e1, h1'⟩ := h1.putN (y := 0) i1 i3 (fun _ => 0) rfl fun _ _ => rfl
    obtain ⟨d2', e2, h2'⟩ := h2.putN (y := 0) i1 i3 (fun _ => 0) rfl fun _ _ => rfl
    rw [e1, bs, e2, bs]
    exact Ok.pure ⟨h1', h2'⟩
  · rintro ⟨d1, d2⟩ ⟨h1, h2⟩
    dsimp only at h1 h2 ⊢
    refine Ok.fold (fun p (b : List (List Int × Int) × List (List Int × Int)) => Dct E (fun s => if s ∈ p then ((E.countP fun t => rch n P s t : Nat) : Int) else 0) b.1 ∧ Dct E (fun t => ((p.countP fun s => rch n P s t : Nat) : Int)) b.2) ⟨by simpa using h1, by simpa using h2⟩ ?_ ?_
    · rintro p y r ⟨d1, d2⟩ e ⟨h1, h2⟩
      obtain ⟨i1, i2, i3⟩ := Ei e
      dsimp only at h1 h2 ⊢
      refine Ok.fold (fun p2 (b : List (List Int × Int) × List (List Int × Int)) => Dct E (fun s => if s ∈ p then ((E.countP fun t => rch n P s t : Nat) : Int) else if s = y then ((p2.countP fun t => rch n P y t : Nat) : Int) else 0) b.1 ∧ Dct E (fun t => ((p.countP fun s => rch n P s t : Nat) : Int) + if t ∈ p2 ∧ rch n P y t = true then 1 else 0) b.2) ⟨by simpa using h1, by simpa using h2⟩ ?_ ?_
      · rintro p2 t r2 ⟨d1, d2⟩ e2 ⟨h1, h2⟩
        obtain ⟨j1, j2, j3⟩ := Ei e2
        dsimp only at h1 h2 ⊢
        obtain ⟨o, eo, ho⟩ := obstacle_eq hn hP hw (Es y i2) (Es t j2)
        rw [eo, bs, ho]
        refine Ok.ite (fun c => ?_) (fun c => ?_)
        · rw [h1.look i2, bs, if_neg i1, if_pos rfl]
          obtain ⟨d1', q1, q2⟩ := h1.putO (y := ((p2.countP fun t => rch n P y t : Nat) : Int) + 1) i2 El (fun s => if s ∈ p then ((E.countP fun t => rch n P s t : Nat) : Int) else if s = y then (((p2 ++ [t]).countP fun t => rch n P y t : Nat) : Int) else 0) (by
            rw [if_neg i1, if_pos rfl, List.countP_append]
            simp [c]) fun s _ hs => by
            rw [if_neg hs, if_neg hs]
          rw [bs, q1, bs, h2.look j2, bs, bs]
          have hno : ¬ (t ∈ p2 ∧ rch n P y t = true) := fun z => j1 z.1
          rw [if_neg hno]
          obtain ⟨d2', q3, q4⟩ := h2.putO (y := ((p.countP fun s => rch n P s t : Nat) : Int) + 0 + 1) j2 El (fun t' => ((p.countP fun s => rch n P s t' : Nat) : Int) + if t' ∈ p2 ++ [t] ∧ rch n P y t' = true then 1 else 0) (by
            rw [if_pos ⟨by simp, c⟩]
            omega) fun s _ hs => by
            simp [hs]
          rw [q3, bs]
          exact Ok.pure ⟨q2, q4⟩
        · refine Ok.pure ⟨?_, ?_⟩
          · refine ⟨h1.1, fun s hs => ?_⟩
            rw [h1.look hs, List.countP_append]
            simp [c]
          · refine ⟨h2.1, fun s hs => ?_⟩
            rw [h2.look hs]
            congr 2
            by_cases hst : s = t
            · subst hst
              simp [c]
            · simp [hst]
      · rintro ⟨d1, d2⟩ ⟨h1, h2⟩
        dsimp only at h1 h2 ⊢
        refine Ok.pure ⟨⟨h1.1, fun s hs => ?_⟩, ⟨h2.1, fun s hs => ?_⟩⟩
        · rw [h1.look hs]
          congr 1
          by_cases hy : s = y
          · subst hy
            simp [i1]
          · simp [hy]
        · rw [h2.look hs]
          show some _ = some (((p ++ [y]).countP fun s' => rch n P s' s : Nat) : Int)
          rw [List.countP_append]
          congr 1
          by_cases hc : rch n P y s = true
          · simp [hc, hs]
          · simp [hc]
    · rintro ⟨d1, d2⟩ ⟨h1, h2⟩
      dsimp only at h1 h2 ⊢
      have hk : ∀ (k : Int × Int → Option Bool), (k ((E.map fun s => Wo n P 1 q s).sum, (E.map fun s => Wo n P 1 q (mirS q s)).sum) = some true) → ∀ f : Int × Int → List Int → (Int × Int → Option Bool) → (Int × Int → Option Bool) → Option Bool, (∀ b x kn kb, x ∈ E → f b x kn kb = kn (b.1 + Wo n P 1 q x, b.2 + Wo n P 1 q (mirS q x))) → forK f k E (0, 0) = some true := fun k hk f hf => by
        rw [(forK_go (I := fun _ => True) (g := fun (b : Int × Int) x => (b.1 + Wo n P 1 q x, b.2 + Wo n P 1 q (mirS q x))) True.intro fun b x kn kb m _ => ⟨hf b x kn kb m, True.intro⟩).1]
        rw [← hk]
        congr 1
        have : ∀ (l : List (List Int)) (a b : Int), l.foldl (fun (b : Int × Int) x => (b.1 + Wo n P 1 q x, b.2 + Wo n P 1 q (mirS q x))) (a, b) = (a + (l.map fun s => Wo n P 1 q s).sum, b + (l.map fun s => Wo n P 1 q (mirS q s)).sum) := fun l => by
          induction l with
          | nil => intro a b; simp
          | cons x l ih =>
            intro a b
            rw [List.foldl_cons, ih, List.map_cons, List.sum_cons, List.map_cons, List.sum_cons]
            simp only [Int.add_assoc]
        rw [this]
        simp
      refine Ok.eq (hk _ ?_ _ fun b x kn kb hx => ?_)
      · rw [pair_eq hn hq hP hh, bs, bs, is_count_eq, ← hpc, bs]
        rw [decide_eq_true rfl]
        show some (decide _) = some true
        congr 1
        refine decide_eq_true ?_
        rw [List.map_congr_left hlc, List.map_congr_left huc]
        exact (sumN_comm (fun s t => rch n P s t) E E).symm
      · rw [lower_eq hn hq hP hh (Es x hx), bs, upper_eq hn hq hP hh (Es x hx), bs, h1.look hx, bs, h2.look hx]
        simp only [bs, is_count_eq, hlc x hx, huc x hx, if_pos hx]
        rfl
end
end HF

set_option Elab.async false
set_option linter.all false
set_option maxRecDepth 100000
set_option maxHeartbeats 1000000
/-! MathQ: sums over antichains. -/
namespace HF
open PySem PySem.Spec L2
open PyProof.Rows hiding St
/-- the law's list of antichains -/
def acS (ap : Int → List Int → Bool) (rows : List (List Int)) (x : Int) : List (List Int) := rows ++ ((rows.filter (ap x)).map fun r => r ++ [x])
def acL (ap : Int → List Int → Bool) (L : List Int) : List (List Int) := L.foldl (acS ap) [[]]
def acG (ap : Int → List Int → Bool) (wt : List Int → Int) : List Int → List Int → Int
  | row, [] => wt row
  | row, x :: L => acG ap wt row L + if ap x row = true then acG ap wt (row ++ [x]) L else 0
theorem sumI_filter {α : Type} (p : α → Bool) (g : α → Int) (xs : List α) : ((xs.filter p).map g).sum = (xs.map fun x => if p x = true then g x else 0).sum := by
  induction xs with
  | nil => rfl
  | cons x xs ih =>
    rw [List.filter_cons, List.map_cons, List.sum_cons]
    cases h : p x with
    | true => rw [if_pos rfl, if_pos rfl, List.map_cons, List.sum_cons, ih]
    | false => rw [if_neg Bool.false_ne_true, if_neg Bool.false_ne_true, ih]; omega
theorem ac_sum {ap : Int → List Int → Bool} {wt : List Int → Int} : ∀ (L : List Int) (rows : List (List Int)), ((L.foldl (acS ap) rows).map wt).sum = (rows.map fun r => acG ap wt r L).sum
  | [], rows => rfl
  | x :: L, rows => by
    rw [List.foldl_cons, ac_sum L]
    unfold acS
    rw [List.map_append, List.sum_append, List.map_map]
    have : (List.map ((fun r => acG ap wt r L) ∘ fun r => r ++ [x]) (rows.filter (ap x))).sum = (rows.map fun r => if ap x r = true then acG ap wt (r ++ [x]) L else 0).sum := sumI_filter (ap x) (fun r => acG ap wt (r ++ [x]) L) rows
    rw [this, ← sumI_add]
    rfl
def covB (lt : Int → Int → Bool) (row : List Int) (y : Int) : Bool := row.any fun x => lt x y
def apB (lt : Int → Int → Bool) (x : Int) (row : List Int) : Bool := !(row.any fun y => lt x y || lt y x)
def prodD (d : Int → Int) (row : List Int) : Int := row.foldl (fun a x => a * d x) 1
theorem prodD_snoc (d : Int → Int) (row : List Int) (x : Int) : prodD d (row ++ [x]) = prodD d row * d x := by simp [prodD]
theorem covB_snoc {lt : Int → Int → Bool} (row : List Int) (x : Int) : covB lt (row ++ [x]) = fun y => covB lt row y || lt x y := funext fun y => by simp [covB]
theorem acG_Cg {lt : Int → Int → Bool} {stay free : Int} {d : Int → Int} {lit : Int → Bool} {ord : List Int} (lin : Lin lt ord) (hlit : ∀ x, lit x = false → d x = 0) {wt : List Int → Int} (hwt : ∀ row e, (∀ y ∈ row, y ∈ ord) → e + row.length + (ord.filter (covB lt row)).length = ord.length → wt row = prodD d row * free ^ (ord.filter (covB lt row)).length * stay ^ e) :
    ∀ (L pre row : List Int) (e : Nat), pre ++ L = ord → (∀ y ∈ row, y ∈ pre) → e + row.length + (pre.filter (covB lt row)).length = pre.length → acG (apB lt) wt row (L.filter lit) = prodD d row * free ^ (pre.filter (covB lt row)).length * stay ^ e * Cg lt stay free (covB lt row) L (L.map d)
  | [], pre, row, e, h1, h2, h3 => by
    rw [List.append_nil] at h1
    subst h1
    show wt row = _
    rw [hwt row e h2 h3]
    simp [Cg]
  | x :: L, pre, row, e, h1, h2, h3 => by
    have h1' : (pre ++ [x]) ++ L = ord := by rw [← h1]; simp
    have lp := lin.later
    rw [← h1] at lp
    have hxy : ∀ y ∈ pre, lt x y = false := fun y hy => (List.pairwise_append.mp lp).2.2 y hy x (List.mem_cons_self ..)
    have s2 : ∀ y ∈ row, y ∈ pre ++ [x] := fun y hy => List.mem_append_left _ (h2 y hy)
    rw [List.map_cons, Cg, List.filter_cons]
    cases hS : covB lt row x with
    | true =>
      have hf : (pre ++ [x]).filter (covB lt row) = pre.filter (covB lt row) ++ [x] := by rw [List.filter_append]; simp [hS]
      have ih := acG_Cg lin hlit hwt L (pre ++ [x]) row e h1' s2 (by rw [hf]; simp; omega)
      rw [hf, List.length_append, List.length_singleton, Int.pow_succ] at ih
      rw [if_pos rfl]
      cases hl : lit x with
      | false =>
        rw [if_neg Bool.false_ne_true, ih]
        grind
      | true =>
        rw [if_pos rfl, acG]
        have hap : apB lt x row = false := by
          unfold apB
          unfold covB at hS
          rw [List.any_eq_true] at hS
          obtain ⟨y, hy, hyx⟩ := hS
          rw [Bool.not_eq_false', List.any_eq_true]
          exact ⟨y, hy, by simp [hyx]⟩
        rw [hap, if_neg Bool.false_ne_true, ih]
        grind
    | false =>
      have hf : (pre ++ [x]).filter (covB lt row) = pre.filter (covB lt row) := by rw [List.filter_append]; simp [hS]
      have ih := acG_Cg lin hlit hwt L (pre ++ [x]) row (e + 1) h1' s2 (by rw [hf]; simp; omega)
      rw [hf, Int.pow_succ] at ih
      rw [if_neg Bool.false_ne_true]
      cases hl : lit x with
      | false =>
        rw [if_neg Bool.false_ne_true, ih, hlit x hl]
        grind
      | true =>
        rw [if_pos rfl, acG]
        have hap : apB lt x row = true := by
          unfold apB
          rw [Bool.not_eq_true', Bool.eq_false_iff]
          intro hc
          rw [List.any_eq_true] at hc
          obtain ⟨y, hy, hyx⟩ := hc
          rw [hxy y (h2 y hy)] at hyx
          have : covB lt row x = true := by
            unfold covB
            rw [List.any_eq_true]
            exact ⟨y, hy, by simpa using hyx⟩
          rw [hS] at this
          cases this
        have hf2 : (pre ++ [x]).filter (covB lt (row ++ [x])) = pre.filter (covB lt row) := by
          rw [← hf]
          refine List.filter_congr fun y hy => ?_
          have : lt x y = false := by
            rcases List.mem_append.mp hy with hy | hy
            · exact hxy y hy
            · rw [List.mem_singleton.mp hy]
              exact lin.irr x
          rw [covB_snoc]
          show (covB lt row y || lt x y) = _
          rw [this, Bool.or_false]
        have ih2 := acG_Cg lin hlit hwt L (pre ++ [x]) (row ++ [x]) e h1' (fun y hy => by
          rcases List.mem_append.mp hy with hy | hy
          · exact s2 y hy
          · exact List.mem_append_right _ hy) (by rw [hf2]; simp; omega)
        rw [hf2, prodD_snoc, covB_snoc] at ih2
        rw [hap, if_pos rfl, ih, ih2]
        grind
/-- the sum over the antichains is the recursion -/
theorem ac_Wl {lt : Int → Int → Bool} {stay free : Int} {d : Int → Int} {lit : Int → Bool} {ord : List Int} (lin : Lin lt ord) (hd : ∀ x, 0 ≤ d x) (hlit : ∀ x, lit x = false → d x = 0) {wt : List Int → Int} (hwt : ∀ row e, (∀ y ∈ row, y ∈ ord) → e + row.length + (ord.filter (covB lt row)).length = ord.length → wt row = prodD d row * free ^ (ord.filter (covB lt row)).length * stay ^ e) :
    ((acL (apB lt) (ord.filter lit)).map wt).sum = Wl lt stay free d ord := by
  unfold acL
  rw [ac_sum]
  have h := acG_Cg lin hlit hwt ord [] [] 0 rfl (fun y hy => by cases hy) (by simp)
  have h0 : covB lt [] = fun _ => false := funext fun y => rfl
  rw [h0, Cg_Wl hd, List.filter_eq_self.mpr (show ∀ a ∈ ord, (!false) = true from fun _ _ => rfl), List.filter_eq_nil_iff.mpr (show ∀ a ∈ ord, ¬ false = true from fun _ _ => Bool.false_ne_true)] at h
  simp only [prodD, List.foldl_nil, List.filter_nil, List.length_nil, Int.pow_zero, Int.one_mul] at h
  rw [List.map_cons, List.map_nil, List.sum_cons, List.sum_nil, h]
  omega
section
variable {n q : Nat} {P : List (Int × Int)} {w : R_world} {h : HouseD} {rk : Int → Nat}
theorem len_below (l : Int) : (belowL n P l).length ≤ n := by
  unfold belowL
  exact Nat.le_trans (List.length_filter_le _ _) (by rw [length_rangeL]; omega)
theorem len_above (l : Int) : (aboveL n P l).length ≤ n := by
  unfold aboveL
  exact Nat.le_trans (List.length_filter_le _ _) (by rw [length_rangeL]; omega)
theorem apart_eq (hn : 1 ≤ n ∧ n ≤ 16) (hP : GoodW n rk P) (hw : worldOf n q P w) {x : Int} (hx : 0 ≤ x ∧ x < (n : Int)) {row : List Int} (hr : row.length ≤ 1000) : m__law_apart w x row = some (apB (dnB P) x row) := by
  obtain ⟨w1, w2, w3, w4, w5, w6⟩ := hw
  unfold m__law_apart
  simp only [bs, w5, w6]
  have l1 := len_below (n := n) (P := P) x
  have l2 := len_above (n := n) (P := P) x
  rw [map_range_ix hx.1 hx.2, bs, map_range_ix hx.1 hx.2, bs, x_cat_eq (by omega), bs]
  rw [x_comp_filter (fun y => decide (y ∈ belowL n P x ++ aboveL n P x)) (by omega) fun _ _ => rfl, bs]
  congr 1
  rw [Bool.eq_iff_iff, decide_eq_true_eq, List.filter_eq_nil_iff]
  unfold apB
  rw [Bool.not_eq_true', Bool.eq_false_iff, ne_eq, List.any_eq_true]
  have key : ∀ y, decide (y ∈ belowL n P x ++ aboveL n P x) = true ↔ (dnB P x y || dnB P y x) = true := fun y => by
    rw [decide_eq_true_eq, List.mem_append, mem_belowL hP, mem_aboveL hP, Bool.or_eq_true, dnB_iff, dnB_iff]
  constructor
  · rintro h ⟨y, hy, hc⟩
    exact h y hy ((key y).mpr hc)
  · intro h y hy hc
    exact h ⟨y, hy, (key y).mp hc⟩
theorem antichains_eq (hn : 1 ≤ n ∧ n ≤ 16) (hP : GoodW n rk P) (hw : worldOf n q P w) {L : List Int} (hL : ∀ x ∈ L, 0 ≤ x ∧ x < (n : Int)) (hl : L.length ≤ 16) : Ok (m__law_antichains w L) fun rows => rows = acL (apB (dnB P)) L ∧ ∀ r ∈ rows, r.length ≤ L.length ∧ ∀ x ∈ r, 0 ≤ x ∧ x < (n : Int) := by
  unfold m__law_antichains
  simp only [bs]
  refine Ok.fold (fun p rows => rows = p.foldl (acS (apB (dnB P))) [[]] ∧ rows.length ≤ 2 ^ p.length ∧ ∀ r ∈ rows, r.length ≤ p.length ∧ ∀ x ∈ r, 0 ≤ x ∧ x < (n : Int)) ⟨rfl, by simp, fun r hr => by
    have : r = [] := by simpa using hr
    subst this
    exact ⟨by simp, fun x hx => by cases hx⟩⟩ ?_ ?_
  · rintro p x rest rows e ⟨h1, h2, h3⟩
    have hx := hL x (by rw [e]; simp)
    have hp : p.length < 16 := by rw [e] at hl; simp at hl; omega
    have hpw : 2 ^ p.length ≤ 2 ^ 16 := Nat.pow_le_pow_right (by decide) (by omega)
    rw [x_comp_eq (apB (dnB P) x) (fun r => r ++ [x]) (by omega) (fun r hr => apart_eq hn hP hw hx (by have := (h3 r hr).1; omega)) (fun r hr _ => x_cat_eq (by have := (h3 r hr).1; simp; omega)), bs]
    have hfl : ((rows.filter (apB (dnB P) x)).map fun r => r ++ [x]).length ≤ rows.length := by
      rw [List.length_map]
      exact List.length_filter_le _ _
    rw [x_cat_eq (by omega), bs]
    refine Ok.pure ⟨?_, ?_, fun r hr => ?_⟩
    · rw [List.foldl_append, ← h1]
      rfl
    · rw [List.length_append, List.length_append, List.length_singleton, Nat.pow_succ]
      omega
    · rw [List.length_append, List.length_singleton]
      rcases List.mem_append.mp hr with hr | hr
      · obtain ⟨a, b⟩ := h3 r hr
        exact ⟨by omega, b⟩
      · obtain ⟨r', hr', rfl⟩ := List.mem_map.mp hr
        obtain ⟨a, b⟩ := h3 r' (List.mem_filter.mp hr').1
        refine ⟨by simp; omega, fun y hy => ?_⟩
        rcases List.mem_append.mp hy with hy | hy
        · exact b y hy
        · rw [List.mem_singleton.mp hy]
          exact hx
  · rintro rows ⟨h1, _, h3⟩
    exact Ok.pure ⟨h1, h3⟩
theorem covered_eq (hn : 1 ≤ n ∧ n ≤ 16) (hP : GoodW n rk P) (hw : worldOf n q P w) {row : List Int} (hr : row.length ≤ 16) (hrow : ∀ x ∈ row, 0 ≤ x ∧ x < (n : Int)) : m__law_covered w row = some ((((gr n (aboveL n P) n).filter (covB (dnB P) row)).length : Nat) : Int) := by
  obtain ⟨w1, w2, w3, w4, w5, w6⟩ := hw
  refine Ok.of ?_
  unfold m__law_covered
  simp only [bs, w1, w5]
  refine Ok.fold (fun p u => (∀ y, y ∈ u ↔ covB (dnB P) p y = true) ∧ u.length ≤ p.length * 16) ⟨fun y => by simp [covB], by simp⟩ ?_ ?_
  · rintro p x rest u e ⟨h1, h2⟩
    have hx := hrow x (by rw [e]; simp)
    have hp : p.length < 16 := by rw [e] at hr; simp at hr; omega
    have l1 := len_below (n := n) (P := P) x
    rw [map_range_ix hx.1 hx.2, bs, x_cat_eq (by omega), bs]
    refine Ok.pure ⟨fun y => ?_, ?_⟩
    · rw [List.mem_append, h1, covB_snoc, Bool.or_eq_true, mem_belowL hP, dnB_iff]
    · rw [List.length_append, List.length_append, List.length_singleton]
      omega
  · rintro u ⟨h1, _⟩
    rw [x_range_nat (by omega), bs, x_comp_filter (fun y => decide (y ∈ u)) (by rw [length_rangeL]; omega) fun _ _ => rfl, bs]
    refine Ok.pure ?_
    congr 1
    have hp := ((gr_perm (up_ok hP)).filter (covB (dnB P) row)).length_eq
    rw [hp]
    congr 1
    refine List.filter_congr fun y _ => ?_
    rw [Bool.eq_iff_iff, decide_eq_true_eq, h1]
theorem fold_sum {α : Type} (g : α → Int) : ∀ (xs : List α) (b : Int), xs.foldl (fun b x => b + g x) b = b + (xs.map g).sum
  | [], b => by simp
  | x :: xs, b => by rw [List.foldl_cons, fold_sum g xs, List.map_cons, List.sum_cons]; omega
theorem prodD_const {d : Int → Int} {c : Int} : ∀ (row : List Int) (a : Int), (∀ x ∈ row, d x = c) → row.foldl (fun a x => a * d x) a = a * c ^ row.length
  | [], a, _ => by simp
  | x :: row, a, h => by
    rw [List.foldl_cons, prodD_const row _ fun y hy => h y (List.mem_cons_of_mem _ hy), h x (List.mem_cons_self ..), List.length_cons, Int.pow_succ]
    grind
theorem foldl_prod {d : Int → Int} : ∀ (row : List Int) (a : Int), row.foldl (fun a x => a * d x) a = a * prodD d row
  | [], a => by simp [prodD]
  | x :: row, a => by
    rw [List.foldl_cons, foldl_prod row, show prodD d (x :: row) = row.foldl (fun a x => a * d x) (1 * d x) from rfl, foldl_prod row (1 * d x)]
    grind
theorem sq_pow (q : Int) (e c : Nat) : q ^ (e + c + c) = (q * q) ^ c * q ^ e := by
  induction c with
  | zero => simp
  | succ c ih =>
    rw [show e + (c + 1) + (c + 1) = (e + c + c) + 1 + 1 from by omega, Int.pow_succ, Int.pow_succ, ih, Int.pow_succ]
    grind
theorem lawpairs_eq (hn : 1 ≤ n ∧ n ≤ 16) (hq : 2 ≤ q ∧ q ≤ 10) (hP : GoodW n rk P) (hw : worldOf n q P w) : m__law_pairs w = some (Wo n P q (q * q) (List.replicate n ((q : Int) * (q - 1) / 2))) := by
  have hw' := hw
  obtain ⟨w1, w2, w3, w4, w5, w6⟩ := hw
  have ho : ∀ x ∈ gr n (aboveL n P) n, 0 ≤ x ∧ x < (n : Int) := fun x hx => gr_mem n x hx
  have hol := gr_length hP
  have hq4 : (q : Int).natAbs ≤ 2 ^ 4 := by show _ ≤ 16; omega
  have hqq : ((q : Int) * (q - 1)).natAbs ≤ 2 ^ 7 := by
    rw [Int.natAbs_mul]
    exact Nat.le_trans (Nat.mul_le_mul (show (q : Int).natAbs ≤ 10 by omega) (show ((q : Int) - 1).natAbs ≤ 9 by omega)) (by decide)
  have hc : ((q : Int) * (q - 1) / 2).natAbs ≤ 2 ^ 10 := by
    have : ((q : Int) * (q - 1)).natAbs ≤ 128 := hqq
    show _ ≤ 1024
    omega
  have hc0 : 0 ≤ (q : Int) * (q - 1) / 2 := Int.ediv_nonneg (Int.mul_nonneg (by omega) (by omega)) (by decide)
  have hcov : ∀ row, ((gr n (aboveL n P) n).filter (covB (dnB P) row)).length ≤ n := fun row => Nat.le_trans (List.length_filter_le _ _) (by omega)
  refine Ok.of ?_
  unfold m__law_pairs
  simp only [bs, w1, w2, w4]
  refine Ok.bind (antichains_eq hn hP hw' ho (by omega)) fun rows hrows => ?_
  obtain ⟨e1, e2⟩ := hrows
  rw [hol] at e2
  refine Ok.bindE (foldO_map (fun b row => b + ((q : Int) * (q - 1) / 2) ^ row.length * (q : Int) ^ (n - row.length + ((gr n (aboveL n P) n).filter (covB (dnB P) row)).length)) fun b row hrow => ?_) ?_
  · obtain ⟨r1, r2⟩ := e2 row hrow
    have hcl := hcov row
    have e3 : (n : Int) - (row.length : Int) + ((((gr n (aboveL n P) n).filter (covB (dnB P) row)).length : Nat) : Int) = ((n - row.length + ((gr n (aboveL n P) n).filter (covB (dnB P) row)).length : Nat) : Int) := by omega
    rw [covered_eq hn hP hw' (by omega) r2, bs, x_mul_wide hq4 (show ((q : Int) - 1).natAbs ≤ 2 ^ 4 by show _ ≤ 16; omega) (by decide) (by decide), bs, x_div_pos (by decide) (by decide)]
    simp only [bs]
    rw [power_eq hc (by omega), bs, e3, power_eq (by show _ ≤ 1024; omega) (by omega), bs, x_mul_wide (pow_abs hc _) (pow_abs (by show _ ≤ 1024; omega) _) (by omega) (by omega), bs, bs]
  · refine Ok.pure ?_
    rw [fold_sum, e1]
    have hg : ∀ x, 0 ≤ x ∧ x < (n : Int) → (List.replicate n ((q : Int) * (q - 1) / 2)).getD x.toNat 0 = (q : Int) * (q - 1) / 2 := fun x hx => by
      rw [List.getD_eq_getElem?_getD, List.getElem?_replicate, if_pos (by omega)]
      rfl
    have hs := ac_Wl (lt := dnB P) (stay := (q : Int)) (free := (q : Int) * q) (d := fun x => (List.replicate n ((q : Int) * (q - 1) / 2)).getD x.toNat 0) (lit := fun _ => true) (ord := gr n (aboveL n P) n) (ord_lin hP) (fun x => by
      rw [List.getD_eq_getElem?_getD, List.getElem?_replicate]
      split
      · exact hc0
      · simp) (fun x hx => by cases hx) (wt := fun row => ((q : Int) * (q - 1) / 2) ^ row.length * (q : Int) ^ (n - row.length + ((gr n (aboveL n P) n).filter (covB (dnB P) row)).length)) (fun row e h1 h2 => by
      have hpd : prodD (fun x : Int => (List.replicate n ((q : Int) * (q - 1) / 2)).getD x.toNat 0) row = ((q : Int) * (q - 1) / 2) ^ row.length := by
        unfold prodD
        rw [prodD_const row 1 fun x hx => hg x (ho x (h1 x hx)), Int.one_mul]
      rw [hol] at h2
      rw [hpd, show n - row.length + ((gr n (aboveL n P) n).filter (covB (dnB P) row)).length = e + ((gr n (aboveL n P) n).filter (covB (dnB P) row)).length + ((gr n (aboveL n P) n).filter (covB (dnB P) row)).length from by omega, sq_pow]
      grind)
    rw [List.filter_eq_self.mpr fun _ _ => rfl] at hs
    rw [hs, Int.zero_add]
theorem lawlower_eq (hn : 1 ≤ n ∧ n ≤ 16) (hq : 2 ≤ q ∧ q ≤ 10) (hP : GoodW n rk P) (hw : worldOf n q P w) {s : List Int} (hs : StOk n q s) : m__law_lower w s = some (Wo n P 1 q s) := by
  have hw' := hw
  obtain ⟨w1, w2, w3, w4, w5, w6⟩ := hw
  have ho : ∀ x ∈ gr n (aboveL n P) n, 0 ≤ x ∧ x < (n : Int) := fun x hx => gr_mem n x hx
  have hol := gr_length hP
  have hcov : ∀ row, ((gr n (aboveL n P) n).filter (covB (dnB P) row)).length ≤ n := fun row => Nat.le_trans (List.length_filter_le _ _) (by omega)
  have hq10 : (q : Int).natAbs ≤ 2 ^ 10 := by show _ ≤ 1024; omega
  refine Ok.of ?_
  unfold m__law_lower
  simp only [bs, w1, w2, w4]
  rw [x_comp_filter (fun x => decide (0 < s.getD x.toNat 0)) (by omega) (fun x hx => by rw [st_ix hs (ho x hx).1 (ho x hx).2, bs]), bs]
  have hfl : ((gr n (aboveL n P) n).filter fun x => decide (0 < s.getD x.toNat 0)).length ≤ n := Nat.le_trans (List.length_filter_le _ _) (by omega)
  refine Ok.bind (antichains_eq hn hP hw' (fun x hx => ho x (List.mem_filter.mp hx).1) (by omega)) fun rows hrows => ?_
  obtain ⟨e1, e2⟩ := hrows
  refine Ok.bindE (foldO_map (fun b row => b + (q : Int) ^ ((gr n (aboveL n P) n).filter (covB (dnB P) row)).length * prodD (fun x => s.getD x.toNat 0) row) fun b row hrow => ?_) ?_
  · obtain ⟨r1, r2⟩ := e2 row hrow
    have hcl := hcov row
    rw [covered_eq hn hP hw' (by omega) r2]
    simp only [bs]
    rw [power_eq hq10 (by omega), bs]
    refine Ok.of ?_
    refine Ok.fold (fun p v => v = (q : Int) ^ ((gr n (aboveL n P) n).filter (covB (dnB P) row)).length * prodD (fun x => s.getD x.toNat 0) p ∧ v.natAbs ≤ 2 ^ (160 + 10 * p.length)) ⟨by simp [prodD], Nat.le_trans (pow_abs hq10 _) (Nat.pow_le_pow_right (by decide) (by simp; omega))⟩ ?_ ?_
    · rintro p x rest v e ⟨h1, h2⟩
      have hx := r2 x (by rw [e]; simp)
      have hp : p.length < 16 := by
        have := congrArg List.length e
        simp at this
        omega
      have hb := getD_ok hs hx.1 hx.2
      have hb2 : (s.getD x.toNat 0).natAbs ≤ 2 ^ 10 := by show _ ≤ 1024; omega
      rw [st_ix hs hx.1 hx.2, bs, x_mul_wide h2 hb2 (by omega) (by decide), bs]
      refine Ok.pure ⟨?_, ?_⟩
      · rw [h1, prodD_snoc]
        grind
      · rw [Int.natAbs_mul, List.length_append, List.length_singleton, show 160 + 10 * (p.length + 1) = (160 + 10 * p.length) + 10 from by omega, Nat.pow_add]
        exact Nat.mul_le_mul h2 hb2
    · rintro v ⟨h1, _⟩
      rw [h1]
      exact Ok.pure rfl
  · refine Ok.pure ?_
    rw [fold_sum, e1]
    have hs2 := ac_Wl (lt := dnB P) (stay := 1) (free := (q : Int)) (d := fun x => s.getD x.toNat 0) (lit := fun x => decide (0 < s.getD x.toNat 0)) (ord := gr n (aboveL n P) n) (ord_lin hP) (getD_nn hs) (fun x hx => by
      have := of_decide_eq_false hx
      have := getD_nn hs x
      omega) (wt := fun row => (q : Int) ^ ((gr n (aboveL n P) n).filter (covB (dnB P) row)).length * prodD (fun x => s.getD x.toNat 0) row) (fun row e h1 h2 => by
      rw [Int.one_pow]
      grind)
    rw [hs2, Int.zero_add]
end
end HF

set_option Elab.async false
set_option linter.all false
set_option maxRecDepth 100000
set_option maxHeartbeats 1000000
/-! MathR: the great houses; the law. -/
namespace HF
open PySem PySem.Spec L2
open PyProof.Rows hiding St
theorem mapE_ok {α β γ : Type} {f : γ → α → Option (β × γ)} {I : γ → Prop} {R : β → Prop} : ∀ {xs : List α} {g : γ}, I g → (∀ g x, x ∈ xs → I g → Ok (f g x) fun r => R r.1 ∧ I r.2) → Ok (mapE f g xs) fun r => (r.1.length = xs.length ∧ ∀ y ∈ r.1, R y) ∧ I r.2
  | [], g, h, _ => Ok.pure ⟨⟨rfl, fun y m => (by cases m)⟩, h⟩
  | x :: xs, g, h, st => by
    show Ok ((f g x).bind _) _
    refine Ok.bind (st g x (List.mem_cons_self ..) h) fun r hr => ?_
    refine Ok.bind (mapE_ok (xs := xs) hr.2 fun g y m => st g y (List.mem_cons_of_mem _ m)) fun r2 hr2 => ?_
    refine Ok.pure ⟨⟨by simp [hr2.1.1], fun y m => ?_⟩, hr2.2⟩
    rcases List.mem_cons.mp m with rfl | m
    · exact hr.1
    · exact hr2.1.2 y m
section
variable {n q : Nat} {P : List (Int × Int)} {w : R_world} {h : HouseD} {rk : Int → Nat}
theorem state_ok {b : R_bag} (hb : BagOk b) (hn : 1 ≤ n ∧ n ≤ 16) (hq : 2 ≤ q ∧ q ≤ 10) (hw : worldOf n q P w) : Ok (m__law_state b w) fun r => StOk n q r.1 ∧ BagOk r.2 := by
  obtain ⟨w1, w2, w3, w4, w5, w6⟩ := hw
  unfold m__law_state
  simp only [bs, w1, w2]
  rw [x_range_nat (by omega), bs]
  unfold x_mapE
  rw [if_pos (show (rangeL 0 n).length ≤ sizeLine from by rw [length_rangeL]; show n ≤ 16777216; omega)]
  refine Ok.bind (mapE_ok (I := BagOk) (R := fun v => 0 ≤ v ∧ v < (q : Int)) hb fun g x _ hg => ?_) fun r hr => ?_
  · exact Ok.bind (draw_ok hg (by omega) (by omega)) fun r hr => Ok.pure ⟨hr.1, hr.2⟩
  · exact Ok.pure ⟨⟨by rw [hr.1.1, length_rangeL], hr.1.2⟩, hr.2⟩
theorem lawmirror_eq (hn : 1 ≤ n ∧ n ≤ 16) (hw : worldOf n q P w) {s : List Int} (hs : StOk n q s) : m__law_mirror w s = some (mirS q s) := by
  obtain ⟨w1, w2, w3, w4, w5, w6⟩ := hw
  unfold m__law_mirror
  simp only [bs, w2]
  exact x_comp_map (fun v => (q : Int) - 1 - v) (by rw [hs.len]; omega) fun _ _ => rfl
theorem dark_ok (hq : 2 ≤ q ∧ q ≤ 10) : StOk n q (List.replicate n 0) := ⟨by simp, fun x hx => by rw [List.eq_of_mem_replicate hx]; omega⟩
theorem Cg_bright {lt : Int → Int → Bool} {q : Int} : ∀ (L : List Int) (S : Int → Bool), Cg lt 1 q S L (L.map fun _ => q - 1) = q ^ L.length
  | [], S => by simp [Cg]
  | x :: L, S => by
    rw [List.map_cons, Cg, Cg_bright L, Cg_bright L, List.length_cons, Int.pow_succ]
    split <;> grind
theorem Cg_dark {lt : Int → Int → Bool} {q : Int} : ∀ (L : List Int), Cg lt 1 q (fun _ => false) L (L.map fun _ => 0) = 1
  | [] => by simp [Cg]
  | x :: L => by
    rw [List.map_cons, Cg, if_neg Bool.false_ne_true, Cg_dark L]
    grind
theorem Wo_dark (hP : GoodW n rk P) : Wo n P 1 q (List.replicate n 0) = 1 := by
  have h0 : ∀ l : Int, (List.replicate n (0 : Int)).getD l.toNat 0 = 0 := fun l => by
    rw [List.getD_eq_getElem?_getD, List.getElem?_replicate]
    split <;> rfl
  rw [Wo_Cg fun l => by rw [h0]; exact Int.le_refl 0]
  have h2 := Cg_dark (lt := dnB P) (q := (q : Int)) (gr n (aboveL n P) n)
  rw [show along n P (List.replicate n 0) = (gr n (aboveL n P) n).map fun _ => 0 from List.map_congr_left fun l _ => h0 l]
  exact h2
theorem mir_dark : mirS q (List.replicate n 0) = List.replicate n ((q : Int) - 1) := by
  unfold mirS
  rw [List.map_replicate]
  simp
theorem Wo_bright (hP : GoodW n rk P) (hq : 2 ≤ q ∧ q ≤ 10) : Wo n P 1 q (mirS q (List.replicate n 0)) = (q : Int) ^ n := by
  rw [Wo_Cg (getD_nn (mirS_ok (dark_ok hq)))]
  have h2 := Cg_bright (lt := dnB P) (q := (q : Int)) (gr n (aboveL n P) n) (fun _ => false)
  rw [gr_length hP] at h2
  rw [← h2]
  congr 1
  refine List.map_congr_left fun l hl => ?_
  have := gr_mem n l hl
  rw [mir_dark, List.getD_eq_getElem?_getD, List.getElem?_replicate, if_pos (by omega)]
  rfl
theorem mir_mir {s : List Int} : mirS q (mirS q s) = s := by
  unfold mirS
  rw [List.map_map]
  conv => rhs; rw [← List.map_id s]
  refine List.map_congr_left fun v _ => ?_
  show (q : Int) - 1 - ((q : Int) - 1 - v) = v
  omega
theorem great_ok {b : R_bag} (hb : BagOk b) (hn : 1 ≤ n ∧ n ≤ 16) (hq : 2 ≤ q ∧ q ≤ 10) (hP : GoodW n rk P) (hw : worldOf n q P w) (hh : HouseOk n q P h) : Ok (m__law_great b w h) fun r => r.1 = true := by
  have hD : StOk n q (List.replicate n 0) := dark_ok hq
  have hw' := hw
  obtain ⟨w1, w2, w3, w4, w5, w6⟩ := hw'
  unfold m__law_great
  simp only [bs, w1, w2]
  refine Ok.bind (state_ok hb hn hq hw) fun r hr => ?_
  have hS := hr.1
  rw [power_eq (h := (q : Int)) (c := n) (by show _ ≤ 1024; omega) (by omega), bs, x_rep1 (by omega) (by omega), bs, Int.toNat_natCast, lawmirror_eq hn hw hD]
  simp only [bs]
  rw [pair_eq hn hq hP hh, bs, lawpairs_eq hn hq hP hw]
  simp only [bs, is_count_eq, decide_true, Bool.not_true, Bool.false_eq_true, if_false]
  have hM := mirS_ok hD
  simp only [forK]
  simp only [lower_eq hn hq hP hh hM, lower_eq hn hq hP hh hD, upper_eq hn hq hP hh hM, upper_eq hn hq hP hh hD, bs, Wo_bright hP hq, Wo_dark hP, mir_mir, decide_true, Bool.not_true, Bool.false_eq_true, if_false, lower_eq hn hq hP hh hS, lawlower_eq hn hq hP hw hS, upper_eq hn hq hP hh hS, lawmirror_eq hn hw hS, lawlower_eq hn hq hP hw (mirS_ok hS)]
  exact Ok.pure rfl
theorem great_world_ok {b : R_bag} (hb : BagOk b) : Ok (m__law_great_world b) fun r => ∃ (n q : Nat) (P : List (Int × Int)) (line : List Int), (1 ≤ n ∧ n ≤ 16) ∧ (2 ≤ q ∧ q ≤ 10) ∧ GoodW n (rkL line) P ∧ P.length ≤ 1000 ∧ worldOf n q P r.1 ∧ BagOk r.2 := by
  unfold m__law_great_world
  simp only [bs, joinK]
  refine Ok.bind (hues_ok hb) fun r1 h1 => ?_
  obtain ⟨hq, hb1⟩ := h1
  obtain ⟨q, eq⟩ := Int.eq_ofNat_of_zero_le (show 0 ≤ r1.1 by omega)
  rw [eq] at hq ⊢
  refine Ok.bind (draw_ok hb1 (by decide) (by decide)) fun r2 h2 => ?_
  refine Ok.ite (fun c => ?_) (fun c => ?_)
  · refine Ok.bind (draw_ok h2.2 (by decide) (by decide)) fun r3 h3 => ?_
    obtain ⟨⟨a0, a1⟩, hb3⟩ := h3
    obtain ⟨k, hk⟩ := Int.eq_ofNat_of_zero_le a0
    have e9 : (9 : Int) + r3.1 = ((9 + k : Nat) : Int) := by omega
    rw [e9]
    refine Ok.bind (shuffled_ok hb3 (by omega)) fun r4 h4 => ?_
    have hlen : r4.1.length = 9 + k := by rw [h4.1.length_eq, length_rangeL]
    have hnd : r4.1.Nodup := h4.1.nodup_iff.mpr nodup_rangeL
    rw [hlen, x_range_int (by omega) (by omega), bs]
    have et : (((9 + k : Nat) : Int) - 1).toNat = 8 + k := by omega
    rw [et]
    refine Ok.bindE (x_comp_map (fun y : Int => (r4.1.getD y.toNat 0, r4.1.getD (y + 1).toNat 0)) (by rw [length_rangeL]; omega) fun y hy => ?_) ?_
    · have hm := mem_rangeL.mp hy
      rw [x_ix_get (xs := r4.1) (i := y) (a := r4.1.getD y.toNat 0) hm.1 (by rw [List.getD_eq_getElem?_getD, List.getElem?_eq_getElem (by omega)]; rfl), bs, x_ix_get (xs := r4.1) (i := y + 1) (a := r4.1.getD (y + 1).toNat 0) (by omega) (by rw [List.getD_eq_getElem?_getD, List.getElem?_eq_getElem (by omega)]; rfl), bs]
    · have hg : GoodW (9 + k) (rkL r4.1) ((rangeL 0 (8 + k)).map fun y : Int => (r4.1.getD y.toNat 0, r4.1.getD (y + 1).toNat 0)) := by
        refine fw_good (low := 9 + k) (h := 0) h4.1 ?_ ?_
        · rw [List.nodup_iff_pairwise_ne, List.pairwise_map]
          refine (nodup_rangeL (n := 8 + k)).imp_of_mem fun {a b} ha hb hne e => hne ?_
          have ma := mem_rangeL.mp ha
          have mb := mem_rangeL.mp hb
          have e1 := (Prod.mk.inj e).1
          rw [List.getD_eq_getElem?_getD, List.getElem?_eq_getElem (by omega), List.getD_eq_getElem?_getD, List.getElem?_eq_getElem (by omega), Option.getD_some, Option.getD_some] at e1
          have := (List.getElem_inj hnd).mp e1
          omega
        · intro u v m
          obtain ⟨y, hy, e⟩ := List.mem_map.mp m
          have hm := mem_rangeL.mp hy
          obtain ⟨e1, e2⟩ := Prod.mk.inj e
          rw [List.getD_eq_getElem?_getD, List.getElem?_eq_getElem (by omega), Option.getD_some] at e1 e2
          exact ⟨y.toNat, (y + 1).toNat, by omega, by rw [List.getElem?_eq_getElem (by omega), e1], by rw [List.getElem?_eq_getElem (by omega), e2], .inl (by omega)⟩
      have hl : ((rangeL 0 (8 + k)).map fun y : Int => (r4.1.getD y.toNat 0, r4.1.getD (y + 1).toNat 0)).length ≤ 1000 := by rw [List.length_map, length_rangeL]; omega
      refine Ok.bind (known_eq (n := 9 + k) (q := q) (by omega) h4.1 hg hl) fun w hw => ?_
      exact Ok.pure ⟨9 + k, q, _, r4.1, by omega, by omega, hg, hl, hw, h4.2⟩
  · refine Ok.bind (draw_ok h2.2 (by decide) (by decide)) fun r3 h3 => ?_
    obtain ⟨⟨a0, a1⟩, hb3⟩ := h3
    obtain ⟨k, hk⟩ := Int.eq_ofNat_of_zero_le a0
    have e9 : (5 : Int) + r3.1 = ((5 + k : Nat) : Int) := by omega
    rw [e9]
    refine Ok.bind (shuffled_ok hb3 (by omega)) fun r4 h4 => ?_
    have hlen : r4.1.length = 5 + k := by rw [h4.1.length_eq, length_rangeL]
    refine Ok.bind (wires_ok h4.2 (n := 5 + k) (by omega) h4.1) fun r5 h5 => ?_
    rw [hlen]
    refine Ok.bind (known_eq (n := 5 + k) (q := q) (by omega) h4.1 h5.1 h5.2.1) fun w hw => ?_
    exact Ok.pure ⟨5 + k, q, r5.1, r4.1, by omega, by omega, h5.1, h5.2.1, hw, h5.2.2⟩
end
theorem law_true (ns : List Int) (hl : ns.length ≤ 63) : m_law ns = some true := by
  refine Ok.of ?_
  unfold m_law
  simp only [bs, joinK]
  refine Ok.bind (bag_ok hl) fun b hb => ?_
  refine Ok.bind (draw_ok hb (by decide) (by decide)) fun r1 h1 => ?_
  refine Ok.ite (fun c => ?_) (fun c => ?_)
  · refine Ok.bind (great_world_ok h1.2) fun r2 h2 => ?_
    obtain ⟨n, q, P, line, hn, hq, hP, hPl, hw, hb2⟩ := h2
    have hw' := hw
    obtain ⟨w1, w2, w3, w4, w5, w6⟩ := hw'
    rw [w1, w2, w3, Option.bind_assoc]
    refine Ok.bind (house_eq hn hq hP hPl) fun hr hh => ?_
    simp only [bs]
    refine Ok.bind (great_ok hb2 hn hq hP hw hh) fun r3 h3 => Ok.pure h3
  · have tail : ∀ (b : R_bag) (room : Int), BagOk b → room ≤ 1000 → Ok ((m__law_world b room).bind fun r1717 => (m_House___init__ r1717.1.1 r1717.1.2.1 r1717.1.2.2.1).bind fun z1728 => m__law_small r1717.1 (toHouse z1728)) fun r => r = true := fun b room hb hroom => by
      refine Ok.bind (world_ok hb) fun r2 h2 => ?_
      obtain ⟨n, q, P, line, hn, hq, hsz, hP, hPl, hw, hb2⟩ := h2
      have hw' := hw
      obtain ⟨w1, w2, w3, w4, w5, w6⟩ := hw'
      rw [w1, w2, w3]
      refine Ok.bind (house_eq hn hq hP hPl) fun hr hh => ?_
      have hs : q ^ n ≤ 1000 := by
        rcases hsz with h1 | h1
        · subst h1
          rw [Nat.pow_one]
          omega
        · omega
      exact Ok.eq (small_ok hn hq hs hP hw hh)
    refine Ok.bind (draw_ok h1.2 (by decide) (by decide)) fun r2 h2 => ?_
    refine Ok.ite (fun c => ?_) (fun c => ?_)
    · simpa only [Option.bind_assoc, bs] using tail r2.2 64 h2.2 (by decide)
    · simpa only [Option.bind_assoc, bs] using tail r2.2 32 h2.2 (by decide)
end HF

set_option Elab.async false
set_option linter.all false
set_option maxRecDepth 100000
set_option maxHeartbeats 0
namespace HF
open PySem PySem.Spec PyProof.Rows L2
def d0 : He.DefD := ⟨("is_integer", none), "is_integer", "is_integer", defArgs (top 7), defBody (top 7), defScope (top 7), [], []⟩
def d1 : He.DefD := ⟨("bits", none), "bits", "bits", defArgs (top 9), defBody (top 9), defScope (top 9), [], []⟩
def d2 : He.DefD := ⟨("below_masks", none), "below_masks", "below_masks", defArgs (top 10), defBody (top 10), defScope (top 10), [], []⟩
def d3 : He.DefD := ⟨("_is_wire", none), "_is_wire", "_is_wire", defArgs (top 12), defBody (top 12), defScope (top 12), [], []⟩
def d4 : He.DefD := ⟨("_join_wires", none), "_join_wires", "_join_wires", defArgs (top 13), defBody (top 13), defScope (top 13), [], []⟩
def d5 : He.DefD := ⟨("_turn_round", none), "_turn_round", "_turn_round", defArgs (top 14), defBody (top 14), defScope (top 14), [], []⟩
def d6 : He.DefD := ⟨("_order_list", none), "_order_list", "_order_list", defArgs (top 15), defBody (top 15), defScope (top 15), [], []⟩
def d7 : He.DefD := ⟨("House", some "__init__"), "__init__", "House.__init__", defArgs (inClass (top 16) 2), defBody (inClass (top 16) 2), defScope (inClass (top 16) 2), [.adr (He.dflAt ("House", some "__init__") 0)], []⟩
def d8 : He.DefD := ⟨("House", some "order"), "order", "House.order", defArgs (inClass (top 16) 10), defBody (inClass (top 16) 10), defScope (inClass (top 16) 10), [], []⟩
def d9 : He.DefD := ⟨("is_state", none), "is_state", "is_state", defArgs (top 18), defBody (top 18), defScope (top 18), [], []⟩
def d10 : He.DefD := ⟨("_check_state", none), "_check_state", "_check_state", defArgs (top 20), defBody (top 20), defScope (top 20), [], []⟩
def d11 : He.DefD := ⟨("mirror", none), "mirror", "mirror", defArgs (top 19), defBody (top 19), defScope (top 19), [], []⟩
def d12 : He.DefD := ⟨("need_state", none), "need_state", "need_state", defArgs (top 22), defBody (top 22), defScope (top 22), [], []⟩
def d13 : He.DefD := ⟨("_power", none), "_power", "_power", defArgs (top 24), defBody (top 24), defScope (top 24), [], []⟩
def d14 : He.DefD := ⟨("_all_lamps", none), "_all_lamps", "_all_lamps", defArgs (top 25), defBody (top 25), defScope (top 25), [], []⟩
def d15 : He.DefD := ⟨("_ways", none), "_ways", "_ways", defArgs (top 26), defBody (top 26), defScope (top 26), [], []⟩
def d16 : He.DefD := ⟨("free_count", none), "free_count", "free_count", defArgs (top 27), defBody (top 27), defScope (top 27), [], []⟩
def d17 : He.DefD := ⟨("lower_count", none), "lower_count", "lower_count", defArgs (top 28), defBody (top 28), defScope (top 28), [], []⟩
def d18 : He.DefD := ⟨("upper_count", none), "upper_count", "upper_count", defArgs (top 29), defBody (top 29), defScope (top 29), [], []⟩
def d19 : He.DefD := ⟨("pair_count", none), "pair_count", "pair_count", defArgs (top 30), defBody (top 30), defScope (top 30), [], []⟩
def d20 : He.DefD := ⟨("_law_bag", none), "_law_bag", "_law_bag", defArgs (top 32), defBody (top 32), defScope (top 32), [], []⟩
def d21 : He.DefD := ⟨("_law_draw", none), "_law_draw", "_law_draw", defArgs (top 33), defBody (top 33), defScope (top 33), [], []⟩
def d22 : He.DefD := ⟨("_law_shuffled", none), "_law_shuffled", "_law_shuffled", defArgs (top 34), defBody (top 34), defScope (top 34), [], []⟩
def d23 : He.DefD := ⟨("_law_wired", none), "_law_wired", "_law_wired", defArgs (top 35), defBody (top 35), defScope (top 35), [], []⟩
def d24 : He.DefD := ⟨("_law_wires", none), "_law_wires", "_law_wires", defArgs (top 36), defBody (top 36), defScope (top 36), [], []⟩
def d25 : He.DefD := ⟨("_law_all_in", none), "_law_all_in", "_law_all_in", defArgs (top 37), defBody (top 37), defScope (top 37), [], []⟩
def d26 : He.DefD := ⟨("_law_known", none), "_law_known", "_law_known", defArgs (top 38), defBody (top 38), defScope (top 38), [], []⟩
def d27 : He.DefD := ⟨("_law_hues", none), "_law_hues", "_law_hues", defArgs (top 39), defBody (top 39), defScope (top 39), [], []⟩
def d28 : He.DefD := ⟨("_law_power", none), "_law_power", "_law_power", defArgs (top 40), defBody (top 40), defScope (top 40), [], []⟩
def d29 : He.DefD := ⟨("_law_count", none), "_law_count", "_law_count", defArgs (top 41), defBody (top 41), defScope (top 41), [], []⟩
def d30 : He.DefD := ⟨("_law_world", none), "_law_world", "_law_world", defArgs (top 42), defBody (top 42), defScope (top 42), [], []⟩
def d31 : He.DefD := ⟨("_law_state", none), "_law_state", "_law_state", defArgs (top 43), defBody (top 43), defScope (top 43), [], []⟩
def d32 : He.DefD := ⟨("_law_obstacle", none), "_law_obstacle", "_law_obstacle", defArgs (top 44), defBody (top 44), defScope (top 44), [], []⟩
def d33 : He.DefD := ⟨("_law_states", none), "_law_states", "_law_states", defArgs (top 45), defBody (top 45), defScope (top 45), [], []⟩
def d34 : He.DefD := ⟨("_law_mirror", none), "_law_mirror", "_law_mirror", defArgs (top 46), defBody (top 46), defScope (top 46), [], []⟩
def d35 : He.DefD := ⟨("_law_is_integer", none), "_law_is_integer", "_law_is_integer", defArgs (top 47), defBody (top 47), defScope (top 47), [], []⟩
def d36 : He.DefD := ⟨("_law_apart", none), "_law_apart", "_law_apart", defArgs (top 48), defBody (top 48), defScope (top 48), [], []⟩
def d37 : He.DefD := ⟨("_law_antichains", none), "_law_antichains", "_law_antichains", defArgs (top 49), defBody (top 49), defScope (top 49), [], []⟩
def d38 : He.DefD := ⟨("_law_covered", none), "_law_covered", "_law_covered", defArgs (top 50), defBody (top 50), defScope (top 50), [], []⟩
def d39 : He.DefD := ⟨("_law_pairs", none), "_law_pairs", "_law_pairs", defArgs (top 51), defBody (top 51), defScope (top 51), [], []⟩
def d40 : He.DefD := ⟨("_law_lower", none), "_law_lower", "_law_lower", defArgs (top 52), defBody (top 52), defScope (top 52), [], []⟩
def d41 : He.DefD := ⟨("_law_is_count", none), "_law_is_count", "_law_is_count", defArgs (top 53), defBody (top 53), defScope (top 53), [], []⟩
def d42 : He.DefD := ⟨("_law_small", none), "_law_small", "_law_small", defArgs (top 54), defBody (top 54), defScope (top 54), [], []⟩
def d43 : He.DefD := ⟨("_law_great", none), "_law_great", "_law_great", defArgs (top 55), defBody (top 55), defScope (top 55), [], []⟩
def d44 : He.DefD := ⟨("_law_great_world", none), "_law_great_world", "_law_great_world", defArgs (top 56), defBody (top 56), defScope (top 56), [], []⟩
def d45 : He.DefD := ⟨("law", none), "law", "law", defArgs (top 57), defBody (top 57), defScope (top 57), [], []⟩
def fns0 : List He.DefD := [d0, d1, d2, d3, d4, d5, d6, d7, d8, d9, d10, d11, d12, d13, d14, d15, d16, d17, d18, d19]
def fns1 : List He.DefD := [d20, d21, d22, d23, d24, d25, d26, d27, d28, d29, d30, d31, d32, d33, d34, d35, d36, d37, d38, d39]
def fns2 : List He.DefD := [d40, d41, d42, d43, d44, d45]
def fns : List He.DefD := fns0 ++ fns1 ++ fns2
def fas0 : List He.Fa := [.glo "is_integer", .glo "bits", .glo "below_masks", .glo "_is_wire", .glo "_join_wires", .glo "_turn_round", .glo "_order_list", .mkr "House", .glo "House", .cls "House", .meth "House" "order", .glo "is_state", .glo "_check_state", .glo "mirror", .glo "need_state", .glo "_power", .glo "_all_lamps", .glo "_ways", .glo "free_count", .glo "lower_count"]
def fas1 : List He.Fa := [.glo "upper_count", .glo "pair_count", .glo "_law_bag", .glo "_law_draw", .glo "_law_shuffled", .glo "_law_wired", .glo "_law_wires", .glo "_law_all_in", .glo "_law_known", .glo "_law_hues", .glo "_law_power", .glo "_law_count", .glo "_law_world", .glo "_law_state", .glo "_law_obstacle", .glo "_law_states", .glo "_law_mirror", .glo "_law_is_integer", .glo "_law_apart", .glo "_law_antichains"]
def fas2 : List He.Fa := [.glo "_law_covered", .glo "_law_pairs", .glo "_law_lower", .glo "_law_is_count", .glo "_law_small", .glo "_law_great", .glo "_law_great_world", .glo "law", .free "abs", .free "all", .free "bool", .free "enumerate", .free "int", .free "isinstance", .free "len", .free "list", .free "range", .free "sorted", .free "tuple", .noat "House" "_above"]
def fas3 : List He.Fa := [.noat "House" "_above_masks", .noat "House" "_below", .noat "House" "_below_masks", .noat "House" "_direct", .noat "House" "_order", .noat "House" "count", .noat "House" "hues", .noat "House" "wires"]
def fas : List He.Fa := fas0 ++ fas1 ++ fas2 ++ fas3
def lo0 : List PySem.Str := ["_wall", "__name__", "HuefallError", "InvalidHouse", "InvalidLamp", "InvalidState", "is_integer", "is_lamp", "bits", "below_masks", "_check_lamp", "_is_wire", "_join_wires", "_turn_round", "_order_list", "House", "is_state", "mirror", "_check_state", "need_state"]
def lo1 : List PySem.Str := ["_power", "_all_lamps", "_ways", "free_count", "lower_count", "upper_count", "pair_count", "_law_bag", "_law_draw", "_law_shuffled", "_law_wired", "_law_wires", "_law_all_in", "_law_known", "_law_hues", "_law_power", "_law_count", "_law_world", "_law_state", "_law_obstacle"]
def lo2 : List PySem.Str := ["_law_states", "_law_mirror", "_law_is_integer", "_law_apart", "_law_antichains", "_law_covered", "_law_pairs", "_law_lower", "_law_is_count", "_law_small", "_law_great", "_law_great_world"]
def lo : List PySem.Str := lo0 ++ lo1 ++ lo2
def exs : List (PySem.Str × PySem.Str × Int) := [("House", "MOST_HUES", 10), ("House", "MOST_LAMPS", 16)]
abbrev RR : PySem.W.OpenRow := PySem.W.OpenLaw.row PySem.Challenge.rw_huefall_k79_counts_sum_to_pairs
abbrev hk : PySem.W.Hook := hookX 5 fas fns exs
def ob (s : PySem.W.SharedT) : AlX := obsX 5 fas fns exs (HandSHeadRun.getT s)
theorem ob_eq (s : PySem.W.SharedT) : ob s = hk.obs s.abs := obsX_eq (HandSHeadRun.getT_eq s)
theorem run (w : World) : HandSHeadRun.RunEq RR (PySem.W.view RR.prog [57]) hk ob 40000 lo w := by
  intro os
  kernel_rfl
theorem env_of {K : PySem.W.Frag} {h : Heap} {mg : Str → Option Value} (X : K.In h) (G : h.Ns mainGlobals mg) (c : He.SaysD fas fns K) (e : exB exs K = true) : EnvF K mg :=
  { d_is_integer := def_at (c.def_ 0 (d := d0) rfl) (He.glo_ok X G (c.fact 0 (f := .glo "is_integer") rfl)),
    d_bits := def_at (c.def_ 1 (d := d1) rfl) (He.glo_ok X G (c.fact 1 (f := .glo "bits") rfl)),
    d_below_masks := def_at (c.def_ 2 (d := d2) rfl) (He.glo_ok X G (c.fact 2 (f := .glo "below_masks") rfl)),
    d__is_wire := def_at (c.def_ 3 (d := d3) rfl) (He.glo_ok X G (c.fact 3 (f := .glo "_is_wire") rfl)),
    d__join_wires := def_at (c.def_ 4 (d := d4) rfl) (He.glo_ok X G (c.fact 4 (f := .glo "_join_wires") rfl)),
    d__turn_round := def_at (c.def_ 5 (d := d5) rfl) (He.glo_ok X G (c.fact 5 (f := .glo "_turn_round") rfl)),
    d__order_list := def_at (c.def_ 6 (d := d6) rfl) (He.glo_ok X G (c.fact 6 (f := .glo "_order_list") rfl)),
    d_House___init__ := idef_at (c.def_ 7 (d := d7) rfl) rfl (He.mkr_ok (c.fact 7 (f := .mkr "House") rfl)) (He.glo_ok X G (c.fact 8 (f := .glo "House") rfl)),
    d_House_order := mdef_at (c.def_ 8 (d := d8) rfl) (He.cls_ok (c.fact 9 (f := .cls "House") rfl)) (He.meth_ok (c.fact 10 (f := .meth "House" "order") rfl)),
    d_is_state := def_at (c.def_ 9 (d := d9) rfl) (He.glo_ok X G (c.fact 11 (f := .glo "is_state") rfl)),
    d__check_state := def_at (c.def_ 10 (d := d10) rfl) (He.glo_ok X G (c.fact 12 (f := .glo "_check_state") rfl)),
    d_mirror := def_at (c.def_ 11 (d := d11) rfl) (He.glo_ok X G (c.fact 13 (f := .glo "mirror") rfl)),
    d_need_state := def_at (c.def_ 12 (d := d12) rfl) (He.glo_ok X G (c.fact 14 (f := .glo "need_state") rfl)),
    d__power := def_at (c.def_ 13 (d := d13) rfl) (He.glo_ok X G (c.fact 15 (f := .glo "_power") rfl)),
    d__all_lamps := def_at (c.def_ 14 (d := d14) rfl) (He.glo_ok X G (c.fact 16 (f := .glo "_all_lamps") rfl)),
    d__ways := def_at (c.def_ 15 (d := d15) rfl) (He.glo_ok X G (c.fact 17 (f := .glo "_ways") rfl)),
    d_free_count := def_at (c.def_ 16 (d := d16) rfl) (He.glo_ok X G (c.fact 18 (f := .glo "free_count") rfl)),
    d_lower_count := def_at (c.def_ 17 (d := d17) rfl) (He.glo_ok X G (c.fact 19 (f := .glo "lower_count") rfl)),
    d_upper_count := def_at (c.def_ 18 (d := d18) rfl) (He.glo_ok X G (c.fact 20 (f := .glo "upper_count") rfl)),
    d_pair_count := def_at (c.def_ 19 (d := d19) rfl) (He.glo_ok X G (c.fact 21 (f := .glo "pair_count") rfl)),
    d__law_bag := def_at (c.def_ 20 (d := d20) rfl) (He.glo_ok X G (c.fact 22 (f := .glo "_law_bag") rfl)),
    d__law_draw := def_at (c.def_ 21 (d := d21) rfl) (He.glo_ok X G (c.fact 23 (f := .glo "_law_draw") rfl)),
    d__law_shuffled := def_at (c.def_ 22 (d := d22) rfl) (He.glo_ok X G (c.fact 24 (f := .glo "_law_shuffled") rfl)),
    d__law_wired := def_at (c.def_ 23 (d := d23) rfl) (He.glo_ok X G (c.fact 25 (f := .glo "_law_wired") rfl)),
    d__law_wires := def_at (c.def_ 24 (d := d24) rfl) (He.glo_ok X G (c.fact 26 (f := .glo "_law_wires") rfl)),
    d__law_all_in := def_at (c.def_ 25 (d := d25) rfl) (He.glo_ok X G (c.fact 27 (f := .glo "_law_all_in") rfl)),
    d__law_known := def_at (c.def_ 26 (d := d26) rfl) (He.glo_ok X G (c.fact 28 (f := .glo "_law_known") rfl)),
    d__law_hues := def_at (c.def_ 27 (d := d27) rfl) (He.glo_ok X G (c.fact 29 (f := .glo "_law_hues") rfl)),
    d__law_power := def_at (c.def_ 28 (d := d28) rfl) (He.glo_ok X G (c.fact 30 (f := .glo "_law_power") rfl)),
    d__law_count := def_at (c.def_ 29 (d := d29) rfl) (He.glo_ok X G (c.fact 31 (f := .glo "_law_count") rfl)),
    d__law_world := def_at (c.def_ 30 (d := d30) rfl) (He.glo_ok X G (c.fact 32 (f := .glo "_law_world") rfl)),
    d__law_state := def_at (c.def_ 31 (d := d31) rfl) (He.glo_ok X G (c.fact 33 (f := .glo "_law_state") rfl)),
    d__law_obstacle := def_at (c.def_ 32 (d := d32) rfl) (He.glo_ok X G (c.fact 34 (f := .glo "_law_obstacle") rfl)),
    d__law_states := def_at (c.def_ 33 (d := d33) rfl) (He.glo_ok X G (c.fact 35 (f := .glo "_law_states") rfl)),
    d__law_mirror := def_at (c.def_ 34 (d := d34) rfl) (He.glo_ok X G (c.fact 36 (f := .glo "_law_mirror") rfl)),
    d__law_is_integer := def_at (c.def_ 35 (d := d35) rfl) (He.glo_ok X G (c.fact 37 (f := .glo "_law_is_integer") rfl)),
    d__law_apart := def_at (c.def_ 36 (d := d36) rfl) (He.glo_ok X G (c.fact 38 (f := .glo "_law_apart") rfl)),
    d__law_antichains := def_at (c.def_ 37 (d := d37) rfl) (He.glo_ok X G (c.fact 39 (f := .glo "_law_antichains") rfl)),
    d__law_covered := def_at (c.def_ 38 (d := d38) rfl) (He.glo_ok X G (c.fact 40 (f := .glo "_law_covered") rfl)),
    d__law_pairs := def_at (c.def_ 39 (d := d39) rfl) (He.glo_ok X G (c.fact 41 (f := .glo "_law_pairs") rfl)),
    d__law_lower := def_at (c.def_ 40 (d := d40) rfl) (He.glo_ok X G (c.fact 42 (f := .glo "_law_lower") rfl)),
    d__law_is_count := def_at (c.def_ 41 (d := d41) rfl) (He.glo_ok X G (c.fact 43 (f := .glo "_law_is_count") rfl)),
    d__law_small := def_at (c.def_ 42 (d := d42) rfl) (He.glo_ok X G (c.fact 44 (f := .glo "_law_small") rfl)),
    d__law_great := def_at (c.def_ 43 (d := d43) rfl) (He.glo_ok X G (c.fact 45 (f := .glo "_law_great") rfl)),
    d__law_great_world := def_at (c.def_ 44 (d := d44) rfl) (He.glo_ok X G (c.fact 46 (f := .glo "_law_great_world") rfl)),
    d_law := def_at (c.def_ 45 (d := d45) rfl) (He.glo_ok X G (c.fact 47 (f := .glo "law") rfl)),
    g_abs := He.free_ok X G (c.fact 48 (f := .free "abs") rfl),
    g_all := He.free_ok X G (c.fact 49 (f := .free "all") rfl),
    g_bool := He.free_ok X G (c.fact 50 (f := .free "bool") rfl),
    g_enumerate := He.free_ok X G (c.fact 51 (f := .free "enumerate") rfl),
    g_int := He.free_ok X G (c.fact 52 (f := .free "int") rfl),
    g_isinstance := He.free_ok X G (c.fact 53 (f := .free "isinstance") rfl),
    g_len := He.free_ok X G (c.fact 54 (f := .free "len") rfl),
    g_list := He.free_ok X G (c.fact 55 (f := .free "list") rfl),
    g_range := He.free_ok X G (c.fact 56 (f := .free "range") rfl),
    g_sorted := He.free_ok X G (c.fact 57 (f := .free "sorted") rfl),
    g_tuple := He.free_ok X G (c.fact 58 (f := .free "tuple") rfl),
    cl_House := He.cls_ok (c.fact 9 (f := .cls "House") rfl),
    gc_House := glo_okR X G (c.fact 8 (f := .glo "House") rfl),
    na_House__above := He.noat_ok (c.fact 59 (f := .noat "House" "_above") rfl),
    na_House__above_masks := He.noat_ok (c.fact 60 (f := .noat "House" "_above_masks") rfl),
    na_House__below := He.noat_ok (c.fact 61 (f := .noat "House" "_below") rfl),
    na_House__below_masks := He.noat_ok (c.fact 62 (f := .noat "House" "_below_masks") rfl),
    na_House__direct := He.noat_ok (c.fact 63 (f := .noat "House" "_direct") rfl),
    na_House__order := He.noat_ok (c.fact 64 (f := .noat "House" "_order") rfl),
    na_House_count := He.noat_ok (c.fact 65 (f := .noat "House" "count") rfl),
    na_House_hues := He.noat_ok (c.fact 66 (f := .noat "House" "hues") rfl),
    na_House_wires := He.noat_ok (c.fact 67 (f := .noat "House" "wires") rfl),
    cc_House_MOST_HUES := exB_ok e 0 (q := ("House", "MOST_HUES", 10)) rfl,
    cc_House_MOST_LAMPS := exB_ok e 1 (q := ("House", "MOST_LAMPS", 16)) rfl }
theorem facts {P : Program} {w : World} {K : PySem.W.Frag} {h : Heap} {mg : Str → Option Value} {f : Addr} (X : K.In h) (G : h.Ns mainGlobals mg) (hfa : mg ("law" : Str) = some (.ref f)) (c : He.SaysD fas fns K) (e : exB exs K = true) :
    ∃ fd : FuncData, (∀ (s : Shared) (v : Value), BindsTo s fd ⟨[v], []⟩ [("_law_script", v)]) ∧ ∀ base : Heap, K.In base → base.Ns mainGlobals mg → FnOk P w K mg base CX0 26 f fd ["_law_script"] (spP (TyA.one (tScr K)) (fun a => m_law a) tBool) := by
  obtain ⟨fd, F⟩ := c.def_ 45 (d := d45) rfl
  have e0 := hfa.symm.trans (He.glo_ok X G (c.fact 47 (f := .glo "law") rfl))
  cases e0
  have b := FunD.bindsA (ps := ["_law_script"]) F fun _ _ _ _ _ _ us hl => match us, hl with | [_], _ => rfl
  exact ⟨fd, fun s v => b s [v] rfl, fun base KB GB => fn_law (env_of KB GB c e) F⟩
end HF
open PySem PySem.W PySem.Calls PyProof.Rows
theorem cw_main (LAW : ∀ ns : List Int, ns.length ≤ 63 → HF.m_law ns = some true) : PySem.Challenge.rw_huefall_k79_counts_sum_to_pairs.Holds := by
  w_on; o_law
  refine HandSHeadRun.head_any (r := OpenLaw.row PySem.Challenge.rw_huefall_k79_counts_sum_to_pairs) (q := view (OpenLaw.row PySem.Challenge.rw_huefall_k79_counts_sum_to_pairs).prog [57]) (H := HF.hk) (ob := HF.ob) (M := 40000) (loose := HF.lo) (d := HandSHeadRun.topDef (OpenLaw.row PySem.Challenge.rw_huefall_k79_counts_sum_to_pairs).prog 57) (kwd := []) HF.ob_eq
    (by kernel_rfl) (fun s => by kernel_rfl) HF.run (by kernel_rfl) (by kernel_rfl) (by kernel_rfl) (by rfl) (by first | assumption | decide +kernel) (by decide +kernel) ⟨rfl, rfl, rfl, rfl, rfl, by decide +kernel⟩ ?hw ?hc
  case hw => w_witness2
  case hc =>
    refine L2.walk_ofE (l := PySem.Challenge.rw_huefall_k79_counts_sum_to_pairs) (n := 63) (k := 26) (x := "_law_script") (CX := L2.CX0) rfl (by decide) (by kernel_rfl) ⟨rfl, by decide, by decide⟩ ?F (fun _ _ _ _ z => z)
    intro w mg fa h Y G hmg0
    obtain ⟨K, KX, c, e⟩ := Y
    have hmg : mg ("law" : PySem.Str) = some (.ref fa) := by
      have e : (HandSHeadRun.topDef (OpenLaw.row PySem.Challenge.rw_huefall_k79_counts_sum_to_pairs).prog 57).name = ("law" : PySem.Str) := by kernel_rfl
      rw [← e]
      exact hmg0
    obtain ⟨fd, hb, hF⟩ := HF.facts (P := (PySem.Challenge.rw_huefall_k79_counts_sum_to_pairs).prog) (w := w) KX G hmg c e
    exact ⟨K, fd, _, KX, hb, fun H a ns hl _ hS => HF.law_end hS (LAW ns hl), hF⟩

set_option maxRecDepth 100000 in
theorem PySem.Challenge.cw_huefall_k79_counts_sum_to_pairs_holds : PySem.Challenge.rw_huefall_k79_counts_sum_to_pairs.Holds := by
  exact cw_main HF.law_true
