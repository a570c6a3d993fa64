import PyProof.Rows.All
import Wide.All
import OpenK.AllK
import Wide.FinOn
import HandS.ForMost
import HandS.ForExc
import HandS.Wide
import HandS.WideBits
import HandS.IsInst
import HandS.Deep
import HandS.Conv
import HandS.SortRule
import HandS.SortInts
import HandS.Rev
import HandS.RevRange
import HandS.TupMul
import HandS.Defaults
import HandS.Style
import HandS.Codes
import HandS.ClsMeth
import HandS.Head0
import HandS.Head1
import HandS.Head2
import HandS.HeadEnd
import HandS.HeadHook1
import HandS.HeadHook2
import HandS.MakeKwOnly
import HandS.Zip
import PySem.Challenge.RW_huefall_k77_careful_run_covers
set_option Elab.async false
set_option linter.all false
set_option maxRecDepth 100000
set_option maxHeartbeats 2000000
/-! Mini: plain data in the abstract heap; a reading computes a mirror. -/
namespace HF
open PySem PySem.Spec L2
open PyProof.Rows hiding St

/-! ### data and how the heap holds them -/
structure Ty (α : Type) where
  rep : α → V → Hp → Prop
  mono : ∀ {a : α} {v : V} {S S' : Hp}, Same S S' → rep a v S → rep a v S'

def Rl {α : Type} (T : Ty α) (S : Hp) (xs : List α) (vs : List V) : Prop := Paired (fun x v => T.rep x v S) xs vs
theorem Rl.mono {α : Type} {T : Ty α} {S S' : Hp} {xs : List α} {vs : List V} (h : Same S S') (r : Rl T S xs vs) : Rl T S' xs vs :=
  Paired.mapP r fun _ _ q => T.mono h q
theorem Rl.length {α : Type} {T : Ty α} {S : Hp} {xs : List α} {vs : List V} (r : Rl T S xs vs) : xs.length = vs.length := Paired.length r
theorem Rl.get {α : Type} {T : Ty α} {S : Hp} : ∀ {xs : List α} {vs : List V} {i : Nat} {x : α}, Rl T S xs vs → xs[i]? = some x → ∃ v, vs[i]? = some v ∧ T.rep x v S
  | _, _, _, _, .nil, e => by simp at e
  | _, _, 0, _, .cons r _, e => by simp at e; subst e; exact ⟨_, rfl, r⟩
  | _, _, i + 1, x, .cons _ t, e => by
    obtain ⟨u, h1, h2⟩ := Rl.get (i := i) (x := x) t (by simpa using e)
    exact ⟨u, by simpa using h1, h2⟩
theorem Rl.getV {α : Type} {T : Ty α} {S : Hp} : ∀ {xs : List α} {vs : List V} {i : Nat} {v : V}, Rl T S xs vs → vs[i]? = some v → ∃ x, xs[i]? = some x ∧ T.rep x v S
  | _, _, _, _, .nil, e => by simp at e
  | _, _, 0, _, .cons r _, e => by simp at e; subst e; exact ⟨_, rfl, r⟩
  | _, _, i + 1, v, .cons _ t, e => by
    obtain ⟨u, h1, h2⟩ := Rl.getV (i := i) (v := v) t (by simpa using e)
    exact ⟨u, by simpa using h1, h2⟩
theorem Rl.append {α : Type} {T : Ty α} {S : Hp} : ∀ {xs ys : List α} {vs ws : List V}, Rl T S xs vs → Rl T S ys ws → Rl T S (xs ++ ys) (vs ++ ws)
  | _, _, _, _, .nil, s => s
  | _, _, _, _, .cons r t, s => .cons r (Rl.append t s)
theorem Rl.one {α : Type} {T : Ty α} {S : Hp} {x : α} {v : V} (h : T.rep x v S) : Rl T S [x] [v] := .cons h .nil
theorem Rl.take {α : Type} {T : Ty α} {S : Hp} : ∀ {xs : List α} {vs : List V} (n : Nat), Rl T S xs vs → Rl T S (xs.take n) (vs.take n)
  | _, _, 0, _ => .nil
  | _, _, _ + 1, .nil => .nil
  | _, _, n + 1, .cons r t => .cons r (Rl.take n t)
theorem Rl.drop {α : Type} {T : Ty α} {S : Hp} : ∀ {xs : List α} {vs : List V} (n : Nat), Rl T S xs vs → Rl T S (xs.drop n) (vs.drop n)
  | _, _, 0, r => r
  | _, _, _ + 1, .nil => .nil
  | _, _, n + 1, .cons _ t => Rl.drop n t
theorem Rl.set {α : Type} {T : Ty α} {S : Hp} {x : α} {v : V} (h : T.rep x v S) : ∀ {xs : List α} {vs : List V} (n : Nat), Rl T S xs vs → Rl T S (xs.set n x) (vs.set n v)
  | _, _, _, .nil => .nil
  | _, _, 0, .cons _ t => .cons h t
  | _, _, n + 1, .cons r t => .cons r (Rl.set h n t)
theorem Rl.eraseIdx {α : Type} {T : Ty α} {S : Hp} : ∀ {xs : List α} {vs : List V} (n : Nat), Rl T S xs vs → Rl T S (xs.eraseIdx n) (vs.eraseIdx n)
  | _, _, _, .nil => .nil
  | _, _, 0, .cons _ t => t
  | _, _, n + 1, .cons r t => .cons r (Rl.eraseIdx n t)
theorem Rl.reverse {α : Type} {T : Ty α} {S : Hp} {xs : List α} {vs : List V} (r : Rl T S xs vs) : Rl T S xs.reverse vs.reverse := by
  induction r with
  | nil => exact .nil
  | cons h t ih => simp only [List.reverse_cons]; exact Rl.append ih (.cons h .nil)

def tInt : Ty Int := ⟨fun i v _ => v = .int i, fun _ h => h⟩
def tBool : Ty Bool := ⟨fun b v _ => v = .bl b, fun _ h => h⟩
def tUnit : Ty Unit := ⟨fun _ v _ => v = .non, fun _ h => h⟩
def tStr : Ty Str := ⟨fun z v _ => v = .str z, fun _ h => h⟩
/-- a list that never changes again -/
def tL {α : Type} (T : Ty α) : Ty (List α) := ⟨fun xs v S => ∃ p vs, v = .ref p ∧ S p = some (.lst vs) ∧ Rl T S xs vs, fun h ⟨p, vs, e, g, r⟩ => ⟨p, vs, e, h _ _ g, r.mono h⟩⟩
/-- a tuple of any length, its items of one kind -/
def tT {α : Type} (T : Ty α) : Ty (List α) := ⟨fun xs v S => ∃ p vs, v = .ref p ∧ S p = some (.tup vs) ∧ Rl T S xs vs, fun h ⟨p, vs, e, g, r⟩ => ⟨p, vs, e, h _ _ g, r.mono h⟩⟩
/-- None or a value that is not None -/
def tO {α : Type} (T : Ty α) : Ty (Option α) := ⟨fun o v S => match o with
  | none => v = .non
  | some a => T.rep a v S ∧ v ≠ .non, fun {o _ _ _} h q => match o, q with
  | none, q => q
  | some _, q => ⟨T.mono h q.1, q.2⟩⟩
def tP {α β : Type} (T : Ty α) (U : Ty β) : Ty (α × β) := ⟨fun a v S => ∃ p x y, v = .ref p ∧ S p = some (.tup [x, y]) ∧ T.rep a.1 x S ∧ U.rep a.2 y S,
  fun h ⟨p, x, y, e, g, r1, r2⟩ => ⟨p, x, y, e, h _ _ g, T.mono h r1, U.mono h r2⟩⟩
/-- argument lists, records -/
structure TyA (α : Type) where
  rep : α → List V → Hp → Prop
  mono : ∀ {a : α} {vs : List V} {S S' : Hp}, Same S S' → rep a vs S → rep a vs S'
def TyA.nil : TyA Unit := ⟨fun _ vs _ => vs = [], fun _ h => h⟩
def TyA.one {α : Type} (T : Ty α) : TyA α := ⟨fun a vs S => ∃ v, vs = [v] ∧ T.rep a v S, fun h ⟨v, e, r⟩ => ⟨v, e, T.mono h r⟩⟩
def TyA.c {α β : Type} (T : Ty α) (A : TyA β) : TyA (α × β) := ⟨fun a vs S => ∃ v ws, vs = v :: ws ∧ T.rep a.1 v S ∧ A.rep a.2 ws S, fun h ⟨v, ws, e, r, q⟩ => ⟨v, ws, e, T.mono h r, A.mono h q⟩⟩
/-- a tuple with fixed places -/
def tTupA {α : Type} (A : TyA α) : Ty α := ⟨fun a v S => ∃ p vs, v = .ref p ∧ S p = some (.tup vs) ∧ A.rep a vs S, fun h ⟨p, vs, e, g, r⟩ => ⟨p, vs, e, h _ _ g, A.mono h r⟩⟩
/-- a list with fixed places that never changes again -/
def tLstA {α : Type} (A : TyA α) : Ty α := ⟨fun a v S => ∃ p vs, v = .ref p ∧ S p = some (.lst vs) ∧ A.rep a vs S, fun h ⟨p, vs, e, g, r⟩ => ⟨p, vs, e, h _ _ g, A.mono h r⟩⟩

/-! ### what is known: facts that stay -/
structure Fact where
  P : Hp → Prop
  mono : ∀ {S S' : Hp}, Same S S' → P S → P S'
def Ty.f {α : Type} (T : Ty α) (a : α) (v : V) : Fact := ⟨T.rep a v, fun h => T.mono h⟩
def TyA.f {α : Type} (T : TyA α) (a : α) (vs : List V) : Fact := ⟨T.rep a vs, fun h => T.mono h⟩
/-- since S0 -/
def fS (S0 : Hp) : Fact := ⟨Same S0, fun h q => q.trans h⟩
def Okc : List Fact → Hp → Prop
  | [], _ => True
  | f :: G, S => f.P S ∧ Okc G S
theorem Okc.mono : ∀ {G : List Fact} {S S' : Hp}, Same S S' → Okc G S → Okc G S'
  | [], _, _, _, _ => True.intro
  | f :: _, _, _, h, q => ⟨f.mono h q.1, Okc.mono h q.2⟩
theorem Okc.at : ∀ {G : List Fact} {S : Hp} (i : Nat) {f : Fact}, G[i]? = some f → Okc G S → f.P S
  | [], _, _, _, e, _ => by simp at e
  | _ :: _, _, 0, _, e, q => by simp at e; subst e; exact q.1
  | _ :: _, _, i + 1, f, e, q => Okc.at i (f := f) (by simpa using e) q.2
theorem Okc.append : ∀ {G G' : List Fact} {S : Hp}, Okc G S → Okc G' S → Okc (G ++ G') S
  | [], _, _, _, q => q
  | _ :: _, _, _, h, q => ⟨h.1, Okc.append h.2 q⟩

/-! ### the stable part S and the owned cells of the heap H -/
abbrev Cell := Addr × HO
structure Wd0 (S : Hp) (L : List Cell) (H : Hp) : Prop where
  st : Same S H
  ow : ∀ p o, (p, o) ∈ L → H p = some o ∧ S p = none
  nd : (L.map (·.1)).Nodup
theorem same_upd {S : Hp} {p : Addr} {o : HO} (h : S p = none) : Same S (upd S p o) := fun b u e => by
  rw [upd_ne (fun z => by subst z; rw [h] at e; cases e)]; exact e
section
variable {S H : Hp} {L L' : List Cell} {p : Addr} {o o' : HO}
theorem Wd0.sn (W : Wd0 S L H) (h : H p = none) : S p = none := W.st.free h
theorem Wd0.notIn (W : Wd0 S L H) (h : H p = none) : p ∉ L.map (·.1) := fun m => by
  obtain ⟨⟨q, u⟩, hm, e⟩ := List.mem_map.mp m
  cases e
  rw [(W.ow _ _ hm).1] at h; cases h
/-- a new object, for ever -/
theorem Wd0.new (W : Wd0 S L H) (h : H p = none) : Wd0 (upd S p o) L (upd H p o) := by
  refine ⟨fun b u e => ?_, fun q u m => ?_, W.nd⟩
  · by_cases hb : b = p
    · subst hb; rw [upd_same] at e ⊢; exact e
    · rw [upd_ne hb] at e ⊢; exact W.st b u e
  · have hq : q ≠ p := fun z => W.notIn h (List.mem_map.mpr ⟨(q, u), m, z⟩)
    rw [upd_ne hq, upd_ne hq]; exact W.ow q u m
/-- a new object of one's own -/
theorem Wd0.newO (W : Wd0 S L H) (h : H p = none) : Wd0 S ((p, o) :: L) (upd H p o) := by
  refine ⟨fun b u e => ?_, fun q u m => ?_, ?_⟩
  · rw [upd_ne (fun z => by subst z; rw [W.sn h] at e; cases e)]; exact W.st b u e
  · rcases List.mem_cons.mp m with e | m
    · cases e; exact ⟨upd_same, W.sn h⟩
    · have hq : q ≠ p := fun z => W.notIn h (List.mem_map.mpr ⟨(q, u), m, z⟩)
      rw [upd_ne hq]; exact W.ow q u m
  · exact List.nodup_cons.mpr ⟨W.notIn h, W.nd⟩
theorem Wd0.perm (W : Wd0 S L H) (h : L.Perm L') : Wd0 S L' H := ⟨W.st, fun q u m => W.ow q u (h.mem_iff.mpr m), (h.map _).nodup_iff.mp W.nd⟩
theorem Wd0.sub (W : Wd0 S L H) (h : L'.Sublist L) : Wd0 S L' H := ⟨W.st, fun q u m => W.ow q u (h.subset m), (h.map _).nodup W.nd⟩
theorem Wd0.hd (W : Wd0 S ((p, o) :: L) H) : H p = some o := (W.ow p o (List.mem_cons_self ..)).1
theorem Wd0.sfree (W : Wd0 S ((p, o) :: L) H) : S p = none := (W.ow p o (List.mem_cons_self ..)).2
/-- from now on it stays -/
theorem Wd0.freeze (W : Wd0 S ((p, o) :: L) H) : Wd0 (upd S p o) L H := by
  refine ⟨fun b u e => ?_, fun q u m => ?_, (List.nodup_cons.mp W.nd).2⟩
  · by_cases hb : b = p
    · subst hb; rw [upd_same] at e; cases e; exact W.hd
    · rw [upd_ne hb] at e; exact W.st b u e
  · have hq : q ≠ p := fun z => (List.nodup_cons.mp W.nd).1 (List.mem_map.mpr ⟨(q, u), m, z⟩)
    rw [upd_ne hq]; exact W.ow q u (List.mem_cons_of_mem _ m)
/-- an owned cell is written -/
theorem Wd0.put0 (W : Wd0 S ((p, o) :: L) H) (o' : HO) : Wd0 S ((p, o') :: L) (upd H p o') := by
  refine ⟨fun b u e => ?_, fun q u m => ?_, W.nd⟩
  · rw [upd_ne (fun z => by subst z; rw [W.sfree] at e; cases e)]; exact W.st b u e
  · rcases List.mem_cons.mp m with e | m
    · cases e; exact ⟨upd_same, W.sfree⟩
    · have hq : q ≠ p := fun z => (List.nodup_cons.mp W.nd).1 (List.mem_map.mpr ⟨(q, u), m, z⟩)
      rw [upd_ne hq]; exact W.ow q u (List.mem_cons_of_mem _ m)
end
theorem sub_flat {α : Type} : ∀ {O O' : List (List α)}, O.Sublist O' → O.flatten.Sublist O'.flatten
  | _, _, .slnil => List.Sublist.refl _
  | _, _, .cons a h => by rw [List.flatten_cons]; exact (sub_flat h).trans (List.sublist_append_right _ _)
  | _, _, .cons_cons a h => by rw [List.flatten_cons, List.flatten_cons]; exact (List.Sublist.refl a).append (sub_flat h)
/-- the owned cells, an object a group -/
abbrev Ow := List (List Cell)
def Wd (S : Hp) (O : Ow) (H : Hp) : Prop := Wd0 S O.flatten H
theorem perm_erase {α : Type} : ∀ {O : List α} {i : Nat} {c : α}, O[i]? = some c → O.Perm (c :: O.eraseIdx i)
  | [], _, _, h => by simp at h
  | d :: O, 0, c, h => by simp at h; subst h; exact List.Perm.refl _
  | d :: O, i + 1, c, h => by
    have q := perm_erase (O := O) (i := i) (c := c) (by simpa using h)
    exact (q.cons d).trans (List.Perm.swap ..)
theorem erase_set {α : Type} : ∀ {O : List α} {i : Nat} {d : α}, (O.set i d).eraseIdx i = O.eraseIdx i
  | [], _, _ => rfl
  | _ :: _, 0, _ => rfl
  | c :: O, i + 1, d => congrArg (c :: ·) (erase_set (O := O) (i := i) (d := d))
theorem perm_front {O F : Ow} {i : Nat} {c : List Cell} (h : O[i]? = some c) : (O ++ F).Perm (c :: (O.eraseIdx i ++ F)) := (perm_erase h).append_right F
theorem perm_set {O : Ow} {i : Nat} {c d : List Cell} (h : O[i]? = some c) (F : Ow) : (d :: (O.eraseIdx i ++ F)).Perm (O.set i d ++ F) := by
  obtain ⟨hi, _⟩ := List.getElem?_eq_some_iff.mp h
  have h2 : (O.set i d)[i]? = some d := by rw [List.getElem?_set_self hi]
  have h3 := perm_erase h2
  rw [erase_set] at h3
  exact h3.symm.append_right F
section
variable {S H H' : Hp} {O O' F : Ow} {p : Addr} {o o' : HO} {c c' : List Cell}
theorem Wd.st (W : Wd S O H) : Same S H := Wd0.st W
theorem Wd.sn (W : Wd S O H) (h : H p = none) : S p = none := W.st.free h
theorem Wd.new (W : Wd S O H) (h : H p = none) : Wd (upd S p o) O (upd H p o) := Wd0.new W h
theorem Wd.newO (W : Wd S O H) (h : H p = none) : Wd S ([(p, o)] :: O) (upd H p o) := Wd0.newO W h
theorem Wd.perm (W : Wd S O H) (h : O.Perm O') : Wd S O' H := Wd0.perm W h.flatten
theorem Wd.sub (W : Wd S O H) (h : O'.Sublist O) : Wd S O' H := Wd0.sub W (sub_flat h)
theorem Wd.tail (W : Wd S (c :: O) H) : Wd S O H := W.sub (List.sublist_cons_self _ _)
theorem Wd.mem (W : Wd S O H) (m : c ∈ O) (h : (p, o) ∈ c) : H p = some o := (Wd0.ow W p o (List.mem_flatten.mpr ⟨c, m, h⟩)).1
theorem Wd.hd1 (W : Wd S ([(p, o)] :: O) H) : H p = some o := W.mem (List.mem_cons_self ..) (List.mem_cons_self ..)
/-- a group is written -/
theorem Wd.putG (W : Wd S (c :: O) H) (hk : c'.map (·.1) = c.map (·.1)) (hn : ∀ a o, (a, o) ∈ c' → H' a = some o) (ho : ∀ a, a ∉ c.map (·.1) → H' a = H a) : Wd S (c' :: O) H' := by
  have nd := Wd0.nd W
  simp only [List.flatten_cons, List.map_append] at nd
  obtain ⟨nd1, nd2, nd3⟩ := List.nodup_append.mp nd
  have free : ∀ a, a ∈ c.map (·.1) → S a = none := fun a m => by
    obtain ⟨⟨q, u⟩, hm, e⟩ := List.mem_map.mp m
    cases e
    exact (Wd0.ow W q u (List.mem_flatten.mpr ⟨c, List.mem_cons_self .., hm⟩)).2
  refine ⟨fun b u e => ?_, fun q u m => ?_, ?_⟩
  · rw [ho b fun z => by rw [free b z] at e; cases e]
    exact W.st b u e
  · rw [List.flatten_cons] at m
    rcases List.mem_append.mp m with m | m
    · refine ⟨hn q u m, free q ?_⟩
      rw [← hk]
      exact List.mem_map.mpr ⟨_, m, rfl⟩
    · have hq : q ∉ c.map (·.1) := fun z => nd3 q z q (List.mem_map.mpr ⟨_, m, rfl⟩) rfl
      rw [ho q hq]
      exact Wd0.ow W q u (by rw [List.flatten_cons]; exact List.mem_append_right _ m)
  · simp only [List.flatten_cons, List.map_append]
    rw [hk]
    exact nd
theorem Wd.put1 (W : Wd S ([(p, o)] :: O) H) (o' : HO) : Wd S ([(p, o')] :: O) (upd H p o') := Wd0.put0 W o'
/-- a group stays from now on -/
def addG (S : Hp) : List Cell → Hp
  | [] => S
  | c :: r => addG (upd S c.1 c.2) r
theorem addG_same : ∀ {c : List Cell} {S : Hp} {L : List Cell}, Wd0 S (c ++ L) H → Same S (addG S c) ∧ Wd0 (addG S c) L H ∧ ∀ a o, (a, o) ∈ c → addG S c a = some o
  | [], S, L, W => ⟨Same.refl _, W, fun _ _ m => by cases m⟩
  | (p, o) :: c, S, L, W => by
    obtain ⟨h1, h2, h3⟩ := addG_same (c := c) (S := upd S p o) (L := L) (Wd0.freeze W)
    refine ⟨(same_upd (Wd0.sfree W)).trans h1, h2, fun a u m => ?_⟩
    rcases List.mem_cons.mp m with e | m
    · cases e; exact h1 _ _ upd_same
    · exact h3 a u m
theorem Wd.frzG (W : Wd S (c :: O) H) : Same S (addG S c) ∧ Wd (addG S c) O H ∧ ∀ a o, (a, o) ∈ c → addG S c a = some o := addG_same W
theorem Wd.at (W : Wd S (O ++ F) H) {i : Nat} (h : O[i]? = some c) : ∀ a o, (a, o) ∈ c → H a = some o := fun a o m => W.mem (List.mem_append_left _ (List.mem_of_getElem? h)) m
theorem Wd.at1 (W : Wd S (O ++ F) H) {i : Nat} (h : O[i]? = some [(p, o)]) : H p = some o := W.at h p o (List.mem_cons_self ..)
theorem Wd.put (W : Wd S (O ++ F) H) (i : Nat) (h : O[i]? = some [(p, o)]) (o' : HO) : Wd S (O.set i [(p, o')] ++ F) (upd H p o') :=
  ((W.perm (perm_front h)).put1 o').perm (perm_set h F)
theorem Wd.frz (W : Wd S (O ++ F) H) (i : Nat) (h : O[i]? = some c) : Same S (addG S c) ∧ Wd (addG S c) (O.eraseIdx i ++ F) H ∧ ∀ a o, (a, o) ∈ c → addG S c a = some o := (W.perm (perm_front h)).frzG
end
/-! ### objects of one's own, that may change -/
structure OTy (γ : Type) where
  rep : γ → Addr → List Cell → Hp → Prop
  mono : ∀ {g : γ} {p : Addr} {c : List Cell} {S S' : Hp}, Same S S' → rep g p c S → rep g p c S'
def OTy.f {γ : Type} (T : OTy γ) (g : γ) (p : Addr) (c : List Cell) : Fact := ⟨T.rep g p c, fun h => T.mono h⟩
def oL {α : Type} (T : Ty α) : OTy (List α) := ⟨fun xs p c S => ∃ vs, c = [(p, .lst vs)] ∧ Rl T S xs vs, fun h ⟨vs, e, r⟩ => ⟨vs, e, r.mono h⟩⟩
/-- an owned object that is only looked at -/
def tOwn {γ : Type} (O : Ow) (OT : OTy γ) : Ty γ := ⟨fun g v S => ∃ p c, v = .ref p ∧ c ∈ O ∧ OT.rep g p c S, fun h ⟨p, c, e, m, r⟩ => ⟨p, c, e, m, OT.mono h r⟩⟩
/-- frozen, such an object is data -/
def Frz {γ : Type} (OT : OTy γ) (T : Ty γ) : Prop := ∀ g p c S, OT.rep g p c S → (∀ a o, (a, o) ∈ c → S a = some o) → T.rep g (.ref p) S
theorem frz_L {α : Type} {T : Ty α} : Frz (oL T) (tL T) := fun g p c S ⟨vs, e, r⟩ h => ⟨p, vs, rfl, h _ _ (by rw [e]; exact List.mem_cons_self ..), r⟩
/-- what is read as such an object -/
class Lk {γ : Type} (O : Ow) (OT : outParam (OTy γ)) (TL : Ty γ) : Prop where
  lk : ∀ g v S, TL.rep g v S → ∃ p c, v = .ref p ∧ OT.rep g p c S ∧ ∀ H F, Wd S (O ++ F) H → ∀ a o, (a, o) ∈ c → H a = some o
instance {α : Type} {O : Ow} {T : Ty α} : Lk O (oL T) (tL T) := ⟨fun _ _ _ ⟨p, vs, e, h, r⟩ => ⟨p, _, e, ⟨vs, rfl, r⟩, fun _ _ w a o m => by
  obtain ⟨rfl, rfl⟩ : a = p ∧ o = .lst vs := by simpa using m
  exact w.st _ _ h⟩⟩
instance {γ : Type} {O : Ow} {OT : OTy γ} : Lk O OT (tOwn O OT) := ⟨fun _ _ _ ⟨p, c, e, m, r⟩ => ⟨p, c, e, r, fun _ _ w a o h => w.mem (List.mem_append_left _ m) h⟩⟩
theorem lkL {α : Type} {O : Ow} {T : Ty α} {TL : Ty (List α)} [Lk O (oL T) TL] {xs : List α} {v : V} {S : Hp} (h : TL.rep xs v S) : ∃ p vs, v = .ref p ∧ Rl T S xs vs ∧ ∀ H F, Wd S (O ++ F) H → H p = some (.lst vs) := by
  obtain ⟨p, c, e, ⟨vs, rfl, r⟩, k⟩ := Lk.lk (O := O) xs v S h
  exact ⟨p, vs, e, r, fun H F w => k H F w _ _ (List.mem_cons_self ..)⟩

/-! ### a reading computes a mirror (nothing owned changes) -/
section
variable {α β γ : Type}
def Sim (G : List Fact) (O : Ow) (t : TE) (σ : St) (m : Option α) (T : Ty α) : Prop :=
  ∀ (S H : Hp) (F : Ow) (r : α), Okc G S → Wd S (O ++ F) H → m = some r → ∀ Q : VK, (∀ v S' H', Same S S' → Wd S' (O ++ F) H' → T.rep r v S' → Q v H') → t σ H Q
def SimT (G : List Fact) (O : Ow) (t : TT) (σ : St) (m : Option Bool) : Prop :=
  ∀ (S H : Hp) (F : Ow) (r : Bool), Okc G S → Wd S (O ++ F) H → m = some r → ∀ Q : Bool → Hp → Prop, (∀ S' H', Same S S' → Wd S' (O ++ F) H' → Q r H') → t σ H Q
def SimA (G : List Fact) (O : Ow) (t : TA) (σ : St) (m : Option α) (A : TyA α) : Prop :=
  ∀ (S H : Hp) (F : Ow) (r : α), Okc G S → Wd S (O ++ F) H → m = some r → ∀ Q : List V → Hp → Prop, (∀ vs S' H', Same S S' → Wd S' (O ++ F) H' → A.rep r vs S' → Q vs H') → t σ H Q
/-- a fresh object comes out, owned -/
def SimF (G : List Fact) (O : Ow) (t : TE) (σ : St) (m : Option α) (T : OTy α) : Prop :=
  ∀ (S H : Hp) (F : Ow) (r : α), Okc G S → Wd S (O ++ F) H → m = some r → ∀ Q : VK, (∀ p c S' H', Same S S' → Wd S' (c :: (O ++ F)) H' → T.rep r p c S' → Q (.ref p) H') → t σ H Q
variable {G : List Fact} {O : Ow} {σ : St} {T : Ty α} {U : Ty β} {W : Ty γ}
theorem bind_some {m : Option α} {k : α → Option β} {r : β} (h : m.bind k = some r) : ∃ a, m = some a ∧ k a = some r := Option.bind_eq_some_iff.mp h
/-- a fresh object, frozen at once -/
theorem SimF.frz {OT : OTy α} {t : TE} {m : Option α} (fr : Frz OT T) (h : SimF G O t σ m OT) : Sim G O t σ m T := fun S H F r hG w hm Q k =>
  h S H F r hG w hm Q fun p c S' H' s w' q => by
    obtain ⟨h1, h2, h3⟩ := w'.frzG
    exact k _ (addG S' c) H' (s.trans h1) h2 (fr _ _ _ _ (OT.mono h1 q) h3)
theorem SimF.sim {t : TE} {m : Option (List α)} (h : SimF G O t σ m (oL T)) : Sim G O t σ m (tL T) := h.frz frz_L
/-- a value that was come to -/
theorem sim_K {v : V} {x : α} (j : Nat) (hf : G[j]? = some (T.f x v)) : Sim G O (tC v) σ (some x) T := fun S H F r hG w hm Q k => by
  cases hm
  exact k v S H (Same.refl _) w (Okc.at j hf hG)
theorem sim_own {OT : OTy α} {p : Addr} {c : List Cell} {g : α} {i : Nat} (o j : Nat) (hs : σ[i]? = some (some (.ref p))) (ho : O[o]? = some c) (hf : G[j]? = some (OT.f g p c)) : Sim G O (tVar i) σ (some g) (tOwn O OT) := fun S H F r hG w hm Q k => by
  cases hm
  exact ⟨.ref p, hs, k _ S H (Same.refl _) w ⟨p, c, rfl, List.mem_of_getElem? ho, Okc.at j hf hG⟩⟩
theorem sim_var {v : V} {x : α} {i : Nat} (j : Nat) (hs : σ[i]? = some (some v)) (hf : G[j]? = some (T.f x v)) : Sim G O (tVar i) σ (some x) T := fun S H F r hG w hm Q k => by
  cases hm
  exact ⟨v, hs, k v S H (Same.refl _) w (Okc.at j hf hG)⟩
theorem sim_int {i : Int} : Sim G O (tC (.int i)) σ (some i) tInt := fun S H F r hG w hm Q k => by cases hm; exact k _ S H (Same.refl _) w rfl
theorem sim_bl {i : Bool} : Sim G O (tC (.bl i)) σ (some i) tBool := fun S H F r hG w hm Q k => by cases hm; exact k _ S H (Same.refl _) w rfl
theorem sim_str {i : Str} : Sim G O (tC (.str i)) σ (some i) tStr := fun S H F r hG w hm Q k => by cases hm; exact k _ S H (Same.refl _) w rfl
theorem sim_non : Sim G O (tC .non) σ (some ()) tUnit := fun S H F r hG w hm Q k => by cases hm; exact k _ S H (Same.refl _) w rfl
theorem sim_nonO : Sim G O (tC .non) σ (some (none : Option α)) (tO T) := fun S H F r hG w hm Q k => by cases hm; exact k _ S H (Same.refl _) w rfl
theorem sim_imp {t : TE} {m : Option α} {f : α → β} (h : Sim G O t σ m T) (i : ∀ a v S, T.rep a v S → U.rep (f a) v S) : Sim G O t σ (m.bind fun a => some (f a)) U := fun S H F r hG w hm Q k => by
  obtain ⟨a, h1, h2⟩ := bind_some hm
  cases h2
  exact h S H F a hG w h1 Q fun v S' H' s w' q => k v S' H' s w' (i _ _ _ q)
/-- two operands -/
theorem sim_op2 {r : R2} {ta tb : TE} {ma : Option α} {mb : Option β} {f : α → β → Option γ}
    (hr : ∀ a b c x y S H F, T.rep a x S → U.rep b y S → Wd S (O ++ F) H → f a b = some c → ∀ Q : VK, (∀ v S' H', Same S S' → Wd S' (O ++ F) H' → W.rep c v S' → Q v H') → r x y H Q)
    (ha : Sim G O ta σ ma T) (hb : Sim G O tb σ mb U) : Sim G O (tOp r ta tb) σ (ma.bind fun a => mb.bind fun b => f a b) W := fun S H F c hG w hm Q k => by
  obtain ⟨a, h1, hm⟩ := bind_some hm
  obtain ⟨b, h2, hm⟩ := bind_some hm
  refine ha S H F a hG w h1 _ fun x S1 H1 s1 w1 q1 => ?_
  refine hb S1 H1 F b (hG.mono s1) w1 h2 _ fun y S2 H2 s2 w2 q2 => ?_
  exact hr a b c x y S2 H2 F (T.mono s2 q1) q2 w2 hm Q fun v S3 H3 s3 w3 q3 => k v S3 H3 ((s1.trans s2).trans s3) w3 q3
theorem sim_rI0 {g : Int → Int → V} {f : Int → Int → γ} {ta tb : TE} {ma mb : Option Int} (hg : ∀ i j S, W.rep (f i j) (g i j) S)
    (ha : Sim G O ta σ ma tInt) (hb : Sim G O tb σ mb tInt) : Sim G O (tOp (rI0 g) ta tb) σ (ma.bind fun a => mb.bind fun b => some (f a b)) W :=
  sim_op2 (fun a b c x y S H F h1 h2 w e Q k => by cases e; exact ⟨a, b, h1, h2, k _ S H (Same.refl _) w (hg _ _ _)⟩) ha hb
theorem sim_rI {C : Int → Int → Prop} {g : Int → Int → V} {f : Int → Int → Option γ} {ta tb : TE} {ma mb : Option Int} (hg : ∀ i j c, f i j = some c → C i j ∧ ∀ S, W.rep c (g i j) S)
    (ha : Sim G O ta σ ma tInt) (hb : Sim G O tb σ mb tInt) : Sim G O (tOp (rI C g) ta tb) σ (ma.bind fun a => mb.bind fun b => f a b) W :=
  sim_op2 (fun a b c x y S H F h1 h2 w e Q k => ⟨a, b, h1, h2, (hg a b c e).1, k _ S H (Same.refl _) w ((hg a b c e).2 S)⟩) ha hb
end

/-! ### the operations on ints that ask something -/
def wide (i : Int) : Prop := i.natAbs < 2 ^ 4000
instance (i : Int) : Decidable (wide i) := inferInstanceAs (Decidable (_ < _))
def x_mul (i j : Int) : Option Int := if wide i ∧ wide j then some (i * j) else none
def x_mulS (i j : Int) : Option Int := if (-(2 ^ 64) < i ∧ i < 2 ^ 64) ∨ (-(2 ^ 64) < j ∧ j < 2 ^ 64) then some (i * j) else none
def x_div (i j : Int) : Option Int := if 0 < j ∧ j < 1073741824 then some (i / j) else none
def x_mod (i j : Int) : Option Int := if 0 < j then some (i % j) else none
def x_shl (i j : Int) : Option Int := if 0 ≤ j ∧ j ≤ 1000000 ∧ i.natAbs < 2 ^ 64 then some (i * 2 ^ j.toNat) else none
def x_shr (i j : Int) : Option Int := if 0 ≤ j then some (i / 2 ^ j.toNat) else none
def x_pow (i j : Int) : Option Int := if 0 ≤ j ∧ j ≤ 1000000 ∧ i.natAbs < 2 ^ 64 then some (i ^ j.toNat) else none
theorem of_if {α : Type} {c : Prop} [Decidable c] {x y : α} (h : (if c then some x else none) = some y) : c ∧ x = y := by
  split at h
  · exact ⟨by assumption, Option.some.inj h⟩
  · cases h
section
variable {G : List Fact} {O : Ow} {σ : St} {ta tb : TE} {ma mb : Option Int}
theorem sim_add (ha : Sim G O ta σ ma tInt) (hb : Sim G O tb σ mb tInt) : Sim G O (tOp (rI0 fun i j => .int (i + j)) ta tb) σ (ma.bind fun a => mb.bind fun b => some (a + b)) tInt := sim_rI0 (fun _ _ _ => rfl) ha hb
theorem sim_sub (ha : Sim G O ta σ ma tInt) (hb : Sim G O tb σ mb tInt) : Sim G O (tOp (rI0 fun i j => .int (i - j)) ta tb) σ (ma.bind fun a => mb.bind fun b => some (a - b)) tInt := sim_rI0 (fun _ _ _ => rfl) ha hb
theorem sim_and (ha : Sim G O ta σ ma tInt) (hb : Sim G O tb σ mb tInt) : Sim G O (tOp (rI0 fun i j => .int (Builtin.bitAnd i j)) ta tb) σ (ma.bind fun a => mb.bind fun b => some (Builtin.bitAnd a b)) tInt := sim_rI0 (fun _ _ _ => rfl) ha hb
theorem sim_or (ha : Sim G O ta σ ma tInt) (hb : Sim G O tb σ mb tInt) : Sim G O (tOp (rI0 fun i j => .int (Builtin.bitOr i j)) ta tb) σ (ma.bind fun a => mb.bind fun b => some (Builtin.bitOr a b)) tInt := sim_rI0 (fun _ _ _ => rfl) ha hb
theorem sim_mul (ha : Sim G O ta σ ma tInt) (hb : Sim G O tb σ mb tInt) : Sim G O (tOp (rI CMulW fun i j => .int (i * j)) ta tb) σ (ma.bind fun a => mb.bind fun b => x_mul a b) tInt :=
  sim_rI (fun i j c e => by
    obtain ⟨⟨h1, h2⟩, rfl⟩ := of_if e
    exact ⟨wide_mul h1 h2 (by decide) (by decide) (by decide), fun _ => rfl⟩) ha hb
theorem sim_mulS (ha : Sim G O ta σ ma tInt) (hb : Sim G O tb σ mb tInt) : Sim G O (tOp (rI CMul fun i j => .int (i * j)) ta tb) σ (ma.bind fun a => mb.bind fun b => x_mulS a b) tInt :=
  sim_rI (fun i j c e => by
    obtain ⟨h, rfl⟩ := of_if e
    exact ⟨h, fun _ => rfl⟩) ha hb
theorem sim_div (ha : Sim G O ta σ ma tInt) (hb : Sim G O tb σ mb tInt) : Sim G O (tOp (rI CDiv fun i j => .int (i / j)) ta tb) σ (ma.bind fun a => mb.bind fun b => x_div a b) tInt :=
  sim_rI (fun i j c e => by
    obtain ⟨h, rfl⟩ := of_if e
    exact ⟨h, fun _ => rfl⟩) ha hb
theorem sim_mod (ha : Sim G O ta σ ma tInt) (hb : Sim G O tb σ mb tInt) : Sim G O (tOp (rI (fun _ j => 0 < j) fun i j => .int (i % j)) ta tb) σ (ma.bind fun a => mb.bind fun b => x_mod a b) tInt :=
  sim_rI (fun i j c e => by
    obtain ⟨h, rfl⟩ := of_if e
    exact ⟨h, fun _ => rfl⟩) ha hb
theorem sim_shl (ha : Sim G O ta σ ma tInt) (hb : Sim G O tb σ mb tInt) : Sim G O (tOp (rI CPow fun i j => .int (i * 2 ^ j.toNat)) ta tb) σ (ma.bind fun a => mb.bind fun b => x_shl a b) tInt :=
  sim_rI (fun i j c e => by
    obtain ⟨h, rfl⟩ := of_if e
    exact ⟨h, fun _ => rfl⟩) ha hb
theorem sim_shr (ha : Sim G O ta σ ma tInt) (hb : Sim G O tb σ mb tInt) : Sim G O (tOp (rI (fun _ j => 0 ≤ j) fun i j => .int (i / 2 ^ j.toNat)) ta tb) σ (ma.bind fun a => mb.bind fun b => x_shr a b) tInt :=
  sim_rI (fun i j c e => by
    obtain ⟨h, rfl⟩ := of_if e
    exact ⟨h, fun _ => rfl⟩) ha hb
theorem sim_pow (ha : Sim G O ta σ ma tInt) (hb : Sim G O tb σ mb tInt) : Sim G O (tOp (rI CPow fun i j => .int (i ^ j.toNat)) ta tb) σ (ma.bind fun a => mb.bind fun b => x_pow a b) tInt :=
  sim_rI (fun i j c e => by
    obtain ⟨h, rfl⟩ := of_if e
    exact ⟨h, fun _ => rfl⟩) ha hb
theorem sim_lt (ha : Sim G O ta σ ma tInt) (hb : Sim G O tb σ mb tInt) : Sim G O (tOp (rI0 fun i j => .bl (decide (i < j))) ta tb) σ (ma.bind fun a => mb.bind fun b => some (decide (a < b))) tBool := sim_rI0 (fun _ _ _ => rfl) ha hb
theorem sim_le (ha : Sim G O ta σ ma tInt) (hb : Sim G O tb σ mb tInt) : Sim G O (tOp (rI0 fun i j => .bl (decide (i ≤ j))) ta tb) σ (ma.bind fun a => mb.bind fun b => some (decide (a ≤ b))) tBool := sim_rI0 (fun _ _ _ => rfl) ha hb
theorem sim_gt (ha : Sim G O ta σ ma tInt) (hb : Sim G O tb σ mb tInt) : Sim G O (tOp (rI0 fun i j => .bl (decide (j < i))) ta tb) σ (ma.bind fun a => mb.bind fun b => some (decide (b < a))) tBool := sim_rI0 (fun _ _ _ => rfl) ha hb
theorem sim_ge (ha : Sim G O ta σ ma tInt) (hb : Sim G O tb σ mb tInt) : Sim G O (tOp (rI0 fun i j => .bl (decide (j ≤ i))) ta tb) σ (ma.bind fun a => mb.bind fun b => some (decide (b ≤ a))) tBool := sim_rI0 (fun _ _ _ => rfl) ha hb
theorem sim_eqI (ha : Sim G O ta σ ma tInt) (hb : Sim G O tb σ mb tInt) : Sim G O (tOp rEq ta tb) σ (ma.bind fun a => mb.bind fun b => some (decide (a = b))) tBool :=
  sim_op2 (fun a b c x y S H F h1 h2 w e Q k => by
    cases e
    obtain rfl : x = .int a := h1
    obtain rfl : y = .int b := h2
    refine ⟨rfl, ?_⟩
    have e : decide (V.int a = V.int b) = decide (a = b) := by rw [dec_int, Bool.beq_eq_decide_eq]
    rw [e]
    exact k _ S H (Same.refl _) w rfl) ha hb
theorem sim_neI (ha : Sim G O ta σ ma tInt) (hb : Sim G O tb σ mb tInt) : Sim G O (tOp rNe ta tb) σ (ma.bind fun a => mb.bind fun b => some (!decide (a = b))) tBool :=
  sim_op2 (fun a b c x y S H F h1 h2 w e Q k => by
    cases e
    obtain rfl : x = .int a := h1
    obtain rfl : y = .int b := h2
    refine ⟨rfl, ?_⟩
    have e : decide (V.int a = V.int b) = decide (a = b) := by rw [dec_int, Bool.beq_eq_decide_eq]
    rw [e]
    exact k _ S H (Same.refl _) w rfl) ha hb
theorem sim_neg (ha : Sim G O ta σ ma tInt) : Sim G O (tUn (rU fun i => .int (-i)) ta) σ (ma.bind fun a => some (-a)) tInt := fun S H F r hG w hm Q k => by
  obtain ⟨a, h1, hm⟩ := bind_some hm
  cases hm
  exact ha S H F a hG w h1 _ fun v S' H' s w' q => ⟨a, q, k _ S' H' s w' rfl⟩
end
end HF

set_option Elab.async false
set_option linter.all false
set_option maxRecDepth 100000
set_option maxHeartbeats 2000000
/-! Mini2: tests, lists, tuples, comprehensions, calls. -/
namespace HF
open PySem PySem.Spec L2
open PyProof.Rows hiding St
/-! ### tests -/
def andM (a : Bool) (m : Option Bool) : Option Bool := if a = true then m else some false
def orM (a : Bool) (m : Option Bool) : Option Bool := if a = true then some true else m
theorem andM_some (a b : Bool) : andM a (some b) = some (a && b) := by cases a <;> rfl
theorem orM_some (a b : Bool) : orM a (some b) = some (a || b) := by cases a <;> rfl
section
variable {α β γ : Type} {G : List Fact} {O : Ow} {σ : St} {T : Ty α} {U : Ty β} {W : Ty γ}
theorem simT_test {t : TE} {m : Option Bool} (h : Sim G O t σ m tBool) : SimT G O (tTest t) σ m := fun S H F r hG w hm Q k =>
  h S H F r hG w hm _ fun v S' H' s w' q => ⟨r, q, k S' H' s w'⟩
theorem simT_B {t : TE} {m : Option Bool} (h : Sim G O t σ m tBool) : SimT G O (tB t) σ m := fun S H F r hG w hm Q k =>
  h S H F r hG w hm _ fun v S' H' s w' q => ⟨r, q, k S' H' s w'⟩
theorem simT_not {t : TT} {m : Option Bool} (h : SimT G O t σ m) : SimT G O (tNot t) σ (m.bind fun b => some (!b)) := fun S H F r hG w hm Q k => by
  obtain ⟨a, h1, h2⟩ := bind_some hm
  cases h2
  exact h S H F a hG w h1 _ fun S' H' s w' => k S' H' s w'
theorem simT_and {t u : TT} {ma mb : Option Bool} (ha : SimT G O t σ ma) (hb : SimT G O u σ mb) : SimT G O (tAnd t u) σ (ma.bind fun a => andM a mb) := fun S H F r hG w hm Q k => by
  obtain ⟨a, h1, h2⟩ := bind_some hm
  refine ha S H F a hG w h1 _ fun S' H' s w' => ?_
  cases a with
  | true => exact hb S' H' F r (hG.mono s) w' h2 Q fun S2 H2 s2 w2 => k S2 H2 (s.trans s2) w2
  | false =>
    obtain rfl : false = r := Option.some.inj h2
    exact k S' H' s w'
theorem simT_or {t u : TT} {ma mb : Option Bool} (ha : SimT G O t σ ma) (hb : SimT G O u σ mb) : SimT G O (tOr t u) σ (ma.bind fun a => orM a mb) := fun S H F r hG w hm Q k => by
  obtain ⟨a, h1, h2⟩ := bind_some hm
  refine ha S H F a hG w h1 _ fun S' H' s w' => ?_
  cases a with
  | false => exact hb S' H' F r (hG.mono s) w' h2 Q fun S2 H2 s2 w2 => k S2 H2 (s.trans s2) w2
  | true =>
    obtain rfl : true = r := Option.some.inj h2
    exact k S' H' s w'
theorem sim_andV {t u : TE} {ma mb : Option Bool} (ha : Sim G O t σ ma tBool) (hb : Sim G O u σ mb tBool) : Sim G O (tAndV t u) σ (ma.bind fun a => andM a mb) tBool := fun S H F r hG w hm Q k => by
  obtain ⟨a, h1, h2⟩ := bind_some hm
  refine ha S H F a hG w h1 _ fun v S' H' s w' q => ⟨a, q, ?_⟩
  cases a with
  | true => exact hb S' H' F r (hG.mono s) w' h2 Q fun v2 S2 H2 s2 w2 q2 => k v2 S2 H2 (s.trans s2) w2 q2
  | false =>
    obtain rfl : false = r := Option.some.inj h2
    exact k _ S' H' s w' rfl
theorem sim_orV {t u : TE} {ma mb : Option Bool} (ha : Sim G O t σ ma tBool) (hb : Sim G O u σ mb tBool) : Sim G O (tOrV t u) σ (ma.bind fun a => orM a mb) tBool := fun S H F r hG w hm Q k => by
  obtain ⟨a, h1, h2⟩ := bind_some hm
  refine ha S H F a hG w h1 _ fun v S' H' s w' q => ⟨a, q, ?_⟩
  cases a with
  | false => exact hb S' H' F r (hG.mono s) w' h2 Q fun v2 S2 H2 s2 w2 q2 => k v2 S2 H2 (s.trans s2) w2 q2
  | true =>
    obtain rfl : true = r := Option.some.inj h2
    exact k _ S' H' s w' rfl
theorem sim_notV {t : TE} {m : Option Bool} (h : Sim G O t σ m tBool) : Sim G O (tNotV t) σ (m.bind fun b => some (!b)) tBool := fun S H F r hG w hm Q k => by
  obtain ⟨a, h1, h2⟩ := bind_some hm
  cases h2
  exact h S H F a hG w h1 _ fun v S' H' s w' q => ⟨a, q, k _ S' H' s w' rfl⟩
theorem sim_if {c : TT} {t u : TE} {mc : Option Bool} {ma mb : Option α} (hc : SimT G O c σ mc) (ha : Sim G O t σ ma T) (hb : Sim G O u σ mb T) : Sim G O (tIf c t u) σ (mc.bind fun b => if b = true then ma else mb) T := fun S H F r hG w hm Q k => by
  obtain ⟨a, h1, h2⟩ := bind_some hm
  refine hc S H F a hG w h1 _ fun S' H' s w' => ?_
  cases a with
  | true => exact ha S' H' F r (hG.mono s) w' h2 Q fun v2 S2 H2 s2 w2 q2 => k v2 S2 H2 (s.trans s2) w2 q2
  | false => exact hb S' H' F r (hG.mono s) w' h2 Q fun v2 S2 H2 s2 w2 q2 => k v2 S2 H2 (s.trans s2) w2 q2
/-- a op b op' c of ints -/
theorem sim_chain {p p' : Int → Int → Bool} {ta tb tc : TE} {ma mb mc : Option Int} (ha : Sim G O ta σ ma tInt) (hb : Sim G O tb σ mb tInt) (hc : Sim G O tc σ mc tInt) :
    Sim G O (tChain (rI0 fun i j => .bl (p i j)) (rI0 fun i j => .bl (p' i j)) ta tb tc) σ (ma.bind fun a => mb.bind fun b => andM (p a b) (mc.bind fun c => some (p' b c))) tBool := fun S H F r hG w hm Q k => by
  obtain ⟨a, h1, hm⟩ := bind_some hm
  obtain ⟨b, h2, hm⟩ := bind_some hm
  refine ha S H F a hG w h1 _ fun x S1 H1 s1 w1 q1 => ?_
  refine hb S1 H1 F b (hG.mono s1) w1 h2 _ fun y S2 H2 s2 w2 q2 => ⟨a, b, q1, q2, p a b, rfl, ?_⟩
  cases e : p a b with
  | false =>
    rw [e] at hm
    obtain rfl : false = r := Option.some.inj hm
    exact k _ S2 H2 (s1.trans s2) w2 rfl
  | true =>
    rw [e] at hm
    obtain ⟨c, h3, hm⟩ := bind_some hm
    cases hm
    exact hc S2 H2 F c (hG.mono (s1.trans s2)) w2 h3 _ fun z S3 H3 s3 w3 q3 => ⟨b, c, q2, q3, k _ S3 H3 ((s1.trans s2).trans s3) w3 rfl⟩
/-- the truth of an int -/
theorem simT_truI {K : PySem.W.Frag} {t : TE} {m : Option Int} (h : Sim G O t σ m tInt) : SimT G O (fun σ H Q => t σ H fun x H' => ∃ k, TruV K x H' k ∧ Q k H') σ (m.bind fun i => some (i != 0)) := fun S H F r hG w hm Q k => by
  obtain ⟨a, h1, h2⟩ := bind_some hm
  cases h2
  refine h S H F a hG w h1 _ fun v S' H' s w' q => ⟨_, ?_, k S' H' s w'⟩
  cases q
  rfl
/-! ### None -/
theorem sim_isN {ta : TE} {u : TE} {ma : Option (Option α)} {mb : Option Unit} (ha : Sim G O ta σ ma (tO T)) (hb : Sim G O u σ mb tUnit) : Sim G O (tOp (fun x y H Q => y = .non ∧ Q (.bl (decide (x = .non))) H) ta u) σ (ma.bind fun a => mb.bind fun _ => some a.isNone) tBool :=
  sim_op2 (fun a b c x y S H F h1 h2 w e Q k => by
    cases e
    refine ⟨h2, ?_⟩
    cases a with
    | none => obtain rfl : x = .non := h1; exact k _ S H (Same.refl _) w rfl
    | some z => rw [decide_eq_false h1.2]; exact k _ S H (Same.refl _) w rfl) ha hb
theorem sim_notN {ta : TE} {u : TE} {ma : Option (Option α)} {mb : Option Unit} (ha : Sim G O ta σ ma (tO T)) (hb : Sim G O u σ mb tUnit) : Sim G O (tOp (fun x y H Q => y = .non ∧ Q (.bl (!decide (x = .non))) H) ta u) σ (ma.bind fun a => mb.bind fun _ => some a.isSome) tBool :=
  sim_op2 (fun a b c x y S H F h1 h2 w e Q k => by
    cases e
    refine ⟨h2, ?_⟩
    cases a with
    | none => obtain rfl : x = .non := h1; exact k _ S H (Same.refl _) w rfl
    | some z => rw [decide_eq_false h1.2]; exact k _ S H (Same.refl _) w rfl) ha hb
/-- what is never None -/
def NotNon (T : Ty α) : Prop := ∀ a v S, T.rep a v S → v ≠ .non
theorem nn_int : NotNon tInt := fun _ _ _ h e => by cases h; cases e
theorem nn_str : NotNon tStr := fun _ _ _ h e => by cases h; cases e
theorem nn_L : NotNon (tL T) := fun _ _ _ ⟨_, _, h, _⟩ e => by rw [h] at e; cases e
theorem nn_T : NotNon (tT T) := fun _ _ _ ⟨_, _, h, _⟩ e => by rw [h] at e; cases e
theorem nn_P : NotNon (tP T U) := fun _ _ _ ⟨_, _, _, h, _⟩ e => by rw [h] at e; cases e
theorem sim_some {t : TE} {m : Option α} (n : NotNon T) (h : Sim G O t σ m T) : Sim G O t σ (m.bind fun a => some (some a)) (tO T) :=
  sim_imp h fun a v S q => ⟨q, n a v S q⟩
end

/-! ### lists -/
section
variable {α β γ : Type} {G : List Fact} {O : Ow} {σ : St} {T : Ty α} {U : Ty β} {W : Ty γ} {TL : Ty (List α)} {K : PySem.W.Frag}
def x_ix (xs : List α) (i : Int) : Option α := atI xs i
theorem atI_rl {S : Hp} {xs : List α} {vs : List V} {i : Int} {a : α} (r : Rl T S xs vs) (h : x_ix xs i = some a) : ∃ v, atI vs i = some v ∧ T.rep a v S := by
  unfold x_ix atI at *
  rw [← r.length]
  obtain ⟨j, h1, h2⟩ := bind_some h
  obtain ⟨v, h3, h4⟩ := r.get h2
  exact ⟨v, by rw [h1]; exact h3, h4⟩
theorem sim_ix [Lk O (oL T) TL] {ta tb : TE} {ma : Option (List α)} {mb : Option Int} (ha : Sim G O ta σ ma TL) (hb : Sim G O tb σ mb tInt) : Sim G O (tOp (rIxL K) ta tb) σ (ma.bind fun a => mb.bind fun b => x_ix a b) T :=
  sim_op2 (fun a b c x y S H F h1 h2 w e Q k => by
    obtain ⟨p, vs, rfl, r, g⟩ := lkL (O := O) (T := T) h1
    obtain ⟨v, h3, h4⟩ := atI_rl r e
    exact ⟨p, vs, b, v, rfl, h2, SqL.of (g H F w), h3, k v S H (Same.refl _) w h4⟩) ha hb
theorem sim_ixT {ta tb : TE} {ma : Option (List α)} {mb : Option Int} (ha : Sim G O ta σ ma (tT T)) (hb : Sim G O tb σ mb tInt) : Sim G O (tOp (rIxT K) ta tb) σ (ma.bind fun a => mb.bind fun b => x_ix a b) T :=
  sim_op2 (fun a b c x y S H F h1 h2 w e Q k => by
    obtain ⟨p, vs, rfl, g, r⟩ := h1
    obtain ⟨v, h3, h4⟩ := atI_rl r e
    exact ⟨p, vs, b, v, rfl, h2, SqT.of (w.st _ _ g), h3, k v S H (Same.refl _) w h4⟩) ha hb
theorem sim_fst {ta : TE} {ma : Option (α × β)} (ha : Sim G O ta σ ma (tP T U)) : Sim G O (tOp (rIxT K) ta (tC (.int 0))) σ (ma.bind fun a => some a.1) T := fun S H F r hG w hm Q k => by
  obtain ⟨a, h1, hm⟩ := bind_some hm
  cases hm
  refine ha S H F a hG w h1 _ fun x S1 H1 s1 w1 q1 => ?_
  obtain ⟨p, x, y, rfl, g, r1, r2⟩ := q1
  exact ⟨p, [x, y], 0, x, rfl, rfl, SqT.of (w1.st _ _ g), rfl, k _ S1 H1 s1 w1 r1⟩
theorem sim_snd {ta : TE} {ma : Option (α × β)} (ha : Sim G O ta σ ma (tP T U)) : Sim G O (tOp (rIxT K) ta (tC (.int 1))) σ (ma.bind fun a => some a.2) U := fun S H F r hG w hm Q k => by
  obtain ⟨a, h1, hm⟩ := bind_some hm
  cases hm
  refine ha S H F a hG w h1 _ fun x S1 H1 s1 w1 q1 => ?_
  obtain ⟨p, x, y, rfl, g, r1, r2⟩ := q1
  exact ⟨p, [x, y], 1, y, rfl, rfl, SqT.of (w1.st _ _ g), rfl, k _ S1 H1 s1 w1 r2⟩
/-- len -/
abbrev rLn (K : PySem.W.Frag) : List V → Hp → VK → Prop := fun xs H Q => ∃ p ys, xs = [.ref p] ∧ (SqL K H p ys ∨ SqT K H p ys) ∧ Q (.int ys.length) H
theorem sim_len [Lk O (oL T) TL] {ta : TE} {ma : Option (List α)} (ha : Sim G O ta σ ma TL) : Sim G O (tCB (rLn K) (tCons ta tNil)) σ (ma.bind fun a => some (a.length : Int)) tInt := fun S H F r hG w hm Q k => by
  obtain ⟨a, h1, hm⟩ := bind_some hm
  cases hm
  refine ha S H F a hG w h1 _ fun x S1 H1 s1 w1 q1 => ?_
  obtain ⟨p, vs, rfl, r, g⟩ := lkL (O := O) (T := T) q1
  refine ⟨p, vs, rfl, .inl (SqL.of (g H1 F w1)), ?_⟩
  rw [← r.length]
  exact k _ S1 H1 s1 w1 rfl
theorem sim_lenT {ta : TE} {ma : Option (List α)} (ha : Sim G O ta σ ma (tT T)) : Sim G O (tCB (rLn K) (tCons ta tNil)) σ (ma.bind fun a => some (a.length : Int)) tInt := fun S H F r hG w hm Q k => by
  obtain ⟨a, h1, hm⟩ := bind_some hm
  cases hm
  refine ha S H F a hG w h1 _ fun x S1 H1 s1 w1 q1 => ?_
  obtain ⟨p, vs, rfl, g, r⟩ := q1
  refine ⟨p, vs, rfl, .inr (SqT.of (w1.st _ _ g)), ?_⟩
  rw [← r.length]
  exact k _ S1 H1 s1 w1 rfl

/-! ### displays -/
def TyA.ln (n : Nat) (T : Ty α) : TyA (List α) := ⟨fun xs vs S => Rl T S xs vs ∧ vs.length = n, fun h q => ⟨q.1.mono h, q.2⟩⟩
theorem simA_nil : SimA G O tNil σ (some ()) TyA.nil := fun S H F r hG w hm Q k => k _ S H (Same.refl _) w rfl
theorem simA_one {ta : TE} {ma : Option α} (ha : Sim G O ta σ ma T) : SimA G O (tCons ta tNil) σ ma (TyA.one T) := fun S H F r hG w hm Q k =>
  ha S H F r hG w hm _ fun v S' H' s w' q => k _ S' H' s w' ⟨v, rfl, q⟩
theorem simA_c {ta : TE} {tr : TA} {ma : Option α} {mb : Option β} {A : TyA β} (ha : Sim G O ta σ ma T) (hb : SimA G O tr σ mb A) : SimA G O (tCons ta tr) σ (ma.bind fun a => mb.bind fun b => some (a, b)) (TyA.c T A) := fun S H F r hG w hm Q k => by
  obtain ⟨a, h1, hm⟩ := bind_some hm
  obtain ⟨b, h2, hm⟩ := bind_some hm
  cases hm
  refine ha S H F a hG w h1 _ fun x S1 H1 s1 w1 q1 => ?_
  exact hb S1 H1 F b (hG.mono s1) w1 h2 _ fun vs S2 H2 s2 w2 q2 => k _ S2 H2 (s1.trans s2) w2 ⟨x, vs, rfl, T.mono s2 q1, q2⟩
theorem simA_ln0 : SimA G O tNil σ (some []) (TyA.ln 0 T) := fun S H F r hG w hm Q k => by cases hm; exact k _ S H (Same.refl _) w ⟨.nil, rfl⟩
theorem simA_ln {n : Nat} {ta : TE} {tr : TA} {ma : Option α} {mb : Option (List α)} (ha : Sim G O ta σ ma T) (hb : SimA G O tr σ mb (TyA.ln n T)) : SimA G O (tCons ta tr) σ (ma.bind fun a => mb.bind fun b => some (a :: b)) (TyA.ln (n + 1) T) := fun S H F r hG w hm Q k => by
  obtain ⟨a, h1, hm⟩ := bind_some hm
  obtain ⟨b, h2, hm⟩ := bind_some hm
  cases hm
  refine ha S H F a hG w h1 _ fun x S1 H1 s1 w1 q1 => ?_
  exact hb S1 H1 F b (hG.mono s1) w1 h2 _ fun vs S2 H2 s2 w2 q2 => k _ S2 H2 (s1.trans s2) w2 ⟨.cons (T.mono s2 q1) q2.1, congrArg Nat.succ q2.2⟩
theorem simF_lst {n : Nat} {t : TA} {m : Option (List α)} (h : SimA G O t σ m (TyA.ln n T)) (hn : n ≤ sizeLine := by show _ ≤ (2 ^ 24 : Nat); decide) : SimF G O (tLst t) σ m (oL T) := fun S H F r hG w hm Q k =>
  h S H F r hG w hm _ fun vs S' H' s w' q => ⟨by rw [q.2]; exact hn, fun p hp => k p _ S' _ s (w'.newO hp) ⟨vs, rfl, q.1⟩⟩
theorem sim_tupL {n : Nat} {t : TA} {m : Option (List α)} (h : SimA G O t σ m (TyA.ln n T)) (hn : n ≤ sizeLine := by show _ ≤ (2 ^ 24 : Nat); decide) : Sim G O (tTup t) σ m (tT T) := fun S H F r hG w hm Q k =>
  h S H F r hG w hm _ fun vs S' H' s w' q => ⟨by rw [q.2]; exact hn, fun p hp => k _ (upd S' p (.tup vs)) _ (s.trans (same_upd (w'.sn hp))) (w'.new hp) ⟨p, vs, rfl, upd_same, q.1.mono (same_upd (w'.sn hp))⟩⟩
theorem sim_pair {ta tb : TE} {ma : Option α} {mb : Option β} (ha : Sim G O ta σ ma T) (hb : Sim G O tb σ mb U) : Sim G O (tTup (tCons ta (tCons tb tNil))) σ (ma.bind fun a => mb.bind fun b => some (a, b)) (tP T U) := fun S H F r hG w hm Q k => by
  obtain ⟨a, h1, hm⟩ := bind_some hm
  obtain ⟨b, h2, hm⟩ := bind_some hm
  cases hm
  refine ha S H F a hG w h1 _ fun x S1 H1 s1 w1 q1 => ?_
  refine hb S1 H1 F b (hG.mono s1) w1 h2 _ fun y S2 H2 s2 w2 q2 => ⟨(by show 2 ≤ (2 ^ 24 : Nat); decide), fun p hp => ?_⟩
  have s3 : Same S2 (upd S2 p (.tup [x, y])) := same_upd (w2.sn hp)
  exact k _ _ _ ((s1.trans s2).trans s3) (w2.new hp) ⟨p, x, y, rfl, upd_same, T.mono (s2.trans s3) q1, U.mono s3 q2⟩
/-! ### new lists out of lists -/
def x_cat (xs ys : List α) : Option (List α) := if xs.length + ys.length ≤ sizeLine then some (xs ++ ys) else none
theorem simF_cat {TL' : Ty (List α)} [Lk O (oL T) TL] [Lk O (oL T) TL'] {ta tb : TE} {ma mb : Option (List α)} (ha : Sim G O ta σ ma TL) (hb : Sim G O tb σ mb TL') : SimF G O (tOp rCat ta tb) σ (ma.bind fun a => mb.bind fun b => x_cat a b) (oL T) := fun S H F r hG w hm Q k => by
  obtain ⟨a, h1, hm⟩ := bind_some hm
  obtain ⟨b, h2, hm⟩ := bind_some hm
  obtain ⟨hz, rfl⟩ := of_if hm
  refine ha S H F a hG w h1 _ fun x S1 H1 s1 w1 q1 => ?_
  refine hb S1 H1 F b (hG.mono s1) w1 h2 _ fun y S2 H2 s2 w2 q2 => ?_
  obtain ⟨p, vs, rfl, r, g⟩ := lkL (O := O) (T := T) (TL.mono s2 q1)
  obtain ⟨p', vs', rfl, r', g'⟩ := lkL (O := O) (T := T) q2
  exact ⟨p, p', vs, vs', rfl, rfl, g H2 F w2, g' H2 F w2, by rw [← r.length, ← r'.length]; exact hz, fun l hl => k l _ S2 _ (s1.trans s2) (w2.newO hl) ⟨_, rfl, r.append r'⟩⟩
def x_rep (xs : List α) (k : Int) : Option (List α) := if -(2 ^ 63) ≤ k ∧ k < 2 ^ 63 ∧ xs.length * k.toNat ≤ sizeLine then some (List.replicate k.toNat xs).flatten else none
theorem Rl.rep {S : Hp} {xs : List α} {vs : List V} (r : Rl T S xs vs) : ∀ n : Nat, Rl T S (List.replicate n xs).flatten (List.replicate n vs).flatten
  | 0 => .nil
  | n + 1 => by simp only [List.replicate_succ, List.flatten_cons]; exact r.append (Rl.rep r n)
theorem simF_rep [Lk O (oL T) TL] {ta tb : TE} {ma : Option (List α)} {mb : Option Int} (ha : Sim G O ta σ ma TL) (hb : Sim G O tb σ mb tInt) : SimF G O (tOp rRep ta tb) σ (ma.bind fun a => mb.bind fun b => x_rep a b) (oL T) := fun S H F r hG w hm Q k => by
  obtain ⟨a, h1, hm⟩ := bind_some hm
  obtain ⟨b, h2, hm⟩ := bind_some hm
  obtain ⟨⟨z1, z2, z3⟩, rfl⟩ := of_if hm
  refine ha S H F a hG w h1 _ fun x S1 H1 s1 w1 q1 => ?_
  refine hb S1 H1 F b (hG.mono s1) w1 h2 _ fun y S2 H2 s2 w2 q2 => ?_
  obtain ⟨p, vs, rfl, r, g⟩ := lkL (O := O) (T := T) (TL.mono s2 q1)
  exact ⟨p, b, vs, rfl, q2, g H2 F w2, z1, z2, by rw [← r.length]; exact z3, fun l hl => k l _ S2 _ (s1.trans s2) (w2.newO hl) ⟨_, rfl, r.rep _⟩⟩
def cutL (xs : List α) (lo hi : Option Int) : List α := (xs.drop (HT.sIx xs.length 0 lo)).take (HT.sIx xs.length xs.length hi - HT.sIx xs.length 0 lo)
theorem Rl.cut {S : Hp} {xs : List α} {vs : List V} (r : Rl T S xs vs) (lo hi : Option Int) : Rl T S (cutL xs lo hi) (cutV vs lo hi) := by
  unfold cutL cutV
  rw [r.length]
  exact (r.drop _).take _
/-- a part of a slice -/
def SimO (G : List Fact) (O : Ow) (t : TO) (σ : St) (m : Option (Option Int)) : Prop :=
  ∀ (S H : Hp) (F : Ow) (r : Option Int), Okc G S → Wd S (O ++ F) H → m = some r → ∀ Q : Option Int → Hp → Prop, (∀ S' H', Same S S' → Wd S' (O ++ F) H' → Q r H') → t σ H Q
theorem simO_no : SimO G O tNoPart σ (some none) := fun S H F r hG w hm Q k => by cases hm; exact k S H (Same.refl _) w
theorem simO_part {t : TE} {m : Option Int} (h : Sim G O t σ m tInt) : SimO G O (tPart t) σ (m.bind fun i => some (some i)) := fun S H F r hG w hm Q k => by
  obtain ⟨a, h1, hm⟩ := bind_some hm
  cases hm
  exact h S H F a hG w h1 _ fun v S' H' s w' q => ⟨a, q, k S' H' s w'⟩
theorem simF_slice [Lk O (oL T) TL] {te : TE} {tl th : TO} {ma : Option (List α)} {ml mh : Option (Option Int)} (ha : Sim G O te σ ma TL) (hl : SimO G O tl σ ml) (hh : SimO G O th σ mh) :
    SimF G O (tSl (rSlL K) te tl th) σ (ma.bind fun a => ml.bind fun l => mh.bind fun h => some (cutL a l h)) (oL T) := fun S H F r hG w hm Q k => by
  obtain ⟨a, h1, hm⟩ := bind_some hm
  obtain ⟨b, h2, hm⟩ := bind_some hm
  obtain ⟨c, h3, hm⟩ := bind_some hm
  cases hm
  refine ha S H F a hG w h1 _ fun x S1 H1 s1 w1 q1 => ?_
  refine hl S1 H1 F b (hG.mono s1) w1 h2 _ fun S2 H2 s2 w2 => ?_
  refine hh S2 H2 F c (hG.mono (s1.trans s2)) w2 h3 _ fun S3 H3 s3 w3 => ?_
  obtain ⟨p, vs, rfl, r, g⟩ := lkL (O := O) (T := T) (TL.mono (s2.trans s3) q1)
  exact ⟨p, vs, rfl, SqL.of (g H3 F w3), fun l hl => k l _ S3 _ ((s1.trans s2).trans s3) (w3.newO hl) ⟨_, rfl, r.cut b c⟩⟩
theorem simF_rev [Lk O (oL T) TL] {te : TE} {ma : Option (List α)} (ha : Sim G O te σ ma TL) : SimF G O (tRevL K te) σ (ma.bind fun a => some a.reverse) (oL T) := fun S H F r hG w hm Q k => by
  obtain ⟨a, h1, hm⟩ := bind_some hm
  cases hm
  refine ha S H F a hG w h1 _ fun x S1 H1 s1 w1 q1 => ?_
  obtain ⟨p, vs, rfl, r, g⟩ := lkL (O := O) (T := T) q1
  exact ⟨p, vs, rfl, SqL.of (g H1 F w1), fun l hl => k l _ S1 _ s1 (w1.newO hl) ⟨_, rfl, r.reverse⟩⟩
abbrev rLs (K : PySem.W.Frag) : List V → Hp → VK → Prop := fun xs H Q => ∃ p ys, xs = [.ref p] ∧ (SqL K H p ys ∨ SqT K H p ys) ∧ ∀ l, H l = none → Q (.ref l) (upd H l (.lst ys))
abbrev rTp (K : PySem.W.Frag) : List V → Hp → VK → Prop := fun xs H Q => ∃ p ys, xs = [.ref p] ∧ ((SqL K H p ys ∧ ∀ l, H l = none → Q (.ref l) (upd H l (.tup ys))) ∨ (SqT K H p ys ∧ Q (.ref p) H))
theorem simF_list [Lk O (oL T) TL] {te : TE} {ma : Option (List α)} (ha : Sim G O te σ ma TL) : SimF G O (tCB (rLs K) (tCons te tNil)) σ ma (oL T) := fun S H F r hG w hm Q k => by
  refine ha S H F r hG w hm _ fun x S1 H1 s1 w1 q1 => ?_
  obtain ⟨p, vs, rfl, r, g⟩ := lkL (O := O) (T := T) q1
  exact ⟨p, vs, rfl, .inl (SqL.of (g H1 F w1)), fun l hl => k l _ S1 _ s1 (w1.newO hl) ⟨_, rfl, r⟩⟩
theorem simF_listT {te : TE} {ma : Option (List α)} (ha : Sim G O te σ ma (tT T)) : SimF G O (tCB (rLs K) (tCons te tNil)) σ ma (oL T) := fun S H F r hG w hm Q k => by
  refine ha S H F r hG w hm _ fun x S1 H1 s1 w1 q1 => ?_
  obtain ⟨p, vs, rfl, g, r⟩ := q1
  exact ⟨p, vs, rfl, .inr (SqT.of (w1.st _ _ g)), fun l hl => k l _ S1 _ s1 (w1.newO hl) ⟨_, rfl, r⟩⟩
theorem sim_tuple [Lk O (oL T) TL] {te : TE} {ma : Option (List α)} (ha : Sim G O te σ ma TL) : Sim G O (tCB (rTp K) (tCons te tNil)) σ ma (tT T) := fun S H F r hG w hm Q k => by
  refine ha S H F r hG w hm _ fun x S1 H1 s1 w1 q1 => ?_
  obtain ⟨p, vs, rfl, r, g⟩ := lkL (O := O) (T := T) q1
  exact ⟨p, vs, rfl, .inl ⟨SqL.of (g H1 F w1), fun l hl => k _ _ _ (s1.trans (same_upd (w1.sn hl))) (w1.new hl) ⟨l, vs, rfl, upd_same, r.mono (same_upd (w1.sn hl))⟩⟩⟩
def x_lrange (a b : Int) : Option (List Int) := if -(2 ^ 62) ≤ a ∧ a < 2 ^ 62 ∧ -(2 ^ 62) ≤ b ∧ b < 2 ^ 62 ∧ (b - a).toNat ≤ 2 ^ 24 then some ((List.range (b - a).toNat).map fun i => a + (i : Nat)) else none
theorem rl_ints (S : Hp) : ∀ xs : List Int, Rl tInt S xs (xs.map V.int)
  | [] => .nil
  | _ :: xs => .cons rfl (rl_ints S xs)
theorem rgV_map (a b : Int) : rgV a b = ((List.range (b - a).toNat).map fun i : Nat => a + (i : Int)).map V.int := by
  unfold rgV
  rw [List.map_map]
  rfl
theorem simF_lrange1 {tb : TE} {mb : Option Int} (hb : Sim G O tb σ mb tInt) : SimF G O (tLstRg (tRg1 tb)) σ (mb.bind fun b => x_lrange 0 b) (oL tInt) := fun S H F r hG w hm Q k => by
  obtain ⟨b, h1, hm⟩ := bind_some hm
  obtain ⟨z, rfl⟩ := of_if hm
  refine hb S H F b hG w h1 _ fun x S1 H1 s1 w1 q1 => ⟨b, q1, z, fun l hl => ?_⟩
  rw [rgV_map]
  exact k l _ S1 _ s1 (w1.newO hl) ⟨_, rfl, rl_ints _ _⟩
theorem simF_lrange2 {ta tb : TE} {ma mb : Option Int} (ha : Sim G O ta σ ma tInt) (hb : Sim G O tb σ mb tInt) : SimF G O (tLstRg (tRg2 ta tb)) σ (ma.bind fun a => mb.bind fun b => x_lrange a b) (oL tInt) := fun S H F r hG w hm Q k => by
  obtain ⟨a, h1, hm⟩ := bind_some hm
  obtain ⟨b, h2, hm⟩ := bind_some hm
  obtain ⟨z, rfl⟩ := of_if hm
  refine ha S H F a hG w h1 _ fun x S1 H1 s1 w1 q1 => ?_
  refine hb S1 H1 F b (hG.mono s1) w1 h2 _ fun y S2 H2 s2 w2 q2 => ⟨a, b, q1, q2, z, fun l hl => ?_⟩
  rw [rgV_map]
  exact k l _ S2 _ (s1.trans s2) (w2.newO hl) ⟨_, rfl, rl_ints _ _⟩
end
end HF

set_option Elab.async false
set_option linter.all false
set_option maxRecDepth 100000
set_option maxHeartbeats 2000000
/-! Mini3: what is walked, comprehensions, statements, loops, calls. -/
namespace HF
open PySem PySem.Spec L2
open PyProof.Rows hiding St
theorem Okc.cons {f : Fact} {G : List Fact} {S : Hp} (h : f.P S) (t : Okc G S) : Okc (f :: G) S := ⟨h, t⟩
theorem Okc.dr : ∀ {G : List Fact} {S : Hp} (n : Nat), Okc G S → Okc (G.drop n) S
  | _, _, 0, h => h
  | [], _, _ + 1, _ => True.intro
  | _ :: _, _, n + 1, h => Okc.dr n h.2
theorem Okc.right : ∀ {G G' : List Fact} {S : Hp}, Okc (G ++ G') S → Okc G' S
  | [], _, _, h => h
  | _ :: _, _, _, h => Okc.right h.2
theorem Okc.left : ∀ {G G' : List Fact} {S : Hp}, Okc (G ++ G') S → Okc G S
  | [], _, _, h => True.intro
  | _ :: _, _, _, h => ⟨h.1, Okc.left h.2⟩
section
variable {α β γ ρ : Type} {G : List Fact} {O O0 F : Ow} {σ : St} {T : Ty α} {U : Ty β} {K : PySem.W.Frag}
/-! ### iterators -/
def JOk (S0 : Hp) (O0 : Ow) (J : It) (T : Ty α) (xs : List α) : Prop := ∀ S H, Same S0 S → Wd S O0 H →
  (∀ i a, xs[i]? = some a → J.go i H ∧ ∀ x H', J.yld i H x H' → ∃ S', Same S S' ∧ T.rep a x S' ∧ ∀ O, Wd S O H → Wd S' O H') ∧ J.stop xs.length H
def SimI (G : List Fact) (O O0 : Ow) (wi : TI) (σ : St) (m : Option (List α)) (T : Ty α) : Prop :=
  ∀ (S H : Hp) (F : Ow) (r : List α), Okc G S → Wd S (O ++ F) H → m = some r → ∀ R : It → Hp → Prop, (∀ J S' H', Same S S' → Wd S' (O ++ F) H' → JOk S' O0 J T r → R J H') → wi σ H R
def rangeL (a : Int) (n : Nat) : List Int := (List.range n).map fun i => a + (i : Nat)
def x_range (a b : Int) : Option (List Int) := if -(2 ^ 62) ≤ a ∧ a < 2 ^ 62 ∧ -(2 ^ 62) ≤ b ∧ b < 2 ^ 62 then some (rangeL a (b - a).toNat) else none
theorem rangeL_get {a : Int} {n i : Nat} {x : Int} (h : (rangeL a n)[i]? = some x) : i < n ∧ x = a + i := by
  unfold rangeL at h
  rw [List.getElem?_map] at h
  by_cases hi : i < n
  · rw [List.getElem?_range hi] at h
    exact ⟨hi, (Option.some.inj h).symm⟩
  · rw [List.getElem?_eq_none (by simpa using hi)] at h
    cases h
theorem jok_range (S0 : Hp) (O0 : Ow) (a : Int) (n : Nat) : JOk S0 O0 (Itr a n) tInt (rangeL a n) := fun S H s w => by
  refine ⟨fun i x e => ?_, ?_⟩
  · obtain ⟨h1, rfl⟩ := rangeL_get e
    exact ⟨h1, fun y H' q => ⟨S, Same.refl _, q.2, fun O w' => by rw [q.1]; exact w'⟩⟩
  · show n ≤ (rangeL a n).length
    unfold rangeL
    simp
theorem simI_range1 {tb : TE} {mb : Option Int} (hb : Sim G O tb σ mb tInt) : SimI G O [] (iRng1 (tCons tb tNil)) σ (mb.bind fun b => x_range 0 b) tInt := fun S H F r hG w hm R k => by
  obtain ⟨b, h1, hm⟩ := bind_some hm
  obtain ⟨⟨z1, z2, z3, z4⟩, rfl⟩ := of_if hm
  refine hb S H F b hG w h1 _ fun x S1 H1 s1 w1 q1 => ⟨b, by rw [show x = .int b from q1], z3, z4, ?_⟩
  rw [show (b - 0).toNat = b.toNat by rw [Int.sub_zero]] at k
  exact k _ S1 H1 s1 w1 (jok_range _ _ _ _)
theorem simI_range2 {ta tb : TE} {ma mb : Option Int} (ha : Sim G O ta σ ma tInt) (hb : Sim G O tb σ mb tInt) : SimI G O [] (iRng2 (tCons ta (tCons tb tNil))) σ (ma.bind fun a => mb.bind fun b => x_range a b) tInt := fun S H F r hG w hm R k => by
  obtain ⟨a, h1, hm⟩ := bind_some hm
  obtain ⟨b, h2, hm⟩ := bind_some hm
  obtain ⟨⟨z1, z2, z3, z4⟩, rfl⟩ := of_if hm
  refine ha S H F a hG w h1 _ fun x S1 H1 s1 w1 q1 => ?_
  refine hb S1 H1 F b (hG.mono s1) w1 h2 _ fun y S2 H2 s2 w2 q2 => ⟨a, b, by rw [show x = .int a from q1, show y = .int b from q2], ⟨z1, z2, z3, z4⟩, ?_⟩
  exact k _ S2 H2 (s1.trans s2) w2 (jok_range _ _ _ _)
theorem jok_list {S0 : Hp} {p : Addr} {vs : List V} {xs : List α} (g : ∀ S H, Same S0 S → Wd S O0 H → H p = some (.lst vs)) (r : Rl T S0 xs vs) : JOk S0 O0 (Itl K p) T xs := fun S H s w => by
  have e := g S H s w
  refine ⟨fun i a h => ?_, vs, SqL.of e, by rw [r.length]; exact Nat.le_refl _⟩
  obtain ⟨v, h1, h2⟩ := r.get h
  refine ⟨⟨vs, v, SqL.of e, h1⟩, fun x H' q => ⟨S, Same.refl _, ?_, fun O w' => by rw [q.1]; exact w'⟩⟩
  have h3 := q.2 vs (SqL.of e)
  rw [h1] at h3
  cases h3
  exact T.mono s h2
theorem simI_list {te : TE} {m : Option (List α)} (h : Sim G O te σ m (tL T)) : SimI G O [] (iList K te) σ m T := fun S H F r hG w hm R k => by
  refine h S H F r hG w hm _ fun v S1 H1 s1 w1 ⟨p, vs, e, g, q⟩ => ⟨p, e, ⟨vs, SqL.of (w1.st _ _ g)⟩, k _ S1 H1 s1 w1 ?_⟩
  exact jok_list (fun S H s w => w.st _ _ (s _ _ g)) q
theorem simI_listO {te : TE} {m : Option (List α)} (h : Sim G O te σ m (tOwn O (oL T))) : SimI G O O (iList K te) σ m T := fun S H F r hG w hm R k => by
  refine h S H F r hG w hm _ fun v S1 H1 s1 w1 ⟨p, c, e, g, vs, ec, q⟩ => ?_
  subst ec
  refine ⟨p, e, ⟨vs, SqL.of (w1.mem (List.mem_append_left _ g) (List.mem_cons_self ..))⟩, k _ S1 H1 s1 w1 ?_⟩
  exact jok_list (fun S H s w => w.mem g (List.mem_cons_self ..)) q
theorem simI_tup {te : TE} {m : Option (List α)} (h : Sim G O te σ m (tT T)) : SimI G O [] (iTup K te) σ m T := fun S H F r hG w hm R k => by
  refine h S H F r hG w hm _ fun v S1 H1 s1 w1 ⟨p, vs, e, g, q⟩ => ⟨p, e, ⟨vs, SqT.of (w1.st _ _ g)⟩, k _ S1 H1 s1 w1 fun S H s w => ?_⟩
  have e := w.st _ _ (s _ _ g)
  refine ⟨fun i a h => ?_, vs, SqT.of e, by rw [q.length]; exact Nat.le_refl _⟩
  obtain ⟨v, h1, h2⟩ := q.get h
  refine ⟨⟨vs, v, SqT.of e, h1⟩, fun x H' q' => ⟨S, Same.refl _, ?_, fun O w' => by rw [q'.1]; exact w'⟩⟩
  have h3 := q'.2 vs (SqT.of e)
  rw [h1] at h3
  cases h3
  exact T.mono s h2
def enumL (xs : List α) : List (Int × α) := xs.zipIdx.map fun p => ((p.2 : Int), p.1)
theorem enumL_get {xs : List α} {i : Nat} {p : Int × α} (h : (enumL xs)[i]? = some p) : ∃ a, xs[i]? = some a ∧ p = ((i : Int), a) := by
  unfold enumL at h
  rw [List.getElem?_map, List.getElem?_zipIdx] at h
  cases e : xs[i]? with
  | none => rw [e] at h; cases h
  | some a =>
    rw [e] at h
    refine ⟨a, rfl, ?_⟩
    simp at h
    exact h.symm
theorem enumL_length (xs : List α) : (enumL xs).length = xs.length := by unfold enumL; simp
theorem jok_enum {S0 : Hp} {p : Addr} {vs : List V} {xs : List α} (g : ∀ S H, Same S0 S → Wd S O0 H → H p = some (.lst vs)) (r : Rl T S0 xs vs) : JOk S0 O0 (Ite K p) (tP tInt T) (enumL xs) := fun S H s w => by
  have e := g S H s w
  refine ⟨fun i a h => ?_, vs, SqL.of e, by rw [enumL_length, r.length]; exact Nat.le_refl _⟩
  obtain ⟨a', h0, rfl⟩ := enumL_get h
  obtain ⟨v, h1, h2⟩ := r.get h0
  refine ⟨⟨vs, v, SqL.of e, h1⟩, fun x H' ⟨q, y, e1, e2, e3, e4⟩ => ?_⟩
  have h3 := e4 vs (SqL.of e)
  rw [h1] at h3
  cases h3
  have s3 : Same S (upd S q (.tup [.int (i : Nat), v])) := same_upd (w.sn e2)
  exact ⟨_, s3, ⟨q, _, _, e1, upd_same, rfl, T.mono (s.trans s3) h2⟩, fun O w' => by rw [e3]; exact w'.new e2⟩
theorem simI_enum {te : TE} {m : Option (List α)} (h : Sim G O te σ m (tL T)) : SimI G O [] (iEnum K (tCons te tNil)) σ (m.bind fun xs => some (enumL xs)) (tP tInt T) := fun S H F r hG w hm R k => by
  obtain ⟨a, h1, hm⟩ := bind_some hm
  cases hm
  refine h S H F a hG w h1 _ fun v S1 H1 s1 w1 ⟨p, vs, e, g, q⟩ => ⟨p, vs, by rw [e], SqL.of (w1.st _ _ g), k _ S1 H1 s1 w1 ?_⟩
  exact jok_enum (fun S H s w => w.st _ _ (s _ _ g)) q
theorem simI_enumO {te : TE} {m : Option (List α)} (h : Sim G O te σ m (tOwn O (oL T))) : SimI G O O (iEnum K (tCons te tNil)) σ (m.bind fun xs => some (enumL xs)) (tP tInt T) := fun S H F r hG w hm R k => by
  obtain ⟨a, h1, hm⟩ := bind_some hm
  cases hm
  refine h S H F a hG w h1 _ fun v S1 H1 s1 w1 ⟨p, c, e, g, vs, ec, q⟩ => ?_
  subst ec
  refine ⟨p, vs, by rw [e], SqL.of (w1.mem (List.mem_append_left _ g) (List.mem_cons_self ..)), k _ S1 H1 s1 w1 ?_⟩
  exact jok_enum (fun S H s w => w.mem g (List.mem_cons_self ..)) q
/-- reversed list -/
theorem rev_get {xs : List V} {i : Nat} {v : V} (h : xs.reverse[i]? = some v) : i < xs.length ∧ xs[xs.length - 1 - i]? = some v := by
  have hi : i < xs.reverse.length := (List.getElem?_eq_some_iff.mp h).1
  rw [List.length_reverse] at hi
  rw [List.getElem?_reverse hi] at h
  exact ⟨hi, h⟩
theorem jok_rev {S0 : Hp} {p : Addr} {vs : List V} {xs : List α} (g : ∀ S H, Same S0 S → Wd S O0 H → H p = some (.lst vs)) (r : Rl T S0 xs vs) : JOk S0 O0 (Itv K p vs.length) T xs.reverse := fun S H s w => by
  have e := g S H s w
  refine ⟨fun i a h => ?_, by show vs.length ≤ _; rw [List.length_reverse, r.length]; exact Nat.le_refl _⟩
  obtain ⟨v, h1, h2⟩ := r.reverse.get h
  obtain ⟨hi, h1⟩ := rev_get h1
  refine ⟨⟨hi, vs, v, SqL.of e, h1⟩, fun x H' q => ⟨S, Same.refl _, ?_, fun O w' => by rw [q.1]; exact w'⟩⟩
  have h3 := q.2 vs (SqL.of e)
  rw [h1] at h3
  cases h3
  exact T.mono s h2
theorem simI_rev {te : TE} {m : Option (List α)} (h : Sim G O te σ m (tL T)) : SimI G O [] (iRev K (tCons te tNil)) σ (m.bind fun xs => some xs.reverse) T := fun S H F r hG w hm R k => by
  obtain ⟨a, h1, hm⟩ := bind_some hm
  cases hm
  refine h S H F a hG w h1 _ fun v S1 H1 s1 w1 ⟨p, vs, e, g, q⟩ => ⟨p, vs, by rw [e], SqL.of (w1.st _ _ g), k _ S1 H1 s1 w1 ?_⟩
  exact jok_rev (fun S H s w => w.st _ _ (s _ _ g)) q
theorem simI_revO {te : TE} {m : Option (List α)} (h : Sim G O te σ m (tOwn O (oL T))) : SimI G O O (iRev K (tCons te tNil)) σ (m.bind fun xs => some xs.reverse) T := fun S H F r hG w hm R k => by
  obtain ⟨a, h1, hm⟩ := bind_some hm
  cases hm
  refine h S H F a hG w h1 _ fun v S1 H1 s1 w1 ⟨p, c, e, g, vs, ec, q⟩ => ?_
  subst ec
  refine ⟨p, vs, by rw [e], SqL.of (w1.mem (List.mem_append_left _ g) (List.mem_cons_self ..)), k _ S1 H1 s1 w1 ?_⟩
  exact jok_rev (fun S H s w => w.mem g (List.mem_cons_self ..)) q

/-! ### targets -/
def TgOk {ω : Type} (g : TG) (σ : St) (T : Ty α) (σ' : ω → St) (Fx : α → ω → List Fact) : Prop :=
  ∀ a x S H (Q : St → Hp → Prop), T.rep a x S → Same S H → (∀ w, Okc (Fx a w) S → Q (σ' w) H) → g x σ H Q
theorem tg_name {i : Nat} : TgOk (gName i) σ T (fun w : V => σ.set i (some w)) (fun a w => [T.f a w]) := fun a x S H Q h s k => k x ⟨h, True.intro⟩
theorem tg_pair {i j : Nat} : TgOk (gTup K 2 (gCons (gName i) (gCons (gName j) gNil))) σ (tP T U) (fun w : V × V => (σ.set i (some w.1)).set j (some w.2)) (fun a w => [T.f a.1 w.1, U.f a.2 w.2]) := fun a x S H Q h s k => by
  obtain ⟨p, y, z, rfl, g, r1, r2⟩ := h
  exact ⟨p, [y, z], rfl, SqT.of (s _ _ g), rfl, y, [z], rfl, z, [], rfl, rfl, k (y, z) ⟨r1, r2, True.intro⟩⟩

/-! ### comprehensions -/
def compM (t : α → Option Bool) (e : α → Option β) : List α → Option (List β)
  | [] => some []
  | x :: xs => (t x).bind fun b => if b = true then (e x).bind fun y => (compM t e xs).bind fun ys => some (y :: ys) else compM t e xs
def x_comp (t : α → Option Bool) (e : α → Option β) (xs : List α) : Option (List β) := if xs.length ≤ sizeLine then compM t e xs else none
theorem simT_yes : SimT G O tYes σ (some true) := fun S H F r hG w hm Q k => by cases hm; exact k S H (Same.refl _) w
theorem perm_mid (c : List Cell) (O F : Ow) : (c :: (O ++ F)).Perm (O ++ (c :: F)) := List.perm_middle.symm
theorem simF_lc {ω : Type} {g : TG} {tt : TT} {te : TE} {wi : TI} {vs : List Nat} {σ' : ω → St} {Fx : α → ω → List Fact} {mi : Option (List α)} {mt : α → Option Bool} {me : α → Option β}
    (hi : SimI G O O0 wi σ mi T) (tg : TgOk g (wipe σ vs) T σ' Fx) (hw : ∀ w, wipe (σ' w) vs = wipe σ vs) (hO : O0.Sublist O)
    (ht : ∀ a w, SimT (Fx a w ++ G) O tt (σ' w) (mt a)) (he : ∀ a w, Sim (Fx a w ++ G) O te (σ' w) (me a) U) :
    SimF G O (tLc wi g tt te vs) σ (mi.bind fun xs => x_comp mt me xs) (oL U) := fun S H F r hG w hm Q k => by
  obtain ⟨xs, h1, hm⟩ := bind_some hm
  unfold x_comp at hm
  split at hm
  case isFalse => cases hm
  case isTrue hz =>
  refine hi S H F xs hG w h1 _ fun J S1 H1 s1 w1 jok D hD => ?_
  have sub : O0.Sublist (O ++ F) := hO.trans (List.sublist_append_left _ _)
  refine ⟨fun i m H' => m = xs.length - i ∧ i ≤ xs.length ∧ ∃ S' acc us rest, Same S1 S' ∧ Wd S' ([(D, .lst us)] :: (O ++ F)) H' ∧ Rl U S' acc us ∧ acc.length ≤ i ∧ compM mt me (xs.drop i) = some rest ∧ r = acc ++ rest,
    ⟨xs.length, by simp, Nat.zero_le _, S1, [], [], r, Same.refl _, w1.newO hD, .nil, Nat.le_refl _, by simpa using hm, rfl⟩, ?_⟩
  rintro i m H' ⟨rfl, hi', S', acc, us, rest, s', w', ra, hl, hc, rfl⟩
  have jk := jok S' H' s' (w'.tail.sub sub)
  by_cases hlt : i < xs.length
  · have hd : xs.drop i = xs[i] :: xs.drop (i + 1) := (List.drop_eq_getElem_cons hlt)
    rw [hd] at hc
    obtain ⟨go, yl⟩ := jk.1 i xs[i] (by simp [hlt])
    have hz2 : us.length < sizeLine := by rw [← ra.length]; omega
    refine .inr ⟨go, fun H2 => ∃ S2 acc2 us2 rest2, Same S1 S2 ∧ Wd S2 ([(D, .lst us2)] :: (O ++ F)) H2 ∧ Rl U S2 acc2 us2 ∧ acc2.length ≤ i + 1 ∧ compM mt me (xs.drop (i + 1)) = some rest2 ∧ acc ++ rest = acc2 ++ rest2,
      fun H2 q => ⟨xs.length - (i + 1), by omega, rfl, hlt, q⟩, fun x H2 y => ?_⟩
    obtain ⟨S2, s2, rx, wk⟩ := yl x H2 y
    have w2 := wk _ w'
    refine tg xs[i] x S2 H2 _ rx w2.st fun wt ok => ⟨hw wt, ?_⟩
    obtain ⟨b, hb, hc⟩ := bind_some hc
    have hG2 : Okc (Fx xs[i] wt ++ G) S2 := ok.append (hG.mono (s1.trans (s'.trans s2)))
    refine ht xs[i] wt S2 H2 ([(D, .lst us)] :: F) b hG2 (w2.perm (perm_mid _ _ _)) hb _ fun S3 H3 s3 w3 => ?_
    cases b with
    | false =>
      rw [if_neg Bool.false_ne_true]
      rw [if_neg Bool.false_ne_true] at hc
      exact ⟨S3, acc, us, rest, s'.trans (s2.trans s3), w3.perm (perm_mid _ _ _).symm, ra.mono (s2.trans s3), by omega, hc, rfl⟩
    | true =>
      rw [if_pos rfl]
      rw [if_pos rfl] at hc
      obtain ⟨y, hy, hc⟩ := bind_some hc
      obtain ⟨ys, hys, hc⟩ := bind_some hc
      cases hc
      refine he xs[i] wt S3 H3 ([(D, .lst us)] :: F) y (hG2.mono s3) w3 hy _ fun v S4 H4 s4 w4 rv => ?_
      have w5 := w4.perm (perm_mid _ _ _).symm
      exact ⟨us, w5.hd1, hz2, S4, acc ++ [y], us ++ [v], ys, s'.trans (s2.trans (s3.trans s4)), w5.put1 _, (ra.mono (s2.trans (s3.trans s4))).append (Rl.one rv), by simp; omega, hys, by simp⟩
  · have e : i = xs.length := by omega
    subst e
    rw [List.drop_length] at hc
    cases hc
    rw [List.append_nil] at k
    exact .inl ⟨jk.2, k D _ S' H' (s1.trans s') w' ⟨us, rfl, ra⟩⟩

/-! ### calls -/
/-- the promise of a def that changes nothing -/
def spP (A : TyA α) (m : α → Option β) (U : Ty β) : Sp := fun vs H Q _ => ∃ (S : Hp) (F : Ow) (a : α) (r : β), A.rep a vs S ∧ Wd S F H ∧ m a = some r ∧ ∀ v S' H', Same S S' → Wd S' F H' → U.rep r v S' → Q v H'
theorem sim_call {A : TyA α} {f : α → Option β} {ta : TA} {ma : Option α} {E : XK} (h : SimA G O ta σ ma A) : Sim G O (tCall (spP A f U) [] E ta) σ (ma.bind fun a => f a) U := fun S H F r hG w hm Q k => by
  obtain ⟨a, h1, hm⟩ := bind_some hm
  refine h S H F a hG w h1 _ fun vs S1 H1 s1 w1 q1 => ?_
  refine ⟨S1, O ++ F, a, r, ?_, w1, hm, fun v S2 H2 s2 w2 q2 => k v S2 H2 (s1.trans s2) w2 q2⟩
  rw [List.append_nil]
  exact q1
/-- o.m(..) -/
theorem sim_meth {C : Addr} {mn : Str} {A : TyA β} {f : α × β → Option γ} {W : Ty γ} {to : TE} {ta : TA} {mo : Option α} {ma : Option β} {E : XK} (hI : ∀ a v S, T.rep a v S → ∃ p dx fs, v = .ref p ∧ S p = some (.ins C dx fs) ∧ fs.lookup mn = none)
    (ho : Sim G O to σ mo T) (ha : SimA G O ta σ ma A) : Sim G O (tMeth C mn (spP (TyA.c T A) f W) [] E to ta) σ (mo.bind fun o => ma.bind fun a => f (o, a)) W := fun S H F r hG w hm Q k => by
  obtain ⟨o, h1, hm⟩ := bind_some hm
  obtain ⟨a, h2, hm⟩ := bind_some hm
  refine ho S H F o hG w h1 _ fun x S1 H1 s1 w1 q1 => ?_
  obtain ⟨p, dx, fs, rfl, g, l⟩ := hI _ _ _ q1
  refine ⟨p, dx, fs, rfl, w1.st _ _ g, l, ?_⟩
  refine ha S1 H1 F a (hG.mono s1) w1 h2 _ fun vs S2 H2 s2 w2 q2 => ?_
  refine ⟨S2, O ++ F, (o, a), r, ⟨_, _, by rw [List.append_nil], T.mono s2 q1, q2⟩, w2, hm, fun v S3 H3 s3 w3 q3 => k v S3 H3 ((s1.trans s2).trans s3) w3 q3⟩
/-- o.f -/
theorem sim_fld {f : Str} {g : α → β} {to : TE} {mo : Option α} (hF : ∀ a v S, T.rep a v S → ∃ p C dx fs u, v = .ref p ∧ S p = some (.ins C dx fs) ∧ Cls K C ∧ NoAttr K C f ∧ fs.lookup f = some u ∧ U.rep (g a) u S)
    (ho : Sim G O to σ mo T) : Sim G O (tFld K to f) σ (mo.bind fun o => some (g o)) U := fun S H F r hG w hm Q k => by
  obtain ⟨o, h1, hm⟩ := bind_some hm
  cases hm
  refine ho S H F o hG w h1 _ fun x S1 H1 s1 w1 q1 => ?_
  obtain ⟨p, C, dx, fs, u, rfl, e, c, n, l, q⟩ := hF _ _ _ q1
  exact ⟨p, C, dx, fs, u, rfl, w1.st _ _ e, c, n, l, k u S1 H1 s1 w1 q⟩

/-! ### statements -/
variable {S H : Hp} {D : Ends} {out : ρ} {u t t' : TS}
theorem k_set {te : TE} {i : Nat} {ma : Option α} {k : α → Option ρ} (hG : Okc G S) (W : Wd S (O ++ F) H) (hm : ma.bind k = some out) (hs : Sim G O te σ ma T) (next : ∀ a v S H, Okc (T.f a v :: G) S → Wd S (O ++ F) H → k a = some out → u D (σ.set i (some v)) H) : tSeq (tAsg te (gName i)) u D σ H := by
  obtain ⟨a, h1, h2⟩ := bind_some hm
  exact hs S H F a hG W h1 _ fun v S' H' s w q => next a v S' H' ⟨q, hG.mono s⟩ w h2
/-- a fresh object of one's own -/
theorem k_setO {OT : OTy α} {te : TE} {i : Nat} {ma : Option α} {k : α → Option ρ} (hG : Okc G S) (W : Wd S (O ++ F) H) (hm : ma.bind k = some out) (hs : SimF G O te σ ma OT)
    (next : ∀ a p c S H, Okc (OT.f a p c :: G) S → Wd S ((c :: O) ++ F) H → k a = some out → u D (σ.set i (some (.ref p))) H) : tSeq (tAsg te (gName i)) u D σ H := by
  obtain ⟨a, h1, h2⟩ := bind_some hm
  exact hs S H F a hG W h1 _ fun p c S' H' s w q => next a p c S' H' ⟨q, hG.mono s⟩ w h2
/-- an owned object stays as it is from now on -/
theorem k_frz {OT : OTy α} {p : Addr} {c : List Cell} {g : α} {P : Prop} (hG : Okc G S) (W : Wd S (O ++ F) H) (fr : Frz OT T) (o j : Nat) (ho : O[o]? = some c) (hf : G[j]? = some (OT.f g p c))
    (next : ∀ S, Okc (T.f g (.ref p) :: G) S → Wd S (O.eraseIdx o ++ F) H → P) : P := by
  obtain ⟨s, w, n⟩ := W.frz o ho
  have r : OT.rep g p c S := Okc.at j hf hG
  exact next _ ⟨fr _ _ _ _ (OT.mono s r) n, hG.mono s⟩ w
theorem k_if {c : TT} {mc : Option Bool} {A B : Option ρ} (hG : Okc G S) (W : Wd S (O ++ F) H) (hm : (mc.bind fun b => if b = true then A else B) = some out) (hc : SimT G O c σ mc) (h1 : ∀ S H, Okc G S → Wd S (O ++ F) H → A = some out → t { D with nx := u D } σ H) (h2 : ∀ S H, Okc G S → Wd S (O ++ F) H → B = some out → t' { D with nx := u D } σ H) : tSeq (tIfS c t t') u D σ H := by
  obtain ⟨b, e1, e2⟩ := bind_some hm
  refine hc S H F b hG W e1 _ fun S' H' s w => ?_
  cases b with
  | true => exact h1 S' H' (hG.mono s) w e2
  | false => exact h2 S' H' (hG.mono s) w e2
theorem k_ret {te : TE} {m : Option ρ} {R : Ty ρ} (hG : Okc G S) (W : Wd S (O ++ F) H) (hm : m = some out) (hs : Sim G O te σ m R) (next : ∀ v S H, Okc G S → Wd S (O ++ F) H → R.rep out v S → D.rt v H) : tSeq (tRet te) u D σ H :=
  hs S H F out hG W hm _ fun v S' H' s w q => next v S' H' (hG.mono s) w q
theorem k_drop {te : TE} {m : Option α} {k : α → Option ρ} (hG : Okc G S) (W : Wd S (O ++ F) H) (hm : m.bind k = some out) (hs : Sim G O te σ m T) (next : ∀ a S H, Okc G S → Wd S (O ++ F) H → k a = some out → u D σ H) : tSeq (tDrop te) u D σ H := by
  obtain ⟨a, h1, h2⟩ := bind_some hm
  exact hs S H F a hG W h1 _ fun v S' H' s w q => next a S' H' (hG.mono s) w h2
/-- xs.append(e), xs one's own -/
def x_app (xs : List α) (y : α) : Option (List α) := if xs.length < sizeLine then some (xs ++ [y]) else none
theorem k_app {te : TE} {i : Nat} {p : Addr} {c : List Cell} {xs : List α} {my : Option α} {k : List α → Option ρ} (hG : Okc G S) (W : Wd S (O ++ F) H) (hm : (my.bind fun y => (x_app xs y).bind k) = some out)
    (o j : Nat) (hi : σ[i]? = some (some (.ref p))) (ho : O[o]? = some c) (hf : G[j]? = some ((oL T).f xs p c)) (hs : Sim G O te σ my T)
    (next : ∀ y c' S H, Okc ((oL T).f (xs ++ [y]) p c' :: G) S → Wd S (O.set o c' ++ F) H → k (xs ++ [y]) = some out → u D σ H) : tSeq (tDrop (tBM K "list" rAppend (tVar i) (tCons te tNil))) u D σ H := by
  obtain ⟨y, h1, hm⟩ := bind_some hm
  obtain ⟨z, h2, hm⟩ := bind_some hm
  obtain ⟨hz, rfl⟩ := of_if h2
  obtain ⟨vs0, e0, r0⟩ := (Okc.at j hf hG : (oL T).rep xs p c S)
  subst e0
  refine ⟨.ref p, hi, .inl ⟨rfl, vs0, SqL.of (W.at1 ho)⟩, ?_⟩
  refine hs S H F y hG W h1 _ fun v S1 H1 s1 w1 q1 => ?_
  have r := r0.mono s1
  exact ⟨p, vs0, v, rfl, rfl, w1.at1 ho, by rw [← r.length]; exact hz, next y _ S1 _ ⟨⟨_, rfl, r.append (Rl.one q1)⟩, hG.mono s1⟩ (w1.put o ho _) hm⟩
/-- xs[i] = e, xs one's own -/
def x_set (xs : List α) (i : Int) (y : α) : Option (List α) := (ixN xs.length i).bind fun j => some (xs.set j y)
theorem k_put {te ti : TE} {i : Nat} {p : Addr} {c : List Cell} {xs : List α} {my : Option α} {mi : Option Int} {k : List α → Option ρ} (hG : Okc G S) (W : Wd S (O ++ F) H) (hm : (my.bind fun y => mi.bind fun n => (x_set xs n y).bind k) = some out)
    (o j : Nat) (hi : σ[i]? = some (some (.ref p))) (ho : O[o]? = some c) (hf : G[j]? = some ((oL T).f xs p c)) (hs : Sim G O te σ my T) (hx : Sim G O ti σ mi tInt)
    (next : ∀ xs' c' S H, Okc ((oL T).f xs' p c' :: G) S → Wd S (O.set o c' ++ F) H → k xs' = some out → u D σ H) : tSeq (tAsg te (gSub (tVar i) ti rSetL)) u D σ H := by
  obtain ⟨y, h1, hm⟩ := bind_some hm
  obtain ⟨n, h2, hm⟩ := bind_some hm
  obtain ⟨z, h3, hm⟩ := bind_some hm
  obtain ⟨l, h4, h5⟩ := bind_some h3
  cases h5
  obtain ⟨vs, e0, r0⟩ := (Okc.at j hf hG : (oL T).rep xs p c S)
  subst e0
  refine hs S H F y hG W h1 _ fun v S1 H1 s1 w1 q1 => ⟨.ref p, hi, ?_⟩
  refine hx S1 H1 F n (hG.mono s1) w1 h2 _ fun x S2 H2 s2 w2 q2 => ?_
  have r := r0.mono (s1.trans s2)
  exact ⟨p, vs, n, l, rfl, q2, w2.at1 ho, by rw [← r.length]; exact h4, next _ _ S2 _ ⟨⟨_, rfl, r.set (T.mono s2 q1) l⟩, hG.mono (s1.trans s2)⟩ (w2.put o ho _) hm⟩

/-! ### loops -/
def foldO (f : β → α → Option β) : β → List α → Option β
  | b, [] => some b
  | b, x :: xs => (f b x).bind fun b' => foldO f b' xs
/-- left by return or break: kn goes on, kb leaves -/
def forK (f : β → α → (β → Option γ) → (β → Option γ) → Option γ) (k : β → Option γ) : List α → β → Option γ
  | [], b => k b
  | x :: xs, b => f b x (fun b' => forK f k xs b') k
theorem k_forK {ω τ : Type} {wi : TI} {g : TG} {tb : TS} {mi : Option (List α)} {f : β → α → (β → Option ρ) → (β → Option ρ) → Option ρ} {k : β → Option ρ} {b0 : β} (w0 : ω) {σJ : β → ω → St} {OJ : β → ω → Ow} {Fb : β → ω → List Fact} {σT : β → ω → τ → St} {Fx : α → τ → List Fact} (hG : Okc G S) (W : Wd S (O ++ F) H) (hm : (mi.bind fun xs => forK f k xs b0) = some out) (hi : SimI G O O0 wi σ mi T) (tg : ∀ b w, TgOk g (σJ b w) T (σT b w) Fx) (hsub : ∀ b w, O0.Sublist (OJ b w)) (eσ : σ = σJ b0 w0) (eO : O = OJ b0 w0) (e0 : ∀ S, Okc G S → Okc (Fb b0 w0 ++ G) S) (step : ∀ S1 a b w x S H kn, f b a kn k = some out → Okc (Fx a x ++ (Fb b w ++ (fS S1 :: G))) S → Wd S (OJ b w ++ F) H → ∀ N : St → Hp → Prop,
      (∀ b' w' S' H', kn b' = some out → Okc (Fb b' w' ++ (fS S1 :: G)) S' → Wd S' (OJ b' w' ++ F) H' → N (σJ b' w') H') →
      (∀ b' w' S' H', k b' = some out → Okc (Fb b' w' ++ (fS S1 :: G)) S' → Wd S' (OJ b' w' ++ F) H' → u D (σJ b' w') H') → tb { D with nx := N, ct := N, bk := u D } (σT b w x) H) (next : ∀ b w S H, k b = some out → Okc (Fb b w ++ G) S → Wd S (OJ b w ++ F) H → u D (σJ b w) H) : tSeq (tFor wi g tb) u D σ H := by
  obtain ⟨xs, h1, hm⟩ := bind_some hm
  refine hi S H F xs hG W h1 _ fun J S1 H1 s1 w1 jok => ?_
  subst eσ eO
  have e0' := e0 S1 (hG.mono s1)
  have drp : ∀ {b w S}, Okc (Fb b w ++ (fS S1 :: G)) S → Okc (Fb b w ++ G) S := fun h => (Okc.left h).append h.right.2
  refine ⟨fun i m σ' H' => m = xs.length - i ∧ i ≤ xs.length ∧ ∃ b w S', σ' = σJ b w ∧ Okc (Fb b w ++ (fS S1 :: G)) S' ∧ Wd S' (OJ b w ++ F) H' ∧ forK f k (xs.drop i) b = some out,
    ⟨xs.length, by simp, Nat.zero_le _, b0, w0, S1, rfl, (Okc.left e0').append ⟨Same.refl _, hG.mono s1⟩, w1, by simpa using hm⟩, ?_⟩
  rintro i m σ' H' ⟨rfl, hi', b, w, S', rfl, ok, w', hf⟩
  have jk := jok S' H' ok.right.1 (w'.sub ((hsub b w).trans (List.sublist_append_left _ _)))
  by_cases hlt : i < xs.length
  · have hd : xs.drop i = xs[i] :: xs.drop (i + 1) := (List.drop_eq_getElem_cons hlt)
    rw [hd] at hf
    obtain ⟨go, yl⟩ := jk.1 i xs[i] (by simp [hlt])
    refine .inr ⟨go, fun σ2 H2 => ∃ b w S', σ2 = σJ b w ∧ Okc (Fb b w ++ (fS S1 :: G)) S' ∧ Wd S' (OJ b w ++ F) H2 ∧ forK f k (xs.drop (i + 1)) b = some out,
      fun σ2 H2 q => ⟨xs.length - (i + 1), by omega, rfl, hlt, q⟩, fun x H2 y => ?_⟩
    obtain ⟨S2, s2, rx, wk⟩ := yl x H2 y
    have w2 := wk _ w'
    refine tg b w xs[i] x S2 H2 _ rx w2.st fun wt okt => ?_
    exact step S1 xs[i] b w wt S2 H2 _ hf (okt.append (ok.mono s2)) w2 _ (fun b' w' S3 H3 e ok' w3 => ⟨b', w', S3, rfl, ok', w3, e⟩) fun b' w' S3 H3 e ok' w3 => next b' w' S3 H3 e (drp ok') w3
  · have e : i = xs.length := by omega
    subst e
    rw [List.drop_length] at hf
    exact .inl ⟨jk.2, next b w S' H' hf (drp ok) w'⟩
theorem k_fold {ω τ : Type} {wi : TI} {g : TG} {tb : TS} {mi : Option (List α)} {f : β → α → Option β} {k : β → Option ρ} {b0 : β} (w0 : ω) {σJ : β → ω → St} {OJ : β → ω → Ow} {Fb : β → ω → List Fact} {σT : β → ω → τ → St} {Fx : α → τ → List Fact} (hG : Okc G S) (W : Wd S (O ++ F) H) (hm : (mi.bind fun xs => (foldO f b0 xs).bind k) = some out) (hi : SimI G O O0 wi σ mi T) (tg : ∀ b w, TgOk g (σJ b w) T (σT b w) Fx) (hsub : ∀ b w, O0.Sublist (OJ b w)) (eσ : σ = σJ b0 w0) (eO : O = OJ b0 w0) (e0 : ∀ S, Okc G S → Okc (Fb b0 w0 ++ G) S) (step : ∀ S1 a b b' w x S H, f b a = some b' → Okc (Fx a x ++ (Fb b w ++ (fS S1 :: G))) S → Wd S (OJ b w ++ F) H → ∀ N : St → Hp → Prop,
      (∀ w' S' H', Okc (Fb b' w' ++ (fS S1 :: G)) S' → Wd S' (OJ b' w' ++ F) H' → N (σJ b' w') H') → tb { D with nx := N, ct := N, bk := u D } (σT b w x) H) (next : ∀ b w S H, k b = some out → Okc (Fb b w ++ G) S → Wd S (OJ b w ++ F) H → u D (σJ b w) H) : tSeq (tFor wi g tb) u D σ H := by
  have conv : ∀ (xs : List α) (b : β), (foldO f b xs).bind k = forK (fun b a kn _ => (f b a).bind kn) k xs b := fun xs => by
    induction xs with
    | nil => intro b; rfl
    | cons x xs ih =>
      intro b
      show ((f b x).bind fun b' => foldO f b' xs).bind k = (f b x).bind fun b' => forK _ k xs b'
      rw [Option.bind_assoc]
      congr 1
      funext b'
      exact ih b'
  refine k_forK (f := fun b a kn _ => (f b a).bind kn) (k := k) w0 hG W ?_ hi tg hsub eσ eO e0 ?_ next
  · rw [← hm]
    congr 1
    funext xs
    exact (conv xs b0).symm
  · intro S1 a b w x S H kn e ok w' N hN _
    obtain ⟨b', e1, e2⟩ := bind_some e
    exact step S1 a b b' w x S H e1 ok w' N fun w' S' H' => hN b' w' S' H' e2
def whileO (c : β → Option Bool) (f : β → Option β) : Nat → β → Option β
  | 0, _ => none
  | n + 1, b => (c b).bind fun t => if t = true then (f b).bind fun b' => whileO c f n b' else some b
theorem k_while {ω : Type} {tc : TT} {tb : TS} {n : Nat} {mc : β → Option Bool} {f : β → Option β} {k : β → Option ρ} {b0 : β} (w0 : ω) {σJ : β → ω → St} {OJ : β → ω → Ow} {Fb : β → ω → List Fact} (hG : Okc G S) (W : Wd S (O ++ F) H) (hm : (whileO mc f n b0).bind k = some out) (hc : ∀ b w, SimT (Fb b w ++ G) (OJ b w) tc (σJ b w) (mc b)) (eσ : σ = σJ b0 w0) (eO : O = OJ b0 w0) (e0 : ∀ S, Okc G S → Okc (Fb b0 w0 ++ G) S) (step : ∀ b b' w S H, f b = some b' → Okc (Fb b w ++ G) S → Wd S (OJ b w ++ F) H → ∀ N : St → Hp → Prop,
      (∀ w' S' H', Okc (Fb b' w' ++ G) S' → Wd S' (OJ b' w' ++ F) H' → N (σJ b' w') H') → tb { D with nx := N, ct := N, bk := u D } (σJ b w) H) (next : ∀ b w S H, k b = some out → Okc (Fb b w ++ G) S → Wd S (OJ b w ++ F) H → u D (σJ b w) H) : tSeq (tWhile tc tb) u D σ H := by
  subst eσ eO
  refine ⟨fun m σ' H' => ∃ b w S', σ' = σJ b w ∧ Okc (Fb b w ++ G) S' ∧ Wd S' (OJ b w ++ F) H' ∧ (whileO mc f m b).bind k = some out, ⟨n, b0, w0, S, rfl, e0 S hG, W, hm⟩, ?_⟩
  rintro m σ' H' ⟨b, w, S', rfl, ok, w', hf⟩
  cases m with
  | zero => cases hf
  | succ m =>
    have hf : ((mc b).bind fun t => if t = true then (f b).bind fun b' => whileO mc f m b' else some b).bind k = some out := hf
    rw [Option.bind_assoc] at hf
    obtain ⟨t, h1, h2⟩ := bind_some hf
    refine hc b w S' H' F t ok w' h1 _ fun S2 H2 s2 w2 => ?_
    cases t with
    | false =>
      rw [if_neg Bool.false_ne_true] at h2 ⊢
      exact next b w S2 H2 h2 (ok.mono s2) w2
    | true =>
      rw [if_pos rfl] at h2 ⊢
      rw [Option.bind_assoc] at h2
      obtain ⟨b', h3, h4⟩ := bind_some h2
      refine ⟨fun σ' H' => ∃ w S', σ' = σJ b' w ∧ Okc (Fb b' w ++ G) S' ∧ Wd S' (OJ b' w ++ F) H', fun σ2 H2 ⟨w2, S2, e, ok2, ww⟩ => ⟨m, Nat.lt_succ_self m, b', w2, S2, e, ok2, ww, h4⟩, ?_⟩
      exact step b b' w S2 H2 h3 (ok.mono s2) w2 _ fun w' S3 H3 ok3 w3 => ⟨w', S3, rfl, ok3, w3⟩
/-- two ways that meet again -/
theorem k_ifj {ω : Type} {c : TT} {mc : Option Bool} {A B : Option β} {k : β → Option ρ} {σJ : β → ω → St} {OJ : β → ω → Ow} {Fb : β → ω → List Fact} (hG : Okc G S) (W : Wd S (O ++ F) H) (hm : ((mc.bind fun b => if b = true then A else B).bind k) = some out) (hc : SimT G O c σ mc) (h1 : ∀ S H b, A = some b → Okc G S → Wd S (O ++ F) H → ∀ N : St → Hp → Prop, (∀ w S H, Okc (Fb b w ++ G) S → Wd S (OJ b w ++ F) H → N (σJ b w) H) → t { D with nx := N } σ H) (h2 : ∀ S H b, B = some b → Okc G S → Wd S (O ++ F) H → ∀ N : St → Hp → Prop, (∀ w S H, Okc (Fb b w ++ G) S → Wd S (OJ b w ++ F) H → N (σJ b w) H) → t' { D with nx := N } σ H) (next : ∀ b w S H, Okc (Fb b w ++ G) S → Wd S (OJ b w ++ F) H → k b = some out → u D (σJ b w) H) : tSeq (tIfS c t t') u D σ H := by
  obtain ⟨b, e0, e2⟩ := bind_some hm
  obtain ⟨d, e0, e1⟩ := bind_some e0
  refine hc S H F d hG W e0 _ fun S' H' s w => ?_
  cases d with
  | true => exact h1 S' H' b e1 (hG.mono s) w _ fun w S H ok ww => next b w S H ok ww e2
  | false => exact h2 S' H' b e1 (hG.mono s) w _ fun w S H ok ww => next b w S H ok ww e2
/-- a way that may leave, and what follows -/
def joinK (k : β → Option γ) (body : (β → Option γ) → Option γ) : Option γ := body k
theorem k_join {ω : Type} {k : β → Option ρ} {body : (β → Option ρ) → Option ρ} {σJ : β → ω → St} {OJ : β → ω → Ow} {Fb : β → ω → List Fact} {P : Prop} (hm : joinK k body = some out)
    (next : ∀ b w S H, k b = some out → Okc (Fb b w ++ G) S → Wd S (OJ b w ++ F) H → u D (σJ b w) H)
    (main : (∀ b w S H, k b = some out → Okc (Fb b w ++ G) S → Wd S (OJ b w ++ F) H → u D (σJ b w) H) → body k = some out → P) : P := main next hm
end
end HF

set_option Elab.async false
set_option linter.all false
set_option maxRecDepth 100000
set_option maxHeartbeats 2000000
/-! Mini4: defs by name. -/
namespace HF
open PySem PySem.Spec L2
open PyProof.Rows hiding St
/-- a def that may be called by its name -/
structure Cal (CX : CXT) (P : Program) (w : World) (K : PySem.W.Frag) (mg : Str → Option Value) (base : Heap) (k : Nat) (x : Str) (sp : Sp) : Prop where
  ex : ∃ (f : Addr) (fd : FuncData) (ps : List Str), FnOk P w K mg base CX k f fd ps sp ∧ mg x = some (.ref f) ∧ PySem.W.keepIn K (.ref f) = true ∧ Binds K fd ps []
/-- a def of the text -/
structure DefAt (K : PySem.W.Frag) (mg : Str → Option Value) (x : Str) (st : Stmt) : Prop where
  ex : ∃ (f : Addr) (fd : FuncData), FunD K x x (defArgs st) (defBody st) (defScope st) [] [] f fd ∧ mg x = some (.ref f)
section
variable {CX : CXT} {P : Program} {w : World} {K : PySem.W.Frag} {mg : Str → Option Value} {base : Heap}
theorem cal_mk {x : Str} {st : Stmt} {N ps : List Str} {k : Nat} {sp : Sp} (D : DefAt K mg x st) (S : FnScope N ps (defScope st)) (len : ∀ vs H Q E, sp vs H Q E → vs.length = ps.length)
    (hb : ∀ (kV doc pm : Value) (an : Option Addr) (cdv ct : Value) (us : List Value), us.length = ps.length → bindArgs (PySem.W.fnOf x x (defArgs st) (defBody st) (defScope st) .none kV doc pm an cdv ct) ⟨us, []⟩ = pure (ps.zip us))
    (hbody : ∀ (f : Addr) (cdv : Value) (A : Around) (outer : List Env) (s : Shared) (H : Hp) (vs : List V) (Q : VK) (E : XK), Room k (A.deeper (envOfC x (defScope st) s.heap.objs.size f cdv)) → sp vs H Q E →
      ∃ t, PSs (cxOf CX P w K mg base N x (defScope st) f cdv A outer s H E) (defBody st) t ∧ t { nx := fun _ H' => Q .non H', rt := Q } (start N vs) H) : Cal CX P w K mg base (k + 1) x sp := by
  obtain ⟨f, fd, F, hm⟩ := D.ex
  exact ⟨f, fd, ps, F.ok S len (fun cdv A outer s H vs Q E hr h => hbody f cdv A outer s H vs Q E hr h), hm, F.kp, F.bindsN hb⟩
theorem Cal.mono {x : Str} {sp : Sp} {j k : Nat} (c : Cal CX P w K mg base j x sp) (h : j ≤ k) : Cal CX P w K mg base k x sp := by
  obtain ⟨f, fd, ps, F, a, b, d⟩ := c.ex
  exact ⟨f, fd, ps, F.mono h, a, b, d⟩
end
section
variable {X : Cx} {CX : CXT} {k j : Nat} {x : Str} {sp : Sp} {p pos : Pos} {e : Expr} {es : List Expr} {t : TA} {E : XK}
theorem pe_cal (c : Cal CX X.prog X.w X.K X.mg X.base k x sp) (hr : Room j X.A) (hk : k ≤ j) (hg : Gl X x) (hx : Passes CX X E) (ha : PA X (e :: es) t)
    (hdb : (x == ("__debug__" : Str)) = false := by decide) (he : starEach (e :: es) X.env = (false, eval e X.env) :: starEach es X.env := by rfl) (hpl : (backTo pos (starEach es X.env)).any (·.1) = false := by rfl) :
    PE X (.Call (.Name x p) (e :: es) [] pos) (tCall sp [] E t) := by
  obtain ⟨f, fd, ps, F, hm, kp, b⟩ := c.ex
  exact pe_call F (hr.mono hk) hg hm kp b .nil hx ha hdb he hpl
end
section
variable {α : Type} {β : Type}
theorem spP_len1 {T : Ty α} {m : α → Option β} {U : Ty β} : ∀ vs H Q E, spP (TyA.one T) m U vs H Q E → vs.length = 1 := fun vs H Q E ⟨S, F, a, r, ⟨v, e, _⟩, _⟩ => by rw [e]; rfl
end
end HF

set_option Elab.async false
set_option linter.all false
set_option maxRecDepth 100000
set_option maxHeartbeats 2000000
/-! Mini5: equality of data, in, isinstance, sums, dicts, what changes. -/
namespace HF
open PySem PySem.Spec L2
open PyProof.Rows hiding St
section
variable {α β γ ρ : Type} {G : List Fact} {O O0 F : Ow} {σ : St} {T : Ty α} {U : Ty β} {K : PySem.W.Frag}
/-! ### == of data -/
class Dat {α : Type} (T : Ty α) where
  enc : α → PyData
  dep : Nat
  dp : ∀ {K : PySem.W.Frag} {a : α} {v : V} {S H : Hp}, T.rep a v S → Same S H → Dp K H v (enc a)
  lay : ∀ a, (enc a).canLay0 = true
  dpt : ∀ a, (enc a).depth ≤ dep
  inj : ∀ a b, PyData.eqv (enc a) (enc b) = true ↔ a = b
instance : Dat tInt := ⟨.int, 0, fun h _ => by cases h; exact .int _, fun _ => rfl, fun _ => Nat.le_refl _, fun a b => by show (a == b) = true ↔ _; exact beq_iff_eq⟩
instance : Dat tBool := ⟨.bool, 0, fun h _ => by cases h; exact .bl _, fun _ => rfl, fun _ => Nat.le_refl _, fun a b => by show (a == b) = true ↔ _; exact beq_iff_eq⟩
def encO (e : α → PyData) : Option α → PyData
  | none => .none
  | some a => e a
theorem lay_all {e : α → PyData} (h : ∀ a, (e a).canLay0 = true) : ∀ xs : List α, PyData.canLayAll0 (xs.map e) = true
  | [] => rfl
  | x :: xs => by simp only [List.map_cons, PyData.canLayAll0, h x, lay_all h xs, Bool.and_self]
theorem dpt_all {e : α → PyData} {n : Nat} (h : ∀ a, (e a).depth ≤ n) : ∀ xs : List α, PyData.depthAll (xs.map e) ≤ n
  | [] => Nat.zero_le _
  | x :: xs => by simp only [List.map_cons, PyData.depthAll]; exact Nat.max_le.mpr ⟨h x, dpt_all h xs⟩
theorem inj_all {e : α → PyData} (h : ∀ a b, PyData.eqv (e a) (e b) = true ↔ a = b) : ∀ xs ys : List α, PyData.eqvAll (xs.map e) (ys.map e) = true ↔ xs = ys
  | [], [] => by simp [PyData.eqvAll]
  | [], _ :: _ => by simp [PyData.eqvAll]
  | _ :: _, [] => by simp [PyData.eqvAll]
  | x :: xs, y :: ys => by simp only [List.map_cons, PyData.eqvAll, Bool.and_eq_true, h x y, inj_all h xs ys, List.cons.injEq]
theorem dp_all [D : Dat T] {S H : Hp} : ∀ {xs : List α} {vs : List V}, Rl T S xs vs → Same S H → DpAll K H vs (xs.map D.enc)
  | _, _, .nil, _ => .nil
  | _, _, .cons r t, s => .cons (D.dp r s) (dp_all t s)
instance [D : Dat T] : Dat (tL T) := ⟨fun xs => .list (xs.map D.enc), D.dep + 1, fun ⟨p, vs, e, g, r⟩ s => by rw [e]; exact .lst (SqL.of (s _ _ g)) (dp_all r s), fun xs => lay_all D.lay xs, fun xs => Nat.succ_le_succ (dpt_all D.dpt xs), fun xs ys => by
  show PyData.eqvAll _ _ = true ↔ _
  exact inj_all D.inj xs ys⟩
instance [D : Dat T] : Dat (tT T) := ⟨fun xs => .tuple (xs.map D.enc), D.dep + 1, fun ⟨p, vs, e, g, r⟩ s => by rw [e]; exact .tup (SqT.of (s _ _ g)) (dp_all r s), fun xs => lay_all D.lay xs, fun xs => Nat.succ_le_succ (dpt_all D.dpt xs), fun xs ys => by
  show PyData.eqvAll _ _ = true ↔ _
  exact inj_all D.inj xs ys⟩
instance [D : Dat T] [D' : Dat U] : Dat (tP T U) := ⟨fun a => .tuple [D.enc a.1, D'.enc a.2], max D.dep D'.dep + 1, fun ⟨p, x, y, e, g, r1, r2⟩ s => by rw [e]; exact .tup (SqT.of (s _ _ g)) (.cons (D.dp r1 s) (.cons (D'.dp r2 s) .nil)),
  fun a => by simp only [PyData.canLay0, PyData.canLayAll0, D.lay, D'.lay, Bool.and_self],
  fun a => by
    simp only [PyData.depth, PyData.depthAll]
    have h1 := D.dpt a.1
    have h2 := D'.dpt a.2
    omega, fun a b => by
    show (PyData.eqv _ _ && (PyData.eqv _ _ && true)) = true ↔ _
    rw [Bool.and_true, Bool.and_eq_true, D.inj, D'.inj]
    obtain ⟨a1, a2⟩ := a
    obtain ⟨b1, b2⟩ := b
    simp⟩
theorem shaped_of [D : Dat T] (h : D.dep ≤ 64) (a : α) : SeqAt.shaped (D.enc a) = true := by
  unfold SeqAt.shaped
  rw [D.lay, decide_eq_true (Nat.le_trans (D.dpt a) h)]
  rfl
theorem eqv_dec [D : Dat T] [DecidableEq α] (a b : α) : PyData.eqv (D.enc a) (D.enc b) = decide (a = b) := by
  by_cases h : a = b
  · rw [decide_eq_true h]; exact (D.inj a b).mpr h
  · rw [decide_eq_false h]
    cases q : PyData.eqv (D.enc a) (D.enc b) with
    | false => rfl
    | true => exact absurd ((D.inj a b).mp q) h
theorem sim_eqD [D : Dat T] [DecidableEq α] {ta tb : TE} {ma mb : Option α} (ha : Sim G O ta σ ma T) (hb : Sim G O tb σ mb T) (h : D.dep ≤ 64 := by decide) : Sim G O (tOp (rEqD K) ta tb) σ (ma.bind fun a => mb.bind fun b => some (decide (a = b))) tBool :=
  sim_op2 (fun a b c x y S H F h1 h2 w e Q k => by
    cases e
    refine ⟨D.enc a, D.enc b, D.dp h1 w.st, D.dp h2 w.st, shaped_of h a, shaped_of h b, ?_⟩
    rw [eqv_dec]
    exact k _ S H (Same.refl _) w rfl) ha hb
theorem sim_neD [D : Dat T] [DecidableEq α] {ta tb : TE} {ma mb : Option α} (ha : Sim G O ta σ ma T) (hb : Sim G O tb σ mb T) (h : D.dep ≤ 64 := by decide) : Sim G O (tOp (rNeD K) ta tb) σ (ma.bind fun a => mb.bind fun b => some (!decide (a = b))) tBool :=
  sim_op2 (fun a b c x y S H F h1 h2 w e Q k => by
    cases e
    refine ⟨D.enc a, D.enc b, D.dp h1 w.st, D.dp h2 w.st, shaped_of h a, shaped_of h b, ?_⟩
    rw [eqv_dec]
    exact k _ S H (Same.refl _) w rfl) ha hb
/-! ### in -/
theorem any_enc [D : Dat T] [DecidableEq α] (a : α) : ∀ xs : List α, ((xs.map D.enc).any fun z => PyData.eqv z (D.enc a)) = decide (a ∈ xs)
  | [] => by simp
  | x :: xs => by
    rw [List.map_cons, List.any_cons, any_enc a xs, eqv_dec]
    by_cases h : x = a
    · subst h; simp
    · have h2 : ¬ a = x := fun e => h e.symm
      simp [h, h2]
theorem sim_in [D : Dat T] [DecidableEq α] {ta tb : TE} {ma : Option α} {mb : Option (List α)} (ha : Sim G O ta σ ma T) (hb : Sim G O tb σ mb (tL T)) (h : D.dep + 1 ≤ 64 := by decide) : Sim G O (tOp (rInD K) ta tb) σ (ma.bind fun a => mb.bind fun b => some (decide (a ∈ b))) tBool :=
  sim_op2 (fun a b c x y S H F h1 h2 w e Q k => by
    cases e
    obtain ⟨p, vs, rfl, g, r⟩ := h2
    refine ⟨D.enc a, b.map D.enc, D.dp h1 w.st, .lst (SqL.of (w.st _ _ g)) (dp_all r w.st), shaped_of (Nat.le_of_succ_le h) a, shaped_of (T := tL T) h b, ?_⟩
    rw [any_enc]
    exact k _ S H (Same.refl _) w rfl) ha hb
theorem sim_notIn [D : Dat T] [DecidableEq α] {ta tb : TE} {ma : Option α} {mb : Option (List α)} (ha : Sim G O ta σ ma T) (hb : Sim G O tb σ mb (tL T)) (h : D.dep + 1 ≤ 64 := by decide) : Sim G O (tOp (rNotInD K) ta tb) σ (ma.bind fun a => mb.bind fun b => some (!decide (a ∈ b))) tBool :=
  sim_op2 (fun a b c x y S H F h1 h2 w e Q k => by
    cases e
    obtain ⟨p, vs, rfl, g, r⟩ := h2
    refine ⟨D.enc a, b.map D.enc, D.dp h1 w.st, .lst (SqL.of (w.st _ _ g)) (dp_all r w.st), shaped_of (Nat.le_of_succ_le h) a, shaped_of (T := tL T) h b, ?_⟩
    rw [any_enc]
    exact k _ S H (Same.refl _) w rfl) ha hb
/-! ### an owned object looked at as if it were frozen, where a plain value comes out -/
def subG (S : Hp) (c : List Cell) : Hp := fun a => if a ∈ c.map (·.1) then none else S a
theorem Wd.unfrz {S H : Hp} {O : Ow} {c : List Cell} (W : Wd S O H) (hc : ∀ a o, (a, o) ∈ c → S a = some o) (nd : (c.map (·.1)).Nodup) : Wd (subG S c) (c :: O) H := by
  refine ⟨fun b u e => ?_, fun q u m => ?_, ?_⟩
  · unfold subG at e
    split at e
    · cases e
    · exact W.st b u e
  · rw [List.flatten_cons] at m
    rcases List.mem_append.mp m with m | m
    · refine ⟨W.st _ _ (hc q u m), ?_⟩
      unfold subG
      rw [if_pos (List.mem_map.mpr ⟨_, m, rfl⟩)]
    · obtain ⟨h1, h2⟩ := Wd0.ow W q u m
      refine ⟨h1, ?_⟩
      unfold subG
      split
      · rfl
      · exact h2
  · simp only [List.flatten_cons, List.map_append]
    refine List.nodup_append.mpr ⟨nd, Wd0.nd W, fun a ha b hb e => ?_⟩
    subst e
    obtain ⟨⟨q, u⟩, hm, e⟩ := List.mem_map.mp ha
    obtain ⟨⟨q', u'⟩, hm', e'⟩ := List.mem_map.mp hb
    have e1 : q = a := e
    have e2 : q' = a := e'
    subst e1
    subst e2
    have h1 := hc _ _ hm
    rw [(Wd0.ow W _ _ hm').2] at h1
    cases h1
theorem sim_peek {δ : Type} {OT : OTy α} {T : Ty α} {R : Ty δ} {p : Addr} {c : List Cell} {g : α} {t : TE} {m : Option δ} (o j : Nat) (ho : O[o]? = some c) (hf : G[j]? = some (OT.f g p c)) (fr : Frz OT T) (sc : ∀ a v S S', R.rep a v S → R.rep a v S')
    (h : Sim (T.f g (.ref p) :: G) (O.eraseIdx o) t σ m R) : Sim G O t σ m R := fun S H F r hG w hm Q k => by
  have w1 := w.perm (perm_front ho)
  obtain ⟨s, w2, n⟩ := w1.frzG
  have nd : (c.map (·.1)).Nodup := by
    have q := Wd0.nd w1
    simp only [List.flatten_cons, List.map_append] at q
    exact (List.nodup_append.mp q).1
  have free : ∀ a, a ∈ c.map (·.1) → S a = none := fun a m => by
    obtain ⟨⟨q, u⟩, hm, e⟩ := List.mem_map.mp m
    cases e
    exact (Wd0.ow w1 q u (List.mem_flatten.mpr ⟨c, List.mem_cons_self .., hm⟩)).2
  have r0 : OT.rep g p c S := Okc.at j hf hG
  refine h (addG S c) H F r ⟨fr _ _ _ _ (OT.mono s r0) n, hG.mono s⟩ w2 hm Q fun v S' H' s' w' q => ?_
  have w3 := w'.unfrz (fun a u m => s' _ _ (n a u m)) nd
  refine k v (subG S' c) H' (fun a u e => ?_) (w3.perm (perm_front ho).symm) (sc _ _ _ _ q)
  unfold subG
  rw [if_neg (fun z => by rw [free a z] at e; cases e)]
  exact s' _ _ (s _ _ e)
theorem sc_int : ∀ a v (S S' : Hp), tInt.rep a v S → tInt.rep a v S' := fun _ _ _ _ h => h
theorem sc_bool : ∀ a v (S S' : Hp), tBool.rep a v S → tBool.rep a v S' := fun _ _ _ _ h => h
theorem sc_unit : ∀ a v (S S' : Hp), tUnit.rep a v S → tUnit.rep a v S' := fun _ _ _ _ h => h
theorem sc_optInt : ∀ a v (S S' : Hp), (tO tInt).rep a v S → (tO tInt).rep a v S' := fun a _ _ _ h => by cases a <;> exact h
/-! ### builtins -/
theorem rl_int {S : Hp} {xs : List Int} {vs : List V} (r : Rl tInt S xs vs) : vs = xs.map V.int := by
  induction r with
  | nil => rfl
  | cons h t ih => rw [List.map_cons, ih, show _ = V.int _ from h]
theorem sim_sum {ta : TE} {ma : Option (List Int)} {TL : Ty (List Int)} [Lk O (oL tInt) TL] (ha : Sim G O ta σ ma TL) : Sim G O (tCB (rSum K) (tCons ta tNil)) σ (ma.bind fun a => some a.sum) tInt := fun S H F r hG w hm Q k => by
  obtain ⟨a, h1, hm⟩ := bind_some hm
  cases hm
  refine ha S H F a hG w h1 _ fun x S1 H1 s1 w1 q1 => ?_
  obtain ⟨p, vs, rfl, r, g⟩ := lkL (O := O) (T := tInt) q1
  exact ⟨p, a, rfl, SqL.of (by rw [g H1 F w1, rl_int r]), k _ S1 H1 s1 w1 rfl⟩
theorem rl_bools {S : Hp} {xs : List Bool} {vs : List V} (r : Rl tBool S xs vs) : vs = xs.map V.bl := by
  induction r with
  | nil => rfl
  | cons h t ih => rw [List.map_cons, ih, show _ = V.bl _ from h]
theorem sim_all {ta : TE} {ma : Option (List Bool)} {TL : Ty (List Bool)} [Lk O (oL tBool) TL] (ha : Sim G O ta σ ma TL) : Sim G O (tCB (rAll K) (tCons ta tNil)) σ (ma.bind fun a => some (a.all id)) tBool := fun S H F r hG w hm Q k => by
  obtain ⟨a, h1, hm⟩ := bind_some hm
  cases hm
  refine ha S H F a hG w h1 _ fun x S1 H1 s1 w1 q1 => ?_
  obtain ⟨p, vs, rfl, r, g⟩ := lkL (O := O) (T := tBool) q1
  exact ⟨p, a, rfl, SqL.of (by rw [g H1 F w1, rl_bools r]), k _ S1 H1 s1 w1 rfl⟩
theorem sim_any {ta : TE} {ma : Option (List Bool)} {TL : Ty (List Bool)} [Lk O (oL tBool) TL] (ha : Sim G O ta σ ma TL) : Sim G O (tCB (rAny K) (tCons ta tNil)) σ (ma.bind fun a => some (a.any id)) tBool := fun S H F r hG w hm Q k => by
  obtain ⟨a, h1, hm⟩ := bind_some hm
  cases hm
  refine ha S H F a hG w h1 _ fun x S1 H1 s1 w1 q1 => ?_
  obtain ⟨p, vs, rfl, r, g⟩ := lkL (O := O) (T := tBool) q1
  exact ⟨p, a, rfl, SqL.of (by rw [g H1 F w1, rl_bools r]), k _ S1 H1 s1 w1 rfl⟩
theorem sim_abs {ta : TE} {ma : Option Int} (ha : Sim G O ta σ ma tInt) : Sim G O (tCB (fun xs H Q => ∃ i, xs = [.int i] ∧ Q (.int (if i < 0 then -i else i)) H) (tCons ta tNil)) σ (ma.bind fun a => some (if a < 0 then -a else a)) tInt := fun S H F r hG w hm Q k => by
  obtain ⟨a, h1, hm⟩ := bind_some hm
  cases hm
  refine ha S H F a hG w h1 _ fun x S1 H1 s1 w1 q1 => ⟨a, by rw [show x = .int a from q1], k _ S1 H1 s1 w1 rfl⟩
theorem sim_intI {ta : TE} {ma : Option Int} (ha : Sim G O ta σ ma tInt) : Sim G O (tCB (fun xs H Q => (∃ i, xs = [.int i] ∧ Q (.int i) H) ∨ ∃ k, xs = [.bl k] ∧ Q (.int (if k then 1 else 0)) H) (tCons ta tNil)) σ ma tInt := fun S H F r hG w hm Q k => by
  refine ha S H F r hG w hm _ fun x S1 H1 s1 w1 q1 => .inl ⟨r, by rw [show x = .int r from q1], k _ S1 H1 s1 w1 rfl⟩
theorem sim_intB {ta : TE} {ma : Option Bool} (ha : Sim G O ta σ ma tBool) : Sim G O (tCB (fun xs H Q => (∃ i, xs = [.int i] ∧ Q (.int i) H) ∨ ∃ k, xs = [.bl k] ∧ Q (.int (if k then 1 else 0)) H) (tCons ta tNil)) σ (ma.bind fun b => some (if b = true then 1 else 0)) tInt := fun S H F r hG w hm Q k => by
  obtain ⟨a, h1, hm⟩ := bind_some hm
  cases hm
  refine ha S H F a hG w h1 _ fun x S1 H1 s1 w1 q1 => .inr ⟨a, by rw [show x = .bl a from q1], k _ S1 H1 s1 w1 rfl⟩
theorem sim_max2 {ta tb : TE} {ma mb : Option Int} (ha : Sim G O ta σ ma tInt) (hb : Sim G O tb σ mb tInt) : Sim G O (tCB (fun xs H Q => ∃ i j, xs = [.int i, .int j] ∧ Q (.int (if j > i then j else i)) H) (tCons ta (tCons tb tNil))) σ (ma.bind fun a => mb.bind fun b => some (max a b)) tInt := fun S H F r hG w hm Q k => by
  obtain ⟨a, h1, hm⟩ := bind_some hm
  obtain ⟨b, h2, hm⟩ := bind_some hm
  cases hm
  refine ha S H F a hG w h1 _ fun x S1 H1 s1 w1 q1 => ?_
  refine hb S1 H1 F b (hG.mono s1) w1 h2 _ fun y S2 H2 s2 w2 q2 => ⟨a, b, by rw [show x = .int a from q1, show y = .int b from q2], ?_⟩
  have e : (if b > a then b else a) = max a b := by split <;> omega
  rw [e]
  exact k _ S2 H2 (s1.trans s2) w2 rfl
theorem sim_min2 {ta tb : TE} {ma mb : Option Int} (ha : Sim G O ta σ ma tInt) (hb : Sim G O tb σ mb tInt) : Sim G O (tCB (fun xs H Q => ∃ i j, xs = [.int i, .int j] ∧ Q (.int (if j < i then j else i)) H) (tCons ta (tCons tb tNil))) σ (ma.bind fun a => mb.bind fun b => some (min a b)) tInt := fun S H F r hG w hm Q k => by
  obtain ⟨a, h1, hm⟩ := bind_some hm
  obtain ⟨b, h2, hm⟩ := bind_some hm
  cases hm
  refine ha S H F a hG w h1 _ fun x S1 H1 s1 w1 q1 => ?_
  refine hb S1 H1 F b (hG.mono s1) w1 h2 _ fun y S2 H2 s2 w2 q2 => ⟨a, b, by rw [show x = .int a from q1, show y = .int b from q2], ?_⟩
  have e : (if b < a then b else a) = min a b := by split <;> omega
  rw [e]
  exact k _ S2 H2 (s1.trans s2) w2 rfl
theorem sim_bitlen {to : TE} {m : Option Int} (h : Sim G O to σ m tInt) : Sim G O (tBits to) σ (m.bind fun i => some ((Builtin.Int.intBits i : Nat) : Int)) tInt := fun S H F r hG w hm Q k => by
  obtain ⟨a, h1, hm⟩ := bind_some hm
  cases hm
  exact h S H F a hG w h1 _ fun v S1 H1 s1 w1 q1 => ⟨a, q1, k _ S1 H1 s1 w1 rfl⟩
/-- isinstance against a built-in class, the answer known by the kind of the data -/
def IsI (T : Ty α) (c : String) (b : Bool) : Prop := ∀ (K : PySem.W.Frag) (a : α) (v : V) (S H : Hp), T.rep a v S → Same S H → ∃ t, TyX K H v t ∧ PySem.W.kitOne K t (.type c) = some b
theorem sim_isi {c : String} {b : Bool} {ta : TE} {ma : Option α} (hi : IsI T c b) (ha : Sim G O ta σ ma T) : Sim G O (tCB (rIsi K) (tCons ta (tCons (tC (.ty c)) tNil))) σ (ma.bind fun _ => some b) tBool := fun S H F r hG w hm Q k => by
  obtain ⟨a, h1, hm⟩ := bind_some hm
  cases hm
  refine ha S H F a hG w h1 _ fun x S1 H1 s1 w1 q1 => ?_
  obtain ⟨t, h2, h3⟩ := hi K a x S1 H1 q1 w1.st
  exact ⟨x, .ty c, t, .type c, b, rfl, .ty c, h2, h3, k _ S1 H1 s1 w1 rfl⟩
theorem isI_int_int : IsI tInt "int" true := fun K a v S H h s => by cases h; exact ⟨_, .base (.int _), kit_ty (by decide +kernel)⟩
theorem isI_int_bool : IsI tInt "bool" false := fun K a v S H h s => by cases h; exact ⟨_, .base (.int _), kit_ty (by decide +kernel)⟩
theorem isI_bool_bool : IsI tBool "bool" true := fun K a v S H h s => by cases h; exact ⟨_, .base (.bl _), kit_ty (by decide +kernel)⟩
theorem isI_tup_tuple : IsI (tT T) "tuple" true := fun K a v S H ⟨p, vs, e, g, _⟩ s => by subst e; exact ⟨_, .base (.tup (s _ _ g)), kit_ty (by decide +kernel)⟩
theorem isI_pair_tuple : IsI (tP T U) "tuple" true := fun K a v S H ⟨p, x, y, e, g, _⟩ s => by subst e; exact ⟨_, .base (.tup (s _ _ g)), kit_ty (by decide +kernel)⟩
theorem isI_list_list : IsI (tL T) "list" true := fun K a v S H ⟨p, vs, e, g, _⟩ s => by subst e; exact ⟨_, .base (.lst (s _ _ g)), kit_ty (by decide +kernel)⟩
theorem isI_list_tuple : IsI (tL T) "tuple" false := fun K a v S H ⟨p, vs, e, g, _⟩ s => by subst e; exact ⟨_, .base (.lst (s _ _ g)), kit_ty (by decide +kernel)⟩
theorem isI_tup_list : IsI (tT T) "list" false := fun K a v S H ⟨p, vs, e, g, _⟩ s => by subst e; exact ⟨_, .base (.tup (s _ _ g)), kit_ty (by decide +kernel)⟩
theorem sim_lenP {ta : TE} {ma : Option (α × β)} (ha : Sim G O ta σ ma (tP T U)) : Sim G O (tCB (rLn K) (tCons ta tNil)) σ (ma.bind fun _ => some 2) tInt := fun S H F r hG w hm Q k => by
  obtain ⟨a, h1, hm⟩ := bind_some hm
  cases hm
  refine ha S H F a hG w h1 _ fun x S1 H1 s1 w1 q1 => ?_
  obtain ⟨p, y, z, rfl, g, r⟩ := q1
  exact ⟨p, [y, z], rfl, .inr (SqT.of (w1.st _ _ g)), k _ S1 H1 s1 w1 rfl⟩
/-! ### records: dicts with written keys -/
def recKv (keys : List Str) (vs : List V) : List (Key × V) := (keys.map Sum.inr).zip vs
def oRec (keys : List Str) (A : TyA α) : OTy α := ⟨fun a p c S => ∃ vs, c = [(p, .dK (recKv keys vs))] ∧ vs.length = keys.length ∧ keys.Nodup ∧ A.rep a vs S, fun h ⟨vs, e, l, n, r⟩ => ⟨vs, e, l, n, A.mono h r⟩⟩
def tRec (keys : List Str) (A : TyA α) : Ty α := ⟨fun a v S => ∃ p vs, v = .ref p ∧ S p = some (.dK (recKv keys vs)) ∧ vs.length = keys.length ∧ keys.Nodup ∧ A.rep a vs S, fun h ⟨p, vs, e, g, l, n, r⟩ => ⟨p, vs, e, h _ _ g, l, n, A.mono h r⟩⟩
theorem frz_Rec {keys : List Str} {A : TyA α} : Frz (oRec keys A) (tRec keys A) := fun g p c S ⟨vs, e, l, n, r⟩ h => ⟨p, vs, rfl, h _ _ (by rw [e]; exact List.mem_cons_self ..), l, n, r⟩
instance {keys : List Str} {A : TyA α} : Lk O (oRec keys A) (tRec keys A) := ⟨fun _ _ _ ⟨p, vs, e, h, l, n, r⟩ => ⟨p, _, e, ⟨vs, rfl, l, n, r⟩, fun _ _ w a o m => by
  obtain ⟨rfl, rfl⟩ : a = p ∧ o = .dK (recKv keys vs) := by simpa using m
  exact w.st _ _ h⟩⟩
theorem valV_rec : ∀ {keys : List Str} {vs : List V} {i : Nat} {k : Str}, keys.Nodup → vs.length = keys.length → keys[i]? = some k → valV (recKv keys vs) (Sum.inr k : Key) = vs[i]?
  | [], _, _, _, _, _, h => by simp at h
  | x :: keys, [], _, _, _, h, _ => by simp at h
  | x :: keys, v :: vs, 0, k, _, _, h => by
    simp at h
    subst h
    exact valV_pos (p := ((Sum.inr x : Key), v)) rfl
  | x :: keys, v :: vs, i + 1, k, n, l, h => by
    have hk : keys[i]? = some k := by simpa using h
    have hne : ¬ ((Sum.inr x : Key) = Sum.inr k) := fun e => (List.nodup_cons.mp n).1 (by rw [Sum.inr.inj e]; exact List.mem_of_getElem? hk)
    show valV (((Sum.inr x : Key), v) :: recKv keys vs) _ = _
    rw [valV_neg (p := ((Sum.inr x : Key), v)) hne, valV_rec (List.nodup_cons.mp n).2 (by simpa using l) hk]
    simp
/-- the i-th place of a record -/
def Pj (A : TyA α) (i : Nat) (T : Ty β) (f : α → β) : Prop := ∀ a vs S, A.rep a vs S → ∃ v, vs[i]? = some v ∧ T.rep (f a) v S
theorem pj_one : Pj (TyA.one T) 0 T id := fun a vs S ⟨v, e, r⟩ => ⟨v, by rw [e]; rfl, r⟩
theorem pj_0 {A : TyA β} : Pj (TyA.c T A) 0 T Prod.fst := fun a vs S ⟨v, ws, e, r, _⟩ => ⟨v, by rw [e]; rfl, r⟩
theorem pj_s {A : TyA β} {i : Nat} {W : Ty γ} {f : β → γ} (h : Pj A i W f) : Pj (TyA.c T A) (i + 1) W (fun a => f a.2) := fun a vs S ⟨v, ws, e, _, r⟩ => by
  obtain ⟨x, h1, h2⟩ := h a.2 ws S r
  exact ⟨x, by rw [e]; exact h1, h2⟩
theorem sim_get {keys : List Str} {A : TyA α} {TR : Ty α} [Lk O (oRec keys A) TR] {i : Nat} {k : Str} {f : α → β} {td : TE} {md : Option α} (pj : Pj A i U f) (hk : keys[i]? = some k) (hd : Sim G O td σ md TR) :
    Sim G O (tDGet td (tC (.str k))) σ (md.bind fun a => some (f a)) U := fun S H F r hG w hm Q kk => by
  obtain ⟨a, h1, hm⟩ := bind_some hm
  cases hm
  refine hd S H F a hG w h1 _ fun x S1 H1 s1 w1 q1 => ?_
  obtain ⟨p, c, rfl, ⟨vs, rfl, l, n, r⟩, g⟩ := Lk.lk (O := O) _ _ _ q1
  obtain ⟨v, h2, h3⟩ := pj a vs S1 r
  have e := g H1 F w1 _ _ (List.mem_cons_self ..)
  refine ⟨p, v, rfl, ?_, kk v S1 H1 s1 w1 h3⟩
  have q := DGet.k (k := Sum.inr k) e
  rw [valV_rec n l hk, h2] at q
  exact q
/-- the display of a record -/
def SimPs (G : List Fact) (O : Ow) (trs : List (TE × TE)) (σ : St) (m : Option α) (keys : List Str) (A : TyA α) : Prop :=
  ∀ (S H : Hp) (F : Ow) (r : α), Okc G S → Wd S (O ++ F) H → m = some r → ∀ Q : List (V × V) → Hp → Prop, (∀ vs S' H', Same S S' → Wd S' (O ++ F) H' → vs.length = keys.length → A.rep r vs S' → Q ((keys.map V.str).zip vs) H') → tPairs trs σ H Q
theorem simPs_one {k : Str} {tv : TE} {m : Option α} (h : Sim G O tv σ m T) : SimPs G O [(tC (.str k), tv)] σ m [k] (TyA.one T) := fun S H F r hG w hm Q kk =>
  h S H F r hG w hm _ fun v S' H' s w' q => kk [v] S' H' s w' rfl ⟨v, rfl, q⟩
theorem simPs_c {k : Str} {keys : List Str} {tv : TE} {trs : List (TE × TE)} {A : TyA β} {ma : Option α} {mb : Option β} (h : Sim G O tv σ ma T) (hr : SimPs G O trs σ mb keys A) :
    SimPs G O ((tC (.str k), tv) :: trs) σ (ma.bind fun a => mb.bind fun b => some (a, b)) (k :: keys) (TyA.c T A) := fun S H F r hG w hm Q kk => by
  obtain ⟨a, h1, hm⟩ := bind_some hm
  obtain ⟨b, h2, hm⟩ := bind_some hm
  cases hm
  refine h S H F a hG w h1 _ fun v S1 H1 s1 w1 q1 => ?_
  exact hr S1 H1 F b (hG.mono s1) w1 h2 _ fun vs S2 H2 s2 w2 l q2 => kk (v :: vs) S2 H2 (s1.trans s2) w2 (congrArg Nat.succ l) ⟨v, vs, rfl, T.mono s2 q1, q2⟩
theorem any_key {kvs : List (Key × V)} {k : Key} (h : k ∉ kvs.map (·.1)) : (kvs.any fun kv => decide (kv.1 = k)) = false := by
  rw [Bool.eq_false_iff]
  intro z
  obtain ⟨p, hp, e⟩ := List.any_eq_true.mp z
  exact h (List.mem_map.mpr ⟨p, hp, of_decide_eq_true e⟩)
theorem merge_new : ∀ (kvs acc : List (Key × V)), ((acc ++ kvs).map (·.1)).Nodup → mergeK acc kvs = acc ++ kvs
  | [], acc, _ => by rw [List.append_nil]; rfl
  | kv :: kvs, acc, n => by
    have n1 : kv.1 ∉ acc.map (·.1) := fun m => by
      rw [List.map_append] at n
      exact (List.nodup_append.mp n).2.2 _ m _ (List.mem_map.mpr ⟨kv, List.mem_cons_self .., rfl⟩) rfl
    have e : putK acc kv.1 kv.2 = acc ++ [kv] := by
      unfold putK
      rw [any_key n1, if_neg Bool.false_ne_true]
    have q := merge_new kvs (acc ++ [kv]) (by rw [List.append_assoc]; exact n)
    show mergeK (putK acc kv.1 kv.2) kvs = _
    rw [e, q, List.append_assoc]
    rfl
theorem recKv_keys {keys : List Str} {vs : List V} (l : vs.length = keys.length) : (recKv keys vs).map (·.1) = keys.map Sum.inr := by
  unfold recKv
  rw [List.map_fst_zip]
  simp [l]
theorem nodup_inr {keys : List Str} (n : keys.Nodup) : (keys.map (Sum.inr : Str → Key)).Nodup := by
  induction keys with
  | nil => exact List.nodup_nil
  | cons x r ih =>
    obtain ⟨n1, n2⟩ := List.nodup_cons.mp n
    refine List.nodup_cons.mpr ⟨fun m => ?_, ih n2⟩
    obtain ⟨y, hy, e⟩ := List.mem_map.mp m
    exact n1 (by rw [← Sum.inr.inj e]; exact hy)
theorem zip_kV : ∀ (keys : List Str) (vs : List V), (keys.map V.str).zip vs = (recKv keys vs).map fun kv => (kV kv.1, kv.2)
  | [], _ => rfl
  | _ :: _, [] => rfl
  | k :: keys, v :: vs => by
    show (V.str k, v) :: (keys.map V.str).zip vs = (kV (Sum.inr k), v) :: (recKv keys vs).map _
    rw [zip_kV keys vs]
    rfl
theorem simF_disp {keys : List Str} {A : TyA α} {trs : List (TE × TE)} {m : Option α} (nd : keys.Nodup) (h15 : keys.length ≤ 15) (h : SimPs G O trs σ m keys A) : SimF G O (tDisp trs) σ m (oRec keys A) := fun S H F r hG w hm Q k => by
  intro p hp
  refine h S _ ([(p, .dK [])] :: F) r hG ((w.newO hp).perm (perm_mid _ _ _)) hm _ fun vs S' H' s w' l q => ?_
  have w2 := w'.perm (perm_mid _ _ _).symm
  refine ⟨w2.hd1, recKv keys vs, zip_kV keys vs, ?_, ?_⟩
  · unfold recKv
    rw [List.length_zip, List.length_map]
    omega
  · rw [merge_new _ [] (by rw [List.nil_append, recKv_keys l]; exact nodup_inr nd), List.nil_append]
    exact k p _ S' _ s (w2.put1 _) ⟨vs, rfl, l, nd, q⟩
/-- a record's place is written -/
theorem recKv_set : ∀ {keys : List Str} {vs : List V} {i : Nat} {k : Str} {v : V}, keys.Nodup → vs.length = keys.length → keys[i]? = some k → (recKv keys vs).map (fun kv => if kv.1 = (Sum.inr k : Key) then (kv.1, v) else kv) = recKv keys (vs.set i v)
  | [], _, _, _, _, _, _, h => by simp at h
  | x :: keys, [], _, _, _, _, h, _ => by simp at h
  | x :: keys, u :: vs, 0, k, v, n, l, h => by
    simp at h
    subst h
    show (if (Sum.inr x : Key) = Sum.inr x then ((Sum.inr x : Key), v) else _) :: (recKv keys vs).map _ = ((Sum.inr x : Key), v) :: recKv keys vs
    rw [if_pos rfl]
    congr 1
    have l' : vs.length = keys.length := by simpa using l
    have hn : (Sum.inr x : Key) ∉ (recKv keys vs).map (·.1) := fun m => by
      rw [recKv_keys l'] at m
      obtain ⟨y, hy, e⟩ := List.mem_map.mp m
      exact (List.nodup_cons.mp n).1 (by rw [← Sum.inr.inj e]; exact hy)
    refine (List.map_congr_left fun kv m => ?_).trans (List.map_id _)
    exact if_neg fun e => hn (List.mem_map.mpr ⟨kv, m, e⟩)
  | x :: keys, u :: vs, i + 1, k, v, n, l, h => by
    have hk : keys[i]? = some k := by simpa using h
    have hne : ¬ ((Sum.inr x : Key) = Sum.inr k) := fun e => (List.nodup_cons.mp n).1 (by rw [Sum.inr.inj e]; exact List.mem_of_getElem? hk)
    show (if (Sum.inr x : Key) = Sum.inr k then ((Sum.inr x : Key), v) else ((Sum.inr x : Key), u)) :: (recKv keys vs).map _ = ((Sum.inr x : Key), u) :: recKv keys (vs.set i v)
    rw [if_neg hne, recKv_set (List.nodup_cons.mp n).2 (by simpa using l) hk]
def Stp (A : TyA α) (i : Nat) (T : Ty β) (f : α → β → α) : Prop := ∀ a vs S x v, A.rep a vs S → T.rep x v S → A.rep (f a x) (vs.set i v) S
theorem st_one : Stp (TyA.one T) 0 T (fun _ x => x) := fun a vs S x v ⟨u, e, r⟩ q => ⟨v, by rw [e]; rfl, q⟩
theorem st_0 {A : TyA β} : Stp (TyA.c T A) 0 T (fun a x => (x, a.2)) := fun a vs S x v ⟨u, ws, e, r, q0⟩ q => ⟨v, ws, by rw [e]; rfl, q, q0⟩
theorem st_s {A : TyA β} {i : Nat} {W : Ty γ} {f : β → γ → β} (h : Stp A i W f) : Stp (TyA.c T A) (i + 1) W (fun a x => (a.1, f a.2 x)) := fun a vs S x v ⟨u, ws, e, r, q0⟩ q => ⟨u, ws.set i v, by rw [e]; rfl, r, h _ _ _ _ _ q0 q⟩
def Snp (A : TyA α) (A' : TyA γ) (T : Ty β) (f : α → β → γ) : Prop := ∀ a vs S x v, A.rep a vs S → T.rep x v S → A'.rep (f a x) (vs ++ [v]) S
theorem sn_one : Snp (TyA.one T) (TyA.c T (TyA.one U)) U (fun a x => (a, x)) := fun a vs S x v ⟨u, e, r⟩ q => ⟨u, [v], by rw [e]; rfl, r, ⟨v, rfl, q⟩⟩
theorem sn_c {A : TyA β} {A' : TyA γ} {δ : Type} {W : Ty δ} {f : β → δ → γ} (h : Snp A A' W f) : Snp (TyA.c T A) (TyA.c T A') W (fun a x => (a.1, f a.2 x)) := fun a vs S x v ⟨u, ws, e, r, q0⟩ q => ⟨u, ws ++ [v], by rw [e]; rfl, r, h _ _ _ _ _ q0 q⟩
variable {S H : Hp} {D : Ends} {out : ρ} {u t t' : TS}
theorem k_rput {keys : List Str} {A : TyA α} {n : Nat} {key : Str} {g : α → β → α} {tv : TE} {i : Nat} {p : Addr} {c : List Cell} {a : α} {mv : Option β} {k : α → Option ρ} (hG : Okc G S) (W : Wd S (O ++ F) H) (hm : (mv.bind fun x => (some (g a x)).bind k) = some out)
    (o j : Nat) (hi : σ[i]? = some (some (.ref p))) (ho : O[o]? = some c) (hf : G[j]? = some ((oRec keys A).f a p c)) (st : Stp A n U g) (hk : keys[n]? = some key) (hl : keys.length < sizeLine) (hs : Sim G O tv σ mv U)
    (next : ∀ x c' S H, Okc ((oRec keys A).f (g a x) p c' :: G) S → Wd S (O.set o c' ++ F) H → k (g a x) = some out → u D σ H) : tSeq (sDPut (tVar i) (tC (.str key)) tv) u D σ H := by
  obtain ⟨x, h1, hm⟩ := bind_some hm
  obtain ⟨vs, e0, l, nd, r0⟩ := (Okc.at j hf hG : (oRec keys A).rep a p c S)
  subst e0
  refine hs S H F x hG W h1 _ fun v S1 H1 s1 w1 q1 => ⟨.ref p, hi, p, upd H1 p (.dK (recKv keys (vs.set n v))), rfl, ?_, next x _ S1 _ ⟨⟨vs.set n v, rfl, by rw [List.length_set]; exact l, nd, st _ _ _ _ _ (A.mono s1 r0) q1⟩, hG.mono s1⟩ (w1.put o ho _) hm⟩
  have e := w1.at1 ho
  have hz : (recKv keys vs).length < sizeLine := by
    unfold recKv
    rw [List.length_zip, List.length_map]
    omega
  have q := DPut.k (k := Sum.inr key) (v := v) e hz
  have ep : putK (recKv keys vs) (Sum.inr key : Key) v = recKv keys (vs.set n v) := by
    unfold putK
    rw [valV_any, valV_rec nd l hk]
    have hn : n < vs.length := by rw [l]; exact (List.getElem?_eq_some_iff.mp hk).1
    rw [List.getElem?_eq_getElem hn, Option.isSome_some, if_pos rfl]
    exact recKv_set nd l hk
  rw [ep] at q
  exact q
/-- a record gets one key more -/
theorem k_rnew {keys : List Str} {A : TyA α} {A' : TyA γ} {key : Str} {g : α → β → γ} {tv : TE} {i : Nat} {p : Addr} {c : List Cell} {a : α} {mv : Option β} {k : γ → Option ρ} (hG : Okc G S) (W : Wd S (O ++ F) H) (hm : (mv.bind fun x => (some (g a x)).bind k) = some out)
    (o j : Nat) (hi : σ[i]? = some (some (.ref p))) (ho : O[o]? = some c) (hf : G[j]? = some ((oRec keys A).f a p c)) (sn : Snp A A' U g) (hk : (keys ++ [key]).Nodup) (hl : keys.length < sizeLine) (hs : Sim G O tv σ mv U)
    (next : ∀ x c' S H, Okc ((oRec (keys ++ [key]) A').f (g a x) p c' :: G) S → Wd S (O.set o c' ++ F) H → k (g a x) = some out → u D σ H) : tSeq (sDPut (tVar i) (tC (.str key)) tv) u D σ H := by
  obtain ⟨x, h1, hm⟩ := bind_some hm
  obtain ⟨vs, e0, l, nd, r0⟩ := (Okc.at j hf hG : (oRec keys A).rep a p c S)
  subst e0
  refine hs S H F x hG W h1 _ fun v S1 H1 s1 w1 q1 => ⟨.ref p, hi, p, upd H1 p (.dK (recKv (keys ++ [key]) (vs ++ [v]))), rfl, ?_, next x _ S1 _ ⟨⟨vs ++ [v], rfl, by simp [l], hk, sn _ _ _ _ _ (A.mono s1 r0) q1⟩, hG.mono s1⟩ (w1.put o ho _) hm⟩
  have e := w1.at1 ho
  have hz : (recKv keys vs).length < sizeLine := by
    unfold recKv
    rw [List.length_zip, List.length_map]
    omega
  have q := DPut.k (k := Sum.inr key) (v := v) e hz
  have hn : (Sum.inr key : Key) ∉ (recKv keys vs).map (·.1) := fun m => by
    rw [recKv_keys l] at m
    obtain ⟨y, hy, e⟩ := List.mem_map.mp m
    have := (List.nodup_append.mp hk).2.2 y hy key (List.mem_singleton.mpr rfl)
    exact this (Sum.inr.inj e)
  have ep : putK (recKv keys vs) (Sum.inr key : Key) v = recKv (keys ++ [key]) (vs ++ [v]) := by
    unfold putK
    rw [any_key hn, if_neg Bool.false_ne_true]
    unfold recKv
    rw [List.map_append, List.zip_append (by simp [l])]
    rfl
  rw [ep] at q
  exact q
end
end HF

set_option Elab.async false
set_option linter.all false
set_option maxRecDepth 100000
set_option maxHeartbeats 2000000
/-! Mini6: step by step from the left, calls that change one owned object, dicts with int keys and with tuple keys. -/
namespace HF
open PySem PySem.Spec L2
open PyProof.Rows hiding St
/-- the promise of a def that changes the owned object at its n-th place -/
def spO {α β γ : Type} (n : Nat) (OT : OTy γ) (A : TyA α) (m : γ → α → Option (β × γ)) (U : Ty β) : Sp := fun vs H Q _ => ∃ (S : Hp) (F : Ow) (p : Addr) (c : List Cell) (g : γ) (a : α) (r : β × γ),
  vs[n]? = some (.ref p) ∧ A.rep a (vs.eraseIdx n) S ∧ OT.rep g p c S ∧ Wd S (c :: F) H ∧ m g a = some r ∧ ∀ v c' S' H', Same S S' → Wd S' (c' :: F) H' → OT.rep r.2 p c' S' → U.rep r.1 v S' → Q v H'
section
variable {α β γ ρ δ : Type} {G : List Fact} {O O0 F : Ow} {σ : St} {T : Ty α} {U : Ty β} {K : PySem.W.Frag} {S H : Hp} {D : Ends} {out : ρ} {u t t' : TS} {Q : VK}
/-! ### steps -/
theorem c_pure {te : TE} {m : Option α} {k : α → Option ρ} (hG : Okc G S) (W : Wd S (O ++ F) H) (hm : m.bind k = some out) (hs : Sim G O te σ m T)
    (next : ∀ a v S H, Okc (T.f a v :: G) S → Wd S (O ++ F) H → k a = some out → Q v H) : te σ H Q := by
  obtain ⟨a, h1, h2⟩ := bind_some hm
  exact hs S H F a hG W h1 _ fun v S' H' s w q => next a v S' H' ⟨q, hG.mono s⟩ w h2
theorem c_fresh {OT : OTy α} {te : TE} {m : Option α} {k : α → Option ρ} (hG : Okc G S) (W : Wd S (O ++ F) H) (hm : m.bind k = some out) (hs : SimF G O te σ m OT)
    (next : ∀ a p c S H, Okc (OT.f a p c :: G) S → Wd S ((c :: O) ++ F) H → k a = some out → Q (.ref p) H) : te σ H Q := by
  obtain ⟨a, h1, h2⟩ := bind_some hm
  exact hs S H F a hG W h1 _ fun p c S' H' s w q => next a p c S' H' ⟨q, hG.mono s⟩ w h2
theorem c_test {tt : TT} {m : Option Bool} {k : Bool → Option ρ} {R : Bool → Hp → Prop} (hG : Okc G S) (W : Wd S (O ++ F) H) (hm : m.bind k = some out) (hs : SimT G O tt σ m)
    (next : ∀ b S H, Okc G S → Wd S (O ++ F) H → k b = some out → R b H) : tt σ H R := by
  obtain ⟨a, h1, h2⟩ := bind_some hm
  exact hs S H F a hG W h1 _ fun S' H' s w => next a S' H' (hG.mono s) w h2
theorem c_ref {i : Nat} {v : V} (hi : σ[i]? = some (some v)) (h : Q v H) : tVar i σ H Q := ⟨v, hi, h⟩
theorem c_bool {b : Bool} {v : V} {R : Bool → Hp → Prop} (hG : Okc G S) (j : Nat) (hf : G[j]? = some (tBool.f b v)) (h : R b H) : ∃ k, v = .bl k ∧ R k H := ⟨b, Okc.at j hf hG, h⟩
theorem c_ite {b : Bool} {A B : Option ρ} {P1 P2 : Prop} (hm : (if b = true then A else B) = some out) (h1 : b = true → A = some out → P1) (h2 : b = false → B = some out → P2) : if b = true then P1 else P2 := by
  cases b with
  | true => exact h1 rfl hm
  | false => exact h2 rfl hm
theorem e_op {r : R2} {ta tb : TE} (h : ta σ H fun x H1 => tb σ H1 fun y H2 => r x y H2 Q) : tOp r ta tb σ H Q := h
theorem x_op {r : R2} {x y : V} (h : tOp r (tC x) (tC y) σ H Q) : r x y H Q := h
theorem e_cons {ta : TE} {tr : TA} {R : List V → Hp → Prop} (h : ta σ H fun x H1 => tr σ H1 fun xs H2 => R (x :: xs) H2) : tCons ta tr σ H R := h
theorem e_nil {R : List V → Hp → Prop} (h : R [] H) : tNil σ H R := h
theorem e_cb {r : List V → Hp → VK → Prop} {t : TA} (h : t σ H fun vs H1 => r vs H1 Q) : tCB r t σ H Q := h
theorem x_cb1 {r : List V → Hp → VK → Prop} {x : V} (h : tCB r (tCons (tC x) tNil) σ H Q) : r [x] H Q := h
theorem x_cb2 {r : List V → Hp → VK → Prop} {x y : V} (h : tCB r (tCons (tC x) (tCons (tC y) tNil)) σ H Q) : r [x, y] H Q := h
theorem e_call {sp : Sp} {E : XK} {t : TA} (h : t σ H fun vs H1 => sp (vs ++ []) H1 Q E) : tCall sp [] E t σ H Q := h
theorem e_test {t : TE} {R : Bool → Hp → Prop} (h : t σ H fun x H' => ∃ k, x = .bl k ∧ R k H') : tTest t σ H R := h
theorem e_tB {t : TE} {R : Bool → Hp → Prop} (h : t σ H fun x H' => ∃ k, x = .bl k ∧ R k H') : tB t σ H R := h
theorem e_and {t u : TT} {R : Bool → Hp → Prop} (h : t σ H fun c H1 => if c = true then u σ H1 R else R false H1) : tAnd t u σ H R := h
theorem e_or {t u : TT} {R : Bool → Hp → Prop} (h : t σ H fun c H1 => if c = true then R true H1 else u σ H1 R) : tOr t u σ H R := h
theorem e_not {t : TT} {R : Bool → Hp → Prop} (h : t σ H fun c H1 => R (!c) H1) : tNot t σ H R := h
theorem e_set {te : TE} {i : Nat} (h : te σ H fun x H1 => u D (σ.set i (some x)) H1) : tSeq (tAsg te (gName i)) u D σ H := h
theorem e_ret {te : TE} (h : te σ H D.rt) : tSeq (tRet te) u D σ H := h
theorem e_drop {te : TE} (h : te σ H fun _ H1 => u D σ H1) : tSeq (tDrop te) u D σ H := h
theorem e_if {c : TT} (h : c σ H fun b H1 => if b = true then t { D with nx := u D } σ H1 else t' { D with nx := u D } σ H1) : tSeq (tIfS c t t') u D σ H := h
theorem e_lst {t : TA} (h : t σ H fun xs H1 => xs.length ≤ sizeLine ∧ ∀ p, H1 p = none → Q (.ref p) (upd H1 p (.lst xs))) : L2.tLst t σ H Q := h
theorem e_tup {t : TA} (h : t σ H fun xs H1 => xs.length ≤ sizeLine ∧ ∀ p, H1 p = none → Q (.ref p) (upd H1 p (.tup xs))) : L2.tTup t σ H Q := h
theorem e_bm {T : String} {r : V → List V → Hp → VK → Prop} {to : TE} {t : TA} (h : to σ H fun x H1 => tyV K T x H1 ∧ t σ H1 fun xs H2 => r x xs H2 Q) : tBM K T r to t σ H Q := h
theorem e_rng1 {t : TA} {R : It → Hp → Prop} (h : t σ H fun vs H1 => ∃ j : Int, vs = [.int j] ∧ -(2 ^ 62) ≤ j ∧ j < 2 ^ 62 ∧ R (Itr 0 j.toNat) H1) : iRng1 t σ H R := h
/-- a call that changes nothing, its arguments come to -/
theorem v_callP {A : TyA α} {f : α → Option β} {a : α} {vs : List V} {k : β → Option ρ} {E : XK} (hG : Okc G S) (W : Wd S (O ++ F) H) (hm : (f a).bind k = some out) (ra : ∀ S, Okc G S → A.rep a vs S)
    (next : ∀ b v S H, Okc (U.f b v :: G) S → Wd S (O ++ F) H → k b = some out → Q v H) : spP A f U (vs ++ []) H Q E := by
  obtain ⟨b, h1, h2⟩ := bind_some hm
  exact ⟨S, O ++ F, a, b, by rw [List.append_nil]; exact ra S hG, W, h1, fun v S' H' s w q => next b v S' H' ⟨q, hG.mono s⟩ w h2⟩
/-- a call that changes an owned object -/
theorem v_callO {n : Nat} {OT : OTy γ} {A : TyA α} {f : γ → α → Option (β × γ)} {g : γ} {a : α} {p : Addr} {c : List Cell} {vs : List V} {k : β × γ → Option ρ} {E : XK} (hG : Okc G S) (W : Wd S (O ++ F) H) (hm : (f g a).bind k = some out)
    (o j : Nat) (ho : O[o]? = some c) (hf : G[j]? = some (OT.f g p c)) (hn : (vs ++ [])[n]? = some (.ref p)) (ra : ∀ S, Okc G S → A.rep a ((vs ++ []).eraseIdx n) S)
    (next : ∀ r v c' S H, Okc (U.f r.1 v :: OT.f r.2 p c' :: G) S → Wd S (O.set o c' ++ F) H → k r = some out → Q v H) : spO n OT A f U (vs ++ []) H Q E := by
  obtain ⟨b, h1, h2⟩ := bind_some hm
  exact ⟨S, O.eraseIdx o ++ F, p, c, g, a, b, hn, ra S hG, Okc.at j hf hG, W.perm (perm_front ho), h1, fun v c' S' H' s w q1 q2 => next b v c' S' H' ⟨q2, q1, hG.mono s⟩ (w.perm (perm_set ho F)) h2⟩
theorem ra_nil : TyA.nil.rep () [] S := rfl
theorem ra_one {a : α} {v : V} (h : T.rep a v S) : (TyA.one T).rep a [v] S := ⟨v, rfl, h⟩
theorem ra_c {A : TyA β} {a : α} {b : β} {v : V} {vs : List V} (h : T.rep a v S) (r : A.rep b vs S) : (TyA.c T A).rep (a, b) (v :: vs) S := ⟨v, vs, rfl, h, r⟩
/-! ### pop -/
def x_popAt (xs : List α) (i : Int) : Option (α × List α) := if -(2 ^ 63) ≤ i ∧ i < 2 ^ 63 then (seqIndex? i xs.length).bind fun n => (xs[n]?).bind fun y => some (y, xs.eraseIdx n) else none
theorem v_popAt {xs : List α} {i : Int} {v : V} {p : Addr} {c : List Cell} {k : α × List α → Option ρ} (hG : Okc G S) (W : Wd S (O ++ F) H) (hm : (x_popAt xs i).bind k = some out) (o j l : Nat) (ho : O[o]? = some c) (hf : G[j]? = some ((oL T).f xs p c)) (hv : G[l]? = some (tInt.f i v))
    (next : ∀ r v c' S H, Okc (T.f r.1 v :: (oL T).f r.2 p c' :: G) S → Wd S (O.set o c' ++ F) H → k r = some out → Q v H) : rPopAt (.ref p) [v] H Q := by
  obtain ⟨r, h1, hm⟩ := bind_some hm
  unfold x_popAt at h1
  split at h1
  case isFalse => cases h1
  case isTrue hz =>
  obtain ⟨n, h2, h3⟩ := bind_some h1
  obtain ⟨y, h4, h5⟩ := bind_some h3
  cases h5
  obtain ⟨vs, e0, r0⟩ := (Okc.at j hf hG : (oL T).rep xs p c S)
  subst e0
  obtain ⟨w, h6, h7⟩ := r0.get h4
  obtain rfl : v = .int i := Okc.at l hv hG
  exact ⟨p, vs, i, n, w, rfl, rfl, W.at1 ho, hz.1, hz.2, by rw [← r0.length]; exact h2, h6, next (y, xs.eraseIdx n) w _ S _ ⟨h7, ⟨_, rfl, r0.eraseIdx n⟩, hG⟩ (W.put o ho _) hm⟩
theorem ty_list {p : Addr} {xs : List α} {c : List Cell} (hG : Okc G S) (W : Wd S (O ++ F) H) (o j : Nat) (ho : O[o]? = some c) (hf : G[j]? = some ((oL T).f xs p c)) : tyV K "list" (.ref p) H := by
  obtain ⟨vs, e0, r0⟩ := (Okc.at j hf hG : (oL T).rep xs p c S)
  subst e0
  exact .inl ⟨rfl, vs, SqL.of (W.at1 ho)⟩
/-- append of a value that was come to -/
theorem v_app {xs : List α} {y : α} {v : V} {p : Addr} {c : List Cell} {k : List α → Option ρ} (hG : Okc G S) (W : Wd S (O ++ F) H) (hm : (x_app xs y).bind k = some out) (o j l : Nat) (ho : O[o]? = some c) (hf : G[j]? = some ((oL T).f xs p c)) (hv : G[l]? = some (T.f y v))
    (next : ∀ c' S H, Okc ((oL T).f (xs ++ [y]) p c' :: G) S → Wd S (O.set o c' ++ F) H → k (xs ++ [y]) = some out → Q .non H) : rAppend (.ref p) [v] H Q := by
  obtain ⟨z, h2, hm⟩ := bind_some hm
  obtain ⟨hz, rfl⟩ := of_if h2
  obtain ⟨vs, e0, r0⟩ := (Okc.at j hf hG : (oL T).rep xs p c S)
  subst e0
  have hy : T.rep y v S := Okc.at l hv hG
  exact ⟨p, vs, v, rfl, rfl, W.at1 ho, by rw [← r0.length]; exact hz, next _ S _ ⟨⟨_, rfl, r0.append (Rl.one hy)⟩, hG⟩ (W.put o ho _) hm⟩
/-! ### a comprehension whose element changes an owned object -/
def mapE (f : γ → α → Option (β × γ)) : γ → List α → Option (List β × γ)
  | g, [] => some ([], g)
  | g, x :: xs => (f g x).bind fun r => (mapE f r.2 xs).bind fun q => some (r.1 :: q.1, q.2)
def x_mapE (f : γ → α → Option (β × γ)) (g : γ) (xs : List α) : Option (List β × γ) := if xs.length ≤ sizeLine then mapE f g xs else none
theorem c_lcE {ω : Type} {OT : OTy γ} {g : TG} {te : TE} {wi : TI} {vs : List Nat} {σ' : ω → St} {Fx : α → ω → List Fact} {mi : Option (List α)} {me : γ → α → Option (β × γ)} {gv : γ} {p : Addr} {c : List Cell} {k : List β × γ → Option ρ}
    (hG : Okc G S) (W : Wd S (O ++ F) H) (hm : (mi.bind fun xs => (x_mapE me gv xs).bind k) = some out) (o j : Nat) (ho : O[o]? = some c) (hf : G[j]? = some (OT.f gv p c))
    (hi : SimI G O [] wi σ mi T) (tg : TgOk g (wipe σ vs) T σ' Fx) (hw : ∀ w, wipe (σ' w) vs = wipe σ vs)
    (he : ∀ a w gv c S H F r, me gv a = some r → Okc (Fx a w ++ (OT.f gv p c :: fS S :: G)) S → Wd S (O.set o c ++ F) H → ∀ Q : VK, (∀ v c' S' H', Same S S' → Wd S' (O.set o c' ++ F) H' → OT.rep r.2 p c' S' → U.rep r.1 v S' → Q v H') → te (σ' w) H Q)
    (next : ∀ r q d c' S H, Okc ((oL U).f r.1 q d :: OT.f r.2 p c' :: G) S → Wd S ((d :: O.set o c') ++ F) H → k r = some out → Q (.ref q) H) : tLc wi g tYes te vs σ H Q := by
  obtain ⟨xs, h1, hm⟩ := bind_some hm
  obtain ⟨r, h2, hm⟩ := bind_some hm
  unfold x_mapE at h2
  split at h2
  case isFalse => cases h2
  case isTrue hz =>
  refine hi S H F xs hG W h1 _ fun J S1 H1 s1 w1 jok D hD => ?_
  have g0 : OT.rep gv p c S1 := OT.mono s1 (Okc.at j hf hG)
  have oset : O.set o c = O := by
    obtain ⟨hi, e⟩ := List.getElem?_eq_some_iff.mp ho
    rw [← e]
    exact List.set_getElem_self hi
  refine ⟨fun i m H' => m = xs.length - i ∧ i ≤ xs.length ∧ ∃ S' acc us gc cc rest, Same S1 S' ∧ Wd S' ([(D, .lst us)] :: (O.set o cc ++ F)) H' ∧ Rl U S' acc us ∧ OT.rep gc p cc S' ∧ acc.length ≤ i ∧ mapE me gc (xs.drop i) = some rest ∧ r.1 = acc ++ rest.1 ∧ r.2 = rest.2,
    ⟨xs.length, by simp, Nat.zero_le _, S1, [], [], gv, c, r, Same.refl _, by rw [oset]; exact w1.newO hD, .nil, g0, Nat.le_refl _, by simpa using h2, rfl, rfl⟩, ?_⟩
  rintro i m H' ⟨rfl, hi', S', acc, us, gc, cc, rest, s', w', ra, rg, hl, hc, e1, e2⟩
  have jk := jok S' H' s' (w'.sub (List.nil_sublist _))
  by_cases hlt : i < xs.length
  · have hd : xs.drop i = xs[i] :: xs.drop (i + 1) := (List.drop_eq_getElem_cons hlt)
    rw [hd] at hc
    obtain ⟨go, yl⟩ := jk.1 i xs[i] (by simp [hlt])
    have hz2 : us.length < sizeLine := by rw [← ra.length]; omega
    refine .inr ⟨go, fun H2 => ∃ S2 acc2 us2 g2 c2 rest2, Same S1 S2 ∧ Wd S2 ([(D, .lst us2)] :: (O.set o c2 ++ F)) H2 ∧ Rl U S2 acc2 us2 ∧ OT.rep g2 p c2 S2 ∧ acc2.length ≤ i + 1 ∧ mapE me g2 (xs.drop (i + 1)) = some rest2 ∧ r.1 = acc2 ++ rest2.1 ∧ r.2 = rest2.2,
      fun H2 q => ⟨xs.length - (i + 1), by omega, rfl, hlt, q⟩, fun x H2 y => ?_⟩
    obtain ⟨S2, s2, rx, wk⟩ := yl x H2 y
    have w2 := wk _ w'
    refine tg xs[i] x S2 H2 _ rx w2.st fun wt ok => ⟨hw wt, ?_⟩
    obtain ⟨q1, hq1, hc⟩ := bind_some hc
    obtain ⟨q2, hq2, hc⟩ := bind_some hc
    cases hc
    have hG2 : Okc (Fx xs[i] wt ++ (OT.f gc p cc :: fS S2 :: G)) S2 := ok.append ⟨OT.mono s2 rg, Same.refl _, hG.mono (s1.trans (s'.trans s2))⟩
    unfold tYes
    dsimp only
    rw [if_pos rfl]
    refine he xs[i] wt gc cc S2 H2 ([(D, .lst us)] :: F) q1 hq1 hG2 (w2.perm (perm_mid _ _ _)) _ fun v c4 S4 H4 s4 w4 rg4 rv => ?_
    have w5 := w4.perm (perm_mid _ _ _).symm
    exact ⟨us, w5.hd1, hz2, S4, acc ++ [q1.1], us ++ [v], q1.2, c4, q2, s'.trans (s2.trans s4), w5.put1 _, (ra.mono (s2.trans s4)).append (Rl.one rv), rg4, by simp; omega, hq2, by rw [e1]; simp, e2⟩
  · have e : i = xs.length := by omega
    subst e
    rw [List.drop_length] at hc
    cases hc
    rw [List.append_nil] at e1
    have e1 : r.1 = acc := e1
    have e2 : r.2 = gc := e2
    refine .inl ⟨jk.2, next r D [(D, .lst us)] cc S' H' ⟨⟨us, rfl, by rw [e1]; exact ra⟩, by show OT.rep r.2 p cc S'; rw [e2]; exact rg, hG.mono (s1.trans s')⟩ w' hm⟩
/-! ### a pair taken apart -/
theorem k_unpair {te : TE} {i j : Nat} {ma : Option (α × β)} {k : α × β → Option ρ} (hG : Okc G S) (W : Wd S (O ++ F) H) (hm : ma.bind k = some out) (hs : Sim G O te σ ma (tP T U))
    (next : ∀ a v w S H, Okc (T.f a.1 v :: U.f a.2 w :: G) S → Wd S (O ++ F) H → k a = some out → u D ((σ.set i (some v)).set j (some w)) H) : tSeq (tAsg te (gTup K 2 (gCons (gName i) (gCons (gName j) gNil)))) u D σ H := by
  obtain ⟨a, h1, h2⟩ := bind_some hm
  refine hs S H F a hG W h1 _ fun v S' H' s w q => ?_
  obtain ⟨p, y, z, rfl, g, r1, r2⟩ := q
  exact ⟨p, [y, z], rfl, SqT.of (w.st _ _ g), rfl, y, [z], rfl, z, [], rfl, rfl, next a y z S' H' ⟨r1, r2, hG.mono s⟩ w h2⟩
/-! ### index -/
def x_index (xs : List Int) (y : Int) : Option Int := Option.map (fun n : Nat => (n : Int)) (List.findIdx? (fun x => decide (x = y)) xs)
theorem flat_ints : ∀ xs : List Int, (xs.map V.int).all flatV = true
  | [] => rfl
  | _ :: xs => by rw [List.map_cons, List.all_cons, flat_ints xs]; rfl
theorem sim_index {TL : Ty (List Int)} [Lk O (oL tInt) TL] {ta tb : TE} {ma : Option (List Int)} {mb : Option Int} (ha : Sim G O ta σ ma TL) (hb : Sim G O tb σ mb tInt) : Sim G O (tBM K "list" (rIndex K) ta (tCons tb tNil)) σ (ma.bind fun a => mb.bind fun b => x_index a b) tInt := fun S H F r hG w hm Q k => by
  obtain ⟨a, h1, hm⟩ := bind_some hm
  obtain ⟨b, h2, hm⟩ := bind_some hm
  obtain ⟨n, h3, h4⟩ := Option.map_eq_some_iff.mp hm
  subst h4
  refine ha S H F a hG w h1 _ fun x S1 H1 s1 w1 q1 => ?_
  obtain ⟨p, vs, rfl, r, g⟩ := lkL (O := O) (T := tInt) q1
  have ev := rl_int r
  subst ev
  refine ⟨.inl ⟨rfl, _, SqL.of (g H1 F w1)⟩, ?_⟩
  refine hb S1 H1 F b (hG.mono s1) w1 h2 _ fun y S2 H2 s2 w2 q2 => ?_
  obtain rfl : y = .int b := q2
  obtain ⟨hn, e1, e2⟩ := List.findIdx?_eq_some_iff_getElem.mp h3
  have e1 : a[n] = b := of_decide_eq_true e1
  have g2 : H2 p = some (.lst (a.map V.int)) := by
    obtain ⟨p', vs', e, r', g'⟩ := lkL (O := O) (T := tInt) (TL.mono s2 q1)
    cases e
    rw [g' H2 F w2, rl_int r']
  refine ⟨p, a.map V.int, .int b, n, .int b, rfl, rfl, SqL.of g2, rfl, flat_ints a, by simp [hn, e1], by show (b == b) = true; simp, fun m z' hm' hz => ?_, k _ S2 H2 (s1.trans s2) w2 rfl⟩
  rw [List.getElem?_map] at hz
  have hml : m < a.length := Nat.lt_trans hm' hn
  rw [List.getElem?_eq_getElem hml] at hz
  cases hz
  have := e2 m hm'
  show (a[m] == b) = false
  rw [Bool.beq_eq_decide_eq]
  simpa using this
/-! ### dicts with int keys -/
def lookA {κ : Type} [DecidableEq κ] (d : List (κ × β)) (k : κ) : Option β := (d.find? fun p => decide (p.1 = k)).map (·.2)
def putA {κ : Type} [DecidableEq κ] (d : List (κ × β)) (k : κ) (y : β) : List (κ × β) := if (d.any fun p => decide (p.1 = k)) = true then d.map (fun p => if p.1 = k then (p.1, y) else p) else d ++ [(k, y)]
def x_putA {κ : Type} [DecidableEq κ] (d : List (κ × β)) (k : κ) (y : β) : Option (List (κ × β)) := if d.length < sizeLine then some (putA d k y) else none
def RlD {κ κ' : Type} (e : κ → κ') (U : Ty β) (S : Hp) (d : List (κ × β)) (kvs : List (κ' × V)) : Prop := Paired (fun (x : κ × β) (kv : κ' × V) => kv.1 = e x.1 ∧ U.rep x.2 kv.2 S) d kvs
theorem RlD.mono {κ κ' : Type} {e : κ → κ'} {S S' : Hp} {d : List (κ × β)} {kvs : List (κ' × V)} (h : Same S S') (r : RlD e U S d kvs) : RlD e U S' d kvs := Paired.mapP r fun _ _ q => ⟨q.1, U.mono h q.2⟩
theorem RlD.look {κ κ' : Type} [DecidableEq κ] [DecidableEq κ'] {e : κ → κ'} (inj : ∀ a b, e a = e b → a = b) {S : Hp} {d : List (κ × β)} {kvs : List (κ' × V)} (r : RlD e U S d kvs) (k : κ) :
    match lookA d k with
    | none => valV kvs (e k) = none
    | some y => ∃ v, valV kvs (e k) = some v ∧ U.rep y v S := by
  unfold RlD at r
  induction r with
  | nil => rfl
  | @cons x kv d kvs h t ih =>
    unfold lookA
    rw [List.find?_cons]
    by_cases hk : x.1 = k
    · rw [decide_eq_true hk]
      exact ⟨kv.2, valV_pos (by rw [h.1, hk]), h.2⟩
    · rw [decide_eq_false hk, valV_neg (fun z => hk (inj _ _ (h.1.symm.trans z)))]
      exact ih
theorem RlD.any {κ κ' : Type} [DecidableEq κ] [DecidableEq κ'] {e : κ → κ'} (inj : ∀ a b, e a = e b → a = b) {S : Hp} {d : List (κ × β)} {kvs : List (κ' × V)} (r : RlD e U S d kvs) (k : κ) :
    (kvs.any fun kv => decide (kv.1 = e k)) = (d.any fun p => decide (p.1 = k)) := by
  unfold RlD at r
  induction r with
  | nil => rfl
  | @cons x kv d kvs h t ih =>
    rw [List.any_cons, List.any_cons, ih]
    congr 1
    by_cases hk : x.1 = k
    · rw [decide_eq_true hk, decide_eq_true (by rw [h.1, hk])]
    · rw [decide_eq_false hk, decide_eq_false (fun z => hk (inj _ _ (h.1.symm.trans z)))]
theorem RlD.app {κ κ' : Type} {e : κ → κ'} {S : Hp} {k : κ} {y : β} {v : V} (hy : U.rep y v S) {d : List (κ × β)} {kvs : List (κ' × V)} (r : RlD e U S d kvs) : RlD e U S (d ++ [(k, y)]) (kvs ++ [(e k, v)]) := by
  unfold RlD at r
  induction r with
  | nil => exact .cons ⟨rfl, hy⟩ .nil
  | cons h t ih => exact .cons h ih
theorem RlD.put {κ κ' : Type} [DecidableEq κ] [DecidableEq κ'] {e : κ → κ'} (inj : ∀ a b, e a = e b → a = b) {S : Hp} {d : List (κ × β)} {kvs : List (κ' × V)} (r : RlD e U S d kvs) (k : κ) {y : β} {v : V} (hy : U.rep y v S) :
    RlD e U S (putA d k y) (putK kvs (e k) v) := by
  unfold putA putK
  rw [r.any inj k]
  by_cases ha : (d.any fun p => decide (p.1 = k)) = true
  · rw [if_pos ha, if_pos ha]
    clear ha
    unfold RlD at r ⊢
    induction r with
    | nil => exact .nil
    | @cons x kv d kvs h t ih =>
      refine .cons ?_ ih
      dsimp only
      by_cases hk : x.1 = k
      · rw [if_pos hk, if_pos (by rw [h.1, hk])]
        exact ⟨h.1, hy⟩
      · rw [if_neg hk, if_neg (fun z => hk (inj _ _ (h.1.symm.trans z)))]
        exact h
  · rw [if_neg ha, if_neg ha]
    exact r.app hy
def oDI (U : Ty β) : OTy (List (Int × β)) := ⟨fun d p c S => ∃ kvs : List (Key × V), c = [(p, .dK kvs)] ∧ RlD (fun i : Int => (Sum.inl i : Key)) U S d kvs, fun h ⟨kvs, e, r⟩ => ⟨kvs, e, r.mono h⟩⟩
def tDI (U : Ty β) : Ty (List (Int × β)) := ⟨fun d v S => ∃ p, ∃ kvs : List (Key × V), v = .ref p ∧ S p = some (.dK kvs) ∧ RlD (fun i : Int => (Sum.inl i : Key)) U S d kvs, fun h ⟨p, kvs, e, g, r⟩ => ⟨p, kvs, e, h _ _ g, r.mono h⟩⟩
theorem frz_DI : Frz (oDI U) (tDI U) := fun g p c S ⟨kvs, e, r⟩ h => ⟨p, kvs, rfl, h _ _ (by rw [e]; exact List.mem_cons_self ..), r⟩
instance : Lk O (oDI U) (tDI U) := ⟨fun _ _ _ ⟨p, kvs, e, h, r⟩ => ⟨p, _, e, ⟨kvs, rfl, r⟩, fun _ _ w a o m => by
  obtain ⟨rfl, rfl⟩ : a = p ∧ o = .dK kvs := by simpa using m
  exact w.st _ _ h⟩⟩
theorem inl_inj : ∀ a b : Int, (Sum.inl a : Key) = Sum.inl b → a = b := fun a b h => Sum.inl.inj h
theorem sim_dgetI {TD : Ty (List (Int × β))} [Lk O (oDI U) TD] {td tk : TE} {md : Option (List (Int × β))} {mk : Option Int} (hd : Sim G O td σ md TD) (hk : Sim G O tk σ mk tInt) : Sim G O (tDGet td tk) σ (md.bind fun d => mk.bind fun k => lookA d k) U := fun S H F r hG w hm Q kk => by
  obtain ⟨d, h1, hm⟩ := bind_some hm
  obtain ⟨k, h2, hm⟩ := bind_some hm
  refine hd S H F d hG w h1 _ fun x S1 H1 s1 w1 q1 => ?_
  refine hk S1 H1 F k (hG.mono s1) w1 h2 _ fun y S2 H2 s2 w2 q2 => ?_
  obtain ⟨p, c, rfl, ⟨kvs, rfl, rr⟩, g⟩ := Lk.lk (O := O) _ _ _ (TD.mono s2 q1)
  have l := rr.look inl_inj k
  rw [hm] at l
  obtain ⟨v, h3, h4⟩ := l
  refine ⟨p, v, rfl, ?_, kk v S2 H2 (s1.trans s2) w2 h4⟩
  have q := DGet.k (k := Sum.inl k) (g H2 F w2 _ _ (List.mem_cons_self ..))
  rw [h3] at q
  rw [show y = .int k from q2]
  exact q
theorem sim_dinI {TD : Ty (List (Int × β))} [Lk O (oDI U) TD] {td tk : TE} {md : Option (List (Int × β))} {mk : Option Int} (hk : Sim G O tk σ mk tInt) (hd : Sim G O td σ md TD) : Sim G O (tDIn tk td) σ (mk.bind fun k => md.bind fun d => some (lookA d k).isSome) tBool := fun S H F r hG w hm Q kk => by
  obtain ⟨k, h2, hm⟩ := bind_some hm
  obtain ⟨d, h1, hm⟩ := bind_some hm
  cases hm
  refine hk S H F k hG w h2 _ fun y S1 H1 s1 w1 q1 => ?_
  refine hd S1 H1 F d (hG.mono s1) w1 h1 _ fun x S2 H2 s2 w2 q2 => ?_
  obtain ⟨p, c, rfl, ⟨kvs, rfl, rr⟩, g⟩ := Lk.lk (O := O) _ _ _ q2
  have l := rr.look inl_inj k
  have q := DGet.k (k := Sum.inl k) (g H2 F w2 _ _ (List.mem_cons_self ..))
  obtain rfl : y = .int k := q1
  refine ⟨p, _, rfl, q, ?_⟩
  have e : (valV kvs (Sum.inl k : Key)).isSome = (lookA d k).isSome := by
    cases hl : lookA d k with
    | none => rw [hl] at l; rw [show valV kvs (Sum.inl k : Key) = none from l]; rfl
    | some z => rw [hl] at l; obtain ⟨v, h3, _⟩ := l; rw [show valV kvs (Sum.inl k : Key) = some v from h3]; rfl
  rw [e]
  exact kk _ S2 H2 (s1.trans s2) w2 rfl
theorem k_dputI {tv tk : TE} {i : Nat} {p : Addr} {c : List Cell} {d : List (Int × β)} {mv : Option β} {mk : Option Int} {k : List (Int × β) → Option ρ} (hG : Okc G S) (W : Wd S (O ++ F) H) (hm : (mv.bind fun y => mk.bind fun n => (x_putA d n y).bind k) = some out)
    (o j : Nat) (hi : σ[i]? = some (some (.ref p))) (ho : O[o]? = some c) (hf : G[j]? = some ((oDI U).f d p c)) (hs : Sim G O tv σ mv U) (hx : Sim G O tk σ mk tInt)
    (next : ∀ d' c' S H, Okc ((oDI U).f d' p c' :: G) S → Wd S (O.set o c' ++ F) H → k d' = some out → u D σ H) : tSeq (sDPut (tVar i) tk tv) u D σ H := by
  obtain ⟨y, h1, hm⟩ := bind_some hm
  obtain ⟨n, h2, hm⟩ := bind_some hm
  obtain ⟨z, h3, hm⟩ := bind_some hm
  obtain ⟨hz, rfl⟩ := of_if h3
  obtain ⟨kvs, e0, r0⟩ := (Okc.at j hf hG : (oDI U).rep d p c S)
  subst e0
  refine hs S H F y hG W h1 _ fun v S1 H1 s1 w1 q1 => ⟨.ref p, hi, ?_⟩
  refine hx S1 H1 F n (hG.mono s1) w1 h2 _ fun x S2 H2 s2 w2 q2 => ?_
  obtain rfl : x = .int n := q2
  have r := r0.mono (s1.trans s2)
  have hl : kvs.length < sizeLine := by rw [← Paired.length r]; exact hz
  exact ⟨p, _, rfl, DPut.k (k := Sum.inl n) (w2.at1 ho) hl, next _ _ S2 _ ⟨⟨_, rfl, r.put inl_inj n (U.mono s2 q1)⟩, hG.mono (s1.trans s2)⟩ (w2.put o ho _) hm⟩
theorem simF_newDI : SimF G O tDNewK σ (some []) (oDI U) := fun S H F r hG w hm Q k => by
  cases hm
  intro p hp
  exact k p _ S _ (Same.refl _) (w.newO hp) ⟨[], rfl, .nil⟩
theorem simF_dispI1 {i : Int} {tv : TE} {mv : Option β} (hv : Sim G O tv σ mv U) : SimF G O (tDisp [(tC (.int i), tv)]) σ (mv.bind fun y => some [(i, y)]) (oDI U) := fun S H F r hG w hm Q k => by
  obtain ⟨y, h1, hm⟩ := bind_some hm
  cases hm
  intro p hp
  refine hv S _ ([(p, .dK [])] :: F) y hG ((w.newO hp).perm (perm_mid _ _ _)) h1 _ fun v S' H' s w' q => ?_
  have w2 := w'.perm (perm_mid _ _ _).symm
  exact ⟨w2.hd1, [((Sum.inl i : Key), v)], rfl, (by show 1 ≤ 15; decide), k p _ S' _ s (w2.put1 _) ⟨_, rfl, .cons ⟨rfl, q⟩ .nil⟩⟩
/-! ### dicts keyed by tuples of ints -/
def kT (l : List Int) : List Key := l.map Sum.inl
theorem kT_inj : ∀ a b : List Int, kT a = kT b → a = b := fun a b h => List.map_inj_right (fun x y e => Sum.inl.inj e) |>.mp h
theorem kT_kV (l : List Int) : (kT l).map kV = l.map V.int := by unfold kT; rw [List.map_map]; rfl
def oDT (U : Ty β) : OTy (List (List Int × β)) := ⟨fun d p c S => ∃ kvs : List (List Key × V), c = [(p, .dT kvs)] ∧ RlD kT U S d kvs, fun h ⟨kvs, e, r⟩ => ⟨kvs, e, r.mono h⟩⟩
def tDT (U : Ty β) : Ty (List (List Int × β)) := ⟨fun d v S => ∃ p, ∃ kvs : List (List Key × V), v = .ref p ∧ S p = some (.dT kvs) ∧ RlD kT U S d kvs, fun h ⟨p, kvs, e, g, r⟩ => ⟨p, kvs, e, h _ _ g, r.mono h⟩⟩
theorem frz_DT : Frz (oDT U) (tDT U) := fun g p c S ⟨kvs, e, r⟩ h => ⟨p, kvs, rfl, h _ _ (by rw [e]; exact List.mem_cons_self ..), r⟩
instance : Lk O (oDT U) (tDT U) := ⟨fun _ _ _ ⟨p, kvs, e, h, r⟩ => ⟨p, _, e, ⟨kvs, rfl, r⟩, fun _ _ w a o m => by
  obtain ⟨rfl, rfl⟩ : a = p ∧ o = .dT kvs := by simpa using m
  exact w.st _ _ h⟩⟩
theorem simF_newDT : SimF G O tDNewT σ (some []) (oDT U) := fun S H F r hG w hm Q k => by
  cases hm
  intro p hp
  exact k p _ S _ (Same.refl _) (w.newO hp) ⟨[], rfl, .nil⟩
theorem sim_dgetT {TD : Ty (List (List Int × β))} [Lk O (oDT U) TD] {td tk : TE} {md : Option (List (List Int × β))} {mk : Option (List Int)} (hd : Sim G O td σ md TD) (hk : Sim G O tk σ mk (tT tInt)) : Sim G O (tDGet td tk) σ (md.bind fun d => mk.bind fun k => lookA d k) U := fun S H F r hG w hm Q kk => by
  obtain ⟨d, h1, hm⟩ := bind_some hm
  obtain ⟨k, h2, hm⟩ := bind_some hm
  refine hd S H F d hG w h1 _ fun x S1 H1 s1 w1 q1 => ?_
  refine hk S1 H1 F k (hG.mono s1) w1 h2 _ fun y S2 H2 s2 w2 q2 => ?_
  obtain ⟨p, c, rfl, ⟨kvs, rfl, rr⟩, g⟩ := Lk.lk (O := O) _ _ _ (TD.mono s2 q1)
  have l := rr.look kT_inj k
  rw [hm] at l
  obtain ⟨v, h3, h4⟩ := l
  obtain ⟨b, vs, rfl, gb, rb⟩ := q2
  refine ⟨p, v, rfl, ?_, kk v S2 H2 (s1.trans s2) w2 h4⟩
  have q := DGet.t (k := kT k) (g H2 F w2 _ _ (List.mem_cons_self ..)) (b := b) (by rw [w2.st _ _ gb, kT_kV, rl_int rb])
  rw [h3] at q
  exact q
theorem sim_dinT {TD : Ty (List (List Int × β))} [Lk O (oDT U) TD] {td tk : TE} {md : Option (List (List Int × β))} {mk : Option (List Int)} (hk : Sim G O tk σ mk (tT tInt)) (hd : Sim G O td σ md TD) : Sim G O (tDIn tk td) σ (mk.bind fun k => md.bind fun d => some (lookA d k).isSome) tBool := fun S H F r hG w hm Q kk => by
  obtain ⟨k, h2, hm⟩ := bind_some hm
  obtain ⟨d, h1, hm⟩ := bind_some hm
  cases hm
  refine hk S H F k hG w h2 _ fun y S1 H1 s1 w1 q1 => ?_
  refine hd S1 H1 F d (hG.mono s1) w1 h1 _ fun x S2 H2 s2 w2 q2 => ?_
  obtain ⟨p, c, rfl, ⟨kvs, rfl, rr⟩, g⟩ := Lk.lk (O := O) _ _ _ q2
  obtain ⟨b, vs, rfl, gb, rb⟩ := q1
  have l := rr.look kT_inj k
  have q := DGet.t (k := kT k) (g H2 F w2 _ _ (List.mem_cons_self ..)) (b := b) (by rw [w2.st _ _ (s2 _ _ gb), kT_kV, rl_int rb])
  refine ⟨p, _, rfl, q, ?_⟩
  have e : (valV kvs (kT k)).isSome = (lookA d k).isSome := by
    cases hl : lookA d k with
    | none => rw [hl] at l; rw [show valV kvs (kT k) = none from l]; rfl
    | some z => rw [hl] at l; obtain ⟨v, h3, _⟩ := l; rw [show valV kvs (kT k) = some v from h3]; rfl
  rw [e]
  exact kk _ S2 H2 (s1.trans s2) w2 rfl
theorem k_dputT {tv tk : TE} {i : Nat} {p : Addr} {c : List Cell} {d : List (List Int × β)} {mv : Option β} {mk : Option (List Int)} {k : List (List Int × β) → Option ρ} (hG : Okc G S) (W : Wd S (O ++ F) H) (hm : (mv.bind fun y => mk.bind fun n => (x_putA d n y).bind k) = some out)
    (o j : Nat) (hi : σ[i]? = some (some (.ref p))) (ho : O[o]? = some c) (hf : G[j]? = some ((oDT U).f d p c)) (hs : Sim G O tv σ mv U) (hx : Sim G O tk σ mk (tT tInt))
    (next : ∀ d' c' S H, Okc ((oDT U).f d' p c' :: G) S → Wd S (O.set o c' ++ F) H → k d' = some out → u D σ H) : tSeq (sDPut (tVar i) tk tv) u D σ H := by
  obtain ⟨y, h1, hm⟩ := bind_some hm
  obtain ⟨n, h2, hm⟩ := bind_some hm
  obtain ⟨z, h3, hm⟩ := bind_some hm
  obtain ⟨hz, rfl⟩ := of_if h3
  obtain ⟨kvs, e0, r0⟩ := (Okc.at j hf hG : (oDT U).rep d p c S)
  subst e0
  refine hs S H F y hG W h1 _ fun v S1 H1 s1 w1 q1 => ⟨.ref p, hi, ?_⟩
  refine hx S1 H1 F n (hG.mono s1) w1 h2 _ fun x S2 H2 s2 w2 q2 => ?_
  obtain ⟨b, vs, rfl, gb, rb⟩ := q2
  have r := r0.mono (s1.trans s2)
  have hl : kvs.length < sizeLine := by rw [← Paired.length r]; exact hz
  exact ⟨p, _, rfl, DPut.t (k := kT n) (w2.at1 ho) (b := b) (by rw [w2.st _ _ gb, kT_kV, rl_int rb]) hl, next _ _ S2 _ ⟨⟨_, rfl, r.put kT_inj n (U.mono s2 q1)⟩, hG.mono (s1.trans s2)⟩ (w2.put o ho _) hm⟩
end
end HF

set_option Elab.async false
set_option linter.all false
set_option maxRecDepth 100000
set_option maxHeartbeats 2000000
/-! Mini7: small ends of statements, methods, houses. -/
namespace HF
open PySem PySem.Spec L2
open PyProof.Rows hiding St
def pickE : Ow → List Nat → Option Ow
  | _, [] => some []
  | O, i :: r => (O[i]?).bind fun c => (pickE (O.eraseIdx i) r).bind fun q => some (c :: q)
theorem pickE_perm : ∀ {is : List Nat} {O O' : Ow}, pickE O is = some O' → ∃ rest, O.Perm (O' ++ rest)
  | [], O, O', h => by
    cases h
    exact ⟨O, List.Perm.refl _⟩
  | i :: r, O, O', h => by
    obtain ⟨c, h1, h2⟩ := bind_some h
    obtain ⟨q, h3, h4⟩ := bind_some h2
    cases h4
    obtain ⟨rest, h5⟩ := pickE_perm h3
    exact ⟨rest, (perm_erase h1).trans (h5.cons c)⟩
theorem Wd.pick {S H : Hp} {O O' F : Ow} (W : Wd S (O ++ F) H) (is : List Nat) (h : pickE O is = some O') : Wd S (O' ++ F) H := by
  obtain ⟨rest, p⟩ := pickE_perm h
  have q := W.perm ((p.append_right F).trans (List.Perm.of_eq (List.append_assoc _ _ _)))
  exact q.sub ((List.Sublist.refl _).append (List.sublist_append_right _ _))
section
variable {D : Ends} {σ : St} {H : Hp} {u : TS} {te : TE} {Q : VK}
theorem x_next {N : St → Hp → Prop} (h : N σ H) : tNext { D with nx := N } σ H := h
theorem x_break (h : D.bk σ H) : tSeq tBreak u D σ H := h
theorem x_cont (h : D.ct σ H) : tSeq tCont u D σ H := h
theorem x_pass (h : u D σ H) : tSeq tNext u D σ H := h
theorem x_retN (h : D.rt .non H) : tSeq tRetN u D σ H := h
end
theorem hu64 {A : Around} {k : Nat} (hr : Room k A) : A.units + 64 < cLine := hr.units
theorem hu65 {A : Around} {k : Nat} (hr : Room k A) : A.units + 65 < cLine := by have := hr.un; omega
/-! ### methods -/
structure Mtd (CX : CXT) (P : Program) (w : World) (K : PySem.W.Frag) (mg : Str → Option Value) (base : Heap) (k : Nat) (C : Addr) (m : Str) (sp : Sp) : Prop where
  ex : ∃ (f : Addr) (fd : FuncData) (ps : List Str), Cls K C ∧ Meth K C m f ∧ FnOk P w K mg base CX k f fd ps sp ∧ Binds K fd ps []
structure MDefAt (K : PySem.W.Frag) (C : Addr) (m qual : Str) (st : Stmt) : Prop where
  ex : ∃ (f : Addr) (fd : FuncData), FunD K m qual (defArgs st) (defBody st) (defScope st) [] [] f fd ∧ Cls K C ∧ Meth K C m f
section
variable {CX : CXT} {P : Program} {w : World} {K : PySem.W.Frag} {mg : Str → Option Value} {base : Heap}
theorem mtd_mk {C : Addr} {m qual : Str} {st : Stmt} {N ps : List Str} {k : Nat} {sp : Sp} (D : MDefAt K C m qual st) (S : FnScope N ps (defScope st)) (len : ∀ vs H Q E, sp vs H Q E → vs.length = ps.length)
    (hb : ∀ (kV doc pm : Value) (an : Option Addr) (cdv ct : Value) (us : List Value), us.length = ps.length → bindArgs (PySem.W.fnOf m qual (defArgs st) (defBody st) (defScope st) .none kV doc pm an cdv ct) ⟨us, []⟩ = pure (ps.zip us))
    (hbody : ∀ (f : Addr) (cdv : Value) (A : Around) (outer : List Env) (s : Shared) (H : Hp) (vs : List V) (Q : VK) (E : XK), Room k (A.deeper (envOfC qual (defScope st) s.heap.objs.size f cdv)) → sp vs H Q E →
      ∃ t, PSs (cxOf CX P w K mg base N qual (defScope st) f cdv A outer s H E) (defBody st) t ∧ t { nx := fun _ H' => Q .non H', rt := Q } (start N vs) H) : Mtd CX P w K mg base (k + 1) C m sp := by
  obtain ⟨f, fd, F, c, hm⟩ := D.ex
  exact ⟨f, fd, ps, c, hm, F.ok S len (fun cdv A outer s H vs Q E hr h => hbody f cdv A outer s H vs Q E hr h), F.bindsN hb⟩
end
section
variable {X : Cx} {CX : CXT} {k j : Nat} {C : Addr} {m : Str} {sp : Sp} {pos apos : Pos} {e o : Expr} {es : List Expr} {ta : TE} {t : TA} {E : XK}
theorem pe_mtd {pl : Sem Bool} (c : Mtd CX X.prog X.w X.K X.mg X.base k C m sp) (hr : Room j X.A) (hk : k ≤ j) (hx : Passes CX X E) (he : PE X o ta) (ha : PA X (e :: es) t)
    (hst : starEach (e :: es) X.env = (false, eval e X.env) :: starEach es X.env := by rfl) (hpl : (backTo pos (starEach es X.env)).any (·.1) = false := by rfl)
    (ht : eval (.Call (.Attribute o m apos) (e :: es) [] pos) X.env = (do
      let ov ← eval o X.env
      standAt apos.atName
      let (f, first) ← holding [ov] (getMethod ov m pl)
      callWith pos f first (backTo pos (starEach (e :: es) X.env)) (backToKw pos (keywordEach [] X.env))) := by rfl) :
    PE X (.Call (.Attribute o m apos) (e :: es) [] pos) (tMeth C m sp [] E ta t) := by
  obtain ⟨f, fd, ps, hc, hm, F, b⟩ := c.ex
  exact pe_meth (pl := pl) he hc hm F (hr.mono hk) b .nil hx ha hst hpl ht
theorem pe_mtd0 {pl : Sem Bool} (c : Mtd CX X.prog X.w X.K X.mg X.base k C m sp) (hr : Room j X.A) (hk : k ≤ j) (hx : Passes CX X E) (he : PE X o ta)
    (ht : eval (.Call (.Attribute o m apos) [] [] pos) X.env = (do
      let ov ← eval o X.env
      standAt apos.atName
      let (f, first) ← holding [ov] (getMethod ov m pl)
      callWith pos f first (backTo pos (starEach [] X.env)) (backToKw pos (keywordEach [] X.env))) := by rfl) :
    PE X (.Call (.Attribute o m apos) [] [] pos) (tMeth C m sp [] E ta tNil) := by
  obtain ⟨f, fd, ps, hc, hm, F, b⟩ := c.ex
  exact pe_meth0 (pl := pl) he hc hm F (hr.mono hk) b .nil hx ht
end
/-- o.m() -/
theorem sim_meth0 {α γ : Type} {G : List Fact} {O : Ow} {σ : St} {T : Ty α} {W : Ty γ} {C : Addr} {mn : Str} {f : α → Option γ} {to : TE} {mo : Option α} {E : XK} (hI : ∀ a v S, T.rep a v S → ∃ p dx fs, v = .ref p ∧ S p = some (.ins C dx fs) ∧ fs.lookup mn = none)
    (ho : Sim G O to σ mo T) : Sim G O (tMeth C mn (spP (TyA.one T) f W) [] E to tNil) σ (mo.bind fun o => f o) W := fun S H F r hG w hm Q k => by
  obtain ⟨o, h1, hm⟩ := bind_some hm
  refine ho S H F o hG w h1 _ fun x S1 H1 s1 w1 q1 => ?_
  obtain ⟨p, dx, fs, rfl, g, l⟩ := hI _ _ _ q1
  exact ⟨p, dx, fs, rfl, w1.st _ _ g, l, S1, O ++ F, o, r, ⟨_, rfl, q1⟩, w1, hm, fun v S3 H3 s3 w3 q3 => k v S3 H3 (s1.trans s3) w3 q3⟩
/-! ### a house -/
structure HouseD where
  belowM : List Int
  aboveM : List Int
  below : List (List Int)
  above : List (List Int)
  order : List Int
  count : Int
  hues : Int
  wires : List (Int × Int)
  direct : List (List Int)
def FldR {α : Type} (fs : List (Str × V)) (f : Str) (T : Ty α) (a : α) (S : Hp) : Prop := ∃ u, fs.lookup f = some u ∧ T.rep a u S
theorem FldR.mono {α : Type} {fs : List (Str × V)} {f : Str} {T : Ty α} {a : α} {S S' : Hp} (s : Same S S') (h : FldR fs f T a S) : FldR fs f T a S' := let ⟨u, e, r⟩ := h; ⟨u, e, T.mono s r⟩
structure HouseF (h : HouseD) (fs : List (Str × V)) (S : Hp) : Prop where
  belowM : FldR fs "_below_masks" (tL tInt) h.belowM S
  aboveM : FldR fs "_above_masks" (tL tInt) h.aboveM S
  below : FldR fs "_below" (tL (tL tInt)) h.below S
  above : FldR fs "_above" (tL (tL tInt)) h.above S
  order : FldR fs "_order" (tL tInt) h.order S
  count : FldR fs "count" tInt h.count S
  hues : FldR fs "hues" tInt h.hues S
  wires : FldR fs "wires" (tT (tP tInt tInt)) h.wires S
  direct : FldR fs "_direct" (tL (tL tInt)) h.direct S
  no : ∀ m : Str, m ≠ "_below_masks" → m ≠ "_above_masks" → m ≠ "_below" → m ≠ "_above" → m ≠ "_order" → m ≠ "count" → m ≠ "hues" → m ≠ "wires" → m ≠ "_direct" → fs.lookup m = none
def tHouse (C : Addr) : Ty HouseD := ⟨fun h v S => ∃ p dx fs, v = .ref p ∧ S p = some (.ins C dx fs) ∧ HouseF h fs S, fun s ⟨p, dx, fs, e, g, r⟩ =>
  ⟨p, dx, fs, e, s _ _ g, r.belowM.mono s, r.aboveM.mono s, r.below.mono s, r.above.mono s, r.order.mono s, r.count.mono s, r.hues.mono s, r.wires.mono s, r.direct.mono s, r.no⟩⟩
section
variable {α : Type} {K : PySem.W.Frag} {C : Addr} {f : Str} {T : Ty α} {g : HouseD → α}
theorem house_fld (c : Cls K C) (n : NoAttr K C f) (h : ∀ a fs S, HouseF a fs S → FldR fs f T (g a) S) : ∀ a v S, (tHouse C).rep a v S → ∃ p C' dx fs u, v = .ref p ∧ S p = some (.ins C' dx fs) ∧ Cls K C' ∧ NoAttr K C' f ∧ fs.lookup f = some u ∧ T.rep (g a) u S :=
  fun a v S ⟨p, dx, fs, e, q, r⟩ => by
    obtain ⟨u, h1, h2⟩ := h a fs S r
    exact ⟨p, C, dx, fs, u, e, q, c, n, h1, h2⟩
theorem house_no (m : Str) (h : ([ "_below_masks", "_above_masks", "_below", "_above", "_order", "count", "hues", "wires", "_direct"] : List Str).contains m = false) : ∀ a v S, (tHouse C).rep a v S → ∃ p dx fs, v = .ref p ∧ S p = some (.ins C dx fs) ∧ fs.lookup m = none :=
  fun a v S ⟨p, dx, fs, e, q, r⟩ => by
    refine ⟨p, dx, fs, e, q, r.no m ?_ ?_ ?_ ?_ ?_ ?_ ?_ ?_ ?_⟩ <;> (intro z; subst z; revert h; decide +kernel)
end
end HF

set_option Elab.async false
set_option linter.all false
set_option maxRecDepth 100000
set_option maxHeartbeats 2000000
/-! Mini8: what the printer leans on besides. -/
namespace HF
open PySem PySem.Spec L2
open PyProof.Rows hiding St
section
variable {α β γ δ ρ : Type} {G : List Fact} {O O0 F : Ow} {σ : St} {T : Ty α} {U : Ty β} {K : PySem.W.Frag} {S H : Hp} {D : Ends} {out : ρ} {u t t' : TS} {Q : VK}
theorem k_join2 {ω : Type} {k : β → Option ρ} {body : (β → Option ρ) → Option ρ} {σJ : β → ω → St} {OJ : β → ω → Ow} {Fb : β → ω → List Fact} (hG : Okc G S) (hm : joinK k body = some out)
    (next : ∀ b w S H, k b = some out → Okc (Fb b w ++ G) S → Wd S (OJ b w ++ F) H → u D (σJ b w) H)
    (main : (∀ b w S H, k b = some out → Okc (Fb b w ++ G) S → Wd S (OJ b w ++ F) H → u D (σJ b w) H) → body k = some out → tSeq t u D σ H) : tSeq t u D σ H := main next hm
theorem sim_Kown {OT : OTy α} {p : Addr} {c : List Cell} {g : α} (o j : Nat) (ho : O[o]? = some c) (hf : G[j]? = some (OT.f g p c)) : Sim G O (tC (.ref p)) σ (some g) (tOwn O OT) := fun S H F r hG w hm Q k => by
  cases hm
  exact k _ S H (Same.refl _) w ⟨p, c, rfl, List.mem_of_getElem? ho, Okc.at j hf hG⟩
theorem spO_vs1_0 {vs : List V} {p : Addr} {a : Unit} (hn : vs[0]? = some (.ref p)) (hA : TyA.nil.rep a (vs.eraseIdx 0) S) : vs = [.ref p] := by
  cases vs with
  | nil => simp at hn
  | cons x r =>
    simp at hn
    subst hn
    have h : r = [] := hA
    rw [h]
theorem spO_vs2_0 {vs : List V} {p : Addr} {a : α} (hn : vs[0]? = some (.ref p)) (hA : (TyA.one T).rep a (vs.eraseIdx 0) S) : ∃ v, vs = [.ref p, v] ∧ T.rep a v S := by
  cases vs with
  | nil => simp at hn
  | cons x r =>
    simp at hn
    subst hn
    obtain ⟨v, e, h⟩ := hA
    have e : r = [v] := e
    exact ⟨v, by rw [e], h⟩
theorem spO_vs3_0 {vs : List V} {p : Addr} {a : α × β} (hn : vs[0]? = some (.ref p)) (hA : (TyA.c T (TyA.one U)).rep a (vs.eraseIdx 0) S) : ∃ v w, vs = [.ref p, v, w] ∧ T.rep a.1 v S ∧ U.rep a.2 w S := by
  cases vs with
  | nil => simp at hn
  | cons x r =>
    simp at hn
    subst hn
    obtain ⟨v, ws, e, h, w, e2, h2⟩ := hA
    have e : r = v :: ws := e
    exact ⟨v, w, by rw [e, e2], h, h2⟩
/-- any number of further arguments behind the owned one -/
theorem spO_vs0 {vs : List V} {p : Addr} {A : TyA α} {a : α} (hn : vs[0]? = some (.ref p)) (hA : A.rep a (vs.eraseIdx 0) S) : ∃ ws, vs = .ref p :: ws ∧ A.rep a ws S := by
  cases vs with
  | nil => simp at hn
  | cons x r =>
    simp at hn
    subst hn
    exact ⟨r, rfl, hA⟩
theorem spO_vs6_0 {α1 α2 α3 α4 α5 : Type} {T1 : Ty α1} {T2 : Ty α2} {T3 : Ty α3} {T4 : Ty α4} {T5 : Ty α5} {vs : List V} {p : Addr} {a : α1 × α2 × α3 × α4 × α5} (hn : vs[0]? = some (.ref p)) (hA : (TyA.c T1 (TyA.c T2 (TyA.c T3 (TyA.c T4 (TyA.one T5))))).rep a (vs.eraseIdx 0) S) :
    ∃ v1 v2 v3 v4 v5, vs = [.ref p, v1, v2, v3, v4, v5] ∧ T1.rep a.1 v1 S ∧ T2.rep a.2.1 v2 S ∧ T3.rep a.2.2.1 v3 S ∧ T4.rep a.2.2.2.1 v4 S ∧ T5.rep a.2.2.2.2 v5 S := by
  obtain ⟨ws, rfl, h⟩ := spO_vs0 hn hA
  obtain ⟨v1, _, rfl, h1, v2, _, rfl, h2, v3, _, rfl, h3, v4, _, rfl, h4, v5, rfl, h5⟩ := h
  exact ⟨v1, v2, v3, v4, v5, rfl, h1, h2, h3, h4, h5⟩
theorem spO_vs6_5 {α1 α2 α3 α4 α5 : Type} {T1 : Ty α1} {T2 : Ty α2} {T3 : Ty α3} {T4 : Ty α4} {T5 : Ty α5} {vs : List V} {p : Addr} {a : α1 × α2 × α3 × α4 × α5} (hn : vs[5]? = some (.ref p)) (hA : (TyA.c T1 (TyA.c T2 (TyA.c T3 (TyA.c T4 (TyA.one T5))))).rep a (vs.eraseIdx 5) S) :
    ∃ v1 v2 v3 v4 v5, vs = [v1, v2, v3, v4, v5, .ref p] ∧ T1.rep a.1 v1 S ∧ T2.rep a.2.1 v2 S ∧ T3.rep a.2.2.1 v3 S ∧ T4.rep a.2.2.2.1 v4 S ∧ T5.rep a.2.2.2.2 v5 S := by
  obtain ⟨v1, w1, e1, h1, v2, w2, e2, h2, v3, w3, e3, h3, v4, w4, e4, h4, v5, e5, h5⟩ := hA
  subst e2 e3 e4 e5
  refine ⟨v1, v2, v3, v4, v5, ?_, h1, h2, h3, h4, h5⟩
  have e1 : vs.eraseIdx 5 = [v1, v2, v3, v4, v5] := e1
  match vs, hn, e1 with
  | [a0, a1, a2, a3, a4, a5], hn, e1 => simp at hn e1; obtain ⟨rfl, rfl, rfl, rfl, rfl⟩ := e1; rw [hn]
  | [], hn, _ => simp at hn
  | [_], hn, _ => simp at hn
  | [_, _], hn, _ => simp at hn
  | [_, _, _], hn, _ => simp at hn
  | [_, _, _, _], hn, _ => simp at hn
  | [_, _, _, _, _], hn, _ => simp at hn
  | _ :: _ :: _ :: _ :: _ :: _ :: _ :: _, _, e1 => simp at e1
end
end HF

set_option Elab.async false
set_option linter.all false
set_option maxRecDepth 100000
set_option maxHeartbeats 2000000
/-! Mini9: defs that hand out an object of the caller's own. -/
namespace HF
open PySem PySem.Spec L2
open PyProof.Rows hiding St
section
variable {α β γ δ ρ : Type} {G : List Fact} {O O0 F : Ow} {σ : St} {T : Ty α} {U : Ty β} {K : PySem.W.Frag} {S H : Hp} {D : Ends} {u t t' : TS} {Q : VK}
def spF (A : TyA α) (m : α → Option β) (OT : OTy β) : Sp := fun vs H Q _ => ∃ (S : Hp) (F : Ow) (a : α) (r : β), A.rep a vs S ∧ Wd S F H ∧ m a = some r ∧ ∀ p c S' H', Same S S' → Wd S' ([c] ++ F) H' → OT.rep r p c S' → Q (.ref p) H'
theorem simF_call {OT : OTy β} {A : TyA α} {f : α → Option β} {ta : TA} {ma : Option α} {E : XK} (h : SimA G O ta σ ma A) : SimF G O (tCall (spF A f OT) [] E ta) σ (ma.bind fun a => f a) OT := fun S H F r hG w hm Q k => by
  obtain ⟨a, h1, hm⟩ := bind_some hm
  refine h S H F a hG w h1 _ fun vs S1 H1 s1 w1 q1 => ?_
  refine ⟨S1, O ++ F, a, r, ?_, w1, hm, fun p c S2 H2 s2 w2 q2 => k p c S2 H2 (s1.trans s2) w2 q2⟩
  rw [List.append_nil]
  exact q1
theorem k_retF {OT : OTy ρ} {te : TE} {m : Option ρ} {out : ρ} (hG : Okc G S) (W : Wd S (O ++ F) H) (hm : m = some out) (hs : SimF G O te σ m OT)
    (next : ∀ p c S H, Okc (OT.f out p c :: G) S → Wd S ((c :: O) ++ F) H → D.rt (.ref p) H) : tSeq (tRet te) u D σ H :=
  hs S H F out hG W hm _ fun p c S' H' s w q => next p c S' H' ⟨q, hG.mono s⟩ w
end
/-! the lemmas of the kit with the fragment named ahead (a comprehension's inner context) -/
section
variable {X : Cx} {K : PySem.W.Frag}
theorem ix_listK (hK : X.K = K := by rfl) : IxR X (rIxL K) := by subst hK; exact ix_list
theorem ix_tupK (hK : X.K = K := by rfl) : IxR X (rIxT K) := by subst hK; exact ix_tup
theorem op_inDK (hu : X.A.units + 65 < cLine) (hK : X.K = K := by rfl) : OpR X (compareOp .In) (rInD K) := by subst hK; exact op_inD hu
theorem op_notInDK (hu : X.A.units + 65 < cLine) (hK : X.K = K := by rfl) : OpR X (compareOp .NotIn) (rNotInD K) := by subst hK; exact op_notInD hu
theorem op_eqDK (hu : X.A.units + 64 < cLine) (hK : X.K = K := by rfl) : OpR X (compareOp .Eq) (rEqD K) := by subst hK; exact op_eqD hu
theorem op_neDK (hu : X.A.units + 64 < cLine) (hK : X.K = K := by rfl) : OpR X (compareOp .NotEq) (rNeD K) := by subst hK; exact op_neD hu
theorem pe_fldK {e : Expr} {ta : TE} {f : Str} {pos : Pos} (he : PE X e ta) (hb : attributeBase e f X.env (eval e X.env) = eval e X.env := by rfl) (hK : X.K = K := by rfl) : PE X (.Attribute e f pos) (tFld K ta f) := by subst hK; exact pe_fld he hb
theorem pi_listK {tg l : Expr} {tl : TE} (hl : PE X l tl) (hK : X.K = K := by rfl) : PI X tg l (iList K tl) := by subst hK; exact pi_list hl
theorem pi_tupK {tg l : Expr} {tl : TE} (hl : PE X l tl) (hK : X.K = K := by rfl) : PI X tg l (iTup K tl) := by subst hK; exact pi_tup hl
theorem pi_enumK {e : Expr} {ta : TA} {p pos tpos : Pos} {elts : List Expr} {kk : Nat} (hg : Gl X "enumerate") (hm : X.mg "enumerate" = none) (ha : PA X [e] ta) (hs : starEach [e] X.env = [(false, eval e X.env)] := by rfl) (hK : X.K = K := by rfl) :
    PI X (.Tuple elts kk tpos) (.Call (.Name "enumerate" p) [e] [] pos) (iEnum K ta) := by subst hK; exact pi_enum hg hm ha hs
theorem pi_reversedK {tg e : Expr} {ta : TA} {p pos : Pos} (hg : Gl X "reversed") (hm : X.mg "reversed" = none) (ha : PA X [e] ta) (hs : starEach [e] X.env = [(false, eval e X.env)] := by rfl) (hK : X.K = K := by rfl) : PI X tg (.Call (.Name "reversed" p) [e] [] pos) (iRev K ta) := by
  subst hK; exact pi_reversed hg hm ha hs
theorem pe_revLK {e : Expr} {te : TE} {k : Nat} {p1 p2 p3 pos : Pos} (he : PE X e te) (hK : X.K = K := by rfl) : PE X (.Subscript e (.Slice none none (some (.UnaryOp .USub (.Constant (.int 1) k p1) p2)) p3) pos) (tRevL K te) := by subst hK; exact pe_revL he
theorem sl_listK (hK : X.K = K := by rfl) : SlR X (rSlL K) := by subst hK; exact sl_list
theorem call_lenK (hK : X.K = K := by rfl) : CallR X (.builtin "len") (rLn K) := by subst hK; exact call_len_seq
theorem call_listK (hK : X.K = K := by rfl) : CallR X (.type "list") (rLs K) := by subst hK; exact call_list_of
theorem call_tupleK (hK : X.K = K := by rfl) : CallR X (.type "tuple") (rTp K) := by subst hK; exact call_tuple_of
theorem cr_sumK (hc : X.calm = true := by rfl) (hK : X.K = K := by rfl) : CallR X (.builtin "sum") (rSum K) := by subst hK; exact cr_sum hc
theorem cr_allK (hc : X.calm = true := by rfl) (hK : X.K = K := by rfl) : CallR X (.builtin "all") (rAll K) := by subst hK; exact cr_all hc
theorem cr_anyK (hc : X.calm = true := by rfl) (hK : X.K = K := by rfl) : CallR X (.builtin "any") (rAny K) := by subst hK; exact cr_any hc
theorem call_isiKK (hK : X.K = K := by rfl) : CallR X (.builtin "isinstance") (rIsi K) := by subst hK; exact call_isi
theorem mt_indexK (hK : X.K = K := by rfl) : MtR X "list.index" (rIndex K) := by subst hK; exact mt_index
theorem pe_bmK {T name id : String} {r : V → List V → Hp → VK → Prop} {o e : Expr} {es : List Expr} {to : TE} {t : TA} {apos cpos : Pos} (pa : PlainAttrs T) (slot : Slot T name id) (hty : typeOf (.builtin id) = pure (.type "method_descriptor")) (hm : MtR X id r) (ho : PE X o to) (ha : PA X (e :: es) t)
    (hbase : attributeBase o name X.env (eval o X.env) = eval o X.env := by rfl)
    (hfew : ((backTo cpos (starEach (e :: es) X.env)).all (fun x => !x.1) && (backToKw cpos (keywordEach [] X.env)).all (fun x => x.1.isSome)
      && decide ((e :: es).length + ([] : List Keyword).length + (if ([] : List Keyword).isEmpty then 0 else 1) < 30)) = true := by rfl)
    (hline : (apos.endLine == cpos.line) = true := by rfl) (hs : starEach (e :: es) X.env = (false, eval e X.env) :: starEach es X.env := by rfl) (hplain : (backTo cpos (starEach es X.env)).any (·.1) = false := by rfl) (hK : X.K = K := by rfl) :
    PE X (.Call (.Attribute o name apos) (e :: es) [] cpos) (tBM K T r to t) := by subst hK; exact pe_bm pa slot hty hm ho ha hbase hfew hline hs hplain
theorem pg_tupK {es : List Expr} {k : Nat} {t : TGs} {n : Nat} {pos : Pos} (hc : X.calm = true) (h : PGs X es t)
    (hn : (assignEach es X.env).length = n := by rfl) (hst : (assignEach es X.env).findIdx? (·.1) = none := by rfl) (hK : X.K = K := by rfl) : PG X (.Tuple es k pos) (gTup K n t) := by subst hK; exact pg_tup hc h hn hst
abbrev tTru (K : PySem.W.Frag) (ta : TE) : TT := fun σ H Q => ta σ H fun x H' => ∃ k, TruV K x H' k ∧ Q k H'
theorem pt_truthK {a : Expr} {ta : TE} (ha : PE X a ta) (he : ∀ whole, isTrue a X.env whole = (do let v ← whole; standAt a.pos; holding [v] (truthy v))) (hK : X.K = K := by rfl) : PT X a (tTru K ta) := by subst hK; exact pt_truth ha he
end
/-! statement steps, as the printer needs them -/
section
variable {α β γ δ ρ : Type} {G : List Fact} {O O0 F : Ow} {σ : St} {T : Ty α} {U : Ty β} {K : PySem.W.Frag} {S H : Hp} {D : Ends} {out : ρ} {u t t' : TS} {Q : VK}
theorem y_next {N : St → Hp → Prop} {rt bk ct} (h : N σ H) : tNext (Ends.mk N rt bk ct) σ H := h
theorem y_join {ω : Type} {k : β → Option ρ} {body : (β → Option ρ) → Option ρ} {σJ : β → ω → St} {OJ : β → ω → Ow} {Fb : β → ω → List Fact} (hG : Okc G S) (W : Wd S (O ++ F) H) (hm : joinK k body = some out)
    (next : ∀ b w S H, k b = some out → Okc (Fb b w ++ G) S → Wd S (OJ b w ++ F) H → u D (σJ b w) H)
    (main : (∀ b w S H, k b = some out → Okc (Fb b w ++ G) S → Wd S (OJ b w ++ F) H → u D (σJ b w) H) → body k = some out → tSeq t u D σ H) : tSeq t u D σ H := main next hm
theorem y_bool {b : Bool} {v : V} {R : Bool → Prop} (hG : Okc G S) (j : Nat) (hf : G[j]? = some (tBool.f b v)) (h : R b) : ∃ k, v = .bl k ∧ R k := ⟨b, Okc.at j hf hG, h⟩
theorem y_cb1 {r : List V → Hp → VK → Prop} {te : TE} (h : te σ H fun x H1 => tCB r (tCons (tC x) tNil) ([] : St) H1 Q) : tCB r (tCons te tNil) σ H Q := h
end
end HF

set_option Elab.async false
set_option linter.all false
set_option maxRecDepth 100000
set_option maxHeartbeats 2000000
/-! Mini10: lists of lists of one's own; instances that are made; sorted pairs; constants of a class. -/
namespace HF
open PySem PySem.Spec L2
open PyProof.Rows hiding St
/-! ### a list of lists, all one's own -/
def cellsLL : List Addr → List (List V) → List Cell
  | a :: as, v :: vs => (a, .lst v) :: cellsLL as vs
  | _, _ => []
theorem cellsLL_keys : ∀ {as : List Addr} {vss : List (List V)}, as.length = vss.length → (cellsLL as vss).map (·.1) = as
  | [], [], _ => rfl
  | [], _ :: _, h => by cases h
  | _ :: _, [], h => by cases h
  | a :: as, v :: vs, h => by show a :: (cellsLL as vs).map (·.1) = _; rw [cellsLL_keys (by simpa using h)]
theorem cellsLL_mem : ∀ {as : List Addr} {vss : List (List V)} {i : Nat} {a : Addr} {v : List V}, as[i]? = some a → vss[i]? = some v → (a, HO.lst v) ∈ cellsLL as vss
  | [], _, _, _, _, h, _ => by simp at h
  | _ :: _, [], _, _, _, _, h => by simp at h
  | a :: as, v :: vs, 0, _, _, h1, h2 => by
    simp at h1 h2
    subst h1 h2
    exact List.mem_cons_self ..
  | a :: as, v :: vs, i + 1, _, _, h1, h2 => List.mem_cons_of_mem _ (cellsLL_mem (i := i) (by simpa using h1) (by simpa using h2))
theorem cellsLL_get : ∀ {as : List Addr} {vss : List (List V)} {b : Addr} {o : HO}, (b, o) ∈ cellsLL as vss → ∃ (i : Nat) (w : List V), as[i]? = some b ∧ vss[i]? = some w ∧ o = .lst w
  | [], _, _, _, h => by cases h
  | _ :: _, [], _, _, h => by cases h
  | a :: as, v :: vs, b, o, h => by
    rcases List.mem_cons.mp h with e | h
    · cases e
      exact ⟨0, v, rfl, rfl, rfl⟩
    · obtain ⟨i, w, h1, h2, h3⟩ := cellsLL_get h
      exact ⟨i + 1, w, by simpa using h1, by simpa using h2, h3⟩
theorem cellsLL_app : ∀ {as : List Addr} {vss : List (List V)} {a : Addr} {v : List V}, as.length = vss.length → cellsLL (as ++ [a]) (vss ++ [v]) = cellsLL as vss ++ [(a, .lst v)]
  | [], [], _, _, _ => rfl
  | [], _ :: _, _, _, h => by cases h
  | _ :: _, [], _, _, h => by cases h
  | a :: as, v :: vs, _, _, h => by show _ :: cellsLL (as ++ _) (vs ++ _) = _; rw [cellsLL_app (by simpa using h)]; rfl
section
variable {α β γ ρ : Type} {G : List Fact} {O O0 F : Ow} {σ : St} {T : Ty α} {U : Ty β} {K : PySem.W.Frag} {S H : Hp} {D : Ends} {out : ρ} {u : TS} {Q : VK}
def oLL (T : Ty α) : OTy (List (List α)) := ⟨fun xss p c S => ∃ ps vss, c = (p, .lst (ps.map V.ref)) :: cellsLL ps vss ∧ ps.length = vss.length ∧ Paired (Rl T S) xss vss,
  fun h ⟨ps, vss, e, l, r⟩ => ⟨ps, vss, e, l, Paired.mapP r fun _ _ q => q.mono h⟩⟩
theorem paired_get {R : α → β → Prop} : ∀ {xs : List α} {ys : List β} {i : Nat} {x : α}, Paired R xs ys → xs[i]? = some x → ∃ y, ys[i]? = some y ∧ R x y
  | _, _, _, _, .nil, h => by simp at h
  | _, _, 0, _, .cons r _, h => by simp at h; subst h; exact ⟨_, rfl, r⟩
  | _, _, i + 1, _, .cons _ rs, h => by
    obtain ⟨y, h1, h2⟩ := paired_get (i := i) rs (by simpa using h)
    exact ⟨y, by simpa using h1, h2⟩
theorem paired_set {R : α → β → Prop} {x : α} {y : β} (h : R x y) : ∀ {xs : List α} {ys : List β} (n : Nat), Paired R xs ys → Paired R (xs.set n x) (ys.set n y)
  | _, _, _, .nil => .nil
  | _, _, 0, .cons _ rs => .cons h rs
  | _, _, n + 1, .cons r rs => .cons r (paired_set h n rs)
theorem paired_app {R : α → β → Prop} {x : α} {y : β} (h : R x y) : ∀ {xs : List α} {ys : List β}, Paired R xs ys → Paired R (xs ++ [x]) (ys ++ [y])
  | _, _, .nil => .cons h .nil
  | _, _, .cons r rs => .cons r (paired_app h rs)
theorem frz_LL : Frz (oLL T) (tL (tL T)) := fun g p c S q h => by
  obtain ⟨ps, vss, e, l, r⟩ := q
  subst e
  refine ⟨p, ps.map V.ref, rfl, h _ _ (List.mem_cons_self ..), ?_⟩
  have h' : ∀ a o, (a, o) ∈ cellsLL ps vss → S a = some o := fun a o m => h a o (List.mem_cons_of_mem _ m)
  clear h
  show Paired (fun x v => (tL T).rep x v S) g (ps.map V.ref)
  induction r generalizing ps with
  | nil =>
    cases ps with
    | nil => exact .nil
    | cons => cases l
  | @cons x v xs vs q rs ih =>
    cases ps with
    | nil => cases l
    | cons a as => exact .cons ⟨a, v, rfl, h' _ _ (List.mem_cons_self ..), q⟩ (ih as (by simpa using l) fun b o m => h' b o (List.mem_cons_of_mem _ m))
theorem Wd.keysNd (W : Wd S (O ++ F) H) {o : Nat} {c : List Cell} (ho : O[o]? = some c) : (c.map (·.1)).Nodup := by
  have q := Wd0.nd (W.perm (perm_front ho))
  simp only [List.flatten_cons, List.map_append] at q
  exact (List.nodup_append.mp q).1
theorem Wd.putLL {ps : List Addr} {vss : List (List V)} {p a : Addr} {i : Nat} (W : Wd S (O ++ F) H) (o : Nat) (ho : O[o]? = some ((p, .lst (ps.map V.ref)) :: cellsLL ps vss)) (l : ps.length = vss.length) (hi : ps[i]? = some a) (w : List V) :
    Wd S (O.set o ((p, .lst (ps.map V.ref)) :: cellsLL ps (vss.set i w)) ++ F) (upd H a (.lst w)) := by
  have nd := W.keysNd ho
  have l' : ps.length = (vss.set i w).length := by rw [List.length_set]; exact l
  simp only [List.map_cons, cellsLL_keys l, List.nodup_cons] at nd
  refine (Wd.putG (W.perm (perm_front ho)) (c' := (p, .lst (ps.map V.ref)) :: cellsLL ps (vss.set i w)) ?_ ?_ ?_).perm (perm_set ho F)
  · simp only [List.map_cons, cellsLL_keys l, cellsLL_keys l']
  · intro b z m
    rcases List.mem_cons.mp m with e | m
    · cases e
      have ne : p ≠ a := fun e => nd.1 (e ▸ List.mem_of_getElem? hi)
      rw [upd_ne ne]
      exact W.at ho _ _ (List.mem_cons_self ..)
    · obtain ⟨j, y, h1, h2, rfl⟩ := cellsLL_get m
      by_cases e : j = i
      · subst e
        rw [hi] at h1
        cases h1
        have hj : j < vss.length := by rw [← l]; exact (List.getElem?_eq_some_iff.mp hi).1
        rw [List.getElem?_set_self hj] at h2
        cases h2
        exact upd_same
      · rw [List.getElem?_set_ne (fun q => e q.symm)] at h2
        have ne : b ≠ a := fun q => by
          subst q
          have b1 := (List.getElem?_eq_some_iff.mp h1)
          have b2 := (List.getElem?_eq_some_iff.mp hi)
          obtain ⟨b1, e1⟩ := b1
          obtain ⟨b2, e2⟩ := b2
          exact e ((List.getElem_inj nd.2).mp (e1.trans e2.symm))
        rw [upd_ne ne]
        exact W.at ho _ _ (List.mem_cons_of_mem _ (cellsLL_mem h1 h2))
  · intro b m
    have ne : b ≠ a := fun q => by
      subst q
      refine m ?_
      simp only [List.map_cons, cellsLL_keys l]
      exact List.mem_cons_of_mem _ (List.mem_of_getElem? hi)
    exact upd_ne ne
/-- at just this address -/
def tAt (p : Addr) : Ty Unit := ⟨fun _ v _ => v = .ref p, fun _ h => h⟩
theorem sim_ownAt {OT : OTy α} {p : Addr} {c : List Cell} {g : α} {i : Nat} (hs : σ[i]? = some (some (.ref p))) : Sim G O (tVar i) σ (some ()) (tAt p) := fun S H F r hG w hm Q k => by
  exact ⟨_, hs, k _ S H (Same.refl _) w rfl⟩
def x_app2 (xss : List (List α)) (n : Int) (y : α) : Option (List (List α)) := (ixN xss.length n).bind fun i => (xss[i]?).bind fun xs => if xs.length < sizeLine then some (xss.set i (xs ++ [y])) else none
theorem atI_ixN {vs : List α} {n : Int} {i : Nat} {a : α} (h : ixN vs.length n = some i) (g : vs[i]? = some a) : atI vs n = some a := by
  unfold atI
  rw [h]
  exact g
/-- xss[n].append(y) -/
theorem k_app2 {to ti te : TE} {p : Addr} {c : List Cell} {xss : List (List α)} {m0 : Option Unit} {mi : Option Int} {my : Option α} {k : List (List α) → Option ρ} (hG : Okc G S) (W : Wd S (O ++ F) H)
    (hm : (m0.bind fun _ => mi.bind fun n => my.bind fun y => (x_app2 xss n y).bind k) = some out) (o j : Nat) (ho : O[o]? = some c) (hf : G[j]? = some ((oLL T).f xss p c)) (ht : Sim G O to σ m0 (tAt p)) (hi : Sim G O ti σ mi tInt) (hs : Sim G O te σ my T)
    (next : ∀ xss' c' S H, Okc ((oLL T).f xss' p c' :: G) S → Wd S (O.set o c' ++ F) H → k xss' = some out → u D σ H) : tSeq (tDrop (tBM K "list" rAppend (tOp (rIxL K) to ti) (tCons te tNil))) u D σ H := by
  obtain ⟨_, h0, hm⟩ := bind_some hm
  obtain ⟨n, h1, hm⟩ := bind_some hm
  obtain ⟨y, h2, hm⟩ := bind_some hm
  obtain ⟨z, h3, hm⟩ := bind_some hm
  obtain ⟨i, h4, h5⟩ := bind_some h3
  obtain ⟨xs, h6, h7⟩ := bind_some h5
  obtain ⟨hz, e7⟩ := of_if h7
  obtain ⟨ps, vss, e0, l, r0⟩ := (Okc.at j hf hG : (oLL T).rep xss p c S)
  subst e0
  obtain ⟨vs, h8, h9⟩ := paired_get r0 h6
  have hi' : i < ps.length := by rw [l]; exact (List.getElem?_eq_some_iff.mp h8).1
  have hp : ps[i]? = some ps[i] := List.getElem?_eq_getElem hi'
  have hix : ixN (ps.map V.ref).length n = some i := by rw [List.length_map, l, ← Paired.length r0]; exact h4
  refine ht S H F () hG W h0 _ fun v0 S1 H1 s1 w1 q1 => ?_
  refine hi S1 H1 F n (hG.mono s1) w1 h1 _ fun v1 S2 H2 s2 w2 q2 => ?_
  have g2 := w2.at ho
  refine ⟨p, ps.map V.ref, n, .ref ps[i], q1, q2, SqL.of (g2 _ _ (List.mem_cons_self ..)), atI_ixN hix (by simp [hp]), .inl ⟨rfl, vs, SqL.of (g2 _ _ (List.mem_cons_of_mem _ (cellsLL_mem hp h8)))⟩, ?_⟩
  refine hs S2 H2 F y (hG.mono (s1.trans s2)) w2 h2 _ fun v S3 H3 s3 w3 q3 => ?_
  have s := s1.trans (s2.trans s3)
  have g3 := w3.at ho
  refine ⟨ps[i], vs, v, rfl, rfl, g3 _ _ (List.mem_cons_of_mem _ (cellsLL_mem hp h8)), by rw [← h9.length]; exact hz, next z _ S3 _ ⟨?_, hG.mono s⟩ (w3.putLL o ho l hp _) hm⟩
  rw [← e7]
  exact ⟨ps, vss.set i (vs ++ [v]), rfl, by rw [List.length_set]; exact l, paired_set ((h9.mono s).append (Rl.one q3)) i (Paired.mapP r0 fun _ _ q => q.mono s)⟩
def x_put2 (xss : List (List α)) (n m : Int) (y : α) : Option (List (List α)) := (ixN xss.length n).bind fun i => (xss[i]?).bind fun xs => (x_set xs m y).bind fun ys => some (xss.set i ys)
/-- xss[n][m] = y -/
theorem k_put2 {to ti tj te : TE} {p : Addr} {c : List Cell} {xss : List (List α)} {m0 : Option Unit} {mi mj : Option Int} {my : Option α} {k : List (List α) → Option ρ} (hG : Okc G S) (W : Wd S (O ++ F) H)
    (hm : (my.bind fun y => m0.bind fun _ => mi.bind fun n => mj.bind fun m => (x_put2 xss n m y).bind k) = some out) (o j : Nat) (ho : O[o]? = some c) (hf : G[j]? = some ((oLL T).f xss p c)) (ht : Sim G O to σ m0 (tAt p)) (hi : Sim G O ti σ mi tInt) (hj : Sim G O tj σ mj tInt) (hs : Sim G O te σ my T)
    (next : ∀ xss' c' S H, Okc ((oLL T).f xss' p c' :: G) S → Wd S (O.set o c' ++ F) H → k xss' = some out → u D σ H) : tSeq (tAsg te (gSub (tOp (rIxL K) to ti) tj rSetL)) u D σ H := by
  obtain ⟨y, h2, hm⟩ := bind_some hm
  obtain ⟨_, h0, hm⟩ := bind_some hm
  obtain ⟨n, h1, hm⟩ := bind_some hm
  obtain ⟨m, h10, hm⟩ := bind_some hm
  obtain ⟨z, h3, hm⟩ := bind_some hm
  obtain ⟨i, h4, h5⟩ := bind_some h3
  obtain ⟨xs, h6, h7⟩ := bind_some h5
  obtain ⟨ys, h8', e7⟩ := bind_some h7
  obtain ⟨l', hl', e8⟩ := bind_some h8'
  cases e8
  cases e7
  obtain ⟨ps, vss, e0, l, r0⟩ := (Okc.at j hf hG : (oLL T).rep xss p c S)
  subst e0
  obtain ⟨vs, h8, h9⟩ := paired_get r0 h6
  have hi' : i < ps.length := by rw [l]; exact (List.getElem?_eq_some_iff.mp h8).1
  have hp : ps[i]? = some ps[i] := List.getElem?_eq_getElem hi'
  have hix : ixN (ps.map V.ref).length n = some i := by rw [List.length_map, l, ← Paired.length r0]; exact h4
  refine hs S H F y hG W h2 _ fun v S1 H1 s1 w1 q1 => ?_
  refine ht S1 H1 F () (hG.mono s1) w1 h0 _ fun v0 S2 H2 s2 w2 q2 => ?_
  refine hi S2 H2 F n (hG.mono (s1.trans s2)) w2 h1 _ fun v1 S3 H3 s3 w3 q3 => ?_
  refine ⟨p, ps.map V.ref, n, .ref ps[i], q2, q3, SqL.of (w3.at ho _ _ (List.mem_cons_self ..)), atI_ixN hix (by simp [hp]), ?_⟩
  refine hj S3 H3 F m (hG.mono (s1.trans (s2.trans s3))) w3 h10 _ fun x S4 H4 s4 w4 q4 => ?_
  have s := s1.trans (s2.trans (s3.trans s4))
  refine ⟨ps[i], vs, m, l', rfl, q4, w4.at ho _ _ (List.mem_cons_of_mem _ (cellsLL_mem hp h8)), by rw [← h9.length]; exact hl', next _ _ S4 _ ⟨?_, hG.mono s⟩ (w4.putLL o ho l hp _) hm⟩
  exact ⟨ps, vss.set i (vs.set l' v), rfl, by rw [List.length_set]; exact l, paired_set ((h9.mono s).set (T.mono (s2.trans (s3.trans s4)) q1) l') i (Paired.mapP r0 fun _ _ q => q.mono s)⟩
end
end HF

set_option Elab.async false
set_option linter.all false
set_option maxRecDepth 100000
set_option maxHeartbeats 2000000
/-! Mini11: instances that are made; sorted pairs; constants of a class. -/
namespace HF
open PySem PySem.Spec L2 ClX
open PyProof.Rows hiding St
section
variable {α β γ δ ρ : Type} {G : List Fact} {O O0 F : Ow} {σ : St} {T : Ty α} {U : Ty β} {K : PySem.W.Frag} {S H : Hp} {D : Ends} {out : ρ} {u : TS} {Q : VK}
/-- [[..] for x in it], all its lists one's own -/
theorem simF_lcLL {ω : Type} {g : TG} {tt : TT} {te : TE} {wi : TI} {vs : List Nat} {σ' : ω → St} {Fx : α → ω → List Fact} {mi : Option (List α)} {mt : α → Option Bool} {me : α → Option (List β)}
    (hi : SimI G O O0 wi σ mi T) (tg : TgOk g (wipe σ vs) T σ' Fx) (hw : ∀ w, wipe (σ' w) vs = wipe σ vs) (hO : O0.Sublist O)
    (ht : ∀ a w, SimT (Fx a w ++ G) O tt (σ' w) (mt a)) (he : ∀ a w, SimF (Fx a w ++ G) O te (σ' w) (me a) (oL U)) :
    SimF G O (tLc wi g tt te vs) σ (mi.bind fun xs => x_comp mt me xs) (oLL U) := fun S H F r hG w hm Q k => by
  obtain ⟨xs, h1, hm⟩ := bind_some hm
  unfold x_comp at hm
  split at hm
  case isFalse => cases hm
  case isTrue hz =>
  refine hi S H F xs hG w h1 _ fun J S1 H1 s1 w1 jok D hD => ?_
  have sub : O0.Sublist (O ++ F) := hO.trans (List.sublist_append_left _ _)
  refine ⟨fun i m H' => m = xs.length - i ∧ i ≤ xs.length ∧ ∃ S' acc ps vss rest, Same S1 S' ∧ Wd S' (((D, .lst (ps.map V.ref)) :: cellsLL ps vss) :: (O ++ F)) H' ∧ ps.length = vss.length ∧ Paired (Rl U S') acc vss ∧ acc.length ≤ i ∧ compM mt me (xs.drop i) = some rest ∧ r = acc ++ rest,
    ⟨xs.length, by simp, Nat.zero_le _, S1, [], [], [], r, Same.refl _, w1.newO hD, rfl, .nil, Nat.le_refl _, by simpa using hm, rfl⟩, ?_⟩
  rintro i m H' ⟨rfl, hi', S', acc, ps, vss, rest, s', w', hps, ra, hl, hc, rfl⟩
  have jk := jok S' H' s' (w'.tail.sub sub)
  by_cases hlt : i < xs.length
  · have hd : xs.drop i = xs[i] :: xs.drop (i + 1) := (List.drop_eq_getElem_cons hlt)
    rw [hd] at hc
    obtain ⟨go, yl⟩ := jk.1 i xs[i] (by simp [hlt])
    have hz2 : (ps.map V.ref).length < sizeLine := by rw [List.length_map, hps, ← Paired.length ra]; omega
    refine .inr ⟨go, fun H2 => ∃ S2 acc2 ps2 vss2 rest2, Same S1 S2 ∧ Wd S2 (((D, .lst (ps2.map V.ref)) :: cellsLL ps2 vss2) :: (O ++ F)) H2 ∧ ps2.length = vss2.length ∧ Paired (Rl U S2) acc2 vss2 ∧ acc2.length ≤ i + 1 ∧ compM mt me (xs.drop (i + 1)) = some rest2 ∧ acc ++ rest = acc2 ++ rest2,
      fun H2 q => ⟨xs.length - (i + 1), by omega, rfl, hlt, q⟩, fun x H2 y => ?_⟩
    obtain ⟨S2, s2, rx, wk⟩ := yl x H2 y
    have w2 := wk _ w'
    refine tg xs[i] x S2 H2 _ rx w2.st fun wt ok => ⟨hw wt, ?_⟩
    obtain ⟨b, hb, hc⟩ := bind_some hc
    have hG2 : Okc (Fx xs[i] wt ++ G) S2 := ok.append (hG.mono (s1.trans (s'.trans s2)))
    refine ht xs[i] wt S2 H2 (((D, .lst (ps.map V.ref)) :: cellsLL ps vss) :: F) b hG2 (w2.perm (perm_mid _ _ _)) hb _ fun S3 H3 s3 w3 => ?_
    cases b with
    | false =>
      rw [if_neg Bool.false_ne_true]
      rw [if_neg Bool.false_ne_true] at hc
      exact ⟨S3, acc, ps, vss, rest, s'.trans (s2.trans s3), w3.perm (perm_mid _ _ _).symm, hps, Paired.mapP ra fun _ _ q => q.mono (s2.trans s3), by omega, hc, rfl⟩
    | true =>
      rw [if_pos rfl]
      rw [if_pos rfl] at hc
      obtain ⟨y, hy, hc⟩ := bind_some hc
      obtain ⟨ys, hys, hc⟩ := bind_some hc
      cases hc
      refine he xs[i] wt S3 H3 (((D, .lst (ps.map V.ref)) :: cellsLL ps vss) :: F) y (hG2.mono s3) w3 hy _ fun p c S4 H4 s4 w4 rv => ?_
      obtain ⟨us, e0, r0⟩ := rv
      subst e0
      have w4' : Wd S4 ([(p, HO.lst us)] :: (((D, .lst (ps.map V.ref)) :: cellsLL ps vss) :: (O ++ F))) H4 := w4.perm ((perm_mid _ _ _).symm.cons _)
      have w5 : Wd S4 (((D, .lst (ps.map V.ref)) :: (cellsLL ps vss ++ [(p, HO.lst us)])) :: (O ++ F)) H4 := by
        refine Wd0.perm w4' ?_
        show ((p, HO.lst us) :: (D, .lst (ps.map V.ref)) :: (cellsLL ps vss ++ (O ++ F).flatten)).Perm ((D, .lst (ps.map V.ref)) :: ((cellsLL ps vss ++ [(p, HO.lst us)]) ++ (O ++ F).flatten))
        refine (List.Perm.swap _ _ _).trans (List.Perm.cons _ ?_)
        rw [List.append_assoc]
        exact List.perm_middle.symm
      have gD : H4 D = some (.lst (ps.map V.ref)) := w5.mem (List.mem_cons_self ..) (List.mem_cons_self ..)
      have w6 : Wd S4 (((D, .lst ((ps ++ [p]).map V.ref)) :: cellsLL (ps ++ [p]) (vss ++ [us])) :: (O ++ F)) (upd H4 D (.lst (ps.map V.ref ++ [.ref p]))) := by
        rw [cellsLL_app hps]
        have nd : (((D, HO.lst (ps.map V.ref)) :: (cellsLL ps vss ++ [(p, HO.lst us)])).map (·.1)).Nodup := Wd.keysNd (O := [_]) (F := O ++ F) (o := 0) w5 rfl
        have nd2 := (List.nodup_cons.mp nd).1
        refine w5.putG (by simp) ?_ ?_
        · intro a o m
          rcases List.mem_cons.mp m with e | m2
          · cases e
            rw [upd_same]
            simp
          · have ne : a ≠ D := fun e => nd2 (List.mem_map.mpr ⟨(a, o), m2, e⟩)
            rw [upd_ne ne]
            exact w5.mem (List.mem_cons_self ..) (List.mem_cons_of_mem _ m2)
        · intro a m
          exact upd_ne fun e => m (by subst e; exact List.mem_cons_self ..)
      refine ⟨ps.map V.ref, gD, hz2, S4, acc ++ [y], ps ++ [p], vss ++ [us], ys, s'.trans (s2.trans (s3.trans s4)), w6, by simp [hps], paired_app r0 (Paired.mapP ra fun _ _ q => q.mono (s2.trans (s3.trans s4))), by simp; omega, hys, by simp⟩
  · have e : i = xs.length := by omega
    subst e
    rw [List.drop_length] at hc
    cases hc
    rw [List.append_nil] at k
    exact .inl ⟨jk.2, k D _ S' H' (s1.trans s') w' ⟨ps, vss, rfl, hps, ra⟩⟩
/-! ### instances -/
def oIns (C : Addr) (keys : List Str) (A : TyA α) : OTy α := ⟨fun a p c S => ∃ dx vs, c = [(p, .ins C dx (keys.zip vs)), (dx, .own p)] ∧ vs.length = keys.length ∧ keys.Nodup ∧ A.rep a vs S, fun h ⟨dx, vs, e, l, n, r⟩ => ⟨dx, vs, e, l, n, A.mono h r⟩⟩
def tIns (C : Addr) (keys : List Str) (A : TyA α) : Ty α := ⟨fun a v S => ∃ p dx vs, v = .ref p ∧ S p = some (.ins C dx (keys.zip vs)) ∧ S dx = some (.own p) ∧ vs.length = keys.length ∧ keys.Nodup ∧ A.rep a vs S,
  fun h ⟨p, dx, vs, e, g, g2, l, n, r⟩ => ⟨p, dx, vs, e, h _ _ g, h _ _ g2, l, n, A.mono h r⟩⟩
theorem frz_Ins {C : Addr} {keys : List Str} {A : TyA α} : Frz (oIns C keys A) (tIns C keys A) := fun g p c S ⟨dx, vs, e, l, n, r⟩ h =>
  ⟨p, dx, vs, rfl, h _ _ (by rw [e]; exact List.mem_cons_self ..), h _ _ (by rw [e]; exact List.mem_cons_of_mem _ (List.mem_cons_self ..)), l, n, r⟩
instance {C : Addr} {keys : List Str} {A : TyA α} : Lk O (oIns C keys A) (tIns C keys A) := ⟨fun _ _ _ ⟨p, dx, vs, e, h, h2, l, n, r⟩ => ⟨p, _, e, ⟨dx, vs, rfl, l, n, r⟩, fun _ _ w a o m => by
  rcases List.mem_cons.mp m with e | m
  · cases e
    exact w.st _ _ h
  · rcases List.mem_cons.mp m with e | m
    · cases e
      exact w.st _ _ h2
    · cases m⟩⟩
theorem lookup_zip : ∀ {keys : List Str} {vs : List V} {i : Nat} {k : Str}, keys.Nodup → vs.length = keys.length → keys[i]? = some k → (keys.zip vs).lookup k = vs[i]?
  | [], _, _, _, _, _, h => by simp at h
  | x :: keys, [], _, _, _, h, _ => by simp at h
  | x :: keys, v :: vs, 0, k, _, _, h => by
    simp at h
    subst h
    simp
  | x :: keys, v :: vs, i + 1, k, n, l, h => by
    have hk : keys[i]? = some k := by simpa using h
    have hne : (k == x) = false := by
      rw [beq_eq_false_iff_ne]
      intro e
      subst e
      exact (List.nodup_cons.mp n).1 (List.mem_of_getElem? hk)
    show ((x, v) :: keys.zip vs).lookup k = _
    rw [List.lookup_cons, hne]
    simpa using lookup_zip (List.nodup_cons.mp n).2 (by simpa using l) hk
theorem lookup_zip_none : ∀ {keys : List Str} {vs : List V} {k : Str}, k ∉ keys → (keys.zip vs).lookup k = none
  | [], _, _, _ => rfl
  | x :: keys, [], _, _ => rfl
  | x :: keys, v :: vs, k, h => by
    have hne : (k == x) = false := by
      rw [beq_eq_false_iff_ne]
      intro e
      exact h (e ▸ List.mem_cons_self ..)
    show ((x, v) :: keys.zip vs).lookup k = _
    rw [List.lookup_cons, hne]
    exact lookup_zip_none fun m => h (List.mem_cons_of_mem _ m)
theorem putF_zip_new : ∀ {keys : List Str} {vs : List V} {k : Str} {v : V}, k ∉ keys → vs.length = keys.length → putF k v (keys.zip vs) = (keys ++ [k]).zip (vs ++ [v])
  | [], [], _, _, _, _ => rfl
  | [], _ :: _, _, _, _, l => by cases l
  | x :: keys, [], _, _, _, l => by cases l
  | x :: keys, y :: vs, k, v, h, l => by
    have hne : ¬ x = k := fun e => h (e ▸ List.mem_cons_self ..)
    have e1 : (x :: keys).zip (y :: vs) = (x, y) :: keys.zip vs := rfl
    rw [e1]
    unfold putF
    rw [if_neg hne, putF_zip_new (fun m => h (List.mem_cons_of_mem _ m)) (by simpa using l)]
    rfl
theorem putF_zip_set : ∀ {keys : List Str} {vs : List V} {i : Nat} {k : Str} {v : V}, keys.Nodup → vs.length = keys.length → keys[i]? = some k → putF k v (keys.zip vs) = keys.zip (vs.set i v)
  | [], _, _, _, _, _, _, h => by simp at h
  | x :: keys, [], _, _, _, _, l, _ => by cases l
  | x :: keys, y :: vs, 0, k, v, _, _, h => by
    simp at h
    subst h
    show (if x = x then _ else _) = _
    rw [if_pos rfl]
    rfl
  | x :: keys, y :: vs, i + 1, k, v, n, l, h => by
    have hk : keys[i]? = some k := by simpa using h
    have hne : ¬ x = k := fun e => (List.nodup_cons.mp n).1 (by rw [e]; exact List.mem_of_getElem? hk)
    have e1 : (x :: keys).zip (y :: vs) = (x, y) :: keys.zip vs := rfl
    rw [e1]
    unfold putF
    rw [if_neg hne, putF_zip_set (List.nodup_cons.mp n).2 (by simpa using l) hk]
    rfl
/-- o.f -/
theorem sim_ofld {C : Addr} {keys : List Str} {A : TyA α} {TR : Ty α} [Lk O (oIns C keys A) TR] {i : Nat} {k : Str} {f : α → β} {td : TE} {md : Option α} (cl : Cls K C) (na : NoAttr K C k) (pj : Pj A i U f) (hk : keys[i]? = some k) (hd : Sim G O td σ md TR) :
    Sim G O (tFld K td k) σ (md.bind fun a => some (f a)) U := fun S H F r hG w hm Q kk => by
  obtain ⟨a, h1, hm⟩ := bind_some hm
  cases hm
  refine hd S H F a hG w h1 _ fun x S1 H1 s1 w1 q1 => ?_
  obtain ⟨p, c, rfl, ⟨dx, vs, rfl, l, n, r⟩, g⟩ := Lk.lk (O := O) _ _ _ q1
  obtain ⟨v, h2, h3⟩ := pj a vs S1 r
  exact ⟨p, C, dx, _, v, rfl, g H1 F w1 _ _ (List.mem_cons_self ..), cl, na, by rw [lookup_zip n l hk, h2], kk v S1 H1 s1 w1 h3⟩
theorem Wd.putIns {p dx C : Addr} {fs : List (Str × V)} (W : Wd S (O ++ F) H) (o : Nat) (ho : O[o]? = some [(p, .ins C dx fs), (dx, .own p)]) (gs : List (Str × V)) : Wd S (O.set o [(p, .ins C dx gs), (dx, .own p)] ++ F) (upd H p (.ins C dx gs)) := by
  have nd := W.keysNd ho
  have ne : dx ≠ p := fun e => by subst e; simp at nd
  refine (Wd.putG (W.perm (perm_front ho)) (c' := [(p, .ins C dx gs), (dx, .own p)]) rfl ?_ ?_).perm (perm_set ho F)
  · intro a z m
    rcases List.mem_cons.mp m with e | m
    · cases e
      exact upd_same
    · rcases List.mem_cons.mp m with e | m
      · cases e
        rw [upd_ne ne]
        exact W.at ho _ _ (List.mem_cons_of_mem _ (List.mem_cons_self ..))
      · cases m
  · intro b m
    exact upd_ne fun e => m (by subst e; exact List.mem_cons_self ..)
theorem sn_nil : Snp TyA.nil (TyA.one T) T (fun _ x => x) := fun a vs S x v e q => ⟨v, by rw [show vs = [] from e]; rfl, q⟩
/-- o.f = e, a new field -/
theorem k_fnew {C : Addr} {keys : List Str} (keys' : List Str) {A : TyA α} {A' : TyA γ} {key : Str} {g : α → β → γ} {tv : TE} {i : Nat} {p : Addr} {c : List Cell} {a : α} {mv : Option β} {k : γ → Option ρ} (hG : Okc G S) (W : Wd S (O ++ F) H) (hm : (mv.bind fun x => (some (g a x)).bind k) = some out)
    (o j : Nat) (hi : σ[i]? = some (some (.ref p))) (ho : O[o]? = some c) (hf : G[j]? = some ((oIns C keys A).f a p c)) (cl : Cls K C) (na : NoAttr K C key) (sn : Snp A A' U g) (he : keys ++ [key] = keys') (hk : keys'.Nodup) (hl : keys.length < 1000) (hs : Sim G O tv σ mv U)
    (next : ∀ x c' S H, Okc ((oIns C keys' A').f (g a x) p c' :: G) S → Wd S (O.set o c' ++ F) H → k (g a x) = some out → u D σ H) : tSeq (sFld K (tVar i) tv key) u D σ H := by
  subst he
  obtain ⟨x, h1, hm⟩ := bind_some hm
  obtain ⟨dx, vs, e0, l, nd, r0⟩ := (Okc.at j hf hG : (oIns C keys A).rep a p c S)
  subst e0
  have hn : key ∉ keys := fun m => (List.nodup_append.mp hk).2.2 _ m key (List.mem_singleton.mpr rfl) rfl
  refine hs S H F x hG W h1 _ fun v S1 H1 s1 w1 q1 => ⟨.ref p, hi, p, C, dx, _, rfl, w1.at ho _ _ (List.mem_cons_self ..), cl, na, by rw [List.length_zip]; omega, ?_⟩
  refine next x _ S1 _ ⟨⟨dx, vs ++ [v], rfl, by simp [l], hk, sn _ _ _ _ _ (A.mono s1 r0) q1⟩, hG.mono s1⟩ ?_ hm
  rw [putF_zip_new hn l]
  exact w1.putIns o ho _
/-- o.f = e, e a new object of one's own -/
theorem k_fnewO {OT : OTy β} {C : Addr} {keys : List Str} (keys' : List Str) {A : TyA α} {A' : Addr → TyA γ} {key : Str} {g : α → Unit → γ} {tv : TE} {i : Nat} {p : Addr} {c : List Cell} {a : α} {mv : Option β} {k : β → γ → Option ρ} (hG : Okc G S) (W : Wd S (O ++ F) H) (hm : (mv.bind fun x => (some (g a ())).bind (k x)) = some out)
    (o j : Nat) (hi : σ[i]? = some (some (.ref p))) (ho : O[o]? = some c) (hf : G[j]? = some ((oIns C keys A).f a p c)) (cl : Cls K C) (na : NoAttr K C key) (sn : ∀ q, Snp A (A' q) (tAt q) g) (he : keys ++ [key] = keys') (hk : keys'.Nodup) (hl : keys.length < 1000) (hs : SimF G O tv σ mv OT)
    (next : ∀ x q d c' S H, Okc (OT.f x q d :: (oIns C keys' (A' q)).f (g a ()) p c' :: G) S → Wd S ((d :: O.set o c') ++ F) H → k x (g a ()) = some out → u D σ H) : tSeq (sFld K (tVar i) tv key) u D σ H := by
  subst he
  obtain ⟨x, h1, hm⟩ := bind_some hm
  obtain ⟨dx, vs, e0, l, nd, r0⟩ := (Okc.at j hf hG : (oIns C keys A).rep a p c S)
  subst e0
  have hn : key ∉ keys := fun m => (List.nodup_append.mp hk).2.2 _ m key (List.mem_singleton.mpr rfl) rfl
  refine hs S H F x hG W h1 _ fun q d S1 H1 s1 w1 q1 => ?_
  have w1' : Wd S1 ((d :: O) ++ F) H1 := w1
  have ho' : (d :: O)[o + 1]? = some [(p, .ins C dx (keys.zip vs)), (dx, .own p)] := ho
  refine ⟨.ref p, hi, p, C, dx, _, rfl, w1'.at ho' _ _ (List.mem_cons_self ..), cl, na, by rw [List.length_zip]; omega, ?_⟩
  refine next x q d _ S1 _ ⟨q1, ⟨dx, vs ++ [.ref q], rfl, by simp [l], hk, sn q _ _ _ () (.ref q) (A.mono s1 r0) (show (tAt q).rep () (.ref q) S1 from rfl)⟩, hG.mono s1⟩ ?_ hm
  rw [putF_zip_new hn l]
  exact w1'.putIns (o + 1) ho' _
/-- o.f = e, a field anew -/
theorem k_fput {C : Addr} {keys : List Str} {A : TyA α} {n : Nat} {key : Str} {g : α → β → α} {tv : TE} {i : Nat} {p : Addr} {c : List Cell} {a : α} {mv : Option β} {k : α → Option ρ} (hG : Okc G S) (W : Wd S (O ++ F) H) (hm : (mv.bind fun x => (some (g a x)).bind k) = some out)
    (o j : Nat) (hi : σ[i]? = some (some (.ref p))) (ho : O[o]? = some c) (hf : G[j]? = some ((oIns C keys A).f a p c)) (cl : Cls K C) (na : NoAttr K C key) (st : Stp A n U g) (hk : keys[n]? = some key) (hl : keys.length < 1000) (hs : Sim G O tv σ mv U)
    (next : ∀ x c' S H, Okc ((oIns C keys A).f (g a x) p c' :: G) S → Wd S (O.set o c' ++ F) H → k (g a x) = some out → u D σ H) : tSeq (sFld K (tVar i) tv key) u D σ H := by
  obtain ⟨x, h1, hm⟩ := bind_some hm
  obtain ⟨dx, vs, e0, l, nd, r0⟩ := (Okc.at j hf hG : (oIns C keys A).rep a p c S)
  subst e0
  refine hs S H F x hG W h1 _ fun v S1 H1 s1 w1 q1 => ⟨.ref p, hi, p, C, dx, _, rfl, w1.at ho _ _ (List.mem_cons_self ..), cl, na, by rw [List.length_zip]; omega, ?_⟩
  refine next x _ S1 _ ⟨⟨dx, vs.set n v, rfl, by rw [List.length_set]; exact l, nd, st _ _ _ _ _ (A.mono s1 r0) q1⟩, hG.mono s1⟩ ?_ hm
  rw [putF_zip_set nd l hk]
  exact w1.putIns o ho _
/-- the last place, an address, is what lies there -/
def LsT (A : TyA α) (A' : TyA γ) (q : Addr) (T : Ty β) (g : α → β → γ) : Prop := ∀ a vs S y, A.rep a vs S → T.rep y (.ref q) S → A'.rep (g a y) vs S
theorem ls_one {q : Addr} : LsT (TyA.one (tAt q)) (TyA.one T) q T (fun _ y => y) := fun a vs S y ⟨v, e, r⟩ h => ⟨v, e, by rw [show v = .ref q from r]; exact h⟩
theorem ls_c {A : TyA α} {A' : TyA γ} {q : Addr} {g : α → β → γ} {W : Ty δ} (h : LsT A A' q T' g) : LsT (TyA.c W A) (TyA.c W A') q T' (fun a y => (a.1, g a.2 y)) := fun a vs S y ⟨v, ws, e, r, r2⟩ z => ⟨v, ws, e, r, h _ _ _ _ r2 z⟩
theorem k_cast {C : Addr} {keys : List Str} {A : TyA α} {A' : TyA γ} {g : α → β → γ} {p q : Addr} {c : List Cell} {a : α} {y : β} {P : Prop} (hG : Okc G S) (j l : Nat) (hf : G[j]? = some ((oIns C keys A).f a p c)) (hy : G[l]? = some (U.f y (.ref q))) (ls : LsT A A' q U g)
    (next : Okc ((oIns C keys A').f (g a y) p c :: G) S → P) : P := by
  obtain ⟨dx, vs, e0, l', nd, r0⟩ := (Okc.at j hf hG : (oIns C keys A).rep a p c S)
  exact next ⟨⟨dx, vs, e0, l', nd, ls _ _ _ _ r0 (Okc.at l hy hG)⟩, hG⟩
/-! ### making -/
/-- the promise of an __init__ -/
def spI (A : TyA α) (m : α → Option β) (C : Addr) (keys : List Str) (A' : TyA β) : Sp := fun vs H Q _ => ∃ (S : Hp) (F : Ow) (a : α) (r : β) (p dx : Addr) (ws : List V), vs = .ref p :: ws ∧ A.rep a ws S ∧ Wd S ([[(p, .ins C dx []), (dx, .own p)]] ++ F) H ∧ m a = some r ∧
  ∀ c S' H', Same S S' → Wd S' ([c] ++ F) H' → (oIns C keys A').rep r p c S' → Q .non H'
theorem simF_make {C : Addr} {keys : List Str} {A : TyA α} {A' : TyA β} {f : α → Option β} {ta : TA} {ma : Option α} {E : XK} (h : SimA G O ta σ ma A) : SimF G O (tMake C (spI A f C keys A') [] E ta) σ (ma.bind fun a => f a) (oIns C keys A') := fun S H F r hG w hm Q k => by
  obtain ⟨a, h1, hm⟩ := bind_some hm
  refine h S H F a hG w h1 _ fun vs S1 H1 s1 w1 q1 => fun x dx hx hdx ne => ?_
  refine ⟨S1, O ++ F, a, r, x, dx, vs ++ [], rfl, by rw [List.append_nil]; exact q1, ?_, hm, fun c S2 H2 s2 w2 q2 => ⟨rfl, k x c S2 H2 (s1.trans s2) w2 q2⟩⟩
  have w2 := w1.newO (o := .own x) hdx
  have hx2 : upd H1 dx (.own x) x = none := by rw [upd_ne (fun e => ne e.symm)]; exact hx
  have w3 := w2.newO (o := .ins C dx []) hx2
  exact w3
/-- a class that may be made by its name -/
structure Mak (CX : CXT) (P : Program) (w : World) (K : PySem.W.Frag) (mg : Str → Option Value) (base : Heap) (k : Nat) (x : Str) (C : Addr) (sp : Sp) : Prop where
  ex : ∃ (f : Addr) (fd : FuncData) (ps : List Str), Mk K C f ∧ FnOk P w K mg base CX k f fd ps sp ∧ mg x = some (.ref C) ∧ Binds K fd ps []
/-- an __init__ of the text; the last nd of its parameters have defaults -/
structure IDefAt (K : PySem.W.Frag) (mg : Str → Option Value) (x : Str) (C : Addr) (qual : Str) (st : Stmt) (nd : Nat) : Prop where
  ex : ∃ (f : Addr) (fd : FuncData) (dvs : List V), dvs.length = nd ∧ FunD K "__init__" qual (defArgs st) (defBody st) (defScope st) dvs [] f fd ∧ Mk K C f ∧ mg x = some (.ref C)
section
variable {CX : CXT} {P : Program} {w : World} {mg : Str → Option Value} {base : Heap}
theorem vals_nil {us : List Value} (h : Vals [] us) : us = [] := by cases h; rfl
theorem mak_mk {x qual : Str} {C : Addr} {st : Stmt} {N ps : List Str} {k nd : Nat} {sp : Sp} (D : IDefAt K mg x C qual st nd) (S : FnScope N ps (defScope st)) (len : ∀ vs H Q E, sp vs H Q E → vs.length = ps.length)
    (hb : (∀ (kV doc pm : Value) (an : Option Addr) (cdv ct : Value) (us : List Value), nd = 0 → us.length = ps.length → bindArgs (PySem.W.fnOf "__init__" qual (defArgs st) (defBody st) (defScope st) .none kV doc pm an cdv ct) ⟨us, []⟩ = pure (ps.zip us)) ∧
      (∀ (T : Addr) (kV doc pm : Value) (an : Option Addr) (cdv ct : Value) (us its : List Value), nd ≠ 0 → us.length = ps.length → its.length = nd →
        ∃ k, bindArgs (PySem.W.fnOf "__init__" qual (defArgs st) (defBody st) (defScope st) (.ref T) kV doc pm an cdv ct) ⟨us, []⟩ = seqItems? (.ref T) >>= k ∧ k (some its.toArray) = pure (ps.zip (us ++ its.drop nd))))
    (hbody : ∀ (f : Addr) (cdv : Value) (A : Around) (outer : List Env) (s : Shared) (H : Hp) (vs : List V) (Q : VK) (E : XK), Room k (A.deeper (envOfC qual (defScope st) s.heap.objs.size f cdv)) → sp vs H Q E →
      ∃ t, PSs (cxOf CX P w K mg base N qual (defScope st) f cdv A outer s H E) (defBody st) t ∧ t { nx := fun _ H' => Q .non H', rt := Q } (start N vs) H) : Mak CX P w K mg base (k + 1) x C sp := by
  obtain ⟨f, fd, dvs, hl, F, M, hm⟩ := D.ex
  refine ⟨f, fd, ps, M, F.ok S len (fun cdv A outer s H vs Q E hr h => hbody f cdv A outer s H vs Q E hr h), hm, ?_⟩
  cases dvs with
  | nil => exact F.bindsN fun kV doc pm an cdv ct us h => hb.1 kV doc pm an cdv ct us hl.symm h
  | cons d ds =>
    have h0 : nd ≠ 0 := by rw [← hl]; simp
    obtain ⟨vs, h1, h2⟩ := F.binds1 (ps := ps) ps.length (d :: ds).length (List.cons_ne_nil _ _) (by simp) fun T kV doc pm an cdv ct us its h3 h4 => by
      obtain ⟨k, e1, e2⟩ := hb.2 T kV doc pm an cdv ct us its h0 h3 (h4.trans hl)
      exact ⟨k, e1, by rw [hl]; exact e2⟩
    rw [List.drop_length] at h1
    rw [vals_nil h1] at h2
    exact h2
end
section
variable {X : Cx} {CX : CXT} {k j : Nat} {x : Str} {C : Addr} {sp : Sp} {p pos : Pos} {e : Expr} {es : List Expr} {t : TA} {E : XK}
theorem pe_mak (c : Mak CX X.prog X.w X.K X.mg X.base k x C sp) (hr : Room j X.A) (hk : k + 1 ≤ j) (hg : Gl X x) (hx : Passes CX X E) (ha : PA X (e :: es) t)
    (hdb : (x == ("__debug__" : Str)) = false := by decide) (he : starEach (e :: es) X.env = (false, eval e X.env) :: starEach es X.env := by rfl) (hpl : (backTo pos (starEach es X.env)).any (·.1) = false := by rfl) :
    PE X (.Call (.Name x p) (e :: es) [] pos) (tMake C sp [] E t) := by
  obtain ⟨f, fd, ps, M, F, hm, b⟩ := c.ex
  exact pe_make M F (hr.mono hk) hg hm b .nil hx ha hdb he hpl
end
/-! ### constants of a class -/
section
variable {X : Cx} {o e : Expr} {f : Str} {pos : Pos} {ta : TE}
theorem pe_cvalK (he : PE X e ta) (hb : attributeBase e f X.env (eval e X.env) = eval e X.env := by rfl) (hK : X.K = K := by rfl) : PE X (.Attribute e f pos) (tCVal K ta f) := by subst hK; exact pe_cval he hb
end
structure CCon (K : PySem.W.Frag) (C : Addr) (f : Str) (i : Int) : Prop where
  ex : ∃ mc u, CRead K C mc ∧ CVal K C mc f (.int i) u
theorem sim_cval {C : Addr} {f : Str} {i : Int} (c : CCon K C f i) : Sim G O (tCVal K (tC (.ref C)) f) σ (some i) tInt := fun S H F r hG w hm Q k => by
  cases hm
  obtain ⟨mc, u, h1, h2⟩ := c.ex
  exact ⟨C, mc, _, u, rfl, h1, h2, k _ S H (Same.refl _) w rfl⟩
/-! ### sorted pairs -/
def lexP (a b : Int × Int) : Bool := decide (a.1 < b.1 ∨ (a.1 = b.1 ∧ a.2 ≤ b.2))
def sortP (xs : List (Int × Int)) : List (Int × Int) := xs.mergeSort lexP
end
end HF

set_option Elab.async false
set_option linter.all false
set_option maxRecDepth 100000
set_option maxHeartbeats 2000000
/-! Mini12: sorted pairs. -/
namespace HF
open PySem PySem.Spec L2 ClX
open PyProof.Rows hiding St
theorem lexP_trans (a b c : Int × Int) : lexP a b = true → lexP b c = true → lexP a c = true := by
  unfold lexP
  simp only [decide_eq_true_eq]
  omega
theorem lexP_total (a b : Int × Int) : (lexP a b || lexP b a) = true := by
  unfold lexP
  simp only [Bool.or_eq_true, decide_eq_true_eq]
  omega
theorem lexP_lexB {a b : Int × Int} : lexP a b = true ↔ SrtO.lexB b a = false := by
  rw [SrtO.lexB_no]
  unfold lexP
  simp only [decide_eq_true_eq]
  omega
theorem eqv_lex {a b : Int × Int} : SrtO.eqv SrtO.lexB a b = true ↔ a = b := by
  rw [SrtO.eqv_iff, SrtO.lexB_no, SrtO.lexB_no]
  constructor
  · intro h
    exact Prod.ext (by omega) (by omega)
  · rintro rfl
    omega
theorem stb_perm {l m : List (Int × Int)} (h : l.Perm m) : SrtO.Stb SrtO.lexB l m := by
  refine ⟨h, fun x => ?_⟩
  have e1 : ∀ n : List (Int × Int), n.filter (SrtO.eqv SrtO.lexB x) = List.replicate (n.filter (SrtO.eqv SrtO.lexB x)).length x := fun n =>
    List.eq_replicate_of_mem fun b hb => (eqv_lex.mp (List.mem_filter.mp hb).2).symm
  rw [e1 l, e1 m, (h.filter _).length_eq]
theorem swo_lexB : SrtO.Swo SrtO.lexB := by
  refine ⟨fun x y h => ?_, fun x y z h1 h2 => ?_⟩
  · have a := SrtO.lexB_iff.mp h
    refine SrtO.lexB_no.mpr ?_
    omega
  · have a := SrtO.lexB_no.mp h1
    have b := SrtO.lexB_no.mp h2
    refine SrtO.lexB_no.mpr ?_
    omega
theorem srtd_sortP (xs : List (Int × Int)) : SrtO.Srtd SrtO.lexB (sortP xs) := by
  have h := List.pairwise_mergeSort (le := lexP) lexP_trans lexP_total xs
  exact h.imp fun r => lexP_lexB.mp r
theorem sortP_uniq {xs ys : List (Int × Int)} (h1 : SrtO.Srtd SrtO.lexB ys) (h2 : ys.Perm xs) : ys = sortP xs :=
  SrtO.stb_uniq swo_lexB h1 (srtd_sortP xs) (stb_perm (h2.trans (List.mergeSort_perm xs lexP).symm))
def keyP (S : Hp) : V → Int × Int
  | .ref t => (match S t with
    | some (.tup [.int i, .int j]) => (i, j)
    | _ => (0, 0))
  | _ => (0, 0)
theorem keyP_of {S : Hp} {a : Int × Int} {v : V} (h : (tP tInt tInt).rep a v S) : keyP S v = a ∧ ∃ t, v = .ref t ∧ S t = some (.tup [.int a.1, .int a.2]) := by
  obtain ⟨t, x, y, rfl, g, h1, h2⟩ := h
  have e1 : x = .int a.1 := h1
  have e2 : y = .int a.2 := h2
  subst e1 e2
  refine ⟨?_, t, rfl, g⟩
  show (match S t with
      | some (.tup [.int i, .int j]) => (i, j)
      | _ => (0, 0)) = a
  rw [g]
theorem keyP_map {S : Hp} {xs : List (Int × Int)} {vs : List V} (r : Rl (tP tInt tInt) S xs vs) : vs.map (keyP S) = xs := by
  induction r with
  | nil => rfl
  | cons q _ ih => rw [List.map_cons, ih, (keyP_of q).1]
section
variable {G : List Fact} {O : Ow} {σ : St} {K : PySem.W.Frag}
theorem simF_sortedP {TL : Ty (List (Int × Int))} [Lk O (oL (tP tInt tInt)) TL] {ta : TE} {ma : Option (List (Int × Int))} (ha : Sim G O ta σ ma TL) : SimF G O (tCB (rSortedPO K) (tCons ta tNil)) σ (ma.bind fun a => some (sortP a)) (oL (tP tInt tInt)) := fun S H F r hG w hm Q k => by
  obtain ⟨xs, h1, hm⟩ := bind_some hm
  cases hm
  refine ha S H F xs hG w h1 _ fun v S1 H1 s1 w1 q1 => ?_
  obtain ⟨p, vs, rfl, r, g⟩ := lkL (O := O) (T := tP tInt tInt) q1
  have hkey : ∀ v ∈ vs, (tP tInt tInt).rep (keyP S1 v) v S1 := fun v m => by
    obtain ⟨i, hi⟩ := List.getElem?_of_mem m
    obtain ⟨x, _, h3⟩ := r.getV hi
    rw [(keyP_of h3).1]
    exact h3
  have hmap : vs.map (keyP S1) = xs := keyP_map r
  refine ⟨p, vs, keyP S1, rfl, SqL.of (g H1 F w1), fun x m => ?_, fun ys q hs hb hn => ?_⟩
  · obtain ⟨_, t, e, h3⟩ := keyP_of (hkey x m)
    exact ⟨t, e, w1.st _ _ h3⟩
  · have hy : ys.map (keyP S1) = sortP xs := by
      refine sortP_uniq (SrtO.srtd_map hs) ?_
      have := (hb.perm).map (keyP S1)
      rw [hmap] at this
      exact this
    have hr : Rl (tP tInt tInt) S1 (ys.map (keyP S1)) ys := by
      have : ∀ y ∈ ys, (tP tInt tInt).rep (keyP S1 y) y S1 := fun y m => hkey y (hb.perm.mem_iff.mp m)
      clear hs hb hy
      induction ys with
      | nil => exact .nil
      | cons y ys ih => exact .cons (this y (List.mem_cons_self ..)) (ih fun z m => this z (List.mem_cons_of_mem _ m))
    rw [hy] at hr
    exact k q _ S1 _ s1 (w1.newO hn) ⟨ys, rfl, hr⟩
end
section
variable {X : Cx} {K : PySem.W.Frag}
theorem cr_sortedPK (hK : X.K = K := by rfl) : CallR X (.builtin "sorted") (rSortedPO K) := by subst hK; exact cr_sortedPO
end
end HF

set_option Elab.async false
set_option linter.all false
set_option maxRecDepth 100000
set_option maxHeartbeats 2000000
/-! Mini13: the house. -/
namespace HF
open PySem PySem.Spec L2 ClX
open PyProof.Rows hiding St
abbrev k_House : List Str := ["_below_masks", "_above_masks", "_below", "_above", "_order", "count", "hues", "wires", "_direct"]
abbrev R_House := List Int × List Int × List (List Int) × List (List Int) × List Int × Int × Int × List (Int × Int) × List (List Int)
abbrev A_House : TyA R_House := .c (tL tInt) (.c (tL tInt) (.c (tL (tL tInt)) (.c (tL (tL tInt)) (.c (tL tInt) (.c tInt (.c tInt (.c (tT (tP tInt tInt)) (.one (tL (tL tInt))))))))))
def toHouse (r : R_House) : HouseD := { belowM := r.1, aboveM := r.2.1, below := r.2.2.1, above := r.2.2.2.1, order := r.2.2.2.2.1, count := r.2.2.2.2.2.1, hues := r.2.2.2.2.2.2.1, wires := r.2.2.2.2.2.2.2.1, direct := r.2.2.2.2.2.2.2.2 }
theorem house_of {C : Addr} : ∀ (a : R_House) (v : V) (S : Hp), (tIns C k_House A_House).rep a v S → (tHouse C).rep (toHouse a) v S := fun a v S ⟨p, dx, vs, e, g, _, l, n, r⟩ => by
  obtain ⟨v1, _, rfl, h1, v2, _, rfl, h2, v3, _, rfl, h3, v4, _, rfl, h4, v5, _, rfl, h5, v6, _, rfl, h6, v7, _, rfl, h7, v8, _, rfl, h8, v9, rfl, h9⟩ := r
  exact ⟨p, dx, _, e, g, ⟨⟨_, rfl, h1⟩, ⟨_, rfl, h2⟩, ⟨_, rfl, h3⟩, ⟨_, rfl, h4⟩, ⟨_, rfl, h5⟩, ⟨_, rfl, h6⟩, ⟨_, rfl, h7⟩, ⟨_, rfl, h8⟩, ⟨_, rfl, h9⟩, fun m n1 n2 n3 n4 n5 n6 n7 n8 n9 => lookup_zip_none (by simp only [List.mem_cons, List.not_mem_nil, or_false, not_or]; exact ⟨n1, n2, n3, n4, n5, n6, n7, n8, n9⟩)⟩⟩
section
variable {X : Cx} {K : PySem.W.Frag} {o value : Expr} {f : Str} {pos pos' : Pos} {ta tv : TE}
theorem ps_fldK (ha : PE X o ta) (hv : PE X value tv) (hs : swapsWith value (some (.Attribute o f pos')) pos.line X.env = pure false := by rfl) (hK : X.K = K := by rfl) : PS X (.Assign [.Attribute o f pos'] value pos) (sFld K ta tv f) := by
  subst hK; exact ps_fld ha hv hs
end
theorem x_endI {β : Type} {OT : OTy β} {r out : β} {p : Addr} {c : List Cell} {S0 S H : Hp} {F : Ow} {Q : VK} (hm : some r = some out) (k : ∀ c S' H', Same S0 S' → Wd S' ([c] ++ F) H' → OT.rep out p c S' → Q .non H') (s : Same S0 S) (W : Wd S ([c] ++ F) H) (h : OT.rep r p c S) : Q .non H := by
  cases hm; exact k _ _ _ s W h
section
variable {G : List Fact} {O : Ow} {σ : St}
theorem sim_house {C : Addr} {t : TE} {m : Option R_House} (h : SimF G O t σ m (oIns C k_House A_House)) : Sim G O t σ (m.bind fun a => some (toHouse a)) (tHouse C) :=
  sim_imp (h.frz frz_Ins) house_of
end
end HF

set_option Elab.async false
set_option linter.all false
set_option maxRecDepth 100000
set_option maxHeartbeats 2000000
/-! Mini14: the script. -/
namespace HF
open PySem PySem.Spec L2 ClX
open PyProof.Rows hiding St
theorem SqL_mono {K : PySem.W.Frag} {S S' : Hp} {p : Addr} {xs : List V} (s : Same S S') (h : SqL K S p xs) : SqL K S' p xs := by
  rcases h with (h | ⟨o, h⟩) | h
  · exact .inl (.inl (s _ _ h))
  · exact .inl (.inr ⟨o, s _ _ h⟩)
  · exact .inr h
def tScr (K : PySem.W.Frag) : Ty (List Int) := ⟨fun xs v S => ∃ p, v = .ref p ∧ SqL K S p (xs.map V.int), fun s ⟨p, e, h⟩ => ⟨p, e, SqL_mono s h⟩⟩
section
variable {G : List Fact} {O : Ow} {σ : St} {K : PySem.W.Frag}
theorem simF_sliceS {te : TE} {tl th : TO} {ma : Option (List Int)} {ml mh : Option (Option Int)} (ha : Sim G O te σ ma (tScr K)) (hl : SimO G O tl σ ml) (hh : SimO G O th σ mh) :
    SimF G O (tSl (rSlL K) te tl th) σ (ma.bind fun a => ml.bind fun l => mh.bind fun h => some (cutL a l h)) (oL tInt) := fun S H F r hG w hm Q k => by
  obtain ⟨a, h1, hm⟩ := bind_some hm
  obtain ⟨b, h2, hm⟩ := bind_some hm
  obtain ⟨c, h3, hm⟩ := bind_some hm
  cases hm
  refine ha S H F a hG w h1 _ fun x S1 H1 s1 w1 q1 => ?_
  refine hl S1 H1 F b (hG.mono s1) w1 h2 _ fun S2 H2 s2 w2 => ?_
  refine hh S2 H2 F c (hG.mono (s1.trans s2)) w2 h3 _ fun S3 H3 s3 w3 => ?_
  obtain ⟨p, rfl, g⟩ := (tScr K).mono (s2.trans s3) q1
  exact ⟨p, _, rfl, SqL_mono w3.st g, fun l hl => k l _ S3 _ ((s1.trans s2).trans s3) (w3.newO hl) ⟨_, rfl, (rl_ints S3 a).cut b c⟩⟩
theorem sim_ixS {ta tb : TE} {ma : Option (List Int)} {mb : Option Int} (ha : Sim G O ta σ ma (tScr K)) (hb : Sim G O tb σ mb tInt) : Sim G O (tOp (rIxL K) ta tb) σ (ma.bind fun a => mb.bind fun b => x_ix a b) tInt :=
  sim_op2 (fun a b c x y S H F h1 h2 w e Q k => by
    obtain ⟨p, rfl, g⟩ := h1
    obtain ⟨v, h3, h4⟩ := atI_rl (rl_ints S a) e
    exact ⟨p, _, b, v, rfl, h2, SqL_mono w.st g, h3, k v S H (Same.refl _) w h4⟩) ha hb
theorem sim_lenS {ta : TE} {ma : Option (List Int)} (ha : Sim G O ta σ ma (tScr K)) : Sim G O (tCB (rLn K) (tCons ta tNil)) σ (ma.bind fun a => some (a.length : Int)) tInt := fun S H F r hG w hm Q k => by
  obtain ⟨a, h1, hm⟩ := bind_some hm
  cases hm
  refine ha S H F a hG w h1 _ fun v S1 H1 s1 w1 q => ?_
  obtain ⟨p, rfl, g⟩ := q
  refine ⟨p, _, rfl, .inl (SqL_mono w1.st g), k _ S1 H1 s1 w1 ?_⟩
  show V.int _ = V.int _
  rw [List.length_map]
end
/-- what the law's def promises, as the head asks for it -/
theorem law_end {K : PySem.W.Frag} {m : List Int → Option Bool} {H : Hp} {a : Addr} {ns : List Int} (hS : SqL K H a (ns.map V.int)) (hm : m ns = some true) : spP (TyA.one (tScr K)) m tBool [.ref a] H (fun v _ => v = .bl true) fun _ _ _ => False := by
  refine ⟨H, [], ns, true, ⟨_, rfl, a, rfl, hS⟩, ⟨Same.refl _, ?_, List.nodup_nil⟩, hm, fun v S' H' _ _ r => r⟩
  intro p o m
  cases m
end HF

set_option Elab.async false
set_option linter.all false
set_option maxRecDepth 100000
set_option maxHeartbeats 2000000
/-! Mini15: the head's hook, with the classes' constants. -/
namespace HF
open PySem PySem.Spec L2 ClX
open PyProof.Rows hiding St
def conB (K : PySem.W.Frag) (q : Str × Str × Int) : Bool := PySem.W.readsIn K (He.ga K q.1) (.type "type") &&
  (He.eqO (PySem.W.specialIn K (.ref (He.ga K q.1)) "__getattribute__") (some (some (.builtin "type.__getattribute__"))) &&
    match PySem.W.findCls K (.ref (He.ga K q.1)) (.type "type") q.2.1 with
    | some (.val u) => He.relB (.int q.2.2) u
    | _ => false)
theorem conB_ok {K : PySem.W.Frag} {q : Str × Str × Int} (h : conB K q = true) : CCon K (He.ga K q.1) q.2.1 q.2.2 := by
  obtain ⟨h1, h2⟩ := He.ba h
  obtain ⟨h3, h4⟩ := He.ba h2
  have h5 : (match PySem.W.findCls K (.ref (He.ga K q.1)) (.type "type") q.2.1 with
    | some (.val u) => He.relB (.int q.2.2) u
    | _ => false) = true := h4
  cases e : PySem.W.findCls K (.ref (He.ga K q.1)) (.type "type") q.2.1 with
  | none =>
    rw [e] at h5
    cases h5
  | some o =>
    rw [e] at h5
    cases o with
    | val u => exact ⟨_, u, ⟨h1, He.eqO_ok h3⟩, ⟨e, He.relB_ok h5⟩⟩
    | _ => cases h5
def exB (l : List (Str × Str × Int)) (K : PySem.W.Frag) : Bool := l.all fun q => conB K q
theorem exB_ok {l : List (Str × Str × Int)} {K : PySem.W.Frag} (h : exB l K = true) (i : Nat) {q : Str × Str × Int} (e : l[i]? = some q) : CCon K (He.ga K q.1) q.2.1 q.2.2 := conB_ok (List.all_eq_true.mp h q (List.mem_of_getElem? e))
abbrev AlX : Type := Bool × He.AlD
def asX (g : Addr → Option Obj) : Nat → List Addr
  | 0 => [mainGlobals, cStatics]
  | n + 1 => He.growD g (asX g n)
def obsK (fa : List He.Fa) (fn : List He.DefD) (l : List (Str × Str × Int)) (K : PySem.W.Frag) : AlX := (exB l K, He.obsD fa fn K)
def obsX (n : Nat) (fa : List He.Fa) (fn : List He.DefD) (l : List (Str × Str × Int)) (g : Addr → Option Obj) : AlX := obsK fa fn l (He.frG g (asX g n))
def hookX (n : Nat) (fa : List He.Fa) (fn : List He.DefD) (l : List (Str × Str × Int)) : PySem.W.Hook where
  α := AlX
  obs := fun s => obsX n fa fn l s.heap.get?
  val := fun _ => (true, He.valD fn)
  says := fun _ h => ∃ K : PySem.W.Frag, K.In h ∧ He.SaysD fa fn K ∧ exB l K = true
  of := fun _ _ e => ⟨_, He.frG_in, congrArg (fun z : AlX => z.2) e, congrArg (fun z : AlX => z.1) e⟩
  keeps := fun _ _ _ ⟨K, hK, c, d⟩ k => ⟨K, PySem.W.Frag.In.keeps hK k, c, d⟩
theorem obsX_eq {n : Nat} {fa : List He.Fa} {fn : List He.DefD} {l : List (Str × Str × Int)} {g : Addr → Option Obj} {s : Shared} (h : ∀ a, g a = s.heap.get? a) : obsX n fa fn l g = (hookX n fa fn l).obs s := by
  have e : g = s.heap.get? := funext h
  rw [e] <;> rfl
theorem int_okV {K : PySem.W.Frag} {h : Heap} {mg : Str → Option Value} (X : K.In h) (G : h.Ns mainGlobals mg) {x : Str} {i : Int} (c : (He.Fa.int x i).ok K = true) : ∃ u, mg x = some u ∧ RelV (.int i) u := by
  obtain ⟨t, e⟩ := He.int_ok X G c
  exact ⟨_, e, t, rfl⟩
theorem def_at {K : PySem.W.Frag} {mg : Str → Option Value} {x : Str} {st : Stmt} {f : Addr} (h : ∃ fd, FunD K x x (defArgs st) (defBody st) (defScope st) [] [] f fd) (e : mg x = some (.ref f)) : DefAt K mg x st := by
  obtain ⟨fd, F⟩ := h
  exact ⟨f, fd, F, e⟩
theorem mdef_at {K : PySem.W.Frag} {C : Addr} {m qual : Str} {st : Stmt} {f : Addr} (h : ∃ fd, FunD K m qual (defArgs st) (defBody st) (defScope st) [] [] f fd) (c : Cls K C) (e : Meth K C m f) : MDefAt K C m qual st := by
  obtain ⟨fd, F⟩ := h
  exact ⟨f, fd, F, c, e⟩
theorem idef_at {K : PySem.W.Frag} {mg : Str → Option Value} {x qual : Str} {C : Addr} {st : Stmt} {nd : Nat} {f : Addr} {dvs : List V} (h : ∃ fd, FunD K "__init__" qual (defArgs st) (defBody st) (defScope st) dvs [] f fd) (l : dvs.length = nd) (m : Mk K C f) (e : mg x = some (.ref C)) : IDefAt K mg x C qual st nd := by
  obtain ⟨fd, F⟩ := h
  exact ⟨f, fd, dvs, l, F, m, e⟩
theorem glo_okR {K : PySem.W.Frag} {h : Heap} {mg : Str → Option Value} (X : K.In h) (G : h.Ns mainGlobals mg) {x : Str} (c : (He.Fa.glo x).ok K = true) : ∃ u, mg x = some u ∧ RelV (.ref (He.ga K x)) u := ⟨_, He.glo_ok X G c, rfl⟩
end HF

set_option Elab.async false
set_option linter.all false
set_option maxRecDepth 100000
set_option maxHeartbeats 2000000
/-! Mini16: keyword-only parameters; loops over what a step by step expression gives; is of bools; what is there in spite of None. -/
namespace HF
open PySem PySem.Spec L2
open PyProof.Rows hiding St
/-- a def whose keyword-only parameters have the defaults kws -/
structure KDefAt (K : PySem.W.Frag) (mg : Str → Option Value) (x : Str) (st : Stmt) (kws : List (Str × V)) : Prop where
  ex : ∃ (f : Addr) (fd : FuncData), FunD K x x (defArgs st) (defBody st) (defScope st) [] kws f fd ∧ mg x = some (.ref f)
theorem kdef_at {K : PySem.W.Frag} {mg : Str → Option Value} {x : Str} {st : Stmt} {f : Addr} {kws : List (Str × V)} (h : ∃ fd, FunD K x x (defArgs st) (defBody st) (defScope st) [] kws f fd) (e : mg x = some (.ref f)) : KDefAt K mg x st kws := by
  obtain ⟨fd, F⟩ := h
  exact ⟨f, fd, F, e⟩
/-- it may be called by its name: n written values, then all keywords or none -/
structure KCal (CX : CXT) (P : Program) (w : World) (K : PySem.W.Frag) (mg : Str → Option Value) (base : Heap) (k : Nat) (x : Str) (sp : Sp) (n : Nat) (kws : List (Str × V)) : Prop where
  ex : ∃ (f : Addr) (fd : FuncData) (ps : List Str), FnOk P w K mg base CX k f fd ps sp ∧ mg x = some (.ref f) ∧ PySem.W.keepIn K (.ref f) = true ∧
    (∃ ds, Vals (kws.map (·.2)) ds ∧ Binds K fd ps ds) ∧ ∃ g : List Value → List Value → List Value, KBn K fd ps n (kws.map (·.1)) g fun vs zs => vs ++ zs
section
variable {CX : CXT} {P : Program} {w : World} {K : PySem.W.Frag} {mg : Str → Option Value} {base : Heap}
theorem kcal_mk {x : Str} {st : Stmt} {N ps : List Str} {k n : Nat} {sp : Sp} {kws : List (Str × V)} (D : KDefAt K mg x st kws) (S : FnScope N ps (defScope st)) (len : ∀ vs H Q E, sp vs H Q E → vs.length = ps.length) (hk : kws ≠ []) (hn : n + kws.length = ps.length)
    (hb : ∀ (D : Addr) (doc pm : Value) (an : Option Addr) (cdv ct : Value) (us ks : List Value), us.length = n → ks.length = kws.length →
      KwChain D ((kws.map (·.1)).zip ks) (bindArgs (PySem.W.fnOf x x (defArgs st) (defBody st) (defScope st) .none (.ref D) doc pm an cdv ct) ⟨us, []⟩) (ps.zip (us ++ ks)))
    (hb2 : ∀ (D : Addr) (doc pm : Value) (an : Option Addr) (cdv ct : Value) (us ws : List Value), us.length = n → ws.length = kws.length →
      bindArgs (PySem.W.fnOf x x (defArgs st) (defBody st) (defScope st) .none (.ref D) doc pm an cdv ct) ⟨us, (kws.map (·.1)).zip ws⟩ = pure (ps.zip (us ++ ws)))
    (hbody : ∀ (f : Addr) (cdv : Value) (A : Around) (outer : List Env) (s : Shared) (H : Hp) (vs : List V) (Q : VK) (E : XK), Room k (A.deeper (envOfC x (defScope st) s.heap.objs.size f cdv)) → sp vs H Q E →
      ∃ t, PSs (cxOf CX P w K mg base N x (defScope st) f cdv A outer s H E) (defBody st) t ∧ t { nx := fun _ H' => Q .non H', rt := Q } (start N vs) H) : KCal CX P w K mg base (k + 1) x sp n kws := by
  obtain ⟨f, fd, F, hm⟩ := D.ex
  refine ⟨f, fd, ps, F.ok S len (fun cdv A outer s H vs Q E hr h => hbody f cdv A outer s H vs Q E hr h), hm, F.kp, F.binds0 n hk hn hb, ?_⟩
  obtain ⟨mv, h⟩ := F.kbinds0 n (kws.map (·.1)) [] (fun us _ ws => us ++ ws) hk (fun q m => by cases m) (fun r1 _ r3 => r1.append r3) fun D doc pm an cdv ct us mv ws l1 _ l3 => by
    have := hb2 D doc pm an cdv ct us ws l1 (by simpa using l3)
    exact this
  exact ⟨_, h⟩
end
section
variable {X : Cx} {CX : CXT} {k j n : Nat} {x : Str} {sp : Sp} {p pos : Pos} {e : Expr} {es : List Expr} {t tk : TA} {E : XK} {kws : List (Str × V)} {kw : List Keyword}
theorem pe_kcal0 (c : KCal CX X.prog X.w X.K X.mg X.base k x sp n kws) (hr : Room j X.A) (hk : k ≤ j) (hg : Gl X x) (hx : Passes CX X E) (ha : PA X (e :: es) t)
    (hdb : (x == ("__debug__" : Str)) = false := by decide) (he : starEach (e :: es) X.env = (false, eval e X.env) :: starEach es X.env := by rfl) (hpl : (backTo pos (starEach es X.env)).any (·.1) = false := by rfl) :
    PE X (.Call (.Name x p) (e :: es) [] pos) (tCall sp (kws.map (·.2)) E t) := by
  obtain ⟨f, fd, ps, F, hm, kp, ⟨ds, hd, b⟩, _⟩ := c.ex
  exact pe_call F (hr.mono hk) hg hm kp b hd hx ha hdb he hpl
theorem pe_kcal (c : KCal CX X.prog X.w X.K X.mg X.base k x sp n kws) (hr : Room j X.A) (hk : k ≤ j) (hg : Gl X x) (hx : Passes CX X E) (ha : PA X (e :: es) t) (hkw : PK X kw tk)
    (hall : (backToKw pos (keywordEach kw X.env)).all (·.1.isSome) = true := by rfl) (hks : (backToKw pos (keywordEach kw X.env)).filterMap (·.1) = kws.map (·.1) := by rfl)
    (hdb : (x == ("__debug__" : Str)) = false := by decide) (he : starEach (e :: es) X.env = (false, eval e X.env) :: starEach es X.env := by rfl)
    (hpl : ((backTo pos (starEach (e :: es) X.env)).any (·.1) || (backToKw pos (keywordEach kw X.env)).any (·.1.isNone)) = false := by rfl) :
    PE X (.Call (.Name x p) (e :: es) kw pos) (tCallN n kws.length sp (fun vs zs => vs ++ zs) E t tk) := by
  obtain ⟨f, fd, ps, F, hm, kp, _, g, b⟩ := c.ex
  have := pe_callN (p := p) F (hr.mono hk) hg hm kp b hx ha hkw hall hks hdb he hpl
  rw [List.length_map] at this
  exact this
end
section
variable {α β γ ρ δ : Type} {G : List Fact} {O O0 F : Ow} {σ : St} {T : Ty α} {U : Ty β} {W' : Ty γ} {K : PySem.W.Frag} {S H : Hp} {D : Ends} {out : ρ} {u : TS} {Q : VK}
/-- values behind others -/
def TyA.app {α β : Type} (A : TyA α) (B : TyA β) : TyA (α × β) := ⟨fun a vs S => ∃ us ws, vs = us ++ ws ∧ A.rep a.1 us S ∧ B.rep a.2 ws S, fun h ⟨us, ws, e, r, q⟩ => ⟨us, ws, e, A.mono h r, B.mono h q⟩⟩
/-- f(..) with its defaults -/
theorem sim_callD {A : TyA α} {A' : TyA β} {ext : α → β} {f : β → Option γ} {ta : TA} {ma : Option α} {E : XK} {dvs : List V} (hx : ∀ a vs S, A.rep a vs S → A'.rep (ext a) (vs ++ dvs) S) (h : SimA G O ta σ ma A) : Sim G O (tCall (spP A' f W') dvs E ta) σ (ma.bind fun a => f (ext a)) W' := fun S H F r hG w hm Q k => by
  obtain ⟨a, h1, hm⟩ := bind_some hm
  refine h S H F a hG w h1 _ fun vs S1 H1 s1 w1 q1 => ?_
  exact ⟨S1, O ++ F, ext a, r, hx _ _ _ q1, w1, hm, fun v S2 H2 s2 w2 q2 => k v S2 H2 (s1.trans s2) w2 q2⟩
theorem simF_callD {A : TyA α} {A' : TyA β} {ext : α → β} {f : β → Option γ} {OT : OTy γ} {ta : TA} {ma : Option α} {E : XK} {dvs : List V} (hx : ∀ a vs S, A.rep a vs S → A'.rep (ext a) (vs ++ dvs) S) (h : SimA G O ta σ ma A) : SimF G O (tCall (spF A' f OT) dvs E ta) σ (ma.bind fun a => f (ext a)) OT := fun S H F r hG w hm Q k => by
  obtain ⟨a, h1, hm⟩ := bind_some hm
  refine h S H F a hG w h1 _ fun vs S1 H1 s1 w1 q1 => ?_
  exact ⟨S1, O ++ F, ext a, r, hx _ _ _ q1, w1, hm, fun p c S2 H2 s2 w2 q2 => k p c S2 H2 (s1.trans s2) w2 q2⟩
/-- f(.., k = v) -/
theorem sim_callK {A : TyA α} {B : TyA δ} {A' : TyA β} {ext : α → δ → β} {f : β → Option γ} {ta tk : TA} {ma : Option α} {mb : Option δ} {E : XK} {n m : Nat} (hn : ∀ a vs S, A.rep a vs S → vs.length = n) (hm' : ∀ a vs S, B.rep a vs S → vs.length = m) (hx : ∀ a b vs zs S, A.rep a vs S → B.rep b zs S → A'.rep (ext a b) (vs ++ zs) S)
    (h : SimA G O ta σ ma A) (hb : SimA G O tk σ mb B) : Sim G O (tCallN n m (spP A' f W') (fun vs zs => vs ++ zs) E ta tk) σ (ma.bind fun a => mb.bind fun b => f (ext a b)) W' := fun S H F r hG w hm Q k => by
  obtain ⟨a, h1, hm⟩ := bind_some hm
  obtain ⟨b, h2, hm⟩ := bind_some hm
  refine h S H F a hG w h1 _ fun vs S1 H1 s1 w1 q1 => ?_
  refine hb S1 H1 F b (hG.mono s1) w1 h2 _ fun zs S2 H2 s2 w2 q2 => ?_
  exact ⟨hn _ _ _ q1, hm' _ _ _ q2, S2, O ++ F, ext a b, r, hx _ _ _ _ _ (A.mono s2 q1) q2, w2, hm, fun v S3 H3 s3 w3 q3 => k v S3 H3 ((s1.trans s2).trans s3) w3 q3⟩
theorem simF_callK {A : TyA α} {B : TyA δ} {A' : TyA β} {ext : α → δ → β} {f : β → Option γ} {OT : OTy γ} {ta tk : TA} {ma : Option α} {mb : Option δ} {E : XK} {n m : Nat} (hn : ∀ a vs S, A.rep a vs S → vs.length = n) (hm' : ∀ a vs S, B.rep a vs S → vs.length = m) (hx : ∀ a b vs zs S, A.rep a vs S → B.rep b zs S → A'.rep (ext a b) (vs ++ zs) S)
    (h : SimA G O ta σ ma A) (hb : SimA G O tk σ mb B) : SimF G O (tCallN n m (spF A' f OT) (fun vs zs => vs ++ zs) E ta tk) σ (ma.bind fun a => mb.bind fun b => f (ext a b)) OT := fun S H F r hG w hm Q k => by
  obtain ⟨a, h1, hm⟩ := bind_some hm
  obtain ⟨b, h2, hm⟩ := bind_some hm
  refine h S H F a hG w h1 _ fun vs S1 H1 s1 w1 q1 => ?_
  refine hb S1 H1 F b (hG.mono s1) w1 h2 _ fun zs S2 H2 s2 w2 q2 => ?_
  exact ⟨hn _ _ _ q1, hm' _ _ _ q2, S2, O ++ F, ext a b, r, hx _ _ _ _ _ (A.mono s2 q1) q2, w2, hm, fun p c S3 H3 s3 w3 q3 => k p c S3 H3 ((s1.trans s2).trans s3) w3 q3⟩
/-! the values are put together -/
theorem ln_one {a : α} {vs : List V} {S : Hp} (h : (TyA.one T).rep a vs S) : vs.length = 1 := by obtain ⟨v, rfl, _⟩ := h; rfl
theorem ln_c {A : TyA β} {n : Nat} {a : α × β} {vs : List V} {S : Hp} (h : (TyA.c T A).rep a vs S) (ih : ∀ a vs S, A.rep a vs S → vs.length = n) : vs.length = n + 1 := by obtain ⟨v, ws, rfl, _, r⟩ := h; rw [List.length_cons, ih _ _ _ r]
theorem ap_one {B : TyA β} {a : α} {b : β} {vs zs : List V} {S : Hp} (h : (TyA.one T).rep a vs S) (r : B.rep b zs S) : (TyA.c T B).rep (a, b) (vs ++ zs) S := by obtain ⟨v, rfl, q⟩ := h; exact ⟨v, zs, rfl, q, r⟩
theorem ap_c {A : TyA β} {B : TyA γ} {a : α × β} {c : γ} {vs zs : List V} {S : Hp} (h : (TyA.c T A).rep a vs S) (ih : ∀ ws, A.rep a.2 ws S → B.rep c (ws ++ zs) S) : (TyA.c T B).rep (a.1, c) (vs ++ zs) S := by obtain ⟨v, ws, rfl, q, r⟩ := h; exact ⟨v, ws ++ zs, rfl, q, ih _ r⟩
/-! None cannot be there -/
theorem sim_unO {t : TE} {m : Option (Option α)} (h : Sim G O t σ m (tO T)) : Sim G O t σ (m.bind fun a => a) T := fun S H F r hG w hm Q k => by
  obtain ⟨a, h1, hm⟩ := bind_some hm
  exact h S H F a hG w h1 Q fun v S1 H1 s1 w1 q1 => k v S1 H1 s1 w1 (by subst hm; exact q1.1)
/-! is, is not of bools -/
theorem sim_isB {ta tb : TE} {ma mb : Option Bool} (ha : Sim G O ta σ ma tBool) (hb : Sim G O tb σ mb tBool) : Sim G O (tOp rIsB ta tb) σ (ma.bind fun a => mb.bind fun b => some (decide (a = b))) tBool :=
  sim_op2 (fun a b c x y S H F e1 e2 W e Q k => by
    cases e1
    cases e2
    cases e
    exact ⟨a, b, rfl, rfl, k _ S H (Same.refl _) W rfl⟩) ha hb
theorem sim_notB {ta tb : TE} {ma mb : Option Bool} (ha : Sim G O ta σ ma tBool) (hb : Sim G O tb σ mb tBool) : Sim G O (tOp rNotB ta tb) σ (ma.bind fun a => mb.bind fun b => some (!decide (a = b))) tBool :=
  sim_op2 (fun a b c x y S H F e1 e2 W e Q k => by
    cases e1
    cases e2
    cases e
    exact ⟨a, b, rfl, rfl, k _ S H (Same.refl _) W rfl⟩) ha hb
/-! a list written down, step by step -/
def LK (Q : VK) (xs : List V) (H : Hp) : Prop := xs.length ≤ sizeLine ∧ ∀ p, H p = none → Q (.ref p) (upd H p (.lst xs))
theorem e_lstK {t : TA} (h : t σ H (LK Q)) : tLst t σ H Q := h
theorem v_lst {xs : List α} {vs : List V} {k : List α → Option ρ} (hG : Okc G S) (W : Wd S (O ++ F) H) (hm : (some xs).bind k = some out) (ra : ∀ S, Okc G S → Rl T S xs vs) (hl : vs.length ≤ 16777216)
    (next : ∀ p c S H, Okc ((oL T).f xs p c :: G) S → Wd S ((c :: O) ++ F) H → k xs = some out → Q (.ref p) H) : LK Q vs H :=
  ⟨hl, fun p hp => next p _ S _ ⟨⟨vs, rfl, ra S hG⟩, hG⟩ (W.newO hp) hm⟩
/-! loops over what comes step by step -/
theorem e_forL {te : TE} {g : TG} {tb : TS} (h : te σ H fun v H1 => tSeq (tFor (iList K (tC v)) g tb) u D σ H1) : tSeq (tFor (iList K te) g tb) u D σ H := h
theorem e_forR {te : TE} {g : TG} {tb : TS} (h : te σ H fun v H1 => tSeq (tFor (iRng1 (tCons (tC v) tNil)) g tb) u D σ H1) : tSeq (tFor (iRng1 (tCons te tNil)) g tb) u D σ H := h
end
end HF

set_option Elab.async false
set_option linter.all false
set_option maxRecDepth 100000
set_option maxHeartbeats 2000000
/-! Mini17: zip of a tuple and a list. -/
namespace HF
open PySem PySem.Spec PyProof.Rows L2
/-! ### an iterator over a list or a tuple -/
def Nx : Bool → Heap → Addr → Addr → Nat → Array Value → Prop
  | false, h, i, l, k, xs => h.IsTupleIter i l k ∧ h.IsTuple l xs
  | true, h, i, l, k, xs => h.IsListIter i l k ∧ h.IsList l xs
theorem Nx.ext {f : Bool} {h h' : Heap} {i l b : Addr} {k : Nat} {xs : Array Value} (n : Nx f h i l k xs) (e : Heap.ExtBut b h h') (n1 : i ≠ b) (n2 : l ≠ b) : Nx f h' i l k xs := by
  cases f
  · exact ⟨n.1.extBut e n1, n.2.extBut e n2⟩
  · exact ⟨n.1.extBut e n1, n.2.extBut e n2⟩
theorem Nx.kp {f : Bool} {h h' : Heap} {i l : Addr} {k : Nat} {xs : Array Value} (n : Nx f h i l k xs) (e1 : ∀ o, h.get? i = some o → h'.get? i = some o) (e2 : ∀ o, h.get? l = some o → h'.get? l = some o) : Nx f h' i l k xs := by
  cases f
  · obtain ⟨x, ⟨o, ho, r⟩⟩ := n
    exact ⟨x.at e1, ⟨o, e2 o ho, r⟩⟩
  · obtain ⟨x, ⟨o, ho, r⟩⟩ := n
    exact ⟨x.at e1, ⟨o, e2 o ho, r⟩⟩
section
variable {prog : Program} {w : World} {A : Around} {E : Value → Shared → Prop} {s : Shared}
theorem nx_item {f : Bool} {i l : Addr} {k : Nat} {xs : Array Value} {x : Value} {Q : Value → Shared → Prop} (n : Nx f s.heap i l k xs) (hil : l ≠ i) (hx : xs[k]? = some x)
    (q : ∀ h', Nx f h' i l (k + 1) xs → Heap.SameBut i s.heap h' → Q x { s with heap := h' }) : wpAny (model prog w) A (Builtin.SmallTypes.nextOf (.ref i)) Q E s := by
  cases f
  · exact RZ.nextOf_tuple_item n.1 n.2 hx fun h' i' e => q h' ⟨i', n.2.extBut e.extBut hil⟩ e
  · exact wpAny_nextOf_list_item n.1 n.2 hx fun h' i' e => q h' ⟨i', n.2.extBut e.extBut hil⟩ e
theorem nx_end {f : Bool} {i l : Addr} {k : Nat} {xs : Array Value} {Q : Value → Shared → Prop} (hh : A.handled = none) (n : Nx f s.heap i l k xs) (hx : xs[k]? = none)
    (q : ∀ h' e, Heap.ExtBut i s.heap h' → (∃ o, h'.get? e = some o ∧ o.cls = .type "StopIteration") → E (.ref e) { s with heap := h' }) : wpAny (model prog w) A (Builtin.SmallTypes.nextOf (.ref i)) Q E s := by
  cases f
  · exact RZ.nextOf_tuple_end hh n.1 n.2 hx q
  · exact wpAny_nextOf_list_end hh n.1 n.2 hx q
/-- the five objects of a zip whose two iterators are such -/
structure Zp (f g : Bool) (h : Heap) (z pI pO i j l m : Addr) (k : Nat) (xs ys : Array Value) : Prop where
  zip : IsZip h z pI pO .none
  ins : IsPair h pI (.ref i) (.ref j)
  out : ∃ a b, IsPair h pO a b
  one : Nx f h i l k xs
  two : Nx g h j m k ys
theorem zp_item {f g : Bool} {z pI pO i j l m : Addr} {k : Nat} {xs ys : Array Value} {x y : Value} {Q : Value → Shared → Prop} (D : ZipApart z pI pO i j l m) (Z : Zp f g s.heap z pI pO i j l m k xs ys) (hx : xs[k]? = some x) (hy : ys[k]? = some y)
    (hQ : ∀ h', IsZip h' z pI pO (rawInt s.heap.objs.size) → IsPair h' pO x y → Nx f h' i l (k + 1) xs → Nx g h' j m (k + 1) ys → IsPair h' s.heap.objs.size x y → h'.objs.size = s.heap.objs.size + 1 →
      (∀ c o, c ≠ z → c ≠ pO → c ≠ i → c ≠ j → s.heap.get? c = some o → h'.get? c = some o) → Q (.ref s.heap.objs.size) { s with heap := h' }) :
    wpAny (model prog w) A (Builtin.«zip.__next__» ⟨[.ref z], []⟩) (fun fin s' => ∃ v, fin = .done (.ret v) ∧ Q v s') E s := by
  obtain ⟨Zz, Zi, ⟨a, b, Zo⟩, N1, N2⟩ := Z
  show wpAny _ _ (field (.ref z) 2 >>= _) _ _ s
  refine wpAny_bind (wpAny_field Zz rfl (x := .bool false) rfl (show wpAny _ _ (field (.ref z) 3 >>= _) _ _ s from wpAny_bind (wpAny_field Zz rfl (x := .ref pI) rfl (wpAny_bind (wpAny_seqItems Zi rfl ?_)))))
  show wpAny _ _ (Builtin.SmallTypes.ownedTupleIsFree (.ref z) >>= _) _ _ s
  refine wpAny_bind (show wpAny _ _ (Builtin.SmallTypes.ownedTupleIsFree (.ref z)) _ _ s from ?_)
  (unfold Builtin.SmallTypes.ownedTupleIsFree; refine wpAny_bind (wpAny_field Zz rfl (x := .none) rfl (wpAny_pure ?_)))
  (simp only [if_true]; refine wpAny_bind (wpAny_rule (wpAny_bind (wpAny_field Zz rfl (x := .ref pO) rfl (wpAny_bind (wpAny_setField_rec Zz (by simp) fun g1 y1 e1 => ?_))))))
  replace y1 : IsZip g1 z pI pO .ellipsis := y1
  (refine wpAny_bind ?_; simp only [List.zipIdx_cons, List.zipIdx_nil, List.forIn_cons, List.forIn_nil]; refine wpAny_bind (wpAny_bind (wpAny_onRaise ?_)))
  show wpAny _ _ (Builtin.SmallTypes.nextOf (.ref i) >>= _) _ _ _
  refine wpAny_bind (nx_item (N1.ext e1.extBut D.i1z D.l1z) D.l1i1 hx fun g2 n1 e2 => wpAny_pure ?_)
  have o2 : IsPair g2 pO a b := e2.extBut _ _ D.TOi1 (e1.extBut _ _ D.TOz Zo)
  refine wpAny_bind (wpAny_seqItems o2 rfl (wpAny_bind (wpAny_updateSeq_pair o2 fun g3 o3 e3 => ?_)))
  replace o3 : IsPair g3 pO x b := o3
  refine wpAny_bind (wpAny_letGo (wpAny_pure (wpAny_bind (wpAny_bind (wpAny_onRaise ?_)))))
  show wpAny _ _ (Builtin.SmallTypes.nextOf (.ref j) >>= _) _ _ _
  refine wpAny_bind (nx_item (((N2.ext e1.extBut D.i2z D.l2z).ext e2.extBut D.i12.symm D.l2i1).ext e3.extBut D.TOi2.symm D.l2TO) D.l2i2 hy fun g4 n2 e4 => wpAny_pure ?_)
  have o4 : IsPair g4 pO x b := e4.extBut _ _ D.TOi2 o3
  refine wpAny_bind (wpAny_seqItems o4 rfl (wpAny_bind (wpAny_updateSeq_pair o4 fun g5 o5 e5 => ?_)))
  replace o5 : IsPair g5 pO x y := o5
  refine wpAny_bind (wpAny_letGo (wpAny_pure (wpAny_pure (wpAny_bind (wpAny_seqItems o5 rfl (wpAny_bind (wpAny_newTuple ?_)))))))
  have sz : g5.objs.size = s.heap.objs.size := by rw [e5.1, e4.1, e3.1, e2.1, e1.1]
  have y5 : IsZip g5 z pI pO .ellipsis := e5.extBut _ _ D.TOz.symm (e4.extBut _ _ D.i2z.symm (e3.extBut _ _ D.TOz.symm (e2.extBut _ _ D.i1z.symm y1)))
  have k5 : ∀ c o, c ≠ z → c ≠ pO → c ≠ i → c ≠ j → s.heap.get? c = some o → g5.get? c = some o := fun c o a1 a2 a3 a4 q => e5.extBut _ _ a2 (e4.extBut _ _ a4 (e3.extBut _ _ a2 (e2.extBut _ _ a3 (e1.extBut _ _ a1 q))))
  have n15 : Nx f g5 i l (k + 1) xs := ((n1.ext e3.extBut D.TOi1.symm D.l1TO).ext e4.extBut D.i12 D.l1i2).ext e5.extBut D.TOi1.symm D.l1TO
  have n25 : Nx g g5 j m (k + 1) ys := n2.ext e5.extBut D.TOi2.symm D.l2TO
  have zlt : z < g5.objs.size := Heap.lt_size y5
  show wpAny _ _ (Builtin.SmallTypes.ownedTupleHandOut (.ref z) (.ref g5.objs.size) >>= _) _ _ _
  (refine wpAny_bind ?_; unfold Builtin.SmallTypes.ownedTupleHandOut)
  have y6 : IsZip (g5.push { cls := .type "tuple", data := .seq #[x, y] }) z pI pO .ellipsis := Heap.get?_push_of_some _ y5
  refine wpAny_bind (wpAny_setField_rec y6 (by simp) fun g7 y7 e7 => ?_)
  replace y7 : IsZip g7 z pI pO (rawInt g5.objs.size) := y7
  refine wpAny_setField_rec y7 (by simp) fun g8 y8 e8 => ?_
  replace y8 : IsZip g8 z pI pO (rawInt g5.objs.size) := y8
  have lift : ∀ c o, c ≠ z → g5.get? c = some o → g8.get? c = some o := fun c o a1 q => e8.extBut _ _ a1 (e7.extBut _ _ a1 (Heap.get?_push_of_some _ q))
  have t8 : IsPair g8 g5.objs.size x y := e8.extBut _ _ (Nat.ne_of_gt zlt) (e7.extBut _ _ (Nat.ne_of_gt zlt) (Heap.get?_push_size _ rfl))
  have s8 : g8.objs.size = g5.objs.size + 1 := by rw [e8.1, e7.1, Heap.size_push]
  rw [sz] at y8 t8 s8
  refine wpAny_pure ⟨_, rfl, show Q (.ref g5.objs.size) _ from ?_⟩
  rw [sz]
  exact hQ g8 y8 (lift _ _ D.TOz o5) (n15.kp (fun o q => lift _ o D.i1z q) fun o q => lift _ o D.l1z q) (n25.kp (fun o q => lift _ o D.i2z q) fun o q => lift _ o D.l2z q) t8 s8 fun c o a1 a2 a3 a4 q => lift c o a1 (k5 c o a1 a2 a3 a4 q)
theorem zp_end {f g : Bool} {z pI pO i j l m : Addr} {k : Nat} {xs ys : Array Value} {Q : Fin → Shared → Prop} (hh : A.handled = none) (D : ZipApart z pI pO i j l m) (Z : Zp f g s.heap z pI pO i j l m k xs ys) (hend : xs[k]? = none ∨ ys[k]? = none)
    (hE : ∀ h' e, (∀ c o, c ≠ z → c ≠ pO → c ≠ i → c ≠ j → s.heap.get? c = some o → h'.get? c = some o) → (∃ o, h'.get? e = some o ∧ o.cls = .type "StopIteration") → E (.ref e) { s with heap := h' }) :
    wpAny (model prog w) A (Builtin.«zip.__next__» ⟨[.ref z], []⟩) Q E s := by
  obtain ⟨Zz, Zi, ⟨a, b, Zo⟩, N1, N2⟩ := Z
  show wpAny _ _ (field (.ref z) 2 >>= _) _ _ s
  refine wpAny_bind (wpAny_field Zz rfl (x := .bool false) rfl (show wpAny _ _ (field (.ref z) 3 >>= _) _ _ s from wpAny_bind (wpAny_field Zz rfl (x := .ref pI) rfl (wpAny_bind (wpAny_seqItems Zi rfl ?_)))))
  show wpAny _ _ (Builtin.SmallTypes.ownedTupleIsFree (.ref z) >>= _) _ _ s
  refine wpAny_bind (show wpAny _ _ (Builtin.SmallTypes.ownedTupleIsFree (.ref z)) _ _ s from ?_)
  (unfold Builtin.SmallTypes.ownedTupleIsFree; refine wpAny_bind (wpAny_field Zz rfl (x := .none) rfl (wpAny_pure ?_)))
  (simp only [if_true]; refine wpAny_bind (wpAny_rule (wpAny_bind (wpAny_field Zz rfl (x := .ref pO) rfl (wpAny_bind (wpAny_setField_rec Zz (by simp) fun g1 y1 e1 => ?_))))))
  replace y1 : IsZip g1 z pI pO .ellipsis := y1
  (refine wpAny_bind ?_; simp only [List.zipIdx_cons, List.zipIdx_nil, List.forIn_cons, List.forIn_nil]; refine wpAny_bind (wpAny_bind (wpAny_onRaise ?_)))
  show wpAny _ _ (Builtin.SmallTypes.nextOf (.ref i) >>= _) _ _ _
  have M1 := N1.ext e1.extBut D.i1z D.l1z
  cases hx : xs[k]? with
  | none =>
    refine wpAny_bind (nx_end hh M1 hx fun g2 e x2 ⟨oe, hoe, hce⟩ => ?_)
    have y2 : IsZip g2 z pI pO .ellipsis := x2 _ _ D.i1z.symm y1
    have ne : e ≠ z := fun q => by
      rw [q, y2] at hoe
      cases hoe
      simp at hce
    exact wpAny_setField_rec y2 (by simp) fun g3 _ e3 => hE g3 e (fun c o a1 _ a3 _ q => e3.extBut _ _ a1 (x2 _ _ a3 (e1.extBut _ _ a1 q))) ⟨oe, e3.extBut _ _ ne hoe, hce⟩
  | some x =>
    have hy : ys[k]? = none := by
      rcases hend with q | q
      · rw [hx] at q
        cases q
      · exact q
    refine wpAny_bind (nx_item M1 D.l1i1 hx fun g2 n1 e2 => wpAny_pure ?_)
    have o2 : IsPair g2 pO a b := e2.extBut _ _ D.TOi1 (e1.extBut _ _ D.TOz Zo)
    refine wpAny_bind (wpAny_seqItems o2 rfl (wpAny_bind (wpAny_updateSeq_pair o2 fun g3 o3 e3 => wpAny_bind (wpAny_letGo (wpAny_pure (wpAny_bind (wpAny_bind (wpAny_onRaise ?_))))))))
    show wpAny _ _ (Builtin.SmallTypes.nextOf (.ref j) >>= _) _ _ _
    refine wpAny_bind (nx_end hh (((N2.ext e1.extBut D.i2z D.l2z).ext e2.extBut D.i12.symm D.l2i1).ext e3.extBut D.TOi2.symm D.l2TO) hy fun g4 e x4 ⟨oe, hoe, hce⟩ => ?_)
    have y4 : IsZip g4 z pI pO .ellipsis := x4 _ _ D.i2z.symm (e3.extBut _ _ D.TOz.symm (e2.extBut _ _ D.i1z.symm y1))
    have ne : e ≠ z := fun q => by
      rw [q, y4] at hoe
      cases hoe
      simp at hce
    exact wpAny_setField_rec y4 (by simp) fun g5 _ e5 => hE g5 e (fun c o a1 a2 a3 a4 q => e5.extBut _ _ a1 (x4 _ _ a4 (e3.extBut _ _ a2 (e2.extBut _ _ a3 (e1.extBut _ _ a1 q))))) ⟨oe, e5.extBut _ _ ne hoe, hce⟩
theorem py_zp_item {f g : Bool} {z pI pO i j l m : Addr} {k : Nat} {xs ys : Array Value} {x y : Value} {Q : Option Value → Shared → Prop} (D : ZipApart z pI pO i j l m) (Z : Zp f g s.heap z pI pO i j l m k xs ys) (hx : xs[k]? = some x) (hy : ys[k]? = some y)
    (hQ : ∀ h', IsZip h' z pI pO (rawInt s.heap.objs.size) → IsPair h' pO x y → Nx f h' i l (k + 1) xs → Nx g h' j m (k + 1) ys → IsPair h' s.heap.objs.size x y → h'.objs.size = s.heap.objs.size + 1 →
      (∀ c o, c ≠ z → c ≠ pO → c ≠ i → c ≠ j → s.heap.get? c = some o → h'.get? c = some o) → Q (some (.ref s.heap.objs.size)) { s with heap := h' }) : wpAny (model prog w) A (pyNext (.ref z)) Q E s := by
  have T : s.TypeIs (.ref z) "zip" := ⟨_, Z.zip, rfl⟩
  unfold pyNext
  exact wpAny_bind (wpAny_attempt (wpAny_callSpecial?_slot (name := Str.ofString "__next__") T F.slot_zip_next (wpAny_call_entry F.slot_zip_next T F.entry_zip_next (zp_item D Z hx hy fun h' a1 a2 a3 a4 a5 a6 a7 => wpAny_pure (hQ h' a1 a2 a3 a4 a5 a6 a7)) (F.args_zip_next_1 _))))
theorem py_zp_end {f g : Bool} {z pI pO i j l m : Addr} {k : Nat} {xs ys : Array Value} {Q : Option Value → Shared → Prop} (hh : A.handled = none) (D : ZipApart z pI pO i j l m) (Z : Zp f g s.heap z pI pO i j l m k xs ys) (hend : xs[k]? = none ∨ ys[k]? = none)
    (hQ : ∀ h', (∀ c o, c ≠ z → c ≠ pO → c ≠ i → c ≠ j → s.heap.get? c = some o → h'.get? c = some o) → Q none { s with heap := h' }) : wpAny (model prog w) A (pyNext (.ref z)) Q E s := by
  have T : s.TypeIs (.ref z) "zip" := ⟨_, Z.zip, rfl⟩
  unfold pyNext
  refine wpAny_bind (wpAny_attempt (wpAny_callSpecial?_slot (name := Str.ofString "__next__") T F.slot_zip_next (wpAny_call_entry F.slot_zip_next T F.entry_zip_next (zp_end hh D Z hend fun h' e hk ⟨o, ho, hc⟩ => ?_) (F.args_zip_next_1 _))))
  exact wpAny_bind (wpAny_isInstance (T := "StopIteration") (b := true) ⟨o, ho, hc⟩ isSubtype_stop (wpAny_pure (hQ _ hk)))
end
/-! ### zip of a tuple (at a) and a list (at b) -/
def ItzM (K : PySem.W.Frag) (a b : Addr) : It :=
  ⟨fun i H => ∃ (xs ys : List V) (x y : V), (SqT K H a xs ∧ SqL K H b ys) ∧ xs[i]? = some x ∧ ys[i]? = some y,
    fun i H v H' => ∃ t x y, (v = .ref t ∧ H t = none ∧ H' = upd H t (.tup [x, y])) ∧ (∀ zs, SqT K H a zs → zs[i]? = some x) ∧ ∀ zs, SqL K H b zs → zs[i]? = some y,
    fun i H => ∃ xs ys : List V, (SqT K H a xs ∧ SqL K H b ys) ∧ (xs.length ≤ i ∨ ys.length ≤ i)⟩
theorem five {c z pI pO i j : Addr} (h : c ∈ [z, pI, pO, i, j]) : c = z ∨ c = pI ∨ c = pO ∨ c = i ∨ c = j := by simpa using h
theorem turn_zipM {P : Program} {w : World} {K : PySem.W.Frag} {elts : List Expr} {kk : Nat} {tpos : Pos} {a b z pI pO i j : Addr} (D : ZipApart z pI pO i j a b) :
    Turn P w K (.Tuple elts kk tpos) (ItzM K a b) [z, pI, pO, i, j] z (fun k h => (IsZip h z pI pO .none ∧ IsPair h pI (.ref i) (.ref j)) ∧ (∃ x y, IsPair h pO x y) ∧ h.IsTupleIter i a k ∧ h.IsListIter j b k) where
  mem := List.mem_cons_self ..
  obj := fun k h ⟨⟨hz, hi⟩, ⟨x, y, ho⟩, ⟨o1, e1, _, d1⟩, ⟨o2, e2, _, d2⟩⟩ c hc => by
    rcases five hc with rfl | rfl | rfl | rfl | rfl
    · exact ⟨_, hz, fun v q => nomatch q⟩
    · exact ⟨_, hi, fun v q => nomatch q⟩
    · exact ⟨_, ho, fun v q => nomatch q⟩
    · exact ⟨o1, e1, fun v q => by rw [d1] at q; cases q⟩
    · exact ⟨o2, e2, fun v q => by rw [d2] at q; cases q⟩
  keep := fun k h h' ⟨⟨hz, hi⟩, ⟨x, y, ho⟩, h1, h2⟩ kp => ⟨⟨kp z (by simp) _ hz, kp pI (by simp) _ hi⟩, ⟨x, y, kp pO (by simp) _ ho⟩, h1.at fun o q => kp i (by simp) o q, h2.at fun o q => kp j (by simp) o q⟩
  item := by
    intro X hP hw hK hc k pins s σ H E I hf ⟨⟨hz, hi⟩, ⟨x0, y0, ho⟩, h1, h2⟩ ⟨xs, ys, x, y, ⟨qa, qb⟩, hx, hy⟩
    subst hP hw hK
    obtain ⟨its, rv, p1, _⟩ := I.tuple qa
    obtain ⟨its2, rv2, p2, _⟩ := I.list qb
    obtain ⟨u, hu, ru⟩ := rv.get hx
    obtain ⟨u2, hu2, ru2⟩ := rv2.get hy
    have zl : z < s.heap.objs.size := Heap.lt_size hz
    have Z : Zp false true s.heap z pI pO i j a b k its.toArray its2.toArray := ⟨hz, hi, ⟨_, _, ho⟩, ⟨h1, p1⟩, ⟨h2, p2.isList⟩⟩
    refine py_zp_item D Z (x := u) (y := u2) (by simpa using hu) (by simpa using hu2) fun h' z' o' n1 n2 hT hs hk => ⟨_, rfl, wpAny_letOwnedTupleGo_zip (s := { s with heap := h' }) z' fun h'' z'' sb => ?_⟩
    have hT2 : h''.get? s.heap.objs.size = some { cls := .type "tuple", data := .seq #[u, u2] } := (sb.2 _ (Nat.ne_of_gt zl)).trans hT
    have fresh : ObjOk X.prog X.w (upd H s.heap.objs.size (.tup [x, y])) h'' s.heap.objs.size (.tup [x, y]) := ⟨show 2 ≤ sizeLine by decide, [u, u2], .cons ru (.cons ru2 .nil), ⟨_, hT2, rfl, _, rfl⟩⟩
    have J : Inv X pins σ (upd H s.heap.objs.size (.tup [x, y])) { s with heap := h'' } :=
      I.turnedNew (t' := s.toks) (ch := [z, pI, pO, i, j]) (fun c o hb q => (sb.2 c (fun e => hb (by simp [e]))).trans (hk c o (fun e => hb (by simp [e])) (fun e => hb (by simp [e])) (fun e => hb (by simp [e])) (fun e => hb (by simp [e])) q)) hf (Nat.le_refl _) fresh
    refine ⟨.ref s.heap.objs.size, _, J, rfl, ⟨_, x, y, ⟨rfl, I.hok.fresh (Nat.le_refl _), rfl⟩, fun zs hz => by rw [I.tuple_inj hz qa]; exact hx, fun zs hz => by rw [I.list_inj hz qb]; exact hy⟩, ⟨⟨z'', (sb.2 _ D.TIz).trans (hk _ _ D.TIz D.TITO D.TIi1 D.TIi2 hi)⟩, ⟨u, u2, (sb.2 _ D.TOz).trans o'⟩, n1.1.at fun o q => (sb.2 _ D.i1z).trans q, n2.1.at fun o q => (sb.2 _ D.i2z).trans q⟩, fun c hc => ?_⟩
    have lt : c < s.heap.objs.size := by
      rcases five hc with rfl | rfl | rfl | rfl | rfl
      · exact zl
      · exact Heap.lt_size hi
      · exact Heap.lt_size ho
      · obtain ⟨_, e1, _⟩ := h1
        exact Heap.lt_size e1
      · obtain ⟨_, e1, _⟩ := h2
        exact Heap.lt_size e1
    rw [upd_ne (Nat.ne_of_lt lt)]
    exact (hf c hc).1
  done := by
    intro X hP hw hK hc k pins s σ H E I hf ⟨⟨hz, hi⟩, ⟨x0, y0, ho⟩, h1, h2⟩ ⟨xs, ys, ⟨qa, qb⟩, hend⟩
    subst hP hw hK
    obtain ⟨its, rv, p1, _⟩ := I.tuple qa
    obtain ⟨its2, rv2, p2, _⟩ := I.list qb
    have l1 := rv.length
    have l2 := rv2.length
    have he : its.toArray[k]? = none ∨ its2.toArray[k]? = none := by
      rcases hend with q | q
      · exact .inl (by simp; omega)
      · exact .inr (by simp; omega)
    have Z : Zp false true s.heap z pI pO i j a b k its.toArray its2.toArray := ⟨hz, hi, ⟨_, _, ho⟩, ⟨h1, p1⟩, ⟨h2, p2.isList⟩⟩
    exact py_zp_end (I.ok.hd hc) D Z he fun h' hk => ⟨rfl, I.turnedL (t' := s.toks) (ch := [z, pI, pO, i, j]) (fun c o hb q => hk c o (fun e => hb (by simp [e])) (fun e => hb (by simp [e])) (fun e => hb (by simp [e])) (fun e => hb (by simp [e])) q) hf⟩
  self := fun A k s Q E st h => wpAny_pyIter_zip st.1.1 h
/-! ### it is made -/
abbrev mH1 (h : Heap) (a : Addr) : Heap := h.push { cls := .type "tuple_iterator", data := .fields #[.ref a, .int 0 0] }
abbrev mH2 (h : Heap) (a b : Addr) : Heap := (mH1 h a).push { cls := .type "list_iterator", data := .fields #[.ref b, .int 0 0] }
abbrev mH3 (h : Heap) (a b : Addr) : Heap := (mH2 h a b).push { cls := .type "tuple", data := .seq #[.ref h.objs.size, .ref (mH1 h a).objs.size] }
abbrev mH4 (h : Heap) (a b : Addr) : Heap := (mH3 h a b).push { cls := .type "tuple", data := .seq #[.none, .none] }
abbrev mH5 (h : Heap) (a b : Addr) : Heap := (mH4 h a b).push { cls := .type "zip", data := .fields #[.none, .bool false, .bool false, .ref (mH2 h a b).objs.size, .ref (mH3 h a b).objs.size] }
theorem meets_zipM (a b : Addr) (xs ys : Array Value) : Meets (Builtin.«zip.__new__» ⟨[.type "zip", .ref a, .ref b], []⟩) (fun _ R s => s.heap.IsTuple a xs ∧ s.heap.IsList b ys ∧ R (.ok (.ret (.ref (mH4 s.heap a b).objs.size))) { s with heap := mH5 s.heap a b }) :=
  .of_wp fun prog w A R s ⟨ha, hb, h⟩ => by
    obtain ⟨hp, g, d, tk, os⟩ := s
    have sub := sub_zip
    have A1 : Heap.IsTuple (Shared.heap ⟨hp, g, d, tk, os⟩) a xs := ha
    have B1 : Heap.IsList (Shared.heap ⟨hp.push { cls := .type "tuple_iterator", data := .fields #[.ref a, .int 0 0] }, g, d, tk, os⟩) b ys := Heap.IsList.push hb _
    wp_walk using wpAny_pyIter_tuple A1, wpAny_pyIter_list B1
    exact ⟨_, rfl, h⟩
theorem call_zipM {prog : Program} {w : World} {A : Around} {E : Value → Shared → Prop} {s : Shared} {a b : Addr} {xs ys : Array Value} {Q : Value → Shared → Prop} (ha : s.heap.IsTuple a xs) (hb : s.heap.IsList b ys)
    (h : ∀ h', IsZip h' (s.heap.objs.size + 4) (s.heap.objs.size + 2) (s.heap.objs.size + 3) .none ∧ IsPair h' (s.heap.objs.size + 2) (.ref s.heap.objs.size) (.ref (s.heap.objs.size + 1)) → IsPair h' (s.heap.objs.size + 3) .none .none →
      h'.IsTupleIter s.heap.objs.size a 0 → h'.IsListIter (s.heap.objs.size + 1) b 0 → (∀ c o, s.heap.get? c = some o → h'.get? c = some o) → Q (.ref (s.heap.objs.size + 4)) { s with heap := h' }) :
    wpAny (model prog w) A (call (.type "zip") [.ref a, .ref b]) Q E s := by
  refine callType_new F.called_zip (by decide) (F.typeCall_zip_2 _ _) (F.newCall_zip_2 _ _) (fun obj => F.args_object_init_3 obj _ _) F.entry_zip_new (meets_zipM a b xs ys) ⟨ha, hb, ?_⟩
  have z1 : (mH1 s.heap a).objs.size = s.heap.objs.size + 1 := Heap.size_push ..
  have z2 : (mH2 s.heap a b).objs.size = s.heap.objs.size + 2 := by rw [Heap.size_push, z1]
  have z3 : (mH3 s.heap a b).objs.size = s.heap.objs.size + 3 := by rw [Heap.size_push, z2]
  have z4 : (mH4 s.heap a b).objs.size = s.heap.objs.size + 4 := by rw [Heap.size_push, z3]
  have up : ∀ {h : Heap} {o : Obj} {c : Addr} {o' : Obj}, h.get? c = some o' → (h.push o).get? c = some o' := fun e => Heap.get?_push_of_some _ e
  have g5 : (mH5 s.heap a b).get? (mH4 s.heap a b).objs.size = some _ := Heap.get?_push_size _ rfl
  have g4 : (mH5 s.heap a b).get? (mH3 s.heap a b).objs.size = some _ := up (Heap.get?_push_size _ rfl)
  have g3 : (mH5 s.heap a b).get? (mH2 s.heap a b).objs.size = some _ := up (up (Heap.get?_push_size _ rfl))
  have g2 : (mH5 s.heap a b).get? (mH1 s.heap a).objs.size = some _ := up (up (up (Heap.get?_push_size _ rfl)))
  have g1 : (mH5 s.heap a b).get? s.heap.objs.size = some _ := up (up (up (up (Heap.get?_push_size _ rfl))))
  refine (show _ ∧ _ from ?_)
  rw [z2, z3, z4] at g5
  rw [z1, z2] at g3
  rw [z3] at g4
  rw [z1] at g2
  rw [z4]
  exact ⟨⟨_, g5, rfl⟩, h _ ⟨g5, g3⟩ g4 ⟨_, g1, rfl, rfl⟩ ⟨_, g2, rfl, rfl⟩ fun c o e => up (up (up (up (up e))))⟩
def iZipM (K : PySem.W.Frag) (ta : TA) : TI := fun σ H R => ta σ H fun vs H1 => ∃ a b xs ys, vs = [.ref a, .ref b] ∧ SqT K H1 a xs ∧ SqL K H1 b ys ∧ R (ItzM K a b) H1
theorem pi_zipM {X : Cx} {K : PySem.W.Frag} {e e2 : Expr} {ta : TA} {p pos tpos : Pos} {elts : List Expr} {kk : Nat} (hg : Gl X "zip") (hm : X.mg "zip" = none) (ha : PA X [e, e2] ta) (hK : X.K = K := by rfl)
    (hs : starEach [e, e2] X.env = (false, eval e X.env) :: starEach [e2] X.env := by rfl) (hpl : (backTo pos (starEach [e2] X.env)).any (·.1) = false := by rfl) :
    PI X (.Tuple elts kk tpos) (.Call (.Name "zip" p) [e, e2] [] pos) (iZipM K ta) := by
  subst hK
  refine ⟨fun pins s σ H R I h => Call_ (ld_blt I hg hm PyProof.Rows.boot_zip (PyProof.Rows.callWith_type1 (thn (ha.run pos pins s σ H _ I h) fun us s1 ⟨vs, H1, I1, r1, a, b, xs, ys, ex, qa, qb, q⟩ => ?_) hs hpl))⟩
  subst ex
  obtain _ | ⟨r, _ | ⟨r', rr⟩⟩ := r1
  cases rr
  cases r
  cases r'
  have fr : ∀ c, c ∈ [s1.heap.objs.size + 4, s1.heap.objs.size + 2, s1.heap.objs.size + 3, s1.heap.objs.size, s1.heap.objs.size + 1] → FpOk X pins H1 c := fun c hc => by
    have le : s1.heap.objs.size ≤ c := by
      rcases five hc with e | e | e | e | e <;> (rw [e]; first | exact Nat.le_add_right _ _ | exact Nat.le_refl _)
    exact I1.fpOk le (I1.hok.fresh le)
  obtain ⟨its, rv, p1, _⟩ := I1.tuple qa
  obtain ⟨its2, rv2, p2, _⟩ := I1.list qb
  obtain ⟨o1, ho1, _⟩ := id p1
  refine call_zipM (show s1.heap.IsTuple a its.toArray from p1) p2.isList fun h' hz ho h1 h2 hk => wpAny_pyIter_zip hz.1 ?_
  exact ⟨s1.heap.objs.size + 4, [s1.heap.objs.size + 4, s1.heap.objs.size + 2, s1.heap.objs.size + 3, s1.heap.objs.size, s1.heap.objs.size + 1], _, _, H1, rfl, I1.kept (t' := s1.toks) hk, turn_zipM (PySem.W.ktu_apart s1.heap.objs.size a b (Heap.lt_size ho1) p2.lt), ⟨hz, ⟨_, _, ho⟩, h1, h2⟩, fr, q⟩
/-! ### its reading -/
section
variable {α β : Type} {G : List Fact} {O : Ow} {σ : L2.St} {T : Ty α} {U : Ty β} {K : PySem.W.Frag}
theorem zip_get {xs : List α} {ys : List β} {i : Nat} {p : α × β} (h : (xs.zip ys)[i]? = some p) : xs[i]? = some p.1 ∧ ys[i]? = some p.2 := by
  rw [List.getElem?_zip_eq_some] at h
  exact h
theorem simI_zipM {ta tb : TE} {ma : Option (List α)} {mb : Option (List β)} (ha : Sim G O ta σ ma (tT T)) (hb : Sim G O tb σ mb (tL U)) : SimI G O [] (iZipM K (tCons ta (tCons tb tNil))) σ (ma.bind fun xs => mb.bind fun ys => some (xs.zip ys)) (tP T U) := fun S H F r hG w hm R k => by
  obtain ⟨xs, h1, hm⟩ := bind_some hm
  obtain ⟨ys, h2, hm⟩ := bind_some hm
  cases hm
  refine ha S H F xs hG w h1 _ fun v S1 H1 s1 w1 ⟨p, vs, e, g, q⟩ => ?_
  refine hb S1 H1 F ys (hG.mono s1) w1 h2 _ fun v2 S2 H2 s2 w2 ⟨p2, vs2, e2, g2, q2⟩ => ?_
  subst e e2
  have g' := s2 _ _ g
  have q' := q.mono s2
  refine ⟨p, p2, vs, vs2, rfl, SqT.of (w2.st _ _ g'), SqL.of (w2.st _ _ g2), k _ S2 H2 (s1.trans s2) w2 fun S H s w => ?_⟩
  have e1 := w.st _ _ (s _ _ g')
  have e2 := w.st _ _ (s _ _ g2)
  refine ⟨fun i a h => ?_, vs, vs2, ⟨SqT.of e1, SqL.of e2⟩, ?_⟩
  · obtain ⟨h1, h2⟩ := zip_get h
    obtain ⟨u, h3, h4⟩ := q'.get h1
    obtain ⟨u2, h5, h6⟩ := q2.get h2
    refine ⟨⟨vs, vs2, u, u2, ⟨SqT.of e1, SqL.of e2⟩, h3, h5⟩, fun x H' ⟨t, y, y2, ⟨a1, a2, a3⟩, b1, b2⟩ => ?_⟩
    have c1 := b1 vs (SqT.of e1)
    have c2 := b2 vs2 (SqL.of e2)
    rw [h3] at c1
    rw [h5] at c2
    cases c1
    cases c2
    have s3 : Same S (upd S t (.tup [u, u2])) := same_upd (w.sn a2)
    exact ⟨_, s3, ⟨t, _, _, a1, upd_same, T.mono (s.trans s3) h4, U.mono (s.trans s3) h6⟩, fun O w' => by rw [a3]; exact w'.new a2⟩
  · rw [List.length_zip, q'.length, q2.length]
    omega
end
end HF

set_option Elab.async false
set_option linter.all false
set_option maxRecDepth 100000
set_option maxHeartbeats 2000000
/-! Mini18: more small lemmas. -/
namespace HF
open PySem PySem.Spec L2
open PyProof.Rows hiding St
section
variable {S : Hp}
theorem spO_vs4_0 {α1 α2 α3 : Type} {T1 : Ty α1} {T2 : Ty α2} {T3 : Ty α3} {vs : List V} {p : Addr} {a : α1 × α2 × α3} (hn : vs[0]? = some (.ref p)) (hA : (TyA.c T1 (TyA.c T2 (TyA.one T3))).rep a (vs.eraseIdx 0) S) : ∃ v1 v2 v3, vs = [.ref p, v1, v2, v3] ∧ T1.rep a.1 v1 S ∧ T2.rep a.2.1 v2 S ∧ T3.rep a.2.2 v3 S := by
  obtain ⟨ws, rfl, h⟩ := spO_vs0 hn hA
  obtain ⟨v1, _, rfl, h1, ⟨v2, _, rfl, h2, ⟨v3, rfl, h3⟩⟩⟩ := h
  exact ⟨v1, v2, v3, rfl, h1, h2, h3⟩
theorem spO_vs5_0 {α1 α2 α3 α4 : Type} {T1 : Ty α1} {T2 : Ty α2} {T3 : Ty α3} {T4 : Ty α4} {vs : List V} {p : Addr} {a : α1 × α2 × α3 × α4} (hn : vs[0]? = some (.ref p)) (hA : (TyA.c T1 (TyA.c T2 (TyA.c T3 (TyA.one T4)))).rep a (vs.eraseIdx 0) S) : ∃ v1 v2 v3 v4, vs = [.ref p, v1, v2, v3, v4] ∧ T1.rep a.1 v1 S ∧ T2.rep a.2.1 v2 S ∧ T3.rep a.2.2.1 v3 S ∧ T4.rep a.2.2.2 v4 S := by
  obtain ⟨ws, rfl, h⟩ := spO_vs0 hn hA
  obtain ⟨v1, _, rfl, h1, ⟨v2, _, rfl, h2, ⟨v3, _, rfl, h3, ⟨v4, rfl, h4⟩⟩⟩⟩ := h
  exact ⟨v1, v2, v3, v4, rfl, h1, h2, h3, h4⟩
theorem spO_vs7_0 {α1 α2 α3 α4 α5 α6 : Type} {T1 : Ty α1} {T2 : Ty α2} {T3 : Ty α3} {T4 : Ty α4} {T5 : Ty α5} {T6 : Ty α6} {vs : List V} {p : Addr} {a : α1 × α2 × α3 × α4 × α5 × α6} (hn : vs[0]? = some (.ref p)) (hA : (TyA.c T1 (TyA.c T2 (TyA.c T3 (TyA.c T4 (TyA.c T5 (TyA.one T6)))))).rep a (vs.eraseIdx 0) S) : ∃ v1 v2 v3 v4 v5 v6, vs = [.ref p, v1, v2, v3, v4, v5, v6] ∧ T1.rep a.1 v1 S ∧ T2.rep a.2.1 v2 S ∧ T3.rep a.2.2.1 v3 S ∧ T4.rep a.2.2.2.1 v4 S ∧ T5.rep a.2.2.2.2.1 v5 S ∧ T6.rep a.2.2.2.2.2 v6 S := by
  obtain ⟨ws, rfl, h⟩ := spO_vs0 hn hA
  obtain ⟨v1, _, rfl, h1, ⟨v2, _, rfl, h2, ⟨v3, _, rfl, h3, ⟨v4, _, rfl, h4, ⟨v5, _, rfl, h5, ⟨v6, rfl, h6⟩⟩⟩⟩⟩⟩ := h
  exact ⟨v1, v2, v3, v4, v5, v6, rfl, h1, h2, h3, h4, h5, h6⟩
theorem spO_vs8_0 {α1 α2 α3 α4 α5 α6 α7 : Type} {T1 : Ty α1} {T2 : Ty α2} {T3 : Ty α3} {T4 : Ty α4} {T5 : Ty α5} {T6 : Ty α6} {T7 : Ty α7} {vs : List V} {p : Addr} {a : α1 × α2 × α3 × α4 × α5 × α6 × α7} (hn : vs[0]? = some (.ref p)) (hA : (TyA.c T1 (TyA.c T2 (TyA.c T3 (TyA.c T4 (TyA.c T5 (TyA.c T6 (TyA.one T7))))))).rep a (vs.eraseIdx 0) S) : ∃ v1 v2 v3 v4 v5 v6 v7, vs = [.ref p, v1, v2, v3, v4, v5, v6, v7] ∧ T1.rep a.1 v1 S ∧ T2.rep a.2.1 v2 S ∧ T3.rep a.2.2.1 v3 S ∧ T4.rep a.2.2.2.1 v4 S ∧ T5.rep a.2.2.2.2.1 v5 S ∧ T6.rep a.2.2.2.2.2.1 v6 S ∧ T7.rep a.2.2.2.2.2.2 v7 S := by
  obtain ⟨ws, rfl, h⟩ := spO_vs0 hn hA
  obtain ⟨v1, _, rfl, h1, ⟨v2, _, rfl, h2, ⟨v3, _, rfl, h3, ⟨v4, _, rfl, h4, ⟨v5, _, rfl, h5, ⟨v6, _, rfl, h6, ⟨v7, rfl, h7⟩⟩⟩⟩⟩⟩⟩ := h
  exact ⟨v1, v2, v3, v4, v5, v6, v7, rfl, h1, h2, h3, h4, h5, h6, h7⟩
end
end HF

set_option Elab.async false
set_option linter.all false
set_option maxRecDepth 100000
set_option maxHeartbeats 2000000
/-! Mini19: the head's hook, walked without a look for doubles; the part of the heap laid out first. -/
namespace HF
open PySem PySem.Spec L2 ClX
open PyProof.Rows hiding St
def outs (o : Obj) : List Addr := match o.data with
  | .seq its _ => its.toList.flatMap He.refV
  | .dict es _ => es.toList.flatMap fun e => He.refV e.val
  | .func fd => He.refV fd.code ++ (He.refV fd.defaults ++ (He.refV fd.kwdefaults ++ fd.closure.map (·.2)))
  | .cls cd => [cd.ns]
  | .cell (some v) => He.refV v
  | .fields vs => vs.toList.flatMap He.refV
  | _ => []
def asY (g : Addr → Option Obj) : Nat → List Addr → List Addr
  | 0, as => as
  | n + 1, as => as ++ asY g n (as.flatMap fun a => match g a with
    | some o => outs o
    | none => [])
def frObj {α : Type} (o : Obj) (k : Obj → α) : α := match o with
  | ⟨c, d, t, s⟩ => k ⟨c, d, t, s⟩
theorem frObj_eq {α : Type} (o : Obj) (k : Obj → α) : frObj o k = k o := by
  cases o <;> rfl
/-- the part of the heap, each cell laid out -/
def frK {α : Type} : List (Addr × Obj) → (List (Addr × Obj) → α) → α
  | [], k => k []
  | (a, o) :: r, k => HandSHeadRun.frNat a fun a => frObj o fun o => frK r fun r => k ((a, o) :: r)
theorem frK_eq {α : Type} : ∀ (l : List (Addr × Obj)) (k : List (Addr × Obj) → α), frK l k = k l
  | [], k => rfl
  | (a, o) :: r, k => by
    unfold frK
    rw [HandSHeadRun.frNat_eq, frObj_eq, frK_eq r]
def partY (n : Nat) (g : Addr → Option Obj) : PySem.W.Frag := He.frG g (cStatics :: asY g n [mainGlobals])
def obsY (n : Nat) (fa : List He.Fa) (fn : List He.DefD) (l : List (Str × Str × Int)) (g : Addr → Option Obj) : AlX := frK (partY n g) fun K => obsK fa fn l K
def hookY (n : Nat) (fa : List He.Fa) (fn : List He.DefD) (l : List (Str × Str × Int)) : PySem.W.Hook where
  α := AlX
  obs := fun s => obsK fa fn l (partY n s.heap.get?)
  val := fun _ => (true, He.valD fn)
  says := fun _ h => ∃ K : PySem.W.Frag, K.In h ∧ He.SaysD fa fn K ∧ exB l K = true
  of := fun _ _ e => ⟨_, He.frG_in, congrArg (fun z : AlX => z.2) e, congrArg (fun z : AlX => z.1) e⟩
  keeps := fun _ _ _ ⟨K, hK, c, d⟩ k => ⟨K, PySem.W.Frag.In.keeps hK k, c, d⟩
theorem obsY_eq {n : Nat} {fa : List He.Fa} {fn : List He.DefD} {l : List (Str × Str × Int)} {g : Addr → Option Obj} {s : Shared} (h : ∀ a, g a = s.heap.get? a) : obsY n fa fn l g = (hookY n fa fn l).obs s := by
  have e : g = s.heap.get? := funext h
  rw [e]
  exact frK_eq _ _
end HF

set_option Elab.async false
set_option linter.all false
set_option maxRecDepth 100000
set_option maxHeartbeats 4000000
set_option pp.maxSteps 40
set_option pp.oneline true
namespace HF
open PySem PySem.Spec L2 ClX
open PyProof.Rows hiding St
abbrev R_bag := (List Int) × Int × Int × Int × Int
abbrev R_world := Int × Int × (List (Int × Int)) × (List Int) × (List (List Int)) × (List (List Int))
abbrev k_bag : List Str := ["cells", "place", "rest", "turn", "mix"]
abbrev k_world : List Str := ["count", "hues", "wires", "listed", "below", "above"]

def m_is_integer (value1 : Int) : Option Bool :=
  ((some value1).bind fun _ => some true).bind fun z3 => andM z3 (((some value1).bind fun _ => some false).bind fun z2 => some (!z2))
def m_is_lamp (house4 : HouseD) (value5 : Int) : Option Bool :=
  ((some value5).bind fun a6 => m_is_integer a6).bind fun z11 => andM z11 ((some (0 : Int)).bind fun z8 => (some value5).bind fun z9 => andM (decide (z8 ≤ z9)) (((some house4).bind fun z7 => some z7.count).bind fun z10 => some (decide (z9 < z10))))
def m_bits (mask12 : Int) : Option (List Int) :=
  (((some mask12).bind fun z13 => some ((Builtin.Int.intBits z13 : Nat) : Int)).bind fun z14 => x_range 0 z14).bind fun z22 => x_comp (fun y15 => (((some mask12).bind fun z16 => (some y15).bind fun z17 => x_shr z16 z17).bind fun z18 => (some (1 : Int)).bind fun z19 => some (Builtin.bitAnd z18 z19)).bind fun z20 => (some (1 : Int)).bind fun z21 => some (decide (z20 = z21))) (fun y15 => some y15) z22
def m_below_masks (house23 : HouseD) : Option (List Int) :=
  (some house23).bind fun z24 => some z24.belowM
def m_above_masks (house25 : HouseD) : Option (List Int) :=
  (some house25).bind fun z26 => some z26.aboveM
def m__is_wire (count27 : Int) (value28 : (Int × Int)) : Option Bool :=
  ((((some value28).bind fun _ => some true).bind fun z30 => some (!z30)).bind fun z34 => orM z34 (((some value28).bind fun _ => some 2).bind fun z32 => (some (2 : Int)).bind fun z33 => some (!decide (z32 = z33)))).bind fun c29 => if c29 = true then some false else (some value28).bind fun q35 => ((((some q35.1).bind fun a39 => m_is_integer a39).bind fun z40 => some (!z40)).bind fun z43 => orM z43 (((some q35.2).bind fun a41 => m_is_integer a41).bind fun z42 => some (!z42))).bind fun c38 => if c38 = true then some false else ((some (0 : Int)).bind fun z44 => (some q35.1).bind fun z45 => andM (decide (z44 ≤ z45)) ((some count27).bind fun z46 => some (decide (z45 < z46)))).bind fun z53 => andM z53 (((some (0 : Int)).bind fun z47 => (some q35.2).bind fun z48 => andM (decide (z47 ≤ z48)) ((some count27).bind fun z49 => some (decide (z48 < z49)))).bind fun z52 => andM z52 ((some q35.1).bind fun z50 => (some q35.2).bind fun z51 => some (!decide (z50 = z51))))
def m__join_wires (count54 : Int) (wires55 : (List (Int × Int))) : Option (List Int) :=
  (((some (0 : Int)).bind fun z56 => (some []).bind fun z57 => some (z56 :: z57)).bind fun z58 => (some count54).bind fun z59 => x_rep z58 z59).bind fun wired60 => (((some (0 : Int)).bind fun z64 => (some []).bind fun z65 => some (z64 :: z65)).bind fun z66 => (some count54).bind fun z67 => x_rep z66 z67).bind fun below68 => ((some wires55).bind fun z72 => some (enumL z72)).bind fun xs75 => (foldO (fun (bx73 : (List Int) × (List Int)) y74 => ((((some count54).bind fun z77 => (some y74.2).bind fun z78 => some (z77, z78)).bind fun a79 => m__is_wire a79.1 a79.2).bind fun z80 => some (!z80)).bind fun c76 => if c76 = true then none else (some y74.2).bind fun q81 => (((((some bx73.1).bind fun z85 => (some q81.1).bind fun z86 => x_ix z85 z86).bind fun z87 => (some q81.2).bind fun z88 => x_shr z87 z88).bind fun z89 => (some (1 : Int)).bind fun z90 => some (Builtin.bitAnd z89 z90)).bind fun z91 => (some (1 : Int)).bind fun z92 => some (decide (z91 = z92))).bind fun c84 => if c84 = true then none else (((((some bx73.2).bind fun z94 => (some q81.2).bind fun z95 => x_ix z94 z95).bind fun z96 => (some q81.1).bind fun z97 => x_shr z96 z97).bind fun z98 => (some (1 : Int)).bind fun z99 => some (Builtin.bitAnd z98 z99)).bind fun z100 => (some (1 : Int)).bind fun z101 => some (decide (z100 = z101))).bind fun c93 => if c93 = true then none else (((some bx73.1).bind fun z102 => (some q81.1).bind fun z103 => x_ix z102 z103).bind fun z106 => ((some (1 : Int)).bind fun z104 => (some q81.2).bind fun z105 => x_shl z104 z105).bind fun z107 => some (Builtin.bitOr z106 z107)).bind fun y108 => (some q81.1).bind fun n109 => (x_set bx73.1 n109 y108).bind fun wired110 => (((some bx73.2).bind fun z112 => (some q81.2).bind fun z113 => x_ix z112 z113).bind fun z116 => ((some (1 : Int)).bind fun z114 => (some q81.2).bind fun z115 => x_shl z114 z115).bind fun z117 => some (Builtin.bitOr z116 z117)).bind fun gained118 => ((some count54).bind fun z120 => x_range 0 z120).bind fun xs123 => (foldO (fun (bx121 : (List Int)) y122 => (((some y122).bind fun z125 => (some q81.1).bind fun z126 => some (decide (z125 = z126))).bind fun z135 => orM z135 (((((some bx121).bind fun z127 => (some y122).bind fun z128 => x_ix z127 z128).bind fun z129 => (some q81.1).bind fun z130 => x_shr z129 z130).bind fun z131 => (some (1 : Int)).bind fun z132 => some (Builtin.bitAnd z131 z132)).bind fun z133 => (some (1 : Int)).bind fun z134 => some (decide (z133 = z134)))).bind fun c124 => if c124 = true then (((some bx121).bind fun z136 => (some y122).bind fun z137 => x_ix z136 z137).bind fun z138 => (some gained118).bind fun z139 => some (Builtin.bitOr z138 z139)).bind fun y140 => (some y122).bind fun n141 => (x_set bx121 n141 y140).bind fun below142 => some below142 else some bx121) bx73.2 xs123).bind fun bx121 => some (wired110, bx121)) (wired60, below68) xs75).bind fun bx73 => some bx73.2
def m__turn_round (below144 : (List Int)) : Option (List Int) :=
  (((some (0 : Int)).bind fun z145 => (some []).bind fun z146 => some (z145 :: z146)).bind fun z148 => ((some below144).bind fun z147 => some (z147.length : Int)).bind fun z149 => x_rep z148 z149).bind fun upper_masks150 => ((some below144).bind fun z154 => some (enumL z154)).bind fun xs157 => (foldO (fun (bx155 : (List Int)) y156 => ((some y156.2).bind fun a158 => m_bits a158).bind fun xs161 => (foldO (fun (bx159 : (List Int)) y160 => (((some bx159).bind fun z162 => (some y160).bind fun z163 => x_ix z162 z163).bind fun z166 => ((some (1 : Int)).bind fun z164 => (some y156.1).bind fun z165 => x_shl z164 z165).bind fun z167 => some (Builtin.bitOr z166 z167)).bind fun y168 => (some y160).bind fun n169 => (x_set bx159 n169 y168).bind fun upper_masks170 => some upper_masks170) bx155 xs161).bind fun bx159 => some bx159) upper_masks150 xs157).bind fun bx155 => some bx155
def m__order_list (masks172 : (List Int)) : Option (List Int) :=
  (some ([] : (List Int))).bind fun lamps173 => (some (0 : Int)).bind fun listed177 => (whileO (fun (bx179 : (List Int) × Int) => ((some bx179.1).bind fun z180 => some (z180.length : Int)).bind fun z182 => ((some masks172).bind fun z181 => some (z181.length : Int)).bind fun z183 => some (decide (z182 < z183))) (fun (bx179 : (List Int) × Int) => (((some masks172).bind fun z184 => some (enumL z184)).bind fun z190 => x_comp (fun y185 => ((some y185.2).bind fun z186 => (some bx179.2).bind fun z187 => some (Builtin.bitAnd z186 z187)).bind fun z188 => (some y185.2).bind fun z189 => some (decide (z188 = z189))) (fun y185 => some y185.1) z190).bind fun ready191 => ((some ready191).bind fun z200 => x_comp (fun y193 => (((some bx179.2).bind fun z194 => (some y193).bind fun z195 => x_shr z194 z195).bind fun z196 => (some (1 : Int)).bind fun z197 => some (Builtin.bitAnd z196 z197)).bind fun z198 => (some (0 : Int)).bind fun z199 => some (decide (z198 = z199))) (fun y193 => some y193) z200).bind fun following201 => ((some following201).bind fun z203 => (some (0 : Int)).bind fun z204 => x_ix z203 z204).bind fun y205 => (x_app bx179.1 y205).bind fun lamps206 => ((some bx179.2).bind fun z212 => ((some (1 : Int)).bind fun z210 => ((some following201).bind fun z208 => (some (0 : Int)).bind fun z209 => x_ix z208 z209).bind fun z211 => x_shl z210 z211).bind fun z213 => some (Builtin.bitOr z212 z213)).bind fun listed214 => some (lamps206, listed214)) (masks172.length + 1) (lamps173, listed177)).bind fun bx179 => some bx179.1
def m_House___init__ (count217 : Int) (hues218 : Int) (wires219 : (List (Int × Int))) : Option ((List Int) × (List Int) × (List (List Int)) × (List (List Int)) × (List Int) × Int × Int × (List (Int × Int)) × (List (List Int))) :=
  ((((some count217).bind fun a221 => m_is_integer a221).bind fun z222 => some (!z222)).bind fun z227 => orM z227 (((some (1 : Int)).bind fun z223 => (some count217).bind fun z224 => andM (decide (z223 ≤ z224)) ((some (16 : Int)).bind fun z225 => some (decide (z224 ≤ z225)))).bind fun z226 => some (!z226))).bind fun c220 => if c220 = true then none else ((((some hues218).bind fun a229 => m_is_integer a229).bind fun z230 => some (!z230)).bind fun z235 => orM z235 (((some (2 : Int)).bind fun z231 => (some hues218).bind fun z232 => andM (decide (z231 ≤ z232)) ((some (10 : Int)).bind fun z233 => some (decide (z232 ≤ z233)))).bind fun z234 => some (!z234))).bind fun c228 => if c228 = true then none else (((some count217).bind fun z239 => (some wires219).bind fun z240 => some (z239, z240)).bind fun a241 => m__join_wires a241.1 a241.2).bind fun y236 => (some (y236)).bind fun self237 => (((some self237).bind fun z245 => some z245).bind fun a246 => m__turn_round a246).bind fun y242 => (some ((self237, y242))).bind fun self243 => (((some self243).bind fun z250 => some z250.1).bind fun z253 => x_comp (fun y251 => some true) (fun y251 => (some y251).bind fun a252 => m_bits a252) z253).bind fun y247 => (some ((self243.1, (self243.2, y247)))).bind fun self248 => (((some self248).bind fun z257 => some z257.2.1).bind fun z260 => x_comp (fun y258 => some true) (fun y258 => (some y258).bind fun a259 => m_bits a259) z260).bind fun y254 => (some ((self248.1, (self248.2.1, (self248.2.2, y254))))).bind fun self255 => (((some self255).bind fun z264 => some z264.2.1).bind fun a265 => m__order_list a265).bind fun y261 => (some ((self255.1, (self255.2.1, (self255.2.2.1, (self255.2.2.2, y261)))))).bind fun self262 => (some count217).bind fun y266 => (some ((self262.1, (self262.2.1, (self262.2.2.1, (self262.2.2.2.1, (self262.2.2.2.2, y266))))))).bind fun self267 => (some hues218).bind fun y269 => (some ((self267.1, (self267.2.1, (self267.2.2.1, (self267.2.2.2.1, (self267.2.2.2.2.1, (self267.2.2.2.2.2, y269)))))))).bind fun self270 => ((some wires219).bind fun z275 => some (sortP z275)).bind fun y272 => (some ((self270.1, (self270.2.1, (self270.2.2.1, (self270.2.2.2.1, (self270.2.2.2.2.1, (self270.2.2.2.2.2.1, (self270.2.2.2.2.2.2, y272))))))))).bind fun self273 => (((some count217).bind fun z279 => x_range 0 z279).bind fun z281 => x_comp (fun y280 => some true) (fun y280 => some ([] : (List Int))) z281).bind fun y276 => (some ((self273.1, (self273.2.1, (self273.2.2.1, (self273.2.2.2.1, (self273.2.2.2.2.1, (self273.2.2.2.2.2.1, (self273.2.2.2.2.2.2.1, (self273.2.2.2.2.2.2.2, ())))))))))).bind fun self277 => ((some self277).bind fun z284 => some z284.2.2.2.2.2.2.2.1).bind fun xs287 => (foldO (fun (bx285 : (List (List Int))) y286 => ((some self277).bind fun z288 => some z288.2.2.2.2.2.2.2.2).bind fun u289 => (some y286.1).bind fun n290 => (some y286.2).bind fun y291 => (x_app2 bx285 n290 y291).bind fun xss292 => some xss292) y276 xs287).bind fun bx285 => some (self277.1, (self277.2.1, (self277.2.2.1, (self277.2.2.2.1, (self277.2.2.2.2.1, (self277.2.2.2.2.2.1, (self277.2.2.2.2.2.2.1, (self277.2.2.2.2.2.2.2.1, bx285))))))))
def m_House_order (self294 : HouseD) : Option (List Int) :=
  (some self294).bind fun z295 => some z295.order
def m_is_state (house296 : HouseD) (value297 : (List Int)) : Option Bool :=
  ((((some value297).bind fun _ => some true).bind fun z299 => some (!z299)).bind fun z304 => orM z304 (((some value297).bind fun z300 => some (z300.length : Int)).bind fun z302 => ((some house296).bind fun z301 => some z301.count).bind fun z303 => some (!decide (z302 = z303)))).bind fun c298 => if c298 = true then some false else ((some value297).bind fun z312 => x_comp (fun y305 => some true) (fun y305 => ((some y305).bind fun a306 => m_is_integer a306).bind fun z311 => andM z311 ((some (0 : Int)).bind fun z308 => (some y305).bind fun z309 => andM (decide (z308 ≤ z309)) (((some house296).bind fun z307 => some z307.hues).bind fun z310 => some (decide (z309 < z310))))) z312).bind fun z313 => some (z313.all id)
def m_turned_down (hue314 : Int) (hues315 : Int) : Option Int :=
  ((some hue314).bind fun z317 => (some (0 : Int)).bind fun z318 => some (decide (z318 < z317))).bind fun c316 => if c316 = true then (some hue314).bind fun z319 => (some (1 : Int)).bind fun z320 => some (z319 - z320) else (some hues315).bind fun z321 => (some (1 : Int)).bind fun z322 => some (z321 - z322)
def m_need_lamp (house323 : HouseD) (value324 : Int) : Option Unit :=
  ((((some house323).bind fun z326 => (some value324).bind fun z327 => some (z326, z327)).bind fun a328 => m_is_lamp a328.1 a328.2).bind fun z329 => some (!z329)).bind fun c325 => if c325 = true then none else some ()
def m_need_state (house330 : HouseD) (value331 : (List Int)) : Option Unit :=
  ((((some house330).bind fun z333 => (some value331).bind fun z334 => some (z333, z334)).bind fun a335 => m_is_state a335.1 a335.2).bind fun z336 => some (!z336)).bind fun c332 => if c332 = true then none else some ()
def m_need_states (house337 : HouseD) (states338 : (List (List Int))) : Option Unit :=
  (some states338).bind fun xs341 => (foldO (fun (bx339 : Unit) y340 => (((some house337).bind fun z342 => (some y340).bind fun z343 => some (z342, z343)).bind fun a344 => m_need_state a344.1 a344.2).bind fun z345 => some ()) () xs341).bind fun bx339 => some ()
def m_need_run (house346 : HouseD) (run347 : (List Int)) : Option Unit :=
  (some run347).bind fun xs350 => (foldO (fun (bx348 : Unit) y349 => (((some house346).bind fun z351 => (some y349).bind fun z352 => some (z351, z352)).bind fun a353 => m_need_lamp a353.1 a353.2).bind fun z354 => some ()) () xs350).bind fun bx348 => some ()
def m__topmost (house355 : HouseD) (source356 : (List Int)) (target357 : (List Int)) : Option (List Int) :=
  (some (0 : Int)).bind fun differing358 => (((some house355).bind fun z360 => some z360.count).bind fun z361 => x_range 0 z361).bind fun xs364 => (foldO (fun (bx362 : Int) y363 => (((some source356).bind fun z366 => (some y363).bind fun z367 => x_ix z366 z367).bind fun z370 => ((some target357).bind fun z368 => (some y363).bind fun z369 => x_ix z368 z369).bind fun z371 => some (!decide (z370 = z371))).bind fun c365 => if c365 = true then ((some bx362).bind fun z374 => ((some (1 : Int)).bind fun z372 => (some y363).bind fun z373 => x_shl z372 z373).bind fun z375 => some (Builtin.bitOr z374 z375)).bind fun differing376 => some differing376 else some bx362) differing358 xs364).bind fun bx362 => ((some house355).bind fun a378 => m_above_masks a378).bind fun masks379 => (((some house355).bind fun z381 => some z381.count).bind fun z382 => x_range 0 z382).bind fun z397 => x_comp (fun y383 => (((some source356).bind fun z384 => (some y383).bind fun z385 => x_ix z384 z385).bind fun z388 => ((some target357).bind fun z386 => (some y383).bind fun z387 => x_ix z386 z387).bind fun z389 => some (!decide (z388 = z389))).bind fun z396 => andM z396 ((((some masks379).bind fun z390 => (some y383).bind fun z391 => x_ix z390 z391).bind fun z392 => (some bx362).bind fun z393 => some (Builtin.bitAnd z392 z393)).bind fun z394 => (some (0 : Int)).bind fun z395 => some (decide (z394 = z395)))) (fun y383 => some y383) z397
def m_raw_obstacle (house398 : HouseD) (source399 : (List Int)) (target400 : (List Int)) : Option (Option Int) :=
  (((some house398).bind fun z403 => ((some source399).bind fun z401 => (some target400).bind fun z402 => some (z401, z402)).bind fun z404 => some (z403, z404)).bind fun a405 => m__topmost a405.1 a405.2.1 a405.2.2).bind fun xs408 => forK (fun (bx406 : Unit) y407 k409 k410 => (((some target400).bind fun z412 => (some y407).bind fun z413 => x_ix z412 z413).bind fun z416 => ((some source399).bind fun z414 => (some y407).bind fun z415 => x_ix z414 z415).bind fun z417 => some (decide (z417 < z416))).bind fun c411 => if c411 = true then (some y407).bind fun a => some (some a) else k409 ()) (fun bx406 => some (none : (Option Int))) xs408 ()
def m_need_reachable (house418 : HouseD) (source419 : (List Int)) (target420 : (List Int)) : Option Unit :=
  (((some house418).bind fun z423 => ((some source419).bind fun z421 => (some target420).bind fun z422 => some (z421, z422)).bind fun z424 => some (z423, z424)).bind fun a425 => m_raw_obstacle a425.1 a425.2.1 a425.2.2).bind fun lamp426 => ((some lamp426).bind fun z429 => (some ()).bind fun z430 => some z429.isSome).bind fun c428 => if c428 = true then none else some ()
def m_lit_beneath (house431 : HouseD) (state432 : (List Int)) (lamp433 : Int) : Option (Option Int) :=
  ((((some house431).bind fun a434 => m_below_masks a434).bind fun z435 => (some lamp433).bind fun z436 => x_ix z435 z436).bind fun a437 => m_bits a437).bind fun xs440 => forK (fun (bx438 : Unit) y439 k441 k442 => (((some state432).bind fun z444 => (some y439).bind fun z445 => x_ix z444 z445).bind fun z446 => (some (0 : Int)).bind fun z447 => some (decide (z447 < z446))).bind fun c443 => if c443 = true then (some y439).bind fun a => some (some a) else k441 ()) (fun bx438 => some (none : (Option Int))) xs440 ()
def m_moved (house448 : HouseD) (state449 : (List Int)) (lamp450 : Int) : Option (List Int) :=
  ((some house448).bind fun z451 => some z451.hues).bind fun hues452 => (some state449).bind fun result454 => (((some state449).bind fun z458 => (some lamp450).bind fun z459 => x_ix z458 z459).bind fun z460 => (some (1 : Int)).bind fun z461 => some (z460 - z461)).bind fun y462 => (some lamp450).bind fun n463 => (x_set result454 n463 y462).bind fun result464 => ((((some house448).bind fun a466 => m_below_masks a466).bind fun z467 => (some lamp450).bind fun z468 => x_ix z467 z468).bind fun a469 => m_bits a469).bind fun xs472 => (foldO (fun (bx470 : (List Int)) y471 => ((((some state449).bind fun z473 => (some y471).bind fun z474 => x_ix z473 z474).bind fun z475 => (some hues452).bind fun z476 => some (z475, z476)).bind fun a477 => m_turned_down a477.1 a477.2).bind fun y478 => (some y471).bind fun n479 => (x_set bx470 n479 y478).bind fun result480 => some result480) result464 xs472).bind fun bx470 => some bx470
def m_can_move (house482 : HouseD) (state483 : (List Int)) (lamp484 : Int) (careful485 : Bool) : Option Bool :=
  (((some state483).bind fun z487 => (some lamp484).bind fun z488 => x_ix z487 z488).bind fun z489 => (some (0 : Int)).bind fun z490 => some (decide (z489 = z490))).bind fun c486 => if c486 = true then some false else ((some careful485).bind fun z491 => some (!z491)).bind fun z499 => orM z499 ((((some house482).bind fun z494 => ((some state483).bind fun z492 => (some lamp484).bind fun z493 => some (z492, z493)).bind fun z495 => some (z494, z495)).bind fun a496 => m_lit_beneath a496.1 a496.2.1 a496.2.2).bind fun z497 => (some ()).bind fun z498 => some z497.isNone)
def m_refuse (house500 : HouseD) (state501 : (List Int)) (lamp502 : Int) (step503 : Int) (careful504 : Bool) : Option Unit :=
  (((some state501).bind fun z506 => (some lamp502).bind fun z507 => x_ix z506 z507).bind fun z508 => (some (0 : Int)).bind fun z509 => some (decide (z508 = z509))).bind fun c505 => if c505 = true then none else (some careful504).bind fun c510 => if c510 = true then (((some house500).bind fun z513 => ((some state501).bind fun z511 => (some lamp502).bind fun z512 => some (z511, z512)).bind fun z514 => some (z513, z514)).bind fun a515 => m_lit_beneath a515.1 a515.2.1 a515.2.2).bind fun lower516 => ((some lower516).bind fun z519 => (some ()).bind fun z520 => some z519.isSome).bind fun c518 => if c518 = true then none else some () else some ()
def m_allowed_lamps (house521 : HouseD) (state522 : (List Int)) (careful523 : Bool) : Option (List Int) :=
  (((some house521).bind fun z524 => (some state522).bind fun z525 => some (z524, z525)).bind fun a526 => m_need_state a526.1 a526.2).bind fun z527 => (((some house521).bind fun z528 => some z528.count).bind fun z529 => x_range 0 z529).bind fun z538 => x_comp (fun y530 => ((some house521).bind fun z535 => ((some state522).bind fun z533 => ((some y530).bind fun z531 => (some careful523).bind fun z532 => some (z531, z532)).bind fun z534 => some (z533, z534)).bind fun z536 => some (z535, z536)).bind fun a537 => m_can_move a537.1 a537.2.1 a537.2.2.1 a537.2.2.2) (fun y530 => some y530) z538
def m_before (house539 : HouseD) (state540 : (List Int)) (lamp541 : Int) (careful542 : Bool) : Option (Option (List Int)) :=
  (((some house539).bind fun z543 => (some state540).bind fun z544 => some (z543, z544)).bind fun a545 => m_need_state a545.1 a545.2).bind fun z546 => (((some house539).bind fun z547 => (some lamp541).bind fun z548 => some (z547, z548)).bind fun a549 => m_need_lamp a549.1 a549.2).bind fun z550 => (((some house539).bind fun z551 => some z551.hues).bind fun z552 => (some (1 : Int)).bind fun z553 => some (z552 - z553)).bind fun brightest554 => (((some state540).bind fun z557 => (some lamp541).bind fun z558 => x_ix z557 z558).bind fun z559 => (some brightest554).bind fun z560 => some (decide (z559 = z560))).bind fun c556 => if c556 = true then some (none : (Option (List Int))) else (some state540).bind fun result561 => (((some state540).bind fun z565 => (some lamp541).bind fun z566 => x_ix z565 z566).bind fun z567 => (some (1 : Int)).bind fun z568 => some (z567 + z568)).bind fun y569 => (some lamp541).bind fun n570 => (x_set result561 n570 y569).bind fun result571 => ((((some house539).bind fun a573 => m_below_masks a573).bind fun z574 => (some lamp541).bind fun z575 => x_ix z574 z575).bind fun a576 => m_bits a576).bind fun xs579 => forK (fun (bx577 : (List Int)) y578 k580 k581 => (((some state540).bind fun z583 => (some y578).bind fun z584 => x_ix z583 z584).bind fun z585 => (some brightest554).bind fun z586 => some (decide (z585 = z586))).bind fun c582 => if c582 = true then (some (0 : Int)).bind fun y587 => (some y578).bind fun n588 => (x_set bx577 n588 y587).bind fun result589 => k580 result589 else (some careful542).bind fun c591 => if c591 = true then some (none : (Option (List Int))) else (((some state540).bind fun z592 => (some y578).bind fun z593 => x_ix z592 z593).bind fun z594 => (some (1 : Int)).bind fun z595 => some (z594 + z595)).bind fun y596 => (some y578).bind fun n597 => (x_set bx577 n597 y596).bind fun result598 => k580 result598) (fun bx577 => (some bx577).bind fun a => some (some a)) xs579 result571
def m_states_along (house600 : HouseD) (state601 : (List Int)) (run602 : (List Int)) (careful603 : Bool) : Option (List (List Int)) :=
  (((some house600).bind fun z604 => (some state601).bind fun z605 => some (z604, z605)).bind fun a606 => m_need_state a606.1 a606.2).bind fun z607 => (((some house600).bind fun z608 => (some run602).bind fun z609 => some (z608, z609)).bind fun a610 => m_need_run a610.1 a610.2).bind fun z611 => (some state601).bind fun here612 => ((some here612).bind fun z614 => (some []).bind fun z615 => some (z614 :: z615)).bind fun found616 => ((some run602).bind fun z620 => some (enumL z620)).bind fun xs623 => (foldO (fun (bx621 : (List Int) × (List (List Int))) y622 => (((some house600).bind fun z630 => ((some bx621.1).bind fun z628 => ((some y622.2).bind fun z626 => ((some y622.1).bind fun z624 => (some careful603).bind fun z625 => some (z624, z625)).bind fun z627 => some (z626, z627)).bind fun z629 => some (z628, z629)).bind fun z631 => some (z630, z631)).bind fun a632 => m_refuse a632.1 a632.2.1 a632.2.2.1 a632.2.2.2.1 a632.2.2.2.2).bind fun z633 => (((some house600).bind fun z636 => ((some bx621.1).bind fun z634 => (some y622.2).bind fun z635 => some (z634, z635)).bind fun z637 => some (z636, z637)).bind fun a638 => m_moved a638.1 a638.2.1 a638.2.2).bind fun here639 => (some here639).bind fun y641 => (x_app bx621.2 y641).bind fun found642 => some (here639, found642)) (here612, found616) xs623).bind fun bx621 => some bx621.2
def m_load_at (house644 : HouseD) (counts645 : (List Int)) (lamp646 : Int) : Option Int :=
  (((((some house644).bind fun a647 => m_above_masks a647).bind fun z648 => (some lamp646).bind fun z649 => x_ix z648 z649).bind fun a650 => m_bits a650).bind fun z654 => x_comp (fun y651 => some true) (fun y651 => (some counts645).bind fun z652 => (some y651).bind fun z653 => x_ix z652 z653) z654).bind fun z655 => some z655.sum
def m_most_at (house656 : HouseD) (source657 : (List Int)) (counts658 : (List Int)) (lamp659 : Int) : Option Int :=
  ((some source657).bind fun z660 => (some lamp659).bind fun z661 => x_ix z660 z661).bind fun z672 => ((((some house656).bind fun z662 => some z662.hues).bind fun z663 => (some (1 : Int)).bind fun z664 => some (z663 - z664)).bind fun z670 => (((some house656).bind fun z667 => ((some counts658).bind fun z665 => (some lamp659).bind fun z666 => some (z665, z666)).bind fun z668 => some (z667, z668)).bind fun a669 => m_load_at a669.1 a669.2.1 a669.2.2).bind fun z671 => x_mul z670 z671).bind fun z673 => some (z672 + z673)
def m_greatest_counts (house674 : HouseD) (source675 : (List Int)) (target676 : (List Int)) : Option (List Int) :=
  ((((some house674).bind fun z677 => some z677.count).bind fun z678 => x_range 0 z678).bind fun z680 => x_comp (fun y679 => some true) (fun y679 => some (0 : Int)) z680).bind fun counts681 => ((some house674).bind fun z685 => m_House_order z685).bind fun xs688 => (foldO (fun (bx686 : (List Int)) y687 => ((((some house674).bind fun z693 => ((some source675).bind fun z691 => ((some bx686).bind fun z689 => (some y687).bind fun z690 => some (z689, z690)).bind fun z692 => some (z691, z692)).bind fun z694 => some (z693, z694)).bind fun a695 => m_most_at a695.1 a695.2.1 a695.2.2.1 a695.2.2.2).bind fun z698 => ((some target676).bind fun z696 => (some y687).bind fun z697 => x_ix z696 z697).bind fun z699 => some (z698 - z699)).bind fun y700 => (some y687).bind fun n701 => (x_set bx686 n701 y700).bind fun counts702 => some counts702) counts681 xs688).bind fun bx686 => some bx686
def m_need_way (house704 : HouseD) (source705 : (List Int)) (target706 : (List Int)) : Option Unit :=
  (((some house704).bind fun z711 => ((some source705).bind fun z709 => ((some target706).bind fun z707 => (some []).bind fun z708 => some (z707 :: z708)).bind fun z710 => some (z709 :: z710)).bind fun z712 => some (z711, z712)).bind fun a713 => m_need_states a713.1 a713.2).bind fun z714 => (((some house704).bind fun z717 => ((some source705).bind fun z715 => (some target706).bind fun z716 => some (z715, z716)).bind fun z718 => some (z717, z718)).bind fun a719 => m_need_reachable a719.1 a719.2.1 a719.2.2).bind fun z720 => some ()
def m_weights (house721 : HouseD) : Option (List Int) :=
  ((some house721).bind fun a722 => m_below_masks a722).bind fun below723 => ((((some house721).bind fun z725 => some z725.count).bind fun z726 => x_range 0 z726).bind fun z728 => x_comp (fun y727 => some true) (fun y727 => some (0 : Int)) z728).bind fun found729 => (((some house721).bind fun z733 => m_House_order z733).bind fun z734 => some z734.reverse).bind fun xs737 => (foldO (fun (bx735 : (List Int)) y736 => (((((some below723).bind fun z738 => (some y736).bind fun z739 => x_ix z738 z739).bind fun a740 => m_bits a740).bind fun z744 => x_comp (fun y741 => some true) (fun y741 => (some bx735).bind fun z742 => (some y741).bind fun z743 => x_ix z742 z743) z744).bind fun z745 => some z745.sum).bind fun beneath746 => ((some (1 : Int)).bind fun z753 => ((((some house721).bind fun z748 => some z748.hues).bind fun z749 => (some (1 : Int)).bind fun z750 => some (z749 - z750)).bind fun z751 => (some beneath746).bind fun z752 => x_mul z751 z752).bind fun z754 => some (z753 + z754)).bind fun y755 => (some y736).bind fun n756 => (x_set bx735 n756 y755).bind fun found757 => some found757) found729 xs737).bind fun bx735 => some bx735
def m_worth (house759 : HouseD) (state760 : (List Int)) : Option Int :=
  (((some house759).bind fun z761 => (some state760).bind fun z762 => some (z761, z762)).bind fun a763 => m_need_state a763.1 a763.2).bind fun z764 => (((some state760).bind fun z766 => ((some house759).bind fun a765 => m_weights a765).bind fun z767 => some (List.zip z766 z767)).bind fun z771 => x_comp (fun y768 => some true) (fun y768 => (some y768.1).bind fun z769 => (some y768.2).bind fun z770 => x_mul z769 z770) z771).bind fun z772 => some z772.sum
def m__careful_lamp (house773 : HouseD) (state774 : (List Int)) (remaining775 : (List Int)) : Option (Option Int) :=
  (((some house773).bind fun z776 => some z776.count).bind fun z777 => x_range 0 z777).bind fun xs780 => forK (fun (bx778 : Unit) y779 k781 k782 => ((((some state774).bind fun z784 => (some y779).bind fun z785 => x_ix z784 z785).bind fun z786 => (some (1 : Int)).bind fun z787 => some (decide (z787 ≤ z786))).bind fun z800 => andM z800 ((((some remaining775).bind fun z788 => (some y779).bind fun z789 => x_ix z788 z789).bind fun z790 => (some (1 : Int)).bind fun z791 => some (decide (z791 ≤ z790))).bind fun z799 => andM z799 ((((some house773).bind fun z794 => ((some state774).bind fun z792 => (some y779).bind fun z793 => some (z792, z793)).bind fun z795 => some (z794, z795)).bind fun a796 => m_lit_beneath a796.1 a796.2.1 a796.2.2).bind fun z797 => (some ()).bind fun z798 => some z797.isNone))).bind fun c783 => if c783 = true then (some y779).bind fun a => some (some a) else k781 ()) (fun bx778 => some (none : (Option Int))) xs780 ()
def m_careful_run (house801 : HouseD) (source802 : (List Int)) (target803 : (List Int)) (limit804 : Int) : Option (List Int) :=
  (((some house801).bind fun z807 => ((some source802).bind fun z805 => (some target803).bind fun z806 => some (z805, z806)).bind fun z808 => some (z807, z808)).bind fun a809 => m_need_way a809.1 a809.2.1 a809.2.2).bind fun z810 => (((some house801).bind fun z813 => ((some source802).bind fun z811 => (some target803).bind fun z812 => some (z811, z812)).bind fun z814 => some (z813, z814)).bind fun a815 => m_greatest_counts a815.1 a815.2.1 a815.2.2).bind fun remaining816 => ((some remaining816).bind fun z820 => some z820.sum).bind fun length821 => ((some length821).bind fun z824 => (some limit804).bind fun z825 => some (decide (z825 < z824))).bind fun c823 => if c823 = true then none else (some source802).bind fun state826 => (some ([] : (List Int))).bind fun run828 => ((some length821).bind fun z832 => x_range 0 z832).bind fun xs835 => (foldO (fun (bx833 : (List Int) × (List Int) × (List Int)) y834 => ((((some house801).bind fun z838 => ((some bx833.2.1).bind fun z836 => (some bx833.1).bind fun z837 => some (z836, z837)).bind fun z839 => some (z838, z839)).bind fun a840 => m__careful_lamp a840.1 a840.2.1 a840.2.2).bind fun z843 => z843).bind fun lamp841 => (some lamp841).bind fun y844 => (x_app bx833.2.2 y844).bind fun run845 => (((some bx833.1).bind fun z847 => (some lamp841).bind fun z848 => x_ix z847 z848).bind fun z849 => (some (1 : Int)).bind fun z850 => some (z849 - z850)).bind fun y851 => (some lamp841).bind fun n852 => (x_set bx833.1 n852 y851).bind fun remaining853 => (((some house801).bind fun z857 => ((some bx833.2.1).bind fun z855 => (some lamp841).bind fun z856 => some (z855, z856)).bind fun z858 => some (z857, z858)).bind fun a859 => m_moved a859.1 a859.2.1 a859.2.2).bind fun state860 => some (remaining853, state860, run845)) (remaining816, state826, run828) xs835).bind fun bx833 => some bx833.2.2
def m_next_careful (house862 : HouseD) (source863 : (List Int)) (target864 : (List Int)) : Option (Option Int) :=
  (((some house862).bind fun z867 => ((some source863).bind fun z865 => (some target864).bind fun z866 => some (z865, z866)).bind fun z868 => some (z867, z868)).bind fun a869 => m_need_way a869.1 a869.2.1 a869.2.2).bind fun z870 => ((some house862).bind fun z878 => ((some source863).bind fun z876 => (((some house862).bind fun z873 => ((some source863).bind fun z871 => (some target864).bind fun z872 => some (z871, z872)).bind fun z874 => some (z873, z874)).bind fun a875 => m_greatest_counts a875.1 a875.2.1 a875.2.2).bind fun z877 => some (z876, z877)).bind fun z879 => some (z878, z879)).bind fun a880 => m__careful_lamp a880.1 a880.2.1 a880.2.2
def m_covered_by (house881 : HouseD) (state882 : (List Int)) : Option (List (Int × (List Int))) :=
  (((some house881).bind fun z883 => (some state882).bind fun z884 => some (z883, z884)).bind fun a885 => m_need_state a885.1 a885.2).bind fun z886 => (((some house881).bind fun z887 => (some state882).bind fun z888 => some (z887, z888)).bind fun a889 => (some true).bind fun a890 => m_allowed_lamps a889.1 a889.2 a890).bind fun z899 => x_comp (fun y891 => some true) (fun y891 => (some y891).bind fun z897 => (((some house881).bind fun z894 => ((some state882).bind fun z892 => (some y891).bind fun z893 => some (z892, z893)).bind fun z895 => some (z894, z895)).bind fun a896 => m_moved a896.1 a896.2.1 a896.2.2).bind fun z898 => some (z897, z898)) z899
def m_covers_of (house900 : HouseD) (state901 : (List Int)) : Option (List (Int × (List Int))) :=
  (((some house900).bind fun z902 => (some state901).bind fun z903 => some (z902, z903)).bind fun a904 => m_need_state a904.1 a904.2).bind fun z905 => (some ([] : (List (Int × (List Int))))).bind fun pairs906 => (((some house900).bind fun z910 => some z910.count).bind fun z911 => x_range 0 z911).bind fun xs914 => (foldO (fun (bx912 : (List (Int × (List Int)))) y913 => (((some house900).bind fun z917 => ((some state901).bind fun z915 => (some y913).bind fun z916 => some (z915, z916)).bind fun z918 => some (z917, z918)).bind fun a919 => (some true).bind fun a920 => m_before a919.1 a919.2.1 a919.2.2 a920).bind fun other921 => ((some other921).bind fun z924 => (some ()).bind fun z925 => some z924.isSome).bind fun c923 => if c923 = true then ((some y913).bind fun z927 => ((some other921).bind fun z926 => z926).bind fun z928 => some (z927, z928)).bind fun y929 => (x_app bx912 y929).bind fun pairs930 => some pairs930 else some bx912) pairs906 xs914).bind fun bx912 => some bx912
def m_is_cover (house932 : HouseD) (source933 : (List Int)) (target934 : (List Int)) : Option Bool :=
  (((some house932).bind fun z935 => (some source933).bind fun z936 => some (z935, z936)).bind fun a937 => m_need_state a937.1 a937.2).bind fun z938 => (((some house932).bind fun z939 => (some target934).bind fun z940 => some (z939, z940)).bind fun a941 => m_need_state a941.1 a941.2).bind fun z942 => (((some house932).bind fun z943 => (some source933).bind fun z944 => some (z943, z944)).bind fun a945 => (some true).bind fun a946 => m_allowed_lamps a945.1 a945.2 a946).bind fun xs949 => forK (fun (bx947 : Unit) y948 k950 k951 => ((((some house932).bind fun z955 => ((some source933).bind fun z953 => (some y948).bind fun z954 => some (z953, z954)).bind fun z956 => some (z955, z956)).bind fun a957 => m_moved a957.1 a957.2.1 a957.2.2).bind fun z958 => (some target934).bind fun z959 => some (decide (z958 = z959))).bind fun c952 => if c952 = true then some true else k950 ()) (fun bx947 => some false) xs949 ()
def m__law_bag (script960 : (List Int)) : Option R_bag :=
  (((some script960).bind fun z962 => (some none).bind fun z963 => ((some (63 : Int)).bind fun z961 => some (some z961)).bind fun z964 => some (cutL z962 z963 z964)).bind fun z967 => x_comp (fun y965 => some true) (fun y965 => (some y965).bind fun z966 => some (if z966 < 0 then -z966 else z966)) z967).bind fun z974 => ((some (0 : Int)).bind fun z972 => ((some (0 : Int)).bind fun z970 => ((some (0 : Int)).bind fun z968 => (some (151 : Int)).bind fun z969 => some (z968, z969)).bind fun z971 => some (z970, z971)).bind fun z973 => some (z972, z973)).bind fun z975 => some (z974, z975)
def m__law_draw (bag_here976 : R_bag) (size977 : Int) : Option (Int × R_bag) :=
  ((some bag_here976).bind fun z978 => some z978.2.2.1).bind fun rest979 => ((some rest979).bind fun z982 => (some (0 : Int)).bind fun z983 => some (decide (z983 < z982))).bind fun c981 => if c981 = true then ((some rest979).bind fun z984 => (some size977).bind fun z985 => x_div z984 z985).bind fun y986 => (some ((bag_here976.1, (bag_here976.2.1, (y986, bag_here976.2.2.2))))).bind fun bag_here987 => ((some rest979).bind fun z989 => (some size977).bind fun z990 => x_mod z989 z990).bind fun r991 => some (r991, bag_here987) else (((some bag_here976).bind fun z992 => some z992.2.2.2.1).bind fun z993 => (some (1 : Int)).bind fun z994 => some (z993 + z994)).bind fun turn995 => (some turn995).bind fun y997 => (some ((bag_here976.1, (bag_here976.2.1, (bag_here976.2.2.1, (y997, bag_here976.2.2.2.2)))))).bind fun bag_here998 => (((((some bag_here998).bind fun z1000 => some z1000.2.2.2.2).bind fun z1001 => (some (48271 : Int)).bind fun z1002 => x_mulS z1001 z1002).bind fun z1005 => ((some turn995).bind fun z1003 => (some (7919 : Int)).bind fun z1004 => x_mulS z1003 z1004).bind fun z1006 => some (z1005 + z1006)).bind fun z1007 => (some (2147483647 : Int)).bind fun z1008 => x_mod z1007 z1008).bind fun mix1009 => ((some bag_here998).bind fun z1011 => some z1011.2.1).bind fun place1012 => joinK (fun (bx1015 : R_bag × Int) => (some bx1015.2).bind fun y1018 => (some ((bx1015.1.1, (bx1015.1.2.1, (bx1015.1.2.2.1, (bx1015.1.2.2.2.1, y1018)))))).bind fun bag_here1019 => (((((some bx1015.2).bind fun z1021 => (some (40692 : Int)).bind fun z1022 => x_mulS z1021 z1022).bind fun z1023 => (some (2147483399 : Int)).bind fun z1024 => x_mod z1023 z1024).bind fun z1025 => (some (31 : Int)).bind fun z1026 => x_div z1025 z1026).bind fun z1027 => (some size977).bind fun z1028 => x_mod z1027 z1028).bind fun r1029 => some (r1029, bag_here1019)) fun k1016 => ((some place1012).bind fun z1032 => (((some bag_here998).bind fun z1030 => some z1030.1).bind fun z1031 => some (z1031.length : Int)).bind fun z1033 => some (decide (z1032 < z1033))).bind fun c1014 => if c1014 = true then (((some bag_here998).bind fun z1034 => some z1034.1).bind fun z1035 => (some place1012).bind fun z1036 => x_ix z1035 z1036).bind fun cell1037 => ((some place1012).bind fun z1039 => (some (1 : Int)).bind fun z1040 => some (z1039 + z1040)).bind fun y1041 => (some ((bag_here998.1, (y1041, bag_here998.2.2)))).bind fun bag_here1042 => ((some cell1037).bind fun z1047 => ((some (10 : Int)).bind fun z1045 => (some (18 : Int)).bind fun z1046 => x_pow z1045 z1046).bind fun z1048 => some (decide (z1048 ≤ z1047))).bind fun c1044 => if c1044 = true then (some mix1009).bind fun y1049 => (some ((bag_here1042.1, (bag_here1042.2.1, (bag_here1042.2.2.1, (bag_here1042.2.2.2.1, y1049)))))).bind fun bag_here1050 => ((some cell1037).bind fun z1052 => (some size977).bind fun z1053 => x_div z1052 z1053).bind fun y1054 => (some ((bag_here1050.1, (bag_here1050.2.1, (y1054, bag_here1050.2.2.2))))).bind fun bag_here1055 => ((some cell1037).bind fun z1057 => (some size977).bind fun z1058 => x_mod z1057 z1058).bind fun r1059 => some (r1059, bag_here1055) else ((((some mix1009).bind fun z1062 => ((some cell1037).bind fun z1060 => (some (69621 : Int)).bind fun z1061 => x_mulS z1060 z1061).bind fun z1063 => some (z1062 + z1063)).bind fun z1064 => (some (1 : Int)).bind fun z1065 => some (z1064 + z1065)).bind fun z1066 => (some (2147483647 : Int)).bind fun z1067 => x_mod z1066 z1067).bind fun mix1068 => k1016 (bag_here1042, mix1068) else k1016 (bag_here998, mix1009)
def m__law_shuffled (bag_here1070 : R_bag) (count_here1071 : Int) : Option ((List Int) × R_bag) :=
  ((some count_here1071).bind fun z1072 => x_lrange 0 z1072).bind fun lamps1073 => (some ([] : (List Int))).bind fun line1077 => ((some count_here1071).bind fun z1081 => x_range 0 z1081).bind fun xs1084 => (foldO (fun (bx1082 : R_bag × (List Int) × (List Int)) y1083 => ((some bx1082.2.1).bind fun z1085 => some (z1085.length : Int)).bind fun x1086 => (m__law_draw bx1082.1 x1086).bind fun r1088 => (x_popAt bx1082.2.1 r1088.1).bind fun r1091 => (x_app bx1082.2.2 r1091.1).bind fun line1094 => some (r1088.2, r1091.2, line1094)) (bag_here1070, lamps1073, line1077) xs1084).bind fun bx1082 => (some bx1082.2.2).bind fun r1096 => some (r1096, bx1082.1)
def m__law_wired (bag_here1097 : R_bag) (shape1098 : Int) (split1099 : Int) (parent1100 : Int) (high1101 : Int) (low1102 : Int) : Option (Bool × R_bag) :=
  ((some shape1098).bind fun z1104 => (some (2 : Int)).bind fun z1105 => some (decide (z1104 < z1105))).bind fun c1103 => if c1103 = true then ((some (2 : Int)).bind fun z1108 => ((some (2 : Int)).bind fun z1106 => (some shape1098).bind fun z1107 => x_mulS z1106 z1107).bind fun z1109 => some (z1108 + z1109)).bind fun x1110 => (m__law_draw bag_here1097 x1110).bind fun r1112 => (some (0 : Int)).bind fun x1115 => ((some r1112.1).bind fun z1117 => (some x1115).bind fun z1118 => some (decide (z1117 = z1118))).bind fun x1119 => some (x1119, r1112.2) else ((some shape1098).bind fun z1122 => (some (2 : Int)).bind fun z1123 => some (decide (z1122 = z1123))).bind fun c1121 => if c1121 = true then ((some high1101).bind fun z1126 => ((some low1102).bind fun z1124 => (some (1 : Int)).bind fun z1125 => some (z1124 - z1125)).bind fun z1127 => some (decide (z1126 = z1127))).bind fun r1128 => some (r1128, bag_here1097) else ((some shape1098).bind fun z1130 => (some (3 : Int)).bind fun z1131 => some (decide (z1130 = z1131))).bind fun c1129 => if c1129 = true then ((some high1101).bind fun z1132 => (some parent1100).bind fun z1133 => some (decide (z1132 = z1133))).bind fun r1134 => some (r1134, bag_here1097) else (((some shape1098).bind fun z1135 => (some (4 : Int)).bind fun z1136 => some (decide (z1135 = z1136))).bind fun z1142 => andM z1142 (((some high1101).bind fun z1137 => (some split1099).bind fun z1138 => some (decide (z1137 < z1138))).bind fun z1141 => andM z1141 ((some split1099).bind fun z1139 => (some low1102).bind fun z1140 => some (decide (z1139 ≤ z1140))))).bind fun r1143 => some (r1143, bag_here1097)
def m__law_wires (bag_here1144 : R_bag) (line1145 : (List Int)) : Option ((List (Int × Int)) × R_bag) :=
  ((some (0 : Int)).bind fun z1168 => ((some (0 : Int)).bind fun z1166 => ((some (0 : Int)).bind fun z1164 => ((some (0 : Int)).bind fun z1162 => ((some (1 : Int)).bind fun z1160 => ((some (1 : Int)).bind fun z1158 => ((some (2 : Int)).bind fun z1156 => ((some (2 : Int)).bind fun z1154 => ((some (3 : Int)).bind fun z1152 => ((some (3 : Int)).bind fun z1150 => ((some (4 : Int)).bind fun z1148 => ((some (5 : Int)).bind fun z1146 => (some []).bind fun z1147 => some (z1146 :: z1147)).bind fun z1149 => some (z1148 :: z1149)).bind fun z1151 => some (z1150 :: z1151)).bind fun z1153 => some (z1152 :: z1153)).bind fun z1155 => some (z1154 :: z1155)).bind fun z1157 => some (z1156 :: z1157)).bind fun z1159 => some (z1158 :: z1159)).bind fun z1161 => some (z1160 :: z1161)).bind fun z1163 => some (z1162 :: z1163)).bind fun z1165 => some (z1164 :: z1165)).bind fun z1167 => some (z1166 :: z1167)).bind fun z1169 => some (z1168 :: z1169)).bind fun x1170 => (some (12 : Int)).bind fun x1172 => (m__law_draw bag_here1144 x1172).bind fun r1174 => ((some x1170).bind fun z1177 => (some r1174.1).bind fun z1178 => x_ix z1177 z1178).bind fun x1179 => (some (1 : Int)).bind fun x1181 => ((some line1145).bind fun z1183 => some (z1183.length : Int)).bind fun x1184 => (m__law_draw r1174.2 x1184).bind fun r1186 => ((some x1181).bind fun z1189 => (some r1186.1).bind fun z1190 => some (z1189 + z1190)).bind fun x1191 => (some ([] : (List (Int × Int)))).bind fun wires_here1193 => ((some (1 : Int)).bind fun z1199 => ((some line1145).bind fun z1197 => some (z1197.length : Int)).bind fun z1200 => x_range z1199 z1200).bind fun xs1203 => (foldO (fun (bx1201 : R_bag × (List (Int × Int))) y1202 => (m__law_draw bx1201.1 y1202).bind fun r1204 => ((some y1202).bind fun z1207 => x_range 0 z1207).bind fun xs1210 => (foldO (fun (bx1208 : R_bag × (List (Int × Int))) y1209 => (m__law_wired bx1208.1 x1179 x1191 r1204.1 y1209 y1202).bind fun r1212 => if r1212.1 = true then (((some line1145).bind fun z1215 => (some y1209).bind fun z1216 => x_ix z1215 z1216).bind fun z1219 => ((some line1145).bind fun z1217 => (some y1202).bind fun z1218 => x_ix z1217 z1218).bind fun z1220 => some (z1219, z1220)).bind fun y1221 => (x_app bx1208.2 y1221).bind fun wires_here1222 => some (r1212.2, wires_here1222) else some (r1212.2, bx1208.2)) (r1204.2, bx1201.2) xs1210).bind fun bx1208 => some (bx1208.1, bx1208.2)) (r1186.2, wires_here1193) xs1203).bind fun bx1201 => joinK (fun (bx1226 : R_bag × (List (Int × Int))) => (some bx1226.2).bind fun r1229 => some (r1229, bx1226.1)) fun k1227 => (some (2 : Int)).bind fun x1230 => (m__law_draw bx1201.1 x1230).bind fun r1232 => (some (1 : Int)).bind fun x1235 => ((some r1232.1).bind fun z1237 => (some x1235).bind fun z1238 => some (decide (z1237 = z1238))).bind fun x1239 => if x1239 = true then ((some bx1201.2).bind fun z1241 => some z1241.reverse).bind fun wires_here1242 => k1227 (r1232.2, wires_here1242) else k1227 (r1232.2, bx1201.2)
def m__law_all_in (lamps1244 : (List Int)) (listed1245 : (List Int)) : Option Bool :=
  (((some lamps1244).bind fun z1249 => x_comp (fun y1246 => (some y1246).bind fun z1247 => (some listed1245).bind fun z1248 => some (decide (z1247 ∈ z1248))) (fun y1246 => some y1246) z1249).bind fun z1250 => some (z1250.length : Int)).bind fun z1252 => ((some lamps1244).bind fun z1251 => some (z1251.length : Int)).bind fun z1253 => some (decide (z1252 = z1253))
def m__law_known (count_here1254 : Int) (hues_here1255 : Int) (wires_here1256 : (List (Int × Int))) (line1257 : (List Int)) : Option R_world :=
  (((some count_here1254).bind fun z1258 => x_range 0 z1258).bind fun z1260 => x_comp (fun y1259 => some true) (fun y1259 => some ([] : (List Int))) z1260).bind fun below1261 => ((some count_here1254).bind fun z1265 => x_range 0 z1265).bind fun xs1268 => (foldO (fun (bx1266 : (List (List Int))) y1267 => ((some line1257).bind fun z1273 => (((some count_here1254).bind fun z1269 => (some (1 : Int)).bind fun z1270 => some (z1269 - z1270)).bind fun z1271 => (some y1267).bind fun z1272 => some (z1271 - z1272)).bind fun z1274 => x_ix z1273 z1274).bind fun upper1275 => (some ([] : (List Int))).bind fun found1277 => (some wires_here1256).bind fun xs1281 => (foldO (fun (bx1279 : (List Int)) y1280 => (((some y1280).bind fun z1283 => some z1283.1).bind fun z1284 => (some upper1275).bind fun z1285 => some (decide (z1284 = z1285))).bind fun c1282 => if c1282 = true then (((some bx1279).bind fun z1289 => (((some y1280).bind fun z1286 => some z1286.2).bind fun z1287 => (some []).bind fun z1288 => some (z1287 :: z1288)).bind fun z1290 => x_cat z1289 z1290).bind fun z1294 => ((some bx1266).bind fun z1292 => ((some y1280).bind fun z1291 => some z1291.2).bind fun z1293 => x_ix z1292 z1293).bind fun z1295 => x_cat z1294 z1295).bind fun found1296 => some found1296 else some bx1279) found1277 xs1281).bind fun bx1279 => (((some count_here1254).bind fun z1298 => x_range 0 z1298).bind fun z1302 => x_comp (fun y1299 => (some y1299).bind fun z1300 => (some bx1279).bind fun z1301 => some (decide (z1300 ∈ z1301))) (fun y1299 => some y1299) z1302).bind fun y1303 => (some upper1275).bind fun n1304 => (x_set bx1266 n1304 y1303).bind fun below1305 => some below1305) below1261 xs1268).bind fun bx1266 => (some ([] : (List (List Int)))).bind fun above1307 => ((some count_here1254).bind fun z1311 => x_range 0 z1311).bind fun xs1314 => (foldO (fun (bx1312 : (List (List Int))) y1313 => (((some count_here1254).bind fun z1315 => x_range 0 z1315).bind fun z1321 => x_comp (fun y1316 => (some y1313).bind fun z1319 => ((some bx1266).bind fun z1317 => (some y1316).bind fun z1318 => x_ix z1317 z1318).bind fun z1320 => some (decide (z1319 ∈ z1320))) (fun y1316 => some y1316) z1321).bind fun y1322 => (x_app bx1312 y1322).bind fun above1323 => some above1323) above1307 xs1314).bind fun bx1312 => (some ([] : (List Int))).bind fun listed1325 => ((some count_here1254).bind fun z1329 => x_range 0 z1329).bind fun xs1332 => (foldO (fun (bx1330 : (List Int)) y1331 => (((some count_here1254).bind fun z1333 => x_range 0 z1333).bind fun z1337 => x_comp (fun y1334 => (some y1334).bind fun z1335 => (some bx1330).bind fun z1336 => some (!decide (z1335 ∈ z1336))) (fun y1334 => some y1334) z1337).bind fun left1338 => ((some left1338).bind fun z1346 => x_comp (fun y1340 => (((some bx1312).bind fun z1341 => (some y1340).bind fun z1342 => x_ix z1341 z1342).bind fun z1343 => (some bx1330).bind fun z1344 => some (z1343, z1344)).bind fun a1345 => m__law_all_in a1345.1 a1345.2) (fun y1340 => some y1340) z1346).bind fun ready1347 => ((some ready1347).bind fun z1349 => (some (0 : Int)).bind fun z1350 => x_ix z1349 z1350).bind fun y1351 => (x_app bx1330 y1351).bind fun listed1352 => some listed1352) listed1325 xs1332).bind fun bx1330 => ((some count_here1254).bind fun z1358 => ((some hues_here1255).bind fun z1356 => ((some wires_here1256).bind fun z1354 => (some bx1330).bind fun z1355 => some (z1354, z1355)).bind fun z1357 => some (z1356, z1357)).bind fun z1359 => some (z1358, z1359)).bind fun world_here1360 => (some bx1266).bind fun y1364 => (some ((world_here1360.1, (world_here1360.2.1, (world_here1360.2.2.1, (world_here1360.2.2.2, y1364)))) : (Int × Int × (List (Int × Int)) × (List Int) × (List (List Int))))).bind fun world_here1365 => (some bx1312).bind fun y1367 => (some ((world_here1365.1, (world_here1365.2.1, (world_here1365.2.2.1, (world_here1365.2.2.2.1, (world_here1365.2.2.2.2, y1367))))) : R_world)).bind fun world_here1368 => some world_here1368
def m__law_hues (bag_here1370 : R_bag) : Option (Int × R_bag) :=
  (some (2 : Int)).bind fun x1371 => (some (3 : Int)).bind fun x1373 => (m__law_draw bag_here1370 x1373).bind fun r1375 => ((some x1371).bind fun z1378 => (some r1375.1).bind fun z1379 => some (z1378 + z1379)).bind fun x1380 => joinK (fun (bx1383 : R_bag × Int) => (some bx1383.2).bind fun r1386 => some (r1386, bx1383.1)) fun k1384 => (some (5 : Int)).bind fun x1387 => (m__law_draw r1375.2 x1387).bind fun r1389 => (some (4 : Int)).bind fun x1392 => ((some r1389.1).bind fun z1394 => (some x1392).bind fun z1395 => some (decide (z1394 = z1395))).bind fun x1396 => if x1396 = true then (some (2 : Int)).bind fun x1398 => (some (9 : Int)).bind fun x1400 => (m__law_draw r1389.2 x1400).bind fun r1402 => ((some x1398).bind fun z1405 => (some r1402.1).bind fun z1406 => some (z1405 + z1406)).bind fun x1407 => k1384 (r1402.2, x1407) else k1384 (r1389.2, x1380)
def m__law_power (hues_here1409 : Int) (count_here1410 : Int) : Option Int :=
  (some (1 : Int)).bind fun many1411 => ((some count_here1410).bind fun z1413 => x_range 0 z1413).bind fun xs1416 => (foldO (fun (bx1414 : Int) y1415 => ((some bx1414).bind fun z1417 => (some hues_here1409).bind fun z1418 => x_mul z1417 z1418).bind fun many1419 => some many1419) many1411 xs1416).bind fun bx1414 => some bx1414
def m__law_count (bag_here1421 : R_bag) (hues_here1422 : Int) (room1423 : Int) : Option (Int × R_bag) :=
  (some (1 : Int)).bind fun most1424 => ((some (2 : Int)).bind fun z1427 => (some (17 : Int)).bind fun z1428 => x_range z1427 z1428).bind fun xs1431 => (foldO (fun (bx1429 : Int) y1430 => ((((some hues_here1422).bind fun z1433 => (some y1430).bind fun z1434 => some (z1433, z1434)).bind fun a1435 => m__law_power a1435.1 a1435.2).bind fun z1436 => (some room1423).bind fun z1437 => some (decide (z1436 ≤ z1437))).bind fun c1432 => if c1432 = true then (some y1430).bind fun most1438 => some most1438 else some bx1429) most1424 xs1431).bind fun bx1429 => (some (2 : Int)).bind fun x1441 => (m__law_draw bag_here1421 x1441).bind fun r1443 => (some (1 : Int)).bind fun x1446 => ((some r1443.1).bind fun z1448 => (some x1446).bind fun z1449 => some (decide (z1448 = z1449))).bind fun x1450 => if x1450 = true then (some bx1429).bind fun r1452 => some (r1452, r1443.2) else (some (1 : Int)).bind fun x1453 => (m__law_draw r1443.2 bx1429).bind fun r1455 => ((some x1453).bind fun z1458 => (some r1455.1).bind fun z1459 => some (z1458 + z1459)).bind fun x1460 => some (x1460, r1455.2)
def m__law_world (bag_here1462 : R_bag) (room1463 : Int) : Option (R_world × R_bag) :=
  (m__law_hues bag_here1462).bind fun r1464 => (m__law_count r1464.2 r1464.1 room1463).bind fun r1467 => (m__law_shuffled r1467.2 r1467.1).bind fun r1470 => (m__law_wires r1470.2 r1470.1).bind fun r1473 => (((some r1467.1).bind fun z1480 => ((some r1464.1).bind fun z1478 => ((some r1473.1).bind fun z1476 => (some r1470.1).bind fun z1477 => some (z1476, z1477)).bind fun z1479 => some (z1478, z1479)).bind fun z1481 => some (z1480, z1481)).bind fun a1482 => m__law_known a1482.1 a1482.2.1 a1482.2.2.1 a1482.2.2.2).bind fun r1483 => some (r1483, r1473.2)
def m__law_large (bag_here1484 : R_bag) (least1485 : Int) : Option (R_world × R_bag) :=
  (m__law_hues bag_here1484).bind fun r1486 => ((some (17 : Int)).bind fun z1489 => (some least1485).bind fun z1490 => some (z1489 - z1490)).bind fun x1491 => (m__law_draw r1486.2 x1491).bind fun r1493 => ((some least1485).bind fun z1496 => (some r1493.1).bind fun z1497 => some (z1496 + z1497)).bind fun x1498 => (m__law_shuffled r1493.2 x1498).bind fun r1500 => (m__law_wires r1500.2 r1500.1).bind fun r1503 => (((some x1498).bind fun z1510 => ((some r1486.1).bind fun z1508 => ((some r1503.1).bind fun z1506 => (some r1500.1).bind fun z1507 => some (z1506, z1507)).bind fun z1509 => some (z1508, z1509)).bind fun z1511 => some (z1510, z1511)).bind fun a1512 => m__law_known a1512.1 a1512.2.1 a1512.2.2.1 a1512.2.2.2).bind fun r1513 => some (r1513, r1503.2)
def m__law_any (bag_here1514 : R_bag) : Option (R_world × R_bag) :=
  (some (2 : Int)).bind fun x1516 => (m__law_draw bag_here1514 x1516).bind fun r1518 => (some (1 : Int)).bind fun x1521 => ((some r1518.1).bind fun z1523 => (some x1521).bind fun z1524 => some (decide (z1523 = z1524))).bind fun x1525 => if x1525 = true then (some (1 : Int)).bind fun x1527 => (m__law_large r1518.2 x1527).bind fun r1529 => some (r1529.1, r1529.2) else (some (64 : Int)).bind fun x1532 => (m__law_world r1518.2 x1532).bind fun r1534 => some (r1534.1, r1534.2)
def m__law_state (bag_here1537 : R_bag) (world_here1538 : R_world) : Option ((List Int) × R_bag) :=
  (((some world_here1538).bind fun z1539 => some z1539.1).bind fun z1540 => x_range 0 z1540).bind fun z1550 => (x_mapE (fun bag_here1542 y1541 => ((some world_here1538).bind fun z1544 => some z1544.2.1).bind fun x1545 => (m__law_draw bag_here1542 x1545).bind fun r1547 => some (r1547.1, r1547.2)) bag_here1537 z1550).bind fun r1551 => (some r1551.1).bind fun x1555 => some (x1555, r1551.2)
def m__law_moved (world_here1557 : R_world) (state_here1558 : (List Int)) (lamp1559 : Int) : Option (List Int) :=
  (some state_here1558).bind fun row1560 => (((some row1560).bind fun z1564 => (some lamp1559).bind fun z1565 => x_ix z1564 z1565).bind fun z1566 => (some (1 : Int)).bind fun z1567 => some (z1566 - z1567)).bind fun y1568 => (some lamp1559).bind fun n1569 => (x_set row1560 n1569 y1568).bind fun row1570 => (((some world_here1557).bind fun z1572 => some z1572.2.2.2.2.1).bind fun z1573 => (some lamp1559).bind fun z1574 => x_ix z1573 z1574).bind fun xs1577 => (foldO (fun (bx1575 : (List Int)) y1576 => ((((some bx1575).bind fun z1578 => (some y1576).bind fun z1579 => x_ix z1578 z1579).bind fun z1580 => (some (1 : Int)).bind fun z1581 => some (z1580 - z1581)).bind fun z1583 => ((some world_here1557).bind fun z1582 => some z1582.2.1).bind fun z1584 => x_mod z1583 z1584).bind fun y1585 => (some y1576).bind fun n1586 => (x_set bx1575 n1586 y1585).bind fun row1587 => some row1587) row1570 xs1577).bind fun bx1575 => some bx1575
def m__law_lit_beneath (world_here1589 : R_world) (state_here1590 : (List Int)) (lamp1591 : Int) : Option (List Int) :=
  (((some world_here1589).bind fun z1592 => some z1592.2.2.2.2.1).bind fun z1593 => (some lamp1591).bind fun z1594 => x_ix z1593 z1594).bind fun z1600 => x_comp (fun y1595 => ((some state_here1590).bind fun z1596 => (some y1595).bind fun z1597 => x_ix z1596 z1597).bind fun z1598 => (some (0 : Int)).bind fun z1599 => some (decide (z1599 < z1598))) (fun y1595 => some y1595) z1600
def m__law_may (world_here1601 : R_world) (state_here1602 : (List Int)) (lamp1603 : Int) (strict1604 : Bool) : Option Bool :=
  (((some state_here1602).bind fun z1606 => (some lamp1603).bind fun z1607 => x_ix z1606 z1607).bind fun z1608 => (some (1 : Int)).bind fun z1609 => some (decide (z1608 < z1609))).bind fun c1605 => if c1605 = true then some false else ((some strict1604).bind fun z1610 => some (!z1610)).bind fun z1618 => orM z1618 ((((some world_here1601).bind fun z1613 => ((some state_here1602).bind fun z1611 => (some lamp1603).bind fun z1612 => some (z1611, z1612)).bind fun z1614 => some (z1613, z1614)).bind fun a1615 => m__law_lit_beneath a1615.1 a1615.2.1 a1615.2.2).bind fun z1616 => (some ([] : (List Int))).bind fun z1617 => some (decide (z1616 = z1617)))
def m__law_run (bag_here1619 : R_bag) (world_here1620 : R_world) (state_here1621 : (List Int)) (strict1622 : Bool) (most1623 : Int) : Option ((List Int) × R_bag) :=
  (some ([] : (List Int))).bind fun trail1624 => ((some most1623).bind fun z1628 => (some (1 : Int)).bind fun z1629 => some (z1628 + z1629)).bind fun x1630 => (m__law_draw bag_here1619 x1630).bind fun r1632 => ((some r1632.1).bind fun z1635 => x_range 0 z1635).bind fun xs1638 => forK (fun (bx1636 : R_bag × (List Int) × (List Int)) y1637 k1639 k1640 => ((((some world_here1620).bind fun z1641 => some z1641.1).bind fun z1642 => x_range 0 z1642).bind fun z1651 => x_comp (fun y1643 => ((some world_here1620).bind fun z1648 => ((some bx1636.2.1).bind fun z1646 => ((some y1643).bind fun z1644 => (some strict1622).bind fun z1645 => some (z1644, z1645)).bind fun z1647 => some (z1646, z1647)).bind fun z1649 => some (z1648, z1649)).bind fun a1650 => m__law_may a1650.1 a1650.2.1 a1650.2.2.1 a1650.2.2.2) (fun y1643 => some y1643) z1651).bind fun ready1652 => ((some ready1652).bind fun z1655 => (some ([] : (List Int))).bind fun z1656 => some (decide (z1655 = z1656))).bind fun c1654 => if c1654 = true then k1640 (bx1636.1, bx1636.2.1, bx1636.2.2) else ((some ready1652).bind fun z1657 => some (z1657.length : Int)).bind fun x1658 => (m__law_draw bx1636.1 x1658).bind fun r1660 => ((some ready1652).bind fun z1663 => (some r1660.1).bind fun z1664 => x_ix z1663 z1664).bind fun x1665 => (some x1665).bind fun y1667 => (x_app bx1636.2.2 y1667).bind fun trail1668 => (((some world_here1620).bind fun z1672 => ((some bx1636.2.1).bind fun z1670 => (some x1665).bind fun z1671 => some (z1670, z1671)).bind fun z1673 => some (z1672, z1673)).bind fun a1674 => m__law_moved a1674.1 a1674.2.1 a1674.2.2).bind fun state_here1675 => k1639 (r1660.2, state_here1675, trail1668)) (fun bx1636 => (some bx1636.2.2).bind fun r1677 => some (r1677, bx1636.1)) xs1638 (r1632.2, state_here1621, trail1624)
def m__law_counts (world_here1678 : R_world) (source1679 : (List Int)) (target1680 : (List Int)) (least1681 : Bool) : Option (List Int) :=
  (((some (0 : Int)).bind fun z1682 => (some []).bind fun z1683 => some (z1682 :: z1683)).bind fun z1685 => ((some world_here1678).bind fun z1684 => some z1684.1).bind fun z1686 => x_rep z1685 z1686).bind fun counts_here1687 => ((some world_here1678).bind fun z1691 => some z1691.2.2.2.1).bind fun xs1694 => (foldO (fun (bx1692 : (List Int)) y1693 => (((((some world_here1678).bind fun z1695 => some z1695.2.2.2.2.2).bind fun z1696 => (some y1693).bind fun z1697 => x_ix z1696 z1697).bind fun z1701 => x_comp (fun y1698 => some true) (fun y1698 => (some bx1692).bind fun z1699 => (some y1698).bind fun z1700 => x_ix z1699 z1700) z1701).bind fun z1702 => some z1702.sum).bind fun load1703 => ((((some source1679).bind fun z1705 => (some y1693).bind fun z1706 => x_ix z1705 z1706).bind fun z1709 => ((some target1680).bind fun z1707 => (some y1693).bind fun z1708 => x_ix z1707 z1708).bind fun z1710 => some (z1709 - z1710)).bind fun z1716 => ((((some world_here1678).bind fun z1711 => some z1711.2.1).bind fun z1712 => (some (1 : Int)).bind fun z1713 => some (z1712 - z1713)).bind fun z1714 => (some load1703).bind fun z1715 => x_mul z1714 z1715).bind fun z1717 => some (z1716 + z1717)).bind fun number1718 => ((some least1681).bind fun c1720 => if c1720 = true then ((some number1718).bind fun z1723 => ((some world_here1678).bind fun z1722 => some z1722.2.1).bind fun z1724 => x_mod z1723 z1724).bind fun number1725 => some number1725 else some number1718).bind fun bx1721 => (some bx1721).bind fun y1727 => (some y1693).bind fun n1728 => (x_set bx1692 n1728 y1727).bind fun counts_here1729 => some counts_here1729) counts_here1687 xs1694).bind fun bx1692 => some bx1692
def m__law_is_integer (value1731 : Int) : Option Bool :=
  ((some value1731).bind fun _ => some true).bind fun z1733 => andM z1733 (((some value1731).bind fun _ => some false).bind fun z1732 => some (!z1732))
def m__law_is_run (world_here1734 : R_world) (told1735 : (List Int)) : Option Bool :=
  (((some told1735).bind fun _ => some true).bind fun z1737 => some (!z1737)).bind fun c1736 => if c1736 = true then some false else (some told1735).bind fun xs1740 => forK (fun (bx1738 : Unit) y1739 k1741 k1742 => ((((some y1739).bind fun a1744 => m__law_is_integer a1744).bind fun z1745 => some (!z1745)).bind fun z1752 => orM z1752 (((some y1739).bind fun z1746 => (some (0 : Int)).bind fun z1747 => some (decide (z1746 < z1747))).bind fun z1751 => orM z1751 ((some y1739).bind fun z1749 => ((some world_here1734).bind fun z1748 => some z1748.1).bind fun z1750 => some (decide (z1750 ≤ z1749))))).bind fun c1743 => if c1743 = true then some false else k1741 ()) (fun bx1738 => some true) xs1740 ()
def m__law_same_state (told1753 : (List Int)) (due1754 : (List Int)) : Option Bool :=
  ((((some told1753).bind fun _ => some true).bind fun z1756 => some (!z1756)).bind fun z1761 => orM z1761 (((some told1753).bind fun z1757 => some (z1757.length : Int)).bind fun z1759 => ((some due1754).bind fun z1758 => some (z1758.length : Int)).bind fun z1760 => some (!decide (z1759 = z1760)))).bind fun c1755 => if c1755 = true then some false else (((some due1754).bind fun z1762 => some (z1762.length : Int)).bind fun z1763 => x_range 0 z1763).bind fun xs1766 => forK (fun (bx1764 : Unit) y1765 k1767 k1768 => (((((some told1753).bind fun z1770 => (some y1765).bind fun z1771 => x_ix z1770 z1771).bind fun a1772 => m__law_is_integer a1772).bind fun z1773 => some (!z1773)).bind fun z1780 => orM z1780 (((some told1753).bind fun z1774 => (some y1765).bind fun z1775 => x_ix z1774 z1775).bind fun z1778 => ((some due1754).bind fun z1776 => (some y1765).bind fun z1777 => x_ix z1776 z1777).bind fun z1779 => some (!decide (z1778 = z1779)))).bind fun c1769 => if c1769 = true then some false else k1767 ()) (fun bx1764 => some true) xs1766 ()
def m__law_same_states (told1781 : (List (List Int))) (due1782 : (List (List Int))) : Option Bool :=
  ((((some told1781).bind fun _ => some true).bind fun z1784 => some (!z1784)).bind fun z1789 => orM z1789 (((some told1781).bind fun z1785 => some (z1785.length : Int)).bind fun z1787 => ((some due1782).bind fun z1786 => some (z1786.length : Int)).bind fun z1788 => some (!decide (z1787 = z1788)))).bind fun c1783 => if c1783 = true then some false else (((some due1782).bind fun z1790 => some (z1790.length : Int)).bind fun z1791 => x_range 0 z1791).bind fun xs1794 => forK (fun (bx1792 : Unit) y1793 k1795 k1796 => (((((some told1781).bind fun z1798 => (some y1793).bind fun z1799 => x_ix z1798 z1799).bind fun z1802 => ((some due1782).bind fun z1800 => (some y1793).bind fun z1801 => x_ix z1800 z1801).bind fun z1803 => some (z1802, z1803)).bind fun a1804 => m__law_same_state a1804.1 a1804.2).bind fun z1805 => some (!z1805)).bind fun c1797 => if c1797 = true then some false else k1795 ()) (fun bx1792 => some true) xs1794 ()
def m__law_due_run (world_here1806 : R_world) (source1807 : (List Int)) (target1808 : (List Int)) : Option (List Int) :=
  (((some world_here1806).bind fun z1813 => ((some source1807).bind fun z1811 => ((some target1808).bind fun z1809 => (some false).bind fun z1810 => some (z1809, z1810)).bind fun z1812 => some (z1811, z1812)).bind fun z1814 => some (z1813, z1814)).bind fun a1815 => m__law_counts a1815.1 a1815.2.1 a1815.2.2.1 a1815.2.2.2).bind fun left1816 => (some ([] : (List Int))).bind fun trail1820 => (some source1807).bind fun state_here1824 => ((some (24 : Int)).bind fun z1826 => x_range 0 z1826).bind fun xs1829 => forK (fun (bx1827 : (List Int) × (List Int) × (List Int)) y1828 k1830 k1831 => ((((some world_here1806).bind fun z1832 => some z1832.1).bind fun z1833 => x_range 0 z1833).bind fun z1839 => x_comp (fun y1834 => ((some bx1827.1).bind fun z1835 => (some y1834).bind fun z1836 => x_ix z1835 z1836).bind fun z1837 => (some (0 : Int)).bind fun z1838 => some (decide (z1838 < z1837))) (fun y1834 => some y1834) z1839).bind fun open_lamps1840 => ((some open_lamps1840).bind fun z1850 => x_comp (fun y1842 => ((some world_here1806).bind fun z1847 => ((some bx1827.2.2).bind fun z1845 => ((some y1842).bind fun z1843 => (some true).bind fun z1844 => some (z1843, z1844)).bind fun z1846 => some (z1845, z1846)).bind fun z1848 => some (z1847, z1848)).bind fun a1849 => m__law_may a1849.1 a1849.2.1 a1849.2.2.1 a1849.2.2.2) (fun y1842 => some y1842) z1850).bind fun ready1851 => ((some ready1851).bind fun z1854 => (some ([] : (List Int))).bind fun z1855 => some (decide (z1854 = z1855))).bind fun c1853 => if c1853 = true then k1831 (bx1827.1, bx1827.2.1, bx1827.2.2) else ((some ready1851).bind fun z1856 => (some (0 : Int)).bind fun z1857 => x_ix z1856 z1857).bind fun lamp1858 => (((some bx1827.1).bind fun z1860 => (some lamp1858).bind fun z1861 => x_ix z1860 z1861).bind fun z1862 => (some (1 : Int)).bind fun z1863 => some (z1862 - z1863)).bind fun y1864 => (some lamp1858).bind fun n1865 => (x_set bx1827.1 n1865 y1864).bind fun left1866 => (some lamp1858).bind fun y1868 => (x_app bx1827.2.1 y1868).bind fun trail1869 => (((some world_here1806).bind fun z1873 => ((some bx1827.2.2).bind fun z1871 => (some lamp1858).bind fun z1872 => some (z1871, z1872)).bind fun z1874 => some (z1873, z1874)).bind fun a1875 => m__law_moved a1875.1 a1875.2.1 a1875.2.2).bind fun state_here1876 => k1830 (left1866, trail1869, state_here1876)) (fun bx1827 => some bx1827.2.1) xs1829 (left1816, trail1820, state_here1824)
def m__law_same_pairs (told1878 : (List (Int × (List Int)))) (due1879 : (List (Int × (List Int)))) : Option Bool :=
  ((((some told1878).bind fun _ => some true).bind fun z1881 => some (!z1881)).bind fun z1886 => orM z1886 (((some told1878).bind fun z1882 => some (z1882.length : Int)).bind fun z1884 => ((some due1879).bind fun z1883 => some (z1883.length : Int)).bind fun z1885 => some (!decide (z1884 = z1885)))).bind fun c1880 => if c1880 = true then some false else (((some due1879).bind fun z1887 => some (z1887.length : Int)).bind fun z1888 => x_range 0 z1888).bind fun xs1891 => forK (fun (bx1889 : Unit) y1890 k1892 k1893 => (((((some told1878).bind fun z1895 => (some y1890).bind fun z1896 => x_ix z1895 z1896).bind fun _ => some true).bind fun z1897 => some (!z1897)).bind fun z1903 => orM z1903 ((((some told1878).bind fun z1898 => (some y1890).bind fun z1899 => x_ix z1898 z1899).bind fun _ => some 2).bind fun z1901 => (some (2 : Int)).bind fun z1902 => some (!decide (z1901 = z1902)))).bind fun c1894 => if c1894 = true then some false else ((((((some told1878).bind fun z1905 => (some y1890).bind fun z1906 => x_ix z1905 z1906).bind fun z1907 => some z1907.1).bind fun a1908 => m__law_is_integer a1908).bind fun z1909 => some (!z1909)).bind fun z1918 => orM z1918 ((((some told1878).bind fun z1910 => (some y1890).bind fun z1911 => x_ix z1910 z1911).bind fun z1912 => some z1912.1).bind fun z1916 => (((some due1879).bind fun z1913 => (some y1890).bind fun z1914 => x_ix z1913 z1914).bind fun z1915 => some z1915.1).bind fun z1917 => some (!decide (z1916 = z1917)))).bind fun c1904 => if c1904 = true then some false else ((((((some told1878).bind fun z1920 => (some y1890).bind fun z1921 => x_ix z1920 z1921).bind fun z1922 => some z1922.2).bind fun z1926 => (((some due1879).bind fun z1923 => (some y1890).bind fun z1924 => x_ix z1923 z1924).bind fun z1925 => some z1925.2).bind fun z1927 => some (z1926, z1927)).bind fun a1928 => m__law_same_state a1928.1 a1928.2).bind fun z1929 => some (!z1929)).bind fun c1919 => if c1919 = true then some false else k1892 ()) (fun bx1889 => some true) xs1891 ()
def m__law_downs (world_here1930 : R_world) (state_here1931 : (List Int)) : Option (List (Int × (List Int))) :=
  ((((some world_here1930).bind fun z1932 => some z1932.1).bind fun z1933 => x_range 0 z1933).bind fun z1942 => x_comp (fun y1934 => ((some world_here1930).bind fun z1939 => ((some state_here1931).bind fun z1937 => ((some y1934).bind fun z1935 => (some true).bind fun z1936 => some (z1935, z1936)).bind fun z1938 => some (z1937, z1938)).bind fun z1940 => some (z1939, z1940)).bind fun a1941 => m__law_may a1941.1 a1941.2.1 a1941.2.2.1 a1941.2.2.2) (fun y1934 => some y1934) z1942).bind fun lamps1943 => (some lamps1943).bind fun z1953 => x_comp (fun y1945 => some true) (fun y1945 => (some y1945).bind fun z1951 => (((some world_here1930).bind fun z1948 => ((some state_here1931).bind fun z1946 => (some y1945).bind fun z1947 => some (z1946, z1947)).bind fun z1949 => some (z1948, z1949)).bind fun a1950 => m__law_moved a1950.1 a1950.2.1 a1950.2.2).bind fun z1952 => some (z1951, z1952)) z1953
def m__law_raised (world_here1954 : R_world) (state_here1955 : (List Int)) (lamp1956 : Int) : Option (List Int) :=
  (some state_here1955).bind fun row1957 => (((some row1957).bind fun z1961 => (some lamp1956).bind fun z1962 => x_ix z1961 z1962).bind fun z1963 => (some (1 : Int)).bind fun z1964 => some (z1963 + z1964)).bind fun y1965 => (some lamp1956).bind fun n1966 => (x_set row1957 n1966 y1965).bind fun row1967 => (((some world_here1954).bind fun z1969 => some z1969.2.2.2.2.1).bind fun z1970 => (some lamp1956).bind fun z1971 => x_ix z1970 z1971).bind fun xs1974 => (foldO (fun (bx1972 : (List Int)) y1973 => (some (0 : Int)).bind fun y1975 => (some y1973).bind fun n1976 => (x_set bx1972 n1976 y1975).bind fun row1977 => some row1977) row1967 xs1974).bind fun bx1972 => some bx1972
def m__law_ups (world_here1979 : R_world) (state_here1980 : (List Int)) : Option (List (Int × (List Int))) :=
  (((some world_here1979).bind fun z1981 => some z1981.2.1).bind fun z1982 => (some (1 : Int)).bind fun z1983 => some (z1982 - z1983)).bind fun top1984 => (some ([] : (List (Int × (List Int))))).bind fun pairs1986 => (((some world_here1979).bind fun z1990 => some z1990.1).bind fun z1991 => x_range 0 z1991).bind fun xs1994 => (foldO (fun (bx1992 : (List (Int × (List Int)))) y1993 => ((((some world_here1979).bind fun z1995 => some z1995.2.2.2.2.1).bind fun z1996 => (some y1993).bind fun z1997 => x_ix z1996 z1997).bind fun z2003 => x_comp (fun y1998 => ((some state_here1980).bind fun z1999 => (some y1998).bind fun z2000 => x_ix z1999 z2000).bind fun z2001 => (some top1984).bind fun z2002 => some (decide (z2001 < z2002))) (fun y1998 => some y1998) z2003).bind fun dimmer2004 => ((((some state_here1980).bind fun z2007 => (some y1993).bind fun z2008 => x_ix z2007 z2008).bind fun z2009 => (some top1984).bind fun z2010 => some (decide (z2009 < z2010))).bind fun z2013 => andM z2013 ((some dimmer2004).bind fun z2011 => (some ([] : (List Int))).bind fun z2012 => some (decide (z2011 = z2012)))).bind fun c2006 => if c2006 = true then ((some y1993).bind fun z2019 => (((some world_here1979).bind fun z2016 => ((some state_here1980).bind fun z2014 => (some y1993).bind fun z2015 => some (z2014, z2015)).bind fun z2017 => some (z2016, z2017)).bind fun a2018 => m__law_raised a2018.1 a2018.2.1 a2018.2.2).bind fun z2020 => some (z2019, z2020)).bind fun y2021 => (x_app bx1992 y2021).bind fun pairs2022 => some pairs2022 else some bx1992) pairs1986 xs1994).bind fun bx1992 => some bx1992
def m__law_neighbours_right (world_here2024 : R_world) (house2025 : HouseD) (state_here2026 : (List Int)) : Option Bool :=
  (((some world_here2024).bind fun z2027 => (some state_here2026).bind fun z2028 => some (z2027, z2028)).bind fun a2029 => m__law_downs a2029.1 a2029.2).bind fun downs_here2030 => (((some house2025).bind fun z2032 => (some state_here2026).bind fun z2033 => some (z2032, z2033)).bind fun a2034 => m_covered_by a2034.1 a2034.2).bind fun told2035 => ((((some told2035).bind fun z2040 => (some downs_here2030).bind fun z2041 => some (z2040, z2041)).bind fun a2042 => m__law_same_pairs a2042.1 a2042.2).bind fun z2043 => some (!z2043)).bind fun c2039 => if c2039 = true then some false else ((some (0 : Int)).bind fun z2044 => (some state_here2026).bind fun z2045 => some (z2044, z2045)).bind fun y2046 => (x_app told2035 y2046).bind fun told2047 => ((((((some house2025).bind fun z2050 => (some state_here2026).bind fun z2051 => some (z2050, z2051)).bind fun a2052 => m_covered_by a2052.1 a2052.2).bind fun z2053 => (some downs_here2030).bind fun z2054 => some (z2053, z2054)).bind fun a2055 => m__law_same_pairs a2055.1 a2055.2).bind fun z2056 => some (!z2056)).bind fun c2049 => if c2049 = true then some false else ((((((some house2025).bind fun z2058 => (some state_here2026).bind fun z2059 => some (z2058, z2059)).bind fun a2060 => m_covers_of a2060.1 a2060.2).bind fun z2064 => (((some world_here2024).bind fun z2061 => (some state_here2026).bind fun z2062 => some (z2061, z2062)).bind fun a2063 => m__law_ups a2063.1 a2063.2).bind fun z2065 => some (z2064, z2065)).bind fun a2066 => m__law_same_pairs a2066.1 a2066.2).bind fun z2067 => some (!z2067)).bind fun c2057 => if c2057 = true then some false else (((some world_here2024).bind fun z2068 => some z2068.1).bind fun z2069 => x_range 0 z2069).bind fun xs2072 => forK (fun (bx2070 : Unit) y2071 k2073 k2074 => (((some state_here2026).bind fun z2076 => (some y2071).bind fun z2077 => x_ix z2076 z2077).bind fun z2078 => (some (0 : Int)).bind fun z2079 => some (decide (z2079 < z2078))).bind fun c2075 => if c2075 = true then (((some world_here2024).bind fun z2084 => ((some state_here2026).bind fun z2082 => ((some y2071).bind fun z2080 => (some true).bind fun z2081 => some (z2080, z2081)).bind fun z2083 => some (z2082, z2083)).bind fun z2085 => some (z2084, z2085)).bind fun a2086 => m__law_may a2086.1 a2086.2.1 a2086.2.2.1 a2086.2.2.2).bind fun careful_one2087 => (((some house2025).bind fun z2096 => ((some state_here2026).bind fun z2094 => (((some world_here2024).bind fun z2091 => ((some state_here2026).bind fun z2089 => (some y2071).bind fun z2090 => some (z2089, z2090)).bind fun z2092 => some (z2091, z2092)).bind fun a2093 => m__law_moved a2093.1 a2093.2.1 a2093.2.2).bind fun z2095 => some (z2094, z2095)).bind fun z2097 => some (z2096, z2097)).bind fun a2098 => m_is_cover a2098.1 a2098.2.1 a2098.2.2).bind fun told2099 => ((((some told2099).bind fun _ => some true).bind fun z2102 => some (!z2102)).bind fun z2105 => orM z2105 ((some told2099).bind fun z2103 => (some careful_one2087).bind fun z2104 => some (!decide (z2103 = z2104)))).bind fun c2101 => if c2101 = true then some false else k2073 () else k2073 ()) (fun bx2070 => some true) xs2072 ()
def m__law_no_cover (house2106 : HouseD) (first2107 : (List Int)) (second2108 : (List Int)) : Option Bool :=
  (((some house2106).bind fun z2111 => ((some first2107).bind fun z2109 => (some second2108).bind fun z2110 => some (z2109, z2110)).bind fun z2112 => some (z2111, z2112)).bind fun a2113 => m_is_cover a2113.1 a2113.2.1 a2113.2.2).bind fun z2114 => (some false).bind fun z2115 => some (decide (z2114 = z2115))
def m__law_steps_right (house2116 : HouseD) (states2117 : (List (List Int))) (trail2118 : (List Int)) : Option Bool :=
  (((some trail2118).bind fun z2119 => some (z2119.length : Int)).bind fun z2120 => x_range 0 z2120).bind fun xs2123 => forK (fun (bx2121 : Unit) y2122 k2124 k2125 => ((((some house2116).bind fun z2135 => (((some states2117).bind fun z2127 => (some y2122).bind fun z2128 => x_ix z2127 z2128).bind fun z2133 => ((some states2117).bind fun z2131 => ((some y2122).bind fun z2129 => (some (1 : Int)).bind fun z2130 => some (z2129 + z2130)).bind fun z2132 => x_ix z2131 z2132).bind fun z2134 => some (z2133, z2134)).bind fun z2136 => some (z2135, z2136)).bind fun a2137 => m_is_cover a2137.1 a2137.2.1 a2137.2.2).bind fun z2138 => (some true).bind fun z2139 => some (!decide (z2138 = z2139))).bind fun c2126 => if c2126 = true then some false else ((((some house2116).bind fun z2149 => (((some states2117).bind fun z2143 => ((some y2122).bind fun z2141 => (some (1 : Int)).bind fun z2142 => some (z2141 + z2142)).bind fun z2144 => x_ix z2143 z2144).bind fun z2147 => ((some states2117).bind fun z2145 => (some y2122).bind fun z2146 => x_ix z2145 z2146).bind fun z2148 => some (z2147, z2148)).bind fun z2150 => some (z2149, z2150)).bind fun a2151 => m__law_no_cover a2151.1 a2151.2.1 a2151.2.2).bind fun z2152 => some (!z2152)).bind fun c2140 => if c2140 = true then some false else ((((some house2116).bind fun z2160 => (((some states2117).bind fun z2154 => (some y2122).bind fun z2155 => x_ix z2154 z2155).bind fun z2158 => ((some states2117).bind fun z2156 => (some y2122).bind fun z2157 => x_ix z2156 z2157).bind fun z2159 => some (z2158, z2159)).bind fun z2161 => some (z2160, z2161)).bind fun a2162 => m__law_no_cover a2162.1 a2162.2.1 a2162.2.2).bind fun z2163 => some (!z2163)).bind fun c2153 => if c2153 = true then some false else ((((some y2122).bind fun z2165 => (some (2 : Int)).bind fun z2166 => some (z2165 + z2166)).bind fun z2168 => ((some states2117).bind fun z2167 => some (z2167.length : Int)).bind fun z2169 => some (decide (z2168 < z2169))).bind fun z2182 => andM z2182 ((((some house2116).bind fun z2178 => (((some states2117).bind fun z2170 => (some y2122).bind fun z2171 => x_ix z2170 z2171).bind fun z2176 => ((some states2117).bind fun z2174 => ((some y2122).bind fun z2172 => (some (2 : Int)).bind fun z2173 => some (z2172 + z2173)).bind fun z2175 => x_ix z2174 z2175).bind fun z2177 => some (z2176, z2177)).bind fun z2179 => some (z2178, z2179)).bind fun a2180 => m__law_no_cover a2180.1 a2180.2.1 a2180.2.2).bind fun z2181 => some (!z2181))).bind fun c2164 => if c2164 = true then some false else (((some house2116).bind fun z2185 => ((some states2117).bind fun z2183 => (some y2122).bind fun z2184 => x_ix z2183 z2184).bind fun z2186 => some (z2185, z2186)).bind fun a2187 => m_worth a2187.1 a2187.2).bind fun first2188 => (((some house2116).bind fun z2194 => ((some states2117).bind fun z2192 => ((some y2122).bind fun z2190 => (some (1 : Int)).bind fun z2191 => some (z2190 + z2191)).bind fun z2193 => x_ix z2192 z2193).bind fun z2195 => some (z2194, z2195)).bind fun a2196 => m_worth a2196.1 a2196.2).bind fun second2197 => ((((some first2188).bind fun a2200 => m__law_is_integer a2200).bind fun z2201 => some (!z2201)).bind fun z2209 => orM z2209 ((((some second2197).bind fun a2202 => m__law_is_integer a2202).bind fun z2203 => some (!z2203)).bind fun z2208 => orM z2208 (((some first2188).bind fun z2204 => (some second2197).bind fun z2205 => some (z2204 - z2205)).bind fun z2206 => (some (1 : Int)).bind fun z2207 => some (!decide (z2206 = z2207))))).bind fun c2199 => if c2199 = true then some false else ((((some house2116).bind fun z2217 => (((some states2117).bind fun z2210 => (some y2122).bind fun z2211 => x_ix z2210 z2211).bind fun z2215 => ((some states2117).bind fun z2213 => ((some (1 : Int)).bind fun z2212 => some (-z2212)).bind fun z2214 => x_ix z2213 z2214).bind fun z2216 => some (z2215, z2216)).bind fun z2218 => some (z2217, z2218)).bind fun a2219 => m_next_careful a2219.1 a2219.2.1 a2219.2.2).bind fun z2222 => z2222).bind fun lamp2220 => ((((some lamp2220).bind fun a2224 => m__law_is_integer a2224).bind fun z2225 => some (!z2225)).bind fun z2230 => orM z2230 ((some lamp2220).bind fun z2228 => ((some trail2118).bind fun z2226 => (some y2122).bind fun z2227 => x_ix z2226 z2227).bind fun z2229 => some (!decide (z2228 = z2229)))).bind fun c2223 => if c2223 = true then some false else ((((some house2116).bind fun z2242 => (((some states2117).bind fun z2232 => (some y2122).bind fun z2233 => x_ix z2232 z2233).bind fun z2240 => ((some states2117).bind fun z2235 => ((some (1 : Int)).bind fun z2234 => some (-z2234)).bind fun z2236 => x_ix z2235 z2236).bind fun z2241 => some (z2240, z2241)).bind fun z2243 => some (z2242, z2243)).bind fun a2244 => (((some trail2118).bind fun z2237 => some (z2237.length : Int)).bind fun z2238 => (some y2122).bind fun z2239 => some (z2238 - z2239)).bind fun a2245 => m_careful_run a2244.1 a2244.2.1 a2244.2.2 a2245).bind fun z2250 => ((some trail2118).bind fun z2247 => ((some y2122).bind fun z2246 => some (some z2246)).bind fun z2248 => (some none).bind fun z2249 => some (cutL z2247 z2248 z2249)).bind fun z2251 => some (!decide (z2250 = z2251))).bind fun c2231 => if c2231 = true then some false else k2124 ()) (fun bx2121 => (((some house2116).bind fun z2260 => (((some states2117).bind fun z2253 => ((some (1 : Int)).bind fun z2252 => some (-z2252)).bind fun z2254 => x_ix z2253 z2254).bind fun z2258 => ((some states2117).bind fun z2256 => ((some (1 : Int)).bind fun z2255 => some (-z2255)).bind fun z2257 => x_ix z2256 z2257).bind fun z2259 => some (z2258, z2259)).bind fun z2261 => some (z2260, z2261)).bind fun a2262 => m_next_careful a2262.1 a2262.2.1 a2262.2.2).bind fun z2263 => (some ()).bind fun z2264 => some z2263.isNone) xs2123 ()
def m_law (script2265 : (List Int)) : Option Bool :=
  ((some script2265).bind fun a2266 => m__law_bag a2266).bind fun bag_here2267 => (m__law_any bag_here2267).bind fun r2271 => (((((some r2271.1).bind fun z2274 => some z2274.1).bind fun z2279 => (((some r2271.1).bind fun z2275 => some z2275.2.1).bind fun z2277 => ((some r2271.1).bind fun z2276 => some z2276.2.2.1).bind fun z2278 => some (z2277, z2278)).bind fun z2280 => some (z2279, z2280)).bind fun a2281 => m_House___init__ a2281.1 a2281.2.1 a2281.2.2).bind fun z2282 => some (toHouse z2282)).bind fun house2283 => (m__law_state r2271.2 r2271.1).bind fun r2285 => (some r2285.1).bind fun target2288 => (some true).bind fun x2290 => (some (24 : Int)).bind fun x2292 => (m__law_run r2285.2 r2271.1 r2285.1 x2290 x2292).bind fun r2294 => (some r2294.1).bind fun xs2299 => (foldO (fun (bx2297 : (List Int)) y2298 => (((some r2271.1).bind fun z2302 => ((some bx2297).bind fun z2300 => (some y2298).bind fun z2301 => some (z2300, z2301)).bind fun z2303 => some (z2302, z2303)).bind fun a2304 => m__law_moved a2304.1 a2304.2.1 a2304.2.2).bind fun target2305 => some target2305) target2288 xs2299).bind fun bx2297 => (((some r2271.1).bind fun z2309 => ((some r2285.1).bind fun z2307 => (some bx2297).bind fun z2308 => some (z2307, z2308)).bind fun z2310 => some (z2309, z2310)).bind fun a2311 => m__law_due_run a2311.1 a2311.2.1 a2311.2.2).bind fun trail2312 => ((some r2285.1).bind fun z2314 => (some []).bind fun z2315 => some (z2314 :: z2315)).bind fun states2316 => (some trail2312).bind fun xs2322 => (foldO (fun (bx2320 : (List (List Int))) y2321 => (((some r2271.1).bind fun z2328 => (((some bx2320).bind fun z2324 => ((some (1 : Int)).bind fun z2323 => some (-z2323)).bind fun z2325 => x_ix z2324 z2325).bind fun z2326 => (some y2321).bind fun z2327 => some (z2326, z2327)).bind fun z2329 => some (z2328, z2329)).bind fun a2330 => m__law_moved a2330.1 a2330.2.1 a2330.2.2).bind fun y2331 => (x_app bx2320 y2331).bind fun states2332 => some states2332) states2316 xs2322).bind fun bx2320 => (((some house2283).bind fun z2336 => ((some r2285.1).bind fun z2334 => (some bx2297).bind fun z2335 => some (z2334, z2335)).bind fun z2337 => some (z2336, z2337)).bind fun a2338 => m_careful_run a2338.1 a2338.2.1 a2338.2.2 (1000 : Int)).bind fun told2339 => (((((some r2271.1).bind fun z2342 => (some told2339).bind fun z2343 => some (z2342, z2343)).bind fun a2344 => m__law_is_run a2344.1 a2344.2).bind fun z2345 => some (!z2345)).bind fun z2354 => orM z2354 (((some told2339).bind fun z2346 => (some trail2312).bind fun z2347 => some (!decide (z2346 = z2347))).bind fun z2353 => orM z2353 (((some bx2320).bind fun z2349 => ((some (1 : Int)).bind fun z2348 => some (-z2348)).bind fun z2350 => x_ix z2349 z2350).bind fun z2351 => (some bx2297).bind fun z2352 => some (!decide (z2351 = z2352))))).bind fun c2341 => if c2341 = true then some false else ((((((some house2283).bind fun z2358 => ((some r2285.1).bind fun z2356 => (some told2339).bind fun z2357 => some (z2356, z2357)).bind fun z2359 => some (z2358, z2359)).bind fun a2360 => (some true).bind fun a2361 => m_states_along a2360.1 a2360.2.1 a2360.2.2 a2361).bind fun z2362 => (some bx2320).bind fun z2363 => some (z2362, z2363)).bind fun a2364 => m__law_same_states a2364.1 a2364.2).bind fun z2365 => some (!z2365)).bind fun c2355 => if c2355 = true then some false else ((((some house2283).bind fun z2369 => ((some bx2320).bind fun z2367 => (some trail2312).bind fun z2368 => some (z2367, z2368)).bind fun z2370 => some (z2369, z2370)).bind fun a2371 => m__law_steps_right a2371.1 a2371.2.1 a2371.2.2).bind fun z2372 => some (!z2372)).bind fun c2366 => if c2366 = true then some false else ((some bx2320).bind fun z2373 => some (z2373.length : Int)).bind fun x2374 => (m__law_draw r2294.2 x2374).bind fun r2376 => ((some bx2320).bind fun z2379 => (some r2376.1).bind fun z2380 => x_ix z2379 z2380).bind fun x2381 => ((some bx2320).bind fun z2383 => some (z2383.length : Int)).bind fun x2384 => (m__law_draw r2376.2 x2384).bind fun r2386 => ((some bx2320).bind fun z2389 => (some r2386.1).bind fun z2390 => x_ix z2389 z2390).bind fun x2391 => (m__law_state r2386.2 r2271.1).bind fun r2393 => (some [x2381, x2391, r2393.1]).bind fun xs2396 => (some xs2396).bind fun xs2401 => forK (fun (bx2399 : Unit) y2400 k2402 k2403 => ((((some r2271.1).bind fun z2407 => ((some house2283).bind fun z2405 => (some y2400).bind fun z2406 => some (z2405, z2406)).bind fun z2408 => some (z2407, z2408)).bind fun a2409 => m__law_neighbours_right a2409.1 a2409.2.1 a2409.2.2).bind fun z2410 => some (!z2410)).bind fun c2404 => if c2404 = true then some false else k2402 ()) (fun bx2399 => some true) xs2401 ()
end HF

set_option Elab.async false
set_option linter.all false
set_option maxRecDepth 100000
set_option maxHeartbeats 4000000
set_option pp.maxSteps 40
set_option pp.oneline true
namespace HF
open PySem PySem.Spec L2 ClX
open PyProof.Rows hiding St
def top (i : Nat) : Stmt := PySem.Challenge.pw_huefall_k77_careful_run_covers.main.body.getD i (.Pass ⟨0, 0, 0, 0⟩)
structure EnvF (K : PySem.W.Frag) (mg : Str → Option Value) : Prop where
  g_abs : mg "abs" = none
  g_all : mg "all" = none
  g_bool : mg "bool" = none
  g_enumerate : mg "enumerate" = none
  g_int : mg "int" = none
  g_isinstance : mg "isinstance" = none
  g_len : mg "len" = none
  g_list : mg "list" = none
  g_range : mg "range" = none
  g_reversed : mg "reversed" = none
  g_sorted : mg "sorted" = none
  g_sum : mg "sum" = none
  g_tuple : mg "tuple" = none
  g_zip : mg "zip" = none
  d_is_integer : DefAt K mg "is_integer" (top 12)
  d_is_lamp : DefAt K mg "is_lamp" (top 13)
  d_bits : DefAt K mg "bits" (top 14)
  d_below_masks : DefAt K mg "below_masks" (top 15)
  d_above_masks : DefAt K mg "above_masks" (top 16)
  d__is_wire : DefAt K mg "_is_wire" (top 18)
  d__join_wires : DefAt K mg "_join_wires" (top 19)
  d__turn_round : DefAt K mg "_turn_round" (top 20)
  d__order_list : DefAt K mg "_order_list" (top 21)
  d_House___init__ : IDefAt K mg "House" (He.ga K "House") "House.__init__" (inClass (top 22) 2) 1
  d_House_order : MDefAt K (He.ga K "House") "order" "House.order" (inClass (top 22) 10)
  d_is_state : DefAt K mg "is_state" (top 24)
  d_turned_down : DefAt K mg "turned_down" (top 25)
  d_need_lamp : DefAt K mg "need_lamp" (top 27)
  d_need_state : DefAt K mg "need_state" (top 28)
  d_need_states : DefAt K mg "need_states" (top 29)
  d_need_run : DefAt K mg "need_run" (top 30)
  d__topmost : DefAt K mg "_topmost" (top 32)
  d_raw_obstacle : DefAt K mg "raw_obstacle" (top 33)
  d_need_reachable : DefAt K mg "need_reachable" (top 34)
  d_lit_beneath : DefAt K mg "lit_beneath" (top 36)
  d_moved : DefAt K mg "moved" (top 37)
  d_can_move : DefAt K mg "can_move" (top 38)
  d_refuse : DefAt K mg "refuse" (top 39)
  d_allowed_lamps : KDefAt K mg "allowed_lamps" (top 40) [("careful", .bl false)]
  d_before : KDefAt K mg "before" (top 41) [("careful", .bl false)]
  d_states_along : KDefAt K mg "states_along" (top 43) [("careful", .bl false)]
  d_load_at : DefAt K mg "load_at" (top 45)
  d_most_at : DefAt K mg "most_at" (top 46)
  d_greatest_counts : DefAt K mg "greatest_counts" (top 47)
  d_need_way : DefAt K mg "need_way" (top 50)
  d_weights : DefAt K mg "weights" (top 51)
  d_worth : DefAt K mg "worth" (top 52)
  d__careful_lamp : DefAt K mg "_careful_lamp" (top 56)
  d_careful_run : KDefAt K mg "careful_run" (top 54) [("limit", .int 1000)]
  d_next_careful : DefAt K mg "next_careful" (top 55)
  d_covered_by : DefAt K mg "covered_by" (top 58)
  d_covers_of : DefAt K mg "covers_of" (top 59)
  d_is_cover : DefAt K mg "is_cover" (top 60)
  d__law_bag : DefAt K mg "_law_bag" (top 62)
  d__law_draw : DefAt K mg "_law_draw" (top 63)
  d__law_shuffled : DefAt K mg "_law_shuffled" (top 64)
  d__law_wired : DefAt K mg "_law_wired" (top 65)
  d__law_wires : DefAt K mg "_law_wires" (top 66)
  d__law_all_in : DefAt K mg "_law_all_in" (top 67)
  d__law_known : DefAt K mg "_law_known" (top 68)
  d__law_hues : DefAt K mg "_law_hues" (top 69)
  d__law_power : DefAt K mg "_law_power" (top 70)
  d__law_count : DefAt K mg "_law_count" (top 71)
  d__law_world : DefAt K mg "_law_world" (top 72)
  d__law_large : DefAt K mg "_law_large" (top 73)
  d__law_any : DefAt K mg "_law_any" (top 74)
  d__law_state : DefAt K mg "_law_state" (top 75)
  d__law_moved : DefAt K mg "_law_moved" (top 76)
  d__law_lit_beneath : DefAt K mg "_law_lit_beneath" (top 77)
  d__law_may : DefAt K mg "_law_may" (top 78)
  d__law_run : DefAt K mg "_law_run" (top 79)
  d__law_counts : DefAt K mg "_law_counts" (top 80)
  d__law_is_integer : DefAt K mg "_law_is_integer" (top 81)
  d__law_is_run : DefAt K mg "_law_is_run" (top 82)
  d__law_same_state : DefAt K mg "_law_same_state" (top 83)
  d__law_same_states : DefAt K mg "_law_same_states" (top 84)
  d__law_due_run : DefAt K mg "_law_due_run" (top 85)
  d__law_same_pairs : DefAt K mg "_law_same_pairs" (top 86)
  d__law_downs : DefAt K mg "_law_downs" (top 87)
  d__law_raised : DefAt K mg "_law_raised" (top 88)
  d__law_ups : DefAt K mg "_law_ups" (top 89)
  d__law_neighbours_right : DefAt K mg "_law_neighbours_right" (top 90)
  d__law_no_cover : DefAt K mg "_law_no_cover" (top 91)
  d__law_steps_right : DefAt K mg "_law_steps_right" (top 92)
  d_law : DefAt K mg "law" (top 93)
  cl_House : Cls K (He.ga K "House")
  gc_House : ∃ u, mg "House" = some u ∧ RelV (.ref (He.ga K "House")) u
  na_House__above : NoAttr K (He.ga K "House") "_above"
  na_House__above_masks : NoAttr K (He.ga K "House") "_above_masks"
  na_House__below : NoAttr K (He.ga K "House") "_below"
  na_House__below_masks : NoAttr K (He.ga K "House") "_below_masks"
  na_House__direct : NoAttr K (He.ga K "House") "_direct"
  na_House__order : NoAttr K (He.ga K "House") "_order"
  na_House_count : NoAttr K (He.ga K "House") "count"
  na_House_hues : NoAttr K (He.ga K "House") "hues"
  na_House_wires : NoAttr K (He.ga K "House") "wires"
  cc_House_MOST_HUES : CCon K (He.ga K "House") "MOST_HUES" 10
  cc_House_MOST_LAMPS : CCon K (He.ga K "House") "MOST_LAMPS" 16
  c_MOST_MOVES : ∃ u, mg "MOST_MOVES" = some u ∧ RelV (.int 1000) u
section
variable {P : Program} {w : World} {K : PySem.W.Frag} {mg : Str → Option Value} {base : Heap}
abbrev A_bag : TyA R_bag := (TyA.c (tL tInt) (TyA.c tInt (TyA.c tInt (TyA.c tInt (TyA.one tInt)))))
abbrev A_world : TyA R_world := (TyA.c tInt (TyA.c tInt (TyA.c (tL (tP tInt tInt)) (TyA.c (tL tInt) (TyA.c (tL (tL tInt)) (TyA.one (tL (tL tInt))))))))
theorem sc_is_integer : FnScope ["value"] ["value"] (defScope (top 12)) := ⟨rfl, rfl, rfl, by decide +kernel, rfl, by decide +kernel, by decide +kernel⟩
theorem ok_is_integer (E : EnvF K mg) : Cal CX0 P w K mg base 1 "is_integer" (spP (TyA.one tInt) (fun a => m_is_integer a) tBool) := by
  refine cal_mk (k := 0) E.d_is_integer sc_is_integer (fun vs H Q E h => by obtain ⟨S, F, a, r, ⟨_, rfl, _⟩, _⟩ := h; rfl) (fun _ _ _ _ _ _ us hl => match us, hl with | [_], _ => rfl) ?_
  rintro f cdv A outer s H vs Q EX hr ⟨S, F, value1, out, ⟨v0, rfl, h0⟩, W, hm, k⟩
  refine ⟨_, PSs.nox (pss_cons (ps_ret (pe_and (pe_callB (call_isiKK (K := K)) rfl (by exact E.g_isinstance) (by decide +kernel) (pa_cons (pv 0) (pa_cons (pe_bltn (v := .ty "int") (u := .type "int") rfl (by exact E.g_int) (by decide +kernel) rfl) pa_nil))) (pe_one (pe_not (pe_callB (call_isiKK (K := K)) rfl (by exact E.g_isinstance) (by decide +kernel) (pa_cons (pv 0) (pa_cons (pe_bltn (v := .ty "bool") (u := .type "bool") rfl (by exact E.g_bool) (by decide +kernel) rfl) pa_nil))))))) pss_nil), ?_⟩
  have hG : Okc [fS S, tInt.f value1 v0] S := ⟨Same.refl _, h0, True.intro⟩
  have W : Wd S (([] : Ow) ++ F) H := W
  show (_ : TS) _ ([some v0] : L2.St) H
  exact k_ret hG W hm (sim_andV (sim_isi isI_int_int (sim_var 1 rfl rfl)) (sim_notV (sim_isi isI_int_bool (sim_var 1 rfl rfl)))) (fun v S H hG W hr => k v S H (Okc.at 0 rfl hG) (W.pick [] rfl) hr)
theorem sc_is_lamp : FnScope ["house", "value"] ["house", "value"] (defScope (top 13)) := ⟨rfl, rfl, rfl, by decide +kernel, rfl, by decide +kernel, by decide +kernel⟩
theorem ok_is_lamp (E : EnvF K mg) : Cal CX0 P w K mg base 2 "is_lamp" (spP (TyA.c (tHouse (He.ga K "House")) (TyA.one tInt)) (fun a => m_is_lamp a.1 a.2) tBool) := by
  refine cal_mk (k := 1) E.d_is_lamp sc_is_lamp (fun vs H Q E h => by obtain ⟨S, F, a, r, ⟨_, _, rfl, _, ⟨_, rfl, _⟩⟩, _⟩ := h; rfl) (fun _ _ _ _ _ _ us hl => match us, hl with | [_, _], _ => rfl) ?_
  rintro f cdv A outer s H vs Q EX hr ⟨S, F, ⟨house4, value5⟩, out, ⟨v0, _, rfl, h0, ⟨v1, rfl, h1⟩⟩, W, hm, k⟩
  refine ⟨_, PSs.nox (pss_cons (ps_ret (pe_and (pe_cal (ok_is_integer E) (by exact hr) (by first | decide | omega) (by rfl) pass0 (pa_cons (pv 1) pa_nil)) (pe_one (pe_chain op_le op_lt pe_int (pv 1) (pe_fldK (K := K) (pv 0)))))) pss_nil), ?_⟩
  have hG : Okc [fS S, (tHouse (He.ga K "House")).f house4 v0, tInt.f value5 v1] S := ⟨Same.refl _, h0, h1, True.intro⟩
  have W : Wd S (([] : Ow) ++ F) H := W
  show (_ : TS) _ ([some v0, some v1] : L2.St) H
  exact k_ret hG W hm (sim_andV (sim_call (simA_one (sim_var 2 rfl rfl))) (sim_chain (p := (fun a b => decide (a ≤ b))) (p' := (fun a b => decide (a < b))) sim_int (sim_var 2 rfl rfl) (sim_fld (house_fld E.cl_House (E.na_House_count) (fun _ _ _ h => h.count)) (sim_var 1 rfl rfl)))) (fun v S H hG W hr => k v S H (Okc.at 0 rfl hG) (W.pick [] rfl) hr)
theorem sc_bits : FnScope ["mask", "lamp"] ["mask"] (defScope (top 14)) := ⟨rfl, rfl, rfl, by decide +kernel, rfl, by decide +kernel, by decide +kernel⟩
theorem ok_bits (E : EnvF K mg) : Cal CX0 P w K mg base 1 "bits" (spP (TyA.one tInt) (fun a => m_bits a) (tL tInt)) := by
  refine cal_mk (k := 0) E.d_bits sc_bits (fun vs H Q E h => by obtain ⟨S, F, a, r, ⟨_, rfl, _⟩, _⟩ := h; rfl) (fun _ _ _ _ _ _ us hl => match us, hl with | [_], _ => rfl) ?_
  rintro f cdv A outer s H vs Q EX hr ⟨S, F, mask12, out, ⟨v0, rfl, h0⟩, W, hm, k⟩
  refine ⟨_, PSs.nox (pss_cons (ps_ret (pe_lc (own := [("lamp", 1)]) rfl sc_bits.nd (pi_range1 rfl (by exact E.g_range) (pa_cons (pe_bits (pv 0)) pa_nil)) (blkOk_by (N := ["mask", "lamp"]) (sc := defScope (top 14)) (by decide +kernel)) (fun _ _ _ _ _ => (pg_name (i := 1) sc_bits.nd rfl (Or.inl rfl))) (fun _ _ _ _ _ => (pts_one (pt_cmpR op_eq (pe_op op_and (pe_op op_shr (pv 0) (pv 1)) pe_int) pe_int (nomark _)))) (fun _ _ _ _ _ => (pv 1)))) pss_nil), ?_⟩
  have hG : Okc [fS S, tInt.f mask12 v0] S := ⟨Same.refl _, h0, True.intro⟩
  have W : Wd S (([] : Ow) ++ F) H := W
  show (_ : TS) _ ([some v0, none] : L2.St) H
  exact k_ret hG W hm (SimF.sim (simF_lc (simI_range1 (sim_bitlen (sim_var 1 rfl rfl))) tg_name (fun _ => rfl) (List.nil_sublist _) (fun a w => (simT_test (sim_eqI (sim_and (sim_shr (sim_var 2 rfl rfl) (sim_var 0 rfl rfl)) sim_int) sim_int))) (fun a w => (sim_var 0 rfl rfl)))) (fun v S H hG W hr => k v S H (Okc.at 0 rfl hG) (W.pick [] rfl) hr)
theorem sc_below_masks : FnScope ["house"] ["house"] (defScope (top 15)) := ⟨rfl, rfl, rfl, by decide +kernel, rfl, by decide +kernel, by decide +kernel⟩
theorem ok_below_masks (E : EnvF K mg) : Cal CX0 P w K mg base 1 "below_masks" (spP (TyA.one (tHouse (He.ga K "House"))) (fun a => m_below_masks a) (tL tInt)) := by
  refine cal_mk (k := 0) E.d_below_masks sc_below_masks (fun vs H Q E h => by obtain ⟨S, F, a, r, ⟨_, rfl, _⟩, _⟩ := h; rfl) (fun _ _ _ _ _ _ us hl => match us, hl with | [_], _ => rfl) ?_
  rintro f cdv A outer s H vs Q EX hr ⟨S, F, house23, out, ⟨v0, rfl, h0⟩, W, hm, k⟩
  refine ⟨_, PSs.nox (pss_cons (ps_ret (pe_fldK (K := K) (pv 0))) pss_nil), ?_⟩
  have hG : Okc [fS S, (tHouse (He.ga K "House")).f house23 v0] S := ⟨Same.refl _, h0, True.intro⟩
  have W : Wd S (([] : Ow) ++ F) H := W
  show (_ : TS) _ ([some v0] : L2.St) H
  exact k_ret hG W hm (sim_fld (house_fld E.cl_House (E.na_House__below_masks) (fun _ _ _ h => h.belowM)) (sim_var 1 rfl rfl)) (fun v S H hG W hr => k v S H (Okc.at 0 rfl hG) (W.pick [] rfl) hr)
theorem sc_above_masks : FnScope ["house"] ["house"] (defScope (top 16)) := ⟨rfl, rfl, rfl, by decide +kernel, rfl, by decide +kernel, by decide +kernel⟩
theorem ok_above_masks (E : EnvF K mg) : Cal CX0 P w K mg base 1 "above_masks" (spP (TyA.one (tHouse (He.ga K "House"))) (fun a => m_above_masks a) (tL tInt)) := by
  refine cal_mk (k := 0) E.d_above_masks sc_above_masks (fun vs H Q E h => by obtain ⟨S, F, a, r, ⟨_, rfl, _⟩, _⟩ := h; rfl) (fun _ _ _ _ _ _ us hl => match us, hl with | [_], _ => rfl) ?_
  rintro f cdv A outer s H vs Q EX hr ⟨S, F, house25, out, ⟨v0, rfl, h0⟩, W, hm, k⟩
  refine ⟨_, PSs.nox (pss_cons (ps_ret (pe_fldK (K := K) (pv 0))) pss_nil), ?_⟩
  have hG : Okc [fS S, (tHouse (He.ga K "House")).f house25 v0] S := ⟨Same.refl _, h0, True.intro⟩
  have W : Wd S (([] : Ow) ++ F) H := W
  show (_ : TS) _ ([some v0] : L2.St) H
  exact k_ret hG W hm (sim_fld (house_fld E.cl_House (E.na_House__above_masks) (fun _ _ _ h => h.aboveM)) (sim_var 1 rfl rfl)) (fun v S H hG W hr => k v S H (Okc.at 0 rfl hG) (W.pick [] rfl) hr)
theorem sc__is_wire : FnScope ["count", "value", "upper", "lower"] ["count", "value"] (defScope (top 18)) := ⟨rfl, rfl, rfl, by decide +kernel, rfl, by decide +kernel, by decide +kernel⟩
theorem ok__is_wire (E : EnvF K mg) : Cal CX0 P w K mg base 2 "_is_wire" (spP (TyA.c tInt (TyA.one (tP tInt tInt))) (fun a => m__is_wire a.1 a.2) tBool) := by
  refine cal_mk (k := 1) E.d__is_wire sc__is_wire (fun vs H Q E h => by obtain ⟨S, F, a, r, ⟨_, _, rfl, _, ⟨_, rfl, _⟩⟩, _⟩ := h; rfl) (fun _ _ _ _ _ _ us hl => match us, hl with | [_, _], _ => rfl) ?_
  rintro f cdv A outer s H vs Q EX hr ⟨S, F, ⟨count27, value28⟩, out, ⟨v0, _, rfl, h0, ⟨v1, rfl, h1⟩⟩, W, hm, k⟩
  refine ⟨_, PSs.nox (pss_cons (ps_if (PW.pt (pw_or (pt_not (pt_val (pe_callB (call_isiKK (K := K)) rfl (by exact E.g_isinstance) (by decide +kernel) (pa_cons (pv 1) (pa_cons (pe_bltn (v := .ty "tuple") (u := .type "tuple") rfl (by exact E.g_tuple) (by decide +kernel) rfl) pa_nil))))) (pw_or1 (pt_cmpR op_ne (pe_callB (call_lenK (K := K)) rfl (by exact E.g_len) boot_len (pa_cons (pv 1) pa_nil)) pe_int (nomark _))))) (pss_cons (ps_ret pe_bl) pss_nil) pss_nil) (pss_cons (ps_asg (pv 1) (pg_tupK (K := K) (n := 2) rfl (pgs_cons (pg_name (i := 2) sc__is_wire.nd rfl (Or.inl rfl)) (pgs_cons (pg_name (i := 3) sc__is_wire.nd rfl (Or.inl rfl)) pgs_nil)))) (pss_cons (ps_if (PW.pt (pw_or (pt_not (pt_val (pe_cal (ok_is_integer E) (by exact hr) (by first | decide | omega) (by rfl) pass0 (pa_cons (pv 2) pa_nil)))) (pw_or1 (pt_not (pt_val (pe_cal (ok_is_integer E) (by exact hr) (by first | decide | omega) (by rfl) pass0 (pa_cons (pv 3) pa_nil))))))) (pss_cons (ps_ret pe_bl) pss_nil) pss_nil) (pss_cons (ps_ret (pe_and (pe_chain op_le op_lt pe_int (pv 2) (pv 0)) (pe_and (pe_chain op_le op_lt pe_int (pv 3) (pv 0)) (pe_one (pe_cmpR op_ne (pv 2) (pv 3) (nomark _)))))) pss_nil)))), ?_⟩
  have hG : Okc [fS S, tInt.f count27 v0, (tP tInt tInt).f value28 v1] S := ⟨Same.refl _, h0, h1, True.intro⟩
  have W : Wd S (([] : Ow) ++ F) H := W
  show (_ : TS) _ ([some v0, some v1, none, none] : L2.St) H
  refine k_if hG W hm (simT_or (simT_not (simT_B (sim_isi isI_pair_tuple (sim_var 2 rfl rfl)))) (simT_test (sim_neI (sim_lenP (sim_var 2 rfl rfl)) sim_int))) ?_ ?_
  · clear hG W hm
    intro S H hG W hm
    exact k_ret hG W hm sim_bl (fun v S H hG W hr => k v S H (Okc.at 0 rfl hG) (W.pick [] rfl) hr)
  · clear hG W hm
    intro S H hG W hm
    refine y_next ?_
    refine k_unpair hG W hm (sim_var 2 rfl rfl) ?_
    clear hG W hm
    intro q35 v36 v37 S H hG W hm
    refine k_if hG W hm (simT_or (simT_not (simT_B (sim_call (simA_one (sim_var 0 rfl rfl))))) (simT_not (simT_B (sim_call (simA_one (sim_var 1 rfl rfl)))))) ?_ ?_
    · clear hG W hm
      intro S H hG W hm
      exact k_ret hG W hm sim_bl (fun v S H hG W hr => k v S H (Okc.at 2 rfl hG) (W.pick [] rfl) hr)
    · clear hG W hm
      intro S H hG W hm
      refine y_next ?_
      exact k_ret hG W hm (sim_andV (sim_chain (p := (fun a b => decide (a ≤ b))) (p' := (fun a b => decide (a < b))) sim_int (sim_var 0 rfl rfl) (sim_var 3 rfl rfl)) (sim_andV (sim_chain (p := (fun a b => decide (a ≤ b))) (p' := (fun a b => decide (a < b))) sim_int (sim_var 1 rfl rfl) (sim_var 3 rfl rfl)) (sim_neI (sim_var 0 rfl rfl) (sim_var 1 rfl rfl)))) (fun v S H hG W hr => k v S H (Okc.at 2 rfl hG) (W.pick [] rfl) hr)
theorem sc__join_wires : FnScope ["count", "wires", "wired", "below", "index", "wire", "upper", "lower", "gained", "lamp"] ["count", "wires"] (defScope (top 19)) := ⟨rfl, rfl, rfl, by decide +kernel, rfl, by decide +kernel, by decide +kernel⟩
theorem ok__join_wires (E : EnvF K mg) : Cal CX0 P w K mg base 3 "_join_wires" (spP (TyA.c tInt (TyA.one (tL (tP tInt tInt)))) (fun a => m__join_wires a.1 a.2) (tL tInt)) := by
  refine cal_mk (k := 2) E.d__join_wires sc__join_wires (fun vs H Q E h => by obtain ⟨S, F, a, r, ⟨_, _, rfl, _, ⟨_, rfl, _⟩⟩, _⟩ := h; rfl) (fun _ _ _ _ _ _ us hl => match us, hl with | [_, _], _ => rfl) ?_
  rintro f cdv A outer s H vs Q EX hr ⟨S, F, ⟨count54, wires55⟩, out, ⟨v0, _, rfl, h0, ⟨v1, rfl, h1⟩⟩, W, hm, k⟩
  refine ⟨_, PSs.nox (pss_cons (ps_set (i := 2) sc__join_wires.nd rfl (Or.inl rfl) (pe_op op_rep (pe_lst (pa_cons pe_int pa_nil)) (pv 0))) (pss_cons (ps_set (i := 3) sc__join_wires.nd rfl (Or.inl rfl) (pe_op op_rep (pe_lst (pa_cons pe_int pa_nil)) (pv 0))) (pss_cons (ps_for PassesOwn.never rfl (pi_enumK (K := K) rfl (by exact E.g_enumerate) (pa_cons (pv 1) pa_nil)) (pg_tupK (K := K) (n := 2) rfl (pgs_cons (pg_name (i := 4) sc__join_wires.nd rfl (Or.inl rfl)) (pgs_cons (pg_name (i := 5) sc__join_wires.nd rfl (Or.inl rfl)) pgs_nil))) (pss_cons (ps_if (pt_not (pt_val (pe_cal (ok__is_wire E) (by exact hr) (by first | decide | omega) (by rfl) pass0 (pa_cons (pv 0) (pa_cons (pv 5) pa_nil))))) (pss_cons ps_never pss_nil) pss_nil) (pss_cons (ps_asg (pv 5) (pg_tupK (K := K) (n := 2) rfl (pgs_cons (pg_name (i := 6) sc__join_wires.nd rfl (Or.inl rfl)) (pgs_cons (pg_name (i := 7) sc__join_wires.nd rfl (Or.inl rfl)) pgs_nil)))) (pss_cons (ps_if (pt_cmpR op_eq (pe_op op_and (pe_op op_shr (pe_ix (ix_listK (K := K)) (pv 2) (pv 6) (by intro _ _; rfl)) (pv 7)) pe_int) pe_int (nomark _)) (pss_cons ps_never pss_nil) pss_nil) (pss_cons (ps_if (pt_cmpR op_eq (pe_op op_and (pe_op op_shr (pe_ix (ix_listK (K := K)) (pv 3) (pv 7) (by intro _ _; rfl)) (pv 6)) pe_int) pe_int (nomark _)) (pss_cons ps_never pss_nil) pss_nil) (pss_cons (ps_asg (pe_op op_or (pe_ix (ix_listK (K := K)) (pv 2) (pv 6) (by intro _ _; rfl)) (pe_op op_shl pe_int (pv 7))) (pg_sub (pv 2) (pv 6) set_list)) (pss_cons (ps_set (i := 8) sc__join_wires.nd rfl (Or.inl rfl) (pe_op op_or (pe_ix (ix_listK (K := K)) (pv 3) (pv 7) (by intro _ _; rfl)) (pe_op op_shl pe_int (pv 7)))) (pss_cons (ps_for PassesOwn.never rfl (pi_range1 rfl (by exact E.g_range) (pa_cons (pv 0) pa_nil)) (pg_name (i := 9) sc__join_wires.nd rfl (Or.inl rfl)) (pss_cons (ps_if (PW.pt (pw_or (pt_cmpR op_eq (pv 9) (pv 6) (nomark _)) (pw_or1 (pt_cmpR op_eq (pe_op op_and (pe_op op_shr (pe_ix (ix_listK (K := K)) (pv 3) (pv 9) (by intro _ _; rfl)) (pv 6)) pe_int) pe_int (nomark _))))) (pss_cons (ps_asg (pe_op op_or (pe_ix (ix_listK (K := K)) (pv 3) (pv 9) (by intro _ _; rfl)) (pv 8)) (pg_sub (pv 3) (pv 9) set_list)) pss_nil) pss_nil) pss_nil)) pss_nil)))))))) (pss_cons (ps_ret (pv 3)) pss_nil)))), ?_⟩
  have hG : Okc [fS S, tInt.f count54 v0, (tL (tP tInt tInt)).f wires55 v1] S := ⟨Same.refl _, h0, h1, True.intro⟩
  have W : Wd S (([] : Ow) ++ F) H := W
  show (_ : TS) _ ([some v0, some v1, none, none, none, none, none, none, none, none] : L2.St) H
  refine k_setO hG W hm (simF_rep (SimF.sim (simF_lst (simA_ln sim_int simA_ln0))) (sim_var 1 rfl rfl)) ?_
  clear hG W hm
  intro wired60 p62 c63 S H hG W hm
  refine k_setO hG W hm (simF_rep (SimF.sim (simF_lst (simA_ln sim_int simA_ln0))) (sim_var 2 rfl rfl)) ?_
  clear hG W hm
  intro below68 p70 c71 S H hG W hm
  refine k_fold (σJ := (fun (bx73 : (List Int) × (List Int)) (wx73 : List Cell × List Cell × Option V × Option V × Option V × Option V × Option V × Option V) => ([some v0, some v1, some (.ref p62), some (.ref p70), wx73.2.2.1, wx73.2.2.2.1, wx73.2.2.2.2.1, wx73.2.2.2.2.2.1, wx73.2.2.2.2.2.2.1, wx73.2.2.2.2.2.2.2] : L2.St))) (OJ := (fun (bx73 : (List Int) × (List Int)) (wx73 : List Cell × List Cell × Option V × Option V × Option V × Option V × Option V × Option V) => ([wx73.2.1, wx73.1] : Ow))) (Fb := (fun (bx73 : (List Int) × (List Int)) (wx73 : List Cell × List Cell × Option V × Option V × Option V × Option V × Option V × Option V) => ([(oL tInt).f bx73.1 p62 (wx73.1), (oL tInt).f bx73.2 p70 (wx73.2.1)] : List Fact))) (σT := (fun b w (tx73 : V × V) => (((fun (bx73 : (List Int) × (List Int)) (wx73 : List Cell × List Cell × Option V × Option V × Option V × Option V × Option V × Option V) => ([some v0, some v1, some (.ref p62), some (.ref p70), wx73.2.2.1, wx73.2.2.2.1, wx73.2.2.2.2.1, wx73.2.2.2.2.2.1, wx73.2.2.2.2.2.2.1, wx73.2.2.2.2.2.2.2] : L2.St)) b w).set 4 (some tx73.1)).set 5 (some tx73.2))) ((c63, c71, (none), (none), (none), (none), (none), (none)) : List Cell × List Cell × Option V × Option V × Option V × Option V × Option V × Option V) hG W hm (simI_enum (sim_var 4 rfl rfl)) (fun b w => tg_pair) (fun b w => List.nil_sublist _) rfl rfl (fun S h => (Okc.cons (Okc.at 1 rfl h) (Okc.cons (Okc.at 0 rfl h) h))) ?_ ?_
  · clear hG W hm
    intro S1 y74 bx73 b' wx73 tx73 S H hm hG W N hN
    refine k_if hG W hm (simT_not (simT_B (sim_call (simA_c (sim_var 8 rfl rfl) (simA_one (sim_var 1 rfl rfl)))))) ?_ ?_
    · clear hG W hm
      intro S H hG W hm
      cases hm
    · clear hG W hm
      intro S H hG W hm
      refine y_next ?_
      refine k_unpair hG W hm (sim_var 1 rfl rfl) ?_
      clear hG W hm
      intro q81 v82 v83 S H hG W hm
      refine k_if hG W hm (simT_test (sim_eqI (sim_and (sim_shr (sim_ix (sim_own 1 4 rfl rfl rfl) (sim_var 0 rfl rfl)) (sim_var 1 rfl rfl)) sim_int) sim_int)) ?_ ?_
      · clear hG W hm
        intro S H hG W hm
        cases hm
      · clear hG W hm
        intro S H hG W hm
        refine y_next ?_
        refine k_if hG W hm (simT_test (sim_eqI (sim_and (sim_shr (sim_ix (sim_own 0 5 rfl rfl rfl) (sim_var 1 rfl rfl)) (sim_var 0 rfl rfl)) sim_int) sim_int)) ?_ ?_
        · clear hG W hm
          intro S H hG W hm
          cases hm
        · clear hG W hm
          intro S H hG W hm
          refine y_next ?_
          refine k_put hG W hm 1 4 rfl rfl rfl (sim_or (sim_ix (sim_own 1 4 rfl rfl rfl) (sim_var 0 rfl rfl)) (sim_shl sim_int (sim_var 1 rfl rfl))) (sim_var 0 rfl rfl) ?_
          clear hG W hm
          intro wired110 c111 S H hG W hm
          refine k_set hG W hm (sim_or (sim_ix (sim_own 0 6 rfl rfl rfl) (sim_var 2 rfl rfl)) (sim_shl sim_int (sim_var 2 rfl rfl))) ?_
          clear hG W hm
          intro gained118 v119 S H hG W hm
          refine k_fold (σJ := (fun (bx121 : (List Int)) (wx121 : List Cell × Option V) => ([some v0, some v1, some (.ref p62), some (.ref p70), some (tx73.1), some (tx73.2), some (v82), some (v83), some (v119), wx121.2] : L2.St))) (OJ := (fun (bx121 : (List Int)) (wx121 : List Cell × Option V) => ([wx121.1, c111] : Ow))) (Fb := (fun (bx121 : (List Int)) (wx121 : List Cell × Option V) => ([(oL tInt).f bx121 p70 (wx121.1)] : List Fact))) (σT := (fun b w (tx121 : V) => ((fun (bx121 : (List Int)) (wx121 : List Cell × Option V) => ([some v0, some v1, some (.ref p62), some (.ref p70), some (tx73.1), some (tx73.2), some (v82), some (v83), some (v119), wx121.2] : L2.St)) b w).set 9 (some tx121))) ((wx73.2.1, (wx73.2.2.2.2.2.2.2)) : List Cell × Option V) hG W hm (simI_range1 (sim_var 12 rfl rfl)) (fun b w => tg_name) (fun b w => List.nil_sublist _) rfl rfl (fun S h => (Okc.cons (Okc.at 7 rfl h) h)) ?_ ?_
          · clear hG W hm
            intro S1 y122 bx121 b' wx121 tx121 S H hm hG W N hN
            refine k_if hG W hm (simT_or (simT_test (sim_eqI (sim_var 0 rfl rfl) (sim_var 5 rfl rfl))) (simT_test (sim_eqI (sim_and (sim_shr (sim_ix (sim_own 0 1 rfl rfl rfl) (sim_var 0 rfl rfl)) (sim_var 5 rfl rfl)) sim_int) sim_int))) ?_ ?_
            · clear hG W hm
              intro S H hG W hm
              refine k_put hG W hm 0 1 rfl rfl rfl (sim_or (sim_ix (sim_own 0 1 rfl rfl rfl) (sim_var 0 rfl rfl)) (sim_var 3 rfl rfl)) (sim_var 0 rfl rfl) ?_
              clear hG W hm
              intro below142 c143 S H hG W hm
              refine y_next ?_
              cases hm
              refine y_next ?_
              exact hN (c143, (some (tx121))) _ _ (Okc.cons (Okc.at 0 rfl hG) (Okc.dr 3 hG)) (W.pick [0, 0] rfl)
            · clear hG W hm
              intro S H hG W hm
              refine y_next ?_
              cases hm
              refine y_next ?_
              exact hN (wx121.1, (some (tx121))) _ _ (Okc.cons (Okc.at 1 rfl hG) (Okc.dr 2 hG)) (W.pick [0, 0] rfl)
          · clear hG W hm
            intro bx121 wx121 S H hm hG W
            cases hm
            refine y_next ?_
            exact hN (c111, wx121.1, (some (tx73.1)), (some (tx73.2)), (some (v82)), (some (v83)), (some (v119)), (wx121.2)) _ _ (Okc.cons (Okc.at 2 rfl hG) (Okc.cons (Okc.at 0 rfl hG) (Okc.dr 9 hG))) (W.pick [0, 0] rfl)
  · clear hG W hm
    intro bx73 wx73 S H hm hG W
    refine k_frz hG W frz_L 0 1 rfl rfl ?_
    clear hG W
    intro S hG W
    exact k_ret hG W hm (sim_var 0 rfl rfl) (fun v S H hG W hr => k v S H (Okc.at 5 rfl hG) (W.pick [] rfl) hr)
theorem sc__turn_round : FnScope ["below", "upper_masks", "upper", "mask", "lower"] ["below"] (defScope (top 20)) := ⟨rfl, rfl, rfl, by decide +kernel, rfl, by decide +kernel, by decide +kernel⟩
theorem ok__turn_round (E : EnvF K mg) : Cal CX0 P w K mg base 2 "_turn_round" (spP (TyA.one (tL tInt)) (fun a => m__turn_round a) (tL tInt)) := by
  refine cal_mk (k := 1) E.d__turn_round sc__turn_round (fun vs H Q E h => by obtain ⟨S, F, a, r, ⟨_, rfl, _⟩, _⟩ := h; rfl) (fun _ _ _ _ _ _ us hl => match us, hl with | [_], _ => rfl) ?_
  rintro f cdv A outer s H vs Q EX hr ⟨S, F, below144, out, ⟨v0, rfl, h0⟩, W, hm, k⟩
  refine ⟨_, PSs.nox (pss_cons (ps_set (i := 1) sc__turn_round.nd rfl (Or.inl rfl) (pe_op op_rep (pe_lst (pa_cons pe_int pa_nil)) (pe_callB (call_lenK (K := K)) rfl (by exact E.g_len) boot_len (pa_cons (pv 0) pa_nil)))) (pss_cons (ps_for PassesOwn.never rfl (pi_enumK (K := K) rfl (by exact E.g_enumerate) (pa_cons (pv 0) pa_nil)) (pg_tupK (K := K) (n := 2) rfl (pgs_cons (pg_name (i := 2) sc__turn_round.nd rfl (Or.inl rfl)) (pgs_cons (pg_name (i := 3) sc__turn_round.nd rfl (Or.inl rfl)) pgs_nil))) (pss_cons (ps_for PassesOwn.never rfl (pi_listK (K := K) (pe_cal (ok_bits E) (by exact hr) (by first | decide | omega) (by rfl) pass0 (pa_cons (pv 3) pa_nil))) (pg_name (i := 4) sc__turn_round.nd rfl (Or.inl rfl)) (pss_cons (ps_asg (pe_op op_or (pe_ix (ix_listK (K := K)) (pv 1) (pv 4) (by intro _ _; rfl)) (pe_op op_shl pe_int (pv 2))) (pg_sub (pv 1) (pv 4) set_list)) pss_nil)) pss_nil)) (pss_cons (ps_ret (pv 1)) pss_nil))), ?_⟩
  have hG : Okc [fS S, (tL tInt).f below144 v0] S := ⟨Same.refl _, h0, True.intro⟩
  have W : Wd S (([] : Ow) ++ F) H := W
  show (_ : TS) _ ([some v0, none, none, none, none] : L2.St) H
  refine k_setO hG W hm (simF_rep (SimF.sim (simF_lst (simA_ln sim_int simA_ln0))) (sim_len (sim_var 1 rfl rfl))) ?_
  clear hG W hm
  intro upper_masks150 p152 c153 S H hG W hm
  refine k_fold (σJ := (fun (bx155 : (List Int)) (wx155 : List Cell × Option V × Option V × Option V) => ([some v0, some (.ref p152), wx155.2.1, wx155.2.2.1, wx155.2.2.2] : L2.St))) (OJ := (fun (bx155 : (List Int)) (wx155 : List Cell × Option V × Option V × Option V) => ([wx155.1] : Ow))) (Fb := (fun (bx155 : (List Int)) (wx155 : List Cell × Option V × Option V × Option V) => ([(oL tInt).f bx155 p152 (wx155.1)] : List Fact))) (σT := (fun b w (tx155 : V × V) => (((fun (bx155 : (List Int)) (wx155 : List Cell × Option V × Option V × Option V) => ([some v0, some (.ref p152), wx155.2.1, wx155.2.2.1, wx155.2.2.2] : L2.St)) b w).set 2 (some tx155.1)).set 3 (some tx155.2))) ((c153, (none), (none), (none)) : List Cell × Option V × Option V × Option V) hG W hm (simI_enum (sim_var 2 rfl rfl)) (fun b w => tg_pair) (fun b w => List.nil_sublist _) rfl rfl (fun S h => (Okc.cons (Okc.at 0 rfl h) h)) ?_ ?_
  · clear hG W hm
    intro S1 y156 bx155 b' wx155 tx155 S H hm hG W N hN
    refine k_fold (σJ := (fun (bx159 : (List Int)) (wx159 : List Cell × Option V) => ([some v0, some (.ref p152), some (tx155.1), some (tx155.2), wx159.2] : L2.St))) (OJ := (fun (bx159 : (List Int)) (wx159 : List Cell × Option V) => ([wx159.1] : Ow))) (Fb := (fun (bx159 : (List Int)) (wx159 : List Cell × Option V) => ([(oL tInt).f bx159 p152 (wx159.1)] : List Fact))) (σT := (fun b w (tx159 : V) => ((fun (bx159 : (List Int)) (wx159 : List Cell × Option V) => ([some v0, some (.ref p152), some (tx155.1), some (tx155.2), wx159.2] : L2.St)) b w).set 4 (some tx159))) ((wx155.1, (wx155.2.2.2)) : List Cell × Option V) hG W hm (simI_list (sim_call (simA_one (sim_var 1 rfl rfl)))) (fun b w => tg_name) (fun b w => List.nil_sublist _) rfl rfl (fun S h => (Okc.cons (Okc.at 2 rfl h) h)) ?_ ?_
    · clear hG W hm
      intro S1 y160 bx159 b' wx159 tx159 S H hm hG W N hN
      refine k_put hG W hm 0 1 rfl rfl rfl (sim_or (sim_ix (sim_own 0 1 rfl rfl rfl) (sim_var 0 rfl rfl)) (sim_shl sim_int (sim_var 3 rfl rfl))) (sim_var 0 rfl rfl) ?_
      clear hG W hm
      intro upper_masks170 c171 S H hG W hm
      cases hm
      refine y_next ?_
      exact hN (c171, (some (tx159))) _ _ (Okc.cons (Okc.at 0 rfl hG) (Okc.dr 3 hG)) (W.pick [0] rfl)
    · clear hG W hm
      intro bx159 wx159 S H hm hG W
      cases hm
      refine y_next ?_
      exact hN (wx159.1, (some (tx155.1)), (some (tx155.2)), (wx159.2)) _ _ (Okc.cons (Okc.at 0 rfl hG) (Okc.dr 4 hG)) (W.pick [0] rfl)
  · clear hG W hm
    intro bx155 wx155 S H hm hG W
    refine k_frz hG W frz_L 0 0 rfl rfl ?_
    clear hG W
    intro S hG W
    exact k_ret hG W hm (sim_var 0 rfl rfl) (fun v S H hG W hr => k v S H (Okc.at 3 rfl hG) (W.pick [] rfl) hr)
theorem sc__order_list : FnScope ["masks", "lamps", "listed", "ready", "following", "lamp", "mask"] ["masks"] (defScope (top 21)) := ⟨rfl, rfl, rfl, by decide +kernel, rfl, by decide +kernel, by decide +kernel⟩
theorem ok__order_list (E : EnvF K mg) : Cal CX0 P w K mg base 1 "_order_list" (spP (TyA.one (tL tInt)) (fun a => m__order_list a) (tL tInt)) := by
  refine cal_mk (k := 0) E.d__order_list sc__order_list (fun vs H Q E h => by obtain ⟨S, F, a, r, ⟨_, rfl, _⟩, _⟩ := h; rfl) (fun _ _ _ _ _ _ us hl => match us, hl with | [_], _ => rfl) ?_
  rintro f cdv A outer s H vs Q EX hr ⟨S, F, masks172, out, ⟨v0, rfl, h0⟩, W, hm, k⟩
  refine ⟨_, PSs.nox (pss_cons (ps_set (i := 1) sc__order_list.nd rfl (Or.inl rfl) (pe_lst pa_nil)) (pss_cons (ps_set (i := 2) sc__order_list.nd rfl (Or.inr rfl) pe_int) (pss_cons (ps_while PassesOwn.never (pt_cmpR op_lt (pe_callB (call_lenK (K := K)) rfl (by exact E.g_len) boot_len (pa_cons (pv 1) pa_nil)) (pe_callB (call_lenK (K := K)) rfl (by exact E.g_len) boot_len (pa_cons (pv 0) pa_nil)) (nomark _)) (pss_cons (ps_setLc (i := 3) (own := [("lamp", 5), ("mask", 6)]) rfl sc__order_list.nd rfl rfl (sw_true rfl rfl rfl (by decide +kernel)) (pi_enumK (K := K) rfl (by exact E.g_enumerate) (pa_cons (pv 0) pa_nil)) (blkOk_by (N := ["masks", "lamps", "listed", "ready", "following", "lamp", "mask"]) (sc := defScope (top 21)) (by decide +kernel)) (fun _ _ _ _ _ => (pg_tupK (K := K) (n := 2) rfl (pgs_cons (pg_name (i := 5) sc__order_list.nd rfl (Or.inl rfl)) (pgs_cons (pg_name (i := 6) sc__order_list.nd rfl (Or.inl rfl)) pgs_nil)))) (fun _ _ _ _ _ => (pts_one (pt_cmpR op_eq (pe_op op_and (pv 6) (pv 2)) (pv 6) (nomark _)))) (fun _ _ _ _ _ => (pv 5))) (pss_cons (ps_setLc (i := 4) (own := [("lamp", 5)]) rfl sc__order_list.nd rfl rfl (sw_true rfl rfl rfl (by decide +kernel)) (pi_listK (K := K) (pv 3)) (blkOk_by (N := ["masks", "lamps", "listed", "ready", "following", "lamp", "mask"]) (sc := defScope (top 21)) (by decide +kernel)) (fun _ _ _ _ _ => (pg_name (i := 5) sc__order_list.nd rfl (Or.inl rfl))) (fun _ _ _ _ _ => (pts_one (pt_cmpR op_eq (pe_op op_and (pe_op op_shr (pv 2) (pv 5)) pe_int) pe_int (nomark _)))) (fun _ _ _ _ _ => (pv 5))) (pss_cons (ps_expr (pe_bmK (K := K) PySem.F.plainAttrs_list PySem.F.slot_list_append PySem.F.type_list_append mt_append (pv 1) (pa_cons (pe_ix (ix_listK (K := K)) (pv 4) pe_int (by intro _ _; rfl)) pa_nil))) (pss_cons (ps_set (i := 2) sc__order_list.nd rfl (Or.inr rfl) (pe_op op_or (pv 2) (pe_op op_shl pe_int (pe_ix (ix_listK (K := K)) (pv 4) pe_int (by intro _ _; rfl))))) pss_nil))))) (pss_cons (ps_ret (pv 1)) pss_nil)))), ?_⟩
  have hG : Okc [fS S, (tL tInt).f masks172 v0] S := ⟨Same.refl _, h0, True.intro⟩
  have W : Wd S (([] : Ow) ++ F) H := W
  show (_ : TS) _ ([some v0, none, none, none, none, none, none] : L2.St) H
  refine k_setO hG W hm (simF_lst (T := tInt) simA_ln0) ?_
  clear hG W hm
  intro lamps173 p175 c176 S H hG W hm
  refine k_set hG W hm sim_int ?_
  clear hG W hm
  intro listed177 v178 S H hG W hm
  refine k_while (σJ := (fun (bx179 : (List Int) × Int) (wx179 : List Cell × V × Option V × Option V) => ([some v0, some (.ref p175), some (wx179.2.1), wx179.2.2.1, wx179.2.2.2, none, none] : L2.St))) (OJ := (fun (bx179 : (List Int) × Int) (wx179 : List Cell × V × Option V × Option V) => ([wx179.1] : Ow))) (Fb := (fun (bx179 : (List Int) × Int) (wx179 : List Cell × V × Option V × Option V) => ([(oL tInt).f bx179.1 p175 (wx179.1), tInt.f bx179.2 (wx179.2.1)] : List Fact))) ((c176, v178, (none), (none)) : List Cell × V × Option V × Option V) hG W hm (fun b w => (simT_test (sim_lt (sim_len (sim_own 0 0 rfl rfl rfl)) (sim_len (sim_var 5 rfl rfl))))) rfl rfl (fun S h => (Okc.cons (Okc.at 1 rfl h) (Okc.cons (Okc.at 0 rfl h) h))) ?_ ?_
  · clear hG W hm
    intro bx179 b' wx179 S H hm hG W N hN
    refine k_set hG W hm (SimF.sim (simF_lc (simI_enum (sim_var 5 rfl rfl)) tg_pair (fun _ => rfl) (List.nil_sublist _) (fun a w => (simT_test (sim_eqI (sim_and (sim_var 1 rfl rfl) (sim_var 3 rfl rfl)) (sim_var 1 rfl rfl)))) (fun a w => (sim_var 0 rfl rfl)))) ?_
    clear hG W hm
    intro ready191 v192 S H hG W hm
    refine k_set hG W hm (SimF.sim (simF_lc (simI_list (sim_var 0 rfl rfl)) tg_name (fun _ => rfl) (List.nil_sublist _) (fun a w => (simT_test (sim_eqI (sim_and (sim_shr (sim_var 3 rfl rfl) (sim_var 0 rfl rfl)) sim_int) sim_int))) (fun a w => (sim_var 0 rfl rfl)))) ?_
    clear hG W hm
    intro following201 v202 S H hG W hm
    refine k_app hG W hm 0 2 rfl rfl rfl (sim_ix (sim_var 0 rfl rfl) sim_int) ?_
    clear hG W hm
    intro y205 c207 S H hG W hm
    revert hG hm; generalize (bx179.1 ++ [y205]) = lamps206; intro hG hm
    refine k_set hG W hm (sim_or (sim_var 4 rfl rfl) (sim_shl sim_int (sim_ix (sim_var 1 rfl rfl) sim_int))) ?_
    clear hG W hm
    intro listed214 v215 S H hG W hm
    cases hm
    refine y_next ?_
    exact hN (c207, v215, (some (v192)), (some (v202))) _ _ (Okc.cons (Okc.at 1 rfl hG) (Okc.cons (Okc.at 0 rfl hG) (Okc.dr 6 hG))) (W.pick [0] rfl)
  · clear hG W hm
    intro bx179 wx179 S H hm hG W
    refine k_frz hG W frz_L 0 0 rfl rfl ?_
    clear hG W
    intro S hG W
    exact k_ret hG W hm (sim_var 0 rfl rfl) (fun v S H hG W hr => k v S H (Okc.at 5 rfl hG) (W.pick [] rfl) hr)
theorem sc_House___init__ : FnScope ["self", "count", "hues", "wires", "upper", "lower", "mask", "_"] ["self", "count", "hues", "wires"] (defScope (inClass (top 22) 2)) := ⟨rfl, rfl, rfl, by decide +kernel, rfl, by decide +kernel, by decide +kernel⟩
theorem ok_House___init__ (E : EnvF K mg) : Mak CX0 P w K mg base 4 "House" (He.ga K "House") (spI (TyA.c tInt (TyA.c tInt (TyA.one (tL (tP tInt tInt))))) (fun a => m_House___init__ a.1 a.2.1 a.2.2) (He.ga K "House") [("_below_masks" : Str), ("_above_masks" : Str), ("_below" : Str), ("_above" : Str), ("_order" : Str), ("count" : Str), ("hues" : Str), ("wires" : Str), ("_direct" : Str)] (TyA.c (tL tInt) (TyA.c (tL tInt) (TyA.c (tL (tL tInt)) (TyA.c (tL (tL tInt)) (TyA.c (tL tInt) (TyA.c tInt (TyA.c tInt (TyA.c (tT (tP tInt tInt)) (TyA.one (tL (tL tInt)))))))))))) := by
  refine mak_mk (k := 3) E.d_House___init__ sc_House___init__ (fun vs H Q E h => by obtain ⟨S, F, a, r, p, dx, ws, rfl, ⟨_, _, rfl, _, ⟨_, _, rfl, _, ⟨_, rfl, _⟩⟩⟩, _⟩ := h; rfl) ⟨fun kV doc pm an cdv ct us h0 hl => absurd h0 (by decide), fun T kV doc pm an cdv ct us its h0 hl hi => match us, its, hl, hi with | [_, _, _, _], [_], _, _ => ⟨_, rfl, rfl⟩⟩ ?_
  rintro f cdv A outer s H vs Q EX hr ⟨S, F, ⟨count217, hues218, wires219⟩, out, p0, dx0, ws, rfl, ⟨v1, _, rfl, h1, ⟨v2, _, rfl, h2, ⟨v3, rfl, h3⟩⟩⟩, W, hm, k⟩
  refine ⟨_, PSs.nox (pss_cons (ps_if (PW.pt (pw_or (pt_not (pt_val (pe_cal (ok_is_integer E) (by exact hr) (by first | decide | omega) (by rfl) pass0 (pa_cons (pv 1) pa_nil)))) (pw_or1 (pt_not (pt_chain op_le op_le pe_int (pv 1) (pe_cvalK (K := K) (C8.pe_gc rfl (by exact E.gc_House)))))))) (pss_cons ps_never pss_nil) pss_nil) (pss_cons (ps_if (PW.pt (pw_or (pt_not (pt_val (pe_cal (ok_is_integer E) (by exact hr) (by first | decide | omega) (by rfl) pass0 (pa_cons (pv 2) pa_nil)))) (pw_or1 (pt_not (pt_chain op_le op_le pe_int (pv 2) (pe_cvalK (K := K) (C8.pe_gc rfl (by exact E.gc_House)))))))) (pss_cons ps_never pss_nil) pss_nil) (pss_cons (ps_fldK (K := K) (pv 0) (pe_cal (ok__join_wires E) (by exact hr) (by first | decide | omega) (by rfl) pass0 (pa_cons (pv 1) (pa_cons (pv 3) pa_nil)))) (pss_cons (ps_fldK (K := K) (pv 0) (pe_cal (ok__turn_round E) (by exact hr) (by first | decide | omega) (by rfl) pass0 (pa_cons (pe_fldK (K := K) (pv 0)) pa_nil))) (pss_cons (ps_fldK (K := K) (pv 0) (pe_lc (own := [("mask", 6)]) rfl sc_House___init__.nd (pi_listK (K := K) (pe_fldK (K := K) (pv 0))) (blkOk_by (N := ["self", "count", "hues", "wires", "upper", "lower", "mask", "_"]) (sc := defScope (inClass (top 22) 2)) (by decide +kernel)) (fun _ _ _ _ _ => (pg_name (i := 6) sc_House___init__.nd rfl (Or.inl rfl))) (fun _ _ _ _ _ => pts_nil) (fun _ _ _ _ _ => (pe_cal (ok_bits E) (by exact hr) (by first | decide | omega) (by rfl) pass0 (pa_cons (pv 6) pa_nil))))) (pss_cons (ps_fldK (K := K) (pv 0) (pe_lc (own := [("mask", 6)]) rfl sc_House___init__.nd (pi_listK (K := K) (pe_fldK (K := K) (pv 0))) (blkOk_by (N := ["self", "count", "hues", "wires", "upper", "lower", "mask", "_"]) (sc := defScope (inClass (top 22) 2)) (by decide +kernel)) (fun _ _ _ _ _ => (pg_name (i := 6) sc_House___init__.nd rfl (Or.inl rfl))) (fun _ _ _ _ _ => pts_nil) (fun _ _ _ _ _ => (pe_cal (ok_bits E) (by exact hr) (by first | decide | omega) (by rfl) pass0 (pa_cons (pv 6) pa_nil))))) (pss_cons (ps_fldK (K := K) (pv 0) (pe_cal (ok__order_list E) (by exact hr) (by first | decide | omega) (by rfl) pass0 (pa_cons (pe_fldK (K := K) (pv 0)) pa_nil))) (pss_cons (ps_fldK (K := K) (pv 0) (pv 1)) (pss_cons (ps_fldK (K := K) (pv 0) (pv 2)) (pss_cons (ps_fldK (K := K) (pv 0) (pe_callTy (call_tupleK (K := K)) rfl (by exact E.g_tuple) (by decide +kernel) (pa_cons (pe_callB (cr_sortedPK (K := K)) rfl (by exact E.g_sorted) (by decide +kernel) (pa_cons (pv 3) pa_nil)) pa_nil))) (pss_cons (ps_fldK (K := K) (pv 0) (pe_lc (own := [("_", 7)]) rfl sc_House___init__.nd (pi_range1 rfl (by exact E.g_range) (pa_cons (pv 1) pa_nil)) (blkOk_by (N := ["self", "count", "hues", "wires", "upper", "lower", "mask", "_"]) (sc := defScope (inClass (top 22) 2)) (by decide +kernel)) (fun _ _ _ _ _ => (pg_name (i := 7) sc_House___init__.nd rfl (Or.inl rfl))) (fun _ _ _ _ _ => pts_nil) (fun _ _ _ _ _ => (pe_lst pa_nil)))) (pss_cons (ps_for PassesOwn.never rfl (pi_tupK (K := K) (pe_fldK (K := K) (pv 0))) (pg_tupK (K := K) (n := 2) rfl (pgs_cons (pg_name (i := 4) sc_House___init__.nd rfl (Or.inl rfl)) (pgs_cons (pg_name (i := 5) sc_House___init__.nd rfl (Or.inl rfl)) pgs_nil))) (pss_cons (ps_expr (pe_bmK (K := K) PySem.F.plainAttrs_list PySem.F.slot_list_append PySem.F.type_list_append mt_append (pe_ix (ix_listK (K := K)) (pe_fldK (K := K) (pv 0)) (pv 4) (by intro _ _; rfl)) (pa_cons (pv 5) pa_nil))) pss_nil)) pss_nil)))))))))))), ?_⟩
  have hG : Okc [fS S, (oIns (He.ga K "House") [] TyA.nil).f () p0 [(p0, .ins (He.ga K "House") dx0 []), (dx0, .own p0)], tInt.f count217 v1, tInt.f hues218 v2, (tL (tP tInt tInt)).f wires219 v3] S := ⟨Same.refl _, ⟨dx0, [], rfl, rfl, List.nodup_nil, rfl⟩, h1, h2, h3, True.intro⟩
  have W : Wd S ([[(p0, .ins (He.ga K "House") dx0 []), (dx0, .own p0)]] ++ F) H := W
  show (_ : TS) _ ([some (.ref p0), some v1, some v2, some v3, none, none, none, none] : L2.St) H
  refine k_if hG W hm (simT_or (simT_not (simT_B (sim_call (simA_one (sim_var 2 rfl rfl))))) (simT_not (simT_test (sim_chain (p := (fun a b => decide (a ≤ b))) (p' := (fun a b => decide (a ≤ b))) sim_int (sim_var 2 rfl rfl) (sim_cval E.cc_House_MOST_LAMPS))))) ?_ ?_
  · clear hG W hm
    intro S H hG W hm
    cases hm
  · clear hG W hm
    intro S H hG W hm
    refine y_next ?_
    refine k_if hG W hm (simT_or (simT_not (simT_B (sim_call (simA_one (sim_var 3 rfl rfl))))) (simT_not (simT_test (sim_chain (p := (fun a b => decide (a ≤ b))) (p' := (fun a b => decide (a ≤ b))) sim_int (sim_var 3 rfl rfl) (sim_cval E.cc_House_MOST_HUES))))) ?_ ?_
    · clear hG W hm
      intro S H hG W hm
      cases hm
    · clear hG W hm
      intro S H hG W hm
      refine y_next ?_
      refine k_fnew [("_below_masks" : Str)] (g := fun a x => x) (a := ()) (A' := (TyA.one (tL tInt))) hG W hm 0 1 rfl rfl rfl E.cl_House E.na_House__below_masks sn_nil rfl (by decide +kernel) (by decide) (sim_call (simA_c (sim_var 2 rfl rfl) (simA_one (sim_var 4 rfl rfl)))) ?_
      clear hG W hm
      intro y236 c238 S H hG W hm
      revert hG hm; generalize ((y236) : ((List Int))) = self237; intro hG hm
      refine k_fnew [("_below_masks" : Str), ("_above_masks" : Str)] (g := fun a x => (a, x)) (a := self237) (A' := (TyA.c (tL tInt) (TyA.one (tL tInt)))) hG W hm 0 0 rfl rfl rfl E.cl_House E.na_House__above_masks sn_one rfl (by decide +kernel) (by decide) (sim_call (simA_one (sim_ofld E.cl_House E.na_House__below_masks pj_one rfl (sim_own 0 0 rfl rfl rfl)))) ?_
      clear hG W hm
      intro y242 c244 S H hG W hm
      revert hG hm; generalize (((self237, y242)) : ((List Int) × (List Int))) = self243; intro hG hm
      refine k_fnew [("_below_masks" : Str), ("_above_masks" : Str), ("_below" : Str)] (g := fun a x => (a.1, (a.2, x))) (a := self243) (A' := (TyA.c (tL tInt) (TyA.c (tL tInt) (TyA.one (tL (tL tInt)))))) hG W hm 0 0 rfl rfl rfl E.cl_House E.na_House__below (sn_c sn_one) rfl (by decide +kernel) (by decide) (SimF.sim (simF_lc (simI_list (sim_ofld E.cl_House E.na_House__below_masks pj_0 rfl (sim_own 0 0 rfl rfl rfl))) tg_name (fun _ => rfl) (List.nil_sublist _) (fun a w => simT_yes) (fun a w => (sim_call (simA_one (sim_var 0 rfl rfl)))))) ?_
      clear hG W hm
      intro y247 c249 S H hG W hm
      revert hG hm; generalize (((self243.1, (self243.2, y247))) : ((List Int) × (List Int) × (List (List Int)))) = self248; intro hG hm
      refine k_fnew [("_below_masks" : Str), ("_above_masks" : Str), ("_below" : Str), ("_above" : Str)] (g := fun a x => (a.1, (a.2.1, (a.2.2, x)))) (a := self248) (A' := (TyA.c (tL tInt) (TyA.c (tL tInt) (TyA.c (tL (tL tInt)) (TyA.one (tL (tL tInt))))))) hG W hm 0 0 rfl rfl rfl E.cl_House E.na_House__above (sn_c (sn_c sn_one)) rfl (by decide +kernel) (by decide) (SimF.sim (simF_lc (simI_list (sim_ofld E.cl_House E.na_House__above_masks (pj_s pj_0) rfl (sim_own 0 0 rfl rfl rfl))) tg_name (fun _ => rfl) (List.nil_sublist _) (fun a w => simT_yes) (fun a w => (sim_call (simA_one (sim_var 0 rfl rfl)))))) ?_
      clear hG W hm
      intro y254 c256 S H hG W hm
      revert hG hm; generalize (((self248.1, (self248.2.1, (self248.2.2, y254)))) : ((List Int) × (List Int) × (List (List Int)) × (List (List Int)))) = self255; intro hG hm
      refine k_fnew [("_below_masks" : Str), ("_above_masks" : Str), ("_below" : Str), ("_above" : Str), ("_order" : Str)] (g := fun a x => (a.1, (a.2.1, (a.2.2.1, (a.2.2.2, x))))) (a := self255) (A' := (TyA.c (tL tInt) (TyA.c (tL tInt) (TyA.c (tL (tL tInt)) (TyA.c (tL (tL tInt)) (TyA.one (tL tInt))))))) hG W hm 0 0 rfl rfl rfl E.cl_House E.na_House__order (sn_c (sn_c (sn_c sn_one))) rfl (by decide +kernel) (by decide) (sim_call (simA_one (sim_ofld E.cl_House E.na_House__above_masks (pj_s pj_0) rfl (sim_own 0 0 rfl rfl rfl)))) ?_
      clear hG W hm
      intro y261 c263 S H hG W hm
      revert hG hm; generalize (((self255.1, (self255.2.1, (self255.2.2.1, (self255.2.2.2, y261))))) : ((List Int) × (List Int) × (List (List Int)) × (List (List Int)) × (List Int))) = self262; intro hG hm
      refine k_fnew [("_below_masks" : Str), ("_above_masks" : Str), ("_below" : Str), ("_above" : Str), ("_order" : Str), ("count" : Str)] (g := fun a x => (a.1, (a.2.1, (a.2.2.1, (a.2.2.2.1, (a.2.2.2.2, x)))))) (a := self262) (A' := (TyA.c (tL tInt) (TyA.c (tL tInt) (TyA.c (tL (tL tInt)) (TyA.c (tL (tL tInt)) (TyA.c (tL tInt) (TyA.one tInt))))))) hG W hm 0 0 rfl rfl rfl E.cl_House E.na_House_count (sn_c (sn_c (sn_c (sn_c sn_one)))) rfl (by decide +kernel) (by decide) (sim_var 7 rfl rfl) ?_
      clear hG W hm
      intro y266 c268 S H hG W hm
      revert hG hm; generalize (((self262.1, (self262.2.1, (self262.2.2.1, (self262.2.2.2.1, (self262.2.2.2.2, y266)))))) : ((List Int) × (List Int) × (List (List Int)) × (List (List Int)) × (List Int) × Int)) = self267; intro hG hm
      refine k_fnew [("_below_masks" : Str), ("_above_masks" : Str), ("_below" : Str), ("_above" : Str), ("_order" : Str), ("count" : Str), ("hues" : Str)] (g := fun a x => (a.1, (a.2.1, (a.2.2.1, (a.2.2.2.1, (a.2.2.2.2.1, (a.2.2.2.2.2, x))))))) (a := self267) (A' := (TyA.c (tL tInt) (TyA.c (tL tInt) (TyA.c (tL (tL tInt)) (TyA.c (tL (tL tInt)) (TyA.c (tL tInt) (TyA.c tInt (TyA.one tInt)))))))) hG W hm 0 0 rfl rfl rfl E.cl_House E.na_House_hues (sn_c (sn_c (sn_c (sn_c (sn_c sn_one))))) rfl (by decide +kernel) (by decide) (sim_var 9 rfl rfl) ?_
      clear hG W hm
      intro y269 c271 S H hG W hm
      revert hG hm; generalize (((self267.1, (self267.2.1, (self267.2.2.1, (self267.2.2.2.1, (self267.2.2.2.2.1, (self267.2.2.2.2.2, y269))))))) : ((List Int) × (List Int) × (List (List Int)) × (List (List Int)) × (List Int) × Int × Int)) = self270; intro hG hm
      refine k_fnew [("_below_masks" : Str), ("_above_masks" : Str), ("_below" : Str), ("_above" : Str), ("_order" : Str), ("count" : Str), ("hues" : Str), ("wires" : Str)] (g := fun a x => (a.1, (a.2.1, (a.2.2.1, (a.2.2.2.1, (a.2.2.2.2.1, (a.2.2.2.2.2.1, (a.2.2.2.2.2.2, x)))))))) (a := self270) (A' := (TyA.c (tL tInt) (TyA.c (tL tInt) (TyA.c (tL (tL tInt)) (TyA.c (tL (tL tInt)) (TyA.c (tL tInt) (TyA.c tInt (TyA.c tInt (TyA.one (tT (tP tInt tInt))))))))))) hG W hm 0 0 rfl rfl rfl E.cl_House E.na_House_wires (sn_c (sn_c (sn_c (sn_c (sn_c (sn_c sn_one)))))) rfl (by decide +kernel) (by decide) (sim_tuple (SimF.sim (simF_sortedP (sim_var 11 rfl rfl)))) ?_
      clear hG W hm
      intro y272 c274 S H hG W hm
      revert hG hm; generalize (((self270.1, (self270.2.1, (self270.2.2.1, (self270.2.2.2.1, (self270.2.2.2.2.1, (self270.2.2.2.2.2.1, (self270.2.2.2.2.2.2, y272)))))))) : ((List Int) × (List Int) × (List (List Int)) × (List (List Int)) × (List Int) × Int × Int × (List (Int × Int)))) = self273; intro hG hm
      refine k_fnewO [("_below_masks" : Str), ("_above_masks" : Str), ("_below" : Str), ("_above" : Str), ("_order" : Str), ("count" : Str), ("hues" : Str), ("wires" : Str), ("_direct" : Str)] (g := fun a x => (a.1, (a.2.1, (a.2.2.1, (a.2.2.2.1, (a.2.2.2.2.1, (a.2.2.2.2.2.1, (a.2.2.2.2.2.2.1, (a.2.2.2.2.2.2.2, x))))))))) (a := self273) (A' := fun q => (TyA.c (tL tInt) (TyA.c (tL tInt) (TyA.c (tL (tL tInt)) (TyA.c (tL (tL tInt)) (TyA.c (tL tInt) (TyA.c tInt (TyA.c tInt (TyA.c (tT (tP tInt tInt)) (TyA.one (tAt q))))))))))) hG W hm 0 0 rfl rfl rfl E.cl_House E.na_House__direct (fun q => (sn_c (sn_c (sn_c (sn_c (sn_c (sn_c (sn_c sn_one)))))))) rfl (by decide +kernel) (by decide) (simF_lcLL (simI_range1 (sim_var 10 rfl rfl)) tg_name (fun _ => rfl) (List.nil_sublist _) (fun a w => simT_yes) (fun a w => (simF_lst (T := tInt) simA_ln0))) ?_
      clear hG W hm
      intro y276 p282 c283 c278 S H hG W hm
      revert hG hm; generalize (((self273.1, (self273.2.1, (self273.2.2.1, (self273.2.2.2.1, (self273.2.2.2.2.1, (self273.2.2.2.2.2.1, (self273.2.2.2.2.2.2.1, (self273.2.2.2.2.2.2.2, ()))))))))) : ((List Int) × (List Int) × (List (List Int)) × (List (List Int)) × (List Int) × Int × Int × (List (Int × Int)) × Unit)) = self277; intro hG hm
      refine k_fold (σJ := (fun (bx285 : (List (List Int))) (wx285 : List Cell × Option V × Option V) => ([some (.ref p0), some v1, some v2, some v3, wx285.2.1, wx285.2.2, none, none] : L2.St))) (OJ := (fun (bx285 : (List (List Int))) (wx285 : List Cell × Option V × Option V) => ([wx285.1, c278] : Ow))) (Fb := (fun (bx285 : (List (List Int))) (wx285 : List Cell × Option V × Option V) => ([(oLL tInt).f bx285 p282 (wx285.1)] : List Fact))) (σT := (fun b w (tx285 : V × V) => (((fun (bx285 : (List (List Int))) (wx285 : List Cell × Option V × Option V) => ([some (.ref p0), some v1, some v2, some v3, wx285.2.1, wx285.2.2, none, none] : L2.St)) b w).set 4 (some tx285.1)).set 5 (some tx285.2))) ((c283, (none), (none)) : List Cell × Option V × Option V) hG W hm (simI_tup (sim_ofld E.cl_House E.na_House_wires (pj_s (pj_s (pj_s (pj_s (pj_s (pj_s (pj_s pj_0))))))) rfl (sim_own 1 1 rfl rfl rfl))) (fun b w => tg_pair) (fun b w => List.nil_sublist _) rfl rfl (fun S h => (Okc.cons (Okc.at 0 rfl h) h)) ?_ ?_
      · clear hG W hm
        intro S1 y286 bx285 b' wx285 tx285 S H hm hG W N hN
        refine k_app2 hG W hm 0 2 rfl rfl (sim_ofld E.cl_House E.na_House__direct (pj_s (pj_s (pj_s (pj_s (pj_s (pj_s (pj_s (pj_s pj_one)))))))) rfl (sim_own 1 5 rfl rfl rfl)) (sim_var 0 rfl rfl) (sim_var 1 rfl rfl) ?_
        clear hG W hm
        intro xss292 c293 S H hG W hm
        cases hm
        refine y_next ?_
        exact hN (c293, (some (tx285.1)), (some (tx285.2))) _ _ (Okc.cons (Okc.at 0 rfl hG) (Okc.dr 4 hG)) (W.pick [0, 0] rfl)
      · clear hG W hm
        intro bx285 wx285 S H hm hG W
        refine k_frz hG W frz_LL 0 0 rfl rfl ?_
        clear hG W
        intro S hG W
        refine k_cast hG 3 0 rfl rfl (ls_c (ls_c (ls_c (ls_c (ls_c (ls_c (ls_c (ls_c ls_one)))))))) ?_
        clear hG
        intro hG
        exact x_endI hm k (Okc.at 13 rfl hG) (W.pick [0] rfl) (Okc.at 0 rfl hG)
theorem sc_House_order : FnScope ["self"] ["self"] (defScope (inClass (top 22) 10)) := ⟨rfl, rfl, rfl, by decide +kernel, rfl, by decide +kernel, by decide +kernel⟩
theorem ok_House_order (E : EnvF K mg) : Mtd CX0 P w K mg base 1 (He.ga K "House") "order" (spP (TyA.one (tHouse (He.ga K "House"))) (fun a => m_House_order a) (tL tInt)) := by
  refine mtd_mk (k := 0) E.d_House_order sc_House_order (fun vs H Q E h => by obtain ⟨S, F, a, r, ⟨_, rfl, _⟩, _⟩ := h; rfl) (fun _ _ _ _ _ _ us hl => match us, hl with | [_], _ => rfl) ?_
  rintro f cdv A outer s H vs Q EX hr ⟨S, F, self294, out, ⟨v0, rfl, h0⟩, W, hm, k⟩
  refine ⟨_, PSs.nox (pss_cons (ps_ret (pe_callTy (call_listK (K := K)) rfl (by exact E.g_list) (by decide +kernel) (pa_cons (pe_fldK (K := K) (pv 0)) pa_nil))) pss_nil), ?_⟩
  have hG : Okc [fS S, (tHouse (He.ga K "House")).f self294 v0] S := ⟨Same.refl _, h0, True.intro⟩
  have W : Wd S (([] : Ow) ++ F) H := W
  show (_ : TS) _ ([some v0] : L2.St) H
  exact k_ret hG W hm (SimF.sim (simF_list (sim_fld (house_fld E.cl_House (E.na_House__order) (fun _ _ _ h => h.order)) (sim_var 1 rfl rfl)))) (fun v S H hG W hr => k v S H (Okc.at 0 rfl hG) (W.pick [] rfl) hr)
theorem sc_is_state : FnScope ["house", "value", "hue"] ["house", "value"] (defScope (top 24)) := ⟨rfl, rfl, rfl, by decide +kernel, rfl, by decide +kernel, by decide +kernel⟩
theorem ok_is_state (E : EnvF K mg) : Cal CX0 P w K mg base 2 "is_state" (spP (TyA.c (tHouse (He.ga K "House")) (TyA.one (tT tInt))) (fun a => m_is_state a.1 a.2) tBool) := by
  refine cal_mk (k := 1) E.d_is_state sc_is_state (fun vs H Q E h => by obtain ⟨S, F, a, r, ⟨_, _, rfl, _, ⟨_, rfl, _⟩⟩, _⟩ := h; rfl) (fun _ _ _ _ _ _ us hl => match us, hl with | [_, _], _ => rfl) ?_
  rintro f cdv A outer s H vs Q EX hr ⟨S, F, ⟨house296, value297⟩, out, ⟨v0, _, rfl, h0, ⟨v1, rfl, h1⟩⟩, W, hm, k⟩
  refine ⟨_, PSs.nox (pss_cons (ps_if (PW.pt (pw_or (pt_not (pt_val (pe_callB (call_isiKK (K := K)) rfl (by exact E.g_isinstance) (by decide +kernel) (pa_cons (pv 1) (pa_cons (pe_bltn (v := .ty "tuple") (u := .type "tuple") rfl (by exact E.g_tuple) (by decide +kernel) rfl) pa_nil))))) (pw_or1 (pt_cmpR op_ne (pe_callB (call_lenK (K := K)) rfl (by exact E.g_len) boot_len (pa_cons (pv 1) pa_nil)) (pe_fldK (K := K) (pv 0)) (nomark _))))) (pss_cons (ps_ret pe_bl) pss_nil) pss_nil) (pss_cons (ps_ret (pe_callB (cr_allK (K := K)) rfl (by exact E.g_all) (by decide +kernel) (pa_cons (pe_lc (own := [("hue", 2)]) rfl sc_is_state.nd (pi_tupK (K := K) (pv 1)) (blkOk_by (N := ["house", "value", "hue"]) (sc := defScope (top 24)) (by decide +kernel)) (fun _ _ _ _ _ => (pg_name (i := 2) sc_is_state.nd rfl (Or.inl rfl))) (fun _ _ _ _ _ => pts_nil) (fun _ _ _ _ _ => (pe_and (pe_cal (ok_is_integer E) (by exact hr) (by first | decide | omega) (by rfl) pass0 (pa_cons (pv 2) pa_nil)) (pe_one (pe_chain op_le op_lt pe_int (pv 2) (pe_fldK (K := K) (pv 0))))))) pa_nil))) pss_nil)), ?_⟩
  have hG : Okc [fS S, (tHouse (He.ga K "House")).f house296 v0, (tT tInt).f value297 v1] S := ⟨Same.refl _, h0, h1, True.intro⟩
  have W : Wd S (([] : Ow) ++ F) H := W
  show (_ : TS) _ ([some v0, some v1, none] : L2.St) H
  refine k_if hG W hm (simT_or (simT_not (simT_B (sim_isi isI_tup_tuple (sim_var 2 rfl rfl)))) (simT_test (sim_neI (sim_lenT (sim_var 2 rfl rfl)) (sim_fld (house_fld E.cl_House (E.na_House_count) (fun _ _ _ h => h.count)) (sim_var 1 rfl rfl))))) ?_ ?_
  · clear hG W hm
    intro S H hG W hm
    exact k_ret hG W hm sim_bl (fun v S H hG W hr => k v S H (Okc.at 0 rfl hG) (W.pick [] rfl) hr)
  · clear hG W hm
    intro S H hG W hm
    refine y_next ?_
    exact k_ret hG W hm (sim_all (SimF.sim (simF_lc (simI_tup (sim_var 2 rfl rfl)) tg_name (fun _ => rfl) (List.nil_sublist _) (fun a w => simT_yes) (fun a w => (sim_andV (sim_call (simA_one (sim_var 0 rfl rfl))) (sim_chain (p := (fun a b => decide (a ≤ b))) (p' := (fun a b => decide (a < b))) sim_int (sim_var 0 rfl rfl) (sim_fld (house_fld E.cl_House (E.na_House_hues) (fun _ _ _ h => h.hues)) (sim_var 2 rfl rfl)))))))) (fun v S H hG W hr => k v S H (Okc.at 0 rfl hG) (W.pick [] rfl) hr)
theorem sc_turned_down : FnScope ["hue", "hues"] ["hue", "hues"] (defScope (top 25)) := ⟨rfl, rfl, rfl, by decide +kernel, rfl, by decide +kernel, by decide +kernel⟩
theorem ok_turned_down (E : EnvF K mg) : Cal CX0 P w K mg base 1 "turned_down" (spP (TyA.c tInt (TyA.one tInt)) (fun a => m_turned_down a.1 a.2) tInt) := by
  refine cal_mk (k := 0) E.d_turned_down sc_turned_down (fun vs H Q E h => by obtain ⟨S, F, a, r, ⟨_, _, rfl, _, ⟨_, rfl, _⟩⟩, _⟩ := h; rfl) (fun _ _ _ _ _ _ us hl => match us, hl with | [_, _], _ => rfl) ?_
  rintro f cdv A outer s H vs Q EX hr ⟨S, F, ⟨hue314, hues315⟩, out, ⟨v0, _, rfl, h0, ⟨v1, rfl, h1⟩⟩, W, hm, k⟩
  refine ⟨_, PSs.nox (pss_cons (ps_if (pt_cmpR op_gt (pv 0) pe_int (nomark _)) (pss_cons (ps_ret (pe_op op_sub (pv 0) pe_int)) pss_nil) pss_nil) (pss_cons (ps_ret (pe_op op_sub (pv 1) pe_int)) pss_nil)), ?_⟩
  have hG : Okc [fS S, tInt.f hue314 v0, tInt.f hues315 v1] S := ⟨Same.refl _, h0, h1, True.intro⟩
  have W : Wd S (([] : Ow) ++ F) H := W
  show (_ : TS) _ ([some v0, some v1] : L2.St) H
  refine k_if hG W hm (simT_test (sim_gt (sim_var 1 rfl rfl) sim_int)) ?_ ?_
  · clear hG W hm
    intro S H hG W hm
    exact k_ret hG W hm (sim_sub (sim_var 1 rfl rfl) sim_int) (fun v S H hG W hr => k v S H (Okc.at 0 rfl hG) (W.pick [] rfl) hr)
  · clear hG W hm
    intro S H hG W hm
    refine y_next ?_
    exact k_ret hG W hm (sim_sub (sim_var 2 rfl rfl) sim_int) (fun v S H hG W hr => k v S H (Okc.at 0 rfl hG) (W.pick [] rfl) hr)
theorem sc_need_lamp : FnScope ["house", "value"] ["house", "value"] (defScope (top 27)) := ⟨rfl, rfl, rfl, by decide +kernel, rfl, by decide +kernel, by decide +kernel⟩
theorem ok_need_lamp (E : EnvF K mg) : Cal CX0 P w K mg base 3 "need_lamp" (spP (TyA.c (tHouse (He.ga K "House")) (TyA.one tInt)) (fun a => m_need_lamp a.1 a.2) tUnit) := by
  refine cal_mk (k := 2) E.d_need_lamp sc_need_lamp (fun vs H Q E h => by obtain ⟨S, F, a, r, ⟨_, _, rfl, _, ⟨_, rfl, _⟩⟩, _⟩ := h; rfl) (fun _ _ _ _ _ _ us hl => match us, hl with | [_, _], _ => rfl) ?_
  rintro f cdv A outer s H vs Q EX hr ⟨S, F, ⟨house323, value324⟩, out, ⟨v0, _, rfl, h0, ⟨v1, rfl, h1⟩⟩, W, hm, k⟩
  refine ⟨_, PSs.nox (pss_cons (ps_if (pt_not (pt_val (pe_cal (ok_is_lamp E) (by exact hr) (by first | decide | omega) (by rfl) pass0 (pa_cons (pv 0) (pa_cons (pv 1) pa_nil))))) (pss_cons ps_never pss_nil) pss_nil) pss_nil), ?_⟩
  have hG : Okc [fS S, (tHouse (He.ga K "House")).f house323 v0, tInt.f value324 v1] S := ⟨Same.refl _, h0, h1, True.intro⟩
  have W : Wd S (([] : Ow) ++ F) H := W
  show (_ : TS) _ ([some v0, some v1] : L2.St) H
  refine k_if hG W hm (simT_not (simT_B (sim_call (simA_c (sim_var 1 rfl rfl) (simA_one (sim_var 2 rfl rfl)))))) ?_ ?_
  · clear hG W hm
    intro S H hG W hm
    cases hm
  · clear hG W hm
    intro S H hG W hm
    refine y_next ?_
    cases hm
    exact k _ _ _ (Okc.at 0 rfl hG) (W.pick [] rfl) rfl
theorem sc_need_state : FnScope ["house", "value"] ["house", "value"] (defScope (top 28)) := ⟨rfl, rfl, rfl, by decide +kernel, rfl, by decide +kernel, by decide +kernel⟩
theorem ok_need_state (E : EnvF K mg) : Cal CX0 P w K mg base 3 "need_state" (spP (TyA.c (tHouse (He.ga K "House")) (TyA.one (tT tInt))) (fun a => m_need_state a.1 a.2) tUnit) := by
  refine cal_mk (k := 2) E.d_need_state sc_need_state (fun vs H Q E h => by obtain ⟨S, F, a, r, ⟨_, _, rfl, _, ⟨_, rfl, _⟩⟩, _⟩ := h; rfl) (fun _ _ _ _ _ _ us hl => match us, hl with | [_, _], _ => rfl) ?_
  rintro f cdv A outer s H vs Q EX hr ⟨S, F, ⟨house330, value331⟩, out, ⟨v0, _, rfl, h0, ⟨v1, rfl, h1⟩⟩, W, hm, k⟩
  refine ⟨_, PSs.nox (pss_cons (ps_if (pt_not (pt_val (pe_cal (ok_is_state E) (by exact hr) (by first | decide | omega) (by rfl) pass0 (pa_cons (pv 0) (pa_cons (pv 1) pa_nil))))) (pss_cons ps_never pss_nil) pss_nil) pss_nil), ?_⟩
  have hG : Okc [fS S, (tHouse (He.ga K "House")).f house330 v0, (tT tInt).f value331 v1] S := ⟨Same.refl _, h0, h1, True.intro⟩
  have W : Wd S (([] : Ow) ++ F) H := W
  show (_ : TS) _ ([some v0, some v1] : L2.St) H
  refine k_if hG W hm (simT_not (simT_B (sim_call (simA_c (sim_var 1 rfl rfl) (simA_one (sim_var 2 rfl rfl)))))) ?_ ?_
  · clear hG W hm
    intro S H hG W hm
    cases hm
  · clear hG W hm
    intro S H hG W hm
    refine y_next ?_
    cases hm
    exact k _ _ _ (Okc.at 0 rfl hG) (W.pick [] rfl) rfl
theorem sc_need_states : FnScope ["house", "states", "state"] ["house", "states"] (defScope (top 29)) := ⟨rfl, rfl, rfl, by decide +kernel, rfl, by decide +kernel, by decide +kernel⟩
theorem ok_need_states (E : EnvF K mg) : Cal CX0 P w K mg base 4 "need_states" (spP (TyA.c (tHouse (He.ga K "House")) (TyA.one (tL (tT tInt)))) (fun a => m_need_states a.1 a.2) tUnit) := by
  refine cal_mk (k := 3) E.d_need_states sc_need_states (fun vs H Q E h => by obtain ⟨S, F, a, r, ⟨_, _, rfl, _, ⟨_, rfl, _⟩⟩, _⟩ := h; rfl) (fun _ _ _ _ _ _ us hl => match us, hl with | [_, _], _ => rfl) ?_
  rintro f cdv A outer s H vs Q EX hr ⟨S, F, ⟨house337, states338⟩, out, ⟨v0, _, rfl, h0, ⟨v1, rfl, h1⟩⟩, W, hm, k⟩
  refine ⟨_, PSs.nox (pss_cons (ps_for PassesOwn.never rfl (pi_listK (K := K) (pv 1)) (pg_name (i := 2) sc_need_states.nd rfl (Or.inl rfl)) (pss_cons (ps_expr (pe_cal (ok_need_state E) (by exact hr) (by first | decide | omega) (by rfl) pass0 (pa_cons (pv 0) (pa_cons (pv 2) pa_nil)))) pss_nil)) pss_nil), ?_⟩
  have hG : Okc [fS S, (tHouse (He.ga K "House")).f house337 v0, (tL (tT tInt)).f states338 v1] S := ⟨Same.refl _, h0, h1, True.intro⟩
  have W : Wd S (([] : Ow) ++ F) H := W
  show (_ : TS) _ ([some v0, some v1, none] : L2.St) H
  refine k_fold (σJ := (fun (bx339 : Unit) (wx339 : Option V) => ([some v0, some v1, wx339] : L2.St))) (OJ := (fun (bx339 : Unit) (wx339 : Option V) => ([] : Ow))) (Fb := (fun (bx339 : Unit) (wx339 : Option V) => ([] : List Fact))) (σT := (fun b w (tx339 : V) => ((fun (bx339 : Unit) (wx339 : Option V) => ([some v0, some v1, wx339] : L2.St)) b w).set 2 (some tx339))) ((none) : Option V) hG W hm (simI_list (sim_var 2 rfl rfl)) (fun b w => tg_name) (fun b w => List.nil_sublist _) rfl rfl (fun S h => h) ?_ ?_
  · clear hG W hm
    intro S1 y340 bx339 b' wx339 tx339 S H hm hG W N hN
    refine k_drop hG W hm (sim_call (simA_c (sim_var 3 rfl rfl) (simA_one (sim_var 0 rfl rfl)))) ?_
    clear hG W hm
    intro z345 S H hG W hm
    cases hm
    refine y_next ?_
    exact hN (some (tx339)) _ _ (Okc.dr 1 hG) (W.pick [] rfl)
  · clear hG W hm
    intro bx339 wx339 S H hm hG W
    cases hm
    exact k _ _ _ (Okc.at 0 rfl hG) (W.pick [] rfl) rfl
theorem sc_need_run : FnScope ["house", "run", "lamp"] ["house", "run"] (defScope (top 30)) := ⟨rfl, rfl, rfl, by decide +kernel, rfl, by decide +kernel, by decide +kernel⟩
theorem ok_need_run (E : EnvF K mg) : Cal CX0 P w K mg base 4 "need_run" (spP (TyA.c (tHouse (He.ga K "House")) (TyA.one (tL tInt))) (fun a => m_need_run a.1 a.2) tUnit) := by
  refine cal_mk (k := 3) E.d_need_run sc_need_run (fun vs H Q E h => by obtain ⟨S, F, a, r, ⟨_, _, rfl, _, ⟨_, rfl, _⟩⟩, _⟩ := h; rfl) (fun _ _ _ _ _ _ us hl => match us, hl with | [_, _], _ => rfl) ?_
  rintro f cdv A outer s H vs Q EX hr ⟨S, F, ⟨house346, run347⟩, out, ⟨v0, _, rfl, h0, ⟨v1, rfl, h1⟩⟩, W, hm, k⟩
  refine ⟨_, PSs.nox (pss_cons (ps_for PassesOwn.never rfl (pi_listK (K := K) (pv 1)) (pg_name (i := 2) sc_need_run.nd rfl (Or.inl rfl)) (pss_cons (ps_expr (pe_cal (ok_need_lamp E) (by exact hr) (by first | decide | omega) (by rfl) pass0 (pa_cons (pv 0) (pa_cons (pv 2) pa_nil)))) pss_nil)) pss_nil), ?_⟩
  have hG : Okc [fS S, (tHouse (He.ga K "House")).f house346 v0, (tL tInt).f run347 v1] S := ⟨Same.refl _, h0, h1, True.intro⟩
  have W : Wd S (([] : Ow) ++ F) H := W
  show (_ : TS) _ ([some v0, some v1, none] : L2.St) H
  refine k_fold (σJ := (fun (bx348 : Unit) (wx348 : Option V) => ([some v0, some v1, wx348] : L2.St))) (OJ := (fun (bx348 : Unit) (wx348 : Option V) => ([] : Ow))) (Fb := (fun (bx348 : Unit) (wx348 : Option V) => ([] : List Fact))) (σT := (fun b w (tx348 : V) => ((fun (bx348 : Unit) (wx348 : Option V) => ([some v0, some v1, wx348] : L2.St)) b w).set 2 (some tx348))) ((none) : Option V) hG W hm (simI_list (sim_var 2 rfl rfl)) (fun b w => tg_name) (fun b w => List.nil_sublist _) rfl rfl (fun S h => h) ?_ ?_
  · clear hG W hm
    intro S1 y349 bx348 b' wx348 tx348 S H hm hG W N hN
    refine k_drop hG W hm (sim_call (simA_c (sim_var 3 rfl rfl) (simA_one (sim_var 0 rfl rfl)))) ?_
    clear hG W hm
    intro z354 S H hG W hm
    cases hm
    refine y_next ?_
    exact hN (some (tx348)) _ _ (Okc.dr 1 hG) (W.pick [] rfl)
  · clear hG W hm
    intro bx348 wx348 S H hm hG W
    cases hm
    exact k _ _ _ (Okc.at 0 rfl hG) (W.pick [] rfl) rfl
theorem sc__topmost : FnScope ["house", "source", "target", "differing", "lamp", "masks"] ["house", "source", "target"] (defScope (top 32)) := ⟨rfl, rfl, rfl, by decide +kernel, rfl, by decide +kernel, by decide +kernel⟩
theorem ok__topmost (E : EnvF K mg) : Cal CX0 P w K mg base 2 "_topmost" (spP (TyA.c (tHouse (He.ga K "House")) (TyA.c (tT tInt) (TyA.one (tT tInt)))) (fun a => m__topmost a.1 a.2.1 a.2.2) (tL tInt)) := by
  refine cal_mk (k := 1) E.d__topmost sc__topmost (fun vs H Q E h => by obtain ⟨S, F, a, r, ⟨_, _, rfl, _, ⟨_, _, rfl, _, ⟨_, rfl, _⟩⟩⟩, _⟩ := h; rfl) (fun _ _ _ _ _ _ us hl => match us, hl with | [_, _, _], _ => rfl) ?_
  rintro f cdv A outer s H vs Q EX hr ⟨S, F, ⟨house355, source356, target357⟩, out, ⟨v0, _, rfl, h0, ⟨v1, _, rfl, h1, ⟨v2, rfl, h2⟩⟩⟩, W, hm, k⟩
  refine ⟨_, PSs.nox (pss_cons (ps_set (i := 3) sc__topmost.nd rfl (Or.inr rfl) pe_int) (pss_cons (ps_for PassesOwn.never rfl (pi_range1 rfl (by exact E.g_range) (pa_cons (pe_fldK (K := K) (pv 0)) pa_nil)) (pg_name (i := 4) sc__topmost.nd rfl (Or.inl rfl)) (pss_cons (ps_if (pt_cmpR op_ne (pe_ix (ix_tupK (K := K)) (pv 1) (pv 4) (by intro _ _; rfl)) (pe_ix (ix_tupK (K := K)) (pv 2) (pv 4) (by intro _ _; rfl)) (nomark _)) (pss_cons (ps_set (i := 3) sc__topmost.nd rfl (Or.inr rfl) (pe_op op_or (pv 3) (pe_op op_shl pe_int (pv 4)))) pss_nil) pss_nil) pss_nil)) (pss_cons (ps_set (i := 5) sc__topmost.nd rfl (Or.inr rfl) (pe_cal (ok_above_masks E) (by exact hr) (by first | decide | omega) (by rfl) pass0 (pa_cons (pv 0) pa_nil))) (pss_cons (ps_ret (pe_lc (own := [("lamp", 4)]) rfl sc__topmost.nd (pi_range1 rfl (by exact E.g_range) (pa_cons (pe_fldK (K := K) (pv 0)) pa_nil)) (blkOk_by (N := ["house", "source", "target", "differing", "lamp", "masks"]) (sc := defScope (top 32)) (by decide +kernel)) (fun _ _ _ _ _ => (pg_name (i := 4) sc__topmost.nd rfl (Or.inl rfl))) (fun _ _ _ _ _ => (pts_one (PW.pt (pw_and (pt_cmpR op_ne (pe_ix (ix_tupK (K := K)) (pv 1) (pv 4) (by intro _ _; rfl)) (pe_ix (ix_tupK (K := K)) (pv 2) (pv 4) (by intro _ _; rfl)) (nomark _)) (pw_and1 (pt_cmpR op_eq (pe_op op_and (pe_ix (ix_listK (K := K)) (pv 5) (pv 4) (by intro _ _; rfl)) (pv 3)) pe_int (nomark _))))))) (fun _ _ _ _ _ => (pv 4)))) pss_nil)))), ?_⟩
  have hG : Okc [fS S, (tHouse (He.ga K "House")).f house355 v0, (tT tInt).f source356 v1, (tT tInt).f target357 v2] S := ⟨Same.refl _, h0, h1, h2, True.intro⟩
  have W : Wd S (([] : Ow) ++ F) H := W
  show (_ : TS) _ ([some v0, some v1, some v2, none, none, none] : L2.St) H
  refine k_set hG W hm sim_int ?_
  clear hG W hm
  intro differing358 v359 S H hG W hm
  refine k_fold (σJ := (fun (bx362 : Int) (wx362 : V × Option V) => ([some v0, some v1, some v2, some (wx362.1), wx362.2, none] : L2.St))) (OJ := (fun (bx362 : Int) (wx362 : V × Option V) => ([] : Ow))) (Fb := (fun (bx362 : Int) (wx362 : V × Option V) => ([tInt.f bx362 (wx362.1)] : List Fact))) (σT := (fun b w (tx362 : V) => ((fun (bx362 : Int) (wx362 : V × Option V) => ([some v0, some v1, some v2, some (wx362.1), wx362.2, none] : L2.St)) b w).set 4 (some tx362))) ((v359, (none)) : V × Option V) hG W hm (simI_range1 (sim_fld (house_fld E.cl_House (E.na_House_count) (fun _ _ _ h => h.count)) (sim_var 2 rfl rfl))) (fun b w => tg_name) (fun b w => List.nil_sublist _) rfl rfl (fun S h => (Okc.cons (Okc.at 0 rfl h) h)) ?_ ?_
  · clear hG W hm
    intro S1 y363 bx362 b' wx362 tx362 S H hm hG W N hN
    refine k_if hG W hm (simT_test (sim_neI (sim_ixT (sim_var 6 rfl rfl) (sim_var 0 rfl rfl)) (sim_ixT (sim_var 7 rfl rfl) (sim_var 0 rfl rfl)))) ?_ ?_
    · clear hG W hm
      intro S H hG W hm
      refine k_set hG W hm (sim_or (sim_var 1 rfl rfl) (sim_shl sim_int (sim_var 0 rfl rfl))) ?_
      clear hG W hm
      intro differing376 v377 S H hG W hm
      refine y_next ?_
      cases hm
      refine y_next ?_
      exact hN (v377, (some (tx362))) _ _ (Okc.cons (Okc.at 0 rfl hG) (Okc.dr 3 hG)) (W.pick [] rfl)
    · clear hG W hm
      intro S H hG W hm
      refine y_next ?_
      cases hm
      refine y_next ?_
      exact hN (wx362.1, (some (tx362))) _ _ (Okc.cons (Okc.at 1 rfl hG) (Okc.dr 2 hG)) (W.pick [] rfl)
  · clear hG W hm
    intro bx362 wx362 S H hm hG W
    refine k_set hG W hm (sim_call (simA_one (sim_var 3 rfl rfl))) ?_
    clear hG W hm
    intro masks379 v380 S H hG W hm
    exact k_ret hG W hm (SimF.sim (simF_lc (simI_range1 (sim_fld (house_fld E.cl_House (E.na_House_count) (fun _ _ _ h => h.count)) (sim_var 4 rfl rfl))) tg_name (fun _ => rfl) (List.nil_sublist _) (fun a w => (simT_and (simT_test (sim_neI (sim_ixT (sim_var 6 rfl rfl) (sim_var 0 rfl rfl)) (sim_ixT (sim_var 7 rfl rfl) (sim_var 0 rfl rfl)))) (simT_test (sim_eqI (sim_and (sim_ix (sim_var 1 rfl rfl) (sim_var 0 rfl rfl)) (sim_var 2 rfl rfl)) sim_int)))) (fun a w => (sim_var 0 rfl rfl)))) (fun v S H hG W hr => k v S H (Okc.at 3 rfl hG) (W.pick [] rfl) hr)
theorem sc_raw_obstacle : FnScope ["house", "source", "target", "lamp"] ["house", "source", "target"] (defScope (top 33)) := ⟨rfl, rfl, rfl, by decide +kernel, rfl, by decide +kernel, by decide +kernel⟩
theorem ok_raw_obstacle (E : EnvF K mg) : Cal CX0 P w K mg base 3 "raw_obstacle" (spP (TyA.c (tHouse (He.ga K "House")) (TyA.c (tT tInt) (TyA.one (tT tInt)))) (fun a => m_raw_obstacle a.1 a.2.1 a.2.2) (tO tInt)) := by
  refine cal_mk (k := 2) E.d_raw_obstacle sc_raw_obstacle (fun vs H Q E h => by obtain ⟨S, F, a, r, ⟨_, _, rfl, _, ⟨_, _, rfl, _, ⟨_, rfl, _⟩⟩⟩, _⟩ := h; rfl) (fun _ _ _ _ _ _ us hl => match us, hl with | [_, _, _], _ => rfl) ?_
  rintro f cdv A outer s H vs Q EX hr ⟨S, F, ⟨house398, source399, target400⟩, out, ⟨v0, _, rfl, h0, ⟨v1, _, rfl, h1, ⟨v2, rfl, h2⟩⟩⟩, W, hm, k⟩
  refine ⟨_, PSs.nox (pss_cons (ps_for PassesOwn.never rfl (pi_listK (K := K) (pe_cal (ok__topmost E) (by exact hr) (by first | decide | omega) (by rfl) pass0 (pa_cons (pv 0) (pa_cons (pv 1) (pa_cons (pv 2) pa_nil))))) (pg_name (i := 3) sc_raw_obstacle.nd rfl (Or.inl rfl)) (pss_cons (ps_if (pt_cmpR op_gt (pe_ix (ix_tupK (K := K)) (pv 2) (pv 3) (by intro _ _; rfl)) (pe_ix (ix_tupK (K := K)) (pv 1) (pv 3) (by intro _ _; rfl)) (nomark _)) (pss_cons (ps_ret (pv 3)) pss_nil) pss_nil) pss_nil)) (pss_cons (ps_ret pe_non) pss_nil)), ?_⟩
  have hG : Okc [fS S, (tHouse (He.ga K "House")).f house398 v0, (tT tInt).f source399 v1, (tT tInt).f target400 v2] S := ⟨Same.refl _, h0, h1, h2, True.intro⟩
  have W : Wd S (([] : Ow) ++ F) H := W
  show (_ : TS) _ ([some v0, some v1, some v2, none] : L2.St) H
  refine k_forK (σJ := (fun (bx406 : Unit) (wx406 : Option V) => ([some v0, some v1, some v2, wx406] : L2.St))) (OJ := (fun (bx406 : Unit) (wx406 : Option V) => ([] : Ow))) (Fb := (fun (bx406 : Unit) (wx406 : Option V) => ([] : List Fact))) (σT := (fun b w (tx406 : V) => ((fun (bx406 : Unit) (wx406 : Option V) => ([some v0, some v1, some v2, wx406] : L2.St)) b w).set 3 (some tx406))) ((none) : Option V) hG W hm (simI_list (sim_call (simA_c (sim_var 1 rfl rfl) (simA_c (sim_var 2 rfl rfl) (simA_one (sim_var 3 rfl rfl)))))) (fun b w => tg_name) (fun b w => List.nil_sublist _) rfl rfl (fun S h => h) ?_ ?_
  · clear hG W hm
    intro S1 y407 bx406 wx406 tx406 S H k409 hm hG W Nx406 hNx406 hBx406
    refine k_if hG W hm (simT_test (sim_gt (sim_ixT (sim_var 5 rfl rfl) (sim_var 0 rfl rfl)) (sim_ixT (sim_var 4 rfl rfl) (sim_var 0 rfl rfl)))) ?_ ?_
    · clear hG W hm
      intro S H hG W hm
      exact k_ret hG W hm (sim_some nn_int (sim_var 0 rfl rfl)) (fun v S H hG W hr => k v S H (Okc.at 2 rfl hG) (W.pick [] rfl) hr)
    · clear hG W hm
      intro S H hG W hm
      refine y_next ?_
      refine y_next ?_
      exact hNx406 _ (some (tx406)) _ _ hm (Okc.dr 1 hG) (W.pick [] rfl)
  · clear hG W hm
    intro bx406 wx406 S H hm hG W
    exact k_ret hG W hm sim_nonO (fun v S H hG W hr => k v S H (Okc.at 0 rfl hG) (W.pick [] rfl) hr)
theorem sc_need_reachable : FnScope ["house", "source", "target", "lamp"] ["house", "source", "target"] (defScope (top 34)) := ⟨rfl, rfl, rfl, by decide +kernel, rfl, by decide +kernel, by decide +kernel⟩
theorem ok_need_reachable (E : EnvF K mg) : Cal CX0 P w K mg base 4 "need_reachable" (spP (TyA.c (tHouse (He.ga K "House")) (TyA.c (tT tInt) (TyA.one (tT tInt)))) (fun a => m_need_reachable a.1 a.2.1 a.2.2) tUnit) := by
  refine cal_mk (k := 3) E.d_need_reachable sc_need_reachable (fun vs H Q E h => by obtain ⟨S, F, a, r, ⟨_, _, rfl, _, ⟨_, _, rfl, _, ⟨_, rfl, _⟩⟩⟩, _⟩ := h; rfl) (fun _ _ _ _ _ _ us hl => match us, hl with | [_, _, _], _ => rfl) ?_
  rintro f cdv A outer s H vs Q EX hr ⟨S, F, ⟨house418, source419, target420⟩, out, ⟨v0, _, rfl, h0, ⟨v1, _, rfl, h1, ⟨v2, rfl, h2⟩⟩⟩, W, hm, k⟩
  refine ⟨_, PSs.nox (pss_cons (ps_set (i := 3) sc_need_reachable.nd rfl (Or.inl rfl) (pe_cal (ok_raw_obstacle E) (by exact hr) (by first | decide | omega) (by rfl) pass0 (pa_cons (pv 0) (pa_cons (pv 1) (pa_cons (pv 2) pa_nil))))) (pss_cons (ps_if (pt_cmpR op_notN (pv 3) pe_non (nomark _)) (pss_cons ps_never pss_nil) pss_nil) pss_nil)), ?_⟩
  have hG : Okc [fS S, (tHouse (He.ga K "House")).f house418 v0, (tT tInt).f source419 v1, (tT tInt).f target420 v2] S := ⟨Same.refl _, h0, h1, h2, True.intro⟩
  have W : Wd S (([] : Ow) ++ F) H := W
  show (_ : TS) _ ([some v0, some v1, some v2, none] : L2.St) H
  refine k_set hG W hm (sim_call (simA_c (sim_var 1 rfl rfl) (simA_c (sim_var 2 rfl rfl) (simA_one (sim_var 3 rfl rfl))))) ?_
  clear hG W hm
  intro lamp426 v427 S H hG W hm
  refine k_if hG W hm (simT_test (sim_notN (sim_var 0 rfl rfl) sim_non)) ?_ ?_
  · clear hG W hm
    intro S H hG W hm
    cases hm
  · clear hG W hm
    intro S H hG W hm
    refine y_next ?_
    cases hm
    exact k _ _ _ (Okc.at 1 rfl hG) (W.pick [] rfl) rfl
theorem sc_lit_beneath : FnScope ["house", "state", "lamp", "lower"] ["house", "state", "lamp"] (defScope (top 36)) := ⟨rfl, rfl, rfl, by decide +kernel, rfl, by decide +kernel, by decide +kernel⟩
theorem ok_lit_beneath (E : EnvF K mg) : Cal CX0 P w K mg base 2 "lit_beneath" (spP (TyA.c (tHouse (He.ga K "House")) (TyA.c (tT tInt) (TyA.one tInt))) (fun a => m_lit_beneath a.1 a.2.1 a.2.2) (tO tInt)) := by
  refine cal_mk (k := 1) E.d_lit_beneath sc_lit_beneath (fun vs H Q E h => by obtain ⟨S, F, a, r, ⟨_, _, rfl, _, ⟨_, _, rfl, _, ⟨_, rfl, _⟩⟩⟩, _⟩ := h; rfl) (fun _ _ _ _ _ _ us hl => match us, hl with | [_, _, _], _ => rfl) ?_
  rintro f cdv A outer s H vs Q EX hr ⟨S, F, ⟨house431, state432, lamp433⟩, out, ⟨v0, _, rfl, h0, ⟨v1, _, rfl, h1, ⟨v2, rfl, h2⟩⟩⟩, W, hm, k⟩
  refine ⟨_, PSs.nox (pss_cons (ps_for PassesOwn.never rfl (pi_listK (K := K) (pe_cal (ok_bits E) (by exact hr) (by first | decide | omega) (by rfl) pass0 (pa_cons (pe_ix (ix_listK (K := K)) (pe_cal (ok_below_masks E) (by exact hr) (by first | decide | omega) (by rfl) pass0 (pa_cons (pv 0) pa_nil)) (pv 2) (by intro _ _; rfl)) pa_nil))) (pg_name (i := 3) sc_lit_beneath.nd rfl (Or.inl rfl)) (pss_cons (ps_if (pt_cmpR op_gt (pe_ix (ix_tupK (K := K)) (pv 1) (pv 3) (by intro _ _; rfl)) pe_int (nomark _)) (pss_cons (ps_ret (pv 3)) pss_nil) pss_nil) pss_nil)) (pss_cons (ps_ret pe_non) pss_nil)), ?_⟩
  have hG : Okc [fS S, (tHouse (He.ga K "House")).f house431 v0, (tT tInt).f state432 v1, tInt.f lamp433 v2] S := ⟨Same.refl _, h0, h1, h2, True.intro⟩
  have W : Wd S (([] : Ow) ++ F) H := W
  show (_ : TS) _ ([some v0, some v1, some v2, none] : L2.St) H
  refine k_forK (σJ := (fun (bx438 : Unit) (wx438 : Option V) => ([some v0, some v1, some v2, wx438] : L2.St))) (OJ := (fun (bx438 : Unit) (wx438 : Option V) => ([] : Ow))) (Fb := (fun (bx438 : Unit) (wx438 : Option V) => ([] : List Fact))) (σT := (fun b w (tx438 : V) => ((fun (bx438 : Unit) (wx438 : Option V) => ([some v0, some v1, some v2, wx438] : L2.St)) b w).set 3 (some tx438))) ((none) : Option V) hG W hm (simI_list (sim_call (simA_one (sim_ix (sim_call (simA_one (sim_var 1 rfl rfl))) (sim_var 3 rfl rfl))))) (fun b w => tg_name) (fun b w => List.nil_sublist _) rfl rfl (fun S h => h) ?_ ?_
  · clear hG W hm
    intro S1 y439 bx438 wx438 tx438 S H k441 hm hG W Nx438 hNx438 hBx438
    refine k_if hG W hm (simT_test (sim_gt (sim_ixT (sim_var 4 rfl rfl) (sim_var 0 rfl rfl)) sim_int)) ?_ ?_
    · clear hG W hm
      intro S H hG W hm
      exact k_ret hG W hm (sim_some nn_int (sim_var 0 rfl rfl)) (fun v S H hG W hr => k v S H (Okc.at 2 rfl hG) (W.pick [] rfl) hr)
    · clear hG W hm
      intro S H hG W hm
      refine y_next ?_
      refine y_next ?_
      exact hNx438 _ (some (tx438)) _ _ hm (Okc.dr 1 hG) (W.pick [] rfl)
  · clear hG W hm
    intro bx438 wx438 S H hm hG W
    exact k_ret hG W hm sim_nonO (fun v S H hG W hr => k v S H (Okc.at 0 rfl hG) (W.pick [] rfl) hr)
theorem sc_moved : FnScope ["house", "state", "lamp", "hues", "result", "lower"] ["house", "state", "lamp"] (defScope (top 37)) := ⟨rfl, rfl, rfl, by decide +kernel, rfl, by decide +kernel, by decide +kernel⟩
theorem ok_moved (E : EnvF K mg) : Cal CX0 P w K mg base 2 "moved" (spP (TyA.c (tHouse (He.ga K "House")) (TyA.c (tT tInt) (TyA.one tInt))) (fun a => m_moved a.1 a.2.1 a.2.2) (tT tInt)) := by
  refine cal_mk (k := 1) E.d_moved sc_moved (fun vs H Q E h => by obtain ⟨S, F, a, r, ⟨_, _, rfl, _, ⟨_, _, rfl, _, ⟨_, rfl, _⟩⟩⟩, _⟩ := h; rfl) (fun _ _ _ _ _ _ us hl => match us, hl with | [_, _, _], _ => rfl) ?_
  rintro f cdv A outer s H vs Q EX hr ⟨S, F, ⟨house448, state449, lamp450⟩, out, ⟨v0, _, rfl, h0, ⟨v1, _, rfl, h1, ⟨v2, rfl, h2⟩⟩⟩, W, hm, k⟩
  refine ⟨_, PSs.nox (pss_cons (ps_set (i := 3) sc_moved.nd rfl (Or.inl rfl) (pe_fldK (K := K) (pv 0))) (pss_cons (ps_set (i := 4) sc_moved.nd rfl (Or.inl rfl) (pe_callTy (call_listK (K := K)) rfl (by exact E.g_list) (by decide +kernel) (pa_cons (pv 1) pa_nil))) (pss_cons (ps_asg (pe_op op_sub (pe_ix (ix_tupK (K := K)) (pv 1) (pv 2) (by intro _ _; rfl)) pe_int) (pg_sub (pv 4) (pv 2) set_list)) (pss_cons (ps_for PassesOwn.never rfl (pi_listK (K := K) (pe_cal (ok_bits E) (by exact hr) (by first | decide | omega) (by rfl) pass0 (pa_cons (pe_ix (ix_listK (K := K)) (pe_cal (ok_below_masks E) (by exact hr) (by first | decide | omega) (by rfl) pass0 (pa_cons (pv 0) pa_nil)) (pv 2) (by intro _ _; rfl)) pa_nil))) (pg_name (i := 5) sc_moved.nd rfl (Or.inl rfl)) (pss_cons (ps_asg (pe_cal (ok_turned_down E) (by exact hr) (by first | decide | omega) (by rfl) pass0 (pa_cons (pe_ix (ix_tupK (K := K)) (pv 1) (pv 5) (by intro _ _; rfl)) (pa_cons (pv 3) pa_nil))) (pg_sub (pv 4) (pv 5) set_list)) pss_nil)) (pss_cons (ps_ret (pe_callTy (call_tupleK (K := K)) rfl (by exact E.g_tuple) (by decide +kernel) (pa_cons (pv 4) pa_nil))) pss_nil))))), ?_⟩
  have hG : Okc [fS S, (tHouse (He.ga K "House")).f house448 v0, (tT tInt).f state449 v1, tInt.f lamp450 v2] S := ⟨Same.refl _, h0, h1, h2, True.intro⟩
  have W : Wd S (([] : Ow) ++ F) H := W
  show (_ : TS) _ ([some v0, some v1, some v2, none, none, none] : L2.St) H
  refine k_set hG W hm (sim_fld (house_fld E.cl_House (E.na_House_hues) (fun _ _ _ h => h.hues)) (sim_var 1 rfl rfl)) ?_
  clear hG W hm
  intro hues452 v453 S H hG W hm
  refine k_setO hG W hm (simF_listT (sim_var 3 rfl rfl)) ?_
  clear hG W hm
  intro result454 p456 c457 S H hG W hm
  refine k_put hG W hm 0 0 rfl rfl rfl (sim_sub (sim_ixT (sim_var 4 rfl rfl) (sim_var 5 rfl rfl)) sim_int) (sim_var 5 rfl rfl) ?_
  clear hG W hm
  intro result464 c465 S H hG W hm
  refine k_fold (σJ := (fun (bx470 : (List Int)) (wx470 : List Cell × Option V) => ([some v0, some v1, some v2, some (v453), some (.ref p456), wx470.2] : L2.St))) (OJ := (fun (bx470 : (List Int)) (wx470 : List Cell × Option V) => ([wx470.1] : Ow))) (Fb := (fun (bx470 : (List Int)) (wx470 : List Cell × Option V) => ([(oL tInt).f bx470 p456 (wx470.1)] : List Fact))) (σT := (fun b w (tx470 : V) => ((fun (bx470 : (List Int)) (wx470 : List Cell × Option V) => ([some v0, some v1, some v2, some (v453), some (.ref p456), wx470.2] : L2.St)) b w).set 5 (some tx470))) ((c465, (none)) : List Cell × Option V) hG W hm (simI_list (sim_call (simA_one (sim_ix (sim_call (simA_one (sim_var 4 rfl rfl))) (sim_var 6 rfl rfl))))) (fun b w => tg_name) (fun b w => List.nil_sublist _) rfl rfl (fun S h => (Okc.cons (Okc.at 0 rfl h) h)) ?_ ?_
  · clear hG W hm
    intro S1 y471 bx470 b' wx470 tx470 S H hm hG W N hN
    refine k_put hG W hm 0 1 rfl rfl rfl (sim_call (simA_c (sim_ixT (sim_var 8 rfl rfl) (sim_var 0 rfl rfl)) (simA_one (sim_var 5 rfl rfl)))) (sim_var 0 rfl rfl) ?_
    clear hG W hm
    intro result480 c481 S H hG W hm
    cases hm
    refine y_next ?_
    exact hN (c481, (some (tx470))) _ _ (Okc.cons (Okc.at 0 rfl hG) (Okc.dr 3 hG)) (W.pick [0] rfl)
  · clear hG W hm
    intro bx470 wx470 S H hm hG W
    exact k_ret hG W hm (sim_tuple (sim_own 0 0 rfl rfl rfl)) (fun v S H hG W hr => k v S H (Okc.at 4 rfl hG) (W.pick [] rfl) hr)
theorem sc_can_move : FnScope ["house", "state", "lamp", "careful"] ["house", "state", "lamp", "careful"] (defScope (top 38)) := ⟨rfl, rfl, rfl, by decide +kernel, rfl, by decide +kernel, by decide +kernel⟩
theorem ok_can_move (E : EnvF K mg) : Cal CX0 P w K mg base 3 "can_move" (spP (TyA.c (tHouse (He.ga K "House")) (TyA.c (tT tInt) (TyA.c tInt (TyA.one tBool)))) (fun a => m_can_move a.1 a.2.1 a.2.2.1 a.2.2.2) tBool) := by
  refine cal_mk (k := 2) E.d_can_move sc_can_move (fun vs H Q E h => by obtain ⟨S, F, a, r, ⟨_, _, rfl, _, ⟨_, _, rfl, _, ⟨_, _, rfl, _, ⟨_, rfl, _⟩⟩⟩⟩, _⟩ := h; rfl) (fun _ _ _ _ _ _ us hl => match us, hl with | [_, _, _, _], _ => rfl) ?_
  rintro f cdv A outer s H vs Q EX hr ⟨S, F, ⟨house482, state483, lamp484, careful485⟩, out, ⟨v0, _, rfl, h0, ⟨v1, _, rfl, h1, ⟨v2, _, rfl, h2, ⟨v3, rfl, h3⟩⟩⟩⟩, W, hm, k⟩
  refine ⟨_, PSs.nox (pss_cons (ps_if (pt_cmpR op_eq (pe_ix (ix_tupK (K := K)) (pv 1) (pv 2) (by intro _ _; rfl)) pe_int (nomark _)) (pss_cons (ps_ret pe_bl) pss_nil) pss_nil) (pss_cons (ps_ret (pe_or (pe_not (pv 3)) (pe_one (pe_cmpR op_isN (pe_cal (ok_lit_beneath E) (by exact hr) (by first | decide | omega) (by rfl) pass0 (pa_cons (pv 0) (pa_cons (pv 1) (pa_cons (pv 2) pa_nil)))) pe_non (nomark _))))) pss_nil)), ?_⟩
  have hG : Okc [fS S, (tHouse (He.ga K "House")).f house482 v0, (tT tInt).f state483 v1, tInt.f lamp484 v2, tBool.f careful485 v3] S := ⟨Same.refl _, h0, h1, h2, h3, True.intro⟩
  have W : Wd S (([] : Ow) ++ F) H := W
  show (_ : TS) _ ([some v0, some v1, some v2, some v3] : L2.St) H
  refine k_if hG W hm (simT_test (sim_eqI (sim_ixT (sim_var 2 rfl rfl) (sim_var 3 rfl rfl)) sim_int)) ?_ ?_
  · clear hG W hm
    intro S H hG W hm
    exact k_ret hG W hm sim_bl (fun v S H hG W hr => k v S H (Okc.at 0 rfl hG) (W.pick [] rfl) hr)
  · clear hG W hm
    intro S H hG W hm
    refine y_next ?_
    exact k_ret hG W hm (sim_orV (sim_notV (sim_var 4 rfl rfl)) (sim_isN (sim_call (simA_c (sim_var 1 rfl rfl) (simA_c (sim_var 2 rfl rfl) (simA_one (sim_var 3 rfl rfl))))) sim_non)) (fun v S H hG W hr => k v S H (Okc.at 0 rfl hG) (W.pick [] rfl) hr)
theorem sc_refuse : FnScope ["house", "state", "lamp", "step", "careful", "lower"] ["house", "state", "lamp", "step", "careful"] (defScope (top 39)) := ⟨rfl, rfl, rfl, by decide +kernel, rfl, by decide +kernel, by decide +kernel⟩
theorem ok_refuse (E : EnvF K mg) : Cal CX0 P w K mg base 3 "refuse" (spP (TyA.c (tHouse (He.ga K "House")) (TyA.c (tT tInt) (TyA.c tInt (TyA.c tInt (TyA.one tBool))))) (fun a => m_refuse a.1 a.2.1 a.2.2.1 a.2.2.2.1 a.2.2.2.2) tUnit) := by
  refine cal_mk (k := 2) E.d_refuse sc_refuse (fun vs H Q E h => by obtain ⟨S, F, a, r, ⟨_, _, rfl, _, ⟨_, _, rfl, _, ⟨_, _, rfl, _, ⟨_, _, rfl, _, ⟨_, rfl, _⟩⟩⟩⟩⟩, _⟩ := h; rfl) (fun _ _ _ _ _ _ us hl => match us, hl with | [_, _, _, _, _], _ => rfl) ?_
  rintro f cdv A outer s H vs Q EX hr ⟨S, F, ⟨house500, state501, lamp502, step503, careful504⟩, out, ⟨v0, _, rfl, h0, ⟨v1, _, rfl, h1, ⟨v2, _, rfl, h2, ⟨v3, _, rfl, h3, ⟨v4, rfl, h4⟩⟩⟩⟩⟩, W, hm, k⟩
  refine ⟨_, PSs.nox (pss_cons (ps_if (pt_cmpR op_eq (pe_ix (ix_tupK (K := K)) (pv 1) (pv 2) (by intro _ _; rfl)) pe_int (nomark _)) (pss_cons ps_never pss_nil) pss_nil) (pss_cons (ps_if (pt_val (pv 4)) (pss_cons (ps_set (i := 5) sc_refuse.nd rfl (Or.inl rfl) (pe_cal (ok_lit_beneath E) (by exact hr) (by first | decide | omega) (by rfl) pass0 (pa_cons (pv 0) (pa_cons (pv 1) (pa_cons (pv 2) pa_nil))))) (pss_cons (ps_if (pt_cmpR op_notN (pv 5) pe_non (nomark _)) (pss_cons ps_never pss_nil) pss_nil) pss_nil)) pss_nil) pss_nil)), ?_⟩
  have hG : Okc [fS S, (tHouse (He.ga K "House")).f house500 v0, (tT tInt).f state501 v1, tInt.f lamp502 v2, tInt.f step503 v3, tBool.f careful504 v4] S := ⟨Same.refl _, h0, h1, h2, h3, h4, True.intro⟩
  have W : Wd S (([] : Ow) ++ F) H := W
  show (_ : TS) _ ([some v0, some v1, some v2, some v3, some v4, none] : L2.St) H
  refine k_if hG W hm (simT_test (sim_eqI (sim_ixT (sim_var 2 rfl rfl) (sim_var 3 rfl rfl)) sim_int)) ?_ ?_
  · clear hG W hm
    intro S H hG W hm
    cases hm
  · clear hG W hm
    intro S H hG W hm
    refine y_next ?_
    refine k_if hG W hm (simT_B (sim_var 5 rfl rfl)) ?_ ?_
    · clear hG W hm
      intro S H hG W hm
      refine k_set hG W hm (sim_call (simA_c (sim_var 1 rfl rfl) (simA_c (sim_var 2 rfl rfl) (simA_one (sim_var 3 rfl rfl))))) ?_
      clear hG W hm
      intro lower516 v517 S H hG W hm
      refine k_if hG W hm (simT_test (sim_notN (sim_var 0 rfl rfl) sim_non)) ?_ ?_
      · clear hG W hm
        intro S H hG W hm
        cases hm
      · clear hG W hm
        intro S H hG W hm
        refine y_next ?_
        refine y_next ?_
        cases hm
        exact k _ _ _ (Okc.at 1 rfl hG) (W.pick [] rfl) rfl
    · clear hG W hm
      intro S H hG W hm
      refine y_next ?_
      cases hm
      exact k _ _ _ (Okc.at 0 rfl hG) (W.pick [] rfl) rfl
theorem sc_allowed_lamps : FnScope ["house", "state", "careful", "lamp"] ["house", "state", "careful"] (defScope (top 40)) := ⟨rfl, rfl, rfl, by decide +kernel, rfl, by decide +kernel, by decide +kernel⟩
theorem ok_allowed_lamps (E : EnvF K mg) : KCal CX0 P w K mg base 4 "allowed_lamps" (spP (TyA.c (tHouse (He.ga K "House")) (TyA.c (tT tInt) (TyA.one tBool))) (fun a => m_allowed_lamps a.1 a.2.1 a.2.2) (tL tInt)) 2 [("careful", .bl false)] := by
  refine kcal_mk (k := 3) E.d_allowed_lamps sc_allowed_lamps (fun vs H Q E h => by obtain ⟨S, F, a, r, ⟨_, _, rfl, _, ⟨_, _, rfl, _, ⟨_, rfl, _⟩⟩⟩, _⟩ := h; rfl) (by decide) (by decide) (fun D doc pm an cdv ct us ks h1 h2 => match us, ks, h1, h2 with | [_, _], [_], _, _ => ⟨_, _, _, _, _, _, rfl, rfl, rfl⟩) (fun D doc pm an cdv ct us ws h1 h2 => match us, ws, h1, h2 with | [_, _], [_], _, _ => rfl) ?_
  rintro f cdv A outer s H vs Q EX hr ⟨S, F, ⟨house521, state522, careful523⟩, out, ⟨v0, _, rfl, h0, ⟨v1, _, rfl, h1, ⟨v2, rfl, h2⟩⟩⟩, W, hm, k⟩
  refine ⟨_, PSs.nox (pss_cons (ps_expr (pe_cal (ok_need_state E) (by exact hr) (by first | decide | omega) (by rfl) pass0 (pa_cons (pv 0) (pa_cons (pv 1) pa_nil)))) (pss_cons (ps_ret (pe_lc (own := [("lamp", 3)]) rfl sc_allowed_lamps.nd (pi_range1 rfl (by exact E.g_range) (pa_cons (pe_fldK (K := K) (pv 0)) pa_nil)) (blkOk_by (N := ["house", "state", "careful", "lamp"]) (sc := defScope (top 40)) (by decide +kernel)) (fun _ _ _ _ _ => (pg_name (i := 3) sc_allowed_lamps.nd rfl (Or.inl rfl))) (fun _ _ _ _ _ => (pts_one (pt_val (pe_cal (ok_can_move E) (by exact hr) (by first | decide | omega) (by rfl) pass0 (pa_cons (pv 0) (pa_cons (pv 1) (pa_cons (pv 3) (pa_cons (pv 2) pa_nil)))))))) (fun _ _ _ _ _ => (pv 3)))) pss_nil)), ?_⟩
  have hG : Okc [fS S, (tHouse (He.ga K "House")).f house521 v0, (tT tInt).f state522 v1, tBool.f careful523 v2] S := ⟨Same.refl _, h0, h1, h2, True.intro⟩
  have W : Wd S (([] : Ow) ++ F) H := W
  show (_ : TS) _ ([some v0, some v1, some v2, none] : L2.St) H
  refine k_drop hG W hm (sim_call (simA_c (sim_var 1 rfl rfl) (simA_one (sim_var 2 rfl rfl)))) ?_
  clear hG W hm
  intro z527 S H hG W hm
  exact k_ret hG W hm (SimF.sim (simF_lc (simI_range1 (sim_fld (house_fld E.cl_House (E.na_House_count) (fun _ _ _ h => h.count)) (sim_var 1 rfl rfl))) tg_name (fun _ => rfl) (List.nil_sublist _) (fun a w => (simT_B (sim_call (simA_c (sim_var 2 rfl rfl) (simA_c (sim_var 3 rfl rfl) (simA_c (sim_var 0 rfl rfl) (simA_one (sim_var 4 rfl rfl)))))))) (fun a w => (sim_var 0 rfl rfl)))) (fun v S H hG W hr => k v S H (Okc.at 0 rfl hG) (W.pick [] rfl) hr)
theorem sc_before : FnScope ["house", "state", "lamp", "careful", "brightest", "result", "lower"] ["house", "state", "lamp", "careful"] (defScope (top 41)) := ⟨rfl, rfl, rfl, by decide +kernel, rfl, by decide +kernel, by decide +kernel⟩
theorem ok_before (E : EnvF K mg) : KCal CX0 P w K mg base 4 "before" (spP (TyA.c (tHouse (He.ga K "House")) (TyA.c (tT tInt) (TyA.c tInt (TyA.one tBool)))) (fun a => m_before a.1 a.2.1 a.2.2.1 a.2.2.2) (tO (tT tInt))) 3 [("careful", .bl false)] := by
  refine kcal_mk (k := 3) E.d_before sc_before (fun vs H Q E h => by obtain ⟨S, F, a, r, ⟨_, _, rfl, _, ⟨_, _, rfl, _, ⟨_, _, rfl, _, ⟨_, rfl, _⟩⟩⟩⟩, _⟩ := h; rfl) (by decide) (by decide) (fun D doc pm an cdv ct us ks h1 h2 => match us, ks, h1, h2 with | [_, _, _], [_], _, _ => ⟨_, _, _, _, _, _, rfl, rfl, rfl⟩) (fun D doc pm an cdv ct us ws h1 h2 => match us, ws, h1, h2 with | [_, _, _], [_], _, _ => rfl) ?_
  rintro f cdv A outer s H vs Q EX hr ⟨S, F, ⟨house539, state540, lamp541, careful542⟩, out, ⟨v0, _, rfl, h0, ⟨v1, _, rfl, h1, ⟨v2, _, rfl, h2, ⟨v3, rfl, h3⟩⟩⟩⟩, W, hm, k⟩
  refine ⟨_, PSs.nox (pss_cons (ps_expr (pe_cal (ok_need_state E) (by exact hr) (by first | decide | omega) (by rfl) pass0 (pa_cons (pv 0) (pa_cons (pv 1) pa_nil)))) (pss_cons (ps_expr (pe_cal (ok_need_lamp E) (by exact hr) (by first | decide | omega) (by rfl) pass0 (pa_cons (pv 0) (pa_cons (pv 2) pa_nil)))) (pss_cons (ps_set (i := 4) sc_before.nd rfl (Or.inl rfl) (pe_op op_sub (pe_fldK (K := K) (pv 0)) pe_int)) (pss_cons (ps_if (pt_cmpR op_eq (pe_ix (ix_tupK (K := K)) (pv 1) (pv 2) (by intro _ _; rfl)) (pv 4) (nomark _)) (pss_cons (ps_ret pe_non) pss_nil) pss_nil) (pss_cons (ps_set (i := 5) sc_before.nd rfl (Or.inl rfl) (pe_callTy (call_listK (K := K)) rfl (by exact E.g_list) (by decide +kernel) (pa_cons (pv 1) pa_nil))) (pss_cons (ps_asg (pe_op op_add (pe_ix (ix_tupK (K := K)) (pv 1) (pv 2) (by intro _ _; rfl)) pe_int) (pg_sub (pv 5) (pv 2) set_list)) (pss_cons (ps_for PassesOwn.never rfl (pi_listK (K := K) (pe_cal (ok_bits E) (by exact hr) (by first | decide | omega) (by rfl) pass0 (pa_cons (pe_ix (ix_listK (K := K)) (pe_cal (ok_below_masks E) (by exact hr) (by first | decide | omega) (by rfl) pass0 (pa_cons (pv 0) pa_nil)) (pv 2) (by intro _ _; rfl)) pa_nil))) (pg_name (i := 6) sc_before.nd rfl (Or.inl rfl)) (pss_cons (ps_if (pt_cmpR op_eq (pe_ix (ix_tupK (K := K)) (pv 1) (pv 6) (by intro _ _; rfl)) (pv 4) (nomark _)) (pss_cons (ps_asg pe_int (pg_sub (pv 5) (pv 6) set_list)) pss_nil) (pss_cons (ps_if (pt_val (pv 3)) (pss_cons (ps_ret pe_non) pss_nil) (pss_cons (ps_asg (pe_op op_add (pe_ix (ix_tupK (K := K)) (pv 1) (pv 6) (by intro _ _; rfl)) pe_int) (pg_sub (pv 5) (pv 6) set_list)) pss_nil)) pss_nil)) pss_nil)) (pss_cons (ps_ret (pe_callTy (call_tupleK (K := K)) rfl (by exact E.g_tuple) (by decide +kernel) (pa_cons (pv 5) pa_nil))) pss_nil)))))))), ?_⟩
  have hG : Okc [fS S, (tHouse (He.ga K "House")).f house539 v0, (tT tInt).f state540 v1, tInt.f lamp541 v2, tBool.f careful542 v3] S := ⟨Same.refl _, h0, h1, h2, h3, True.intro⟩
  have W : Wd S (([] : Ow) ++ F) H := W
  show (_ : TS) _ ([some v0, some v1, some v2, some v3, none, none, none] : L2.St) H
  refine k_drop hG W hm (sim_call (simA_c (sim_var 1 rfl rfl) (simA_one (sim_var 2 rfl rfl)))) ?_
  clear hG W hm
  intro z546 S H hG W hm
  refine k_drop hG W hm (sim_call (simA_c (sim_var 1 rfl rfl) (simA_one (sim_var 3 rfl rfl)))) ?_
  clear hG W hm
  intro z550 S H hG W hm
  refine k_set hG W hm (sim_sub (sim_fld (house_fld E.cl_House (E.na_House_hues) (fun _ _ _ h => h.hues)) (sim_var 1 rfl rfl)) sim_int) ?_
  clear hG W hm
  intro brightest554 v555 S H hG W hm
  refine k_if hG W hm (simT_test (sim_eqI (sim_ixT (sim_var 3 rfl rfl) (sim_var 4 rfl rfl)) (sim_var 0 rfl rfl))) ?_ ?_
  · clear hG W hm
    intro S H hG W hm
    exact k_ret hG W hm sim_nonO (fun v S H hG W hr => k v S H (Okc.at 1 rfl hG) (W.pick [] rfl) hr)
  · clear hG W hm
    intro S H hG W hm
    refine y_next ?_
    refine k_setO hG W hm (simF_listT (sim_var 3 rfl rfl)) ?_
    clear hG W hm
    intro result561 p563 c564 S H hG W hm
    refine k_put hG W hm 0 0 rfl rfl rfl (sim_add (sim_ixT (sim_var 4 rfl rfl) (sim_var 5 rfl rfl)) sim_int) (sim_var 5 rfl rfl) ?_
    clear hG W hm
    intro result571 c572 S H hG W hm
    refine k_forK (σJ := (fun (bx577 : (List Int)) (wx577 : List Cell × Option V) => ([some v0, some v1, some v2, some v3, some (v555), some (.ref p563), wx577.2] : L2.St))) (OJ := (fun (bx577 : (List Int)) (wx577 : List Cell × Option V) => ([wx577.1] : Ow))) (Fb := (fun (bx577 : (List Int)) (wx577 : List Cell × Option V) => ([(oL tInt).f bx577 p563 (wx577.1)] : List Fact))) (σT := (fun b w (tx577 : V) => ((fun (bx577 : (List Int)) (wx577 : List Cell × Option V) => ([some v0, some v1, some v2, some v3, some (v555), some (.ref p563), wx577.2] : L2.St)) b w).set 6 (some tx577))) ((c572, (none)) : List Cell × Option V) hG W hm (simI_list (sim_call (simA_one (sim_ix (sim_call (simA_one (sim_var 4 rfl rfl))) (sim_var 6 rfl rfl))))) (fun b w => tg_name) (fun b w => List.nil_sublist _) rfl rfl (fun S h => (Okc.cons (Okc.at 0 rfl h) h)) ?_ ?_
    · clear hG W hm
      intro S1 y578 bx577 wx577 tx577 S H k580 hm hG W Nx577 hNx577 hBx577
      refine k_if hG W hm (simT_test (sim_eqI (sim_ixT (sim_var 8 rfl rfl) (sim_var 0 rfl rfl)) (sim_var 5 rfl rfl))) ?_ ?_
      · clear hG W hm
        intro S H hG W hm
        refine k_put hG W hm 0 1 rfl rfl rfl sim_int (sim_var 0 rfl rfl) ?_
        clear hG W hm
        intro result589 c590 S H hG W hm
        refine y_next ?_
        refine y_next ?_
        exact hNx577 _ (c590, (some (tx577))) _ _ hm (Okc.cons (Okc.at 0 rfl hG) (Okc.dr 3 hG)) (W.pick [0] rfl)
      · clear hG W hm
        intro S H hG W hm
        refine k_if hG W hm (simT_B (sim_var 10 rfl rfl)) ?_ ?_
        · clear hG W hm
          intro S H hG W hm
          exact k_ret hG W hm sim_nonO (fun v S H hG W hr => k v S H (Okc.at 6 rfl hG) (W.pick [] rfl) hr)
        · clear hG W hm
          intro S H hG W hm
          refine k_put hG W hm 0 1 rfl rfl rfl (sim_add (sim_ixT (sim_var 8 rfl rfl) (sim_var 0 rfl rfl)) sim_int) (sim_var 0 rfl rfl) ?_
          clear hG W hm
          intro result598 c599 S H hG W hm
          refine y_next ?_
          refine y_next ?_
          refine y_next ?_
          exact hNx577 _ (c599, (some (tx577))) _ _ hm (Okc.cons (Okc.at 0 rfl hG) (Okc.dr 3 hG)) (W.pick [0] rfl)
    · clear hG W hm
      intro bx577 wx577 S H hm hG W
      exact k_ret hG W hm (sim_some nn_T (sim_tuple (sim_own 0 0 rfl rfl rfl))) (fun v S H hG W hr => k v S H (Okc.at 4 rfl hG) (W.pick [] rfl) hr)
theorem sc_states_along : FnScope ["house", "state", "run", "careful", "here", "found", "step", "lamp"] ["house", "state", "run", "careful"] (defScope (top 43)) := ⟨rfl, rfl, rfl, by decide +kernel, rfl, by decide +kernel, by decide +kernel⟩
theorem ok_states_along (E : EnvF K mg) : KCal CX0 P w K mg base 5 "states_along" (spP (TyA.c (tHouse (He.ga K "House")) (TyA.c (tT tInt) (TyA.c (tL tInt) (TyA.one tBool)))) (fun a => m_states_along a.1 a.2.1 a.2.2.1 a.2.2.2) (tL (tT tInt))) 3 [("careful", .bl false)] := by
  refine kcal_mk (k := 4) E.d_states_along sc_states_along (fun vs H Q E h => by obtain ⟨S, F, a, r, ⟨_, _, rfl, _, ⟨_, _, rfl, _, ⟨_, _, rfl, _, ⟨_, rfl, _⟩⟩⟩⟩, _⟩ := h; rfl) (by decide) (by decide) (fun D doc pm an cdv ct us ks h1 h2 => match us, ks, h1, h2 with | [_, _, _], [_], _, _ => ⟨_, _, _, _, _, _, rfl, rfl, rfl⟩) (fun D doc pm an cdv ct us ws h1 h2 => match us, ws, h1, h2 with | [_, _, _], [_], _, _ => rfl) ?_
  rintro f cdv A outer s H vs Q EX hr ⟨S, F, ⟨house600, state601, run602, careful603⟩, out, ⟨v0, _, rfl, h0, ⟨v1, _, rfl, h1, ⟨v2, _, rfl, h2, ⟨v3, rfl, h3⟩⟩⟩⟩, W, hm, k⟩
  refine ⟨_, PSs.nox (pss_cons (ps_expr (pe_cal (ok_need_state E) (by exact hr) (by first | decide | omega) (by rfl) pass0 (pa_cons (pv 0) (pa_cons (pv 1) pa_nil)))) (pss_cons (ps_expr (pe_cal (ok_need_run E) (by exact hr) (by first | decide | omega) (by rfl) pass0 (pa_cons (pv 0) (pa_cons (pv 2) pa_nil)))) (pss_cons (ps_set (i := 4) sc_states_along.nd rfl (Or.inl rfl) (pv 1)) (pss_cons (ps_set (i := 5) sc_states_along.nd rfl (Or.inl rfl) (pe_lst (pa_cons (pv 4) pa_nil))) (pss_cons (ps_for PassesOwn.never rfl (pi_enumK (K := K) rfl (by exact E.g_enumerate) (pa_cons (pv 2) pa_nil)) (pg_tupK (K := K) (n := 2) rfl (pgs_cons (pg_name (i := 6) sc_states_along.nd rfl (Or.inl rfl)) (pgs_cons (pg_name (i := 7) sc_states_along.nd rfl (Or.inl rfl)) pgs_nil))) (pss_cons (ps_expr (pe_cal (ok_refuse E) (by exact hr) (by first | decide | omega) (by rfl) pass0 (pa_cons (pv 0) (pa_cons (pv 4) (pa_cons (pv 7) (pa_cons (pv 6) (pa_cons (pv 3) pa_nil))))))) (pss_cons (ps_set (i := 4) sc_states_along.nd rfl (Or.inl rfl) (pe_cal (ok_moved E) (by exact hr) (by first | decide | omega) (by rfl) pass0 (pa_cons (pv 0) (pa_cons (pv 4) (pa_cons (pv 7) pa_nil))))) (pss_cons (ps_expr (pe_bmK (K := K) PySem.F.plainAttrs_list PySem.F.slot_list_append PySem.F.type_list_append mt_append (pv 5) (pa_cons (pv 4) pa_nil))) pss_nil)))) (pss_cons (ps_ret (pv 5)) pss_nil)))))), ?_⟩
  have hG : Okc [fS S, (tHouse (He.ga K "House")).f house600 v0, (tT tInt).f state601 v1, (tL tInt).f run602 v2, tBool.f careful603 v3] S := ⟨Same.refl _, h0, h1, h2, h3, True.intro⟩
  have W : Wd S (([] : Ow) ++ F) H := W
  show (_ : TS) _ ([some v0, some v1, some v2, some v3, none, none, none, none] : L2.St) H
  refine k_drop hG W hm (sim_call (simA_c (sim_var 1 rfl rfl) (simA_one (sim_var 2 rfl rfl)))) ?_
  clear hG W hm
  intro z607 S H hG W hm
  refine k_drop hG W hm (sim_call (simA_c (sim_var 1 rfl rfl) (simA_one (sim_var 3 rfl rfl)))) ?_
  clear hG W hm
  intro z611 S H hG W hm
  refine k_set hG W hm (sim_var 2 rfl rfl) ?_
  clear hG W hm
  intro here612 v613 S H hG W hm
  refine k_setO hG W hm (simF_lst (simA_ln (sim_var 0 rfl rfl) simA_ln0)) ?_
  clear hG W hm
  intro found616 p618 c619 S H hG W hm
  refine k_fold (σJ := (fun (bx621 : (List Int) × (List (List Int))) (wx621 : V × List Cell × Option V × Option V) => ([some v0, some v1, some v2, some v3, some (wx621.1), some (.ref p618), wx621.2.2.1, wx621.2.2.2] : L2.St))) (OJ := (fun (bx621 : (List Int) × (List (List Int))) (wx621 : V × List Cell × Option V × Option V) => ([wx621.2.1] : Ow))) (Fb := (fun (bx621 : (List Int) × (List (List Int))) (wx621 : V × List Cell × Option V × Option V) => ([(tT tInt).f bx621.1 (wx621.1), (oL (tT tInt)).f bx621.2 p618 (wx621.2.1)] : List Fact))) (σT := (fun b w (tx621 : V × V) => (((fun (bx621 : (List Int) × (List (List Int))) (wx621 : V × List Cell × Option V × Option V) => ([some v0, some v1, some v2, some v3, some (wx621.1), some (.ref p618), wx621.2.2.1, wx621.2.2.2] : L2.St)) b w).set 6 (some tx621.1)).set 7 (some tx621.2))) ((v613, c619, (none), (none)) : V × List Cell × Option V × Option V) hG W hm (simI_enum (sim_var 5 rfl rfl)) (fun b w => tg_pair) (fun b w => List.nil_sublist _) rfl rfl (fun S h => (Okc.cons (Okc.at 1 rfl h) (Okc.cons (Okc.at 0 rfl h) h))) ?_ ?_
  · clear hG W hm
    intro S1 y622 bx621 b' wx621 tx621 S H hm hG W N hN
    refine k_drop hG W hm (sim_call (simA_c (sim_var 8 rfl rfl) (simA_c (sim_var 2 rfl rfl) (simA_c (sim_var 1 rfl rfl) (simA_c (sim_var 0 rfl rfl) (simA_one (sim_var 11 rfl rfl))))))) ?_
    clear hG W hm
    intro z633 S H hG W hm
    refine k_set hG W hm (sim_call (simA_c (sim_var 8 rfl rfl) (simA_c (sim_var 2 rfl rfl) (simA_one (sim_var 1 rfl rfl))))) ?_
    clear hG W hm
    intro here639 v640 S H hG W hm
    refine k_app hG W hm 0 4 rfl rfl rfl (sim_var 0 rfl rfl) ?_
    clear hG W hm
    intro y641 c643 S H hG W hm
    revert hG hm; generalize (bx621.2 ++ [y641]) = found642; intro hG hm
    cases hm
    refine y_next ?_
    exact hN (v640, c643, (some (tx621.1)), (some (tx621.2))) _ _ (Okc.cons (Okc.at 1 rfl hG) (Okc.cons (Okc.at 0 rfl hG) (Okc.dr 6 hG))) (W.pick [0] rfl)
  · clear hG W hm
    intro bx621 wx621 S H hm hG W
    refine k_frz hG W frz_L 0 1 rfl rfl ?_
    clear hG W
    intro S hG W
    exact k_ret hG W hm (sim_var 0 rfl rfl) (fun v S H hG W hr => k v S H (Okc.at 5 rfl hG) (W.pick [] rfl) hr)
theorem sc_load_at : FnScope ["house", "counts", "lamp", "other"] ["house", "counts", "lamp"] (defScope (top 45)) := ⟨rfl, rfl, rfl, by decide +kernel, rfl, by decide +kernel, by decide +kernel⟩
theorem ok_load_at (E : EnvF K mg) : Cal CX0 P w K mg base 2 "load_at" (spP (TyA.c (tHouse (He.ga K "House")) (TyA.c (tL tInt) (TyA.one tInt))) (fun a => m_load_at a.1 a.2.1 a.2.2) tInt) := by
  refine cal_mk (k := 1) E.d_load_at sc_load_at (fun vs H Q E h => by obtain ⟨S, F, a, r, ⟨_, _, rfl, _, ⟨_, _, rfl, _, ⟨_, rfl, _⟩⟩⟩, _⟩ := h; rfl) (fun _ _ _ _ _ _ us hl => match us, hl with | [_, _, _], _ => rfl) ?_
  rintro f cdv A outer s H vs Q EX hr ⟨S, F, ⟨house644, counts645, lamp646⟩, out, ⟨v0, _, rfl, h0, ⟨v1, _, rfl, h1, ⟨v2, rfl, h2⟩⟩⟩, W, hm, k⟩
  refine ⟨_, PSs.nox (pss_cons (ps_ret (pe_callB (cr_sumK (K := K)) rfl (by exact E.g_sum) (by decide +kernel) (pa_cons (pe_lc (own := [("other", 3)]) rfl sc_load_at.nd (pi_listK (K := K) (pe_cal (ok_bits E) (by exact hr) (by first | decide | omega) (by rfl) pass0 (pa_cons (pe_ix (ix_listK (K := K)) (pe_cal (ok_above_masks E) (by exact hr) (by first | decide | omega) (by rfl) pass0 (pa_cons (pv 0) pa_nil)) (pv 2) (by intro _ _; rfl)) pa_nil))) (blkOk_by (N := ["house", "counts", "lamp", "other"]) (sc := defScope (top 45)) (by decide +kernel)) (fun _ _ _ _ _ => (pg_name (i := 3) sc_load_at.nd rfl (Or.inl rfl))) (fun _ _ _ _ _ => pts_nil) (fun _ _ _ _ _ => (pe_ix (ix_listK (K := K)) (pv 1) (pv 3) (by intro _ _; rfl)))) pa_nil))) pss_nil), ?_⟩
  have hG : Okc [fS S, (tHouse (He.ga K "House")).f house644 v0, (tL tInt).f counts645 v1, tInt.f lamp646 v2] S := ⟨Same.refl _, h0, h1, h2, True.intro⟩
  have W : Wd S (([] : Ow) ++ F) H := W
  show (_ : TS) _ ([some v0, some v1, some v2, none] : L2.St) H
  exact k_ret hG W hm (sim_sum (SimF.sim (simF_lc (simI_list (sim_call (simA_one (sim_ix (sim_call (simA_one (sim_var 1 rfl rfl))) (sim_var 3 rfl rfl))))) tg_name (fun _ => rfl) (List.nil_sublist _) (fun a w => simT_yes) (fun a w => (sim_ix (sim_var 3 rfl rfl) (sim_var 0 rfl rfl)))))) (fun v S H hG W hr => k v S H (Okc.at 0 rfl hG) (W.pick [] rfl) hr)
theorem sc_most_at : FnScope ["house", "source", "counts", "lamp"] ["house", "source", "counts", "lamp"] (defScope (top 46)) := ⟨rfl, rfl, rfl, by decide +kernel, rfl, by decide +kernel, by decide +kernel⟩
theorem ok_most_at (E : EnvF K mg) : Cal CX0 P w K mg base 3 "most_at" (spP (TyA.c (tHouse (He.ga K "House")) (TyA.c (tT tInt) (TyA.c (tL tInt) (TyA.one tInt)))) (fun a => m_most_at a.1 a.2.1 a.2.2.1 a.2.2.2) tInt) := by
  refine cal_mk (k := 2) E.d_most_at sc_most_at (fun vs H Q E h => by obtain ⟨S, F, a, r, ⟨_, _, rfl, _, ⟨_, _, rfl, _, ⟨_, _, rfl, _, ⟨_, rfl, _⟩⟩⟩⟩, _⟩ := h; rfl) (fun _ _ _ _ _ _ us hl => match us, hl with | [_, _, _, _], _ => rfl) ?_
  rintro f cdv A outer s H vs Q EX hr ⟨S, F, ⟨house656, source657, counts658, lamp659⟩, out, ⟨v0, _, rfl, h0, ⟨v1, _, rfl, h1, ⟨v2, _, rfl, h2, ⟨v3, rfl, h3⟩⟩⟩⟩, W, hm, k⟩
  refine ⟨_, PSs.nox (pss_cons (ps_ret (pe_op op_add (pe_ix (ix_tupK (K := K)) (pv 1) (pv 3) (by intro _ _; rfl)) (pe_op op_mulW (pe_op op_sub (pe_fldK (K := K) (pv 0)) pe_int) (pe_cal (ok_load_at E) (by exact hr) (by first | decide | omega) (by rfl) pass0 (pa_cons (pv 0) (pa_cons (pv 2) (pa_cons (pv 3) pa_nil))))))) pss_nil), ?_⟩
  have hG : Okc [fS S, (tHouse (He.ga K "House")).f house656 v0, (tT tInt).f source657 v1, (tL tInt).f counts658 v2, tInt.f lamp659 v3] S := ⟨Same.refl _, h0, h1, h2, h3, True.intro⟩
  have W : Wd S (([] : Ow) ++ F) H := W
  show (_ : TS) _ ([some v0, some v1, some v2, some v3] : L2.St) H
  exact k_ret hG W hm (sim_add (sim_ixT (sim_var 2 rfl rfl) (sim_var 4 rfl rfl)) (sim_mul (sim_sub (sim_fld (house_fld E.cl_House (E.na_House_hues) (fun _ _ _ h => h.hues)) (sim_var 1 rfl rfl)) sim_int) (sim_call (simA_c (sim_var 1 rfl rfl) (simA_c (sim_var 3 rfl rfl) (simA_one (sim_var 4 rfl rfl))))))) (fun v S H hG W hr => k v S H (Okc.at 0 rfl hG) (W.pick [] rfl) hr)
theorem sc_greatest_counts : FnScope ["house", "source", "target", "counts", "lamp", "_"] ["house", "source", "target"] (defScope (top 47)) := ⟨rfl, rfl, rfl, by decide +kernel, rfl, by decide +kernel, by decide +kernel⟩
theorem ok_greatest_counts (E : EnvF K mg) : Cal CX0 P w K mg base 4 "greatest_counts" (spF (TyA.c (tHouse (He.ga K "House")) (TyA.c (tT tInt) (TyA.one (tT tInt)))) (fun a => m_greatest_counts a.1 a.2.1 a.2.2) (oL tInt)) := by
  refine cal_mk (k := 3) E.d_greatest_counts sc_greatest_counts (fun vs H Q E h => by obtain ⟨S, F, a, r, ⟨_, _, rfl, _, ⟨_, _, rfl, _, ⟨_, rfl, _⟩⟩⟩, _⟩ := h; rfl) (fun _ _ _ _ _ _ us hl => match us, hl with | [_, _, _], _ => rfl) ?_
  rintro f cdv A outer s H vs Q EX hr ⟨S, F, ⟨house674, source675, target676⟩, out, ⟨v0, _, rfl, h0, ⟨v1, _, rfl, h1, ⟨v2, rfl, h2⟩⟩⟩, W, hm, k⟩
  refine ⟨_, PSs.nox (pss_cons (ps_setLc (i := 3) (own := [("_", 5)]) rfl sc_greatest_counts.nd rfl rfl (sw_true rfl rfl rfl (by decide +kernel)) (pi_range1 rfl (by exact E.g_range) (pa_cons (pe_fldK (K := K) (pv 0)) pa_nil)) (blkOk_by (N := ["house", "source", "target", "counts", "lamp", "_"]) (sc := defScope (top 47)) (by decide +kernel)) (fun _ _ _ _ _ => (pg_name (i := 5) sc_greatest_counts.nd rfl (Or.inl rfl))) (fun _ _ _ _ _ => pts_nil) (fun _ _ _ _ _ => pe_int)) (pss_cons (ps_for PassesOwn.never rfl (pi_listK (K := K) (pe_mtd0 (ok_House_order E) (by exact hr) (by first | decide | omega) pass0 (pv 0))) (pg_name (i := 4) sc_greatest_counts.nd rfl (Or.inl rfl)) (pss_cons (ps_asg (pe_op op_sub (pe_cal (ok_most_at E) (by exact hr) (by first | decide | omega) (by rfl) pass0 (pa_cons (pv 0) (pa_cons (pv 1) (pa_cons (pv 3) (pa_cons (pv 4) pa_nil))))) (pe_ix (ix_tupK (K := K)) (pv 2) (pv 4) (by intro _ _; rfl))) (pg_sub (pv 3) (pv 4) set_list)) pss_nil)) (pss_cons (ps_ret (pv 3)) pss_nil))), ?_⟩
  have hG : Okc [fS S, (tHouse (He.ga K "House")).f house674 v0, (tT tInt).f source675 v1, (tT tInt).f target676 v2] S := ⟨Same.refl _, h0, h1, h2, True.intro⟩
  have W : Wd S (([] : Ow) ++ F) H := W
  show (_ : TS) _ ([some v0, some v1, some v2, none, none, none] : L2.St) H
  refine k_setO hG W hm (simF_lc (simI_range1 (sim_fld (house_fld E.cl_House (E.na_House_count) (fun _ _ _ h => h.count)) (sim_var 1 rfl rfl))) tg_name (fun _ => rfl) (List.nil_sublist _) (fun a w => simT_yes) (fun a w => sim_int)) ?_
  clear hG W hm
  intro counts681 p683 c684 S H hG W hm
  refine k_fold (σJ := (fun (bx686 : (List Int)) (wx686 : List Cell × Option V) => ([some v0, some v1, some v2, some (.ref p683), wx686.2, none] : L2.St))) (OJ := (fun (bx686 : (List Int)) (wx686 : List Cell × Option V) => ([wx686.1] : Ow))) (Fb := (fun (bx686 : (List Int)) (wx686 : List Cell × Option V) => ([(oL tInt).f bx686 p683 (wx686.1)] : List Fact))) (σT := (fun b w (tx686 : V) => ((fun (bx686 : (List Int)) (wx686 : List Cell × Option V) => ([some v0, some v1, some v2, some (.ref p683), wx686.2, none] : L2.St)) b w).set 4 (some tx686))) ((c684, (none)) : List Cell × Option V) hG W hm (simI_list (sim_meth0 (house_no "order" (by decide +kernel)) (sim_var 2 rfl rfl))) (fun b w => tg_name) (fun b w => List.nil_sublist _) rfl rfl (fun S h => (Okc.cons (Okc.at 0 rfl h) h)) ?_ ?_
  · clear hG W hm
    intro S1 y687 bx686 b' wx686 tx686 S H hm hG W N hN
    refine k_put hG W hm 0 1 rfl rfl rfl (sim_sub (sim_peek 0 1 rfl rfl frz_L sc_int (sim_call (simA_c (sim_var 6 rfl rfl) (simA_c (sim_var 7 rfl rfl) (simA_c (sim_var 0 rfl rfl) (simA_one (sim_var 1 rfl rfl))))))) (sim_ixT (sim_var 7 rfl rfl) (sim_var 0 rfl rfl))) (sim_var 0 rfl rfl) ?_
    clear hG W hm
    intro counts702 c703 S H hG W hm
    cases hm
    refine y_next ?_
    exact hN (c703, (some (tx686))) _ _ (Okc.cons (Okc.at 0 rfl hG) (Okc.dr 3 hG)) (W.pick [0] rfl)
  · clear hG W hm
    intro bx686 wx686 S H hm hG W
    refine e_ret ?_
    refine c_ref rfl ?_
    cases hm
    exact k _ _ _ _ (Okc.at 2 rfl hG) (W.pick [0] rfl) (Okc.at 0 rfl hG)
theorem sc_need_way : FnScope ["house", "source", "target"] ["house", "source", "target"] (defScope (top 50)) := ⟨rfl, rfl, rfl, by decide +kernel, rfl, by decide +kernel, by decide +kernel⟩
theorem ok_need_way (E : EnvF K mg) : Cal CX0 P w K mg base 5 "need_way" (spP (TyA.c (tHouse (He.ga K "House")) (TyA.c (tT tInt) (TyA.one (tT tInt)))) (fun a => m_need_way a.1 a.2.1 a.2.2) tUnit) := by
  refine cal_mk (k := 4) E.d_need_way sc_need_way (fun vs H Q E h => by obtain ⟨S, F, a, r, ⟨_, _, rfl, _, ⟨_, _, rfl, _, ⟨_, rfl, _⟩⟩⟩, _⟩ := h; rfl) (fun _ _ _ _ _ _ us hl => match us, hl with | [_, _, _], _ => rfl) ?_
  rintro f cdv A outer s H vs Q EX hr ⟨S, F, ⟨house704, source705, target706⟩, out, ⟨v0, _, rfl, h0, ⟨v1, _, rfl, h1, ⟨v2, rfl, h2⟩⟩⟩, W, hm, k⟩
  refine ⟨_, PSs.nox (pss_cons (ps_expr (pe_cal (ok_need_states E) (by exact hr) (by first | decide | omega) (by rfl) pass0 (pa_cons (pv 0) (pa_cons (pe_lst (pa_cons (pv 1) (pa_cons (pv 2) pa_nil))) pa_nil)))) (pss_cons (ps_expr (pe_cal (ok_need_reachable E) (by exact hr) (by first | decide | omega) (by rfl) pass0 (pa_cons (pv 0) (pa_cons (pv 1) (pa_cons (pv 2) pa_nil))))) pss_nil)), ?_⟩
  have hG : Okc [fS S, (tHouse (He.ga K "House")).f house704 v0, (tT tInt).f source705 v1, (tT tInt).f target706 v2] S := ⟨Same.refl _, h0, h1, h2, True.intro⟩
  have W : Wd S (([] : Ow) ++ F) H := W
  show (_ : TS) _ ([some v0, some v1, some v2] : L2.St) H
  refine k_drop hG W hm (sim_call (simA_c (sim_var 1 rfl rfl) (simA_one (SimF.sim (simF_lst (simA_ln (sim_var 2 rfl rfl) (simA_ln (sim_var 3 rfl rfl) simA_ln0))))))) ?_
  clear hG W hm
  intro z714 S H hG W hm
  refine k_drop hG W hm (sim_call (simA_c (sim_var 1 rfl rfl) (simA_c (sim_var 2 rfl rfl) (simA_one (sim_var 3 rfl rfl))))) ?_
  clear hG W hm
  intro z720 S H hG W hm
  cases hm
  exact k _ _ _ (Okc.at 0 rfl hG) (W.pick [] rfl) rfl
theorem sc_weights : FnScope ["house", "below", "found", "lamp", "beneath", "_", "other"] ["house"] (defScope (top 51)) := ⟨rfl, rfl, rfl, by decide +kernel, rfl, by decide +kernel, by decide +kernel⟩
theorem ok_weights (E : EnvF K mg) : Cal CX0 P w K mg base 2 "weights" (spP (TyA.one (tHouse (He.ga K "House"))) (fun a => m_weights a) (tL tInt)) := by
  refine cal_mk (k := 1) E.d_weights sc_weights (fun vs H Q E h => by obtain ⟨S, F, a, r, ⟨_, rfl, _⟩, _⟩ := h; rfl) (fun _ _ _ _ _ _ us hl => match us, hl with | [_], _ => rfl) ?_
  rintro f cdv A outer s H vs Q EX hr ⟨S, F, house721, out, ⟨v0, rfl, h0⟩, W, hm, k⟩
  refine ⟨_, PSs.nox (pss_cons (ps_set (i := 1) sc_weights.nd rfl (Or.inl rfl) (pe_cal (ok_below_masks E) (by exact hr) (by first | decide | omega) (by rfl) pass0 (pa_cons (pv 0) pa_nil))) (pss_cons (ps_set (i := 2) sc_weights.nd rfl (Or.inr rfl) (pe_lc (own := [("_", 5)]) rfl sc_weights.nd (pi_range1 rfl (by exact E.g_range) (pa_cons (pe_fldK (K := K) (pv 0)) pa_nil)) (blkOk_by (N := ["house", "below", "found", "lamp", "beneath", "_", "other"]) (sc := defScope (top 51)) (by decide +kernel)) (fun _ _ _ _ _ => (pg_name (i := 5) sc_weights.nd rfl (Or.inl rfl))) (fun _ _ _ _ _ => pts_nil) (fun _ _ _ _ _ => pe_int))) (pss_cons (ps_for PassesOwn.never rfl (pi_reversedK (K := K) rfl (by exact E.g_reversed) (pa_cons (pe_mtd0 (ok_House_order E) (by exact hr) (by first | decide | omega) pass0 (pv 0)) pa_nil)) (pg_name (i := 3) sc_weights.nd rfl (Or.inl rfl)) (pss_cons (ps_set (i := 4) sc_weights.nd rfl (Or.inl rfl) (pe_callB (cr_sumK (K := K)) rfl (by exact E.g_sum) (by decide +kernel) (pa_cons (pe_lc (own := [("other", 6)]) rfl sc_weights.nd (pi_listK (K := K) (pe_cal (ok_bits E) (by exact hr) (by first | decide | omega) (by rfl) pass0 (pa_cons (pe_ix (ix_listK (K := K)) (pv 1) (pv 3) (by intro _ _; rfl)) pa_nil))) (blkOk_by (N := ["house", "below", "found", "lamp", "beneath", "_", "other"]) (sc := defScope (top 51)) (by decide +kernel)) (fun _ _ _ _ _ => (pg_name (i := 6) sc_weights.nd rfl (Or.inl rfl))) (fun _ _ _ _ _ => pts_nil) (fun _ _ _ _ _ => (pe_ix (ix_listK (K := K)) (pv 2) (pv 6) (by intro _ _; rfl)))) pa_nil))) (pss_cons (ps_asg (pe_op op_add pe_int (pe_op op_mulW (pe_op op_sub (pe_fldK (K := K) (pv 0)) pe_int) (pv 4))) (pg_sub (pv 2) (pv 3) set_list)) pss_nil))) (pss_cons (ps_ret (pv 2)) pss_nil)))), ?_⟩
  have hG : Okc [fS S, (tHouse (He.ga K "House")).f house721 v0] S := ⟨Same.refl _, h0, True.intro⟩
  have W : Wd S (([] : Ow) ++ F) H := W
  show (_ : TS) _ ([some v0, none, none, none, none, none, none] : L2.St) H
  refine k_set hG W hm (sim_call (simA_one (sim_var 1 rfl rfl))) ?_
  clear hG W hm
  intro below723 v724 S H hG W hm
  refine k_setO hG W hm (simF_lc (simI_range1 (sim_fld (house_fld E.cl_House (E.na_House_count) (fun _ _ _ h => h.count)) (sim_var 2 rfl rfl))) tg_name (fun _ => rfl) (List.nil_sublist _) (fun a w => simT_yes) (fun a w => sim_int)) ?_
  clear hG W hm
  intro found729 p731 c732 S H hG W hm
  refine k_fold (σJ := (fun (bx735 : (List Int)) (wx735 : List Cell × Option V × Option V) => ([some v0, some (v724), some (.ref p731), wx735.2.1, wx735.2.2, none, none] : L2.St))) (OJ := (fun (bx735 : (List Int)) (wx735 : List Cell × Option V × Option V) => ([wx735.1] : Ow))) (Fb := (fun (bx735 : (List Int)) (wx735 : List Cell × Option V × Option V) => ([(oL tInt).f bx735 p731 (wx735.1)] : List Fact))) (σT := (fun b w (tx735 : V) => ((fun (bx735 : (List Int)) (wx735 : List Cell × Option V × Option V) => ([some v0, some (v724), some (.ref p731), wx735.2.1, wx735.2.2, none, none] : L2.St)) b w).set 3 (some tx735))) ((c732, (none), (none)) : List Cell × Option V × Option V) hG W hm (simI_rev (sim_meth0 (house_no "order" (by decide +kernel)) (sim_var 3 rfl rfl))) (fun b w => tg_name) (fun b w => List.nil_sublist _) rfl rfl (fun S h => (Okc.cons (Okc.at 0 rfl h) h)) ?_ ?_
  · clear hG W hm
    intro S1 y736 bx735 b' wx735 tx735 S H hm hG W N hN
    refine k_set hG W hm (sim_sum (SimF.sim (simF_lc (simI_list (sim_call (simA_one (sim_ix (sim_var 4 rfl rfl) (sim_var 0 rfl rfl))))) tg_name (fun _ => rfl) (List.nil_sublist _) (fun a w => simT_yes) (fun a w => (sim_ix (sim_own 0 2 rfl rfl rfl) (sim_var 0 rfl rfl)))))) ?_
    clear hG W hm
    intro beneath746 v747 S H hG W hm
    refine k_put hG W hm 0 2 rfl rfl rfl (sim_add sim_int (sim_mul (sim_sub (sim_fld (house_fld E.cl_House (E.na_House_hues) (fun _ _ _ h => h.hues)) (sim_var 7 rfl rfl)) sim_int) (sim_var 0 rfl rfl))) (sim_var 1 rfl rfl) ?_
    clear hG W hm
    intro found757 c758 S H hG W hm
    cases hm
    refine y_next ?_
    exact hN (c758, (some (tx735)), (some (v747))) _ _ (Okc.cons (Okc.at 0 rfl hG) (Okc.dr 4 hG)) (W.pick [0] rfl)
  · clear hG W hm
    intro bx735 wx735 S H hm hG W
    refine k_frz hG W frz_L 0 0 rfl rfl ?_
    clear hG W
    intro S hG W
    exact k_ret hG W hm (sim_var 0 rfl rfl) (fun v S H hG W hr => k v S H (Okc.at 4 rfl hG) (W.pick [] rfl) hr)
theorem sc_worth : FnScope ["house", "state", "hue", "weight"] ["house", "state"] (defScope (top 52)) := ⟨rfl, rfl, rfl, by decide +kernel, rfl, by decide +kernel, by decide +kernel⟩
theorem ok_worth (E : EnvF K mg) : Cal CX0 P w K mg base 4 "worth" (spP (TyA.c (tHouse (He.ga K "House")) (TyA.one (tT tInt))) (fun a => m_worth a.1 a.2) tInt) := by
  refine cal_mk (k := 3) E.d_worth sc_worth (fun vs H Q E h => by obtain ⟨S, F, a, r, ⟨_, _, rfl, _, ⟨_, rfl, _⟩⟩, _⟩ := h; rfl) (fun _ _ _ _ _ _ us hl => match us, hl with | [_, _], _ => rfl) ?_
  rintro f cdv A outer s H vs Q EX hr ⟨S, F, ⟨house759, state760⟩, out, ⟨v0, _, rfl, h0, ⟨v1, rfl, h1⟩⟩, W, hm, k⟩
  refine ⟨_, PSs.nox (pss_cons (ps_expr (pe_cal (ok_need_state E) (by exact hr) (by first | decide | omega) (by rfl) pass0 (pa_cons (pv 0) (pa_cons (pv 1) pa_nil)))) (pss_cons (ps_ret (pe_callB (cr_sumK (K := K)) rfl (by exact E.g_sum) (by decide +kernel) (pa_cons (pe_lc (own := [("hue", 2), ("weight", 3)]) rfl sc_worth.nd (pi_zipM (K := K) rfl (by exact E.g_zip) (pa_cons (pv 1) (pa_cons (pe_cal (ok_weights E) (by exact hr) (by first | decide | omega) (by rfl) pass0 (pa_cons (pv 0) pa_nil)) pa_nil))) (blkOk_by (N := ["house", "state", "hue", "weight"]) (sc := defScope (top 52)) (by decide +kernel)) (fun _ _ _ _ _ => (pg_tupK (K := K) (n := 2) rfl (pgs_cons (pg_name (i := 2) sc_worth.nd rfl (Or.inl rfl)) (pgs_cons (pg_name (i := 3) sc_worth.nd rfl (Or.inl rfl)) pgs_nil)))) (fun _ _ _ _ _ => pts_nil) (fun _ _ _ _ _ => (pe_op op_mulW (pv 2) (pv 3)))) pa_nil))) pss_nil)), ?_⟩
  have hG : Okc [fS S, (tHouse (He.ga K "House")).f house759 v0, (tT tInt).f state760 v1] S := ⟨Same.refl _, h0, h1, True.intro⟩
  have W : Wd S (([] : Ow) ++ F) H := W
  show (_ : TS) _ ([some v0, some v1, none, none] : L2.St) H
  refine k_drop hG W hm (sim_call (simA_c (sim_var 1 rfl rfl) (simA_one (sim_var 2 rfl rfl)))) ?_
  clear hG W hm
  intro z764 S H hG W hm
  exact k_ret hG W hm (sim_sum (SimF.sim (simF_lc (simI_zipM (sim_var 2 rfl rfl) (sim_call (simA_one (sim_var 1 rfl rfl)))) tg_pair (fun _ => rfl) (List.nil_sublist _) (fun a w => simT_yes) (fun a w => (sim_mul (sim_var 0 rfl rfl) (sim_var 1 rfl rfl)))))) (fun v S H hG W hr => k v S H (Okc.at 0 rfl hG) (W.pick [] rfl) hr)
theorem sc__careful_lamp : FnScope ["house", "state", "remaining", "lamp"] ["house", "state", "remaining"] (defScope (top 56)) := ⟨rfl, rfl, rfl, by decide +kernel, rfl, by decide +kernel, by decide +kernel⟩
theorem ok__careful_lamp (E : EnvF K mg) : Cal CX0 P w K mg base 3 "_careful_lamp" (spP (TyA.c (tHouse (He.ga K "House")) (TyA.c (tT tInt) (TyA.one (tL tInt)))) (fun a => m__careful_lamp a.1 a.2.1 a.2.2) (tO tInt)) := by
  refine cal_mk (k := 2) E.d__careful_lamp sc__careful_lamp (fun vs H Q E h => by obtain ⟨S, F, a, r, ⟨_, _, rfl, _, ⟨_, _, rfl, _, ⟨_, rfl, _⟩⟩⟩, _⟩ := h; rfl) (fun _ _ _ _ _ _ us hl => match us, hl with | [_, _, _], _ => rfl) ?_
  rintro f cdv A outer s H vs Q EX hr ⟨S, F, ⟨house773, state774, remaining775⟩, out, ⟨v0, _, rfl, h0, ⟨v1, _, rfl, h1, ⟨v2, rfl, h2⟩⟩⟩, W, hm, k⟩
  refine ⟨_, PSs.nox (pss_cons (ps_for PassesOwn.never rfl (pi_range1 rfl (by exact E.g_range) (pa_cons (pe_fldK (K := K) (pv 0)) pa_nil)) (pg_name (i := 3) sc__careful_lamp.nd rfl (Or.inl rfl)) (pss_cons (ps_if (PW.pt (pw_and (pt_cmpR op_ge (pe_ix (ix_tupK (K := K)) (pv 1) (pv 3) (by intro _ _; rfl)) pe_int (nomark _)) (pw_and (pt_cmpR op_ge (pe_ix (ix_listK (K := K)) (pv 2) (pv 3) (by intro _ _; rfl)) pe_int (nomark _)) (pw_and1 (pt_cmpR op_isN (pe_cal (ok_lit_beneath E) (by exact hr) (by first | decide | omega) (by rfl) pass0 (pa_cons (pv 0) (pa_cons (pv 1) (pa_cons (pv 3) pa_nil)))) pe_non (nomark _)))))) (pss_cons (ps_ret (pv 3)) pss_nil) pss_nil) pss_nil)) (pss_cons (ps_ret pe_non) pss_nil)), ?_⟩
  have hG : Okc [fS S, (tHouse (He.ga K "House")).f house773 v0, (tT tInt).f state774 v1, (tL tInt).f remaining775 v2] S := ⟨Same.refl _, h0, h1, h2, True.intro⟩
  have W : Wd S (([] : Ow) ++ F) H := W
  show (_ : TS) _ ([some v0, some v1, some v2, none] : L2.St) H
  refine k_forK (σJ := (fun (bx778 : Unit) (wx778 : Option V) => ([some v0, some v1, some v2, wx778] : L2.St))) (OJ := (fun (bx778 : Unit) (wx778 : Option V) => ([] : Ow))) (Fb := (fun (bx778 : Unit) (wx778 : Option V) => ([] : List Fact))) (σT := (fun b w (tx778 : V) => ((fun (bx778 : Unit) (wx778 : Option V) => ([some v0, some v1, some v2, wx778] : L2.St)) b w).set 3 (some tx778))) ((none) : Option V) hG W hm (simI_range1 (sim_fld (house_fld E.cl_House (E.na_House_count) (fun _ _ _ h => h.count)) (sim_var 1 rfl rfl))) (fun b w => tg_name) (fun b w => List.nil_sublist _) rfl rfl (fun S h => h) ?_ ?_
  · clear hG W hm
    intro S1 y779 bx778 wx778 tx778 S H k781 hm hG W Nx778 hNx778 hBx778
    refine k_if hG W hm (simT_and (simT_test (sim_ge (sim_ixT (sim_var 4 rfl rfl) (sim_var 0 rfl rfl)) sim_int)) (simT_and (simT_test (sim_ge (sim_ix (sim_var 5 rfl rfl) (sim_var 0 rfl rfl)) sim_int)) (simT_test (sim_isN (sim_call (simA_c (sim_var 3 rfl rfl) (simA_c (sim_var 4 rfl rfl) (simA_one (sim_var 0 rfl rfl))))) sim_non)))) ?_ ?_
    · clear hG W hm
      intro S H hG W hm
      exact k_ret hG W hm (sim_some nn_int (sim_var 0 rfl rfl)) (fun v S H hG W hr => k v S H (Okc.at 2 rfl hG) (W.pick [] rfl) hr)
    · clear hG W hm
      intro S H hG W hm
      refine y_next ?_
      refine y_next ?_
      exact hNx778 _ (some (tx778)) _ _ hm (Okc.dr 1 hG) (W.pick [] rfl)
  · clear hG W hm
    intro bx778 wx778 S H hm hG W
    exact k_ret hG W hm sim_nonO (fun v S H hG W hr => k v S H (Okc.at 0 rfl hG) (W.pick [] rfl) hr)
theorem sc_careful_run : FnScope ["house", "source", "target", "limit", "remaining", "length", "state", "run", "_", "lamp"] ["house", "source", "target", "limit"] (defScope (top 54)) := ⟨rfl, rfl, rfl, by decide +kernel, rfl, by decide +kernel, by decide +kernel⟩
theorem ok_careful_run (E : EnvF K mg) : KCal CX0 P w K mg base 6 "careful_run" (spP (TyA.c (tHouse (He.ga K "House")) (TyA.c (tT tInt) (TyA.c (tT tInt) (TyA.one tInt)))) (fun a => m_careful_run a.1 a.2.1 a.2.2.1 a.2.2.2) (tL tInt)) 3 [("limit", .int 1000)] := by
  refine kcal_mk (k := 5) E.d_careful_run sc_careful_run (fun vs H Q E h => by obtain ⟨S, F, a, r, ⟨_, _, rfl, _, ⟨_, _, rfl, _, ⟨_, _, rfl, _, ⟨_, rfl, _⟩⟩⟩⟩, _⟩ := h; rfl) (by decide) (by decide) (fun D doc pm an cdv ct us ks h1 h2 => match us, ks, h1, h2 with | [_, _, _], [_], _, _ => ⟨_, _, _, _, _, _, rfl, rfl, rfl⟩) (fun D doc pm an cdv ct us ws h1 h2 => match us, ws, h1, h2 with | [_, _, _], [_], _, _ => rfl) ?_
  rintro f cdv A outer s H vs Q EX hr ⟨S, F, ⟨house801, source802, target803, limit804⟩, out, ⟨v0, _, rfl, h0, ⟨v1, _, rfl, h1, ⟨v2, _, rfl, h2, ⟨v3, rfl, h3⟩⟩⟩⟩, W, hm, k⟩
  refine ⟨_, PSs.nox (pss_cons (ps_expr (pe_cal (ok_need_way E) (by exact hr) (by first | decide | omega) (by rfl) pass0 (pa_cons (pv 0) (pa_cons (pv 1) (pa_cons (pv 2) pa_nil))))) (pss_cons (ps_set (i := 4) sc_careful_run.nd rfl (Or.inl rfl) (pe_cal (ok_greatest_counts E) (by exact hr) (by first | decide | omega) (by rfl) pass0 (pa_cons (pv 0) (pa_cons (pv 1) (pa_cons (pv 2) pa_nil))))) (pss_cons (ps_set (i := 5) sc_careful_run.nd rfl (Or.inl rfl) (pe_callB (cr_sumK (K := K)) rfl (by exact E.g_sum) (by decide +kernel) (pa_cons (pv 4) pa_nil))) (pss_cons (ps_if (pt_cmpR op_gt (pv 5) (pv 3) (nomark _)) (pss_cons ps_never pss_nil) pss_nil) (pss_cons (ps_set (i := 6) sc_careful_run.nd rfl (Or.inl rfl) (pv 1)) (pss_cons (ps_set (i := 7) sc_careful_run.nd rfl (Or.inl rfl) (pe_lst pa_nil)) (pss_cons (ps_for PassesOwn.never rfl (pi_range1 rfl (by exact E.g_range) (pa_cons (pv 5) pa_nil)) (pg_name (i := 8) sc_careful_run.nd rfl (Or.inl rfl)) (pss_cons (ps_set (i := 9) sc_careful_run.nd rfl (Or.inl rfl) (pe_cal (ok__careful_lamp E) (by exact hr) (by first | decide | omega) (by rfl) pass0 (pa_cons (pv 0) (pa_cons (pv 6) (pa_cons (pv 4) pa_nil))))) (pss_cons (ps_expr (pe_bmK (K := K) PySem.F.plainAttrs_list PySem.F.slot_list_append PySem.F.type_list_append mt_append (pv 7) (pa_cons (pv 9) pa_nil))) (pss_cons (ps_asg (pe_op op_sub (pe_ix (ix_listK (K := K)) (pv 4) (pv 9) (by intro _ _; rfl)) pe_int) (pg_sub (pv 4) (pv 9) set_list)) (pss_cons (ps_set (i := 6) sc_careful_run.nd rfl (Or.inl rfl) (pe_cal (ok_moved E) (by exact hr) (by first | decide | omega) (by rfl) pass0 (pa_cons (pv 0) (pa_cons (pv 6) (pa_cons (pv 9) pa_nil))))) pss_nil))))) (pss_cons (ps_ret (pv 7)) pss_nil)))))))), ?_⟩
  have hG : Okc [fS S, (tHouse (He.ga K "House")).f house801 v0, (tT tInt).f source802 v1, (tT tInt).f target803 v2, tInt.f limit804 v3] S := ⟨Same.refl _, h0, h1, h2, h3, True.intro⟩
  have W : Wd S (([] : Ow) ++ F) H := W
  show (_ : TS) _ ([some v0, some v1, some v2, some v3, none, none, none, none, none, none] : L2.St) H
  refine k_drop hG W hm (sim_call (simA_c (sim_var 1 rfl rfl) (simA_c (sim_var 2 rfl rfl) (simA_one (sim_var 3 rfl rfl))))) ?_
  clear hG W hm
  intro z810 S H hG W hm
  refine k_setO hG W hm (simF_call (simA_c (sim_var 1 rfl rfl) (simA_c (sim_var 2 rfl rfl) (simA_one (sim_var 3 rfl rfl))))) ?_
  clear hG W hm
  intro remaining816 p818 c819 S H hG W hm
  refine k_set hG W hm (sim_sum (sim_own 0 0 rfl rfl rfl)) ?_
  clear hG W hm
  intro length821 v822 S H hG W hm
  refine k_if hG W hm (simT_test (sim_gt (sim_var 0 rfl rfl) (sim_var 6 rfl rfl))) ?_ ?_
  · clear hG W hm
    intro S H hG W hm
    cases hm
  · clear hG W hm
    intro S H hG W hm
    refine y_next ?_
    refine k_set hG W hm (sim_var 4 rfl rfl) ?_
    clear hG W hm
    intro state826 v827 S H hG W hm
    refine k_setO hG W hm (simF_lst (T := tInt) simA_ln0) ?_
    clear hG W hm
    intro run828 p830 c831 S H hG W hm
    refine k_fold (σJ := (fun (bx833 : (List Int) × (List Int) × (List Int)) (wx833 : List Cell × V × List Cell × Option V × Option V) => ([some v0, some v1, some v2, some v3, some (.ref p818), some (v822), some (wx833.2.1), some (.ref p830), wx833.2.2.2.1, wx833.2.2.2.2] : L2.St))) (OJ := (fun (bx833 : (List Int) × (List Int) × (List Int)) (wx833 : List Cell × V × List Cell × Option V × Option V) => ([wx833.2.2.1, wx833.1] : Ow))) (Fb := (fun (bx833 : (List Int) × (List Int) × (List Int)) (wx833 : List Cell × V × List Cell × Option V × Option V) => ([(oL tInt).f bx833.1 p818 (wx833.1), (tT tInt).f bx833.2.1 (wx833.2.1), (oL tInt).f bx833.2.2 p830 (wx833.2.2.1)] : List Fact))) (σT := (fun b w (tx833 : V) => ((fun (bx833 : (List Int) × (List Int) × (List Int)) (wx833 : List Cell × V × List Cell × Option V × Option V) => ([some v0, some v1, some v2, some v3, some (.ref p818), some (v822), some (wx833.2.1), some (.ref p830), wx833.2.2.2.1, wx833.2.2.2.2] : L2.St)) b w).set 8 (some tx833))) ((c819, v827, c831, (none), (none)) : List Cell × V × List Cell × Option V × Option V) hG W hm (simI_range1 (sim_var 2 rfl rfl)) (fun b w => tg_name) (fun b w => List.nil_sublist _) rfl rfl (fun S h => (Okc.cons (Okc.at 3 rfl h) (Okc.cons (Okc.at 1 rfl h) (Okc.cons (Okc.at 0 rfl h) h)))) ?_ ?_
    · clear hG W hm
      intro S1 y834 bx833 b' wx833 tx833 S H hm hG W N hN
      refine k_set hG W hm (sim_unO (sim_peek 1 1 rfl rfl frz_L sc_optInt (sim_call (simA_c (sim_var 11 rfl rfl) (simA_c (sim_var 3 rfl rfl) (simA_one (sim_var 0 rfl rfl))))))) ?_
      clear hG W hm
      intro lamp841 v842 S H hG W hm
      refine k_app hG W hm 0 4 rfl rfl rfl (sim_var 0 rfl rfl) ?_
      clear hG W hm
      intro y844 c846 S H hG W hm
      revert hG hm; generalize (bx833.2.2 ++ [y844]) = run845; intro hG hm
      refine k_put hG W hm 1 3 rfl rfl rfl (sim_sub (sim_ix (sim_own 1 3 rfl rfl rfl) (sim_var 1 rfl rfl)) sim_int) (sim_var 1 rfl rfl) ?_
      clear hG W hm
      intro remaining853 c854 S H hG W hm
      refine k_set hG W hm (sim_call (simA_c (sim_var 13 rfl rfl) (simA_c (sim_var 5 rfl rfl) (simA_one (sim_var 2 rfl rfl))))) ?_
      clear hG W hm
      intro state860 v861 S H hG W hm
      cases hm
      refine y_next ?_
      exact hN (c854, v861, c846, (some (tx833)), (some (v842))) _ _ (Okc.cons (Okc.at 1 rfl hG) (Okc.cons (Okc.at 0 rfl hG) (Okc.cons (Okc.at 2 rfl hG) (Okc.dr 8 hG)))) (W.pick [0, 0] rfl)
    · clear hG W hm
      intro bx833 wx833 S H hm hG W
      refine k_frz hG W frz_L 0 2 rfl rfl ?_
      clear hG W
      intro S hG W
      exact k_ret hG W hm (sim_var 0 rfl rfl) (fun v S H hG W hr => k v S H (Okc.at 8 rfl hG) (W.pick [] rfl) hr)
theorem sc_next_careful : FnScope ["house", "source", "target"] ["house", "source", "target"] (defScope (top 55)) := ⟨rfl, rfl, rfl, by decide +kernel, rfl, by decide +kernel, by decide +kernel⟩
theorem ok_next_careful (E : EnvF K mg) : Cal CX0 P w K mg base 6 "next_careful" (spP (TyA.c (tHouse (He.ga K "House")) (TyA.c (tT tInt) (TyA.one (tT tInt)))) (fun a => m_next_careful a.1 a.2.1 a.2.2) (tO tInt)) := by
  refine cal_mk (k := 5) E.d_next_careful sc_next_careful (fun vs H Q E h => by obtain ⟨S, F, a, r, ⟨_, _, rfl, _, ⟨_, _, rfl, _, ⟨_, rfl, _⟩⟩⟩, _⟩ := h; rfl) (fun _ _ _ _ _ _ us hl => match us, hl with | [_, _, _], _ => rfl) ?_
  rintro f cdv A outer s H vs Q EX hr ⟨S, F, ⟨house862, source863, target864⟩, out, ⟨v0, _, rfl, h0, ⟨v1, _, rfl, h1, ⟨v2, rfl, h2⟩⟩⟩, W, hm, k⟩
  refine ⟨_, PSs.nox (pss_cons (ps_expr (pe_cal (ok_need_way E) (by exact hr) (by first | decide | omega) (by rfl) pass0 (pa_cons (pv 0) (pa_cons (pv 1) (pa_cons (pv 2) pa_nil))))) (pss_cons (ps_ret (pe_cal (ok__careful_lamp E) (by exact hr) (by first | decide | omega) (by rfl) pass0 (pa_cons (pv 0) (pa_cons (pv 1) (pa_cons (pe_cal (ok_greatest_counts E) (by exact hr) (by first | decide | omega) (by rfl) pass0 (pa_cons (pv 0) (pa_cons (pv 1) (pa_cons (pv 2) pa_nil)))) pa_nil))))) pss_nil)), ?_⟩
  have hG : Okc [fS S, (tHouse (He.ga K "House")).f house862 v0, (tT tInt).f source863 v1, (tT tInt).f target864 v2] S := ⟨Same.refl _, h0, h1, h2, True.intro⟩
  have W : Wd S (([] : Ow) ++ F) H := W
  show (_ : TS) _ ([some v0, some v1, some v2] : L2.St) H
  refine k_drop hG W hm (sim_call (simA_c (sim_var 1 rfl rfl) (simA_c (sim_var 2 rfl rfl) (simA_one (sim_var 3 rfl rfl))))) ?_
  clear hG W hm
  intro z870 S H hG W hm
  exact k_ret hG W hm (sim_call (simA_c (sim_var 1 rfl rfl) (simA_c (sim_var 2 rfl rfl) (simA_one (SimF.sim (simF_call (simA_c (sim_var 1 rfl rfl) (simA_c (sim_var 2 rfl rfl) (simA_one (sim_var 3 rfl rfl)))))))))) (fun v S H hG W hr => k v S H (Okc.at 0 rfl hG) (W.pick [] rfl) hr)
theorem sc_covered_by : FnScope ["house", "state", "lamp"] ["house", "state"] (defScope (top 58)) := ⟨rfl, rfl, rfl, by decide +kernel, rfl, by decide +kernel, by decide +kernel⟩
theorem ok_covered_by (E : EnvF K mg) : Cal CX0 P w K mg base 5 "covered_by" (spF (TyA.c (tHouse (He.ga K "House")) (TyA.one (tT tInt))) (fun a => m_covered_by a.1 a.2) (oL (tP tInt (tT tInt)))) := by
  refine cal_mk (k := 4) E.d_covered_by sc_covered_by (fun vs H Q E h => by obtain ⟨S, F, a, r, ⟨_, _, rfl, _, ⟨_, rfl, _⟩⟩, _⟩ := h; rfl) (fun _ _ _ _ _ _ us hl => match us, hl with | [_, _], _ => rfl) ?_
  rintro f cdv A outer s H vs Q EX hr ⟨S, F, ⟨house881, state882⟩, out, ⟨v0, _, rfl, h0, ⟨v1, rfl, h1⟩⟩, W, hm, k⟩
  refine ⟨_, PSs.nox (pss_cons (ps_expr (pe_cal (ok_need_state E) (by exact hr) (by first | decide | omega) (by rfl) pass0 (pa_cons (pv 0) (pa_cons (pv 1) pa_nil)))) (pss_cons (ps_ret (pe_lc (own := [("lamp", 2)]) rfl sc_covered_by.nd (pi_listK (K := K) (pe_kcal (ok_allowed_lamps E) (by exact hr) (by first | decide | omega) (by rfl) pass0 (pa_cons (pv 0) (pa_cons (pv 1) pa_nil)) (pk_cons pe_bl pk_nil))) (blkOk_by (N := ["house", "state", "lamp"]) (sc := defScope (top 58)) (by decide +kernel)) (fun _ _ _ _ _ => (pg_name (i := 2) sc_covered_by.nd rfl (Or.inl rfl))) (fun _ _ _ _ _ => pts_nil) (fun _ _ _ _ _ => (pe_tup (pa_cons (pv 2) (pa_cons (pe_cal (ok_moved E) (by exact hr) (by first | decide | omega) (by rfl) pass0 (pa_cons (pv 0) (pa_cons (pv 1) (pa_cons (pv 2) pa_nil)))) pa_nil)))))) pss_nil)), ?_⟩
  have hG : Okc [fS S, (tHouse (He.ga K "House")).f house881 v0, (tT tInt).f state882 v1] S := ⟨Same.refl _, h0, h1, True.intro⟩
  have W : Wd S (([] : Ow) ++ F) H := W
  show (_ : TS) _ ([some v0, some v1, none] : L2.St) H
  refine k_drop hG W hm (sim_call (simA_c (sim_var 1 rfl rfl) (simA_one (sim_var 2 rfl rfl)))) ?_
  clear hG W hm
  intro z886 S H hG W hm
  exact k_retF hG W hm (simF_lc (simI_list (sim_callK (ext := (fun (a : HouseD × (List Int)) (b : Bool) => (a.1, (a.2, b)))) (f := (fun (a : HouseD × (List Int) × Bool) => m_allowed_lamps a.1 a.2.1 a.2.2)) (fun a vs S h => ln_c h (fun a vs S h => ln_one h)) (fun a vs S h => ln_one h) (fun a b vs zs S h r => (ap_c h fun ws h => (ap_one h r))) (simA_c (sim_var 1 rfl rfl) (simA_one (sim_var 2 rfl rfl))) (simA_one sim_bl))) tg_name (fun _ => rfl) (List.nil_sublist _) (fun a w => simT_yes) (fun a w => (sim_pair (sim_var 0 rfl rfl) (sim_call (simA_c (sim_var 2 rfl rfl) (simA_c (sim_var 3 rfl rfl) (simA_one (sim_var 0 rfl rfl)))))))) (fun p c S H hG W => k p c S H (Okc.at 1 rfl hG) (W.pick [0] rfl) (Okc.at 0 rfl hG))
theorem sc_covers_of : FnScope ["house", "state", "pairs", "lamp", "other"] ["house", "state"] (defScope (top 59)) := ⟨rfl, rfl, rfl, by decide +kernel, rfl, by decide +kernel, by decide +kernel⟩
theorem ok_covers_of (E : EnvF K mg) : Cal CX0 P w K mg base 5 "covers_of" (spP (TyA.c (tHouse (He.ga K "House")) (TyA.one (tT tInt))) (fun a => m_covers_of a.1 a.2) (tL (tP tInt (tT tInt)))) := by
  refine cal_mk (k := 4) E.d_covers_of sc_covers_of (fun vs H Q E h => by obtain ⟨S, F, a, r, ⟨_, _, rfl, _, ⟨_, rfl, _⟩⟩, _⟩ := h; rfl) (fun _ _ _ _ _ _ us hl => match us, hl with | [_, _], _ => rfl) ?_
  rintro f cdv A outer s H vs Q EX hr ⟨S, F, ⟨house900, state901⟩, out, ⟨v0, _, rfl, h0, ⟨v1, rfl, h1⟩⟩, W, hm, k⟩
  refine ⟨_, PSs.nox (pss_cons (ps_expr (pe_cal (ok_need_state E) (by exact hr) (by first | decide | omega) (by rfl) pass0 (pa_cons (pv 0) (pa_cons (pv 1) pa_nil)))) (pss_cons (ps_set (i := 2) sc_covers_of.nd rfl (Or.inl rfl) (pe_lst pa_nil)) (pss_cons (ps_for PassesOwn.never rfl (pi_range1 rfl (by exact E.g_range) (pa_cons (pe_fldK (K := K) (pv 0)) pa_nil)) (pg_name (i := 3) sc_covers_of.nd rfl (Or.inl rfl)) (pss_cons (ps_set (i := 4) sc_covers_of.nd rfl (Or.inl rfl) (pe_kcal (ok_before E) (by exact hr) (by first | decide | omega) (by rfl) pass0 (pa_cons (pv 0) (pa_cons (pv 1) (pa_cons (pv 3) pa_nil))) (pk_cons pe_bl pk_nil))) (pss_cons (ps_if (pt_cmpR op_notN (pv 4) pe_non (nomark _)) (pss_cons (ps_expr (pe_bmK (K := K) PySem.F.plainAttrs_list PySem.F.slot_list_append PySem.F.type_list_append mt_append (pv 2) (pa_cons (pe_tup (pa_cons (pv 3) (pa_cons (pv 4) pa_nil))) pa_nil))) pss_nil) pss_nil) pss_nil))) (pss_cons (ps_ret (pv 2)) pss_nil)))), ?_⟩
  have hG : Okc [fS S, (tHouse (He.ga K "House")).f house900 v0, (tT tInt).f state901 v1] S := ⟨Same.refl _, h0, h1, True.intro⟩
  have W : Wd S (([] : Ow) ++ F) H := W
  show (_ : TS) _ ([some v0, some v1, none, none, none] : L2.St) H
  refine k_drop hG W hm (sim_call (simA_c (sim_var 1 rfl rfl) (simA_one (sim_var 2 rfl rfl)))) ?_
  clear hG W hm
  intro z905 S H hG W hm
  refine k_setO hG W hm (simF_lst (T := (tP tInt (tT tInt))) simA_ln0) ?_
  clear hG W hm
  intro pairs906 p908 c909 S H hG W hm
  refine k_fold (σJ := (fun (bx912 : (List (Int × (List Int)))) (wx912 : List Cell × Option V × Option V) => ([some v0, some v1, some (.ref p908), wx912.2.1, wx912.2.2] : L2.St))) (OJ := (fun (bx912 : (List (Int × (List Int)))) (wx912 : List Cell × Option V × Option V) => ([wx912.1] : Ow))) (Fb := (fun (bx912 : (List (Int × (List Int)))) (wx912 : List Cell × Option V × Option V) => ([(oL (tP tInt (tT tInt))).f bx912 p908 (wx912.1)] : List Fact))) (σT := (fun b w (tx912 : V) => ((fun (bx912 : (List (Int × (List Int)))) (wx912 : List Cell × Option V × Option V) => ([some v0, some v1, some (.ref p908), wx912.2.1, wx912.2.2] : L2.St)) b w).set 3 (some tx912))) ((c909, (none), (none)) : List Cell × Option V × Option V) hG W hm (simI_range1 (sim_fld (house_fld E.cl_House (E.na_House_count) (fun _ _ _ h => h.count)) (sim_var 2 rfl rfl))) (fun b w => tg_name) (fun b w => List.nil_sublist _) rfl rfl (fun S h => (Okc.cons (Okc.at 0 rfl h) h)) ?_ ?_
  · clear hG W hm
    intro S1 y913 bx912 b' wx912 tx912 S H hm hG W N hN
    refine k_set hG W hm (sim_callK (ext := (fun (a : HouseD × (List Int) × Int) (b : Bool) => (a.1, (a.2.1, (a.2.2, b))))) (f := (fun (a : HouseD × (List Int) × Int × Bool) => m_before a.1 a.2.1 a.2.2.1 a.2.2.2)) (fun a vs S h => ln_c h (fun a vs S h => ln_c h (fun a vs S h => ln_one h))) (fun a vs S h => ln_one h) (fun a b vs zs S h r => (ap_c h fun ws h => (ap_c h fun ws h => (ap_one h r)))) (simA_c (sim_var 5 rfl rfl) (simA_c (sim_var 6 rfl rfl) (simA_one (sim_var 0 rfl rfl)))) (simA_one sim_bl)) ?_
    clear hG W hm
    intro other921 v922 S H hG W hm
    refine k_if hG W hm (simT_test (sim_notN (sim_var 0 rfl rfl) sim_non)) ?_ ?_
    · clear hG W hm
      intro S H hG W hm
      refine k_app hG W hm 0 2 rfl rfl rfl (sim_pair (sim_var 1 rfl rfl) (sim_unO (sim_var 0 rfl rfl))) ?_
      clear hG W hm
      intro y929 c931 S H hG W hm
      revert hG hm; generalize (bx912 ++ [y929]) = pairs930; intro hG hm
      refine y_next ?_
      cases hm
      refine y_next ?_
      exact hN (c931, (some (tx912)), (some (v922))) _ _ (Okc.cons (Okc.at 0 rfl hG) (Okc.dr 4 hG)) (W.pick [0] rfl)
    · clear hG W hm
      intro S H hG W hm
      refine y_next ?_
      cases hm
      refine y_next ?_
      exact hN (wx912.1, (some (tx912)), (some (v922))) _ _ (Okc.cons (Okc.at 2 rfl hG) (Okc.dr 3 hG)) (W.pick [0] rfl)
  · clear hG W hm
    intro bx912 wx912 S H hm hG W
    refine k_frz hG W frz_L 0 0 rfl rfl ?_
    clear hG W
    intro S hG W
    exact k_ret hG W hm (sim_var 0 rfl rfl) (fun v S H hG W hr => k v S H (Okc.at 3 rfl hG) (W.pick [] rfl) hr)
theorem sc_is_cover : FnScope ["house", "source", "target", "lamp"] ["house", "source", "target"] (defScope (top 60)) := ⟨rfl, rfl, rfl, by decide +kernel, rfl, by decide +kernel, by decide +kernel⟩
theorem ok_is_cover (E : EnvF K mg) : Cal CX0 P w K mg base 5 "is_cover" (spP (TyA.c (tHouse (He.ga K "House")) (TyA.c (tT tInt) (TyA.one (tT tInt)))) (fun a => m_is_cover a.1 a.2.1 a.2.2) tBool) := by
  refine cal_mk (k := 4) E.d_is_cover sc_is_cover (fun vs H Q E h => by obtain ⟨S, F, a, r, ⟨_, _, rfl, _, ⟨_, _, rfl, _, ⟨_, rfl, _⟩⟩⟩, _⟩ := h; rfl) (fun _ _ _ _ _ _ us hl => match us, hl with | [_, _, _], _ => rfl) ?_
  rintro f cdv A outer s H vs Q EX hr ⟨S, F, ⟨house932, source933, target934⟩, out, ⟨v0, _, rfl, h0, ⟨v1, _, rfl, h1, ⟨v2, rfl, h2⟩⟩⟩, W, hm, k⟩
  refine ⟨_, PSs.nox (pss_cons (ps_expr (pe_cal (ok_need_state E) (by exact hr) (by first | decide | omega) (by rfl) pass0 (pa_cons (pv 0) (pa_cons (pv 1) pa_nil)))) (pss_cons (ps_expr (pe_cal (ok_need_state E) (by exact hr) (by first | decide | omega) (by rfl) pass0 (pa_cons (pv 0) (pa_cons (pv 2) pa_nil)))) (pss_cons (ps_for PassesOwn.never rfl (pi_listK (K := K) (pe_kcal (ok_allowed_lamps E) (by exact hr) (by first | decide | omega) (by rfl) pass0 (pa_cons (pv 0) (pa_cons (pv 1) pa_nil)) (pk_cons pe_bl pk_nil))) (pg_name (i := 3) sc_is_cover.nd rfl (Or.inl rfl)) (pss_cons (ps_if (pt_cmpR (op_eqDK (K := K) (by exact hu64 hr)) (pe_cal (ok_moved E) (by exact hr) (by first | decide | omega) (by rfl) pass0 (pa_cons (pv 0) (pa_cons (pv 1) (pa_cons (pv 3) pa_nil)))) (pv 2) (nomark _)) (pss_cons (ps_ret pe_bl) pss_nil) pss_nil) pss_nil)) (pss_cons (ps_ret pe_bl) pss_nil)))), ?_⟩
  have hG : Okc [fS S, (tHouse (He.ga K "House")).f house932 v0, (tT tInt).f source933 v1, (tT tInt).f target934 v2] S := ⟨Same.refl _, h0, h1, h2, True.intro⟩
  have W : Wd S (([] : Ow) ++ F) H := W
  show (_ : TS) _ ([some v0, some v1, some v2, none] : L2.St) H
  refine k_drop hG W hm (sim_call (simA_c (sim_var 1 rfl rfl) (simA_one (sim_var 2 rfl rfl)))) ?_
  clear hG W hm
  intro z938 S H hG W hm
  refine k_drop hG W hm (sim_call (simA_c (sim_var 1 rfl rfl) (simA_one (sim_var 3 rfl rfl)))) ?_
  clear hG W hm
  intro z942 S H hG W hm
  refine k_forK (σJ := (fun (bx947 : Unit) (wx947 : Option V) => ([some v0, some v1, some v2, wx947] : L2.St))) (OJ := (fun (bx947 : Unit) (wx947 : Option V) => ([] : Ow))) (Fb := (fun (bx947 : Unit) (wx947 : Option V) => ([] : List Fact))) (σT := (fun b w (tx947 : V) => ((fun (bx947 : Unit) (wx947 : Option V) => ([some v0, some v1, some v2, wx947] : L2.St)) b w).set 3 (some tx947))) ((none) : Option V) hG W hm (simI_list (sim_callK (ext := (fun (a : HouseD × (List Int)) (b : Bool) => (a.1, (a.2, b)))) (f := (fun (a : HouseD × (List Int) × Bool) => m_allowed_lamps a.1 a.2.1 a.2.2)) (fun a vs S h => ln_c h (fun a vs S h => ln_one h)) (fun a vs S h => ln_one h) (fun a b vs zs S h r => (ap_c h fun ws h => (ap_one h r))) (simA_c (sim_var 1 rfl rfl) (simA_one (sim_var 2 rfl rfl))) (simA_one sim_bl))) (fun b w => tg_name) (fun b w => List.nil_sublist _) rfl rfl (fun S h => h) ?_ ?_
  · clear hG W hm
    intro S1 y948 bx947 wx947 tx947 S H k950 hm hG W Nx947 hNx947 hBx947
    refine k_if hG W hm (simT_test (sim_eqD (sim_call (simA_c (sim_var 3 rfl rfl) (simA_c (sim_var 4 rfl rfl) (simA_one (sim_var 0 rfl rfl))))) (sim_var 5 rfl rfl))) ?_ ?_
    · clear hG W hm
      intro S H hG W hm
      exact k_ret hG W hm sim_bl (fun v S H hG W hr => k v S H (Okc.at 2 rfl hG) (W.pick [] rfl) hr)
    · clear hG W hm
      intro S H hG W hm
      refine y_next ?_
      refine y_next ?_
      exact hNx947 _ (some (tx947)) _ _ hm (Okc.dr 1 hG) (W.pick [] rfl)
  · clear hG W hm
    intro bx947 wx947 S H hm hG W
    exact k_ret hG W hm sim_bl (fun v S H hG W hr => k v S H (Okc.at 0 rfl hG) (W.pick [] rfl) hr)
theorem sc__law_bag : FnScope ["_law_script", "_law_cell"] ["_law_script"] (defScope (top 62)) := ⟨rfl, rfl, rfl, by decide +kernel, rfl, by decide +kernel, by decide +kernel⟩
theorem ok__law_bag (E : EnvF K mg) : Cal CX0 P w K mg base 1 "_law_bag" (spF (TyA.one (tScr K)) (fun a => m__law_bag a) (oRec k_bag A_bag)) := by
  refine cal_mk (k := 0) E.d__law_bag sc__law_bag (fun vs H Q E h => by obtain ⟨S, F, a, r, ⟨_, rfl, _⟩, _⟩ := h; rfl) (fun _ _ _ _ _ _ us hl => match us, hl with | [_], _ => rfl) ?_
  rintro f cdv A outer s H vs Q EX hr ⟨S, F, script960, out, ⟨v0, rfl, h0⟩, W, hm, k⟩
  refine ⟨_, PSs.nox (pss_cons (ps_ret (pe_disp (pps_cons pe_str (pe_lc (own := [("_law_cell", 1)]) rfl sc__law_bag.nd (pi_listK (K := K) (pe_slice (sl_listK (K := K)) (pv 0) po_none (po_some pe_int))) (blkOk_by (N := ["_law_script", "_law_cell"]) (sc := defScope (top 62)) (by decide +kernel)) (fun _ _ _ _ _ => (pg_name (i := 1) sc__law_bag.nd rfl (Or.inl rfl))) (fun _ _ _ _ _ => pts_nil) (fun _ _ _ _ _ => (pe_callB call_abs rfl (by exact E.g_abs) (by decide +kernel) (pa_cons (pv 1) pa_nil)))) (pps_cons pe_str pe_int (pps_cons pe_str pe_int (pps_cons pe_str pe_int (pps_cons pe_str pe_int pps_nil))))) rfl rfl (fun h => nomatch h) (by decide))) pss_nil), ?_⟩
  have hG : Okc [fS S, (tScr K).f script960 v0] S := ⟨Same.refl _, h0, True.intro⟩
  have W : Wd S (([] : Ow) ++ F) H := W
  show (_ : TS) _ ([some v0, none] : L2.St) H
  exact k_retF hG W hm (simF_disp (by decide +kernel) (by decide) (simPs_c (SimF.sim (simF_lc (simI_list (SimF.sim (simF_sliceS (sim_var 1 rfl rfl) simO_no (simO_part sim_int)))) tg_name (fun _ => rfl) (List.nil_sublist _) (fun a w => simT_yes) (fun a w => (sim_abs (sim_var 0 rfl rfl))))) (simPs_c sim_int (simPs_c sim_int (simPs_c sim_int (simPs_one sim_int)))))) (fun p c S H hG W => k p c S H (Okc.at 1 rfl hG) (W.pick [0] rfl) (Okc.at 0 rfl hG))
theorem sc__law_draw : FnScope ["_law_bag_here", "_law_size", "_law_rest", "_law_turn", "_law_mix", "_law_place", "_law_cell"] ["_law_bag_here", "_law_size"] (defScope (top 63)) := ⟨rfl, rfl, rfl, by decide +kernel, rfl, by decide +kernel, by decide +kernel⟩
theorem ok__law_draw (E : EnvF K mg) : Cal CX0 P w K mg base 1 "_law_draw" (spO 0 (oRec k_bag A_bag) (TyA.one tInt) (fun g a => m__law_draw g a) tInt) := by
  refine cal_mk (k := 0) E.d__law_draw sc__law_draw (fun vs H Q E h => by obtain ⟨S, F, p, c, g, a, r, hn, hA, _⟩ := h; obtain ⟨_, rfl, _⟩ := (spO_vs2_0 hn hA); rfl) (fun _ _ _ _ _ _ us hl => match us, hl with | [_, _], _ => rfl) ?_
  rintro f cdv A outer s H vs Q EX hr ⟨S, F, p0, c0, bag_here976, size977, out, hn, hA, hp0, W, hm, k⟩
  obtain ⟨v1, rfl, h1⟩ := (spO_vs2_0 hn hA)
  refine ⟨_, PSs.nox (pss_cons (ps_set (i := 2) sc__law_draw.nd rfl (Or.inl rfl) (pe_dget (by exact hu_of hr) (pv 0) pe_str (by intro _ _; rfl))) (pss_cons (ps_if (pt_cmpR op_gt (pv 2) pe_int (nomark _)) (pss_cons (ps_dput (by exact hu_of hr) (pv 0) pe_str (pe_op op_fdiv (pv 2) (pv 1)) rfl) (pss_cons (ps_ret (pe_op op_mod (pe_callTy call_int1 rfl (by exact E.g_int) (by decide +kernel) (pa_cons (pv 2) pa_nil)) (pv 1))) pss_nil)) pss_nil) (pss_cons (ps_set (i := 3) sc__law_draw.nd rfl (Or.inl rfl) (pe_op op_add (pe_dget (by exact hu_of hr) (pv 0) pe_str (by intro _ _; rfl)) pe_int)) (pss_cons (ps_dput (by exact hu_of hr) (pv 0) pe_str (pv 3) rfl) (pss_cons (ps_set (i := 4) sc__law_draw.nd rfl (Or.inl rfl) (pe_op op_mod (pe_callTy call_int1 rfl (by exact E.g_int) (by decide +kernel) (pa_cons (pe_op op_add (pe_op op_mul (pe_dget (by exact hu_of hr) (pv 0) pe_str (by intro _ _; rfl)) pe_int) (pe_op op_mul (pv 3) pe_int)) pa_nil)) pe_int)) (pss_cons (ps_set (i := 5) sc__law_draw.nd rfl (Or.inl rfl) (pe_dget (by exact hu_of hr) (pv 0) pe_str (by intro _ _; rfl))) (pss_cons (ps_if (pt_cmpR op_lt (pv 5) (pe_callB (call_lenK (K := K)) rfl (by exact E.g_len) boot_len (pa_cons (pe_dget (by exact hu_of hr) (pv 0) pe_str (by intro _ _; rfl)) pa_nil)) (nomark _)) (pss_cons (ps_set (i := 6) sc__law_draw.nd rfl (Or.inl rfl) (pe_ix (ix_listK (K := K)) (pe_dget (by exact hu_of hr) (pv 0) pe_str (by intro _ _; rfl)) (pv 5) (by intro _ _; rfl))) (pss_cons (ps_dput (by exact hu_of hr) (pv 0) pe_str (pe_op op_add (pv 5) pe_int) rfl) (pss_cons (ps_if (pt_cmpR op_ge (pv 6) (pe_op op_pow pe_int pe_int) (nomark _)) (pss_cons (ps_dput (by exact hu_of hr) (pv 0) pe_str (pv 4) rfl) (pss_cons (ps_dput (by exact hu_of hr) (pv 0) pe_str (pe_op op_fdiv (pv 6) (pv 1)) rfl) (pss_cons (ps_ret (pe_op op_mod (pe_callTy call_int1 rfl (by exact E.g_int) (by decide +kernel) (pa_cons (pv 6) pa_nil)) (pv 1))) pss_nil))) pss_nil) (pss_cons (ps_set (i := 4) sc__law_draw.nd rfl (Or.inl rfl) (pe_op op_mod (pe_callTy call_int1 rfl (by exact E.g_int) (by decide +kernel) (pa_cons (pe_op op_add (pe_op op_add (pv 4) (pe_op op_mul (pv 6) pe_int)) pe_int) pa_nil)) pe_int)) pss_nil)))) pss_nil) (pss_cons (ps_dput (by exact hu_of hr) (pv 0) pe_str (pv 4) rfl) (pss_cons (ps_ret (pe_op op_mod (pe_op op_fdiv (pe_op op_mod (pe_callTy call_int1 rfl (by exact E.g_int) (by decide +kernel) (pa_cons (pe_op op_mul (pv 4) pe_int) pa_nil)) pe_int) pe_int) (pv 1))) pss_nil))))))))), ?_⟩
  have hG : Okc [fS S, (oRec k_bag A_bag).f bag_here976 p0 c0, tInt.f size977 v1] S := ⟨Same.refl _, hp0, h1, True.intro⟩
  have W : Wd S ([c0] ++ F) H := W
  show (_ : TS) _ ([some (.ref p0), some v1, none, none, none, none, none] : L2.St) H
  refine k_set hG W hm (sim_get (pj_s (pj_s pj_0)) rfl (sim_own 0 1 rfl rfl rfl)) ?_
  clear hG W hm
  intro rest979 v980 S H hG W hm
  refine k_if hG W hm (simT_test (sim_gt (sim_var 0 rfl rfl) sim_int)) ?_ ?_
  · clear hG W hm
    intro S H hG W hm
    refine k_rput (g := fun a x => (a.1, (a.2.1, (x, a.2.2.2)))) (a := bag_here976) hG W hm 0 2 rfl rfl rfl (st_s (st_s st_0)) rfl (by show _ < (2 ^ 24 : Nat); decide) (sim_div (sim_var 0 rfl rfl) (sim_var 3 rfl rfl)) ?_
    clear hG W hm
    intro y986 c988 S H hG W hm
    revert hG hm; generalize (((bag_here976.1, (bag_here976.2.1, (y986, bag_here976.2.2.2)))) : R_bag) = bag_here987; intro hG hm
    refine e_ret ?_
    refine c_pure hG W hm (sim_mod (sim_intI (sim_var 1 rfl rfl)) (sim_var 4 rfl rfl)) ?_
    clear hG W hm
    intro r991 v S H hG W hm
    cases hm
    exact k _ _ _ _ (Okc.at 3 rfl hG) (W.pick [0] rfl) (Okc.at 1 rfl hG) (Okc.at 0 rfl hG)
  · clear hG W hm
    intro S H hG W hm
    refine y_next ?_
    refine k_set hG W hm (sim_add (sim_get (pj_s (pj_s (pj_s pj_0))) rfl (sim_own 0 2 rfl rfl rfl)) sim_int) ?_
    clear hG W hm
    intro turn995 v996 S H hG W hm
    refine k_rput (g := fun a x => (a.1, (a.2.1, (a.2.2.1, (x, a.2.2.2.2))))) (a := bag_here976) hG W hm 0 3 rfl rfl rfl (st_s (st_s (st_s st_0))) rfl (by show _ < (2 ^ 24 : Nat); decide) (sim_var 0 rfl rfl) ?_
    clear hG W hm
    intro y997 c999 S H hG W hm
    revert hG hm; generalize (((bag_here976.1, (bag_here976.2.1, (bag_here976.2.2.1, (y997, bag_here976.2.2.2.2))))) : R_bag) = bag_here998; intro hG hm
    refine k_set hG W hm (sim_mod (sim_intI (sim_add (sim_mulS (sim_get (pj_s (pj_s (pj_s (pj_s pj_one)))) rfl (sim_own 0 0 rfl rfl rfl)) sim_int) (sim_mulS (sim_var 1 rfl rfl) sim_int))) sim_int) ?_
    clear hG W hm
    intro mix1009 v1010 S H hG W hm
    refine k_set hG W hm (sim_get (pj_s pj_0) rfl (sim_own 0 1 rfl rfl rfl)) ?_
    clear hG W hm
    intro place1012 v1013 S H hG W hm
    refine y_join (σJ := (fun (bx1015 : R_bag × Int) (wx1015 : List Cell × V × Option V) => ([some (.ref p0), some v1, some (v980), some (v996), some (wx1015.2.1), some (v1013), wx1015.2.2] : L2.St))) (OJ := (fun (bx1015 : R_bag × Int) (wx1015 : List Cell × V × Option V) => ([wx1015.1] : Ow))) (Fb := (fun (bx1015 : R_bag × Int) (wx1015 : List Cell × V × Option V) => ([(oRec k_bag A_bag).f bx1015.1 p0 (wx1015.1), tInt.f bx1015.2 (wx1015.2.1)] : List Fact))) hG W hm ?_ ?_
    · clear hG W hm
      intro bx1015 wx1015 S H hm hG W
      refine k_rput (g := fun a x => (a.1, (a.2.1, (a.2.2.1, (a.2.2.2.1, x))))) (a := bx1015.1) hG W hm 0 0 rfl rfl rfl (st_s (st_s (st_s (st_s st_one)))) rfl (by show _ < (2 ^ 24 : Nat); decide) (sim_var 1 rfl rfl) ?_
      clear hG W hm
      intro y1018 c1020 S H hG W hm
      revert hG hm; generalize (((bx1015.1.1, (bx1015.1.2.1, (bx1015.1.2.2.1, (bx1015.1.2.2.2.1, y1018))))) : R_bag) = bag_here1019; intro hG hm
      refine e_ret ?_
      refine c_pure hG W hm (sim_mod (sim_div (sim_mod (sim_intI (sim_mulS (sim_var 2 rfl rfl) sim_int)) sim_int) sim_int) (sim_var 10 rfl rfl)) ?_
      clear hG W hm
      intro r1029 v S H hG W hm
      cases hm
      exact k _ _ _ _ (Okc.at 9 rfl hG) (W.pick [0] rfl) (Okc.at 1 rfl hG) (Okc.at 0 rfl hG)
    · clear hm
      intro nxt1017 hm
      refine k_if hG W hm (simT_test (sim_lt (sim_var 0 rfl rfl) (sim_len (sim_get pj_0 rfl (sim_own 0 2 rfl rfl rfl))))) ?_ ?_
      · clear hG W hm
        intro S H hG W hm
        refine k_set hG W hm (sim_ix (sim_get pj_0 rfl (sim_own 0 2 rfl rfl rfl)) (sim_var 0 rfl rfl)) ?_
        clear hG W hm
        intro cell1037 v1038 S H hG W hm
        refine k_rput (g := fun a x => (a.1, (x, a.2.2))) (a := bag_here998) hG W hm 0 3 rfl rfl rfl (st_s st_0) rfl (by show _ < (2 ^ 24 : Nat); decide) (sim_add (sim_var 1 rfl rfl) sim_int) ?_
        clear hG W hm
        intro y1041 c1043 S H hG W hm
        revert hG hm; generalize (((bag_here998.1, (y1041, bag_here998.2.2))) : R_bag) = bag_here1042; intro hG hm
        refine k_if hG W hm (simT_test (sim_ge (sim_var 1 rfl rfl) (sim_pow sim_int sim_int))) ?_ ?_
        · clear hG W hm
          intro S H hG W hm
          refine k_rput (g := fun a x => (a.1, (a.2.1, (a.2.2.1, (a.2.2.2.1, x))))) (a := bag_here1042) hG W hm 0 0 rfl rfl rfl (st_s (st_s (st_s (st_s st_one)))) rfl (by show _ < (2 ^ 24 : Nat); decide) (sim_var 3 rfl rfl) ?_
          clear hG W hm
          intro y1049 c1051 S H hG W hm
          revert hG hm; generalize (((bag_here1042.1, (bag_here1042.2.1, (bag_here1042.2.2.1, (bag_here1042.2.2.2.1, y1049))))) : R_bag) = bag_here1050; intro hG hm
          refine k_rput (g := fun a x => (a.1, (a.2.1, (x, a.2.2.2)))) (a := bag_here1050) hG W hm 0 0 rfl rfl rfl (st_s (st_s st_0)) rfl (by show _ < (2 ^ 24 : Nat); decide) (sim_div (sim_var 2 rfl rfl) (sim_var 10 rfl rfl)) ?_
          clear hG W hm
          intro y1054 c1056 S H hG W hm
          revert hG hm; generalize (((bag_here1050.1, (bag_here1050.2.1, (y1054, bag_here1050.2.2.2)))) : R_bag) = bag_here1055; intro hG hm
          refine e_ret ?_
          refine c_pure hG W hm (sim_mod (sim_intI (sim_var 3 rfl rfl)) (sim_var 11 rfl rfl)) ?_
          clear hG W hm
          intro r1059 v S H hG W hm
          cases hm
          exact k _ _ _ _ (Okc.at 10 rfl hG) (W.pick [0] rfl) (Okc.at 1 rfl hG) (Okc.at 0 rfl hG)
        · clear hG W hm
          intro S H hG W hm
          refine y_next ?_
          refine k_set hG W hm (sim_mod (sim_intI (sim_add (sim_add (sim_var 3 rfl rfl) (sim_mulS (sim_var 1 rfl rfl) sim_int)) sim_int)) sim_int) ?_
          clear hG W hm
          intro mix1068 v1069 S H hG W hm
          refine y_next ?_
          exact nxt1017 _ (c1043, v1069, (some (v1038))) _ _ hm (Okc.cons (Okc.at 1 rfl hG) (Okc.cons (Okc.at 0 rfl hG) (Okc.dr 3 hG))) (W.pick [0] rfl)
      · clear hG W hm
        intro S H hG W hm
        refine y_next ?_
        exact nxt1017 _ (c999, v1010, (none)) _ _ hm (Okc.cons (Okc.at 2 rfl hG) (Okc.cons (Okc.at 1 rfl hG) (Okc.dr 0 hG))) (W.pick [0] rfl)
theorem sc__law_shuffled : FnScope ["_law_bag_here", "_law_count_here", "_law_lamps", "_law_line", "_law_k"] ["_law_bag_here", "_law_count_here"] (defScope (top 64)) := ⟨rfl, rfl, rfl, by decide +kernel, rfl, by decide +kernel, by decide +kernel⟩
theorem ok__law_shuffled (E : EnvF K mg) : Cal CX0 P w K mg base 2 "_law_shuffled" (spO 0 (oRec k_bag A_bag) (TyA.one tInt) (fun g a => m__law_shuffled g a) (tL tInt)) := by
  refine cal_mk (k := 1) E.d__law_shuffled sc__law_shuffled (fun vs H Q E h => by obtain ⟨S, F, p, c, g, a, r, hn, hA, _⟩ := h; obtain ⟨_, rfl, _⟩ := (spO_vs2_0 hn hA); rfl) (fun _ _ _ _ _ _ us hl => match us, hl with | [_, _], _ => rfl) ?_
  rintro f cdv A outer s H vs Q EX hr ⟨S, F, p0, c0, bag_here1070, count_here1071, out, hn, hA, hp0, W, hm, k⟩
  obtain ⟨v1, rfl, h1⟩ := (spO_vs2_0 hn hA)
  refine ⟨_, PSs.nox (pss_cons (ps_set (i := 2) sc__law_shuffled.nd rfl (Or.inl rfl) (pe_listRg rfl rfl (by exact E.g_list) (prg_1 rfl (by exact E.g_range) (pv 1)))) (pss_cons (ps_set (i := 3) sc__law_shuffled.nd rfl (Or.inl rfl) (pe_lst pa_nil)) (pss_cons (ps_for PassesOwn.never rfl (pi_range1 rfl (by exact E.g_range) (pa_cons (pv 1) pa_nil)) (pg_name (i := 4) sc__law_shuffled.nd rfl (Or.inl rfl)) (pss_cons (ps_expr (pe_bmK (K := K) PySem.F.plainAttrs_list PySem.F.slot_list_append PySem.F.type_list_append mt_append (pv 3) (pa_cons (pe_bmK (K := K) PySem.F.plainAttrs_list PySem.F.slot_list_pop PySem.F.type_list_pop mt_popAt (pv 2) (pa_cons (pe_cal (ok__law_draw E) (by exact hr) (by first | decide | omega) (by rfl) pass0 (pa_cons (pv 0) (pa_cons (pe_callB (call_lenK (K := K)) rfl (by exact E.g_len) boot_len (pa_cons (pv 2) pa_nil)) pa_nil))) pa_nil)) pa_nil))) pss_nil)) (pss_cons (ps_ret (pv 3)) pss_nil)))), ?_⟩
  have hG : Okc [fS S, (oRec k_bag A_bag).f bag_here1070 p0 c0, tInt.f count_here1071 v1] S := ⟨Same.refl _, hp0, h1, True.intro⟩
  have W : Wd S ([c0] ++ F) H := W
  show (_ : TS) _ ([some (.ref p0), some v1, none, none, none] : L2.St) H
  refine k_setO hG W hm (simF_lrange1 (sim_var 2 rfl rfl)) ?_
  clear hG W hm
  intro lamps1073 p1075 c1076 S H hG W hm
  refine k_setO hG W hm (simF_lst (T := tInt) simA_ln0) ?_
  clear hG W hm
  intro line1077 p1079 c1080 S H hG W hm
  refine k_fold (σJ := (fun (bx1082 : R_bag × (List Int) × (List Int)) (wx1082 : List Cell × List Cell × List Cell × Option V) => ([some (.ref p0), some v1, some (.ref p1075), some (.ref p1079), wx1082.2.2.2] : L2.St))) (OJ := (fun (bx1082 : R_bag × (List Int) × (List Int)) (wx1082 : List Cell × List Cell × List Cell × Option V) => ([wx1082.2.2.1, wx1082.2.1, wx1082.1] : Ow))) (Fb := (fun (bx1082 : R_bag × (List Int) × (List Int)) (wx1082 : List Cell × List Cell × List Cell × Option V) => ([(oRec k_bag A_bag).f bx1082.1 p0 (wx1082.1), (oL tInt).f bx1082.2.1 p1075 (wx1082.2.1), (oL tInt).f bx1082.2.2 p1079 (wx1082.2.2.1)] : List Fact))) (σT := (fun b w (tx1082 : V) => ((fun (bx1082 : R_bag × (List Int) × (List Int)) (wx1082 : List Cell × List Cell × List Cell × Option V) => ([some (.ref p0), some v1, some (.ref p1075), some (.ref p1079), wx1082.2.2.2] : L2.St)) b w).set 4 (some tx1082))) ((c0, c1076, c1080, (none)) : List Cell × List Cell × List Cell × Option V) hG W hm (simI_range1 (sim_var 4 rfl rfl)) (fun b w => tg_name) (fun b w => List.nil_sublist _) rfl rfl (fun S h => (Okc.cons (Okc.at 3 rfl h) (Okc.cons (Okc.at 1 rfl h) (Okc.cons (Okc.at 0 rfl h) h)))) ?_ ?_
  · clear hG W hm
    intro S1 y1083 bx1082 b' wx1082 tx1082 S H hm hG W N hN
    refine e_drop ?_
    refine e_bm ?_
    refine c_ref rfl ?_
    refine ⟨ty_list hG W 0 3 rfl rfl, ?_⟩
    refine e_cons ?_
    refine e_bm ?_
    refine c_ref rfl ?_
    refine ⟨ty_list hG W 1 2 rfl rfl, ?_⟩
    refine e_cons ?_
    refine e_call ?_
    refine e_cons ?_
    refine c_ref rfl ?_
    refine e_cons ?_
    refine c_pure hG W hm (sim_len (sim_own 1 2 rfl rfl rfl)) ?_
    clear hG W hm
    intro x1086 v1087 S H hG W hm
    refine e_nil ?_
    refine v_callO (g := bx1082.1) (a := x1086) hG W hm 2 2 rfl rfl rfl (fun S h => (ra_one (Okc.at 0 rfl h))) ?_
    clear hG W hm
    intro r1088 v1089 c1090 S H hG W hm
    refine e_nil ?_
    refine v_popAt hG W hm 1 5 0 rfl rfl rfl ?_
    clear hG W hm
    intro r1091 v1092 c1093 S H hG W hm
    refine e_nil ?_
    refine v_app hG W hm 0 8 0 rfl rfl rfl ?_
    clear hG W hm
    intro c1095 S H hG W hm
    revert hG hm; generalize (bx1082.2.2 ++ [r1091.1]) = line1094; intro hG hm
    cases hm
    refine y_next ?_
    exact hN (c1090, c1093, c1095, (some (tx1082))) _ _ (Okc.cons (Okc.at 4 rfl hG) (Okc.cons (Okc.at 2 rfl hG) (Okc.cons (Okc.at 0 rfl hG) (Okc.dr 10 hG)))) (W.pick [0, 0, 0] rfl)
  · clear hG W hm
    intro bx1082 wx1082 S H hm hG W
    refine k_frz hG W frz_L 0 2 rfl rfl ?_
    clear hG W
    intro S hG W
    refine e_ret ?_
    refine c_pure hG W hm (sim_var 0 rfl rfl) ?_
    clear hG W hm
    intro r1096 v S H hG W hm
    cases hm
    exact k _ _ _ _ (Okc.at 7 rfl hG) (W.pick [1] rfl) (Okc.at 2 rfl hG) (Okc.at 0 rfl hG)
theorem sc__law_wired : FnScope ["_law_bag_here", "_law_shape", "_law_split", "_law_parent", "_law_high", "_law_low"] ["_law_bag_here", "_law_shape", "_law_split", "_law_parent", "_law_high", "_law_low"] (defScope (top 65)) := ⟨rfl, rfl, rfl, by decide +kernel, rfl, by decide +kernel, by decide +kernel⟩
theorem ok__law_wired (E : EnvF K mg) : Cal CX0 P w K mg base 2 "_law_wired" (spO 0 (oRec k_bag A_bag) (TyA.c tInt (TyA.c tInt (TyA.c tInt (TyA.c tInt (TyA.one tInt))))) (fun g a => m__law_wired g a.1 a.2.1 a.2.2.1 a.2.2.2.1 a.2.2.2.2) tBool) := by
  refine cal_mk (k := 1) E.d__law_wired sc__law_wired (fun vs H Q E h => by obtain ⟨S, F, p, c, g, a, r, hn, hA, _⟩ := h; obtain ⟨_, _, _, _, _, rfl, _⟩ := (spO_vs6_0 hn hA); rfl) (fun _ _ _ _ _ _ us hl => match us, hl with | [_, _, _, _, _, _], _ => rfl) ?_
  rintro f cdv A outer s H vs Q EX hr ⟨S, F, p0, c0, bag_here1097, ⟨shape1098, split1099, parent1100, high1101, low1102⟩, out, hn, hA, hp0, W, hm, k⟩
  obtain ⟨v1, v2, v3, v4, v5, rfl, h1, h2, h3, h4, h5⟩ := (spO_vs6_0 hn hA)
  refine ⟨_, PSs.nox (pss_cons (ps_if (pt_cmpR op_lt (pv 1) pe_int (nomark _)) (pss_cons (ps_ret (pe_cmpR op_eq (pe_cal (ok__law_draw E) (by exact hr) (by first | decide | omega) (by rfl) pass0 (pa_cons (pv 0) (pa_cons (pe_op op_add pe_int (pe_op op_mul pe_int (pv 1))) pa_nil))) pe_int (nomark _))) pss_nil) pss_nil) (pss_cons (ps_if (pt_cmpR op_eq (pv 1) pe_int (nomark _)) (pss_cons (ps_ret (pe_cmpR op_eq (pv 4) (pe_op op_sub (pv 5) pe_int) (nomark _))) pss_nil) pss_nil) (pss_cons (ps_if (pt_cmpR op_eq (pv 1) pe_int (nomark _)) (pss_cons (ps_ret (pe_cmpR op_eq (pv 4) (pv 3) (nomark _))) pss_nil) pss_nil) (pss_cons (ps_ret (pe_and (pe_cmpR op_eq (pv 1) pe_int (nomark _)) (pe_and (pe_cmpR op_lt (pv 4) (pv 2) (nomark _)) (pe_one (pe_cmpR op_le (pv 2) (pv 5) (nomark _)))))) pss_nil)))), ?_⟩
  have hG : Okc [fS S, (oRec k_bag A_bag).f bag_here1097 p0 c0, tInt.f shape1098 v1, tInt.f split1099 v2, tInt.f parent1100 v3, tInt.f high1101 v4, tInt.f low1102 v5] S := ⟨Same.refl _, hp0, h1, h2, h3, h4, h5, True.intro⟩
  have W : Wd S ([c0] ++ F) H := W
  show (_ : TS) _ ([some (.ref p0), some v1, some v2, some v3, some v4, some v5] : L2.St) H
  refine k_if hG W hm (simT_test (sim_lt (sim_var 2 rfl rfl) sim_int)) ?_ ?_
  · clear hG W hm
    intro S H hG W hm
    refine e_ret ?_
    refine e_op ?_
    refine e_call ?_
    refine e_cons ?_
    refine c_ref rfl ?_
    refine e_cons ?_
    refine c_pure hG W hm (sim_add sim_int (sim_mulS sim_int (sim_var 2 rfl rfl))) ?_
    clear hG W hm
    intro x1110 v1111 S H hG W hm
    refine e_nil ?_
    refine v_callO (g := bag_here1097) (a := x1110) hG W hm 0 2 rfl rfl rfl (fun S h => (ra_one (Okc.at 0 rfl h))) ?_
    clear hG W hm
    intro r1112 v1113 c1114 S H hG W hm
    refine c_pure hG W hm sim_int ?_
    clear hG W hm
    intro x1115 v1116 S H hG W hm
    refine x_op (σ := ([] : L2.St)) ?_
    refine c_pure hG W hm (sim_eqI (sim_K 1 rfl) (sim_K 0 rfl)) ?_
    clear hG W hm
    intro x1119 v1120 S H hG W hm
    cases hm
    exact k _ _ _ _ (Okc.at 5 rfl hG) (W.pick [0] rfl) (Okc.at 3 rfl hG) (Okc.at 0 rfl hG)
  · clear hG W hm
    intro S H hG W hm
    refine y_next ?_
    refine k_if hG W hm (simT_test (sim_eqI (sim_var 2 rfl rfl) sim_int)) ?_ ?_
    · clear hG W hm
      intro S H hG W hm
      refine e_ret ?_
      refine c_pure hG W hm (sim_eqI (sim_var 5 rfl rfl) (sim_sub (sim_var 6 rfl rfl) sim_int)) ?_
      clear hG W hm
      intro r1128 v S H hG W hm
      cases hm
      exact k _ _ _ _ (Okc.at 1 rfl hG) (W.pick [0] rfl) (Okc.at 2 rfl hG) (Okc.at 0 rfl hG)
    · clear hG W hm
      intro S H hG W hm
      refine y_next ?_
      refine k_if hG W hm (simT_test (sim_eqI (sim_var 2 rfl rfl) sim_int)) ?_ ?_
      · clear hG W hm
        intro S H hG W hm
        refine e_ret ?_
        refine c_pure hG W hm (sim_eqI (sim_var 5 rfl rfl) (sim_var 4 rfl rfl)) ?_
        clear hG W hm
        intro r1134 v S H hG W hm
        cases hm
        exact k _ _ _ _ (Okc.at 1 rfl hG) (W.pick [0] rfl) (Okc.at 2 rfl hG) (Okc.at 0 rfl hG)
      · clear hG W hm
        intro S H hG W hm
        refine y_next ?_
        refine e_ret ?_
        refine c_pure hG W hm (sim_andV (sim_eqI (sim_var 2 rfl rfl) sim_int) (sim_andV (sim_lt (sim_var 5 rfl rfl) (sim_var 3 rfl rfl)) (sim_le (sim_var 3 rfl rfl) (sim_var 6 rfl rfl)))) ?_
        clear hG W hm
        intro r1143 v S H hG W hm
        cases hm
        exact k _ _ _ _ (Okc.at 1 rfl hG) (W.pick [0] rfl) (Okc.at 2 rfl hG) (Okc.at 0 rfl hG)
theorem sc__law_wires : FnScope ["_law_bag_here", "_law_line", "_law_shape", "_law_split", "_law_wires_here", "_law_low", "_law_parent", "_law_high"] ["_law_bag_here", "_law_line"] (defScope (top 66)) := ⟨rfl, rfl, rfl, by decide +kernel, rfl, by decide +kernel, by decide +kernel⟩
theorem ok__law_wires (E : EnvF K mg) : Cal CX0 P w K mg base 3 "_law_wires" (spO 0 (oRec k_bag A_bag) (TyA.one (tL tInt)) (fun g a => m__law_wires g a) (tL (tP tInt tInt))) := by
  refine cal_mk (k := 2) E.d__law_wires sc__law_wires (fun vs H Q E h => by obtain ⟨S, F, p, c, g, a, r, hn, hA, _⟩ := h; obtain ⟨_, rfl, _⟩ := (spO_vs2_0 hn hA); rfl) (fun _ _ _ _ _ _ us hl => match us, hl with | [_, _], _ => rfl) ?_
  rintro f cdv A outer s H vs Q EX hr ⟨S, F, p0, c0, bag_here1144, line1145, out, hn, hA, hp0, W, hm, k⟩
  obtain ⟨v1, rfl, h1⟩ := (spO_vs2_0 hn hA)
  refine ⟨_, PSs.nox (pss_cons (ps_set (i := 2) sc__law_wires.nd rfl (Or.inl rfl) (pe_ix (ix_listK (K := K)) (pe_lst (pa_cons pe_int (pa_cons pe_int (pa_cons pe_int (pa_cons pe_int (pa_cons pe_int (pa_cons pe_int (pa_cons pe_int (pa_cons pe_int (pa_cons pe_int (pa_cons pe_int (pa_cons pe_int (pa_cons pe_int pa_nil))))))))))))) (pe_cal (ok__law_draw E) (by exact hr) (by first | decide | omega) (by rfl) pass0 (pa_cons (pv 0) (pa_cons pe_int pa_nil))) (by intro _ _; rfl))) (pss_cons (ps_set (i := 3) sc__law_wires.nd rfl (Or.inl rfl) (pe_op op_add pe_int (pe_cal (ok__law_draw E) (by exact hr) (by first | decide | omega) (by rfl) pass0 (pa_cons (pv 0) (pa_cons (pe_callB (call_lenK (K := K)) rfl (by exact E.g_len) boot_len (pa_cons (pv 1) pa_nil)) pa_nil))))) (pss_cons (ps_set (i := 4) sc__law_wires.nd rfl (Or.inl rfl) (pe_lst pa_nil)) (pss_cons (ps_for PassesOwn.never rfl (pi_range2 rfl (by exact E.g_range) (pa_cons pe_int (pa_cons (pe_callB (call_lenK (K := K)) rfl (by exact E.g_len) boot_len (pa_cons (pv 1) pa_nil)) pa_nil))) (pg_name (i := 5) sc__law_wires.nd rfl (Or.inl rfl)) (pss_cons (ps_set (i := 6) sc__law_wires.nd rfl (Or.inl rfl) (pe_cal (ok__law_draw E) (by exact hr) (by first | decide | omega) (by rfl) pass0 (pa_cons (pv 0) (pa_cons (pv 5) pa_nil)))) (pss_cons (ps_for PassesOwn.never rfl (pi_range1 rfl (by exact E.g_range) (pa_cons (pv 5) pa_nil)) (pg_name (i := 7) sc__law_wires.nd rfl (Or.inl rfl)) (pss_cons (ps_if (pt_val (pe_cal (ok__law_wired E) (by exact hr) (by first | decide | omega) (by rfl) pass0 (pa_cons (pv 0) (pa_cons (pv 2) (pa_cons (pv 3) (pa_cons (pv 6) (pa_cons (pv 7) (pa_cons (pv 5) pa_nil)))))))) (pss_cons (ps_expr (pe_bmK (K := K) PySem.F.plainAttrs_list PySem.F.slot_list_append PySem.F.type_list_append mt_append (pv 4) (pa_cons (pe_tup (pa_cons (pe_ix (ix_listK (K := K)) (pv 1) (pv 7) (by intro _ _; rfl)) (pa_cons (pe_ix (ix_listK (K := K)) (pv 1) (pv 5) (by intro _ _; rfl)) pa_nil))) pa_nil))) pss_nil) pss_nil) pss_nil)) pss_nil))) (pss_cons (ps_if (pt_cmpR op_eq (pe_cal (ok__law_draw E) (by exact hr) (by first | decide | omega) (by rfl) pass0 (pa_cons (pv 0) (pa_cons pe_int pa_nil))) pe_int (nomark _)) (pss_cons (ps_set (i := 4) sc__law_wires.nd rfl (Or.inl rfl) (pe_revLK (K := K) (pv 4))) pss_nil) pss_nil) (pss_cons (ps_ret (pv 4)) pss_nil)))))), ?_⟩
  have hG : Okc [fS S, (oRec k_bag A_bag).f bag_here1144 p0 c0, (tL tInt).f line1145 v1] S := ⟨Same.refl _, hp0, h1, True.intro⟩
  have W : Wd S ([c0] ++ F) H := W
  show (_ : TS) _ ([some (.ref p0), some v1, none, none, none, none, none, none] : L2.St) H
  refine e_set ?_
  refine e_op ?_
  refine c_pure hG W hm (SimF.sim (simF_lst (simA_ln sim_int (simA_ln sim_int (simA_ln sim_int (simA_ln sim_int (simA_ln sim_int (simA_ln sim_int (simA_ln sim_int (simA_ln sim_int (simA_ln sim_int (simA_ln sim_int (simA_ln sim_int (simA_ln sim_int simA_ln0)))))))))))))) ?_
  clear hG W hm
  intro x1170 v1171 S H hG W hm
  refine e_call ?_
  refine e_cons ?_
  refine c_ref rfl ?_
  refine e_cons ?_
  refine c_pure hG W hm sim_int ?_
  clear hG W hm
  intro x1172 v1173 S H hG W hm
  refine e_nil ?_
  refine v_callO (g := bag_here1144) (a := x1172) hG W hm 0 3 rfl rfl rfl (fun S h => (ra_one (Okc.at 0 rfl h))) ?_
  clear hG W hm
  intro r1174 v1175 c1176 S H hG W hm
  refine x_op (σ := ([] : L2.St)) ?_
  refine c_pure hG W hm (sim_ix (sim_K 3 rfl) (sim_K 0 rfl)) ?_
  clear hG W hm
  intro x1179 v1180 S H hG W hm
  refine e_set ?_
  refine e_op ?_
  refine c_pure hG W hm sim_int ?_
  clear hG W hm
  intro x1181 v1182 S H hG W hm
  refine e_call ?_
  refine e_cons ?_
  refine c_ref rfl ?_
  refine e_cons ?_
  refine c_pure hG W hm (sim_len (sim_var 8 rfl rfl)) ?_
  clear hG W hm
  intro x1184 v1185 S H hG W hm
  refine e_nil ?_
  refine v_callO (g := r1174.2) (a := x1184) hG W hm 0 4 rfl rfl rfl (fun S h => (ra_one (Okc.at 0 rfl h))) ?_
  clear hG W hm
  intro r1186 v1187 c1188 S H hG W hm
  refine x_op (σ := ([] : L2.St)) ?_
  refine c_pure hG W hm (sim_add (sim_K 3 rfl) (sim_K 0 rfl)) ?_
  clear hG W hm
  intro x1191 v1192 S H hG W hm
  refine k_setO hG W hm (simF_lst (T := (tP tInt tInt)) simA_ln0) ?_
  clear hG W hm
  intro wires_here1193 p1195 c1196 S H hG W hm
  refine k_fold (σJ := (fun (bx1201 : R_bag × (List (Int × Int))) (wx1201 : List Cell × List Cell × Option V × Option V × Option V) => ([some (.ref p0), some v1, some (v1180), some (v1192), some (.ref p1195), wx1201.2.2.1, wx1201.2.2.2.1, wx1201.2.2.2.2] : L2.St))) (OJ := (fun (bx1201 : R_bag × (List (Int × Int))) (wx1201 : List Cell × List Cell × Option V × Option V × Option V) => ([wx1201.2.1, wx1201.1] : Ow))) (Fb := (fun (bx1201 : R_bag × (List (Int × Int))) (wx1201 : List Cell × List Cell × Option V × Option V × Option V) => ([(oRec k_bag A_bag).f bx1201.1 p0 (wx1201.1), (oL (tP tInt tInt)).f bx1201.2 p1195 (wx1201.2.1)] : List Fact))) (σT := (fun b w (tx1201 : V) => ((fun (bx1201 : R_bag × (List (Int × Int))) (wx1201 : List Cell × List Cell × Option V × Option V × Option V) => ([some (.ref p0), some v1, some (v1180), some (v1192), some (.ref p1195), wx1201.2.2.1, wx1201.2.2.2.1, wx1201.2.2.2.2] : L2.St)) b w).set 5 (some tx1201))) ((c1188, c1196, (none), (none), (none)) : List Cell × List Cell × Option V × Option V × Option V) hG W hm (simI_range2 sim_int (sim_len (sim_var 13 rfl rfl))) (fun b w => tg_name) (fun b w => List.nil_sublist _) rfl rfl (fun S h => (Okc.cons (Okc.at 3 rfl h) (Okc.cons (Okc.at 0 rfl h) h))) ?_ ?_
  · clear hG W hm
    intro S1 y1202 bx1201 b' wx1201 tx1201 S H hm hG W N hN
    refine e_set ?_
    refine e_call ?_
    refine e_cons ?_
    refine c_ref rfl ?_
    refine e_cons ?_
    refine c_ref rfl ?_
    refine e_nil ?_
    refine v_callO (g := bx1201.1) (a := y1202) hG W hm 1 1 rfl rfl rfl (fun S h => (ra_one (Okc.at 0 rfl h))) ?_
    clear hG W hm
    intro r1204 v1205 c1206 S H hG W hm
    refine k_fold (σJ := (fun (bx1208 : R_bag × (List (Int × Int))) (wx1208 : List Cell × List Cell × Option V) => ([some (.ref p0), some v1, some (v1180), some (v1192), some (.ref p1195), some (tx1201), some (v1205), wx1208.2.2] : L2.St))) (OJ := (fun (bx1208 : R_bag × (List (Int × Int))) (wx1208 : List Cell × List Cell × Option V) => ([wx1208.2.1, wx1208.1] : Ow))) (Fb := (fun (bx1208 : R_bag × (List (Int × Int))) (wx1208 : List Cell × List Cell × Option V) => ([(oRec k_bag A_bag).f bx1208.1 p0 (wx1208.1), (oL (tP tInt tInt)).f bx1208.2 p1195 (wx1208.2.1)] : List Fact))) (σT := (fun b w (tx1208 : V) => ((fun (bx1208 : R_bag × (List (Int × Int))) (wx1208 : List Cell × List Cell × Option V) => ([some (.ref p0), some v1, some (v1180), some (v1192), some (.ref p1195), some (tx1201), some (v1205), wx1208.2.2] : L2.St)) b w).set 7 (some tx1208))) ((c1206, wx1201.2.1, (wx1201.2.2.2.2)) : List Cell × List Cell × Option V) hG W hm (simI_range1 (sim_var 2 rfl rfl)) (fun b w => tg_name) (fun b w => List.nil_sublist _) rfl rfl (fun S h => (Okc.cons (Okc.at 1 rfl h) (Okc.cons (Okc.at 4 rfl h) h))) ?_ ?_
    · clear hG W hm
      intro S1 y1209 bx1208 b' wx1208 tx1208 S H hm hG W N hN
      refine e_if ?_
      refine e_tB ?_
      refine e_call ?_
      refine e_cons ?_
      refine c_ref rfl ?_
      refine e_cons ?_
      refine c_ref rfl ?_
      refine e_cons ?_
      refine c_ref rfl ?_
      refine e_cons ?_
      refine c_ref rfl ?_
      refine e_cons ?_
      refine c_ref rfl ?_
      refine e_cons ?_
      refine c_ref rfl ?_
      refine e_nil ?_
      refine v_callO (g := bx1208.1) (a := (x1179, x1191, r1204.1, y1209, y1202)) hG W hm 1 1 rfl rfl rfl (fun S h => (ra_c (Okc.at 16 rfl h) (ra_c (Okc.at 11 rfl h) (ra_c (Okc.at 4 rfl h) (ra_c (Okc.at 0 rfl h) (ra_one (Okc.at 6 rfl h))))))) ?_
      clear hG W hm
      intro r1212 v1213 c1214 S H hG W hm
      refine y_bool hG 0 rfl ?_
      refine c_ite hm ?_ ?_
      · clear hm
        intro _ hm
        refine k_app hG W hm 0 4 rfl rfl rfl (sim_pair (sim_ix (sim_var 25 rfl rfl) (sim_var 2 rfl rfl)) (sim_ix (sim_var 25 rfl rfl) (sim_var 8 rfl rfl))) ?_
        clear hG W hm
        intro y1221 c1223 S H hG W hm
        revert hG hm; generalize (bx1208.2 ++ [y1221]) = wires_here1222; intro hG hm
        refine y_next ?_
        cases hm
        refine y_next ?_
        exact hN (c1214, c1223, (some (tx1208))) _ _ (Okc.cons (Okc.at 2 rfl hG) (Okc.cons (Okc.at 0 rfl hG) (Okc.dr 6 hG))) (W.pick [0, 0] rfl)
      · clear hm
        intro _ hm
        refine y_next ?_
        cases hm
        refine y_next ?_
        exact hN (c1214, wx1208.2.1, (some (tx1208))) _ _ (Okc.cons (Okc.at 1 rfl hG) (Okc.cons (Okc.at 4 rfl hG) (Okc.dr 5 hG))) (W.pick [0, 0] rfl)
    · clear hG W hm
      intro bx1208 wx1208 S H hm hG W
      cases hm
      refine y_next ?_
      exact hN (wx1208.1, wx1208.2.1, (some (tx1201)), (some (v1205)), (wx1208.2.2)) _ _ (Okc.cons (Okc.at 0 rfl hG) (Okc.cons (Okc.at 1 rfl hG) (Okc.dr 7 hG))) (W.pick [0, 0] rfl)
  · clear hG W hm
    intro bx1201 wx1201 S H hm hG W
    refine k_frz hG W frz_L 0 1 rfl rfl ?_
    clear hG W
    intro S hG W
    refine y_join (σJ := (fun (bx1226 : R_bag × (List (Int × Int))) (wx1226 : List Cell × V) => ([some (.ref p0), some v1, some (v1180), some (v1192), some (wx1226.2), wx1201.2.2.1, wx1201.2.2.2.1, wx1201.2.2.2.2] : L2.St))) (OJ := (fun (bx1226 : R_bag × (List (Int × Int))) (wx1226 : List Cell × V) => ([wx1226.1] : Ow))) (Fb := (fun (bx1226 : R_bag × (List (Int × Int))) (wx1226 : List Cell × V) => ([(oRec k_bag A_bag).f bx1226.1 p0 (wx1226.1), (tL (tP tInt tInt)).f bx1226.2 (wx1226.2)] : List Fact))) hG W hm ?_ ?_
    · clear hG W hm
      intro bx1226 wx1226 S H hm hG W
      refine e_ret ?_
      refine c_pure hG W hm (sim_var 1 rfl rfl) ?_
      clear hG W hm
      intro r1229 v S H hG W hm
      cases hm
      exact k _ _ _ _ (Okc.at 17 rfl hG) (W.pick [0] rfl) (Okc.at 1 rfl hG) (Okc.at 0 rfl hG)
    · clear hm
      intro nxt1228 hm
      refine e_if ?_
      refine e_test ?_
      refine e_op ?_
      refine e_call ?_
      refine e_cons ?_
      refine c_ref rfl ?_
      refine e_cons ?_
      refine c_pure hG W hm sim_int ?_
      clear hG W hm
      intro x1230 v1231 S H hG W hm
      refine e_nil ?_
      refine v_callO (g := bx1201.1) (a := x1230) hG W hm 0 2 rfl rfl rfl (fun S h => (ra_one (Okc.at 0 rfl h))) ?_
      clear hG W hm
      intro r1232 v1233 c1234 S H hG W hm
      refine c_pure hG W hm sim_int ?_
      clear hG W hm
      intro x1235 v1236 S H hG W hm
      refine x_op (σ := ([] : L2.St)) ?_
      refine c_pure hG W hm (sim_eqI (sim_K 1 rfl) (sim_K 0 rfl)) ?_
      clear hG W hm
      intro x1239 v1240 S H hG W hm
      refine y_bool hG 0 rfl ?_
      refine c_ite hm ?_ ?_
      · clear hm
        intro _ hm
        refine k_set hG W hm (SimF.sim (simF_rev (sim_var 5 rfl rfl))) ?_
        clear hG W hm
        intro wires_here1242 v1243 S H hG W hm
        refine y_next ?_
        exact nxt1228 _ (c1234, v1243) _ _ hm (Okc.cons (Okc.at 4 rfl hG) (Okc.cons (Okc.at 0 rfl hG) (Okc.dr 6 hG))) (W.pick [0] rfl)
      · clear hm
        intro _ hm
        refine y_next ?_
        exact nxt1228 _ (c1234, (.ref p1195)) _ _ hm (Okc.cons (Okc.at 3 rfl hG) (Okc.cons (Okc.at 5 rfl hG) (Okc.dr 5 hG))) (W.pick [0] rfl)
theorem sc__law_all_in : FnScope ["_law_lamps", "_law_listed", "_law_lamp"] ["_law_lamps", "_law_listed"] (defScope (top 67)) := ⟨rfl, rfl, rfl, by decide +kernel, rfl, by decide +kernel, by decide +kernel⟩
theorem ok__law_all_in (E : EnvF K mg) : Cal CX0 P w K mg base 1 "_law_all_in" (spP (TyA.c (tL tInt) (TyA.one (tL tInt))) (fun a => m__law_all_in a.1 a.2) tBool) := by
  refine cal_mk (k := 0) E.d__law_all_in sc__law_all_in (fun vs H Q E h => by obtain ⟨S, F, a, r, ⟨_, _, rfl, _, ⟨_, rfl, _⟩⟩, _⟩ := h; rfl) (fun _ _ _ _ _ _ us hl => match us, hl with | [_, _], _ => rfl) ?_
  rintro f cdv A outer s H vs Q EX hr ⟨S, F, ⟨lamps1244, listed1245⟩, out, ⟨v0, _, rfl, h0, ⟨v1, rfl, h1⟩⟩, W, hm, k⟩
  refine ⟨_, PSs.nox (pss_cons (ps_ret (pe_cmpR op_eq (pe_callB (call_lenK (K := K)) rfl (by exact E.g_len) boot_len (pa_cons (pe_lc (own := [("_law_lamp", 2)]) rfl sc__law_all_in.nd (pi_listK (K := K) (pv 0)) (blkOk_by (N := ["_law_lamps", "_law_listed", "_law_lamp"]) (sc := defScope (top 67)) (by decide +kernel)) (fun _ _ _ _ _ => (pg_name (i := 2) sc__law_all_in.nd rfl (Or.inl rfl))) (fun _ _ _ _ _ => (pts_one (pt_cmpR (op_inDK (K := K) (by exact hu65 hr)) (pv 2) (pv 1) (by with_unfolding_all rfl)))) (fun _ _ _ _ _ => (pv 2))) pa_nil)) (pe_callB (call_lenK (K := K)) rfl (by exact E.g_len) boot_len (pa_cons (pv 0) pa_nil)) (nomark _))) pss_nil), ?_⟩
  have hG : Okc [fS S, (tL tInt).f lamps1244 v0, (tL tInt).f listed1245 v1] S := ⟨Same.refl _, h0, h1, True.intro⟩
  have W : Wd S (([] : Ow) ++ F) H := W
  show (_ : TS) _ ([some v0, some v1, none] : L2.St) H
  exact k_ret hG W hm (sim_eqI (sim_len (SimF.sim (simF_lc (simI_list (sim_var 1 rfl rfl)) tg_name (fun _ => rfl) (List.nil_sublist _) (fun a w => (simT_test (sim_in (sim_var 0 rfl rfl) (sim_var 3 rfl rfl)))) (fun a w => (sim_var 0 rfl rfl))))) (sim_len (sim_var 1 rfl rfl))) (fun v S H hG W hr => k v S H (Okc.at 0 rfl hG) (W.pick [] rfl) hr)
theorem sc__law_known : FnScope ["_law_count_here", "_law_hues_here", "_law_wires_here", "_law_line", "_law_below", "_law_k", "_law_upper", "_law_found", "_law_wire", "_law_above", "_law_lamp", "_law_listed", "_law_left", "_law_ready", "_law_world_here"] ["_law_count_here", "_law_hues_here", "_law_wires_here", "_law_line"] (defScope (top 68)) := ⟨rfl, rfl, rfl, by decide +kernel, rfl, by decide +kernel, by decide +kernel⟩
theorem ok__law_known (E : EnvF K mg) : Cal CX0 P w K mg base 2 "_law_known" (spP (TyA.c tInt (TyA.c tInt (TyA.c (tL (tP tInt tInt)) (TyA.one (tL tInt))))) (fun a => m__law_known a.1 a.2.1 a.2.2.1 a.2.2.2) (tRec k_world A_world)) := by
  refine cal_mk (k := 1) E.d__law_known sc__law_known (fun vs H Q E h => by obtain ⟨S, F, a, r, ⟨_, _, rfl, _, ⟨_, _, rfl, _, ⟨_, _, rfl, _, ⟨_, rfl, _⟩⟩⟩⟩, _⟩ := h; rfl) (fun _ _ _ _ _ _ us hl => match us, hl with | [_, _, _, _], _ => rfl) ?_
  rintro f cdv A outer s H vs Q EX hr ⟨S, F, ⟨count_here1254, hues_here1255, wires_here1256, line1257⟩, out, ⟨v0, _, rfl, h0, ⟨v1, _, rfl, h1, ⟨v2, _, rfl, h2, ⟨v3, rfl, h3⟩⟩⟩⟩, W, hm, k⟩
  refine ⟨_, PSs.nox (pss_cons (ps_set (i := 4) sc__law_known.nd rfl (Or.inr rfl) (pe_lc (own := [("_law_lamp", 10)]) rfl sc__law_known.nd (pi_range1 rfl (by exact E.g_range) (pa_cons (pv 0) pa_nil)) (blkOk_by (N := ["_law_count_here", "_law_hues_here", "_law_wires_here", "_law_line", "_law_below", "_law_k", "_law_upper", "_law_found", "_law_wire", "_law_above", "_law_lamp", "_law_listed", "_law_left", "_law_ready", "_law_world_here"]) (sc := defScope (top 68)) (by decide +kernel)) (fun _ _ _ _ _ => (pg_name (i := 10) sc__law_known.nd rfl (Or.inl rfl))) (fun _ _ _ _ _ => pts_nil) (fun _ _ _ _ _ => (pe_lst pa_nil)))) (pss_cons (ps_for PassesOwn.never rfl (pi_range1 rfl (by exact E.g_range) (pa_cons (pv 0) pa_nil)) (pg_name (i := 5) sc__law_known.nd rfl (Or.inl rfl)) (pss_cons (ps_set (i := 6) sc__law_known.nd rfl (Or.inl rfl) (pe_ix (ix_listK (K := K)) (pv 3) (pe_op op_sub (pe_op op_sub (pv 0) pe_int) (pv 5)) (by intro _ _; rfl))) (pss_cons (ps_set (i := 7) sc__law_known.nd rfl (Or.inr rfl) (pe_lst pa_nil)) (pss_cons (ps_for PassesOwn.never rfl (pi_listK (K := K) (pv 2)) (pg_name (i := 8) sc__law_known.nd rfl (Or.inl rfl)) (pss_cons (ps_if (pt_cmpR op_eq (pe_ix (ix_tupK (K := K)) (pv 8) pe_int (by intro _ _; rfl)) (pv 6) (nomark _)) (pss_cons (ps_set (i := 7) sc__law_known.nd rfl (Or.inr rfl) (pe_op op_cat (pe_op op_cat (pv 7) (pe_lst (pa_cons (pe_ix (ix_tupK (K := K)) (pv 8) pe_int (by intro _ _; rfl)) pa_nil))) (pe_ix (ix_listK (K := K)) (pv 4) (pe_ix (ix_tupK (K := K)) (pv 8) pe_int (by intro _ _; rfl)) (by intro _ _; rfl)))) pss_nil) pss_nil) pss_nil)) (pss_cons (ps_asg (pe_lc (own := [("_law_lamp", 10)]) rfl sc__law_known.nd (pi_range1 rfl (by exact E.g_range) (pa_cons (pv 0) pa_nil)) (blkOk_by (N := ["_law_count_here", "_law_hues_here", "_law_wires_here", "_law_line", "_law_below", "_law_k", "_law_upper", "_law_found", "_law_wire", "_law_above", "_law_lamp", "_law_listed", "_law_left", "_law_ready", "_law_world_here"]) (sc := defScope (top 68)) (by decide +kernel)) (fun _ _ _ _ _ => (pg_name (i := 10) sc__law_known.nd rfl (Or.inl rfl))) (fun _ _ _ _ _ => (pts_one (pt_cmpR (op_inDK (K := K) (by exact hu65 hr)) (pv 10) (pv 7) (by with_unfolding_all rfl)))) (fun _ _ _ _ _ => (pv 10))) (pg_sub (pv 4) (pv 6) set_list)) pss_nil))))) (pss_cons (ps_set (i := 9) sc__law_known.nd rfl (Or.inr rfl) (pe_lst pa_nil)) (pss_cons (ps_for PassesOwn.never rfl (pi_range1 rfl (by exact E.g_range) (pa_cons (pv 0) pa_nil)) (pg_name (i := 10) sc__law_known.nd rfl (Or.inr rfl)) (pss_cons (ps_expr (pe_bmK (K := K) PySem.F.plainAttrs_list PySem.F.slot_list_append PySem.F.type_list_append mt_append (pv 9) (pa_cons (pe_lc (own := [("_law_upper", 6)]) rfl sc__law_known.nd (pi_range1 rfl (by exact E.g_range) (pa_cons (pv 0) pa_nil)) (blkOk_by (N := ["_law_count_here", "_law_hues_here", "_law_wires_here", "_law_line", "_law_below", "_law_k", "_law_upper", "_law_found", "_law_wire", "_law_above", "_law_lamp", "_law_listed", "_law_left", "_law_ready", "_law_world_here"]) (sc := defScope (top 68)) (by decide +kernel)) (fun _ _ _ _ _ => (pg_name (i := 6) sc__law_known.nd rfl (Or.inl rfl))) (fun _ _ _ _ _ => (pts_one (pt_cmpR (op_inDK (K := K) (by exact hu65 hr)) (pv 10) (pe_ix (ix_listK (K := K)) (pv 4) (pv 6) (by intro _ _; rfl)) (by with_unfolding_all rfl)))) (fun _ _ _ _ _ => (pv 6))) pa_nil))) pss_nil)) (pss_cons (ps_set (i := 11) sc__law_known.nd rfl (Or.inr rfl) (pe_lst pa_nil)) (pss_cons (ps_for PassesOwn.never rfl (pi_range1 rfl (by exact E.g_range) (pa_cons (pv 0) pa_nil)) (pg_name (i := 5) sc__law_known.nd rfl (Or.inl rfl)) (pss_cons (ps_setLc (i := 12) (own := [("_law_lamp", 10)]) rfl sc__law_known.nd rfl rfl (sw_true rfl rfl rfl (by decide +kernel)) (pi_range1 rfl (by exact E.g_range) (pa_cons (pv 0) pa_nil)) (blkOk_by (N := ["_law_count_here", "_law_hues_here", "_law_wires_here", "_law_line", "_law_below", "_law_k", "_law_upper", "_law_found", "_law_wire", "_law_above", "_law_lamp", "_law_listed", "_law_left", "_law_ready", "_law_world_here"]) (sc := defScope (top 68)) (by decide +kernel)) (fun _ _ _ _ _ => (pg_name (i := 10) sc__law_known.nd rfl (Or.inl rfl))) (fun _ _ _ _ _ => (pts_one (pt_cmpR (op_notInDK (K := K) (by exact hu65 hr)) (pv 10) (pv 11) (by with_unfolding_all rfl)))) (fun _ _ _ _ _ => (pv 10))) (pss_cons (ps_setLc (i := 13) (own := [("_law_lamp", 10)]) rfl sc__law_known.nd rfl rfl (sw_true rfl rfl rfl (by decide +kernel)) (pi_listK (K := K) (pv 12)) (blkOk_by (N := ["_law_count_here", "_law_hues_here", "_law_wires_here", "_law_line", "_law_below", "_law_k", "_law_upper", "_law_found", "_law_wire", "_law_above", "_law_lamp", "_law_listed", "_law_left", "_law_ready", "_law_world_here"]) (sc := defScope (top 68)) (by decide +kernel)) (fun _ _ _ _ _ => (pg_name (i := 10) sc__law_known.nd rfl (Or.inl rfl))) (fun _ _ _ _ _ => (pts_one (pt_val (pe_cal (ok__law_all_in E) (by exact hr) (by first | decide | omega) (by rfl) pass0 (pa_cons (pe_ix (ix_listK (K := K)) (pv 9) (pv 10) (by intro _ _; rfl)) (pa_cons (pv 11) pa_nil)))))) (fun _ _ _ _ _ => (pv 10))) (pss_cons (ps_expr (pe_bmK (K := K) PySem.F.plainAttrs_list PySem.F.slot_list_append PySem.F.type_list_append mt_append (pv 11) (pa_cons (pe_ix (ix_listK (K := K)) (pv 13) pe_int (by intro _ _; rfl)) pa_nil))) pss_nil)))) (pss_cons (ps_set (i := 14) sc__law_known.nd rfl (Or.inl rfl) (pe_disp (pps_cons pe_str (pv 0) (pps_cons pe_str (pv 1) (pps_cons pe_str (pv 2) (pps_cons pe_str (pv 11) pps_nil)))) rfl rfl (fun h => nomatch h) (by decide))) (pss_cons (ps_dput (by exact hu_of hr) (pv 14) pe_str (pv 4) rfl) (pss_cons (ps_dput (by exact hu_of hr) (pv 14) pe_str (pv 9) rfl) (pss_cons (ps_ret (pv 14)) pss_nil)))))))))), ?_⟩
  have hG : Okc [fS S, tInt.f count_here1254 v0, tInt.f hues_here1255 v1, (tL (tP tInt tInt)).f wires_here1256 v2, (tL tInt).f line1257 v3] S := ⟨Same.refl _, h0, h1, h2, h3, True.intro⟩
  have W : Wd S (([] : Ow) ++ F) H := W
  show (_ : TS) _ ([some v0, some v1, some v2, some v3, none, none, none, none, none, none, none, none, none, none, none] : L2.St) H
  refine k_setO hG W hm (simF_lc (simI_range1 (sim_var 1 rfl rfl)) tg_name (fun _ => rfl) (List.nil_sublist _) (fun a w => simT_yes) (fun a w => (SimF.sim (simF_lst (T := tInt) simA_ln0)))) ?_
  clear hG W hm
  intro below1261 p1263 c1264 S H hG W hm
  refine k_fold (σJ := (fun (bx1266 : (List (List Int))) (wx1266 : List Cell × Option V × Option V × Option V × Option V) => ([some v0, some v1, some v2, some v3, some (.ref p1263), wx1266.2.1, wx1266.2.2.1, wx1266.2.2.2.1, wx1266.2.2.2.2, none, none, none, none, none, none] : L2.St))) (OJ := (fun (bx1266 : (List (List Int))) (wx1266 : List Cell × Option V × Option V × Option V × Option V) => ([wx1266.1] : Ow))) (Fb := (fun (bx1266 : (List (List Int))) (wx1266 : List Cell × Option V × Option V × Option V × Option V) => ([(oL (tL tInt)).f bx1266 p1263 (wx1266.1)] : List Fact))) (σT := (fun b w (tx1266 : V) => ((fun (bx1266 : (List (List Int))) (wx1266 : List Cell × Option V × Option V × Option V × Option V) => ([some v0, some v1, some v2, some v3, some (.ref p1263), wx1266.2.1, wx1266.2.2.1, wx1266.2.2.2.1, wx1266.2.2.2.2, none, none, none, none, none, none] : L2.St)) b w).set 5 (some tx1266))) ((c1264, (none), (none), (none), (none)) : List Cell × Option V × Option V × Option V × Option V) hG W hm (simI_range1 (sim_var 2 rfl rfl)) (fun b w => tg_name) (fun b w => List.nil_sublist _) rfl rfl (fun S h => (Okc.cons (Okc.at 0 rfl h) h)) ?_ ?_
  · clear hG W hm
    intro S1 y1267 bx1266 b' wx1266 tx1266 S H hm hG W N hN
    refine k_set hG W hm (sim_ix (sim_var 8 rfl rfl) (sim_sub (sim_sub (sim_var 5 rfl rfl) sim_int) (sim_var 0 rfl rfl))) ?_
    clear hG W hm
    intro upper1275 v1276 S H hG W hm
    refine k_set hG W hm (SimF.sim (simF_lst (T := tInt) simA_ln0)) ?_
    clear hG W hm
    intro found1277 v1278 S H hG W hm
    refine k_fold (σJ := (fun (bx1279 : (List Int)) (wx1279 : V × Option V) => ([some v0, some v1, some v2, some v3, some (.ref p1263), some (tx1266), some (v1276), some (wx1279.1), wx1279.2, none, none, none, none, none, none] : L2.St))) (OJ := (fun (bx1279 : (List Int)) (wx1279 : V × Option V) => ([wx1266.1] : Ow))) (Fb := (fun (bx1279 : (List Int)) (wx1279 : V × Option V) => ([(tL tInt).f bx1279 (wx1279.1)] : List Fact))) (σT := (fun b w (tx1279 : V) => ((fun (bx1279 : (List Int)) (wx1279 : V × Option V) => ([some v0, some v1, some v2, some v3, some (.ref p1263), some (tx1266), some (v1276), some (wx1279.1), wx1279.2, none, none, none, none, none, none] : L2.St)) b w).set 8 (some tx1279))) ((v1278, (wx1266.2.2.2.2)) : V × Option V) hG W hm (simI_list (sim_var 9 rfl rfl)) (fun b w => tg_name) (fun b w => List.nil_sublist _) rfl rfl (fun S h => (Okc.cons (Okc.at 0 rfl h) h)) ?_ ?_
    · clear hG W hm
      intro S1 y1280 bx1279 b' wx1279 tx1279 S H hm hG W N hN
      refine k_if hG W hm (simT_test (sim_eqI (sim_fst (sim_var 0 rfl rfl)) (sim_var 4 rfl rfl))) ?_ ?_
      · clear hG W hm
        intro S H hG W hm
        refine k_set hG W hm (SimF.sim (simF_cat (SimF.sim (simF_cat (sim_var 1 rfl rfl) (SimF.sim (simF_lst (simA_ln (sim_snd (sim_var 0 rfl rfl)) simA_ln0))))) (sim_ix (sim_own 0 6 rfl rfl rfl) (sim_snd (sim_var 0 rfl rfl))))) ?_
        clear hG W hm
        intro found1296 v1297 S H hG W hm
        refine y_next ?_
        cases hm
        refine y_next ?_
        exact hN (v1297, (some (tx1279))) _ _ (Okc.cons (Okc.at 0 rfl hG) (Okc.dr 3 hG)) (W.pick [0] rfl)
      · clear hG W hm
        intro S H hG W hm
        refine y_next ?_
        cases hm
        refine y_next ?_
        exact hN (wx1279.1, (some (tx1279))) _ _ (Okc.cons (Okc.at 1 rfl hG) (Okc.dr 2 hG)) (W.pick [0] rfl)
    · clear hG W hm
      intro bx1279 wx1279 S H hm hG W
      refine k_put hG W hm 0 4 rfl rfl rfl (SimF.sim (simF_lc (simI_range1 (sim_var 8 rfl rfl)) tg_name (fun _ => rfl) (List.nil_sublist _) (fun a w => (simT_test (sim_in (sim_var 0 rfl rfl) (sim_var 1 rfl rfl)))) (fun a w => (sim_var 0 rfl rfl)))) (sim_var 2 rfl rfl) ?_
      clear hG W hm
      intro below1305 c1306 S H hG W hm
      cases hm
      refine y_next ?_
      exact hN (c1306, (some (tx1266)), (some (v1276)), (some (wx1279.1)), (wx1279.2)) _ _ (Okc.cons (Okc.at 0 rfl hG) (Okc.dr 6 hG)) (W.pick [0] rfl)
  · clear hG W hm
    intro bx1266 wx1266 S H hm hG W
    refine k_setO hG W hm (simF_lst (T := (tL tInt)) simA_ln0) ?_
    clear hG W hm
    intro above1307 p1309 c1310 S H hG W hm
    refine k_fold (σJ := (fun (bx1312 : (List (List Int))) (wx1312 : List Cell × Option V) => ([some v0, some v1, some v2, some v3, some (.ref p1263), wx1266.2.1, wx1266.2.2.1, wx1266.2.2.2.1, wx1266.2.2.2.2, some (.ref p1309), wx1312.2, none, none, none, none] : L2.St))) (OJ := (fun (bx1312 : (List (List Int))) (wx1312 : List Cell × Option V) => ([wx1312.1, wx1266.1] : Ow))) (Fb := (fun (bx1312 : (List (List Int))) (wx1312 : List Cell × Option V) => ([(oL (tL tInt)).f bx1312 p1309 (wx1312.1)] : List Fact))) (σT := (fun b w (tx1312 : V) => ((fun (bx1312 : (List (List Int))) (wx1312 : List Cell × Option V) => ([some v0, some v1, some v2, some v3, some (.ref p1263), wx1266.2.1, wx1266.2.2.1, wx1266.2.2.2.1, wx1266.2.2.2.2, some (.ref p1309), wx1312.2, none, none, none, none] : L2.St)) b w).set 10 (some tx1312))) ((c1310, (none)) : List Cell × Option V) hG W hm (simI_range1 (sim_var 4 rfl rfl)) (fun b w => tg_name) (fun b w => List.nil_sublist _) rfl rfl (fun S h => (Okc.cons (Okc.at 0 rfl h) h)) ?_ ?_
    · clear hG W hm
      intro S1 y1313 bx1312 b' wx1312 tx1312 S H hm hG W N hN
      refine k_app hG W hm 0 1 rfl rfl rfl (SimF.sim (simF_lc (simI_range1 (sim_var 7 rfl rfl)) tg_name (fun _ => rfl) (List.nil_sublist _) (fun a w => (simT_test (sim_in (sim_var 1 rfl rfl) (sim_ix (sim_own 1 5 rfl rfl rfl) (sim_var 0 rfl rfl))))) (fun a w => (sim_var 0 rfl rfl)))) ?_
      clear hG W hm
      intro y1322 c1324 S H hG W hm
      revert hG hm; generalize (bx1312 ++ [y1322]) = above1323; intro hG hm
      cases hm
      refine y_next ?_
      exact hN (c1324, (some (tx1312))) _ _ (Okc.cons (Okc.at 0 rfl hG) (Okc.dr 3 hG)) (W.pick [0, 0] rfl)
    · clear hG W hm
      intro bx1312 wx1312 S H hm hG W
      refine k_setO hG W hm (simF_lst (T := tInt) simA_ln0) ?_
      clear hG W hm
      intro listed1325 p1327 c1328 S H hG W hm
      refine k_fold (σJ := (fun (bx1330 : (List Int)) (wx1330 : List Cell × Option V × Option V × Option V) => ([some v0, some v1, some v2, some v3, some (.ref p1263), wx1330.2.1, wx1266.2.2.1, wx1266.2.2.2.1, wx1266.2.2.2.2, some (.ref p1309), wx1312.2, some (.ref p1327), wx1330.2.2.1, wx1330.2.2.2, none] : L2.St))) (OJ := (fun (bx1330 : (List Int)) (wx1330 : List Cell × Option V × Option V × Option V) => ([wx1330.1, wx1312.1, wx1266.1] : Ow))) (Fb := (fun (bx1330 : (List Int)) (wx1330 : List Cell × Option V × Option V × Option V) => ([(oL tInt).f bx1330 p1327 (wx1330.1)] : List Fact))) (σT := (fun b w (tx1330 : V) => ((fun (bx1330 : (List Int)) (wx1330 : List Cell × Option V × Option V × Option V) => ([some v0, some v1, some v2, some v3, some (.ref p1263), wx1330.2.1, wx1266.2.2.1, wx1266.2.2.2.1, wx1266.2.2.2.2, some (.ref p1309), wx1312.2, some (.ref p1327), wx1330.2.2.1, wx1330.2.2.2, none] : L2.St)) b w).set 5 (some tx1330))) ((c1328, (wx1266.2.1), (none), (none)) : List Cell × Option V × Option V × Option V) hG W hm (simI_range1 (sim_var 6 rfl rfl)) (fun b w => tg_name) (fun b w => List.nil_sublist _) rfl rfl (fun S h => (Okc.cons (Okc.at 0 rfl h) h)) ?_ ?_
      · clear hG W hm
        intro S1 y1331 bx1330 b' wx1330 tx1330 S H hm hG W N hN
        refine k_set hG W hm (SimF.sim (simF_lc (simI_range1 (sim_var 9 rfl rfl)) tg_name (fun _ => rfl) (List.nil_sublist _) (fun a w => (simT_test (sim_peek 0 2 rfl rfl frz_L sc_bool (sim_notIn (sim_var 1 rfl rfl) (sim_var 0 rfl rfl))))) (fun a w => (sim_var 0 rfl rfl)))) ?_
        clear hG W hm
        intro left1338 v1339 S H hG W hm
        refine k_set hG W hm (SimF.sim (simF_lc (simI_list (sim_var 0 rfl rfl)) tg_name (fun _ => rfl) (List.nil_sublist _) (fun a w => (simT_B (sim_peek 0 3 rfl rfl frz_L sc_bool (sim_call (simA_c (sim_ix (sim_own 0 7 rfl rfl rfl) (sim_var 1 rfl rfl)) (simA_one (sim_var 0 rfl rfl))))))) (fun a w => (sim_var 0 rfl rfl)))) ?_
        clear hG W hm
        intro ready1347 v1348 S H hG W hm
        refine k_app hG W hm 0 3 rfl rfl rfl (sim_ix (sim_var 0 rfl rfl) sim_int) ?_
        clear hG W hm
        intro y1351 c1353 S H hG W hm
        revert hG hm; generalize (bx1330 ++ [y1351]) = listed1352; intro hG hm
        cases hm
        refine y_next ?_
        exact hN (c1353, (some (tx1330)), (some (v1339)), (some (v1348))) _ _ (Okc.cons (Okc.at 0 rfl hG) (Okc.dr 5 hG)) (W.pick [0, 0, 0] rfl)
      · clear hG W hm
        intro bx1330 wx1330 S H hm hG W
        refine k_frz hG W frz_L 0 0 rfl rfl ?_
        clear hG W
        intro S hG W
        refine k_setO hG W hm (simF_disp (by decide +kernel) (by decide) (simPs_c (sim_var 8 rfl rfl) (simPs_c (sim_var 9 rfl rfl) (simPs_c (sim_var 10 rfl rfl) (simPs_one (sim_var 0 rfl rfl)))))) ?_
        clear hG W hm
        intro world_here1360 p1362 c1363 S H hG W hm
        refine k_frz hG W frz_L 2 6 rfl rfl ?_
        clear hG W
        intro S hG W
        refine k_rnew (g := fun a x => (a.1, (a.2.1, (a.2.2.1, (a.2.2.2, x))))) (a := world_here1360) (A' := (TyA.c tInt (TyA.c tInt (TyA.c (tL (tP tInt tInt)) (TyA.c (tL tInt) (TyA.one (tL (tL tInt)))))))) hG W hm 0 1 rfl rfl rfl (sn_c (sn_c (sn_c sn_one))) (by decide +kernel) (by show _ < (2 ^ 24 : Nat); decide) (sim_var 0 rfl rfl) ?_
        clear hG W hm
        intro y1364 c1366 S H hG W hm
        revert hG hm; generalize (((world_here1360.1, (world_here1360.2.1, (world_here1360.2.2.1, (world_here1360.2.2.2, y1364))))) : (Int × Int × (List (Int × Int)) × (List Int) × (List (List Int)))) = world_here1365; intro hG hm
        refine k_frz hG W frz_L 1 6 rfl rfl ?_
        clear hG W
        intro S hG W
        refine k_rnew (g := fun a x => (a.1, (a.2.1, (a.2.2.1, (a.2.2.2.1, (a.2.2.2.2, x)))))) (a := world_here1365) (A' := (TyA.c tInt (TyA.c tInt (TyA.c (tL (tP tInt tInt)) (TyA.c (tL tInt) (TyA.c (tL (tL tInt)) (TyA.one (tL (tL tInt))))))))) hG W hm 0 1 rfl rfl rfl (sn_c (sn_c (sn_c (sn_c sn_one)))) (by decide +kernel) (by show _ < (2 ^ 24 : Nat); decide) (sim_var 0 rfl rfl) ?_
        clear hG W hm
        intro y1367 c1369 S H hG W hm
        revert hG hm; generalize (((world_here1365.1, (world_here1365.2.1, (world_here1365.2.2.1, (world_here1365.2.2.2.1, (world_here1365.2.2.2.2, y1367)))))) : R_world) = world_here1368; intro hG hm
        refine k_frz hG W frz_Rec 0 0 rfl rfl ?_
        clear hG W
        intro S hG W
        exact k_ret hG W hm (sim_var 0 rfl rfl) (fun v S H hG W hr => k v S H (Okc.at 13 rfl hG) (W.pick [] rfl) hr)
theorem sc__law_hues : FnScope ["_law_bag_here", "_law_hues_here"] ["_law_bag_here"] (defScope (top 69)) := ⟨rfl, rfl, rfl, by decide +kernel, rfl, by decide +kernel, by decide +kernel⟩
theorem ok__law_hues (E : EnvF K mg) : Cal CX0 P w K mg base 2 "_law_hues" (spO 0 (oRec k_bag A_bag) TyA.nil (fun g _ => m__law_hues g) tInt) := by
  refine cal_mk (k := 1) E.d__law_hues sc__law_hues (fun vs H Q E h => by obtain ⟨S, F, p, c, g, a, r, hn, hA, _⟩ := h; obtain rfl := (spO_vs1_0 hn hA); rfl) (fun _ _ _ _ _ _ us hl => match us, hl with | [_], _ => rfl) ?_
  rintro f cdv A outer s H vs Q EX hr ⟨S, F, p0, c0, bag_here1370, _, out, hn, hA, hp0, W, hm, k⟩
  obtain rfl := (spO_vs1_0 hn hA)
  refine ⟨_, PSs.nox (pss_cons (ps_set (i := 1) sc__law_hues.nd rfl (Or.inl rfl) (pe_op op_add pe_int (pe_cal (ok__law_draw E) (by exact hr) (by first | decide | omega) (by rfl) pass0 (pa_cons (pv 0) (pa_cons pe_int pa_nil))))) (pss_cons (ps_if (pt_cmpR op_eq (pe_cal (ok__law_draw E) (by exact hr) (by first | decide | omega) (by rfl) pass0 (pa_cons (pv 0) (pa_cons pe_int pa_nil))) pe_int (nomark _)) (pss_cons (ps_set (i := 1) sc__law_hues.nd rfl (Or.inl rfl) (pe_op op_add pe_int (pe_cal (ok__law_draw E) (by exact hr) (by first | decide | omega) (by rfl) pass0 (pa_cons (pv 0) (pa_cons pe_int pa_nil))))) pss_nil) pss_nil) (pss_cons (ps_ret (pv 1)) pss_nil))), ?_⟩
  have hG : Okc [fS S, (oRec k_bag A_bag).f bag_here1370 p0 c0] S := ⟨Same.refl _, hp0, True.intro⟩
  have W : Wd S ([c0] ++ F) H := W
  show (_ : TS) _ ([some (.ref p0), none] : L2.St) H
  refine e_set ?_
  refine e_op ?_
  refine c_pure hG W hm sim_int ?_
  clear hG W hm
  intro x1371 v1372 S H hG W hm
  refine e_call ?_
  refine e_cons ?_
  refine c_ref rfl ?_
  refine e_cons ?_
  refine c_pure hG W hm sim_int ?_
  clear hG W hm
  intro x1373 v1374 S H hG W hm
  refine e_nil ?_
  refine v_callO (g := bag_here1370) (a := x1373) hG W hm 0 3 rfl rfl rfl (fun S h => (ra_one (Okc.at 0 rfl h))) ?_
  clear hG W hm
  intro r1375 v1376 c1377 S H hG W hm
  refine x_op (σ := ([] : L2.St)) ?_
  refine c_pure hG W hm (sim_add (sim_K 3 rfl) (sim_K 0 rfl)) ?_
  clear hG W hm
  intro x1380 v1381 S H hG W hm
  refine y_join (σJ := (fun (bx1383 : R_bag × Int) (wx1383 : List Cell × V) => ([some (.ref p0), some (wx1383.2)] : L2.St))) (OJ := (fun (bx1383 : R_bag × Int) (wx1383 : List Cell × V) => ([wx1383.1] : Ow))) (Fb := (fun (bx1383 : R_bag × Int) (wx1383 : List Cell × V) => ([(oRec k_bag A_bag).f bx1383.1 p0 (wx1383.1), tInt.f bx1383.2 (wx1383.2)] : List Fact))) hG W hm ?_ ?_
  · clear hG W hm
    intro bx1383 wx1383 S H hm hG W
    refine e_ret ?_
    refine c_pure hG W hm (sim_var 1 rfl rfl) ?_
    clear hG W hm
    intro r1386 v S H hG W hm
    cases hm
    exact k _ _ _ _ (Okc.at 8 rfl hG) (W.pick [0] rfl) (Okc.at 1 rfl hG) (Okc.at 0 rfl hG)
  · clear hm
    intro nxt1385 hm
    refine e_if ?_
    refine e_test ?_
    refine e_op ?_
    refine e_call ?_
    refine e_cons ?_
    refine c_ref rfl ?_
    refine e_cons ?_
    refine c_pure hG W hm sim_int ?_
    clear hG W hm
    intro x1387 v1388 S H hG W hm
    refine e_nil ?_
    refine v_callO (g := r1375.2) (a := x1387) hG W hm 0 3 rfl rfl rfl (fun S h => (ra_one (Okc.at 0 rfl h))) ?_
    clear hG W hm
    intro r1389 v1390 c1391 S H hG W hm
    refine c_pure hG W hm sim_int ?_
    clear hG W hm
    intro x1392 v1393 S H hG W hm
    refine x_op (σ := ([] : L2.St)) ?_
    refine c_pure hG W hm (sim_eqI (sim_K 1 rfl) (sim_K 0 rfl)) ?_
    clear hG W hm
    intro x1396 v1397 S H hG W hm
    refine y_bool hG 0 rfl ?_
    refine c_ite hm ?_ ?_
    · clear hm
      intro _ hm
      refine e_set ?_
      refine e_op ?_
      refine c_pure hG W hm sim_int ?_
      clear hG W hm
      intro x1398 v1399 S H hG W hm
      refine e_call ?_
      refine e_cons ?_
      refine c_ref rfl ?_
      refine e_cons ?_
      refine c_pure hG W hm sim_int ?_
      clear hG W hm
      intro x1400 v1401 S H hG W hm
      refine e_nil ?_
      refine v_callO (g := r1389.2) (a := x1400) hG W hm 0 5 rfl rfl rfl (fun S h => (ra_one (Okc.at 0 rfl h))) ?_
      clear hG W hm
      intro r1402 v1403 c1404 S H hG W hm
      refine x_op (σ := ([] : L2.St)) ?_
      refine c_pure hG W hm (sim_add (sim_K 3 rfl) (sim_K 0 rfl)) ?_
      clear hG W hm
      intro x1407 v1408 S H hG W hm
      refine y_next ?_
      exact nxt1385 _ (c1404, v1408) _ _ hm (Okc.cons (Okc.at 2 rfl hG) (Okc.cons (Okc.at 0 rfl hG) (Okc.dr 10 hG))) (W.pick [0] rfl)
    · clear hm
      intro _ hm
      refine y_next ?_
      exact nxt1385 _ (c1391, v1381) _ _ hm (Okc.cons (Okc.at 3 rfl hG) (Okc.cons (Okc.at 5 rfl hG) (Okc.dr 5 hG))) (W.pick [0] rfl)
theorem sc__law_power : FnScope ["_law_hues_here", "_law_count_here", "_law_many", "_law_k"] ["_law_hues_here", "_law_count_here"] (defScope (top 70)) := ⟨rfl, rfl, rfl, by decide +kernel, rfl, by decide +kernel, by decide +kernel⟩
theorem ok__law_power (E : EnvF K mg) : Cal CX0 P w K mg base 1 "_law_power" (spP (TyA.c tInt (TyA.one tInt)) (fun a => m__law_power a.1 a.2) tInt) := by
  refine cal_mk (k := 0) E.d__law_power sc__law_power (fun vs H Q E h => by obtain ⟨S, F, a, r, ⟨_, _, rfl, _, ⟨_, rfl, _⟩⟩, _⟩ := h; rfl) (fun _ _ _ _ _ _ us hl => match us, hl with | [_, _], _ => rfl) ?_
  rintro f cdv A outer s H vs Q EX hr ⟨S, F, ⟨hues_here1409, count_here1410⟩, out, ⟨v0, _, rfl, h0, ⟨v1, rfl, h1⟩⟩, W, hm, k⟩
  refine ⟨_, PSs.nox (pss_cons (ps_set (i := 2) sc__law_power.nd rfl (Or.inl rfl) pe_int) (pss_cons (ps_for PassesOwn.never rfl (pi_range1 rfl (by exact E.g_range) (pa_cons (pv 1) pa_nil)) (pg_name (i := 3) sc__law_power.nd rfl (Or.inl rfl)) (pss_cons (ps_set (i := 2) sc__law_power.nd rfl (Or.inl rfl) (pe_op op_mulW (pv 2) (pv 0))) pss_nil)) (pss_cons (ps_ret (pv 2)) pss_nil))), ?_⟩
  have hG : Okc [fS S, tInt.f hues_here1409 v0, tInt.f count_here1410 v1] S := ⟨Same.refl _, h0, h1, True.intro⟩
  have W : Wd S (([] : Ow) ++ F) H := W
  show (_ : TS) _ ([some v0, some v1, none, none] : L2.St) H
  refine k_set hG W hm sim_int ?_
  clear hG W hm
  intro many1411 v1412 S H hG W hm
  refine k_fold (σJ := (fun (bx1414 : Int) (wx1414 : V × Option V) => ([some v0, some v1, some (wx1414.1), wx1414.2] : L2.St))) (OJ := (fun (bx1414 : Int) (wx1414 : V × Option V) => ([] : Ow))) (Fb := (fun (bx1414 : Int) (wx1414 : V × Option V) => ([tInt.f bx1414 (wx1414.1)] : List Fact))) (σT := (fun b w (tx1414 : V) => ((fun (bx1414 : Int) (wx1414 : V × Option V) => ([some v0, some v1, some (wx1414.1), wx1414.2] : L2.St)) b w).set 3 (some tx1414))) ((v1412, (none)) : V × Option V) hG W hm (simI_range1 (sim_var 3 rfl rfl)) (fun b w => tg_name) (fun b w => List.nil_sublist _) rfl rfl (fun S h => (Okc.cons (Okc.at 0 rfl h) h)) ?_ ?_
  · clear hG W hm
    intro S1 y1415 bx1414 b' wx1414 tx1414 S H hm hG W N hN
    refine k_set hG W hm (sim_mul (sim_var 1 rfl rfl) (sim_var 5 rfl rfl)) ?_
    clear hG W hm
    intro many1419 v1420 S H hG W hm
    cases hm
    refine y_next ?_
    exact hN (v1420, (some (tx1414))) _ _ (Okc.cons (Okc.at 0 rfl hG) (Okc.dr 3 hG)) (W.pick [] rfl)
  · clear hG W hm
    intro bx1414 wx1414 S H hm hG W
    exact k_ret hG W hm (sim_var 0 rfl rfl) (fun v S H hG W hr => k v S H (Okc.at 2 rfl hG) (W.pick [] rfl) hr)
theorem sc__law_count : FnScope ["_law_bag_here", "_law_hues_here", "_law_room", "_law_most", "_law_k"] ["_law_bag_here", "_law_hues_here", "_law_room"] (defScope (top 71)) := ⟨rfl, rfl, rfl, by decide +kernel, rfl, by decide +kernel, by decide +kernel⟩
theorem ok__law_count (E : EnvF K mg) : Cal CX0 P w K mg base 2 "_law_count" (spO 0 (oRec k_bag A_bag) (TyA.c tInt (TyA.one tInt)) (fun g a => m__law_count g a.1 a.2) tInt) := by
  refine cal_mk (k := 1) E.d__law_count sc__law_count (fun vs H Q E h => by obtain ⟨S, F, p, c, g, a, r, hn, hA, _⟩ := h; obtain ⟨_, _, rfl, _⟩ := (spO_vs3_0 hn hA); rfl) (fun _ _ _ _ _ _ us hl => match us, hl with | [_, _, _], _ => rfl) ?_
  rintro f cdv A outer s H vs Q EX hr ⟨S, F, p0, c0, bag_here1421, ⟨hues_here1422, room1423⟩, out, hn, hA, hp0, W, hm, k⟩
  obtain ⟨v1, v2, rfl, h1, h2⟩ := (spO_vs3_0 hn hA)
  refine ⟨_, PSs.nox (pss_cons (ps_set (i := 3) sc__law_count.nd rfl (Or.inl rfl) pe_int) (pss_cons (ps_for PassesOwn.never rfl (pi_range2 rfl (by exact E.g_range) (pa_cons pe_int (pa_cons pe_int pa_nil))) (pg_name (i := 4) sc__law_count.nd rfl (Or.inl rfl)) (pss_cons (ps_if (pt_cmpR op_le (pe_cal (ok__law_power E) (by exact hr) (by first | decide | omega) (by rfl) pass0 (pa_cons (pv 1) (pa_cons (pv 4) pa_nil))) (pv 2) (nomark _)) (pss_cons (ps_set (i := 3) sc__law_count.nd rfl (Or.inl rfl) (pv 4)) pss_nil) pss_nil) pss_nil)) (pss_cons (ps_if (pt_cmpR op_eq (pe_cal (ok__law_draw E) (by exact hr) (by first | decide | omega) (by rfl) pass0 (pa_cons (pv 0) (pa_cons pe_int pa_nil))) pe_int (nomark _)) (pss_cons (ps_ret (pv 3)) pss_nil) pss_nil) (pss_cons (ps_ret (pe_op op_add pe_int (pe_cal (ok__law_draw E) (by exact hr) (by first | decide | omega) (by rfl) pass0 (pa_cons (pv 0) (pa_cons (pv 3) pa_nil))))) pss_nil)))), ?_⟩
  have hG : Okc [fS S, (oRec k_bag A_bag).f bag_here1421 p0 c0, tInt.f hues_here1422 v1, tInt.f room1423 v2] S := ⟨Same.refl _, hp0, h1, h2, True.intro⟩
  have W : Wd S ([c0] ++ F) H := W
  show (_ : TS) _ ([some (.ref p0), some v1, some v2, none, none] : L2.St) H
  refine k_set hG W hm sim_int ?_
  clear hG W hm
  intro most1424 v1425 S H hG W hm
  refine k_fold (σJ := (fun (bx1429 : Int) (wx1429 : V × Option V) => ([some (.ref p0), some v1, some v2, some (wx1429.1), wx1429.2] : L2.St))) (OJ := (fun (bx1429 : Int) (wx1429 : V × Option V) => ([c0] : Ow))) (Fb := (fun (bx1429 : Int) (wx1429 : V × Option V) => ([tInt.f bx1429 (wx1429.1)] : List Fact))) (σT := (fun b w (tx1429 : V) => ((fun (bx1429 : Int) (wx1429 : V × Option V) => ([some (.ref p0), some v1, some v2, some (wx1429.1), wx1429.2] : L2.St)) b w).set 4 (some tx1429))) ((v1425, (none)) : V × Option V) hG W hm (simI_range2 sim_int sim_int) (fun b w => tg_name) (fun b w => List.nil_sublist _) rfl rfl (fun S h => (Okc.cons (Okc.at 0 rfl h) h)) ?_ ?_
  · clear hG W hm
    intro S1 y1430 bx1429 b' wx1429 tx1429 S H hm hG W N hN
    refine k_if hG W hm (simT_test (sim_le (sim_call (simA_c (sim_var 6 rfl rfl) (simA_one (sim_var 0 rfl rfl)))) (sim_var 7 rfl rfl))) ?_ ?_
    · clear hG W hm
      intro S H hG W hm
      refine k_set hG W hm (sim_var 0 rfl rfl) ?_
      clear hG W hm
      intro most1438 v1439 S H hG W hm
      refine y_next ?_
      cases hm
      refine y_next ?_
      exact hN (v1439, (some (tx1429))) _ _ (Okc.cons (Okc.at 0 rfl hG) (Okc.dr 3 hG)) (W.pick [0] rfl)
    · clear hG W hm
      intro S H hG W hm
      refine y_next ?_
      cases hm
      refine y_next ?_
      exact hN (wx1429.1, (some (tx1429))) _ _ (Okc.cons (Okc.at 1 rfl hG) (Okc.dr 2 hG)) (W.pick [0] rfl)
  · clear hG W hm
    intro bx1429 wx1429 S H hm hG W
    refine e_if ?_
    refine e_test ?_
    refine e_op ?_
    refine e_call ?_
    refine e_cons ?_
    refine c_ref rfl ?_
    refine e_cons ?_
    refine c_pure hG W hm sim_int ?_
    clear hG W hm
    intro x1441 v1442 S H hG W hm
    refine e_nil ?_
    refine v_callO (g := bag_here1421) (a := x1441) hG W hm 0 4 rfl rfl rfl (fun S h => (ra_one (Okc.at 0 rfl h))) ?_
    clear hG W hm
    intro r1443 v1444 c1445 S H hG W hm
    refine c_pure hG W hm sim_int ?_
    clear hG W hm
    intro x1446 v1447 S H hG W hm
    refine x_op (σ := ([] : L2.St)) ?_
    refine c_pure hG W hm (sim_eqI (sim_K 1 rfl) (sim_K 0 rfl)) ?_
    clear hG W hm
    intro x1450 v1451 S H hG W hm
    refine y_bool hG 0 rfl ?_
    refine c_ite hm ?_ ?_
    · clear hm
      intro _ hm
      refine e_ret ?_
      refine c_pure hG W hm (sim_var 5 rfl rfl) ?_
      clear hG W hm
      intro r1452 v S H hG W hm
      cases hm
      exact k _ _ _ _ (Okc.at 8 rfl hG) (W.pick [0] rfl) (Okc.at 4 rfl hG) (Okc.at 0 rfl hG)
    · clear hm
      intro _ hm
      refine y_next ?_
      refine e_ret ?_
      refine e_op ?_
      refine c_pure hG W hm sim_int ?_
      clear hG W hm
      intro x1453 v1454 S H hG W hm
      refine e_call ?_
      refine e_cons ?_
      refine c_ref rfl ?_
      refine e_cons ?_
      refine c_ref rfl ?_
      refine e_nil ?_
      refine v_callO (g := r1443.2) (a := bx1429) hG W hm 0 4 rfl rfl rfl (fun S h => (ra_one (Okc.at 6 rfl h))) ?_
      clear hG W hm
      intro r1455 v1456 c1457 S H hG W hm
      refine x_op (σ := ([] : L2.St)) ?_
      refine c_pure hG W hm (sim_add (sim_K 2 rfl) (sim_K 0 rfl)) ?_
      clear hG W hm
      intro x1460 v1461 S H hG W hm
      cases hm
      exact k _ _ _ _ (Okc.at 11 rfl hG) (W.pick [0] rfl) (Okc.at 2 rfl hG) (Okc.at 0 rfl hG)
theorem sc__law_world : FnScope ["_law_bag_here", "_law_room", "_law_hues_here", "_law_count_here", "_law_line", "_law_wires_here"] ["_law_bag_here", "_law_room"] (defScope (top 72)) := ⟨rfl, rfl, rfl, by decide +kernel, rfl, by decide +kernel, by decide +kernel⟩
theorem ok__law_world (E : EnvF K mg) : Cal CX0 P w K mg base 4 "_law_world" (spO 0 (oRec k_bag A_bag) (TyA.one tInt) (fun g a => m__law_world g a) (tRec k_world A_world)) := by
  refine cal_mk (k := 3) E.d__law_world sc__law_world (fun vs H Q E h => by obtain ⟨S, F, p, c, g, a, r, hn, hA, _⟩ := h; obtain ⟨_, rfl, _⟩ := (spO_vs2_0 hn hA); rfl) (fun _ _ _ _ _ _ us hl => match us, hl with | [_, _], _ => rfl) ?_
  rintro f cdv A outer s H vs Q EX hr ⟨S, F, p0, c0, bag_here1462, room1463, out, hn, hA, hp0, W, hm, k⟩
  obtain ⟨v1, rfl, h1⟩ := (spO_vs2_0 hn hA)
  refine ⟨_, PSs.nox (pss_cons (ps_set (i := 2) sc__law_world.nd rfl (Or.inl rfl) (pe_cal (ok__law_hues E) (by exact hr) (by first | decide | omega) (by rfl) pass0 (pa_cons (pv 0) pa_nil))) (pss_cons (ps_set (i := 3) sc__law_world.nd rfl (Or.inl rfl) (pe_cal (ok__law_count E) (by exact hr) (by first | decide | omega) (by rfl) pass0 (pa_cons (pv 0) (pa_cons (pv 2) (pa_cons (pv 1) pa_nil))))) (pss_cons (ps_set (i := 4) sc__law_world.nd rfl (Or.inl rfl) (pe_cal (ok__law_shuffled E) (by exact hr) (by first | decide | omega) (by rfl) pass0 (pa_cons (pv 0) (pa_cons (pv 3) pa_nil)))) (pss_cons (ps_set (i := 5) sc__law_world.nd rfl (Or.inl rfl) (pe_cal (ok__law_wires E) (by exact hr) (by first | decide | omega) (by rfl) pass0 (pa_cons (pv 0) (pa_cons (pv 4) pa_nil)))) (pss_cons (ps_ret (pe_cal (ok__law_known E) (by exact hr) (by first | decide | omega) (by rfl) pass0 (pa_cons (pv 3) (pa_cons (pv 2) (pa_cons (pv 5) (pa_cons (pv 4) pa_nil)))))) pss_nil))))), ?_⟩
  have hG : Okc [fS S, (oRec k_bag A_bag).f bag_here1462 p0 c0, tInt.f room1463 v1] S := ⟨Same.refl _, hp0, h1, True.intro⟩
  have W : Wd S ([c0] ++ F) H := W
  show (_ : TS) _ ([some (.ref p0), some v1, none, none, none, none] : L2.St) H
  refine e_set ?_
  refine e_call ?_
  refine e_cons ?_
  refine c_ref rfl ?_
  refine e_nil ?_
  refine v_callO (g := bag_here1462) (a := ()) hG W hm 0 1 rfl rfl rfl (fun S h => ra_nil) ?_
  clear hG W hm
  intro r1464 v1465 c1466 S H hG W hm
  refine e_set ?_
  refine e_call ?_
  refine e_cons ?_
  refine c_ref rfl ?_
  refine e_cons ?_
  refine c_ref rfl ?_
  refine e_cons ?_
  refine c_ref rfl ?_
  refine e_nil ?_
  refine v_callO (g := r1464.2) (a := (r1464.1, room1463)) hG W hm 0 1 rfl rfl rfl (fun S h => (ra_c (Okc.at 0 rfl h) (ra_one (Okc.at 4 rfl h)))) ?_
  clear hG W hm
  intro r1467 v1468 c1469 S H hG W hm
  refine e_set ?_
  refine e_call ?_
  refine e_cons ?_
  refine c_ref rfl ?_
  refine e_cons ?_
  refine c_ref rfl ?_
  refine e_nil ?_
  refine v_callO (g := r1467.2) (a := r1467.1) hG W hm 0 1 rfl rfl rfl (fun S h => (ra_one (Okc.at 0 rfl h))) ?_
  clear hG W hm
  intro r1470 v1471 c1472 S H hG W hm
  refine e_set ?_
  refine e_call ?_
  refine e_cons ?_
  refine c_ref rfl ?_
  refine e_cons ?_
  refine c_ref rfl ?_
  refine e_nil ?_
  refine v_callO (g := r1470.2) (a := r1470.1) hG W hm 0 1 rfl rfl rfl (fun S h => (ra_one (Okc.at 0 rfl h))) ?_
  clear hG W hm
  intro r1473 v1474 c1475 S H hG W hm
  refine e_ret ?_
  refine c_pure hG W hm (sim_call (simA_c (sim_var 4 rfl rfl) (simA_c (sim_var 6 rfl rfl) (simA_c (sim_var 0 rfl rfl) (simA_one (sim_var 2 rfl rfl)))))) ?_
  clear hG W hm
  intro r1483 v S H hG W hm
  cases hm
  exact k _ _ _ _ (Okc.at 9 rfl hG) (W.pick [0] rfl) (Okc.at 2 rfl hG) (Okc.at 0 rfl hG)
theorem sc__law_large : FnScope ["_law_bag_here", "_law_least", "_law_hues_here", "_law_count_here", "_law_line", "_law_wires_here"] ["_law_bag_here", "_law_least"] (defScope (top 73)) := ⟨rfl, rfl, rfl, by decide +kernel, rfl, by decide +kernel, by decide +kernel⟩
theorem ok__law_large (E : EnvF K mg) : Cal CX0 P w K mg base 4 "_law_large" (spO 0 (oRec k_bag A_bag) (TyA.one tInt) (fun g a => m__law_large g a) (tRec k_world A_world)) := by
  refine cal_mk (k := 3) E.d__law_large sc__law_large (fun vs H Q E h => by obtain ⟨S, F, p, c, g, a, r, hn, hA, _⟩ := h; obtain ⟨_, rfl, _⟩ := (spO_vs2_0 hn hA); rfl) (fun _ _ _ _ _ _ us hl => match us, hl with | [_, _], _ => rfl) ?_
  rintro f cdv A outer s H vs Q EX hr ⟨S, F, p0, c0, bag_here1484, least1485, out, hn, hA, hp0, W, hm, k⟩
  obtain ⟨v1, rfl, h1⟩ := (spO_vs2_0 hn hA)
  refine ⟨_, PSs.nox (pss_cons (ps_set (i := 2) sc__law_large.nd rfl (Or.inl rfl) (pe_cal (ok__law_hues E) (by exact hr) (by first | decide | omega) (by rfl) pass0 (pa_cons (pv 0) pa_nil))) (pss_cons (ps_set (i := 3) sc__law_large.nd rfl (Or.inl rfl) (pe_op op_add (pv 1) (pe_cal (ok__law_draw E) (by exact hr) (by first | decide | omega) (by rfl) pass0 (pa_cons (pv 0) (pa_cons (pe_op op_sub pe_int (pv 1)) pa_nil))))) (pss_cons (ps_set (i := 4) sc__law_large.nd rfl (Or.inl rfl) (pe_cal (ok__law_shuffled E) (by exact hr) (by first | decide | omega) (by rfl) pass0 (pa_cons (pv 0) (pa_cons (pv 3) pa_nil)))) (pss_cons (ps_set (i := 5) sc__law_large.nd rfl (Or.inl rfl) (pe_cal (ok__law_wires E) (by exact hr) (by first | decide | omega) (by rfl) pass0 (pa_cons (pv 0) (pa_cons (pv 4) pa_nil)))) (pss_cons (ps_ret (pe_cal (ok__law_known E) (by exact hr) (by first | decide | omega) (by rfl) pass0 (pa_cons (pv 3) (pa_cons (pv 2) (pa_cons (pv 5) (pa_cons (pv 4) pa_nil)))))) pss_nil))))), ?_⟩
  have hG : Okc [fS S, (oRec k_bag A_bag).f bag_here1484 p0 c0, tInt.f least1485 v1] S := ⟨Same.refl _, hp0, h1, True.intro⟩
  have W : Wd S ([c0] ++ F) H := W
  show (_ : TS) _ ([some (.ref p0), some v1, none, none, none, none] : L2.St) H
  refine e_set ?_
  refine e_call ?_
  refine e_cons ?_
  refine c_ref rfl ?_
  refine e_nil ?_
  refine v_callO (g := bag_here1484) (a := ()) hG W hm 0 1 rfl rfl rfl (fun S h => ra_nil) ?_
  clear hG W hm
  intro r1486 v1487 c1488 S H hG W hm
  refine e_set ?_
  refine e_op ?_
  refine c_ref rfl ?_
  refine e_call ?_
  refine e_cons ?_
  refine c_ref rfl ?_
  refine e_cons ?_
  refine c_pure hG W hm (sim_sub sim_int (sim_var 4 rfl rfl)) ?_
  clear hG W hm
  intro x1491 v1492 S H hG W hm
  refine e_nil ?_
  refine v_callO (g := r1486.2) (a := x1491) hG W hm 0 2 rfl rfl rfl (fun S h => (ra_one (Okc.at 0 rfl h))) ?_
  clear hG W hm
  intro r1493 v1494 c1495 S H hG W hm
  refine x_op (σ := ([] : L2.St)) ?_
  refine c_pure hG W hm (sim_add (sim_K 7 rfl) (sim_K 0 rfl)) ?_
  clear hG W hm
  intro x1498 v1499 S H hG W hm
  refine e_set ?_
  refine e_call ?_
  refine e_cons ?_
  refine c_ref rfl ?_
  refine e_cons ?_
  refine c_ref rfl ?_
  refine e_nil ?_
  refine v_callO (g := r1493.2) (a := x1498) hG W hm 0 2 rfl rfl rfl (fun S h => (ra_one (Okc.at 0 rfl h))) ?_
  clear hG W hm
  intro r1500 v1501 c1502 S H hG W hm
  refine e_set ?_
  refine e_call ?_
  refine e_cons ?_
  refine c_ref rfl ?_
  refine e_cons ?_
  refine c_ref rfl ?_
  refine e_nil ?_
  refine v_callO (g := r1500.2) (a := r1500.1) hG W hm 0 1 rfl rfl rfl (fun S h => (ra_one (Okc.at 0 rfl h))) ?_
  clear hG W hm
  intro r1503 v1504 c1505 S H hG W hm
  refine e_ret ?_
  refine c_pure hG W hm (sim_call (simA_c (sim_var 4 rfl rfl) (simA_c (sim_var 8 rfl rfl) (simA_c (sim_var 0 rfl rfl) (simA_one (sim_var 2 rfl rfl)))))) ?_
  clear hG W hm
  intro r1513 v S H hG W hm
  cases hm
  exact k _ _ _ _ (Okc.at 11 rfl hG) (W.pick [0] rfl) (Okc.at 2 rfl hG) (Okc.at 0 rfl hG)
theorem sc__law_any : FnScope ["_law_bag_here"] ["_law_bag_here"] (defScope (top 74)) := ⟨rfl, rfl, rfl, by decide +kernel, rfl, by decide +kernel, by decide +kernel⟩
theorem ok__law_any (E : EnvF K mg) : Cal CX0 P w K mg base 5 "_law_any" (spO 0 (oRec k_bag A_bag) TyA.nil (fun g _ => m__law_any g) (tRec k_world A_world)) := by
  refine cal_mk (k := 4) E.d__law_any sc__law_any (fun vs H Q E h => by obtain ⟨S, F, p, c, g, a, r, hn, hA, _⟩ := h; obtain rfl := (spO_vs1_0 hn hA); rfl) (fun _ _ _ _ _ _ us hl => match us, hl with | [_], _ => rfl) ?_
  rintro f cdv A outer s H vs Q EX hr ⟨S, F, p0, c0, bag_here1514, _, out, hn, hA, hp0, W, hm, k⟩
  obtain rfl := (spO_vs1_0 hn hA)
  refine ⟨_, PSs.nox (pss_cons (ps_if (pt_cmpR op_eq (pe_cal (ok__law_draw E) (by exact hr) (by first | decide | omega) (by rfl) pass0 (pa_cons (pv 0) (pa_cons pe_int pa_nil))) pe_int (nomark _)) (pss_cons (ps_ret (pe_cal (ok__law_large E) (by exact hr) (by first | decide | omega) (by rfl) pass0 (pa_cons (pv 0) (pa_cons pe_int pa_nil)))) pss_nil) pss_nil) (pss_cons (ps_ret (pe_cal (ok__law_world E) (by exact hr) (by first | decide | omega) (by rfl) pass0 (pa_cons (pv 0) (pa_cons pe_int pa_nil)))) pss_nil)), ?_⟩
  have hG : Okc [fS S, (oRec k_bag A_bag).f bag_here1514 p0 c0] S := ⟨Same.refl _, hp0, True.intro⟩
  have W : Wd S ([c0] ++ F) H := W
  show (_ : TS) _ ([some (.ref p0)] : L2.St) H
  refine e_if ?_
  refine e_test ?_
  refine e_op ?_
  refine e_call ?_
  refine e_cons ?_
  refine c_ref rfl ?_
  refine e_cons ?_
  refine c_pure hG W hm sim_int ?_
  clear hG W hm
  intro x1516 v1517 S H hG W hm
  refine e_nil ?_
  refine v_callO (g := bag_here1514) (a := x1516) hG W hm 0 2 rfl rfl rfl (fun S h => (ra_one (Okc.at 0 rfl h))) ?_
  clear hG W hm
  intro r1518 v1519 c1520 S H hG W hm
  refine c_pure hG W hm sim_int ?_
  clear hG W hm
  intro x1521 v1522 S H hG W hm
  refine x_op (σ := ([] : L2.St)) ?_
  refine c_pure hG W hm (sim_eqI (sim_K 1 rfl) (sim_K 0 rfl)) ?_
  clear hG W hm
  intro x1525 v1526 S H hG W hm
  refine y_bool hG 0 rfl ?_
  refine c_ite hm ?_ ?_
  · clear hm
    intro _ hm
    refine e_ret ?_
    refine e_call ?_
    refine e_cons ?_
    refine c_ref rfl ?_
    refine e_cons ?_
    refine c_pure hG W hm sim_int ?_
    clear hG W hm
    intro x1527 v1528 S H hG W hm
    refine e_nil ?_
    refine v_callO (g := r1518.2) (a := x1527) hG W hm 0 4 rfl rfl rfl (fun S h => (ra_one (Okc.at 0 rfl h))) ?_
    clear hG W hm
    intro r1529 v1530 c1531 S H hG W hm
    cases hm
    exact k _ _ _ _ (Okc.at 8 rfl hG) (W.pick [0] rfl) (Okc.at 1 rfl hG) (Okc.at 0 rfl hG)
  · clear hm
    intro _ hm
    refine y_next ?_
    refine e_ret ?_
    refine e_call ?_
    refine e_cons ?_
    refine c_ref rfl ?_
    refine e_cons ?_
    refine c_pure hG W hm sim_int ?_
    clear hG W hm
    intro x1532 v1533 S H hG W hm
    refine e_nil ?_
    refine v_callO (g := r1518.2) (a := x1532) hG W hm 0 4 rfl rfl rfl (fun S h => (ra_one (Okc.at 0 rfl h))) ?_
    clear hG W hm
    intro r1534 v1535 c1536 S H hG W hm
    cases hm
    exact k _ _ _ _ (Okc.at 8 rfl hG) (W.pick [0] rfl) (Okc.at 1 rfl hG) (Okc.at 0 rfl hG)
theorem sc__law_state : FnScope ["_law_bag_here", "_law_world_here", "_law_lamp"] ["_law_bag_here", "_law_world_here"] (defScope (top 75)) := ⟨rfl, rfl, rfl, by decide +kernel, rfl, by decide +kernel, by decide +kernel⟩
theorem ok__law_state (E : EnvF K mg) : Cal CX0 P w K mg base 2 "_law_state" (spO 0 (oRec k_bag A_bag) (TyA.one (tRec k_world A_world)) (fun g a => m__law_state g a) (tT tInt)) := by
  refine cal_mk (k := 1) E.d__law_state sc__law_state (fun vs H Q E h => by obtain ⟨S, F, p, c, g, a, r, hn, hA, _⟩ := h; obtain ⟨_, rfl, _⟩ := (spO_vs2_0 hn hA); rfl) (fun _ _ _ _ _ _ us hl => match us, hl with | [_, _], _ => rfl) ?_
  rintro f cdv A outer s H vs Q EX hr ⟨S, F, p0, c0, bag_here1537, world_here1538, out, hn, hA, hp0, W, hm, k⟩
  obtain ⟨v1, rfl, h1⟩ := (spO_vs2_0 hn hA)
  refine ⟨_, PSs.nox (pss_cons (ps_ret (pe_callTy (call_tupleK (K := K)) rfl (by exact E.g_tuple) (by decide +kernel) (pa_cons (pe_lc (own := [("_law_lamp", 2)]) rfl sc__law_state.nd (pi_range1 rfl (by exact E.g_range) (pa_cons (pe_dget (by exact hu_of hr) (pv 1) pe_str (by intro _ _; rfl)) pa_nil)) (blkOk_by (N := ["_law_bag_here", "_law_world_here", "_law_lamp"]) (sc := defScope (top 75)) (by decide +kernel)) (fun _ _ _ _ _ => (pg_name (i := 2) sc__law_state.nd rfl (Or.inl rfl))) (fun _ _ _ _ _ => pts_nil) (fun _ _ _ _ _ => (pe_cal (ok__law_draw E) (by exact hr) (by first | decide | omega) (by rfl) pass0 (pa_cons (pv 0) (pa_cons (pe_dget (by exact hu_of hr) (pv 1) pe_str (by intro _ _; rfl)) pa_nil))))) pa_nil))) pss_nil), ?_⟩
  have hG : Okc [fS S, (oRec k_bag A_bag).f bag_here1537 p0 c0, (tRec k_world A_world).f world_here1538 v1] S := ⟨Same.refl _, hp0, h1, True.intro⟩
  have W : Wd S ([c0] ++ F) H := W
  show (_ : TS) _ ([some (.ref p0), some v1, none] : L2.St) H
  refine e_ret ?_
  refine y_cb1 ?_
  refine c_lcE (U := tInt) hG W hm 0 1 rfl rfl (simI_range1 (sim_get pj_0 rfl (sim_var 2 rfl rfl))) tg_name (fun _ => rfl) ?_ ?_
  · clear hG W hm
    intro y1541 w bag_here1542 c1543 S H F _ hm hG W Q hQ
    refine e_call ?_
    refine e_cons ?_
    refine c_ref rfl ?_
    refine e_cons ?_
    refine c_pure hG W hm (sim_get (pj_s pj_0) rfl (sim_var 5 rfl rfl)) ?_
    clear hG W hm
    intro x1545 v1546 S H hG W hm
    refine e_nil ?_
    refine v_callO (g := bag_here1542) (a := x1545) hG W hm 0 2 rfl rfl rfl (fun S h => (ra_one (Okc.at 0 rfl h))) ?_
    clear hG W hm
    intro r1547 v1548 c1549 S H hG W hm
    cases hm
    exact hQ _ _ _ _ (Okc.at 5 rfl hG) W (Okc.at 1 rfl hG) (Okc.at 0 rfl hG)
  · clear hG W hm
    intro r1551 p1552 c1553 c1554 S H hG W hm
    refine c_pure hG W hm (sim_tuple (sim_Kown 0 0 rfl rfl)) ?_
    clear hG W hm
    intro x1555 v1556 S H hG W hm
    cases hm
    exact k _ _ _ _ (Okc.at 3 rfl hG) (W.pick [1] rfl) (Okc.at 2 rfl hG) (Okc.at 0 rfl hG)
theorem sc__law_moved : FnScope ["_law_world_here", "_law_state_here", "_law_lamp", "_law_row", "_law_lower"] ["_law_world_here", "_law_state_here", "_law_lamp"] (defScope (top 76)) := ⟨rfl, rfl, rfl, by decide +kernel, rfl, by decide +kernel, by decide +kernel⟩
theorem ok__law_moved (E : EnvF K mg) : Cal CX0 P w K mg base 1 "_law_moved" (spP (TyA.c (tRec k_world A_world) (TyA.c (tT tInt) (TyA.one tInt))) (fun a => m__law_moved a.1 a.2.1 a.2.2) (tT tInt)) := by
  refine cal_mk (k := 0) E.d__law_moved sc__law_moved (fun vs H Q E h => by obtain ⟨S, F, a, r, ⟨_, _, rfl, _, ⟨_, _, rfl, _, ⟨_, rfl, _⟩⟩⟩, _⟩ := h; rfl) (fun _ _ _ _ _ _ us hl => match us, hl with | [_, _, _], _ => rfl) ?_
  rintro f cdv A outer s H vs Q EX hr ⟨S, F, ⟨world_here1557, state_here1558, lamp1559⟩, out, ⟨v0, _, rfl, h0, ⟨v1, _, rfl, h1, ⟨v2, rfl, h2⟩⟩⟩, W, hm, k⟩
  refine ⟨_, PSs.nox (pss_cons (ps_set (i := 3) sc__law_moved.nd rfl (Or.inl rfl) (pe_callTy (call_listK (K := K)) rfl (by exact E.g_list) (by decide +kernel) (pa_cons (pv 1) pa_nil))) (pss_cons (ps_asg (pe_op op_sub (pe_ix (ix_listK (K := K)) (pv 3) (pv 2) (by intro _ _; rfl)) pe_int) (pg_sub (pv 3) (pv 2) set_list)) (pss_cons (ps_for PassesOwn.never rfl (pi_listK (K := K) (pe_ix (ix_listK (K := K)) (pe_dget (by exact hu_of hr) (pv 0) pe_str (by intro _ _; rfl)) (pv 2) (by intro _ _; rfl))) (pg_name (i := 4) sc__law_moved.nd rfl (Or.inl rfl)) (pss_cons (ps_asg (pe_op op_mod (pe_callTy call_int1 rfl (by exact E.g_int) (by decide +kernel) (pa_cons (pe_op op_sub (pe_ix (ix_listK (K := K)) (pv 3) (pv 4) (by intro _ _; rfl)) pe_int) pa_nil)) (pe_dget (by exact hu_of hr) (pv 0) pe_str (by intro _ _; rfl))) (pg_sub (pv 3) (pv 4) set_list)) pss_nil)) (pss_cons (ps_ret (pe_callTy (call_tupleK (K := K)) rfl (by exact E.g_tuple) (by decide +kernel) (pa_cons (pv 3) pa_nil))) pss_nil)))), ?_⟩
  have hG : Okc [fS S, (tRec k_world A_world).f world_here1557 v0, (tT tInt).f state_here1558 v1, tInt.f lamp1559 v2] S := ⟨Same.refl _, h0, h1, h2, True.intro⟩
  have W : Wd S (([] : Ow) ++ F) H := W
  show (_ : TS) _ ([some v0, some v1, some v2, none, none] : L2.St) H
  refine k_setO hG W hm (simF_listT (sim_var 2 rfl rfl)) ?_
  clear hG W hm
  intro row1560 p1562 c1563 S H hG W hm
  refine k_put hG W hm 0 0 rfl rfl rfl (sim_sub (sim_ix (sim_own 0 0 rfl rfl rfl) (sim_var 4 rfl rfl)) sim_int) (sim_var 4 rfl rfl) ?_
  clear hG W hm
  intro row1570 c1571 S H hG W hm
  refine k_fold (σJ := (fun (bx1575 : (List Int)) (wx1575 : List Cell × Option V) => ([some v0, some v1, some v2, some (.ref p1562), wx1575.2] : L2.St))) (OJ := (fun (bx1575 : (List Int)) (wx1575 : List Cell × Option V) => ([wx1575.1] : Ow))) (Fb := (fun (bx1575 : (List Int)) (wx1575 : List Cell × Option V) => ([(oL tInt).f bx1575 p1562 (wx1575.1)] : List Fact))) (σT := (fun b w (tx1575 : V) => ((fun (bx1575 : (List Int)) (wx1575 : List Cell × Option V) => ([some v0, some v1, some v2, some (.ref p1562), wx1575.2] : L2.St)) b w).set 4 (some tx1575))) ((c1571, (none)) : List Cell × Option V) hG W hm (simI_list (sim_ix (sim_get (pj_s (pj_s (pj_s (pj_s pj_0)))) rfl (sim_var 3 rfl rfl)) (sim_var 5 rfl rfl))) (fun b w => tg_name) (fun b w => List.nil_sublist _) rfl rfl (fun S h => (Okc.cons (Okc.at 0 rfl h) h)) ?_ ?_
  · clear hG W hm
    intro S1 y1576 bx1575 b' wx1575 tx1575 S H hm hG W N hN
    refine k_put hG W hm 0 1 rfl rfl rfl (sim_mod (sim_intI (sim_sub (sim_ix (sim_own 0 1 rfl rfl rfl) (sim_var 0 rfl rfl)) sim_int)) (sim_get (pj_s pj_0) rfl (sim_var 6 rfl rfl))) (sim_var 0 rfl rfl) ?_
    clear hG W hm
    intro row1587 c1588 S H hG W hm
    cases hm
    refine y_next ?_
    exact hN (c1588, (some (tx1575))) _ _ (Okc.cons (Okc.at 0 rfl hG) (Okc.dr 3 hG)) (W.pick [0] rfl)
  · clear hG W hm
    intro bx1575 wx1575 S H hm hG W
    exact k_ret hG W hm (sim_tuple (sim_own 0 0 rfl rfl rfl)) (fun v S H hG W hr => k v S H (Okc.at 3 rfl hG) (W.pick [] rfl) hr)
theorem sc__law_lit_beneath : FnScope ["_law_world_here", "_law_state_here", "_law_lamp", "_law_lower"] ["_law_world_here", "_law_state_here", "_law_lamp"] (defScope (top 77)) := ⟨rfl, rfl, rfl, by decide +kernel, rfl, by decide +kernel, by decide +kernel⟩
theorem ok__law_lit_beneath (E : EnvF K mg) : Cal CX0 P w K mg base 1 "_law_lit_beneath" (spP (TyA.c (tRec k_world A_world) (TyA.c (tT tInt) (TyA.one tInt))) (fun a => m__law_lit_beneath a.1 a.2.1 a.2.2) (tL tInt)) := by
  refine cal_mk (k := 0) E.d__law_lit_beneath sc__law_lit_beneath (fun vs H Q E h => by obtain ⟨S, F, a, r, ⟨_, _, rfl, _, ⟨_, _, rfl, _, ⟨_, rfl, _⟩⟩⟩, _⟩ := h; rfl) (fun _ _ _ _ _ _ us hl => match us, hl with | [_, _, _], _ => rfl) ?_
  rintro f cdv A outer s H vs Q EX hr ⟨S, F, ⟨world_here1589, state_here1590, lamp1591⟩, out, ⟨v0, _, rfl, h0, ⟨v1, _, rfl, h1, ⟨v2, rfl, h2⟩⟩⟩, W, hm, k⟩
  refine ⟨_, PSs.nox (pss_cons (ps_ret (pe_lc (own := [("_law_lower", 3)]) rfl sc__law_lit_beneath.nd (pi_listK (K := K) (pe_ix (ix_listK (K := K)) (pe_dget (by exact hu_of hr) (pv 0) pe_str (by intro _ _; rfl)) (pv 2) (by intro _ _; rfl))) (blkOk_by (N := ["_law_world_here", "_law_state_here", "_law_lamp", "_law_lower"]) (sc := defScope (top 77)) (by decide +kernel)) (fun _ _ _ _ _ => (pg_name (i := 3) sc__law_lit_beneath.nd rfl (Or.inl rfl))) (fun _ _ _ _ _ => (pts_one (pt_cmpR op_gt (pe_ix (ix_tupK (K := K)) (pv 1) (pv 3) (by intro _ _; rfl)) pe_int (nomark _)))) (fun _ _ _ _ _ => (pv 3)))) pss_nil), ?_⟩
  have hG : Okc [fS S, (tRec k_world A_world).f world_here1589 v0, (tT tInt).f state_here1590 v1, tInt.f lamp1591 v2] S := ⟨Same.refl _, h0, h1, h2, True.intro⟩
  have W : Wd S (([] : Ow) ++ F) H := W
  show (_ : TS) _ ([some v0, some v1, some v2, none] : L2.St) H
  exact k_ret hG W hm (SimF.sim (simF_lc (simI_list (sim_ix (sim_get (pj_s (pj_s (pj_s (pj_s pj_0)))) rfl (sim_var 1 rfl rfl)) (sim_var 3 rfl rfl))) tg_name (fun _ => rfl) (List.nil_sublist _) (fun a w => (simT_test (sim_gt (sim_ixT (sim_var 3 rfl rfl) (sim_var 0 rfl rfl)) sim_int))) (fun a w => (sim_var 0 rfl rfl)))) (fun v S H hG W hr => k v S H (Okc.at 0 rfl hG) (W.pick [] rfl) hr)
theorem sc__law_may : FnScope ["_law_world_here", "_law_state_here", "_law_lamp", "_law_strict"] ["_law_world_here", "_law_state_here", "_law_lamp", "_law_strict"] (defScope (top 78)) := ⟨rfl, rfl, rfl, by decide +kernel, rfl, by decide +kernel, by decide +kernel⟩
theorem ok__law_may (E : EnvF K mg) : Cal CX0 P w K mg base 2 "_law_may" (spP (TyA.c (tRec k_world A_world) (TyA.c (tT tInt) (TyA.c tInt (TyA.one tBool)))) (fun a => m__law_may a.1 a.2.1 a.2.2.1 a.2.2.2) tBool) := by
  refine cal_mk (k := 1) E.d__law_may sc__law_may (fun vs H Q E h => by obtain ⟨S, F, a, r, ⟨_, _, rfl, _, ⟨_, _, rfl, _, ⟨_, _, rfl, _, ⟨_, rfl, _⟩⟩⟩⟩, _⟩ := h; rfl) (fun _ _ _ _ _ _ us hl => match us, hl with | [_, _, _, _], _ => rfl) ?_
  rintro f cdv A outer s H vs Q EX hr ⟨S, F, ⟨world_here1601, state_here1602, lamp1603, strict1604⟩, out, ⟨v0, _, rfl, h0, ⟨v1, _, rfl, h1, ⟨v2, _, rfl, h2, ⟨v3, rfl, h3⟩⟩⟩⟩, W, hm, k⟩
  refine ⟨_, PSs.nox (pss_cons (ps_if (pt_cmpR op_lt (pe_ix (ix_tupK (K := K)) (pv 1) (pv 2) (by intro _ _; rfl)) pe_int (nomark _)) (pss_cons (ps_ret pe_bl) pss_nil) pss_nil) (pss_cons (ps_ret (pe_or (pe_not (pv 3)) (pe_one (pe_cmpR (op_eqDK (K := K) (by exact hu64 hr)) (pe_cal (ok__law_lit_beneath E) (by exact hr) (by first | decide | omega) (by rfl) pass0 (pa_cons (pv 0) (pa_cons (pv 1) (pa_cons (pv 2) pa_nil)))) (pe_lst pa_nil) (nomark _))))) pss_nil)), ?_⟩
  have hG : Okc [fS S, (tRec k_world A_world).f world_here1601 v0, (tT tInt).f state_here1602 v1, tInt.f lamp1603 v2, tBool.f strict1604 v3] S := ⟨Same.refl _, h0, h1, h2, h3, True.intro⟩
  have W : Wd S (([] : Ow) ++ F) H := W
  show (_ : TS) _ ([some v0, some v1, some v2, some v3] : L2.St) H
  refine k_if hG W hm (simT_test (sim_lt (sim_ixT (sim_var 2 rfl rfl) (sim_var 3 rfl rfl)) sim_int)) ?_ ?_
  · clear hG W hm
    intro S H hG W hm
    exact k_ret hG W hm sim_bl (fun v S H hG W hr => k v S H (Okc.at 0 rfl hG) (W.pick [] rfl) hr)
  · clear hG W hm
    intro S H hG W hm
    refine y_next ?_
    exact k_ret hG W hm (sim_orV (sim_notV (sim_var 4 rfl rfl)) (sim_eqD (sim_call (simA_c (sim_var 1 rfl rfl) (simA_c (sim_var 2 rfl rfl) (simA_one (sim_var 3 rfl rfl))))) (SimF.sim (simF_lst (T := tInt) simA_ln0)))) (fun v S H hG W hr => k v S H (Okc.at 0 rfl hG) (W.pick [] rfl) hr)
theorem sc__law_run : FnScope ["_law_bag_here", "_law_world_here", "_law_state_here", "_law_strict", "_law_most", "_law_trail", "_law_k", "_law_ready", "_law_lamp"] ["_law_bag_here", "_law_world_here", "_law_state_here", "_law_strict", "_law_most"] (defScope (top 79)) := ⟨rfl, rfl, rfl, by decide +kernel, rfl, by decide +kernel, by decide +kernel⟩
theorem ok__law_run (E : EnvF K mg) : Cal CX0 P w K mg base 3 "_law_run" (spO 0 (oRec k_bag A_bag) (TyA.c (tRec k_world A_world) (TyA.c (tT tInt) (TyA.c tBool (TyA.one tInt)))) (fun g a => m__law_run g a.1 a.2.1 a.2.2.1 a.2.2.2) (tL tInt)) := by
  refine cal_mk (k := 2) E.d__law_run sc__law_run (fun vs H Q E h => by obtain ⟨S, F, p, c, g, a, r, hn, hA, _⟩ := h; obtain ⟨_, _, _, _, rfl, _⟩ := (spO_vs5_0 hn hA); rfl) (fun _ _ _ _ _ _ us hl => match us, hl with | [_, _, _, _, _], _ => rfl) ?_
  rintro f cdv A outer s H vs Q EX hr ⟨S, F, p0, c0, bag_here1619, ⟨world_here1620, state_here1621, strict1622, most1623⟩, out, hn, hA, hp0, W, hm, k⟩
  obtain ⟨v1, v2, v3, v4, rfl, h1, h2, h3, h4⟩ := (spO_vs5_0 hn hA)
  refine ⟨_, PSs.nox (pss_cons (ps_set (i := 5) sc__law_run.nd rfl (Or.inl rfl) (pe_lst pa_nil)) (pss_cons (ps_for PassesOwn.never rfl (pi_range1 rfl (by exact E.g_range) (pa_cons (pe_cal (ok__law_draw E) (by exact hr) (by first | decide | omega) (by rfl) pass0 (pa_cons (pv 0) (pa_cons (pe_op op_add (pv 4) pe_int) pa_nil))) pa_nil)) (pg_name (i := 6) sc__law_run.nd rfl (Or.inl rfl)) (pss_cons (ps_setLc (i := 7) (own := [("_law_lamp", 8)]) rfl sc__law_run.nd rfl rfl (sw_true rfl rfl rfl (by decide +kernel)) (pi_range1 rfl (by exact E.g_range) (pa_cons (pe_dget (by exact hu_of hr) (pv 1) pe_str (by intro _ _; rfl)) pa_nil)) (blkOk_by (N := ["_law_bag_here", "_law_world_here", "_law_state_here", "_law_strict", "_law_most", "_law_trail", "_law_k", "_law_ready", "_law_lamp"]) (sc := defScope (top 79)) (by decide +kernel)) (fun _ _ _ _ _ => (pg_name (i := 8) sc__law_run.nd rfl (Or.inl rfl))) (fun _ _ _ _ _ => (pts_one (pt_val (pe_cal (ok__law_may E) (by exact hr) (by first | decide | omega) (by rfl) pass0 (pa_cons (pv 1) (pa_cons (pv 2) (pa_cons (pv 8) (pa_cons (pv 3) pa_nil)))))))) (fun _ _ _ _ _ => (pv 8))) (pss_cons (ps_if (pt_cmpR (op_eqDK (K := K) (by exact hu64 hr)) (pv 7) (pe_lst pa_nil) (nomark _)) (pss_cons ps_break pss_nil) pss_nil) (pss_cons (ps_set (i := 8) sc__law_run.nd rfl (Or.inl rfl) (pe_ix (ix_listK (K := K)) (pv 7) (pe_cal (ok__law_draw E) (by exact hr) (by first | decide | omega) (by rfl) pass0 (pa_cons (pv 0) (pa_cons (pe_callB (call_lenK (K := K)) rfl (by exact E.g_len) boot_len (pa_cons (pv 7) pa_nil)) pa_nil))) (by intro _ _; rfl))) (pss_cons (ps_expr (pe_bmK (K := K) PySem.F.plainAttrs_list PySem.F.slot_list_append PySem.F.type_list_append mt_append (pv 5) (pa_cons (pv 8) pa_nil))) (pss_cons (ps_set (i := 2) sc__law_run.nd rfl (Or.inr rfl) (pe_cal (ok__law_moved E) (by exact hr) (by first | decide | omega) (by rfl) pass0 (pa_cons (pv 1) (pa_cons (pv 2) (pa_cons (pv 8) pa_nil))))) pss_nil)))))) (pss_cons (ps_ret (pv 5)) pss_nil))), ?_⟩
  have hG : Okc [fS S, (oRec k_bag A_bag).f bag_here1619 p0 c0, (tRec k_world A_world).f world_here1620 v1, (tT tInt).f state_here1621 v2, tBool.f strict1622 v3, tInt.f most1623 v4] S := ⟨Same.refl _, hp0, h1, h2, h3, h4, True.intro⟩
  have W : Wd S ([c0] ++ F) H := W
  show (_ : TS) _ ([some (.ref p0), some v1, some v2, some v3, some v4, none, none, none, none] : L2.St) H
  refine k_setO hG W hm (simF_lst (T := tInt) simA_ln0) ?_
  clear hG W hm
  intro trail1624 p1626 c1627 S H hG W hm
  refine e_forR ?_
  refine e_call ?_
  refine e_cons ?_
  refine c_ref rfl ?_
  refine e_cons ?_
  refine c_pure hG W hm (sim_add (sim_var 6 rfl rfl) sim_int) ?_
  clear hG W hm
  intro x1630 v1631 S H hG W hm
  refine e_nil ?_
  refine v_callO (g := bag_here1619) (a := x1630) hG W hm 1 3 rfl rfl rfl (fun S h => (ra_one (Okc.at 0 rfl h))) ?_
  clear hG W hm
  intro r1632 v1633 c1634 S H hG W hm
  refine k_forK (σJ := (fun (bx1636 : R_bag × (List Int) × (List Int)) (wx1636 : List Cell × V × List Cell × Option V × Option V × Option V) => ([some (.ref p0), some v1, some (wx1636.2.1), some v3, some v4, some (.ref p1626), wx1636.2.2.2.1, wx1636.2.2.2.2.1, wx1636.2.2.2.2.2] : L2.St))) (OJ := (fun (bx1636 : R_bag × (List Int) × (List Int)) (wx1636 : List Cell × V × List Cell × Option V × Option V × Option V) => ([wx1636.2.2.1, wx1636.1] : Ow))) (Fb := (fun (bx1636 : R_bag × (List Int) × (List Int)) (wx1636 : List Cell × V × List Cell × Option V × Option V × Option V) => ([(oRec k_bag A_bag).f bx1636.1 p0 (wx1636.1), (tT tInt).f bx1636.2.1 (wx1636.2.1), (oL tInt).f bx1636.2.2 p1626 (wx1636.2.2.1)] : List Fact))) (σT := (fun b w (tx1636 : V) => ((fun (bx1636 : R_bag × (List Int) × (List Int)) (wx1636 : List Cell × V × List Cell × Option V × Option V × Option V) => ([some (.ref p0), some v1, some (wx1636.2.1), some v3, some v4, some (.ref p1626), wx1636.2.2.2.1, wx1636.2.2.2.2.1, wx1636.2.2.2.2.2] : L2.St)) b w).set 6 (some tx1636))) ((c1634, v2, c1627, (none), (none), (none)) : List Cell × V × List Cell × Option V × Option V × Option V) hG W hm (simI_range1 (sim_K 0 rfl)) (fun b w => tg_name) (fun b w => List.nil_sublist _) rfl rfl (fun S h => (Okc.cons (Okc.at 1 rfl h) (Okc.cons (Okc.at 7 rfl h) (Okc.cons (Okc.at 3 rfl h) h)))) ?_ ?_
  · clear hG W hm
    intro S1 y1637 bx1636 wx1636 tx1636 S H k1639 hm hG W Nx1636 hNx1636 hBx1636
    refine k_set hG W hm (SimF.sim (simF_lc (simI_range1 (sim_get pj_0 rfl (sim_var 11 rfl rfl))) tg_name (fun _ => rfl) (List.nil_sublist _) (fun a w => (simT_B (sim_call (simA_c (sim_var 12 rfl rfl) (simA_c (sim_var 3 rfl rfl) (simA_c (sim_var 0 rfl rfl) (simA_one (sim_var 14 rfl rfl)))))))) (fun a w => (sim_var 0 rfl rfl)))) ?_
    clear hG W hm
    intro ready1652 v1653 S H hG W hm
    refine k_if hG W hm (simT_test (sim_eqD (sim_var 0 rfl rfl) (SimF.sim (simF_lst (T := tInt) simA_ln0)))) ?_ ?_
    · clear hG W hm
      intro S H hG W hm
      refine x_break ?_
      exact hBx1636 _ (wx1636.1, wx1636.2.1, wx1636.2.2.1, (some (tx1636)), (some (v1653)), (wx1636.2.2.2.2.2)) _ _ hm (Okc.cons (Okc.at 2 rfl hG) (Okc.cons (Okc.at 3 rfl hG) (Okc.cons (Okc.at 4 rfl hG) (Okc.dr 5 hG)))) (W.pick [0, 0] rfl)
    · clear hG W hm
      intro S H hG W hm
      refine y_next ?_
      refine e_set ?_
      refine e_op ?_
      refine c_ref rfl ?_
      refine e_call ?_
      refine e_cons ?_
      refine c_ref rfl ?_
      refine e_cons ?_
      refine c_pure hG W hm (sim_len (sim_var 0 rfl rfl)) ?_
      clear hG W hm
      intro x1658 v1659 S H hG W hm
      refine e_nil ?_
      refine v_callO (g := bx1636.1) (a := x1658) hG W hm 1 3 rfl rfl rfl (fun S h => (ra_one (Okc.at 0 rfl h))) ?_
      clear hG W hm
      intro r1660 v1661 c1662 S H hG W hm
      refine x_op (σ := ([] : L2.St)) ?_
      refine c_pure hG W hm (sim_ix (sim_K 3 rfl) (sim_K 0 rfl)) ?_
      clear hG W hm
      intro x1665 v1666 S H hG W hm
      refine k_app hG W hm 0 8 rfl rfl rfl (sim_var 0 rfl rfl) ?_
      clear hG W hm
      intro y1667 c1669 S H hG W hm
      revert hG hm; generalize (bx1636.2.2 ++ [y1667]) = trail1668; intro hG hm
      refine k_set hG W hm (sim_call (simA_c (sim_var 17 rfl rfl) (simA_c (sim_var 8 rfl rfl) (simA_one (sim_var 1 rfl rfl))))) ?_
      clear hG W hm
      intro state_here1675 v1676 S H hG W hm
      refine y_next ?_
      exact hNx1636 _ (c1662, v1676, c1669, (some (tx1636)), (some (v1653)), (some (v1666))) _ _ hm (Okc.cons (Okc.at 4 rfl hG) (Okc.cons (Okc.at 0 rfl hG) (Okc.cons (Okc.at 1 rfl hG) (Okc.dr 11 hG)))) (W.pick [0, 0] rfl)
  · clear hG W hm
    intro bx1636 wx1636 S H hm hG W
    refine k_frz hG W frz_L 0 2 rfl rfl ?_
    clear hG W
    intro S hG W
    refine e_ret ?_
    refine c_pure hG W hm (sim_var 0 rfl rfl) ?_
    clear hG W hm
    intro r1677 v S H hG W hm
    cases hm
    exact k _ _ _ _ (Okc.at 9 rfl hG) (W.pick [0] rfl) (Okc.at 2 rfl hG) (Okc.at 0 rfl hG)
theorem sc__law_counts : FnScope ["_law_world_here", "_law_source", "_law_target", "_law_least", "_law_counts_here", "_law_lamp", "_law_load", "_law_number", "_law_upper"] ["_law_world_here", "_law_source", "_law_target", "_law_least"] (defScope (top 80)) := ⟨rfl, rfl, rfl, by decide +kernel, rfl, by decide +kernel, by decide +kernel⟩
theorem ok__law_counts (E : EnvF K mg) : Cal CX0 P w K mg base 1 "_law_counts" (spF (TyA.c (tRec k_world A_world) (TyA.c (tT tInt) (TyA.c (tT tInt) (TyA.one tBool)))) (fun a => m__law_counts a.1 a.2.1 a.2.2.1 a.2.2.2) (oL tInt)) := by
  refine cal_mk (k := 0) E.d__law_counts sc__law_counts (fun vs H Q E h => by obtain ⟨S, F, a, r, ⟨_, _, rfl, _, ⟨_, _, rfl, _, ⟨_, _, rfl, _, ⟨_, rfl, _⟩⟩⟩⟩, _⟩ := h; rfl) (fun _ _ _ _ _ _ us hl => match us, hl with | [_, _, _, _], _ => rfl) ?_
  rintro f cdv A outer s H vs Q EX hr ⟨S, F, ⟨world_here1678, source1679, target1680, least1681⟩, out, ⟨v0, _, rfl, h0, ⟨v1, _, rfl, h1, ⟨v2, _, rfl, h2, ⟨v3, rfl, h3⟩⟩⟩⟩, W, hm, k⟩
  refine ⟨_, PSs.nox (pss_cons (ps_set (i := 4) sc__law_counts.nd rfl (Or.inr rfl) (pe_op op_rep (pe_lst (pa_cons pe_int pa_nil)) (pe_dget (by exact hu_of hr) (pv 0) pe_str (by intro _ _; rfl)))) (pss_cons (ps_for PassesOwn.never rfl (pi_listK (K := K) (pe_dget (by exact hu_of hr) (pv 0) pe_str (by intro _ _; rfl))) (pg_name (i := 5) sc__law_counts.nd rfl (Or.inl rfl)) (pss_cons (ps_set (i := 6) sc__law_counts.nd rfl (Or.inl rfl) (pe_callB (cr_sumK (K := K)) rfl (by exact E.g_sum) (by decide +kernel) (pa_cons (pe_lc (own := [("_law_upper", 8)]) rfl sc__law_counts.nd (pi_listK (K := K) (pe_ix (ix_listK (K := K)) (pe_dget (by exact hu_of hr) (pv 0) pe_str (by intro _ _; rfl)) (pv 5) (by intro _ _; rfl))) (blkOk_by (N := ["_law_world_here", "_law_source", "_law_target", "_law_least", "_law_counts_here", "_law_lamp", "_law_load", "_law_number", "_law_upper"]) (sc := defScope (top 80)) (by decide +kernel)) (fun _ _ _ _ _ => (pg_name (i := 8) sc__law_counts.nd rfl (Or.inl rfl))) (fun _ _ _ _ _ => pts_nil) (fun _ _ _ _ _ => (pe_ix (ix_listK (K := K)) (pv 4) (pv 8) (by intro _ _; rfl)))) pa_nil))) (pss_cons (ps_set (i := 7) sc__law_counts.nd rfl (Or.inl rfl) (pe_op op_add (pe_op op_sub (pe_ix (ix_tupK (K := K)) (pv 1) (pv 5) (by intro _ _; rfl)) (pe_ix (ix_tupK (K := K)) (pv 2) (pv 5) (by intro _ _; rfl))) (pe_op op_mulW (pe_op op_sub (pe_dget (by exact hu_of hr) (pv 0) pe_str (by intro _ _; rfl)) pe_int) (pv 6)))) (pss_cons (ps_if (pt_val (pv 3)) (pss_cons (ps_set (i := 7) sc__law_counts.nd rfl (Or.inl rfl) (pe_op op_mod (pe_callTy call_int1 rfl (by exact E.g_int) (by decide +kernel) (pa_cons (pv 7) pa_nil)) (pe_dget (by exact hu_of hr) (pv 0) pe_str (by intro _ _; rfl)))) pss_nil) pss_nil) (pss_cons (ps_asg (pv 7) (pg_sub (pv 4) (pv 5) set_list)) pss_nil))))) (pss_cons (ps_ret (pv 4)) pss_nil))), ?_⟩
  have hG : Okc [fS S, (tRec k_world A_world).f world_here1678 v0, (tT tInt).f source1679 v1, (tT tInt).f target1680 v2, tBool.f least1681 v3] S := ⟨Same.refl _, h0, h1, h2, h3, True.intro⟩
  have W : Wd S (([] : Ow) ++ F) H := W
  show (_ : TS) _ ([some v0, some v1, some v2, some v3, none, none, none, none, none] : L2.St) H
  refine k_setO hG W hm (simF_rep (SimF.sim (simF_lst (simA_ln sim_int simA_ln0))) (sim_get pj_0 rfl (sim_var 1 rfl rfl))) ?_
  clear hG W hm
  intro counts_here1687 p1689 c1690 S H hG W hm
  refine k_fold (σJ := (fun (bx1692 : (List Int)) (wx1692 : List Cell × Option V × Option V × Option V) => ([some v0, some v1, some v2, some v3, some (.ref p1689), wx1692.2.1, wx1692.2.2.1, wx1692.2.2.2, none] : L2.St))) (OJ := (fun (bx1692 : (List Int)) (wx1692 : List Cell × Option V × Option V × Option V) => ([wx1692.1] : Ow))) (Fb := (fun (bx1692 : (List Int)) (wx1692 : List Cell × Option V × Option V × Option V) => ([(oL tInt).f bx1692 p1689 (wx1692.1)] : List Fact))) (σT := (fun b w (tx1692 : V) => ((fun (bx1692 : (List Int)) (wx1692 : List Cell × Option V × Option V × Option V) => ([some v0, some v1, some v2, some v3, some (.ref p1689), wx1692.2.1, wx1692.2.2.1, wx1692.2.2.2, none] : L2.St)) b w).set 5 (some tx1692))) ((c1690, (none), (none), (none)) : List Cell × Option V × Option V × Option V) hG W hm (simI_list (sim_get (pj_s (pj_s (pj_s pj_0))) rfl (sim_var 2 rfl rfl))) (fun b w => tg_name) (fun b w => List.nil_sublist _) rfl rfl (fun S h => (Okc.cons (Okc.at 0 rfl h) h)) ?_ ?_
  · clear hG W hm
    intro S1 y1693 bx1692 b' wx1692 tx1692 S H hm hG W N hN
    refine k_set hG W hm (sim_sum (SimF.sim (simF_lc (simI_list (sim_ix (sim_get (pj_s (pj_s (pj_s (pj_s (pj_s pj_one))))) rfl (sim_var 5 rfl rfl)) (sim_var 0 rfl rfl))) tg_name (fun _ => rfl) (List.nil_sublist _) (fun a w => simT_yes) (fun a w => (sim_ix (sim_own 0 2 rfl rfl rfl) (sim_var 0 rfl rfl)))))) ?_
    clear hG W hm
    intro load1703 v1704 S H hG W hm
    refine k_set hG W hm (sim_add (sim_sub (sim_ixT (sim_var 7 rfl rfl) (sim_var 1 rfl rfl)) (sim_ixT (sim_var 8 rfl rfl) (sim_var 1 rfl rfl))) (sim_mul (sim_sub (sim_get (pj_s pj_0) rfl (sim_var 6 rfl rfl)) sim_int) (sim_var 0 rfl rfl))) ?_
    clear hG W hm
    intro number1718 v1719 S H hG W hm
    refine k_ifj (σJ := (fun (bx1721 : Int) (wx1721 : V) => ([some v0, some v1, some v2, some v3, some (.ref p1689), some (tx1692), some (v1704), some (wx1721), none] : L2.St))) (OJ := (fun (bx1721 : Int) (wx1721 : V) => ([wx1692.1] : Ow))) (Fb := (fun (bx1721 : Int) (wx1721 : V) => ([tInt.f bx1721 (wx1721)] : List Fact))) hG W hm (simT_B (sim_var 10 rfl rfl)) ?_ ?_ ?_
    · clear hG W hm
      intro S H _ hm hG W N hN
      refine k_set hG W hm (sim_mod (sim_intI (sim_var 0 rfl rfl)) (sim_get (pj_s pj_0) rfl (sim_var 7 rfl rfl))) ?_
      clear hG W hm
      intro number1725 v1726 S H hG W hm
      refine y_next ?_
      cases hm
      exact hN v1726 _ _ (Okc.cons (Okc.at 0 rfl hG) (Okc.dr 1 hG)) (W.pick [0] rfl)
    · clear hG W hm
      intro S H _ hm hG W N hN
      refine y_next ?_
      cases hm
      exact hN v1719 _ _ (Okc.cons (Okc.at 0 rfl hG) (Okc.dr 0 hG)) (W.pick [0] rfl)
    · clear hG W hm
      intro bx1721 wx1721 S H hG W hm
      refine k_put hG W hm 0 4 rfl rfl rfl (sim_var 0 rfl rfl) (sim_var 3 rfl rfl) ?_
      clear hG W hm
      intro counts_here1729 c1730 S H hG W hm
      cases hm
      refine y_next ?_
      exact hN (c1730, (some (tx1692)), (some (v1704)), (some (wx1721))) _ _ (Okc.cons (Okc.at 0 rfl hG) (Okc.dr 6 hG)) (W.pick [0] rfl)
  · clear hG W hm
    intro bx1692 wx1692 S H hm hG W
    refine e_ret ?_
    refine c_ref rfl ?_
    cases hm
    exact k _ _ _ _ (Okc.at 2 rfl hG) (W.pick [0] rfl) (Okc.at 0 rfl hG)
theorem sc__law_is_integer : FnScope ["_law_value"] ["_law_value"] (defScope (top 81)) := ⟨rfl, rfl, rfl, by decide +kernel, rfl, by decide +kernel, by decide +kernel⟩
theorem ok__law_is_integer (E : EnvF K mg) : Cal CX0 P w K mg base 1 "_law_is_integer" (spP (TyA.one tInt) (fun a => m__law_is_integer a) tBool) := by
  refine cal_mk (k := 0) E.d__law_is_integer sc__law_is_integer (fun vs H Q E h => by obtain ⟨S, F, a, r, ⟨_, rfl, _⟩, _⟩ := h; rfl) (fun _ _ _ _ _ _ us hl => match us, hl with | [_], _ => rfl) ?_
  rintro f cdv A outer s H vs Q EX hr ⟨S, F, value1731, out, ⟨v0, rfl, h0⟩, W, hm, k⟩
  refine ⟨_, PSs.nox (pss_cons (ps_ret (pe_and (pe_callB (call_isiKK (K := K)) rfl (by exact E.g_isinstance) (by decide +kernel) (pa_cons (pv 0) (pa_cons (pe_bltn (v := .ty "int") (u := .type "int") rfl (by exact E.g_int) (by decide +kernel) rfl) pa_nil))) (pe_one (pe_not (pe_callB (call_isiKK (K := K)) rfl (by exact E.g_isinstance) (by decide +kernel) (pa_cons (pv 0) (pa_cons (pe_bltn (v := .ty "bool") (u := .type "bool") rfl (by exact E.g_bool) (by decide +kernel) rfl) pa_nil))))))) pss_nil), ?_⟩
  have hG : Okc [fS S, tInt.f value1731 v0] S := ⟨Same.refl _, h0, True.intro⟩
  have W : Wd S (([] : Ow) ++ F) H := W
  show (_ : TS) _ ([some v0] : L2.St) H
  exact k_ret hG W hm (sim_andV (sim_isi isI_int_int (sim_var 1 rfl rfl)) (sim_notV (sim_isi isI_int_bool (sim_var 1 rfl rfl)))) (fun v S H hG W hr => k v S H (Okc.at 0 rfl hG) (W.pick [] rfl) hr)
theorem sc__law_is_run : FnScope ["_law_world_here", "_law_told", "_law_lamp"] ["_law_world_here", "_law_told"] (defScope (top 82)) := ⟨rfl, rfl, rfl, by decide +kernel, rfl, by decide +kernel, by decide +kernel⟩
theorem ok__law_is_run (E : EnvF K mg) : Cal CX0 P w K mg base 2 "_law_is_run" (spP (TyA.c (tRec k_world A_world) (TyA.one (tL tInt))) (fun a => m__law_is_run a.1 a.2) tBool) := by
  refine cal_mk (k := 1) E.d__law_is_run sc__law_is_run (fun vs H Q E h => by obtain ⟨S, F, a, r, ⟨_, _, rfl, _, ⟨_, rfl, _⟩⟩, _⟩ := h; rfl) (fun _ _ _ _ _ _ us hl => match us, hl with | [_, _], _ => rfl) ?_
  rintro f cdv A outer s H vs Q EX hr ⟨S, F, ⟨world_here1734, told1735⟩, out, ⟨v0, _, rfl, h0, ⟨v1, rfl, h1⟩⟩, W, hm, k⟩
  refine ⟨_, PSs.nox (pss_cons (ps_if (pt_not (pt_val (pe_callB (call_isiKK (K := K)) rfl (by exact E.g_isinstance) (by decide +kernel) (pa_cons (pv 1) (pa_cons (pe_bltn (v := .ty "list") (u := .type "list") rfl (by exact E.g_list) (by decide +kernel) rfl) pa_nil))))) (pss_cons (ps_ret pe_bl) pss_nil) pss_nil) (pss_cons (ps_for PassesOwn.never rfl (pi_listK (K := K) (pv 1)) (pg_name (i := 2) sc__law_is_run.nd rfl (Or.inl rfl)) (pss_cons (ps_if (PW.pt (pw_or (pt_not (pt_val (pe_cal (ok__law_is_integer E) (by exact hr) (by first | decide | omega) (by rfl) pass0 (pa_cons (pv 2) pa_nil)))) (pw_or (pt_cmpR op_lt (pv 2) pe_int (nomark _)) (pw_or1 (pt_cmpR op_ge (pv 2) (pe_dget (by exact hu_of hr) (pv 0) pe_str (by intro _ _; rfl)) (nomark _)))))) (pss_cons (ps_ret pe_bl) pss_nil) pss_nil) pss_nil)) (pss_cons (ps_ret pe_bl) pss_nil))), ?_⟩
  have hG : Okc [fS S, (tRec k_world A_world).f world_here1734 v0, (tL tInt).f told1735 v1] S := ⟨Same.refl _, h0, h1, True.intro⟩
  have W : Wd S (([] : Ow) ++ F) H := W
  show (_ : TS) _ ([some v0, some v1, none] : L2.St) H
  refine k_if hG W hm (simT_not (simT_B (sim_isi isI_list_list (sim_var 2 rfl rfl)))) ?_ ?_
  · clear hG W hm
    intro S H hG W hm
    exact k_ret hG W hm sim_bl (fun v S H hG W hr => k v S H (Okc.at 0 rfl hG) (W.pick [] rfl) hr)
  · clear hG W hm
    intro S H hG W hm
    refine y_next ?_
    refine k_forK (σJ := (fun (bx1738 : Unit) (wx1738 : Option V) => ([some v0, some v1, wx1738] : L2.St))) (OJ := (fun (bx1738 : Unit) (wx1738 : Option V) => ([] : Ow))) (Fb := (fun (bx1738 : Unit) (wx1738 : Option V) => ([] : List Fact))) (σT := (fun b w (tx1738 : V) => ((fun (bx1738 : Unit) (wx1738 : Option V) => ([some v0, some v1, wx1738] : L2.St)) b w).set 2 (some tx1738))) ((none) : Option V) hG W hm (simI_list (sim_var 2 rfl rfl)) (fun b w => tg_name) (fun b w => List.nil_sublist _) rfl rfl (fun S h => h) ?_ ?_
    · clear hG W hm
      intro S1 y1739 bx1738 wx1738 tx1738 S H k1741 hm hG W Nx1738 hNx1738 hBx1738
      refine k_if hG W hm (simT_or (simT_not (simT_B (sim_call (simA_one (sim_var 0 rfl rfl))))) (simT_or (simT_test (sim_lt (sim_var 0 rfl rfl) sim_int)) (simT_test (sim_ge (sim_var 0 rfl rfl) (sim_get pj_0 rfl (sim_var 3 rfl rfl)))))) ?_ ?_
      · clear hG W hm
        intro S H hG W hm
        exact k_ret hG W hm sim_bl (fun v S H hG W hr => k v S H (Okc.at 2 rfl hG) (W.pick [] rfl) hr)
      · clear hG W hm
        intro S H hG W hm
        refine y_next ?_
        refine y_next ?_
        exact hNx1738 _ (some (tx1738)) _ _ hm (Okc.dr 1 hG) (W.pick [] rfl)
    · clear hG W hm
      intro bx1738 wx1738 S H hm hG W
      exact k_ret hG W hm sim_bl (fun v S H hG W hr => k v S H (Okc.at 0 rfl hG) (W.pick [] rfl) hr)
theorem sc__law_same_state : FnScope ["_law_told", "_law_due", "_law_k"] ["_law_told", "_law_due"] (defScope (top 83)) := ⟨rfl, rfl, rfl, by decide +kernel, rfl, by decide +kernel, by decide +kernel⟩
theorem ok__law_same_state (E : EnvF K mg) : Cal CX0 P w K mg base 2 "_law_same_state" (spP (TyA.c (tT tInt) (TyA.one (tT tInt))) (fun a => m__law_same_state a.1 a.2) tBool) := by
  refine cal_mk (k := 1) E.d__law_same_state sc__law_same_state (fun vs H Q E h => by obtain ⟨S, F, a, r, ⟨_, _, rfl, _, ⟨_, rfl, _⟩⟩, _⟩ := h; rfl) (fun _ _ _ _ _ _ us hl => match us, hl with | [_, _], _ => rfl) ?_
  rintro f cdv A outer s H vs Q EX hr ⟨S, F, ⟨told1753, due1754⟩, out, ⟨v0, _, rfl, h0, ⟨v1, rfl, h1⟩⟩, W, hm, k⟩
  refine ⟨_, PSs.nox (pss_cons (ps_if (PW.pt (pw_or (pt_not (pt_val (pe_callB (call_isiKK (K := K)) rfl (by exact E.g_isinstance) (by decide +kernel) (pa_cons (pv 0) (pa_cons (pe_bltn (v := .ty "tuple") (u := .type "tuple") rfl (by exact E.g_tuple) (by decide +kernel) rfl) pa_nil))))) (pw_or1 (pt_cmpR op_ne (pe_callB (call_lenK (K := K)) rfl (by exact E.g_len) boot_len (pa_cons (pv 0) pa_nil)) (pe_callB (call_lenK (K := K)) rfl (by exact E.g_len) boot_len (pa_cons (pv 1) pa_nil)) (nomark _))))) (pss_cons (ps_ret pe_bl) pss_nil) pss_nil) (pss_cons (ps_for PassesOwn.never rfl (pi_range1 rfl (by exact E.g_range) (pa_cons (pe_callB (call_lenK (K := K)) rfl (by exact E.g_len) boot_len (pa_cons (pv 1) pa_nil)) pa_nil)) (pg_name (i := 2) sc__law_same_state.nd rfl (Or.inl rfl)) (pss_cons (ps_if (PW.pt (pw_or (pt_not (pt_val (pe_cal (ok__law_is_integer E) (by exact hr) (by first | decide | omega) (by rfl) pass0 (pa_cons (pe_ix (ix_tupK (K := K)) (pv 0) (pv 2) (by intro _ _; rfl)) pa_nil)))) (pw_or1 (pt_cmpR op_ne (pe_ix (ix_tupK (K := K)) (pv 0) (pv 2) (by intro _ _; rfl)) (pe_ix (ix_tupK (K := K)) (pv 1) (pv 2) (by intro _ _; rfl)) (nomark _))))) (pss_cons (ps_ret pe_bl) pss_nil) pss_nil) pss_nil)) (pss_cons (ps_ret pe_bl) pss_nil))), ?_⟩
  have hG : Okc [fS S, (tT tInt).f told1753 v0, (tT tInt).f due1754 v1] S := ⟨Same.refl _, h0, h1, True.intro⟩
  have W : Wd S (([] : Ow) ++ F) H := W
  show (_ : TS) _ ([some v0, some v1, none] : L2.St) H
  refine k_if hG W hm (simT_or (simT_not (simT_B (sim_isi isI_tup_tuple (sim_var 1 rfl rfl)))) (simT_test (sim_neI (sim_lenT (sim_var 1 rfl rfl)) (sim_lenT (sim_var 2 rfl rfl))))) ?_ ?_
  · clear hG W hm
    intro S H hG W hm
    exact k_ret hG W hm sim_bl (fun v S H hG W hr => k v S H (Okc.at 0 rfl hG) (W.pick [] rfl) hr)
  · clear hG W hm
    intro S H hG W hm
    refine y_next ?_
    refine k_forK (σJ := (fun (bx1764 : Unit) (wx1764 : Option V) => ([some v0, some v1, wx1764] : L2.St))) (OJ := (fun (bx1764 : Unit) (wx1764 : Option V) => ([] : Ow))) (Fb := (fun (bx1764 : Unit) (wx1764 : Option V) => ([] : List Fact))) (σT := (fun b w (tx1764 : V) => ((fun (bx1764 : Unit) (wx1764 : Option V) => ([some v0, some v1, wx1764] : L2.St)) b w).set 2 (some tx1764))) ((none) : Option V) hG W hm (simI_range1 (sim_lenT (sim_var 2 rfl rfl))) (fun b w => tg_name) (fun b w => List.nil_sublist _) rfl rfl (fun S h => h) ?_ ?_
    · clear hG W hm
      intro S1 y1765 bx1764 wx1764 tx1764 S H k1767 hm hG W Nx1764 hNx1764 hBx1764
      refine k_if hG W hm (simT_or (simT_not (simT_B (sim_call (simA_one (sim_ixT (sim_var 3 rfl rfl) (sim_var 0 rfl rfl)))))) (simT_test (sim_neI (sim_ixT (sim_var 3 rfl rfl) (sim_var 0 rfl rfl)) (sim_ixT (sim_var 4 rfl rfl) (sim_var 0 rfl rfl))))) ?_ ?_
      · clear hG W hm
        intro S H hG W hm
        exact k_ret hG W hm sim_bl (fun v S H hG W hr => k v S H (Okc.at 2 rfl hG) (W.pick [] rfl) hr)
      · clear hG W hm
        intro S H hG W hm
        refine y_next ?_
        refine y_next ?_
        exact hNx1764 _ (some (tx1764)) _ _ hm (Okc.dr 1 hG) (W.pick [] rfl)
    · clear hG W hm
      intro bx1764 wx1764 S H hm hG W
      exact k_ret hG W hm sim_bl (fun v S H hG W hr => k v S H (Okc.at 0 rfl hG) (W.pick [] rfl) hr)
theorem sc__law_same_states : FnScope ["_law_told", "_law_due", "_law_k"] ["_law_told", "_law_due"] (defScope (top 84)) := ⟨rfl, rfl, rfl, by decide +kernel, rfl, by decide +kernel, by decide +kernel⟩
theorem ok__law_same_states (E : EnvF K mg) : Cal CX0 P w K mg base 3 "_law_same_states" (spP (TyA.c (tL (tT tInt)) (TyA.one (tL (tT tInt)))) (fun a => m__law_same_states a.1 a.2) tBool) := by
  refine cal_mk (k := 2) E.d__law_same_states sc__law_same_states (fun vs H Q E h => by obtain ⟨S, F, a, r, ⟨_, _, rfl, _, ⟨_, rfl, _⟩⟩, _⟩ := h; rfl) (fun _ _ _ _ _ _ us hl => match us, hl with | [_, _], _ => rfl) ?_
  rintro f cdv A outer s H vs Q EX hr ⟨S, F, ⟨told1781, due1782⟩, out, ⟨v0, _, rfl, h0, ⟨v1, rfl, h1⟩⟩, W, hm, k⟩
  refine ⟨_, PSs.nox (pss_cons (ps_if (PW.pt (pw_or (pt_not (pt_val (pe_callB (call_isiKK (K := K)) rfl (by exact E.g_isinstance) (by decide +kernel) (pa_cons (pv 0) (pa_cons (pe_bltn (v := .ty "list") (u := .type "list") rfl (by exact E.g_list) (by decide +kernel) rfl) pa_nil))))) (pw_or1 (pt_cmpR op_ne (pe_callB (call_lenK (K := K)) rfl (by exact E.g_len) boot_len (pa_cons (pv 0) pa_nil)) (pe_callB (call_lenK (K := K)) rfl (by exact E.g_len) boot_len (pa_cons (pv 1) pa_nil)) (nomark _))))) (pss_cons (ps_ret pe_bl) pss_nil) pss_nil) (pss_cons (ps_for PassesOwn.never rfl (pi_range1 rfl (by exact E.g_range) (pa_cons (pe_callB (call_lenK (K := K)) rfl (by exact E.g_len) boot_len (pa_cons (pv 1) pa_nil)) pa_nil)) (pg_name (i := 2) sc__law_same_states.nd rfl (Or.inl rfl)) (pss_cons (ps_if (pt_not (pt_val (pe_cal (ok__law_same_state E) (by exact hr) (by first | decide | omega) (by rfl) pass0 (pa_cons (pe_ix (ix_listK (K := K)) (pv 0) (pv 2) (by intro _ _; rfl)) (pa_cons (pe_ix (ix_listK (K := K)) (pv 1) (pv 2) (by intro _ _; rfl)) pa_nil))))) (pss_cons (ps_ret pe_bl) pss_nil) pss_nil) pss_nil)) (pss_cons (ps_ret pe_bl) pss_nil))), ?_⟩
  have hG : Okc [fS S, (tL (tT tInt)).f told1781 v0, (tL (tT tInt)).f due1782 v1] S := ⟨Same.refl _, h0, h1, True.intro⟩
  have W : Wd S (([] : Ow) ++ F) H := W
  show (_ : TS) _ ([some v0, some v1, none] : L2.St) H
  refine k_if hG W hm (simT_or (simT_not (simT_B (sim_isi isI_list_list (sim_var 1 rfl rfl)))) (simT_test (sim_neI (sim_len (sim_var 1 rfl rfl)) (sim_len (sim_var 2 rfl rfl))))) ?_ ?_
  · clear hG W hm
    intro S H hG W hm
    exact k_ret hG W hm sim_bl (fun v S H hG W hr => k v S H (Okc.at 0 rfl hG) (W.pick [] rfl) hr)
  · clear hG W hm
    intro S H hG W hm
    refine y_next ?_
    refine k_forK (σJ := (fun (bx1792 : Unit) (wx1792 : Option V) => ([some v0, some v1, wx1792] : L2.St))) (OJ := (fun (bx1792 : Unit) (wx1792 : Option V) => ([] : Ow))) (Fb := (fun (bx1792 : Unit) (wx1792 : Option V) => ([] : List Fact))) (σT := (fun b w (tx1792 : V) => ((fun (bx1792 : Unit) (wx1792 : Option V) => ([some v0, some v1, wx1792] : L2.St)) b w).set 2 (some tx1792))) ((none) : Option V) hG W hm (simI_range1 (sim_len (sim_var 2 rfl rfl))) (fun b w => tg_name) (fun b w => List.nil_sublist _) rfl rfl (fun S h => h) ?_ ?_
    · clear hG W hm
      intro S1 y1793 bx1792 wx1792 tx1792 S H k1795 hm hG W Nx1792 hNx1792 hBx1792
      refine k_if hG W hm (simT_not (simT_B (sim_call (simA_c (sim_ix (sim_var 3 rfl rfl) (sim_var 0 rfl rfl)) (simA_one (sim_ix (sim_var 4 rfl rfl) (sim_var 0 rfl rfl))))))) ?_ ?_
      · clear hG W hm
        intro S H hG W hm
        exact k_ret hG W hm sim_bl (fun v S H hG W hr => k v S H (Okc.at 2 rfl hG) (W.pick [] rfl) hr)
      · clear hG W hm
        intro S H hG W hm
        refine y_next ?_
        refine y_next ?_
        exact hNx1792 _ (some (tx1792)) _ _ hm (Okc.dr 1 hG) (W.pick [] rfl)
    · clear hG W hm
      intro bx1792 wx1792 S H hm hG W
      exact k_ret hG W hm sim_bl (fun v S H hG W hr => k v S H (Okc.at 0 rfl hG) (W.pick [] rfl) hr)
theorem sc__law_due_run : FnScope ["_law_world_here", "_law_source", "_law_target", "_law_left", "_law_trail", "_law_state_here", "_law_k", "_law_open_lamps", "_law_ready", "_law_lamp"] ["_law_world_here", "_law_source", "_law_target"] (defScope (top 85)) := ⟨rfl, rfl, rfl, by decide +kernel, rfl, by decide +kernel, by decide +kernel⟩
theorem ok__law_due_run (E : EnvF K mg) : Cal CX0 P w K mg base 3 "_law_due_run" (spP (TyA.c (tRec k_world A_world) (TyA.c (tT tInt) (TyA.one (tT tInt)))) (fun a => m__law_due_run a.1 a.2.1 a.2.2) (tL tInt)) := by
  refine cal_mk (k := 2) E.d__law_due_run sc__law_due_run (fun vs H Q E h => by obtain ⟨S, F, a, r, ⟨_, _, rfl, _, ⟨_, _, rfl, _, ⟨_, rfl, _⟩⟩⟩, _⟩ := h; rfl) (fun _ _ _ _ _ _ us hl => match us, hl with | [_, _, _], _ => rfl) ?_
  rintro f cdv A outer s H vs Q EX hr ⟨S, F, ⟨world_here1806, source1807, target1808⟩, out, ⟨v0, _, rfl, h0, ⟨v1, _, rfl, h1, ⟨v2, rfl, h2⟩⟩⟩, W, hm, k⟩
  refine ⟨_, PSs.nox (pss_cons (ps_set (i := 3) sc__law_due_run.nd rfl (Or.inr rfl) (pe_cal (ok__law_counts E) (by exact hr) (by first | decide | omega) (by rfl) pass0 (pa_cons (pv 0) (pa_cons (pv 1) (pa_cons (pv 2) (pa_cons pe_bl pa_nil)))))) (pss_cons (ps_set (i := 4) sc__law_due_run.nd rfl (Or.inl rfl) (pe_lst pa_nil)) (pss_cons (ps_set (i := 5) sc__law_due_run.nd rfl (Or.inr rfl) (pv 1)) (pss_cons (ps_for PassesOwn.never rfl (pi_range1 rfl (by exact E.g_range) (pa_cons pe_int pa_nil)) (pg_name (i := 6) sc__law_due_run.nd rfl (Or.inl rfl)) (pss_cons (ps_setLc (i := 7) (own := [("_law_lamp", 9)]) rfl sc__law_due_run.nd rfl rfl (sw_true rfl rfl rfl (by decide +kernel)) (pi_range1 rfl (by exact E.g_range) (pa_cons (pe_dget (by exact hu_of hr) (pv 0) pe_str (by intro _ _; rfl)) pa_nil)) (blkOk_by (N := ["_law_world_here", "_law_source", "_law_target", "_law_left", "_law_trail", "_law_state_here", "_law_k", "_law_open_lamps", "_law_ready", "_law_lamp"]) (sc := defScope (top 85)) (by decide +kernel)) (fun _ _ _ _ _ => (pg_name (i := 9) sc__law_due_run.nd rfl (Or.inl rfl))) (fun _ _ _ _ _ => (pts_one (pt_cmpR op_gt (pe_ix (ix_listK (K := K)) (pv 3) (pv 9) (by intro _ _; rfl)) pe_int (nomark _)))) (fun _ _ _ _ _ => (pv 9))) (pss_cons (ps_setLc (i := 8) (own := [("_law_lamp", 9)]) rfl sc__law_due_run.nd rfl rfl (sw_true rfl rfl rfl (by decide +kernel)) (pi_listK (K := K) (pv 7)) (blkOk_by (N := ["_law_world_here", "_law_source", "_law_target", "_law_left", "_law_trail", "_law_state_here", "_law_k", "_law_open_lamps", "_law_ready", "_law_lamp"]) (sc := defScope (top 85)) (by decide +kernel)) (fun _ _ _ _ _ => (pg_name (i := 9) sc__law_due_run.nd rfl (Or.inl rfl))) (fun _ _ _ _ _ => (pts_one (pt_val (pe_cal (ok__law_may E) (by exact hr) (by first | decide | omega) (by rfl) pass0 (pa_cons (pv 0) (pa_cons (pv 5) (pa_cons (pv 9) (pa_cons pe_bl pa_nil)))))))) (fun _ _ _ _ _ => (pv 9))) (pss_cons (ps_if (pt_cmpR (op_eqDK (K := K) (by exact hu64 hr)) (pv 8) (pe_lst pa_nil) (nomark _)) (pss_cons ps_break pss_nil) pss_nil) (pss_cons (ps_set (i := 9) sc__law_due_run.nd rfl (Or.inl rfl) (pe_ix (ix_listK (K := K)) (pv 8) pe_int (by intro _ _; rfl))) (pss_cons (ps_asg (pe_op op_sub (pe_ix (ix_listK (K := K)) (pv 3) (pv 9) (by intro _ _; rfl)) pe_int) (pg_sub (pv 3) (pv 9) set_list)) (pss_cons (ps_expr (pe_bmK (K := K) PySem.F.plainAttrs_list PySem.F.slot_list_append PySem.F.type_list_append mt_append (pv 4) (pa_cons (pv 9) pa_nil))) (pss_cons (ps_set (i := 5) sc__law_due_run.nd rfl (Or.inr rfl) (pe_cal (ok__law_moved E) (by exact hr) (by first | decide | omega) (by rfl) pass0 (pa_cons (pv 0) (pa_cons (pv 5) (pa_cons (pv 9) pa_nil))))) pss_nil)))))))) (pss_cons (ps_ret (pv 4)) pss_nil))))), ?_⟩
  have hG : Okc [fS S, (tRec k_world A_world).f world_here1806 v0, (tT tInt).f source1807 v1, (tT tInt).f target1808 v2] S := ⟨Same.refl _, h0, h1, h2, True.intro⟩
  have W : Wd S (([] : Ow) ++ F) H := W
  show (_ : TS) _ ([some v0, some v1, some v2, none, none, none, none, none, none, none] : L2.St) H
  refine k_setO hG W hm (simF_call (simA_c (sim_var 1 rfl rfl) (simA_c (sim_var 2 rfl rfl) (simA_c (sim_var 3 rfl rfl) (simA_one sim_bl))))) ?_
  clear hG W hm
  intro left1816 p1818 c1819 S H hG W hm
  refine k_setO hG W hm (simF_lst (T := tInt) simA_ln0) ?_
  clear hG W hm
  intro trail1820 p1822 c1823 S H hG W hm
  refine k_set hG W hm (sim_var 4 rfl rfl) ?_
  clear hG W hm
  intro state_here1824 v1825 S H hG W hm
  refine k_forK (σJ := (fun (bx1827 : (List Int) × (List Int) × (List Int)) (wx1827 : List Cell × List Cell × V × Option V × Option V × Option V × Option V) => ([some v0, some v1, some v2, some (.ref p1818), some (.ref p1822), some (wx1827.2.2.1), wx1827.2.2.2.1, wx1827.2.2.2.2.1, wx1827.2.2.2.2.2.1, wx1827.2.2.2.2.2.2] : L2.St))) (OJ := (fun (bx1827 : (List Int) × (List Int) × (List Int)) (wx1827 : List Cell × List Cell × V × Option V × Option V × Option V × Option V) => ([wx1827.2.1, wx1827.1] : Ow))) (Fb := (fun (bx1827 : (List Int) × (List Int) × (List Int)) (wx1827 : List Cell × List Cell × V × Option V × Option V × Option V × Option V) => ([(oL tInt).f bx1827.1 p1818 (wx1827.1), (oL tInt).f bx1827.2.1 p1822 (wx1827.2.1), (tT tInt).f bx1827.2.2 (wx1827.2.2.1)] : List Fact))) (σT := (fun b w (tx1827 : V) => ((fun (bx1827 : (List Int) × (List Int) × (List Int)) (wx1827 : List Cell × List Cell × V × Option V × Option V × Option V × Option V) => ([some v0, some v1, some v2, some (.ref p1818), some (.ref p1822), some (wx1827.2.2.1), wx1827.2.2.2.1, wx1827.2.2.2.2.1, wx1827.2.2.2.2.2.1, wx1827.2.2.2.2.2.2] : L2.St)) b w).set 6 (some tx1827))) ((c1819, c1823, v1825, (none), (none), (none), (none)) : List Cell × List Cell × V × Option V × Option V × Option V × Option V) hG W hm (simI_range1 sim_int) (fun b w => tg_name) (fun b w => List.nil_sublist _) rfl rfl (fun S h => (Okc.cons (Okc.at 2 rfl h) (Okc.cons (Okc.at 1 rfl h) (Okc.cons (Okc.at 0 rfl h) h)))) ?_ ?_
  · clear hG W hm
    intro S1 y1828 bx1827 wx1827 tx1827 S H k1830 hm hG W Nx1827 hNx1827 hBx1827
    refine k_set hG W hm (SimF.sim (simF_lc (simI_range1 (sim_get pj_0 rfl (sim_var 9 rfl rfl))) tg_name (fun _ => rfl) (List.nil_sublist _) (fun a w => (simT_test (sim_gt (sim_ix (sim_own 1 2 rfl rfl rfl) (sim_var 0 rfl rfl)) sim_int))) (fun a w => (sim_var 0 rfl rfl)))) ?_
    clear hG W hm
    intro open_lamps1840 v1841 S H hG W hm
    refine k_set hG W hm (SimF.sim (simF_lc (simI_list (sim_var 0 rfl rfl)) tg_name (fun _ => rfl) (List.nil_sublist _) (fun a w => (simT_B (sim_call (simA_c (sim_var 11 rfl rfl) (simA_c (sim_var 5 rfl rfl) (simA_c (sim_var 0 rfl rfl) (simA_one sim_bl))))))) (fun a w => (sim_var 0 rfl rfl)))) ?_
    clear hG W hm
    intro ready1851 v1852 S H hG W hm
    refine k_if hG W hm (simT_test (sim_eqD (sim_var 0 rfl rfl) (SimF.sim (simF_lst (T := tInt) simA_ln0)))) ?_ ?_
    · clear hG W hm
      intro S H hG W hm
      refine x_break ?_
      exact hBx1827 _ (wx1827.1, wx1827.2.1, wx1827.2.2.1, (some (tx1827)), (some (v1841)), (some (v1852)), (wx1827.2.2.2.2.2.2)) _ _ hm (Okc.cons (Okc.at 3 rfl hG) (Okc.cons (Okc.at 4 rfl hG) (Okc.cons (Okc.at 5 rfl hG) (Okc.dr 6 hG)))) (W.pick [0, 0] rfl)
    · clear hG W hm
      intro S H hG W hm
      refine y_next ?_
      refine k_set hG W hm (sim_ix (sim_var 0 rfl rfl) sim_int) ?_
      clear hG W hm
      intro lamp1858 v1859 S H hG W hm
      refine k_put hG W hm 1 4 rfl rfl rfl (sim_sub (sim_ix (sim_own 1 4 rfl rfl rfl) (sim_var 0 rfl rfl)) sim_int) (sim_var 0 rfl rfl) ?_
      clear hG W hm
      intro left1866 c1867 S H hG W hm
      refine k_app hG W hm 0 6 rfl rfl rfl (sim_var 1 rfl rfl) ?_
      clear hG W hm
      intro y1868 c1870 S H hG W hm
      revert hG hm; generalize (bx1827.2.1 ++ [y1868]) = trail1869; intro hG hm
      refine k_set hG W hm (sim_call (simA_c (sim_var 14 rfl rfl) (simA_c (sim_var 8 rfl rfl) (simA_one (sim_var 2 rfl rfl))))) ?_
      clear hG W hm
      intro state_here1876 v1877 S H hG W hm
      refine y_next ?_
      exact hNx1827 _ (c1867, c1870, v1877, (some (tx1827)), (some (v1841)), (some (v1852)), (some (v1859))) _ _ hm (Okc.cons (Okc.at 2 rfl hG) (Okc.cons (Okc.at 1 rfl hG) (Okc.cons (Okc.at 0 rfl hG) (Okc.dr 10 hG)))) (W.pick [0, 0] rfl)
  · clear hG W hm
    intro bx1827 wx1827 S H hm hG W
    refine k_frz hG W frz_L 0 1 rfl rfl ?_
    clear hG W
    intro S hG W
    exact k_ret hG W hm (sim_var 0 rfl rfl) (fun v S H hG W hr => k v S H (Okc.at 7 rfl hG) (W.pick [] rfl) hr)
theorem sc__law_same_pairs : FnScope ["_law_told", "_law_due", "_law_k"] ["_law_told", "_law_due"] (defScope (top 86)) := ⟨rfl, rfl, rfl, by decide +kernel, rfl, by decide +kernel, by decide +kernel⟩
theorem ok__law_same_pairs (E : EnvF K mg) : Cal CX0 P w K mg base 3 "_law_same_pairs" (spP (TyA.c (tL (tP tInt (tT tInt))) (TyA.one (tL (tP tInt (tT tInt))))) (fun a => m__law_same_pairs a.1 a.2) tBool) := by
  refine cal_mk (k := 2) E.d__law_same_pairs sc__law_same_pairs (fun vs H Q E h => by obtain ⟨S, F, a, r, ⟨_, _, rfl, _, ⟨_, rfl, _⟩⟩, _⟩ := h; rfl) (fun _ _ _ _ _ _ us hl => match us, hl with | [_, _], _ => rfl) ?_
  rintro f cdv A outer s H vs Q EX hr ⟨S, F, ⟨told1878, due1879⟩, out, ⟨v0, _, rfl, h0, ⟨v1, rfl, h1⟩⟩, W, hm, k⟩
  refine ⟨_, PSs.nox (pss_cons (ps_if (PW.pt (pw_or (pt_not (pt_val (pe_callB (call_isiKK (K := K)) rfl (by exact E.g_isinstance) (by decide +kernel) (pa_cons (pv 0) (pa_cons (pe_bltn (v := .ty "list") (u := .type "list") rfl (by exact E.g_list) (by decide +kernel) rfl) pa_nil))))) (pw_or1 (pt_cmpR op_ne (pe_callB (call_lenK (K := K)) rfl (by exact E.g_len) boot_len (pa_cons (pv 0) pa_nil)) (pe_callB (call_lenK (K := K)) rfl (by exact E.g_len) boot_len (pa_cons (pv 1) pa_nil)) (nomark _))))) (pss_cons (ps_ret pe_bl) pss_nil) pss_nil) (pss_cons (ps_for PassesOwn.never rfl (pi_range1 rfl (by exact E.g_range) (pa_cons (pe_callB (call_lenK (K := K)) rfl (by exact E.g_len) boot_len (pa_cons (pv 1) pa_nil)) pa_nil)) (pg_name (i := 2) sc__law_same_pairs.nd rfl (Or.inl rfl)) (pss_cons (ps_if (PW.pt (pw_or (pt_not (pt_val (pe_callB (call_isiKK (K := K)) rfl (by exact E.g_isinstance) (by decide +kernel) (pa_cons (pe_ix (ix_listK (K := K)) (pv 0) (pv 2) (by intro _ _; rfl)) (pa_cons (pe_bltn (v := .ty "tuple") (u := .type "tuple") rfl (by exact E.g_tuple) (by decide +kernel) rfl) pa_nil))))) (pw_or1 (pt_cmpR op_ne (pe_callB (call_lenK (K := K)) rfl (by exact E.g_len) boot_len (pa_cons (pe_ix (ix_listK (K := K)) (pv 0) (pv 2) (by intro _ _; rfl)) pa_nil)) pe_int (nomark _))))) (pss_cons (ps_ret pe_bl) pss_nil) pss_nil) (pss_cons (ps_if (PW.pt (pw_or (pt_not (pt_val (pe_cal (ok__law_is_integer E) (by exact hr) (by first | decide | omega) (by rfl) pass0 (pa_cons (pe_ix (ix_tupK (K := K)) (pe_ix (ix_listK (K := K)) (pv 0) (pv 2) (by intro _ _; rfl)) pe_int (by intro _ _; rfl)) pa_nil)))) (pw_or1 (pt_cmpR op_ne (pe_ix (ix_tupK (K := K)) (pe_ix (ix_listK (K := K)) (pv 0) (pv 2) (by intro _ _; rfl)) pe_int (by intro _ _; rfl)) (pe_ix (ix_tupK (K := K)) (pe_ix (ix_listK (K := K)) (pv 1) (pv 2) (by intro _ _; rfl)) pe_int (by intro _ _; rfl)) (nomark _))))) (pss_cons (ps_ret pe_bl) pss_nil) pss_nil) (pss_cons (ps_if (pt_not (pt_val (pe_cal (ok__law_same_state E) (by exact hr) (by first | decide | omega) (by rfl) pass0 (pa_cons (pe_ix (ix_tupK (K := K)) (pe_ix (ix_listK (K := K)) (pv 0) (pv 2) (by intro _ _; rfl)) pe_int (by intro _ _; rfl)) (pa_cons (pe_ix (ix_tupK (K := K)) (pe_ix (ix_listK (K := K)) (pv 1) (pv 2) (by intro _ _; rfl)) pe_int (by intro _ _; rfl)) pa_nil))))) (pss_cons (ps_ret pe_bl) pss_nil) pss_nil) pss_nil)))) (pss_cons (ps_ret pe_bl) pss_nil))), ?_⟩
  have hG : Okc [fS S, (tL (tP tInt (tT tInt))).f told1878 v0, (tL (tP tInt (tT tInt))).f due1879 v1] S := ⟨Same.refl _, h0, h1, True.intro⟩
  have W : Wd S (([] : Ow) ++ F) H := W
  show (_ : TS) _ ([some v0, some v1, none] : L2.St) H
  refine k_if hG W hm (simT_or (simT_not (simT_B (sim_isi isI_list_list (sim_var 1 rfl rfl)))) (simT_test (sim_neI (sim_len (sim_var 1 rfl rfl)) (sim_len (sim_var 2 rfl rfl))))) ?_ ?_
  · clear hG W hm
    intro S H hG W hm
    exact k_ret hG W hm sim_bl (fun v S H hG W hr => k v S H (Okc.at 0 rfl hG) (W.pick [] rfl) hr)
  · clear hG W hm
    intro S H hG W hm
    refine y_next ?_
    refine k_forK (σJ := (fun (bx1889 : Unit) (wx1889 : Option V) => ([some v0, some v1, wx1889] : L2.St))) (OJ := (fun (bx1889 : Unit) (wx1889 : Option V) => ([] : Ow))) (Fb := (fun (bx1889 : Unit) (wx1889 : Option V) => ([] : List Fact))) (σT := (fun b w (tx1889 : V) => ((fun (bx1889 : Unit) (wx1889 : Option V) => ([some v0, some v1, wx1889] : L2.St)) b w).set 2 (some tx1889))) ((none) : Option V) hG W hm (simI_range1 (sim_len (sim_var 2 rfl rfl))) (fun b w => tg_name) (fun b w => List.nil_sublist _) rfl rfl (fun S h => h) ?_ ?_
    · clear hG W hm
      intro S1 y1890 bx1889 wx1889 tx1889 S H k1892 hm hG W Nx1889 hNx1889 hBx1889
      refine k_if hG W hm (simT_or (simT_not (simT_B (sim_isi isI_pair_tuple (sim_ix (sim_var 3 rfl rfl) (sim_var 0 rfl rfl))))) (simT_test (sim_neI (sim_lenP (sim_ix (sim_var 3 rfl rfl) (sim_var 0 rfl rfl))) sim_int))) ?_ ?_
      · clear hG W hm
        intro S H hG W hm
        exact k_ret hG W hm sim_bl (fun v S H hG W hr => k v S H (Okc.at 2 rfl hG) (W.pick [] rfl) hr)
      · clear hG W hm
        intro S H hG W hm
        refine y_next ?_
        refine k_if hG W hm (simT_or (simT_not (simT_B (sim_call (simA_one (sim_fst (sim_ix (sim_var 3 rfl rfl) (sim_var 0 rfl rfl))))))) (simT_test (sim_neI (sim_fst (sim_ix (sim_var 3 rfl rfl) (sim_var 0 rfl rfl))) (sim_fst (sim_ix (sim_var 4 rfl rfl) (sim_var 0 rfl rfl)))))) ?_ ?_
        · clear hG W hm
          intro S H hG W hm
          exact k_ret hG W hm sim_bl (fun v S H hG W hr => k v S H (Okc.at 2 rfl hG) (W.pick [] rfl) hr)
        · clear hG W hm
          intro S H hG W hm
          refine y_next ?_
          refine k_if hG W hm (simT_not (simT_B (sim_call (simA_c (sim_snd (sim_ix (sim_var 3 rfl rfl) (sim_var 0 rfl rfl))) (simA_one (sim_snd (sim_ix (sim_var 4 rfl rfl) (sim_var 0 rfl rfl)))))))) ?_ ?_
          · clear hG W hm
            intro S H hG W hm
            exact k_ret hG W hm sim_bl (fun v S H hG W hr => k v S H (Okc.at 2 rfl hG) (W.pick [] rfl) hr)
          · clear hG W hm
            intro S H hG W hm
            refine y_next ?_
            refine y_next ?_
            exact hNx1889 _ (some (tx1889)) _ _ hm (Okc.dr 1 hG) (W.pick [] rfl)
    · clear hG W hm
      intro bx1889 wx1889 S H hm hG W
      exact k_ret hG W hm sim_bl (fun v S H hG W hr => k v S H (Okc.at 0 rfl hG) (W.pick [] rfl) hr)
theorem sc__law_downs : FnScope ["_law_world_here", "_law_state_here", "_law_lamps", "_law_lamp"] ["_law_world_here", "_law_state_here"] (defScope (top 87)) := ⟨rfl, rfl, rfl, by decide +kernel, rfl, by decide +kernel, by decide +kernel⟩
theorem ok__law_downs (E : EnvF K mg) : Cal CX0 P w K mg base 3 "_law_downs" (spP (TyA.c (tRec k_world A_world) (TyA.one (tT tInt))) (fun a => m__law_downs a.1 a.2) (tL (tP tInt (tT tInt)))) := by
  refine cal_mk (k := 2) E.d__law_downs sc__law_downs (fun vs H Q E h => by obtain ⟨S, F, a, r, ⟨_, _, rfl, _, ⟨_, rfl, _⟩⟩, _⟩ := h; rfl) (fun _ _ _ _ _ _ us hl => match us, hl with | [_, _], _ => rfl) ?_
  rintro f cdv A outer s H vs Q EX hr ⟨S, F, ⟨world_here1930, state_here1931⟩, out, ⟨v0, _, rfl, h0, ⟨v1, rfl, h1⟩⟩, W, hm, k⟩
  refine ⟨_, PSs.nox (pss_cons (ps_setLc (i := 2) (own := [("_law_lamp", 3)]) rfl sc__law_downs.nd rfl rfl (sw_true rfl rfl rfl (by decide +kernel)) (pi_range1 rfl (by exact E.g_range) (pa_cons (pe_dget (by exact hu_of hr) (pv 0) pe_str (by intro _ _; rfl)) pa_nil)) (blkOk_by (N := ["_law_world_here", "_law_state_here", "_law_lamps", "_law_lamp"]) (sc := defScope (top 87)) (by decide +kernel)) (fun _ _ _ _ _ => (pg_name (i := 3) sc__law_downs.nd rfl (Or.inl rfl))) (fun _ _ _ _ _ => (pts_one (pt_val (pe_cal (ok__law_may E) (by exact hr) (by first | decide | omega) (by rfl) pass0 (pa_cons (pv 0) (pa_cons (pv 1) (pa_cons (pv 3) (pa_cons pe_bl pa_nil)))))))) (fun _ _ _ _ _ => (pv 3))) (pss_cons (ps_ret (pe_lc (own := [("_law_lamp", 3)]) rfl sc__law_downs.nd (pi_listK (K := K) (pv 2)) (blkOk_by (N := ["_law_world_here", "_law_state_here", "_law_lamps", "_law_lamp"]) (sc := defScope (top 87)) (by decide +kernel)) (fun _ _ _ _ _ => (pg_name (i := 3) sc__law_downs.nd rfl (Or.inl rfl))) (fun _ _ _ _ _ => pts_nil) (fun _ _ _ _ _ => (pe_tup (pa_cons (pv 3) (pa_cons (pe_cal (ok__law_moved E) (by exact hr) (by first | decide | omega) (by rfl) pass0 (pa_cons (pv 0) (pa_cons (pv 1) (pa_cons (pv 3) pa_nil)))) pa_nil)))))) pss_nil)), ?_⟩
  have hG : Okc [fS S, (tRec k_world A_world).f world_here1930 v0, (tT tInt).f state_here1931 v1] S := ⟨Same.refl _, h0, h1, True.intro⟩
  have W : Wd S (([] : Ow) ++ F) H := W
  show (_ : TS) _ ([some v0, some v1, none, none] : L2.St) H
  refine k_set hG W hm (SimF.sim (simF_lc (simI_range1 (sim_get pj_0 rfl (sim_var 1 rfl rfl))) tg_name (fun _ => rfl) (List.nil_sublist _) (fun a w => (simT_B (sim_call (simA_c (sim_var 2 rfl rfl) (simA_c (sim_var 3 rfl rfl) (simA_c (sim_var 0 rfl rfl) (simA_one sim_bl))))))) (fun a w => (sim_var 0 rfl rfl)))) ?_
  clear hG W hm
  intro lamps1943 v1944 S H hG W hm
  exact k_ret hG W hm (SimF.sim (simF_lc (simI_list (sim_var 0 rfl rfl)) tg_name (fun _ => rfl) (List.nil_sublist _) (fun a w => simT_yes) (fun a w => (sim_pair (sim_var 0 rfl rfl) (sim_call (simA_c (sim_var 3 rfl rfl) (simA_c (sim_var 4 rfl rfl) (simA_one (sim_var 0 rfl rfl))))))))) (fun v S H hG W hr => k v S H (Okc.at 1 rfl hG) (W.pick [] rfl) hr)
theorem sc__law_raised : FnScope ["_law_world_here", "_law_state_here", "_law_lamp", "_law_row", "_law_lower"] ["_law_world_here", "_law_state_here", "_law_lamp"] (defScope (top 88)) := ⟨rfl, rfl, rfl, by decide +kernel, rfl, by decide +kernel, by decide +kernel⟩
theorem ok__law_raised (E : EnvF K mg) : Cal CX0 P w K mg base 1 "_law_raised" (spP (TyA.c (tRec k_world A_world) (TyA.c (tT tInt) (TyA.one tInt))) (fun a => m__law_raised a.1 a.2.1 a.2.2) (tT tInt)) := by
  refine cal_mk (k := 0) E.d__law_raised sc__law_raised (fun vs H Q E h => by obtain ⟨S, F, a, r, ⟨_, _, rfl, _, ⟨_, _, rfl, _, ⟨_, rfl, _⟩⟩⟩, _⟩ := h; rfl) (fun _ _ _ _ _ _ us hl => match us, hl with | [_, _, _], _ => rfl) ?_
  rintro f cdv A outer s H vs Q EX hr ⟨S, F, ⟨world_here1954, state_here1955, lamp1956⟩, out, ⟨v0, _, rfl, h0, ⟨v1, _, rfl, h1, ⟨v2, rfl, h2⟩⟩⟩, W, hm, k⟩
  refine ⟨_, PSs.nox (pss_cons (ps_set (i := 3) sc__law_raised.nd rfl (Or.inl rfl) (pe_callTy (call_listK (K := K)) rfl (by exact E.g_list) (by decide +kernel) (pa_cons (pv 1) pa_nil))) (pss_cons (ps_asg (pe_op op_add (pe_ix (ix_listK (K := K)) (pv 3) (pv 2) (by intro _ _; rfl)) pe_int) (pg_sub (pv 3) (pv 2) set_list)) (pss_cons (ps_for PassesOwn.never rfl (pi_listK (K := K) (pe_ix (ix_listK (K := K)) (pe_dget (by exact hu_of hr) (pv 0) pe_str (by intro _ _; rfl)) (pv 2) (by intro _ _; rfl))) (pg_name (i := 4) sc__law_raised.nd rfl (Or.inl rfl)) (pss_cons (ps_asg pe_int (pg_sub (pv 3) (pv 4) set_list)) pss_nil)) (pss_cons (ps_ret (pe_callTy (call_tupleK (K := K)) rfl (by exact E.g_tuple) (by decide +kernel) (pa_cons (pv 3) pa_nil))) pss_nil)))), ?_⟩
  have hG : Okc [fS S, (tRec k_world A_world).f world_here1954 v0, (tT tInt).f state_here1955 v1, tInt.f lamp1956 v2] S := ⟨Same.refl _, h0, h1, h2, True.intro⟩
  have W : Wd S (([] : Ow) ++ F) H := W
  show (_ : TS) _ ([some v0, some v1, some v2, none, none] : L2.St) H
  refine k_setO hG W hm (simF_listT (sim_var 2 rfl rfl)) ?_
  clear hG W hm
  intro row1957 p1959 c1960 S H hG W hm
  refine k_put hG W hm 0 0 rfl rfl rfl (sim_add (sim_ix (sim_own 0 0 rfl rfl rfl) (sim_var 4 rfl rfl)) sim_int) (sim_var 4 rfl rfl) ?_
  clear hG W hm
  intro row1967 c1968 S H hG W hm
  refine k_fold (σJ := (fun (bx1972 : (List Int)) (wx1972 : List Cell × Option V) => ([some v0, some v1, some v2, some (.ref p1959), wx1972.2] : L2.St))) (OJ := (fun (bx1972 : (List Int)) (wx1972 : List Cell × Option V) => ([wx1972.1] : Ow))) (Fb := (fun (bx1972 : (List Int)) (wx1972 : List Cell × Option V) => ([(oL tInt).f bx1972 p1959 (wx1972.1)] : List Fact))) (σT := (fun b w (tx1972 : V) => ((fun (bx1972 : (List Int)) (wx1972 : List Cell × Option V) => ([some v0, some v1, some v2, some (.ref p1959), wx1972.2] : L2.St)) b w).set 4 (some tx1972))) ((c1968, (none)) : List Cell × Option V) hG W hm (simI_list (sim_ix (sim_get (pj_s (pj_s (pj_s (pj_s pj_0)))) rfl (sim_var 3 rfl rfl)) (sim_var 5 rfl rfl))) (fun b w => tg_name) (fun b w => List.nil_sublist _) rfl rfl (fun S h => (Okc.cons (Okc.at 0 rfl h) h)) ?_ ?_
  · clear hG W hm
    intro S1 y1973 bx1972 b' wx1972 tx1972 S H hm hG W N hN
    refine k_put hG W hm 0 1 rfl rfl rfl sim_int (sim_var 0 rfl rfl) ?_
    clear hG W hm
    intro row1977 c1978 S H hG W hm
    cases hm
    refine y_next ?_
    exact hN (c1978, (some (tx1972))) _ _ (Okc.cons (Okc.at 0 rfl hG) (Okc.dr 3 hG)) (W.pick [0] rfl)
  · clear hG W hm
    intro bx1972 wx1972 S H hm hG W
    exact k_ret hG W hm (sim_tuple (sim_own 0 0 rfl rfl rfl)) (fun v S H hG W hr => k v S H (Okc.at 3 rfl hG) (W.pick [] rfl) hr)
theorem sc__law_ups : FnScope ["_law_world_here", "_law_state_here", "_law_top", "_law_pairs", "_law_lamp", "_law_dimmer", "_law_lower"] ["_law_world_here", "_law_state_here"] (defScope (top 89)) := ⟨rfl, rfl, rfl, by decide +kernel, rfl, by decide +kernel, by decide +kernel⟩
theorem ok__law_ups (E : EnvF K mg) : Cal CX0 P w K mg base 2 "_law_ups" (spP (TyA.c (tRec k_world A_world) (TyA.one (tT tInt))) (fun a => m__law_ups a.1 a.2) (tL (tP tInt (tT tInt)))) := by
  refine cal_mk (k := 1) E.d__law_ups sc__law_ups (fun vs H Q E h => by obtain ⟨S, F, a, r, ⟨_, _, rfl, _, ⟨_, rfl, _⟩⟩, _⟩ := h; rfl) (fun _ _ _ _ _ _ us hl => match us, hl with | [_, _], _ => rfl) ?_
  rintro f cdv A outer s H vs Q EX hr ⟨S, F, ⟨world_here1979, state_here1980⟩, out, ⟨v0, _, rfl, h0, ⟨v1, rfl, h1⟩⟩, W, hm, k⟩
  refine ⟨_, PSs.nox (pss_cons (ps_set (i := 2) sc__law_ups.nd rfl (Or.inr rfl) (pe_op op_sub (pe_dget (by exact hu_of hr) (pv 0) pe_str (by intro _ _; rfl)) pe_int)) (pss_cons (ps_set (i := 3) sc__law_ups.nd rfl (Or.inl rfl) (pe_lst pa_nil)) (pss_cons (ps_for PassesOwn.never rfl (pi_range1 rfl (by exact E.g_range) (pa_cons (pe_dget (by exact hu_of hr) (pv 0) pe_str (by intro _ _; rfl)) pa_nil)) (pg_name (i := 4) sc__law_ups.nd rfl (Or.inl rfl)) (pss_cons (ps_setLc (i := 5) (own := [("_law_lower", 6)]) rfl sc__law_ups.nd rfl rfl (sw_true rfl rfl rfl (by decide +kernel)) (pi_listK (K := K) (pe_ix (ix_listK (K := K)) (pe_dget (by exact hu_of hr) (pv 0) pe_str (by intro _ _; rfl)) (pv 4) (by intro _ _; rfl))) (blkOk_by (N := ["_law_world_here", "_law_state_here", "_law_top", "_law_pairs", "_law_lamp", "_law_dimmer", "_law_lower"]) (sc := defScope (top 89)) (by decide +kernel)) (fun _ _ _ _ _ => (pg_name (i := 6) sc__law_ups.nd rfl (Or.inl rfl))) (fun _ _ _ _ _ => (pts_one (pt_cmpR op_lt (pe_ix (ix_tupK (K := K)) (pv 1) (pv 6) (by intro _ _; rfl)) (pv 2) (nomark _)))) (fun _ _ _ _ _ => (pv 6))) (pss_cons (ps_if (PW.pt (pw_and (pt_cmpR op_lt (pe_ix (ix_tupK (K := K)) (pv 1) (pv 4) (by intro _ _; rfl)) (pv 2) (nomark _)) (pw_and1 (pt_cmpR (op_eqDK (K := K) (by exact hu64 hr)) (pv 5) (pe_lst pa_nil) (nomark _))))) (pss_cons (ps_expr (pe_bmK (K := K) PySem.F.plainAttrs_list PySem.F.slot_list_append PySem.F.type_list_append mt_append (pv 3) (pa_cons (pe_tup (pa_cons (pv 4) (pa_cons (pe_cal (ok__law_raised E) (by exact hr) (by first | decide | omega) (by rfl) pass0 (pa_cons (pv 0) (pa_cons (pv 1) (pa_cons (pv 4) pa_nil)))) pa_nil))) pa_nil))) pss_nil) pss_nil) pss_nil))) (pss_cons (ps_ret (pv 3)) pss_nil)))), ?_⟩
  have hG : Okc [fS S, (tRec k_world A_world).f world_here1979 v0, (tT tInt).f state_here1980 v1] S := ⟨Same.refl _, h0, h1, True.intro⟩
  have W : Wd S (([] : Ow) ++ F) H := W
  show (_ : TS) _ ([some v0, some v1, none, none, none, none, none] : L2.St) H
  refine k_set hG W hm (sim_sub (sim_get (pj_s pj_0) rfl (sim_var 1 rfl rfl)) sim_int) ?_
  clear hG W hm
  intro top1984 v1985 S H hG W hm
  refine k_setO hG W hm (simF_lst (T := (tP tInt (tT tInt))) simA_ln0) ?_
  clear hG W hm
  intro pairs1986 p1988 c1989 S H hG W hm
  refine k_fold (σJ := (fun (bx1992 : (List (Int × (List Int)))) (wx1992 : List Cell × Option V × Option V) => ([some v0, some v1, some (v1985), some (.ref p1988), wx1992.2.1, wx1992.2.2, none] : L2.St))) (OJ := (fun (bx1992 : (List (Int × (List Int)))) (wx1992 : List Cell × Option V × Option V) => ([wx1992.1] : Ow))) (Fb := (fun (bx1992 : (List (Int × (List Int)))) (wx1992 : List Cell × Option V × Option V) => ([(oL (tP tInt (tT tInt))).f bx1992 p1988 (wx1992.1)] : List Fact))) (σT := (fun b w (tx1992 : V) => ((fun (bx1992 : (List (Int × (List Int)))) (wx1992 : List Cell × Option V × Option V) => ([some v0, some v1, some (v1985), some (.ref p1988), wx1992.2.1, wx1992.2.2, none] : L2.St)) b w).set 4 (some tx1992))) ((c1989, (none), (none)) : List Cell × Option V × Option V) hG W hm (simI_range1 (sim_get pj_0 rfl (sim_var 3 rfl rfl))) (fun b w => tg_name) (fun b w => List.nil_sublist _) rfl rfl (fun S h => (Okc.cons (Okc.at 0 rfl h) h)) ?_ ?_
  · clear hG W hm
    intro S1 y1993 bx1992 b' wx1992 tx1992 S H hm hG W N hN
    refine k_set hG W hm (SimF.sim (simF_lc (simI_list (sim_ix (sim_get (pj_s (pj_s (pj_s (pj_s pj_0)))) rfl (sim_var 6 rfl rfl)) (sim_var 0 rfl rfl))) tg_name (fun _ => rfl) (List.nil_sublist _) (fun a w => (simT_test (sim_lt (sim_ixT (sim_var 8 rfl rfl) (sim_var 0 rfl rfl)) (sim_var 5 rfl rfl)))) (fun a w => (sim_var 0 rfl rfl)))) ?_
    clear hG W hm
    intro dimmer2004 v2005 S H hG W hm
    refine k_if hG W hm (simT_and (simT_test (sim_lt (sim_ixT (sim_var 8 rfl rfl) (sim_var 1 rfl rfl)) (sim_var 5 rfl rfl))) (simT_test (sim_eqD (sim_var 0 rfl rfl) (SimF.sim (simF_lst (T := tInt) simA_ln0))))) ?_ ?_
    · clear hG W hm
      intro S H hG W hm
      refine k_app hG W hm 0 2 rfl rfl rfl (sim_pair (sim_var 1 rfl rfl) (sim_call (simA_c (sim_var 7 rfl rfl) (simA_c (sim_var 8 rfl rfl) (simA_one (sim_var 1 rfl rfl)))))) ?_
      clear hG W hm
      intro y2021 c2023 S H hG W hm
      revert hG hm; generalize (bx1992 ++ [y2021]) = pairs2022; intro hG hm
      refine y_next ?_
      cases hm
      refine y_next ?_
      exact hN (c2023, (some (tx1992)), (some (v2005))) _ _ (Okc.cons (Okc.at 0 rfl hG) (Okc.dr 4 hG)) (W.pick [0] rfl)
    · clear hG W hm
      intro S H hG W hm
      refine y_next ?_
      cases hm
      refine y_next ?_
      exact hN (wx1992.1, (some (tx1992)), (some (v2005))) _ _ (Okc.cons (Okc.at 2 rfl hG) (Okc.dr 3 hG)) (W.pick [0] rfl)
  · clear hG W hm
    intro bx1992 wx1992 S H hm hG W
    refine k_frz hG W frz_L 0 0 rfl rfl ?_
    clear hG W
    intro S hG W
    exact k_ret hG W hm (sim_var 0 rfl rfl) (fun v S H hG W hr => k v S H (Okc.at 4 rfl hG) (W.pick [] rfl) hr)
theorem sc__law_neighbours_right : FnScope ["_law_world_here", "_law_house", "_law_state_here", "_law_downs_here", "_law_told", "_law_lamp", "_law_careful_one"] ["_law_world_here", "_law_house", "_law_state_here"] (defScope (top 90)) := ⟨rfl, rfl, rfl, by decide +kernel, rfl, by decide +kernel, by decide +kernel⟩
theorem ok__law_neighbours_right (E : EnvF K mg) : Cal CX0 P w K mg base 6 "_law_neighbours_right" (spP (TyA.c (tRec k_world A_world) (TyA.c (tHouse (He.ga K "House")) (TyA.one (tT tInt)))) (fun a => m__law_neighbours_right a.1 a.2.1 a.2.2) tBool) := by
  refine cal_mk (k := 5) E.d__law_neighbours_right sc__law_neighbours_right (fun vs H Q E h => by obtain ⟨S, F, a, r, ⟨_, _, rfl, _, ⟨_, _, rfl, _, ⟨_, rfl, _⟩⟩⟩, _⟩ := h; rfl) (fun _ _ _ _ _ _ us hl => match us, hl with | [_, _, _], _ => rfl) ?_
  rintro f cdv A outer s H vs Q EX hr ⟨S, F, ⟨world_here2024, house2025, state_here2026⟩, out, ⟨v0, _, rfl, h0, ⟨v1, _, rfl, h1, ⟨v2, rfl, h2⟩⟩⟩, W, hm, k⟩
  refine ⟨_, PSs.nox (pss_cons (ps_set (i := 3) sc__law_neighbours_right.nd rfl (Or.inl rfl) (pe_cal (ok__law_downs E) (by exact hr) (by first | decide | omega) (by rfl) pass0 (pa_cons (pv 0) (pa_cons (pv 2) pa_nil)))) (pss_cons (ps_set (i := 4) sc__law_neighbours_right.nd rfl (Or.inl rfl) (pe_cal (ok_covered_by E) (by exact hr) (by first | decide | omega) (by rfl) pass0 (pa_cons (pv 1) (pa_cons (pv 2) pa_nil)))) (pss_cons (ps_if (pt_not (pt_val (pe_cal (ok__law_same_pairs E) (by exact hr) (by first | decide | omega) (by rfl) pass0 (pa_cons (pv 4) (pa_cons (pv 3) pa_nil))))) (pss_cons (ps_ret pe_bl) pss_nil) pss_nil) (pss_cons (ps_expr (pe_bmK (K := K) PySem.F.plainAttrs_list PySem.F.slot_list_append PySem.F.type_list_append mt_append (pv 4) (pa_cons (pe_tup (pa_cons pe_int (pa_cons (pv 2) pa_nil))) pa_nil))) (pss_cons (ps_if (pt_not (pt_val (pe_cal (ok__law_same_pairs E) (by exact hr) (by first | decide | omega) (by rfl) pass0 (pa_cons (pe_cal (ok_covered_by E) (by exact hr) (by first | decide | omega) (by rfl) pass0 (pa_cons (pv 1) (pa_cons (pv 2) pa_nil))) (pa_cons (pv 3) pa_nil))))) (pss_cons (ps_ret pe_bl) pss_nil) pss_nil) (pss_cons (ps_if (pt_not (pt_val (pe_cal (ok__law_same_pairs E) (by exact hr) (by first | decide | omega) (by rfl) pass0 (pa_cons (pe_cal (ok_covers_of E) (by exact hr) (by first | decide | omega) (by rfl) pass0 (pa_cons (pv 1) (pa_cons (pv 2) pa_nil))) (pa_cons (pe_cal (ok__law_ups E) (by exact hr) (by first | decide | omega) (by rfl) pass0 (pa_cons (pv 0) (pa_cons (pv 2) pa_nil))) pa_nil))))) (pss_cons (ps_ret pe_bl) pss_nil) pss_nil) (pss_cons (ps_for PassesOwn.never rfl (pi_range1 rfl (by exact E.g_range) (pa_cons (pe_dget (by exact hu_of hr) (pv 0) pe_str (by intro _ _; rfl)) pa_nil)) (pg_name (i := 5) sc__law_neighbours_right.nd rfl (Or.inl rfl)) (pss_cons (ps_if (pt_cmpR op_gt (pe_ix (ix_tupK (K := K)) (pv 2) (pv 5) (by intro _ _; rfl)) pe_int (nomark _)) (pss_cons (ps_set (i := 6) sc__law_neighbours_right.nd rfl (Or.inl rfl) (pe_cal (ok__law_may E) (by exact hr) (by first | decide | omega) (by rfl) pass0 (pa_cons (pv 0) (pa_cons (pv 2) (pa_cons (pv 5) (pa_cons pe_bl pa_nil)))))) (pss_cons (ps_set (i := 4) sc__law_neighbours_right.nd rfl (Or.inl rfl) (pe_cal (ok_is_cover E) (by exact hr) (by first | decide | omega) (by rfl) pass0 (pa_cons (pv 1) (pa_cons (pv 2) (pa_cons (pe_cal (ok__law_moved E) (by exact hr) (by first | decide | omega) (by rfl) pass0 (pa_cons (pv 0) (pa_cons (pv 2) (pa_cons (pv 5) pa_nil)))) pa_nil))))) (pss_cons (ps_if (PW.pt (pw_or (pt_not (pt_val (pe_callB (call_isiKK (K := K)) rfl (by exact E.g_isinstance) (by decide +kernel) (pa_cons (pv 4) (pa_cons (pe_bltn (v := .ty "bool") (u := .type "bool") rfl (by exact E.g_bool) (by decide +kernel) rfl) pa_nil))))) (pw_or1 (pt_cmpR (op_neDK (K := K) (by exact hu64 hr)) (pv 4) (pv 6) (nomark _))))) (pss_cons (ps_ret pe_bl) pss_nil) pss_nil) pss_nil))) pss_nil) pss_nil)) (pss_cons (ps_ret pe_bl) pss_nil)))))))), ?_⟩
  have hG : Okc [fS S, (tRec k_world A_world).f world_here2024 v0, (tHouse (He.ga K "House")).f house2025 v1, (tT tInt).f state_here2026 v2] S := ⟨Same.refl _, h0, h1, h2, True.intro⟩
  have W : Wd S (([] : Ow) ++ F) H := W
  show (_ : TS) _ ([some v0, some v1, some v2, none, none, none, none] : L2.St) H
  refine k_set hG W hm (sim_call (simA_c (sim_var 1 rfl rfl) (simA_one (sim_var 3 rfl rfl)))) ?_
  clear hG W hm
  intro downs_here2030 v2031 S H hG W hm
  refine k_setO hG W hm (simF_call (simA_c (sim_var 3 rfl rfl) (simA_one (sim_var 4 rfl rfl)))) ?_
  clear hG W hm
  intro told2035 p2037 c2038 S H hG W hm
  refine k_if hG W hm (simT_not (simT_B (sim_peek 0 0 rfl rfl frz_L sc_bool (sim_call (simA_c (sim_var 0 rfl rfl) (simA_one (sim_var 2 rfl rfl))))))) ?_ ?_
  · clear hG W hm
    intro S H hG W hm
    exact k_ret hG W hm sim_bl (fun v S H hG W hr => k v S H (Okc.at 2 rfl hG) (W.pick [] rfl) hr)
  · clear hG W hm
    intro S H hG W hm
    refine y_next ?_
    refine k_app hG W hm 0 0 rfl rfl rfl (sim_pair sim_int (sim_var 5 rfl rfl)) ?_
    clear hG W hm
    intro y2046 c2048 S H hG W hm
    revert hG hm; generalize (told2035 ++ [y2046]) = told2047; intro hG hm
    refine k_if hG W hm (simT_not (simT_B (sim_call (simA_c (SimF.sim (simF_call (simA_c (sim_var 5 rfl rfl) (simA_one (sim_var 6 rfl rfl))))) (simA_one (sim_var 2 rfl rfl)))))) ?_ ?_
    · clear hG W hm
      intro S H hG W hm
      exact k_ret hG W hm sim_bl (fun v S H hG W hr => k v S H (Okc.at 3 rfl hG) (W.pick [] rfl) hr)
    · clear hG W hm
      intro S H hG W hm
      refine y_next ?_
      refine k_if hG W hm (simT_not (simT_B (sim_call (simA_c (sim_call (simA_c (sim_var 5 rfl rfl) (simA_one (sim_var 6 rfl rfl)))) (simA_one (sim_call (simA_c (sim_var 4 rfl rfl) (simA_one (sim_var 6 rfl rfl))))))))) ?_ ?_
      · clear hG W hm
        intro S H hG W hm
        exact k_ret hG W hm sim_bl (fun v S H hG W hr => k v S H (Okc.at 3 rfl hG) (W.pick [] rfl) hr)
      · clear hG W hm
        intro S H hG W hm
        refine y_next ?_
        refine k_forK (σJ := (fun (bx2070 : Unit) (wx2070 : Option V × Option V × Option V) => ([some v0, some v1, some v2, some (v2031), wx2070.1, wx2070.2.1, wx2070.2.2] : L2.St))) (OJ := (fun (bx2070 : Unit) (wx2070 : Option V × Option V × Option V) => ([c2048] : Ow))) (Fb := (fun (bx2070 : Unit) (wx2070 : Option V × Option V × Option V) => ([] : List Fact))) (σT := (fun b w (tx2070 : V) => ((fun (bx2070 : Unit) (wx2070 : Option V × Option V × Option V) => ([some v0, some v1, some v2, some (v2031), wx2070.1, wx2070.2.1, wx2070.2.2] : L2.St)) b w).set 5 (some tx2070))) (((some (.ref p2037)), (none), (none)) : Option V × Option V × Option V) hG W hm (simI_range1 (sim_get pj_0 rfl (sim_var 4 rfl rfl))) (fun b w => tg_name) (fun b w => List.nil_sublist _) rfl rfl (fun S h => h) ?_ ?_
        · clear hG W hm
          intro S1 y2071 bx2070 wx2070 tx2070 S H k2073 hm hG W Nx2070 hNx2070 hBx2070
          refine k_if hG W hm (simT_test (sim_gt (sim_ixT (sim_var 8 rfl rfl) (sim_var 0 rfl rfl)) sim_int)) ?_ ?_
          · clear hG W hm
            intro S H hG W hm
            refine k_set hG W hm (sim_call (simA_c (sim_var 6 rfl rfl) (simA_c (sim_var 8 rfl rfl) (simA_c (sim_var 0 rfl rfl) (simA_one sim_bl))))) ?_
            clear hG W hm
            intro careful_one2087 v2088 S H hG W hm
            refine k_set hG W hm (sim_call (simA_c (sim_var 8 rfl rfl) (simA_c (sim_var 9 rfl rfl) (simA_one (sim_call (simA_c (sim_var 7 rfl rfl) (simA_c (sim_var 9 rfl rfl) (simA_one (sim_var 1 rfl rfl))))))))) ?_
            clear hG W hm
            intro told2099 v2100 S H hG W hm
            refine k_if hG W hm (simT_or (simT_not (simT_B (sim_isi isI_bool_bool (sim_var 0 rfl rfl)))) (simT_test (sim_neD (sim_var 0 rfl rfl) (sim_var 1 rfl rfl)))) ?_ ?_
            · clear hG W hm
              intro S H hG W hm
              exact k_ret hG W hm sim_bl (fun v S H hG W hr => k v S H (Okc.at 7 rfl hG) (W.pick [] rfl) hr)
            · clear hG W hm
              intro S H hG W hm
              refine y_next ?_
              refine y_next ?_
              refine y_next ?_
              exact hNx2070 _ ((some (v2100)), (some (tx2070)), (some (v2088))) _ _ hm (Okc.dr 3 hG) (W.pick [0] rfl)
          · clear hG W hm
            intro S H hG W hm
            refine y_next ?_
            refine y_next ?_
            exact hNx2070 _ ((wx2070.1), (some (tx2070)), (wx2070.2.2)) _ _ hm (Okc.dr 1 hG) (W.pick [0] rfl)
        · clear hG W hm
          intro bx2070 wx2070 S H hm hG W
          exact k_ret hG W hm sim_bl (fun v S H hG W hr => k v S H (Okc.at 3 rfl hG) (W.pick [] rfl) hr)
theorem sc__law_no_cover : FnScope ["_law_house", "_law_first", "_law_second"] ["_law_house", "_law_first", "_law_second"] (defScope (top 91)) := ⟨rfl, rfl, rfl, by decide +kernel, rfl, by decide +kernel, by decide +kernel⟩
theorem ok__law_no_cover (E : EnvF K mg) : Cal CX0 P w K mg base 6 "_law_no_cover" (spP (TyA.c (tHouse (He.ga K "House")) (TyA.c (tT tInt) (TyA.one (tT tInt)))) (fun a => m__law_no_cover a.1 a.2.1 a.2.2) tBool) := by
  refine cal_mk (k := 5) E.d__law_no_cover sc__law_no_cover (fun vs H Q E h => by obtain ⟨S, F, a, r, ⟨_, _, rfl, _, ⟨_, _, rfl, _, ⟨_, rfl, _⟩⟩⟩, _⟩ := h; rfl) (fun _ _ _ _ _ _ us hl => match us, hl with | [_, _, _], _ => rfl) ?_
  rintro f cdv A outer s H vs Q EX hr ⟨S, F, ⟨house2106, first2107, second2108⟩, out, ⟨v0, _, rfl, h0, ⟨v1, _, rfl, h1, ⟨v2, rfl, h2⟩⟩⟩, W, hm, k⟩
  refine ⟨_, PSs.nox (pss_cons (ps_ret (pe_cmpR op_isBl (pe_cal (ok_is_cover E) (by exact hr) (by first | decide | omega) (by rfl) pass0 (pa_cons (pv 0) (pa_cons (pv 1) (pa_cons (pv 2) pa_nil)))) pe_bl (nomark _))) pss_nil), ?_⟩
  have hG : Okc [fS S, (tHouse (He.ga K "House")).f house2106 v0, (tT tInt).f first2107 v1, (tT tInt).f second2108 v2] S := ⟨Same.refl _, h0, h1, h2, True.intro⟩
  have W : Wd S (([] : Ow) ++ F) H := W
  show (_ : TS) _ ([some v0, some v1, some v2] : L2.St) H
  exact k_ret hG W hm (sim_isB (sim_call (simA_c (sim_var 1 rfl rfl) (simA_c (sim_var 2 rfl rfl) (simA_one (sim_var 3 rfl rfl))))) sim_bl) (fun v S H hG W hr => k v S H (Okc.at 0 rfl hG) (W.pick [] rfl) hr)
theorem sc__law_steps_right : FnScope ["_law_house", "_law_states", "_law_trail", "_law_k", "_law_first", "_law_second", "_law_lamp"] ["_law_house", "_law_states", "_law_trail"] (defScope (top 92)) := ⟨rfl, rfl, rfl, by decide +kernel, rfl, by decide +kernel, by decide +kernel⟩
theorem ok__law_steps_right (E : EnvF K mg) : Cal CX0 P w K mg base 7 "_law_steps_right" (spP (TyA.c (tHouse (He.ga K "House")) (TyA.c (tL (tT tInt)) (TyA.one (tL tInt)))) (fun a => m__law_steps_right a.1 a.2.1 a.2.2) tBool) := by
  refine cal_mk (k := 6) E.d__law_steps_right sc__law_steps_right (fun vs H Q E h => by obtain ⟨S, F, a, r, ⟨_, _, rfl, _, ⟨_, _, rfl, _, ⟨_, rfl, _⟩⟩⟩, _⟩ := h; rfl) (fun _ _ _ _ _ _ us hl => match us, hl with | [_, _, _], _ => rfl) ?_
  rintro f cdv A outer s H vs Q EX hr ⟨S, F, ⟨house2116, states2117, trail2118⟩, out, ⟨v0, _, rfl, h0, ⟨v1, _, rfl, h1, ⟨v2, rfl, h2⟩⟩⟩, W, hm, k⟩
  refine ⟨_, PSs.nox (pss_cons (ps_for PassesOwn.never rfl (pi_range1 rfl (by exact E.g_range) (pa_cons (pe_callB (call_lenK (K := K)) rfl (by exact E.g_len) boot_len (pa_cons (pv 2) pa_nil)) pa_nil)) (pg_name (i := 3) sc__law_steps_right.nd rfl (Or.inl rfl)) (pss_cons (ps_if (pt_cmpR op_notBl (pe_cal (ok_is_cover E) (by exact hr) (by first | decide | omega) (by rfl) pass0 (pa_cons (pv 0) (pa_cons (pe_ix (ix_listK (K := K)) (pv 1) (pv 3) (by intro _ _; rfl)) (pa_cons (pe_ix (ix_listK (K := K)) (pv 1) (pe_op op_add (pv 3) pe_int) (by intro _ _; rfl)) pa_nil)))) pe_bl (nomark _)) (pss_cons (ps_ret pe_bl) pss_nil) pss_nil) (pss_cons (ps_if (pt_not (pt_val (pe_cal (ok__law_no_cover E) (by exact hr) (by first | decide | omega) (by rfl) pass0 (pa_cons (pv 0) (pa_cons (pe_ix (ix_listK (K := K)) (pv 1) (pe_op op_add (pv 3) pe_int) (by intro _ _; rfl)) (pa_cons (pe_ix (ix_listK (K := K)) (pv 1) (pv 3) (by intro _ _; rfl)) pa_nil)))))) (pss_cons (ps_ret pe_bl) pss_nil) pss_nil) (pss_cons (ps_if (pt_not (pt_val (pe_cal (ok__law_no_cover E) (by exact hr) (by first | decide | omega) (by rfl) pass0 (pa_cons (pv 0) (pa_cons (pe_ix (ix_listK (K := K)) (pv 1) (pv 3) (by intro _ _; rfl)) (pa_cons (pe_ix (ix_listK (K := K)) (pv 1) (pv 3) (by intro _ _; rfl)) pa_nil)))))) (pss_cons (ps_ret pe_bl) pss_nil) pss_nil) (pss_cons (ps_if (PW.pt (pw_and (pt_cmpR op_lt (pe_op op_add (pv 3) pe_int) (pe_callB (call_lenK (K := K)) rfl (by exact E.g_len) boot_len (pa_cons (pv 1) pa_nil)) (nomark _)) (pw_and1 (pt_not (pt_val (pe_cal (ok__law_no_cover E) (by exact hr) (by first | decide | omega) (by rfl) pass0 (pa_cons (pv 0) (pa_cons (pe_ix (ix_listK (K := K)) (pv 1) (pv 3) (by intro _ _; rfl)) (pa_cons (pe_ix (ix_listK (K := K)) (pv 1) (pe_op op_add (pv 3) pe_int) (by intro _ _; rfl)) pa_nil))))))))) (pss_cons (ps_ret pe_bl) pss_nil) pss_nil) (pss_cons (ps_set (i := 4) sc__law_steps_right.nd rfl (Or.inl rfl) (pe_cal (ok_worth E) (by exact hr) (by first | decide | omega) (by rfl) pass0 (pa_cons (pv 0) (pa_cons (pe_ix (ix_listK (K := K)) (pv 1) (pv 3) (by intro _ _; rfl)) pa_nil)))) (pss_cons (ps_set (i := 5) sc__law_steps_right.nd rfl (Or.inl rfl) (pe_cal (ok_worth E) (by exact hr) (by first | decide | omega) (by rfl) pass0 (pa_cons (pv 0) (pa_cons (pe_ix (ix_listK (K := K)) (pv 1) (pe_op op_add (pv 3) pe_int) (by intro _ _; rfl)) pa_nil)))) (pss_cons (ps_if (PW.pt (pw_or (pt_not (pt_val (pe_cal (ok__law_is_integer E) (by exact hr) (by first | decide | omega) (by rfl) pass0 (pa_cons (pv 4) pa_nil)))) (pw_or (pt_not (pt_val (pe_cal (ok__law_is_integer E) (by exact hr) (by first | decide | omega) (by rfl) pass0 (pa_cons (pv 5) pa_nil)))) (pw_or1 (pt_cmpR op_ne (pe_op op_sub (pv 4) (pv 5)) pe_int (nomark _)))))) (pss_cons (ps_ret pe_bl) pss_nil) pss_nil) (pss_cons (ps_set (i := 6) sc__law_steps_right.nd rfl (Or.inl rfl) (pe_cal (ok_next_careful E) (by exact hr) (by first | decide | omega) (by rfl) pass0 (pa_cons (pv 0) (pa_cons (pe_ix (ix_listK (K := K)) (pv 1) (pv 3) (by intro _ _; rfl)) (pa_cons (pe_ix (ix_listK (K := K)) (pv 1) (pe_un un_neg pe_int) (by intro _ _; rfl)) pa_nil))))) (pss_cons (ps_if (PW.pt (pw_or (pt_not (pt_val (pe_cal (ok__law_is_integer E) (by exact hr) (by first | decide | omega) (by rfl) pass0 (pa_cons (pv 6) pa_nil)))) (pw_or1 (pt_cmpR op_ne (pv 6) (pe_ix (ix_listK (K := K)) (pv 2) (pv 3) (by intro _ _; rfl)) (nomark _))))) (pss_cons (ps_ret pe_bl) pss_nil) pss_nil) (pss_cons (ps_if (pt_cmpR (op_neDK (K := K) (by exact hu64 hr)) (pe_kcal (ok_careful_run E) (by exact hr) (by first | decide | omega) (by rfl) pass0 (pa_cons (pv 0) (pa_cons (pe_ix (ix_listK (K := K)) (pv 1) (pv 3) (by intro _ _; rfl)) (pa_cons (pe_ix (ix_listK (K := K)) (pv 1) (pe_un un_neg pe_int) (by intro _ _; rfl)) pa_nil))) (pk_cons (pe_op op_sub (pe_callB (call_lenK (K := K)) rfl (by exact E.g_len) boot_len (pa_cons (pv 2) pa_nil)) (pv 3)) pk_nil)) (pe_slice (sl_listK (K := K)) (pv 2) (po_some (pv 3)) po_none) (nomark _)) (pss_cons (ps_ret pe_bl) pss_nil) pss_nil) pss_nil))))))))))) (pss_cons (ps_ret (pe_cmpR op_isN (pe_cal (ok_next_careful E) (by exact hr) (by first | decide | omega) (by rfl) pass0 (pa_cons (pv 0) (pa_cons (pe_ix (ix_listK (K := K)) (pv 1) (pe_un un_neg pe_int) (by intro _ _; rfl)) (pa_cons (pe_ix (ix_listK (K := K)) (pv 1) (pe_un un_neg pe_int) (by intro _ _; rfl)) pa_nil)))) pe_non (nomark _))) pss_nil)), ?_⟩
  have hG : Okc [fS S, (tHouse (He.ga K "House")).f house2116 v0, (tL (tT tInt)).f states2117 v1, (tL tInt).f trail2118 v2] S := ⟨Same.refl _, h0, h1, h2, True.intro⟩
  have W : Wd S (([] : Ow) ++ F) H := W
  show (_ : TS) _ ([some v0, some v1, some v2, none, none, none, none] : L2.St) H
  refine k_forK (σJ := (fun (bx2121 : Unit) (wx2121 : Option V × Option V × Option V × Option V) => ([some v0, some v1, some v2, wx2121.1, wx2121.2.1, wx2121.2.2.1, wx2121.2.2.2] : L2.St))) (OJ := (fun (bx2121 : Unit) (wx2121 : Option V × Option V × Option V × Option V) => ([] : Ow))) (Fb := (fun (bx2121 : Unit) (wx2121 : Option V × Option V × Option V × Option V) => ([] : List Fact))) (σT := (fun b w (tx2121 : V) => ((fun (bx2121 : Unit) (wx2121 : Option V × Option V × Option V × Option V) => ([some v0, some v1, some v2, wx2121.1, wx2121.2.1, wx2121.2.2.1, wx2121.2.2.2] : L2.St)) b w).set 3 (some tx2121))) (((none), (none), (none), (none)) : Option V × Option V × Option V × Option V) hG W hm (simI_range1 (sim_len (sim_var 3 rfl rfl))) (fun b w => tg_name) (fun b w => List.nil_sublist _) rfl rfl (fun S h => h) ?_ ?_
  · clear hG W hm
    intro S1 y2122 bx2121 wx2121 tx2121 S H k2124 hm hG W Nx2121 hNx2121 hBx2121
    refine k_if hG W hm (simT_test (sim_notB (sim_call (simA_c (sim_var 3 rfl rfl) (simA_c (sim_ix (sim_var 4 rfl rfl) (sim_var 0 rfl rfl)) (simA_one (sim_ix (sim_var 4 rfl rfl) (sim_add (sim_var 0 rfl rfl) sim_int)))))) sim_bl)) ?_ ?_
    · clear hG W hm
      intro S H hG W hm
      exact k_ret hG W hm sim_bl (fun v S H hG W hr => k v S H (Okc.at 2 rfl hG) (W.pick [] rfl) hr)
    · clear hG W hm
      intro S H hG W hm
      refine y_next ?_
      refine k_if hG W hm (simT_not (simT_B (sim_call (simA_c (sim_var 3 rfl rfl) (simA_c (sim_ix (sim_var 4 rfl rfl) (sim_add (sim_var 0 rfl rfl) sim_int)) (simA_one (sim_ix (sim_var 4 rfl rfl) (sim_var 0 rfl rfl)))))))) ?_ ?_
      · clear hG W hm
        intro S H hG W hm
        exact k_ret hG W hm sim_bl (fun v S H hG W hr => k v S H (Okc.at 2 rfl hG) (W.pick [] rfl) hr)
      · clear hG W hm
        intro S H hG W hm
        refine y_next ?_
        refine k_if hG W hm (simT_not (simT_B (sim_call (simA_c (sim_var 3 rfl rfl) (simA_c (sim_ix (sim_var 4 rfl rfl) (sim_var 0 rfl rfl)) (simA_one (sim_ix (sim_var 4 rfl rfl) (sim_var 0 rfl rfl)))))))) ?_ ?_
        · clear hG W hm
          intro S H hG W hm
          exact k_ret hG W hm sim_bl (fun v S H hG W hr => k v S H (Okc.at 2 rfl hG) (W.pick [] rfl) hr)
        · clear hG W hm
          intro S H hG W hm
          refine y_next ?_
          refine k_if hG W hm (simT_and (simT_test (sim_lt (sim_add (sim_var 0 rfl rfl) sim_int) (sim_len (sim_var 4 rfl rfl)))) (simT_not (simT_B (sim_call (simA_c (sim_var 3 rfl rfl) (simA_c (sim_ix (sim_var 4 rfl rfl) (sim_var 0 rfl rfl)) (simA_one (sim_ix (sim_var 4 rfl rfl) (sim_add (sim_var 0 rfl rfl) sim_int))))))))) ?_ ?_
          · clear hG W hm
            intro S H hG W hm
            exact k_ret hG W hm sim_bl (fun v S H hG W hr => k v S H (Okc.at 2 rfl hG) (W.pick [] rfl) hr)
          · clear hG W hm
            intro S H hG W hm
            refine y_next ?_
            refine k_set hG W hm (sim_call (simA_c (sim_var 3 rfl rfl) (simA_one (sim_ix (sim_var 4 rfl rfl) (sim_var 0 rfl rfl))))) ?_
            clear hG W hm
            intro first2188 v2189 S H hG W hm
            refine k_set hG W hm (sim_call (simA_c (sim_var 4 rfl rfl) (simA_one (sim_ix (sim_var 5 rfl rfl) (sim_add (sim_var 1 rfl rfl) sim_int))))) ?_
            clear hG W hm
            intro second2197 v2198 S H hG W hm
            refine k_if hG W hm (simT_or (simT_not (simT_B (sim_call (simA_one (sim_var 1 rfl rfl))))) (simT_or (simT_not (simT_B (sim_call (simA_one (sim_var 0 rfl rfl))))) (simT_test (sim_neI (sim_sub (sim_var 1 rfl rfl) (sim_var 0 rfl rfl)) sim_int)))) ?_ ?_
            · clear hG W hm
              intro S H hG W hm
              exact k_ret hG W hm sim_bl (fun v S H hG W hr => k v S H (Okc.at 4 rfl hG) (W.pick [] rfl) hr)
            · clear hG W hm
              intro S H hG W hm
              refine y_next ?_
              refine k_set hG W hm (sim_unO (sim_call (simA_c (sim_var 5 rfl rfl) (simA_c (sim_ix (sim_var 6 rfl rfl) (sim_var 2 rfl rfl)) (simA_one (sim_ix (sim_var 6 rfl rfl) (sim_neg sim_int))))))) ?_
              clear hG W hm
              intro lamp2220 v2221 S H hG W hm
              refine k_if hG W hm (simT_or (simT_not (simT_B (sim_call (simA_one (sim_var 0 rfl rfl))))) (simT_test (sim_neI (sim_var 0 rfl rfl) (sim_ix (sim_var 8 rfl rfl) (sim_var 3 rfl rfl))))) ?_ ?_
              · clear hG W hm
                intro S H hG W hm
                exact k_ret hG W hm sim_bl (fun v S H hG W hr => k v S H (Okc.at 5 rfl hG) (W.pick [] rfl) hr)
              · clear hG W hm
                intro S H hG W hm
                refine y_next ?_
                refine k_if hG W hm (simT_test (sim_neD (sim_callK (ext := (fun (a : HouseD × (List Int) × (List Int)) (b : Int) => (a.1, (a.2.1, (a.2.2, b))))) (f := (fun (a : HouseD × (List Int) × (List Int) × Int) => m_careful_run a.1 a.2.1 a.2.2.1 a.2.2.2)) (fun a vs S h => ln_c h (fun a vs S h => ln_c h (fun a vs S h => ln_one h))) (fun a vs S h => ln_one h) (fun a b vs zs S h r => (ap_c h fun ws h => (ap_c h fun ws h => (ap_one h r)))) (simA_c (sim_var 6 rfl rfl) (simA_c (sim_ix (sim_var 7 rfl rfl) (sim_var 3 rfl rfl)) (simA_one (sim_ix (sim_var 7 rfl rfl) (sim_neg sim_int))))) (simA_one (sim_sub (sim_len (sim_var 8 rfl rfl)) (sim_var 3 rfl rfl)))) (SimF.sim (simF_slice (sim_var 8 rfl rfl) (simO_part (sim_var 3 rfl rfl)) simO_no)))) ?_ ?_
                · clear hG W hm
                  intro S H hG W hm
                  exact k_ret hG W hm sim_bl (fun v S H hG W hr => k v S H (Okc.at 5 rfl hG) (W.pick [] rfl) hr)
                · clear hG W hm
                  intro S H hG W hm
                  refine y_next ?_
                  refine y_next ?_
                  exact hNx2121 _ ((some (tx2121)), (some (v2189)), (some (v2198)), (some (v2221))) _ _ hm (Okc.dr 4 hG) (W.pick [] rfl)
  · clear hG W hm
    intro bx2121 wx2121 S H hm hG W
    exact k_ret hG W hm (sim_isN (sim_call (simA_c (sim_var 1 rfl rfl) (simA_c (sim_ix (sim_var 2 rfl rfl) (sim_neg sim_int)) (simA_one (sim_ix (sim_var 2 rfl rfl) (sim_neg sim_int)))))) sim_non) (fun v S H hG W hr => k v S H (Okc.at 0 rfl hG) (W.pick [] rfl) hr)
theorem sc_law : FnScope ["_law_script", "_law_bag_here", "_law_world_here", "_law_house", "_law_source", "_law_target", "_law_lamp", "_law_trail", "_law_states", "_law_told", "_law_first", "_law_second", "_law_state_here"] ["_law_script"] (defScope (top 93)) := ⟨rfl, rfl, rfl, by decide +kernel, rfl, by decide +kernel, by decide +kernel⟩
theorem fn_law (E : EnvF K mg) {f : Addr} {fd : FuncData} (D : FunD K "law" "law" (defArgs (top 93)) (defBody (top 93)) (defScope (top 93)) [] [] f fd) : FnOk P w K mg base CX0 8 f fd ["_law_script"] (spP (TyA.one (tScr K)) (fun a => m_law a) tBool) := by
  refine D.ok (k := 7) sc_law (fun vs H Q E h => by obtain ⟨S, F, a, r, ⟨_, rfl, _⟩, _⟩ := h; rfl) ?_
  rintro cdv A outer s H vs Q EX hr ⟨S, F, script2265, out, ⟨v0, rfl, h0⟩, W, hm, k⟩
  refine ⟨_, PSs.nox (pss_cons (ps_set (i := 1) sc_law.nd rfl (Or.inl rfl) (pe_cal (ok__law_bag E) (by exact hr) (by first | decide | omega) (by rfl) pass0 (pa_cons (pv 0) pa_nil))) (pss_cons (ps_set (i := 2) sc_law.nd rfl (Or.inl rfl) (pe_cal (ok__law_any E) (by exact hr) (by first | decide | omega) (by rfl) pass0 (pa_cons (pv 1) pa_nil))) (pss_cons (ps_set (i := 3) sc_law.nd rfl (Or.inl rfl) (pe_mak (ok_House___init__ E) (by exact hr) (by first | decide | omega) (by rfl) pass0 (pa_cons (pe_dget (by exact hu_of hr) (pv 2) pe_str (by intro _ _; rfl)) (pa_cons (pe_dget (by exact hu_of hr) (pv 2) pe_str (by intro _ _; rfl)) (pa_cons (pe_callTy (call_listK (K := K)) rfl (by exact E.g_list) (by decide +kernel) (pa_cons (pe_dget (by exact hu_of hr) (pv 2) pe_str (by intro _ _; rfl)) pa_nil)) pa_nil))))) (pss_cons (ps_set (i := 4) sc_law.nd rfl (Or.inl rfl) (pe_cal (ok__law_state E) (by exact hr) (by first | decide | omega) (by rfl) pass0 (pa_cons (pv 1) (pa_cons (pv 2) pa_nil)))) (pss_cons (ps_set (i := 5) sc_law.nd rfl (Or.inl rfl) (pv 4)) (pss_cons (ps_for PassesOwn.never rfl (pi_listK (K := K) (pe_cal (ok__law_run E) (by exact hr) (by first | decide | omega) (by rfl) pass0 (pa_cons (pv 1) (pa_cons (pv 2) (pa_cons (pv 4) (pa_cons pe_bl (pa_cons pe_int pa_nil))))))) (pg_name (i := 6) sc_law.nd rfl (Or.inl rfl)) (pss_cons (ps_set (i := 5) sc_law.nd rfl (Or.inl rfl) (pe_cal (ok__law_moved E) (by exact hr) (by first | decide | omega) (by rfl) pass0 (pa_cons (pv 2) (pa_cons (pv 5) (pa_cons (pv 6) pa_nil))))) pss_nil)) (pss_cons (ps_set (i := 7) sc_law.nd rfl (Or.inl rfl) (pe_cal (ok__law_due_run E) (by exact hr) (by first | decide | omega) (by rfl) pass0 (pa_cons (pv 2) (pa_cons (pv 4) (pa_cons (pv 5) pa_nil))))) (pss_cons (ps_set (i := 8) sc_law.nd rfl (Or.inl rfl) (pe_lst (pa_cons (pv 4) pa_nil))) (pss_cons (ps_for PassesOwn.never rfl (pi_listK (K := K) (pv 7)) (pg_name (i := 6) sc_law.nd rfl (Or.inl rfl)) (pss_cons (ps_expr (pe_bmK (K := K) PySem.F.plainAttrs_list PySem.F.slot_list_append PySem.F.type_list_append mt_append (pv 8) (pa_cons (pe_cal (ok__law_moved E) (by exact hr) (by first | decide | omega) (by rfl) pass0 (pa_cons (pv 2) (pa_cons (pe_ix (ix_listK (K := K)) (pv 8) (pe_un un_neg pe_int) (by intro _ _; rfl)) (pa_cons (pv 6) pa_nil)))) pa_nil))) pss_nil)) (pss_cons (ps_set (i := 9) sc_law.nd rfl (Or.inl rfl) (pe_kcal0 (ok_careful_run E) (by exact hr) (by first | decide | omega) (by rfl) pass0 (pa_cons (pv 3) (pa_cons (pv 4) (pa_cons (pv 5) pa_nil))))) (pss_cons (ps_if (PW.pt (pw_or (pt_not (pt_val (pe_cal (ok__law_is_run E) (by exact hr) (by first | decide | omega) (by rfl) pass0 (pa_cons (pv 2) (pa_cons (pv 9) pa_nil))))) (pw_or (pt_cmpR (op_neDK (K := K) (by exact hu64 hr)) (pv 9) (pv 7) (nomark _)) (pw_or1 (pt_cmpR (op_neDK (K := K) (by exact hu64 hr)) (pe_ix (ix_listK (K := K)) (pv 8) (pe_un un_neg pe_int) (by intro _ _; rfl)) (pv 5) (nomark _)))))) (pss_cons (ps_ret pe_bl) pss_nil) pss_nil) (pss_cons (ps_if (pt_not (pt_val (pe_cal (ok__law_same_states E) (by exact hr) (by first | decide | omega) (by rfl) pass0 (pa_cons (pe_kcal (ok_states_along E) (by exact hr) (by first | decide | omega) (by rfl) pass0 (pa_cons (pv 3) (pa_cons (pv 4) (pa_cons (pv 9) pa_nil))) (pk_cons pe_bl pk_nil)) (pa_cons (pv 8) pa_nil))))) (pss_cons (ps_ret pe_bl) pss_nil) pss_nil) (pss_cons (ps_if (pt_not (pt_val (pe_cal (ok__law_steps_right E) (by exact hr) (by first | decide | omega) (by rfl) pass0 (pa_cons (pv 3) (pa_cons (pv 8) (pa_cons (pv 7) pa_nil)))))) (pss_cons (ps_ret pe_bl) pss_nil) pss_nil) (pss_cons (ps_set (i := 10) sc_law.nd rfl (Or.inl rfl) (pe_ix (ix_listK (K := K)) (pv 8) (pe_cal (ok__law_draw E) (by exact hr) (by first | decide | omega) (by rfl) pass0 (pa_cons (pv 1) (pa_cons (pe_callB (call_lenK (K := K)) rfl (by exact E.g_len) boot_len (pa_cons (pv 8) pa_nil)) pa_nil))) (by intro _ _; rfl))) (pss_cons (ps_set (i := 11) sc_law.nd rfl (Or.inl rfl) (pe_ix (ix_listK (K := K)) (pv 8) (pe_cal (ok__law_draw E) (by exact hr) (by first | decide | omega) (by rfl) pass0 (pa_cons (pv 1) (pa_cons (pe_callB (call_lenK (K := K)) rfl (by exact E.g_len) boot_len (pa_cons (pv 8) pa_nil)) pa_nil))) (by intro _ _; rfl))) (pss_cons (ps_for PassesOwn.never rfl (pi_listK (K := K) (pe_lst (pa_cons (pv 10) (pa_cons (pv 11) (pa_cons (pe_cal (ok__law_state E) (by exact hr) (by first | decide | omega) (by rfl) pass0 (pa_cons (pv 1) (pa_cons (pv 2) pa_nil))) pa_nil))))) (pg_name (i := 12) sc_law.nd rfl (Or.inl rfl)) (pss_cons (ps_if (pt_not (pt_val (pe_cal (ok__law_neighbours_right E) (by exact hr) (by first | decide | omega) (by rfl) pass0 (pa_cons (pv 2) (pa_cons (pv 3) (pa_cons (pv 12) pa_nil)))))) (pss_cons (ps_ret pe_bl) pss_nil) pss_nil) pss_nil)) (pss_cons (ps_ret pe_bl) pss_nil))))))))))))))))), ?_⟩
  have hG : Okc [fS S, (tScr K).f script2265 v0] S := ⟨Same.refl _, h0, True.intro⟩
  have W : Wd S (([] : Ow) ++ F) H := W
  show (_ : TS) _ ([some v0, none, none, none, none, none, none, none, none, none, none, none, none] : L2.St) H
  refine k_setO hG W hm (simF_call (simA_one (sim_var 1 rfl rfl))) ?_
  clear hG W hm
  intro bag_here2267 p2269 c2270 S H hG W hm
  refine e_set ?_
  refine e_call ?_
  refine e_cons ?_
  refine c_ref rfl ?_
  refine e_nil ?_
  refine v_callO (g := bag_here2267) (a := ()) hG W hm 0 0 rfl rfl rfl (fun S h => ra_nil) ?_
  clear hG W hm
  intro r2271 v2272 c2273 S H hG W hm
  refine k_set hG W hm (sim_house (simF_make (simA_c (sim_get pj_0 rfl (sim_var 0 rfl rfl)) (simA_c (sim_get (pj_s pj_0) rfl (sim_var 0 rfl rfl)) (simA_one (SimF.sim (simF_list (sim_get (pj_s (pj_s pj_0)) rfl (sim_var 0 rfl rfl))))))))) ?_
  clear hG W hm
  intro house2283 v2284 S H hG W hm
  refine e_set ?_
  refine e_call ?_
  refine e_cons ?_
  refine c_ref rfl ?_
  refine e_cons ?_
  refine c_ref rfl ?_
  refine e_nil ?_
  refine v_callO (g := r2271.2) (a := r2271.1) hG W hm 0 2 rfl rfl rfl (fun S h => (ra_one (Okc.at 1 rfl h))) ?_
  clear hG W hm
  intro r2285 v2286 c2287 S H hG W hm
  refine k_set hG W hm (sim_var 0 rfl rfl) ?_
  clear hG W hm
  intro target2288 v2289 S H hG W hm
  refine e_forL ?_
  refine e_call ?_
  refine e_cons ?_
  refine c_ref rfl ?_
  refine e_cons ?_
  refine c_ref rfl ?_
  refine e_cons ?_
  refine c_ref rfl ?_
  refine e_cons ?_
  refine c_pure hG W hm sim_bl ?_
  clear hG W hm
  intro x2290 v2291 S H hG W hm
  refine e_cons ?_
  refine c_pure hG W hm sim_int ?_
  clear hG W hm
  intro x2292 v2293 S H hG W hm
  refine e_nil ?_
  refine v_callO (g := r2285.2) (a := (r2271.1, r2285.1, x2290, x2292)) hG W hm 0 4 rfl rfl rfl (fun S h => (ra_c (Okc.at 6 rfl h) (ra_c (Okc.at 3 rfl h) (ra_c (Okc.at 1 rfl h) (ra_one (Okc.at 0 rfl h)))))) ?_
  clear hG W hm
  intro r2294 v2295 c2296 S H hG W hm
  refine k_fold (σJ := (fun (bx2297 : (List Int)) (wx2297 : V × Option V) => ([some v0, some (.ref p2269), some (v2272), some (v2284), some (v2286), some (wx2297.1), wx2297.2, none, none, none, none, none, none] : L2.St))) (OJ := (fun (bx2297 : (List Int)) (wx2297 : V × Option V) => ([c2296] : Ow))) (Fb := (fun (bx2297 : (List Int)) (wx2297 : V × Option V) => ([(tT tInt).f bx2297 (wx2297.1)] : List Fact))) (σT := (fun b w (tx2297 : V) => ((fun (bx2297 : (List Int)) (wx2297 : V × Option V) => ([some v0, some (.ref p2269), some (v2272), some (v2284), some (v2286), some (wx2297.1), wx2297.2, none, none, none, none, none, none] : L2.St)) b w).set 6 (some tx2297))) ((v2289, (none)) : V × Option V) hG W hm (simI_list (sim_K 0 rfl)) (fun b w => tg_name) (fun b w => List.nil_sublist _) rfl rfl (fun S h => (Okc.cons (Okc.at 4 rfl h) h)) ?_ ?_
  · clear hG W hm
    intro S1 y2298 bx2297 b' wx2297 tx2297 S H hm hG W N hN
    refine k_set hG W hm (sim_call (simA_c (sim_var 11 rfl rfl) (simA_c (sim_var 1 rfl rfl) (simA_one (sim_var 0 rfl rfl))))) ?_
    clear hG W hm
    intro target2305 v2306 S H hG W hm
    cases hm
    refine y_next ?_
    exact hN (v2306, (some (tx2297))) _ _ (Okc.cons (Okc.at 0 rfl hG) (Okc.dr 3 hG)) (W.pick [0] rfl)
  · clear hG W hm
    intro bx2297 wx2297 S H hm hG W
    refine k_set hG W hm (sim_call (simA_c (sim_var 9 rfl rfl) (simA_c (sim_var 6 rfl rfl) (simA_one (sim_var 0 rfl rfl))))) ?_
    clear hG W hm
    intro trail2312 v2313 S H hG W hm
    refine k_setO hG W hm (simF_lst (simA_ln (sim_var 7 rfl rfl) simA_ln0)) ?_
    clear hG W hm
    intro states2316 p2318 c2319 S H hG W hm
    refine k_fold (σJ := (fun (bx2320 : (List (List Int))) (wx2320 : List Cell × Option V) => ([some v0, some (.ref p2269), some (v2272), some (v2284), some (v2286), some (wx2297.1), wx2320.2, some (v2313), some (.ref p2318), none, none, none, none] : L2.St))) (OJ := (fun (bx2320 : (List (List Int))) (wx2320 : List Cell × Option V) => ([wx2320.1, c2296] : Ow))) (Fb := (fun (bx2320 : (List (List Int))) (wx2320 : List Cell × Option V) => ([(oL (tT tInt)).f bx2320 p2318 (wx2320.1)] : List Fact))) (σT := (fun b w (tx2320 : V) => ((fun (bx2320 : (List (List Int))) (wx2320 : List Cell × Option V) => ([some v0, some (.ref p2269), some (v2272), some (v2284), some (v2286), some (wx2297.1), wx2320.2, some (v2313), some (.ref p2318), none, none, none, none] : L2.St)) b w).set 6 (some tx2320))) ((c2319, (wx2297.2)) : List Cell × Option V) hG W hm (simI_list (sim_var 1 rfl rfl)) (fun b w => tg_name) (fun b w => List.nil_sublist _) rfl rfl (fun S h => (Okc.cons (Okc.at 0 rfl h) h)) ?_ ?_
    · clear hG W hm
      intro S1 y2321 bx2320 b' wx2320 tx2320 S H hm hG W N hN
      refine k_app hG W hm 0 1 rfl rfl rfl (sim_call (simA_c (sim_var 14 rfl rfl) (simA_c (sim_ix (sim_own 0 1 rfl rfl rfl) (sim_neg sim_int)) (simA_one (sim_var 0 rfl rfl))))) ?_
      clear hG W hm
      intro y2331 c2333 S H hG W hm
      revert hG hm; generalize (bx2320 ++ [y2331]) = states2332; intro hG hm
      cases hm
      refine y_next ?_
      exact hN (c2333, (some (tx2320))) _ _ (Okc.cons (Okc.at 0 rfl hG) (Okc.dr 3 hG)) (W.pick [0, 0] rfl)
    · clear hG W hm
      intro bx2320 wx2320 S H hm hG W
      refine k_set hG W hm (sim_callD (ext := (fun (a : HouseD × (List Int) × (List Int)) => (a.1, (a.2.1, (a.2.2, (1000 : Int)))))) (f := (fun (a : HouseD × (List Int) × (List Int) × Int) => m_careful_run a.1 a.2.1 a.2.2.1 a.2.2.2)) (fun a vs S h => (ap_c h fun ws h => (ap_c h fun ws h => (ap_one h (ra_one rfl))))) (simA_c (sim_var 11 rfl rfl) (simA_c (sim_var 9 rfl rfl) (simA_one (sim_var 3 rfl rfl))))) ?_
      clear hG W hm
      intro told2339 v2340 S H hG W hm
      refine k_if hG W hm (simT_or (simT_not (simT_B (sim_call (simA_c (sim_var 13 rfl rfl) (simA_one (sim_var 0 rfl rfl)))))) (simT_or (simT_test (sim_neD (sim_var 0 rfl rfl) (sim_var 3 rfl rfl))) (simT_test (sim_neD (sim_ix (sim_own 0 1 rfl rfl rfl) (sim_neg sim_int)) (sim_var 4 rfl rfl))))) ?_ ?_
      · clear hG W hm
        intro S H hG W hm
        exact k_ret hG W hm sim_bl (fun v S H hG W hr => k v S H (Okc.at 16 rfl hG) (W.pick [] rfl) hr)
      · clear hG W hm
        intro S H hG W hm
        refine y_next ?_
        refine k_if hG W hm (simT_not (simT_B (sim_peek 0 1 rfl rfl frz_L sc_bool (sim_call (simA_c (sim_callK (ext := (fun (a : HouseD × (List Int) × (List Int)) (b : Bool) => (a.1, (a.2.1, (a.2.2, b))))) (f := (fun (a : HouseD × (List Int) × (List Int) × Bool) => m_states_along a.1 a.2.1 a.2.2.1 a.2.2.2)) (fun a vs S h => ln_c h (fun a vs S h => ln_c h (fun a vs S h => ln_one h))) (fun a vs S h => ln_one h) (fun a b vs zs S h r => (ap_c h fun ws h => (ap_c h fun ws h => (ap_one h r)))) (simA_c (sim_var 13 rfl rfl) (simA_c (sim_var 11 rfl rfl) (simA_one (sim_var 1 rfl rfl)))) (simA_one sim_bl)) (simA_one (sim_var 0 rfl rfl))))))) ?_ ?_
        · clear hG W hm
          intro S H hG W hm
          exact k_ret hG W hm sim_bl (fun v S H hG W hr => k v S H (Okc.at 16 rfl hG) (W.pick [] rfl) hr)
        · clear hG W hm
          intro S H hG W hm
          refine y_next ?_
          refine k_if hG W hm (simT_not (simT_B (sim_peek 0 1 rfl rfl frz_L sc_bool (sim_call (simA_c (sim_var 13 rfl rfl) (simA_c (sim_var 0 rfl rfl) (simA_one (sim_var 4 rfl rfl)))))))) ?_ ?_
          · clear hG W hm
            intro S H hG W hm
            exact k_ret hG W hm sim_bl (fun v S H hG W hr => k v S H (Okc.at 16 rfl hG) (W.pick [] rfl) hr)
          · clear hG W hm
            intro S H hG W hm
            refine y_next ?_
            refine k_frz hG W frz_L 0 1 rfl rfl ?_
            clear hG W
            intro S hG W
            refine e_set ?_
            refine e_op ?_
            refine c_ref rfl ?_
            refine e_call ?_
            refine e_cons ?_
            refine c_ref rfl ?_
            refine e_cons ?_
            refine c_pure hG W hm (sim_len (sim_var 0 rfl rfl)) ?_
            clear hG W hm
            intro x2374 v2375 S H hG W hm
            refine e_nil ?_
            refine v_callO (g := r2294.2) (a := x2374) hG W hm 0 8 rfl rfl rfl (fun S h => (ra_one (Okc.at 0 rfl h))) ?_
            clear hG W hm
            intro r2376 v2377 c2378 S H hG W hm
            refine x_op (σ := ([] : L2.St)) ?_
            refine c_pure hG W hm (sim_ix (sim_K 3 rfl) (sim_K 0 rfl)) ?_
            clear hG W hm
            intro x2381 v2382 S H hG W hm
            refine e_set ?_
            refine e_op ?_
            refine c_ref rfl ?_
            refine e_call ?_
            refine e_cons ?_
            refine c_ref rfl ?_
            refine e_cons ?_
            refine c_pure hG W hm (sim_len (sim_var 4 rfl rfl)) ?_
            clear hG W hm
            intro x2384 v2385 S H hG W hm
            refine e_nil ?_
            refine v_callO (g := r2376.2) (a := x2384) hG W hm 0 3 rfl rfl rfl (fun S h => (ra_one (Okc.at 0 rfl h))) ?_
            clear hG W hm
            intro r2386 v2387 c2388 S H hG W hm
            refine x_op (σ := ([] : L2.St)) ?_
            refine c_pure hG W hm (sim_ix (sim_K 7 rfl) (sim_K 0 rfl)) ?_
            clear hG W hm
            intro x2391 v2392 S H hG W hm
            refine e_forL ?_
            refine e_lstK ?_
            refine e_cons ?_
            refine c_ref rfl ?_
            refine e_cons ?_
            refine c_ref rfl ?_
            refine e_cons ?_
            refine e_call ?_
            refine e_cons ?_
            refine c_ref rfl ?_
            refine e_cons ?_
            refine c_ref rfl ?_
            refine e_nil ?_
            refine v_callO (g := r2386.2) (a := r2271.1) hG W hm 0 2 rfl rfl rfl (fun S h => (ra_one (Okc.at 22 rfl h))) ?_
            clear hG W hm
            intro r2393 v2394 c2395 S H hG W hm
            refine e_nil ?_
            refine v_lst (xs := [x2381, x2391, r2393.1]) (T := (tT tInt)) hG W hm (fun S h => (Paired.cons (Okc.at 6 rfl h) (Paired.cons (Okc.at 2 rfl h) (Paired.cons (Okc.at 0 rfl h) Paired.nil)))) (by show (3 : Nat) ≤ 16777216; decide) ?_
            clear hG W hm
            intro p2397 c2398 S H hG W hm
            revert hG hm; generalize [x2381, x2391, r2393.1] = xs2396; intro hG hm
            refine k_forK (σJ := (fun (bx2399 : Unit) (wx2399 : Option V) => ([some v0, some (.ref p2269), some (v2272), some (v2284), some (v2286), some (wx2297.1), wx2320.2, some (v2313), some (.ref p2318), some (v2340), some (v2382), some (v2392), wx2399] : L2.St))) (OJ := (fun (bx2399 : Unit) (wx2399 : Option V) => ([c2398, c2395] : Ow))) (Fb := (fun (bx2399 : Unit) (wx2399 : Option V) => ([] : List Fact))) (σT := (fun b w (tx2399 : V) => ((fun (bx2399 : Unit) (wx2399 : Option V) => ([some v0, some (.ref p2269), some (v2272), some (v2284), some (v2286), some (wx2297.1), wx2320.2, some (v2313), some (.ref p2318), some (v2340), some (v2382), some (v2392), wx2399] : L2.St)) b w).set 12 (some tx2399))) ((none) : Option V) hG W hm (simI_listO (sim_Kown 0 0 rfl rfl)) (fun b w => tg_name) (fun b w => List.Sublist.refl _) rfl rfl (fun S h => h) ?_ ?_
            · clear hG W hm
              intro S1 y2400 bx2399 wx2399 tx2399 S H k2402 hm hG W Nx2399 hNx2399 hBx2399
              refine k_if hG W hm (simT_not (simT_B (sim_call (simA_c (sim_var 27 rfl rfl) (simA_c (sim_var 26 rfl rfl) (simA_one (sim_var 0 rfl rfl))))))) ?_ ?_
              · clear hG W hm
                intro S H hG W hm
                exact k_ret hG W hm sim_bl (fun v S H hG W hr => k v S H (Okc.at 30 rfl hG) (W.pick [] rfl) hr)
              · clear hG W hm
                intro S H hG W hm
                refine y_next ?_
                refine y_next ?_
                exact hNx2399 _ (some (tx2399)) _ _ hm (Okc.dr 1 hG) (W.pick [0, 0] rfl)
            · clear hG W hm
              intro bx2399 wx2399 S H hm hG W
              exact k_ret hG W hm sim_bl (fun v S H hG W hr => k v S H (Okc.at 28 rfl hG) (W.pick [] rfl) hr)
end
end HF

set_option Elab.async false
set_option linter.all false
set_option maxRecDepth 100000
set_option maxHeartbeats 1000000
/-! MathA: the mirrors' loops in plain Lean. -/
namespace HF
open PySem PySem.Spec L2
open PyProof.Rows hiding St
section
variable {α β γ ρ : Type}
/-- not by rfl: the kernel shall not compute -/
theorem bs {a : α} {f : α → Option β} : (some a).bind f = f a := Option.ext fun x => Iff.rfl
theorem foldO_inv {f : β → α → Option β} (P : List α → β → Prop) : ∀ (xs pre : List α) (b : β), P pre b → (∀ p x q b, pre ++ xs = p ++ x :: q → pre.length ≤ p.length → P p b → ∃ b', f b x = some b' ∧ P (p ++ [x]) b') →
    ∃ b', foldO f b xs = some b' ∧ P (pre ++ xs) b'
  | [], pre, b, h, _ => ⟨b, rfl, by simpa using h⟩
  | x :: xs, pre, b, h, st => by
    obtain ⟨b', h1, h2⟩ := st pre x xs b rfl (Nat.le_refl _) h
    obtain ⟨b'', h3, h4⟩ := foldO_inv P xs (pre ++ [x]) b' h2 fun p y q b e l hp => st p y q b (by simpa using e) (by simp at l; omega) hp
    exact ⟨b'', by show (f b x).bind _ = _; rw [h1]; exact h3, by simpa using h4⟩
theorem foldO_spec {f : β → α → Option β} (P : List α → β → Prop) {xs : List α} {b : β} (h0 : P [] b) (st : ∀ p x q b, xs = p ++ x :: q → P p b → ∃ b', f b x = some b' ∧ P (p ++ [x]) b') : ∃ b', foldO f b xs = some b' ∧ P xs b' := by
  have := foldO_inv P xs [] b h0 fun p x q b e _ hp => st p x q b (by simpa using e) hp
  simpa using this
theorem foldO_all {f : β → α → Option β} (I : β → Prop) {xs : List α} {b : β} (h0 : I b) (st : ∀ x b, x ∈ xs → I b → ∃ b', f b x = some b' ∧ I b') : ∃ b', foldO f b xs = some b' ∧ I b' := by
  obtain ⟨b', h1, h2⟩ := foldO_spec (f := f) (fun _ b => I b) (xs := xs) h0 fun p x q b e hp => st x b (by rw [e]; simp) hp
  exact ⟨b', h1, h2⟩
/-- the loop in plain Lean -/
theorem foldO_eq {f : β → α → Option β} {g : β → α → β} {I : β → Prop} : ∀ {xs : List α} {b : β}, I b → (∀ b x, x ∈ xs → I b → f b x = some (g b x) ∧ I (g b x)) → foldO f b xs = some (xs.foldl g b) ∧ I (xs.foldl g b)
  | [], b, h, _ => ⟨rfl, h⟩
  | x :: xs, b, h, st => by
    obtain ⟨h1, h2⟩ := st b x (List.mem_cons_self ..) h
    obtain ⟨h3, h4⟩ := foldO_eq (f := f) (g := g) (I := I) (xs := xs) h2 fun b y m hb => st b y (List.mem_cons_of_mem _ m) hb
    exact ⟨by show (f b x).bind _ = _; rw [h1]; exact h3, h4⟩
theorem foldO_map {f : β → α → Option β} (g : β → α → β) {xs : List α} {b : β} (st : ∀ b x, x ∈ xs → f b x = some (g b x)) : foldO f b xs = some (xs.foldl g b) := (foldO_eq (I := fun _ => True) True.intro fun b x m _ => ⟨st b x m, True.intro⟩).1
theorem rangeL_succ (n : Nat) : rangeL 0 (n + 1) = rangeL 0 n ++ [(n : Int)] := by
  unfold rangeL
  rw [List.range_succ, List.map_append]
  simp
theorem mem_rangeL {n : Nat} {x : Int} : x ∈ rangeL 0 n ↔ 0 ≤ x ∧ x < n := by
  unfold rangeL
  simp only [List.mem_map, List.mem_range, Int.zero_add]
  constructor
  · rintro ⟨a, h, rfl⟩
    omega
  · intro h
    exact ⟨x.toNat, by omega, by omega⟩
theorem length_rangeL {a : Int} {n : Nat} : (rangeL a n).length = n := by simp [rangeL]
theorem nodup_rangeL {n : Nat} : (rangeL 0 n).Nodup := by
  unfold rangeL
  rw [List.nodup_iff_pairwise_ne, List.pairwise_map]
  exact List.nodup_range.imp fun h e => h (by omega)
theorem x_range_eq {n : Int} (h : n < 2 ^ 62) : x_range 0 n = some (rangeL 0 n.toNat) ∨ n < -(2 ^ 62) := by
  unfold x_range
  by_cases h1 : -(2 ^ 62) ≤ n
  · left
    rw [if_pos ⟨by decide, by decide, h1, h⟩, Int.sub_zero]
  · right
    omega
theorem x_range_nat {n : Nat} (h : n ≤ 1000000) : x_range 0 (n : Int) = some (rangeL 0 n) := by
  unfold x_range
  rw [if_pos ⟨by decide, by decide, by omega, by omega⟩, Int.sub_zero, Int.toNat_natCast]
theorem x_range_int {n : Int} (h : 0 ≤ n) (h2 : n ≤ 1000000) : x_range 0 n = some (rangeL 0 n.toNat) := by
  unfold x_range
  rw [if_pos ⟨by decide, by decide, by omega, by omega⟩, Int.sub_zero]
/-- a loop over a range -/
theorem foldO_rangeN {f : β → Int → Option β} (P : Nat → β → Prop) {n : Nat} {b : β} (h0 : P 0 b) (st : ∀ k b, k < n → P k b → ∃ b', f b (k : Int) = some b' ∧ P (k + 1) b') : ∃ b', foldO f b (rangeL 0 n) = some b' ∧ P n b' := by
  obtain ⟨b', h1, h2⟩ := foldO_spec (f := f) (fun p b => P p.length b) (xs := rangeL 0 n) h0 fun p x q b e hp => by
    have hx : x = (p.length : Int) ∧ p.length < n := by
      have h := congrArg (fun l => l[p.length]?) e
      simp only [List.getElem?_append_right (Nat.le_refl _), Nat.sub_self, List.getElem?_cons_zero] at h
      obtain ⟨h1, h2⟩ := rangeL_get h
      exact ⟨by omega, h1⟩
    obtain ⟨b', h1, h2⟩ := st p.length b hx.2 hp
    exact ⟨b', by rw [hx.1]; exact h1, by simpa using h2⟩
  rw [length_rangeL] at h2
  exact ⟨b', h1, h2⟩
theorem compM_eq {t : α → Option Bool} {e : α → Option β} {t' : α → Bool} {e' : α → β} : ∀ {xs : List α}, (∀ x ∈ xs, t x = some (t' x)) → (∀ x ∈ xs, t' x = true → e x = some (e' x)) → compM t e xs = some ((xs.filter t').map e')
  | [], _, _ => rfl
  | x :: xs, h1, h2 => by
    have ih := compM_eq (t := t) (e := e) (t' := t') (e' := e') (xs := xs) (fun y m => h1 y (List.mem_cons_of_mem _ m)) fun y m => h2 y (List.mem_cons_of_mem _ m)
    show (t x).bind _ = _
    rw [h1 x (List.mem_cons_self ..), Option.bind_some, ih]
    cases hx : t' x with
    | true =>
      rw [if_pos rfl, h2 x (List.mem_cons_self ..) hx, Option.bind_some, List.filter_cons_of_pos hx]
      rfl
    | false =>
      rw [if_neg Bool.false_ne_true, List.filter_cons_of_neg (by rw [hx]; exact Bool.false_ne_true)]
theorem x_comp_eq {t : α → Option Bool} {e : α → Option β} (t' : α → Bool) (e' : α → β) {xs : List α} (hl : xs.length ≤ 16777216) (h1 : ∀ x ∈ xs, t x = some (t' x)) (h2 : ∀ x ∈ xs, t' x = true → e x = some (e' x)) : x_comp t e xs = some ((xs.filter t').map e') := by
  unfold x_comp
  rw [if_pos (show xs.length ≤ sizeLine from hl)]
  exact compM_eq h1 h2
theorem x_comp_map {e : α → Option β} (e' : α → β) {xs : List α} (hl : xs.length ≤ 16777216) (h2 : ∀ x ∈ xs, e x = some (e' x)) : x_comp (fun _ => some true) e xs = some (xs.map e') := by
  rw [x_comp_eq (fun _ => true) e' hl (fun _ _ => rfl) fun x m _ => h2 x m, List.filter_eq_self.mpr fun _ _ => rfl]
theorem x_comp_filter {t : α → Option Bool} (t' : α → Bool) {xs : List α} (hl : xs.length ≤ 16777216) (h1 : ∀ x ∈ xs, t x = some (t' x)) : x_comp t (fun x => some x) xs = some (xs.filter t') := by
  rw [x_comp_eq t' (fun x => x) hl h1 fun _ _ _ => rfl]
  simp
theorem x_ix_nat {xs : List α} {i : Nat} (h : i < xs.length) : x_ix xs (i : Int) = some xs[i] := by
  unfold x_ix atI ixN
  rw [if_pos (by omega), if_pos (by omega), Option.bind_some, Int.toNat_natCast]
  exact List.getElem?_eq_getElem h
theorem x_ix_get {xs : List α} {i : Int} {a : α} (h0 : 0 ≤ i) (h : xs[i.toNat]? = some a) : x_ix xs i = some a := by
  have hl := (List.getElem?_eq_some_iff.mp h).1
  unfold x_ix atI ixN
  rw [if_pos h0, if_pos (by omega), Option.bind_some]
  exact h
theorem x_set_nat {xs : List α} {i : Int} {y : α} (h0 : 0 ≤ i) (h : i < xs.length) : x_set xs i y = some (xs.set i.toNat y) := by
  unfold x_set ixN
  rw [if_pos h0, if_pos h, Option.bind_some]
theorem x_app_eq {xs : List α} {y : α} (h : xs.length < 16777216) : x_app xs y = some (xs ++ [y]) := by
  unfold x_app
  rw [if_pos (show xs.length < sizeLine from h)]
theorem x_cat_eq {xs ys : List α} (h : xs.length + ys.length ≤ 16777216) : x_cat xs ys = some (xs ++ ys) := by
  unfold x_cat
  rw [if_pos (show xs.length + ys.length ≤ sizeLine from h)]
theorem x_rep1 {x : α} {n : Int} (h0 : 0 ≤ n) (h : n ≤ 1000000) : x_rep [x] n = some (List.replicate n.toNat x) := by
  unfold x_rep
  rw [if_pos ⟨by omega, by omega, by show _ ≤ 16777216; simp; omega⟩]
  congr 1
  generalize n.toNat = k
  induction k with
  | zero => rfl
  | succ k ih => rw [List.replicate_succ, List.flatten_cons, ih, List.replicate_succ]; rfl
theorem forK_go {f : β → α → (β → Option γ) → (β → Option γ) → Option γ} {k : β → Option γ} {g : β → α → β} {I : β → Prop} : ∀ {xs : List α} {b : β}, I b → (∀ b x kn kb, x ∈ xs → I b → f b x kn kb = kn (g b x) ∧ I (g b x)) → forK f k xs b = k (xs.foldl g b) ∧ I (xs.foldl g b)
  | [], b, h, _ => ⟨rfl, h⟩
  | x :: xs, b, h, st => by
    obtain ⟨_, h2⟩ := st b x k k (List.mem_cons_self ..) h
    obtain ⟨h3, h4⟩ := forK_go (f := f) (k := k) (g := g) (I := I) (xs := xs) h2 fun b y kn kb m hb => st b y kn kb (List.mem_cons_of_mem _ m) hb
    exact ⟨by show f b x _ k = _; rw [(st b x _ k (List.mem_cons_self ..) h).1]; exact h3, h4⟩
/-- a loop that looks for the first one -/
theorem forK_find {f : Unit → α → (Unit → Option γ) → (Unit → Option γ) → Option γ} {k : Unit → Option γ} (c : α → Bool) (r : α → Option γ) : ∀ {xs : List α}, (∀ x kn kb, x ∈ xs → f () x kn kb = if c x = true then r x else kn ()) → forK f k xs () = match xs.find? c with | some x => r x | none => k ()
  | [], _ => rfl
  | x :: xs, h => by
    show f () x _ _ = _
    rw [h x _ _ (List.mem_cons_self ..)]
    cases hc : c x with
    | true => rw [if_pos rfl, List.find?_cons_of_pos hc]
    | false =>
      rw [if_neg Bool.false_ne_true, List.find?_cons_of_neg (by rw [hc]; exact Bool.false_ne_true)]
      exact forK_find c r fun y kn kb m => h y kn kb (List.mem_cons_of_mem _ m)
theorem whileO_inv {c : β → Option Bool} {f : β → Option β} (P : Nat → β → Prop) : ∀ (n : Nat) (b : β) (m : Nat), m < n → P m b → (∀ m b, P (m + 1) b → c b = some true ∧ ∃ b', f b = some b' ∧ P m b') → (∀ b, P 0 b → c b = some false) → ∃ b', whileO c f n b = some b' ∧ P 0 b'
  | 0, _, _, h, _, _, _ => by omega
  | n + 1, b, 0, _, hp, _, h0 => ⟨b, by show (c b).bind _ = _; rw [h0 b hp]; rfl, hp⟩
  | n + 1, b, m + 1, h, hp, st, h0 => by
    obtain ⟨h1, b', h2, h3⟩ := st m b hp
    obtain ⟨b'', h4, h5⟩ := whileO_inv P n b' m (by omega) h3 st h0
    exact ⟨b'', by show (c b).bind _ = _; rw [h1, Option.bind_some, if_pos rfl, h2, Option.bind_some]; exact h4, h5⟩
/-! ### it comes to a value with Q -/
def Ok (m : Option α) (Q : α → Prop) : Prop := ∃ r, m = some r ∧ Q r
theorem Ok.pure {a : α} {Q : α → Prop} (h : Q a) : Ok (some a) Q := ⟨a, rfl, h⟩
theorem Ok.bind {m : Option α} {k : α → Option β} {P : α → Prop} {Q : β → Prop} (h : Ok m P) (n : ∀ a, P a → Ok (k a) Q) : Ok (m.bind k) Q := by
  obtain ⟨a, rfl, h⟩ := h
  exact n a h
theorem Ok.bindE {m : Option α} {k : α → Option β} {a : α} {Q : β → Prop} (h : m = some a) (n : Ok (k a) Q) : Ok (m.bind k) Q := by
  rw [h]
  exact n
theorem Ok.mono {m : Option α} {P Q : α → Prop} (h : Ok m P) (n : ∀ a, P a → Q a) : Ok m Q := by
  obtain ⟨a, e, h⟩ := h
  exact ⟨a, e, n a h⟩
theorem Ok.eq {m : Option α} {a : α} (h : m = some a) : Ok m (fun b => b = a) := ⟨a, h, rfl⟩
theorem Ok.of {m : Option α} {a : α} (h : Ok m (fun b => b = a)) : m = some a := by
  obtain ⟨b, e, rfl⟩ := h
  exact e
theorem Ok.ite {c : Bool} {A B : Option α} {Q : α → Prop} (h1 : c = true → Ok A Q) (h2 : c = false → Ok B Q) : Ok (if c = true then A else B) Q := by
  cases c with
  | true => exact h1 rfl
  | false => exact h2 rfl
theorem Ok.fold {f : β → α → Option β} {k : β → Option γ} {b : β} {xs : List α} {Q : γ → Prop} (P : List α → β → Prop) (h0 : P [] b) (st : ∀ p x q b, xs = p ++ x :: q → P p b → Ok (f b x) (P (p ++ [x]))) (n : ∀ b, P xs b → Ok (k b) Q) : Ok ((foldO f b xs).bind k) Q :=
  Ok.bind (foldO_spec P h0 st) n
theorem Ok.foldI {f : β → α → Option β} {k : β → Option γ} {b : β} {xs : List α} {Q : γ → Prop} (I : β → Prop) (h0 : I b) (st : ∀ x b, x ∈ xs → I b → Ok (f b x) I) (n : ∀ b, I b → Ok (k b) Q) : Ok ((foldO f b xs).bind k) Q :=
  Ok.bind (foldO_all I h0 st) n
theorem Ok.foldN {f : β → Int → Option β} {k : β → Option γ} {b : β} {n : Nat} {Q : γ → Prop} (P : Nat → β → Prop) (h0 : P 0 b) (st : ∀ k b, k < n → P k b → Ok (f b (k : Int)) (P (k + 1))) (m : ∀ b, P n b → Ok (k b) Q) : Ok ((foldO f b (rangeL 0 n)).bind k) Q :=
  Ok.bind (foldO_rangeN P h0 st) m
theorem Ok.while {c : β → Option Bool} {f : β → Option β} {k : β → Option γ} {b : β} {n : Nat} {Q : γ → Prop} (P : Nat → β → Prop) (m : Nat) (hm : m < n) (h0 : P m b) (st : ∀ m b, P (m + 1) b → c b = some true ∧ Ok (f b) (P m)) (e : ∀ b, P 0 b → c b = some false) (nx : ∀ b, P 0 b → Ok (k b) Q) : Ok ((whileO c f n b).bind k) Q :=
  Ok.bind (whileO_inv P n b m hm h0 st e) nx
end
end HF

set_option Elab.async false
set_option linter.all false
set_option maxRecDepth 100000
set_option maxHeartbeats 1000000
/-! MathB: masks. -/
namespace HF
open PySem PySem.Spec L2
open PyProof.Rows hiding St
theorem and_nat (a b : Nat) : Builtin.bitAnd (a : Int) (b : Int) = ((a &&& b : Nat) : Int) := by
  unfold Builtin.bitAnd
  simp
theorem or_nat (a b : Nat) : Builtin.bitOr (a : Int) (b : Int) = ((a ||| b : Nat) : Int) := by
  unfold Builtin.bitOr Builtin.bitAnd
  have h1 : decide (0 ≤ Builtin.bitNot (a : Int)) = false := by unfold Builtin.bitNot; simp; omega
  have h2 : decide (0 ≤ Builtin.bitNot (b : Int)) = false := by unfold Builtin.bitNot; simp; omega
  have h3 : ∀ x : Int, Builtin.bitNot (Builtin.bitNot x) = x := fun x => by unfold Builtin.bitNot; omega
  rw [h1, h2]
  simp only [h3, Int.toNat_natCast]
theorem x_shr_nat (m i : Nat) : x_shr (m : Int) (i : Int) = some ((m >>> i : Nat) : Int) := by
  unfold x_shr
  rw [if_pos (by omega), Int.toNat_natCast, Nat.shiftRight_eq_div_pow]
  simp
theorem x_shl1 (i : Nat) (h : i ≤ 1000000) : x_shl 1 (i : Int) = some ((2 ^ i : Nat) : Int) := by
  unfold x_shl
  rw [if_pos ⟨by omega, by omega, by decide⟩, Int.toNat_natCast]
  simp
theorem bit1 (m i : Nat) : (((m >>> i : Nat) &&& 1 : Nat) = 1) = (m.testBit i = true) := by
  have h := Nat.and_one_is_mod (m >>> i)
  rw [Nat.testBit_eq_decide_div_mod_eq, h, Nat.shiftRight_eq_div_pow]
  simp
theorem bit0 (m i : Nat) : (((m >>> i : Nat) &&& 1 : Nat) = 0) = (m.testBit i = false) := by
  have h := Nat.and_one_is_mod (m >>> i)
  rw [Nat.testBit_eq_decide_div_mod_eq, h, Nat.shiftRight_eq_div_pow]
  simp
/-- mask >> lamp & 1 == 1 -/
theorem tst1 (m i : Nat) : ((x_shr (m : Int) (i : Int)).bind fun a => some (Builtin.bitAnd a 1)) = some (if m.testBit i = true then 1 else 0) := by
  rw [x_shr_nat, Option.bind_some]
  congr 1
  have := and_nat (m >>> i) 1
  rw [show ((1 : Nat) : Int) = 1 from rfl] at this
  rw [this]
  have h1 := bit1 m i
  have h0 := bit0 m i
  cases hb : m.testBit i with
  | true =>
    rw [hb] at h1
    simp only [eq_self, eq_iff_iff, iff_true] at h1
    rw [h1]
    rfl
  | false =>
    rw [hb] at h0
    simp only [eq_self, eq_iff_iff, iff_true] at h0
    rw [h0]
    rfl
theorem lt_intBits (m : Nat) : m < 2 ^ (Builtin.Int.intBits (m : Int)) := by
  unfold Builtin.Int.intBits
  by_cases h : m = 0
  · subst h
    decide
  · rw [if_neg (by simp [h])]
    exact Nat.lt_log2_self
theorem intBits_le {m n : Nat} (h : m < 2 ^ n) : Builtin.Int.intBits (m : Int) ≤ n := by
  unfold Builtin.Int.intBits
  by_cases h0 : m = 0
  · subst h0
    simp
  · rw [if_neg (by simp [h0])]
    have h1 := (Nat.log2_lt h0).mpr h
    show (m : Int).natAbs.log2 + 1 ≤ n
    rw [Int.natAbs_natCast]
    omega
/-- a list of masks that says a relation -/
structure ML (n : Nat) (B : List Int) (R : Int → Int → Prop) : Prop where
  len : B.length = n
  ent : ∀ u : Nat, u < n → ∃ m : Nat, B[u]? = some (m : Int) ∧ m < 2 ^ n ∧ ∀ v : Nat, m.testBit v = true ↔ R u v
  dom : ∀ u v, R u v → 0 ≤ v ∧ v < n
theorem ML.ix {n : Nat} {B : List Int} {R : Int → Int → Prop} (h : ML n B R) {u : Int} (h0 : 0 ≤ u) (h1 : u < n) : ∃ m : Nat, x_ix B u = some (m : Int) ∧ m < 2 ^ n ∧ ∀ v : Nat, m.testBit v = true ↔ R u v := by
  obtain ⟨k, rfl⟩ := Int.eq_ofNat_of_zero_le h0
  obtain ⟨m, e1, e2, e3⟩ := h.ent k (by omega)
  exact ⟨m, x_ix_get h0 (by simpa using e1), e2, e3⟩
theorem ML.set {n : Nat} {B : List Int} {R R' : Int → Int → Prop} (h : ML n B R) {u : Int} (h0 : 0 ≤ u) (h1 : u < n) {m : Nat} (hm : m < 2 ^ n) (e : ∀ v : Nat, m.testBit v = true ↔ R' u v) (o : ∀ x y, x ≠ u → (R' x y ↔ R x y)) (d : ∀ v, R' u v → 0 ≤ v ∧ v < n) :
    ∃ B', x_set B u (m : Int) = some B' ∧ ML n B' R' := by
  obtain ⟨k, rfl⟩ := Int.eq_ofNat_of_zero_le h0
  have hk : k < n := by omega
  refine ⟨B.set k (m : Int), x_set_nat h0 (by rw [h.len]; omega), by rw [List.length_set]; exact h.len, fun x hx => ?_, fun x y q => ?_⟩
  · by_cases q : x = k
    · subst q
      exact ⟨m, by rw [List.getElem?_set_self (by rw [h.len]; exact hx)], hm, e⟩
    · obtain ⟨m', e1, e2, e3⟩ := h.ent x hx
      exact ⟨m', by rw [List.getElem?_set_ne (by omega)]; exact e1, e2, fun v => (e3 v).trans (o _ _ (by omega)).symm⟩
  · by_cases q' : x = (k : Int)
    · subst q'
      exact d y q
    · exact h.dom x y ((o x y q').mp q)
theorem ML.congr {n : Nat} {B : List Int} {R R' : Int → Int → Prop} (h : ML n B R) (e : ∀ u v, 0 ≤ u → u < n → (R u v ↔ R' u v)) (d : ∀ u v, R' u v → 0 ≤ v ∧ v < n) : ML n B R' :=
  ⟨h.len, fun u hu => by
    obtain ⟨m, e1, e2, e3⟩ := h.ent u hu
    exact ⟨m, e1, e2, fun v => (e3 v).trans (e u v (by omega) (by omega))⟩, d⟩
theorem testBit_lt {m n : Nat} (h : ∀ v, m.testBit v = true → v < n) : m < 2 ^ n := Nat.lt_pow_two_of_testBit m fun i hi => by
  cases hb : m.testBit i with
  | false => rfl
  | true => have := h i hb; omega
theorem ML.zero (n : Nat) : ML n (List.replicate n 0) (fun _ _ => False) := ⟨by simp, fun u hu => ⟨0, by simp [hu], Nat.two_pow_pos _, fun v => by simp⟩, fun _ _ h => h.elim⟩
end HF

set_option Elab.async false
set_option linter.all false
set_option maxRecDepth 100000
set_option maxHeartbeats 1000000
/-! MathC: the house's wires. -/
namespace HF
open PySem PySem.Spec L2
open PyProof.Rows hiding St
theorem is_integer_eq (x : Int) : m_is_integer x = some true := rfl
abbrev Wr (P : List (Int × Int)) (u v : Int) : Prop := (u, v) ∈ P
/-- v lies beneath u -/
abbrev Dn (P : List (Int × Int)) : Int → Int → Prop := Relation.TransGen (Wr P)
theorem Dn.mono {P Q : List (Int × Int)} (h : ∀ x ∈ P, x ∈ Q) {u v : Int} (d : Dn P u v) : Dn Q u v := by
  induction d with
  | single e => exact .single (h _ e)
  | tail _ e ih => exact .tail ih (h _ e)
theorem Dn.trans {P : List (Int × Int)} {a b c : Int} (h1 : Dn P a b) (h2 : Dn P b c) : Dn P a c := by
  induction h2 with
  | single e => exact .tail h1 e
  | tail _ e ih => exact .tail ih e
theorem dn_snoc {P : List (Int × Int)} {u l x y : Int} : Dn (P ++ [(u, l)]) x y ↔ Dn P x y ∨ ((x = u ∨ Dn P x u) ∧ (y = l ∨ Dn P l y)) := by
  constructor
  · intro d
    induction d with
    | @single b e =>
      rcases List.mem_append.mp e with e | e
      · exact .inl (.single e)
      · simp at e
        exact .inr ⟨.inl e.1, .inl e.2⟩
    | @tail b c _ e ih =>
      rcases List.mem_append.mp e with e' | e'
      · rcases ih with ih | ⟨h1, h2⟩
        · exact .inl (.tail ih e')
        · refine .inr ⟨h1, .inr ?_⟩
          rcases h2 with h2 | h2
          · rw [h2] at e'
            exact .single e'
          · exact .tail h2 e'
      · have e1 : b = u ∧ c = l := by simpa using e'
        obtain ⟨rfl, rfl⟩ := e1
        rcases ih with ih | ⟨h1, h2⟩
        · exact .inr ⟨.inr ih, .inl rfl⟩
        · exact .inr ⟨h1, .inl rfl⟩
  · have up : ∀ {a b}, Dn P a b → Dn (P ++ [(u, l)]) a b := fun d => d.mono fun _ m => List.mem_append_left _ m
    have e : Dn (P ++ [(u, l)]) u l := .single (List.mem_append_right _ (List.mem_singleton.mpr rfl))
    rintro (h | ⟨h1, h2⟩)
    · exact up h
    · have a : Dn (P ++ [(u, l)]) x l := by
        rcases h1 with rfl | h1
        · exact e
        · exact (up h1).trans e
      rcases h2 with rfl | h2
      · exact a
      · exact a.trans (up h2)
/-- wires that a house takes: along an order of the lamps -/
structure GoodW (n : Nat) (rk : Int → Nat) (P : List (Int × Int)) : Prop where
  nd : P.Nodup
  dom : ∀ u v, (u, v) ∈ P → 0 ≤ u ∧ u < n ∧ 0 ≤ v ∧ v < n
  up : ∀ u v, (u, v) ∈ P → rk u < rk v
theorem GoodW.dn {n : Nat} {rk : Int → Nat} {P Q : List (Int × Int)} (h : GoodW n rk P) (hq : ∀ x ∈ Q, x ∈ P) {u v : Int} (d : Dn Q u v) : rk u < rk v ∧ 0 ≤ u ∧ u < n ∧ 0 ≤ v ∧ v < n := by
  induction d with
  | single e =>
    have := h.dom _ _ (hq _ e)
    exact ⟨h.up _ _ (hq _ e), this⟩
  | tail _ e ih =>
    have := h.dom _ _ (hq _ e)
    have := h.up _ _ (hq _ e)
    omega
theorem is_wire_eq (n u v : Int) : m__is_wire n (u, v) = some (decide (0 ≤ u ∧ u < n ∧ 0 ≤ v ∧ v < n ∧ u ≠ v)) := by
  unfold m__is_wire
  simp only [Option.bind_some, is_integer_eq, orM, andM]
  by_cases h1 : 0 ≤ u <;> by_cases h2 : u < n <;> by_cases h3 : 0 ≤ v <;> by_cases h4 : v < n <;> by_cases h5 : u = v <;> simp [h1, h2, h3, h4, h5] <;> omega
theorem enumL_mem {α : Type} {xs : List α} {p : Int × α} (h : p ∈ enumL xs) : ∃ i : Nat, p.1 = (i : Int) ∧ xs[i]? = some p.2 := by
  obtain ⟨i, hi⟩ := List.getElem?_of_mem h
  obtain ⟨a, h1, h2⟩ := enumL_get hi
  exact ⟨i, by rw [h2], by rw [h2]; exact h1⟩
theorem enumL_snd {α : Type} (xs : List α) : (enumL xs).map (·.2) = xs := by
  unfold enumL
  rw [List.map_map]
  show (xs.zipIdx.map fun p => p.1) = xs
  simp
/-- the test of one bit of a mask in a list -/
theorem ML.bit {n : Nat} {B : List Int} {R : Int → Int → Prop} (h : ML n B R) {u v : Int} (h0 : 0 ≤ u) (h1 : u < n) (h2 : 0 ≤ v) : ∃ b : Bool, (b = true ↔ R u v) ∧ (((x_ix B u).bind fun a => x_shr a v).bind fun a => some (Builtin.bitAnd a 1)) = some (if b = true then 1 else 0) := by
  obtain ⟨m, e1, _, e3⟩ := h.ix h0 h1
  obtain ⟨k, rfl⟩ := Int.eq_ofNat_of_zero_le h2
  refine ⟨m.testBit k, e3 k, ?_⟩
  rw [e1, Option.bind_some]
  exact tst1 m k
theorem ML.orBit {n : Nat} {B : List Int} {R : Int → Int → Prop} (hn : n ≤ 1000) (h : ML n B R) {u l : Int} (h0 : 0 ≤ u) (h1 : u < n) (h2 : 0 ≤ l) (h3 : l < n) :
    ∃ m : Nat, ((x_ix B u).bind fun a => (x_shl 1 l).bind fun b => some (Builtin.bitOr a b)) = some (m : Int) ∧ m < 2 ^ n ∧ ∀ v : Nat, m.testBit v = true ↔ R u v ∨ (v : Int) = l := by
  obtain ⟨m, e1, e2, e3⟩ := h.ix h0 h1
  obtain ⟨k, rfl⟩ := Int.eq_ofNat_of_zero_le h2
  have hb : ∀ v : Nat, (m ||| 2 ^ k).testBit v = true ↔ R u v ∨ (v : Int) = (k : Int) := fun v => by
    rw [Nat.testBit_or, Nat.testBit_two_pow, Bool.or_eq_true, e3 v, decide_eq_true_eq]
    constructor
    · rintro (h | h)
      · exact .inl h
      · exact .inr (by omega)
    · rintro (h | h)
      · exact .inl h
      · exact .inr (by omega)
  refine ⟨m ||| 2 ^ k, ?_, testBit_lt fun v hv => ?_, hb⟩
  · rw [e1, x_shl1 k (by omega), bs, bs, or_nat]
  · rcases (hb v).mp hv with q | q
    · have := h.dom _ _ q
      omega
    · omega
theorem test1 {m : Option Int} {b : Bool} (h : m = some (if b = true then 1 else 0)) : (m.bind fun z => some (decide (z = 1))) = some b := by
  rw [h]
  cases b <;> rfl
theorem test0 {m : Option Int} {b : Bool} (h : m = some (if b = true then 1 else 0)) : (m.bind fun z => some (decide (z = 0))) = some (!b) := by
  rw [h]
  cases b <;> rfl
theorem join_wires_eq {n : Nat} {rk : Int → Nat} {P : List (Int × Int)} (hn : n ≤ 1000) (h : GoodW n rk P) : Ok (m__join_wires n P) fun B => ML n B (Dn P) := by
  unfold m__join_wires
  simp only [bs]
  refine Ok.bindE (x_rep1 (by omega) (by omega)) ?_
  refine Ok.bindE (x_rep1 (by omega) (by omega)) ?_
  rw [Int.toNat_natCast]
  refine Ok.fold (fun (p : List (Int × (Int × Int))) (b : List Int × List Int) => ML n b.1 (Wr (p.map (·.2))) ∧ ML n b.2 (Dn (p.map (·.2)))) ?_ ?_ ?_
  · refine ⟨(ML.zero n).congr (fun u v _ _ => by simp) (fun u v h => by simp at h), (ML.zero n).congr (fun u v _ _ => ?_) (fun u v h => ?_)⟩
    · constructor
      · exact False.elim
      · intro d
        induction d with
        | single e => simp at e
        | tail _ e => simp at e
    · induction h with
      | single e => simp at e
      | tail _ e => simp at e
  · rintro p ⟨i, u, l⟩ q ⟨wd, bl⟩ e ⟨h1, h2⟩
    have eP : P = p.map (·.2) ++ (u, l) :: q.map (·.2) := by
      have := congrArg (List.map (·.2)) e
      rw [enumL_snd] at this
      simpa using this
    have hm : (u, l) ∈ P := by rw [eP]; simp
    obtain ⟨d1, d2, d3, d4⟩ := h.dom u l hm
    have hr := h.up u l hm
    have ne : u ≠ l := fun e => by subst e; omega
    have sub : ∀ x ∈ p.map (·.2), x ∈ P := fun x m => by rw [eP]; exact List.mem_append_left _ m
    dsimp only at h1 h2 ⊢
    rw [is_wire_eq, decide_eq_true (p := _) ⟨d1, d2, d3, d4, ne⟩]
    simp only [Option.bind_some, Bool.not_true, Bool.false_eq_true, if_false]
    obtain ⟨b, hb, eb⟩ := h1.bit d1 d2 d3
    have hbf : b = false := by
      cases b with
      | false => rfl
      | true =>
        have : (u, l) ∈ p.map (·.2) := hb.mp rfl
        have nd := h.nd
        rw [eP] at nd
        exact absurd rfl ((List.nodup_append.mp nd).2.2 _ this _ (List.mem_cons_self ..))
    subst hbf
    refine Ok.bindE (test1 eb) ?_
    simp only [Bool.false_eq_true, if_false]
    obtain ⟨b, hb, eb⟩ := h2.bit d3 d4 d1
    have hbf : b = false := by
      cases b with
      | false => rfl
      | true =>
        have := (h.dn sub (hb.mp rfl)).1
        omega
    subst hbf
    refine Ok.bindE (test1 eb) ?_
    simp only [Bool.false_eq_true, if_false]
    obtain ⟨m, em, lm, bm⟩ := h1.orBit hn d1 d2 d3 d4
    refine Ok.bindE em ?_
    obtain ⟨wd', ew, hw⟩ := h1.set (R' := Wr ((p ++ [(i, (u, l))]).map (·.2))) d1 d2 lm (fun v => by
      rw [bm v]
      simp [Wr]) (fun x y hx => by simp [Wr]; exact fun e _ => absurd e hx) (fun v hv => by
      have := h.dom u v (by
        rw [eP]
        simp [Wr] at hv ⊢
        rcases hv with hv | hv
        · exact .inl hv
        · exact .inr (.inl hv))
      omega)
    refine Ok.bindE ew ?_
    obtain ⟨g, eg, lg, bg⟩ := h2.orBit hn d3 d4 d3 d4
    refine Ok.bindE eg ?_
    refine Ok.bindE (x_range_nat (by omega)) ?_
    have hsn : ∀ x y, Dn ((p ++ [(i, (u, l))]).map (·.2)) x y ↔ Dn (p.map (·.2)) x y ∨ ((x = u ∨ Dn (p.map (·.2)) x u) ∧ (y = l ∨ Dn (p.map (·.2)) l y)) := fun x y => by
      rw [List.map_append]
      exact dn_snoc
    refine Ok.foldN (fun k b => ML n b (fun x y => Dn (p.map (·.2)) x y ∨ (x < k ∧ (x = u ∨ Dn (p.map (·.2)) x u) ∧ (y = l ∨ Dn (p.map (·.2)) l y)))) ?_ ?_ ?_
    · refine h2.congr (fun x y hx _ => ⟨.inl, fun q => ?_⟩) (fun x y q => ?_)
      · rcases q with q | q
        · exact q
        · omega
      · rcases q with q | ⟨_, _, q⟩
        · exact h2.dom _ _ q
        · rcases q with rfl | q
          · exact ⟨d3, d4⟩
          · exact h2.dom _ _ q
    · intro k b hk hb
      have k0 : (0 : Int) ≤ k := by omega
      have k1 : (k : Int) < n := by omega
      obtain ⟨t, ht, et⟩ := hb.bit k0 k1 d1
      rw [test1 et]
      have ho : orM (decide ((k : Int) = u)) (some t) = some (decide ((k : Int) = u) || t) := orM_some _ _
      rw [ho, bs]
      have hc : (decide ((k : Int) = u) || t) = true ↔ ((k : Int) = u ∨ Dn (p.map (·.2)) k u) := by
        rw [Bool.or_eq_true, decide_eq_true_eq, ht]
        constructor
        · rintro (q | q | q)
          · exact .inl q
          · exact .inr q
          · omega
        · rintro (q | q)
          · exact .inl q
          · exact .inr (.inl q)
      refine Ok.ite (fun ct => ?_) (fun cf => ?_)
      · have ct' := hc.mp ct
        obtain ⟨mk, e1, e2, e3⟩ := hb.ix k0 k1
        rw [e1, bs, or_nat, bs]
        have hbit : ∀ v : Nat, (mk ||| g).testBit v = true ↔ (Dn (p.map (·.2)) k v ∨ ((v : Int) = l ∨ Dn (p.map (·.2)) l v)) := fun v => by
          rw [Nat.testBit_or, Bool.or_eq_true, e3 v, bg v]
          constructor
          · rintro ((q | q) | (q | q))
            · exact .inl q
            · omega
            · exact .inr (.inr q)
            · exact .inr (.inl q)
          · rintro (q | q | q)
            · exact .inl (.inl q)
            · exact .inr (.inr q)
            · exact .inr (.inl q)
        have dm : ∀ y, (Dn (p.map (·.2)) k y ∨ (y = l ∨ Dn (p.map (·.2)) l y)) → 0 ≤ y ∧ y < n := fun y q => by
          rcases q with q | rfl | q
          · exact h2.dom _ _ q
          · exact ⟨d3, d4⟩
          · exact h2.dom _ _ q
        obtain ⟨b', eb', hb'⟩ := hb.set (R' := fun x y => Dn (p.map (·.2)) x y ∨ (x < ((k + 1 : Nat) : Int) ∧ (x = u ∨ Dn (p.map (·.2)) x u) ∧ (y = l ∨ Dn (p.map (·.2)) l y))) k0 k1 (m := mk ||| g) (testBit_lt fun v hv => by
            have := dm v ((hbit v).mp hv)
            omega) (fun v => by
            rw [hbit v]
            constructor
            · rintro (q | q)
              · exact .inl q
              · exact .inr ⟨by omega, ct', q⟩
            · rintro (q | ⟨_, _, q⟩)
              · exact .inl q
              · exact .inr q) (fun x y hx => by
            constructor
            · rintro (q | ⟨q1, q2⟩)
              · exact .inl q
              · exact .inr ⟨by omega, q2⟩
            · rintro (q | ⟨q1, q2⟩)
              · exact .inl q
              · exact .inr ⟨by omega, q2⟩) (fun y q => by
            rcases q with q | ⟨_, _, q⟩
            · exact dm y (.inl q)
            · exact dm y (.inr q))
        rw [eb', bs]
        exact Ok.pure hb'
      · have cf' : ¬ ((k : Int) = u ∨ Dn (p.map (·.2)) k u) := fun q => by
          rw [hc.mpr q] at cf
          cases cf
        refine Ok.pure (hb.congr (fun x y _ _ => ?_) (fun x y q => ?_))
        · constructor
          · rintro (q | ⟨q1, q2⟩)
            · exact .inl q
            · exact .inr ⟨by omega, q2⟩
          · rintro (q | ⟨q1, q2⟩)
            · exact .inl q
            · by_cases hx : x = k
              · subst hx
                exact absurd q2.1 cf'
              · exact .inr ⟨by omega, q2⟩
        · rcases q with q | ⟨_, _, q⟩
          · exact h2.dom _ _ q
          · rcases q with rfl | q
            · exact ⟨d3, d4⟩
            · exact h2.dom _ _ q
    · intro b hb
      refine Ok.pure ⟨hw, hb.congr (fun x y _ hx => ?_) (fun x y q => ?_)⟩
      · rw [hsn]
        constructor
        · rintro (q | ⟨_, q⟩)
          · exact .inl q
          · exact .inr q
        · rintro (q | q)
          · exact .inl q
          · exact .inr ⟨by omega, q⟩
      · have := h.dn (Q := (p ++ [(i, (u, l))]).map (·.2)) (fun x m => by
          rw [eP]
          simp at m ⊢
          rcases m with m | m
          · exact .inl m
          · exact .inr (.inl m)) q
        omega
  · rintro ⟨wd, bl⟩ ⟨_, h2⟩
    rw [enumL_snd] at h2
    exact Ok.pure h2
end HF

set_option Elab.async false
set_option linter.all false
set_option maxRecDepth 100000
set_option maxHeartbeats 1000000
/-! MathD: bits, turning round, the order list. -/
namespace HF
open PySem PySem.Spec L2
open PyProof.Rows hiding St
theorem enumL_at {α : Type} {xs : List α} {p q : List (Int × α)} {x : Int × α} (e : enumL xs = p ++ x :: q) : x.1 = (p.length : Int) ∧ xs[p.length]? = some x.2 := by
  have h : (enumL xs)[p.length]? = some x := by rw [e]; simp
  obtain ⟨a, h1, h2⟩ := enumL_get h
  rw [h2]
  exact ⟨rfl, h1⟩
theorem enumL_len {α : Type} (xs : List α) : (enumL xs).length = xs.length := by simp [enumL]
/-- the lamps of a mask -/
theorem bits_eq {n m : Nat} (hn : n ≤ 1000) (hm : m < 2 ^ n) : m_bits (m : Int) = some ((rangeL 0 n).filter fun v => m.testBit v.toNat) := by
  unfold m_bits
  simp only [bs]
  have hk := intBits_le hm
  rw [x_range_nat (by omega), bs]
  rw [x_comp_filter (fun v => m.testBit v.toNat) (by rw [length_rangeL]; omega) (fun x hx => ?_)]
  · congr 1
    obtain ⟨d, hd⟩ := Nat.exists_eq_add_of_le hk
    rw [hd]
    unfold rangeL
    rw [List.range_add, List.map_append, List.filter_append]
    have : (List.filter (fun v : Int => m.testBit v.toNat) (List.map (fun i : Nat => 0 + (i : Int)) (List.map (fun x => Builtin.Int.intBits (m : Int) + x) (List.range d)))) = [] := by
      rw [List.filter_eq_nil_iff]
      intro v hv
      simp only [List.mem_map, List.mem_range] at hv
      obtain ⟨a, ⟨b, _, rfl⟩, rfl⟩ := hv
      have h1 := lt_intBits m
      have h2 : m < 2 ^ (Builtin.Int.intBits (m : Int) + b) := Nat.lt_of_lt_of_le h1 (Nat.pow_le_pow_right (by decide) (by omega))
      have e : (0 + ((Builtin.Int.intBits (m : Int) + b : Nat) : Int)).toNat = Builtin.Int.intBits (m : Int) + b := by omega
      rw [e, Nat.testBit_lt_two_pow h2]
      decide
    rw [this, List.append_nil]
  · obtain ⟨h0, h1⟩ := mem_rangeL.mp hx
    obtain ⟨k, rfl⟩ := Int.eq_ofNat_of_zero_le h0
    rw [test1 (tst1 m k)]
    rfl
noncomputable def dnB (P : List (Int × Int)) (u v : Int) : Bool := @decide (Dn P u v) (Classical.propDecidable _)
theorem dnB_iff {P : List (Int × Int)} {u v : Int} : dnB P u v = true ↔ Dn P u v := by unfold dnB; exact @decide_eq_true_iff _ (Classical.propDecidable _)
theorem nodup_len {α : Type} [DecidableEq α] : ∀ {l m : List α}, l.Nodup → l ⊆ m → l.length ≤ m.length
  | [], _, _, _ => Nat.zero_le _
  | a :: l, m, h, s => by
    obtain ⟨h1, h2⟩ := List.nodup_cons.mp h
    have ha : a ∈ m := s (List.mem_cons_self ..)
    have ih := nodup_len (l := l) (m := m.erase a) h2 fun x hx => (List.mem_erase_of_ne (fun e => h1 (by rw [← e]; exact hx))).mpr (s (List.mem_cons_of_mem _ hx))
    rw [List.length_erase_of_mem ha] at ih
    have := List.length_pos_of_mem ha
    simp only [List.length_cons]
    omega
noncomputable def belowL (n : Nat) (P : List (Int × Int)) (u : Int) : List Int := (rangeL 0 n).filter fun v => dnB P u v
noncomputable def aboveL (n : Nat) (P : List (Int × Int)) (v : Int) : List Int := (rangeL 0 n).filter fun u => dnB P u v
theorem mask_list {n m : Nat} {R : Int → Prop} {p : Int → Bool} (h : ∀ v : Nat, m.testBit v = true ↔ R v) (hp : ∀ v, p v = true ↔ R v) : (rangeL 0 n).filter (fun v => m.testBit v.toNat) = (rangeL 0 n).filter p := by
  refine List.filter_congr fun v hv => ?_
  obtain ⟨h0, _⟩ := mem_rangeL.mp hv
  obtain ⟨k, rfl⟩ := Int.eq_ofNat_of_zero_le h0
  have h1 := h k
  have h2 := hp k
  rw [Int.toNat_natCast]
  cases e1 : m.testBit k <;> cases e2 : p (k : Int) <;> simp_all
/-- turned round -/
theorem turn_round_eq {n : Nat} (hn : n ≤ 1000) {B : List Int} {R : Int → Int → Prop} (h : ML n B R) (hd : ∀ u v, R u v → 0 ≤ u ∧ u < n) : Ok (m__turn_round B) fun U => ML n U (fun x y => R y x) := by
  unfold m__turn_round
  simp only [bs]
  rw [h.len]
  refine Ok.bindE (x_rep1 (by omega) (by omega)) ?_
  rw [Int.toNat_natCast]
  refine Ok.fold (fun (p : List (Int × Int)) (b : List Int) => ML n b (fun x y => R y x ∧ y < (p.length : Int))) ?_ ?_ ?_
  · exact (ML.zero n).congr (fun u v _ _ => ⟨False.elim, fun q => by have := hd _ _ q.1; simp at q; omega⟩) (fun u v q => by have := hd _ _ q.1; simp at q; omega)
  · rintro p ⟨i, mk⟩ q b e hb
    obtain ⟨e1, e2⟩ := enumL_at e
    dsimp only at e1 e2 ⊢
    subst e1
    have hp : p.length < n := by rw [← h.len]; exact (List.getElem?_eq_some_iff.mp e2).1
    obtain ⟨m, e3, lm, bm⟩ := h.ent p.length hp
    rw [e2] at e3
    cases e3
    rw [bits_eq hn lm, bs, List.length_append, List.length_singleton]
    have hmem : ∀ x, x ∈ (rangeL 0 n).filter (fun v => m.testBit v.toNat) ↔ R (p.length : Int) x := fun x => by
      rw [List.mem_filter, mem_rangeL]
      constructor
      · rintro ⟨⟨q1, q2⟩, q3⟩
        obtain ⟨k, rfl⟩ := Int.eq_ofNat_of_zero_le q1
        exact (bm k).mp (by simpa using q3)
      · intro q
        have d := h.dom _ _ q
        obtain ⟨k, rfl⟩ := Int.eq_ofNat_of_zero_le d.1
        exact ⟨d, by simpa using (bm k).mpr q⟩
    refine Ok.fold (fun (p' : List Int) (b : List Int) => ML n b (fun x y => (R y x ∧ y < (p.length : Int)) ∨ (y = (p.length : Int) ∧ x ∈ p'))) ?_ ?_ ?_
    · exact hb.congr (fun u v _ _ => by simp) (fun u v q => by simp at q; exact hb.dom u v q)
    · intro p' x q' b e' hb'
      have hx : R (p.length : Int) x := (hmem x).mp (by rw [e']; simp)
      have dx := h.dom _ _ hx
      obtain ⟨m', em, lm', bm'⟩ := hb'.orBit hn dx.1 dx.2 (l := (p.length : Int)) (by omega) (by omega)
      refine Ok.bindE em ?_
      obtain ⟨b', eb, hb''⟩ := hb'.set (R' := fun x' y => (R y x' ∧ y < (p.length : Int)) ∨ (y = (p.length : Int) ∧ x' ∈ p' ++ [x])) dx.1 dx.2 lm' (fun v => by
        rw [bm' v]
        simp only [List.mem_append, List.mem_singleton, or_true, and_true]
        constructor
        · rintro ((q | q) | q)
          · exact .inl q
          · exact .inr q.1
          · exact .inr q
        · rintro (q | q)
          · exact .inl (.inl q)
          · exact .inr q) (fun x' y hx' => by simp [hx']) (fun v q => by
        rcases q with q | q
        · have := hd _ _ q.1
          omega
        · omega)
      rw [eb, bs]
      exact Ok.pure hb''
    · intro b hb'
      refine Ok.pure (hb'.congr (fun x y _ _ => ?_) (fun x y q => ?_))
      · rw [hmem]
        constructor
        · rintro (q | ⟨rfl, q⟩)
          · exact ⟨q.1, by omega⟩
          · exact ⟨q, by omega⟩
        · rintro ⟨q1, q2⟩
          by_cases hy : y = (p.length : Int)
          · exact .inr ⟨hy, hy ▸ q1⟩
          · exact .inl ⟨q1, by omega⟩
      · exact hd _ _ q.1
  · intro b hb
    rw [enumL_len, h.len] at hb
    exact Ok.pure (hb.congr (fun x y _ _ => ⟨fun q => q.1, fun q => ⟨q, (hd _ _ q).2⟩⟩) (fun x y q => hd _ _ q))
/-- the greedy order -/
def gr (n : Nat) (up : Int → List Int) : Nat → List Int
  | 0 => []
  | k + 1 => gr n up k ++ (((rangeL 0 n).filter fun x => !decide (x ∈ gr n up k) && (up x).all fun y => decide (y ∈ gr n up k)).take 1)
/-- there is always a next one -/
theorem gr_next {n : Nat} {up : Int → List Int} {rk : Int → Nat} (hup : ∀ x y, y ∈ up x → (0 ≤ y ∧ y < n) ∧ rk y < rk x) {ls : List Int} (hl : ls.length < n) : ∃ x r, ((rangeL 0 n).filter fun x => !decide (x ∈ ls) && (up x).all fun y => decide (y ∈ ls)) = x :: r := by
  have hex : ∃ x, (0 ≤ x ∧ x < (n : Int)) ∧ x ∉ ls := by
    refine Classical.byContradiction fun hno => ?_
    have hsub : rangeL 0 n ⊆ ls := fun x hx => Classical.byContradiction fun q => hno ⟨x, mem_rangeL.mp hx, q⟩
    have := nodup_len nodup_rangeL hsub
    rw [length_rangeL] at this
    omega
  have hmin : ∀ (k : Nat) (x : Int), rk x < k → (0 ≤ x ∧ x < (n : Int)) → x ∉ ls → ∃ x, (0 ≤ x ∧ x < (n : Int)) ∧ x ∉ ls ∧ ∀ y ∈ up x, y ∈ ls := fun k => by
    induction k with
    | zero => intro x h; omega
    | succ k ih =>
      intro x hk hx hn
      by_cases hall : ∀ y ∈ up x, y ∈ ls
      · exact ⟨x, hx, hn, hall⟩
      · simp only [Classical.not_forall] at hall
        obtain ⟨y, hy, hny⟩ := hall
        obtain ⟨d, r⟩ := hup x y hy
        exact ih y (by omega) d hny
  obtain ⟨x, hx, hn⟩ := hex
  obtain ⟨x, hx, hn, ha⟩ := hmin (rk x + 1) x (by omega) hx hn
  have hm : x ∈ (rangeL 0 n).filter fun x => !decide (x ∈ ls) && (up x).all fun y => decide (y ∈ ls) := by
    rw [List.mem_filter, mem_rangeL]
    refine ⟨hx, ?_⟩
    rw [Bool.and_eq_true, List.all_eq_true]
    exact ⟨by simp [hn], fun y hy => decide_eq_true (ha y hy)⟩
  cases h : (rangeL 0 n).filter fun x => !decide (x ∈ ls) && (up x).all fun y => decide (y ∈ ls) with
  | nil => rw [h] at hm; cases hm
  | cons a r => exact ⟨a, r, rfl⟩
theorem gr_len {n : Nat} {up : Int → List Int} {rk : Int → Nat} (hup : ∀ x y, y ∈ up x → (0 ≤ y ∧ y < n) ∧ rk y < rk x) : ∀ k, k ≤ n → (gr n up k).length = k
  | 0, _ => rfl
  | k + 1, h => by
    have ih := gr_len hup k (by omega)
    obtain ⟨x, r, e⟩ := gr_next hup (ls := gr n up k) (by omega)
    show (gr n up k ++ _).length = _
    rw [e, List.length_append, ih]
    rfl
theorem gr_mem {n : Nat} {up : Int → List Int} : ∀ k x, x ∈ gr n up k → 0 ≤ x ∧ x < (n : Int)
  | 0, x, h => by cases h
  | k + 1, x, h => by
    rcases List.mem_append.mp h with h | h
    · exact gr_mem k x h
    · exact mem_rangeL.mp (List.mem_filter.mp (List.mem_of_mem_take h)).1
theorem gr_nodup {n : Nat} {up : Int → List Int} : ∀ k, (gr n up k).Nodup
  | 0 => List.nodup_nil
  | k + 1 => by
    refine List.nodup_append.mpr ⟨gr_nodup k, (nodup_rangeL.filter _).sublist (List.take_sublist _ _), fun a ha b hb e => ?_⟩
    have := (List.mem_filter.mp (List.mem_of_mem_take hb)).2
    rw [Bool.and_eq_true] at this
    subst e
    simp [ha] at this
end HF

set_option Elab.async false
set_option linter.all false
set_option maxRecDepth 100000
set_option maxHeartbeats 1000000
/-! MathE: the order list; the house. -/
namespace HF
open PySem PySem.Spec L2
open PyProof.Rows hiding St
theorem enumL_fst {α : Type} (xs : List α) : (enumL xs).map (·.1) = rangeL 0 xs.length := by
  have h : xs.zipIdx.map (fun p => p.2) = List.range xs.length := by
    rw [List.range_eq_range']
    exact List.zipIdx_map_snd 0 xs
  unfold enumL rangeL
  rw [List.map_map, ← h, List.map_map]
  refine List.map_congr_left fun p _ => ?_
  simp
theorem x_ix0 {α : Type} {x : α} {r : List α} : x_ix (x :: r) 0 = some x := x_ix_get (by decide) rfl
theorem enum_filter {α : Type} {xs : List α} {t : Int × α → Bool} {s : Int → Bool} (h : ∀ (i : Nat) a, xs[i]? = some a → t ((i : Int), a) = s i) : ((enumL xs).filter t).map (·.1) = (rangeL 0 xs.length).filter s := by
  rw [← enumL_fst, List.filter_map]
  congr 1
  refine List.filter_congr fun p hp => ?_
  obtain ⟨i, h1, h2⟩ := enumL_mem hp
  obtain ⟨a, b⟩ := p
  dsimp only at h1 h2 ⊢
  subst h1
  exact h i b h2
theorem and_sub {m L : Nat} : m &&& L = m ↔ ∀ v, m.testBit v = true → L.testBit v = true := by
  constructor
  · intro h v hv
    rw [← h, Nat.testBit_and] at hv
    simp at hv
    exact hv.2
  · intro h
    refine Nat.eq_of_testBit_eq fun v => ?_
    rw [Nat.testBit_and]
    have := h v
    cases hm : m.testBit v <;> simp_all
theorem order_list_eq {n : Nat} (hn : n ≤ 1000) {A : List Int} {up : Int → List Int} {rk : Int → Nat} (h : ML n A (fun x y => y ∈ up x)) (hup : ∀ x y, y ∈ up x → (0 ≤ y ∧ y < n) ∧ rk y < rk x) : m__order_list A = some (gr n up n) := by
  refine Ok.of ?_
  unfold m__order_list
  simp only [bs]
  refine Ok.while (fun m b => m ≤ n ∧ b.1 = gr n up (n - m) ∧ ∃ L : Nat, b.2 = (L : Int) ∧ ∀ v : Nat, L.testBit v = true ↔ (v : Int) ∈ b.1) n (by rw [h.len]; omega) ⟨Nat.le_refl _, by simp [gr], 0, rfl, fun v => by simp⟩ ?_ ?_ ?_
  · rintro m ⟨ls, li⟩ ⟨hm, e1, L, e2, hL⟩
    dsimp only at e1 e2 hL ⊢
    subst e2
    have hlen : ls.length = n - (m + 1) := by rw [e1]; exact gr_len hup _ (by omega)
    refine ⟨by rw [decide_eq_true (by rw [hlen, h.len]; omega)], ?_⟩
    have hr : x_comp (fun y : Int × Int => some (decide (Builtin.bitAnd y.2 (L : Int) = y.2))) (fun y => some y.1) (enumL A) = some ((rangeL 0 n).filter fun x => (up x).all fun y => decide (y ∈ ls)) := by
      rw [x_comp_eq (fun y : Int × Int => decide (Builtin.bitAnd y.2 (L : Int) = y.2)) (fun y => y.1) (by rw [enumL_len, h.len]; omega) (fun _ _ => rfl) fun _ _ _ => rfl]
      congr 1
      have := enum_filter (xs := A) (t := fun y : Int × Int => decide (Builtin.bitAnd y.2 (L : Int) = y.2)) (s := fun x => (up x).all fun y => decide (y ∈ ls)) fun i a hi => ?_
      · rw [h.len] at this
        exact this
      · have hin : i < n := by rw [← h.len]; exact (List.getElem?_eq_some_iff.mp hi).1
        obtain ⟨m, em, _, bm⟩ := h.ent i hin
        rw [hi] at em
        cases em
        dsimp only
        rw [Bool.eq_iff_iff, decide_eq_true_eq, and_nat, List.all_eq_true]
        rw [show (((m &&& L : Nat) : Int) = (m : Int)) ↔ m &&& L = m from by omega, and_sub]
        constructor
        · intro q y hy
          have d := (hup _ _ hy).1
          obtain ⟨k, rfl⟩ := Int.eq_ofNat_of_zero_le d.1
          exact decide_eq_true ((hL k).mp (q k ((bm k).mpr hy)))
        · intro q v hv
          exact (hL v).mpr (of_decide_eq_true (q v ((bm v).mp hv)))
    rw [hr, bs]
    rw [x_comp_filter (fun x => !decide (x ∈ ls)) (Nat.le_trans (List.length_filter_le _ _) (by rw [length_rangeL]; omega)) fun x hx => ?_, bs, List.filter_filter]
    · obtain ⟨x, r, e⟩ := gr_next hup (ls := ls) (by omega)
      rw [e]
      rw [x_ix0]
      have hxm : 0 ≤ x ∧ x < (n : Int) := by
        have : x ∈ (rangeL 0 n).filter fun x => !decide (x ∈ ls) && (up x).all fun y => decide (y ∈ ls) := by rw [e]; exact List.mem_cons_self ..
        exact mem_rangeL.mp (List.mem_filter.mp this).1
      obtain ⟨k, rfl⟩ := Int.eq_ofNat_of_zero_le hxm.1
      simp only [bs]
      rw [x_app_eq (by omega), bs, x_shl1 k (by omega), bs, or_nat]
      refine Ok.pure ⟨by omega, ?_, L ||| 2 ^ k, rfl, fun v => ?_⟩
      · have e3 : n - m = (n - (m + 1)) + 1 := by omega
        dsimp only
        rw [e3]
        show _ = gr n up (n - (m + 1)) ++ _
        rw [← e1, e]
        rfl
      · dsimp only
        rw [Nat.testBit_or, Nat.testBit_two_pow, Bool.or_eq_true, hL, decide_eq_true_eq, List.mem_append, List.mem_singleton, show (k = v) ↔ ((v : Int) = (k : Int)) from by omega]
    · obtain ⟨hx1, _⟩ := List.mem_filter.mp hx
      obtain ⟨h0, _⟩ := mem_rangeL.mp hx1
      obtain ⟨k, rfl⟩ := Int.eq_ofNat_of_zero_le h0
      rw [test0 (tst1 L k)]
      congr 1
      rw [Bool.eq_iff_iff]
      have := hL k
      cases hb : L.testBit k <;> simp_all
  · rintro ⟨ls, li⟩ ⟨_, e1, _⟩
    dsimp only at e1 ⊢
    rw [e1, gr_len hup _ (by omega), h.len]
    simp
  · rintro ⟨ls, li⟩ ⟨_, e1, _⟩
    exact Ok.pure (by simpa using e1)
/-- a house of n lamps, q hues, wires P -/
structure HouseOk (n q : Nat) (P : List (Int × Int)) (h : HouseD) : Prop where
  belowM : ML n h.belowM (Dn P)
  aboveM : ML n h.aboveM (fun x y => Dn P y x)
  below : h.below = (rangeL 0 n).map (belowL n P)
  above : h.above = (rangeL 0 n).map (aboveL n P)
  order : h.order = gr n (aboveL n P) n
  count : h.count = n
  hues : h.hues = q
  wires : h.wires = sortP P
theorem mem_aboveL {n : Nat} {rk : Int → Nat} {P : List (Int × Int)} (h : GoodW n rk P) {x y : Int} : y ∈ aboveL n P x ↔ Dn P y x := by
  unfold aboveL
  rw [List.mem_filter, mem_rangeL, dnB_iff]
  exact ⟨fun q => q.2, fun q => ⟨by have := h.dn (fun _ m => m) q; omega, q⟩⟩
theorem mem_belowL {n : Nat} {rk : Int → Nat} {P : List (Int × Int)} (h : GoodW n rk P) {x y : Int} : y ∈ belowL n P x ↔ Dn P x y := by
  unfold belowL
  rw [List.mem_filter, mem_rangeL, dnB_iff]
  exact ⟨fun q => q.2, fun q => ⟨by have := h.dn (fun _ m => m) q; omega, q⟩⟩
/-- the lists of the masks -/
theorem masks_lists {n : Nat} (hn : n ≤ 1000) {B : List Int} {R : Int → Int → Prop} (h : ML n B R) {f : Int → List Int} (hf : ∀ u : Nat, u < n → ∃ p : Int → Bool, f u = (rangeL 0 n).filter p ∧ ∀ v, p v = true ↔ R u v) : x_comp (fun _ => some true) (fun y => m_bits y) B = some ((rangeL 0 n).map f) := by
  have e : ∀ (i : Nat) (y : Int), B[i]? = some y → m_bits y = some (f i) := fun i y hi => by
    have hin : i < n := by rw [← h.len]; exact (List.getElem?_eq_some_iff.mp hi).1
    obtain ⟨m, em, lm, bm⟩ := h.ent i hin
    rw [hi] at em
    cases em
    obtain ⟨p, e1, e2⟩ := hf i hin
    rw [bits_eq hn lm, e1, mask_list bm e2]
  have hg : ∀ y ∈ B, m_bits y = some ((m_bits y).getD []) := fun y hy => by
    obtain ⟨i, hi⟩ := List.getElem?_of_mem hy
    rw [e i y hi]
    rfl
  have hl : B.length ≤ 16777216 := by
    rw [h.len]
    omega
  have h2 : (B.map fun y => (m_bits y).getD []) = (rangeL 0 n).map f := by
    refine List.ext_getElem? fun i => ?_
    rw [List.getElem?_map, List.getElem?_map]
    by_cases hi : i < n
    · have hB : i < B.length := by rw [h.len]; exact hi
      rw [List.getElem?_eq_getElem hB, List.getElem?_eq_getElem (by rw [length_rangeL]; exact hi)]
      rw [Option.map_some, Option.map_some, e i _ (List.getElem?_eq_getElem hB)]
      simp [rangeL]
    · rw [List.getElem?_eq_none (by rw [h.len]; omega), List.getElem?_eq_none (by rw [length_rangeL]; omega), Option.map_none, Option.map_none]
  rw [← h2]
  exact x_comp_map (fun y => (m_bits y).getD []) hl hg
theorem app2_ok {xss : List (List Int)} {u v : Int} {n : Nat} (hl : xss.length = n) (h0 : 0 ≤ u) (h1 : u < n) {c : Nat} (hc : ∀ xs ∈ xss, xs.length ≤ c) (hc2 : c < 1000000) : Ok (x_app2 xss u v) fun r => r.length = n ∧ ∀ xs ∈ r, xs.length ≤ c + 1 := by
  unfold x_app2 ixN
  rw [if_pos h0, if_pos (by omega), bs]
  have hu : u.toNat < xss.length := by omega
  rw [List.getElem?_eq_getElem hu, bs, if_pos (show _ < sizeLine from by have := hc _ (List.getElem_mem hu); show _ < 16777216; omega)]
  refine Ok.pure ⟨by rw [List.length_set]; exact hl, fun xs hx => ?_⟩
  rcases List.mem_or_eq_of_mem_set hx with hx | rfl
  · have := hc xs hx
    omega
  · have := hc _ (List.getElem_mem hu)
    simp
    omega
theorem house_eq {n q : Nat} {rk : Int → Nat} {P : List (Int × Int)} (hn : 1 ≤ n ∧ n ≤ 16) (hq : 2 ≤ q ∧ q ≤ 10) (h : GoodW n rk P) (hP : P.length ≤ 1000) : Ok (m_House___init__ n q P) fun r => HouseOk n q P (toHouse r) := by
  have hd : ∀ u v, Dn P u v → 0 ≤ u ∧ u < (n : Int) := fun u v d => by have := h.dn (fun _ m => m) d; omega
  unfold m_House___init__
  simp only [bs, is_integer_eq, orM, andM]
  have c1 : decide ((1 : Int) ≤ (n : Int)) = true := decide_eq_true (by omega)
  have c2 : decide ((n : Int) ≤ 16) = true := decide_eq_true (by omega)
  have c3 : decide ((2 : Int) ≤ (q : Int)) = true := decide_eq_true (by omega)
  have c4 : decide ((q : Int) ≤ 10) = true := decide_eq_true (by omega)
  simp only [c1, c2, c3, c4, bs, Bool.not_true, Bool.false_eq_true, if_false, if_true]
  refine Ok.bind (join_wires_eq (by omega) h) fun B hB => ?_
  refine Ok.bind (turn_round_eq (by omega) hB hd) fun A hA => ?_
  refine Ok.bindE (masks_lists (by omega) hB (f := belowL n P) fun u _ => ⟨fun v => dnB P u v, rfl, fun v => dnB_iff⟩) ?_
  refine Ok.bindE (masks_lists (by omega) hA (f := aboveL n P) fun u _ => ⟨fun v => dnB P v u, rfl, fun v => dnB_iff⟩) ?_
  have hup : ∀ x y, y ∈ aboveL n P x → (0 ≤ y ∧ y < (n : Int)) ∧ rk y < rk x := fun x y hy => by
    have := h.dn (fun _ m => m) ((mem_aboveL h).mp hy)
    omega
  refine Ok.bindE (order_list_eq (by omega) (up := aboveL n P) (rk := rk) (hA.congr (fun u v _ _ => (mem_aboveL h).symm) fun u v q => by have := (hup u v q).1; exact this) hup) ?_
  rw [x_range_nat (by omega), bs]
  refine Ok.bindE (x_comp_map (fun _ => ([] : List Int)) (by rw [length_rangeL]; omega) fun _ _ => rfl) ?_
  refine Ok.fold (fun p b => b.length = n ∧ ∀ xs ∈ b, xs.length ≤ p.length) ?_ ?_ ?_
  · refine ⟨by simp [length_rangeL], fun xs hx => ?_⟩
    obtain ⟨_, _, rfl⟩ := List.mem_map.mp hx
    simp
  · rintro p ⟨u, v⟩ r b e ⟨h1, h2⟩
    have hperm : (sortP P).Perm P := List.mergeSort_perm P lexP
    have hm : (u, v) ∈ P := hperm.mem_iff.mp (by rw [e]; simp)
    have hl : p.length < 1000 := by
      have := hperm.length_eq
      rw [e] at this
      simp at this
      omega
    obtain ⟨d1, d2, _⟩ := h.dom u v hm
    refine Ok.bind (app2_ok h1 d1 d2 h2 (by omega)) fun r hr => Ok.pure ⟨hr.1, fun xs hx => ?_⟩
    have := hr.2 xs hx
    simp
    omega
  · intro b hb
    exact Ok.pure ⟨hB, hA, rfl, rfl, rfl, rfl, rfl, rfl⟩
end HF

set_option Elab.async false
set_option linter.all false
set_option maxRecDepth 100000
set_option maxHeartbeats 1000000
/-! MathF: the law's own world. -/
namespace HF
open PySem PySem.Spec L2
open PyProof.Rows hiding St
theorem dn_head {P : List (Int × Int)} {u y : Int} : Dn P u y ↔ ∃ l, (u, l) ∈ P ∧ (y = l ∨ Dn P l y) := by
  constructor
  · intro d
    induction d with
    | single e => exact ⟨_, e, .inl rfl⟩
    | @tail b c _ e ih =>
      obtain ⟨l, h1, h2⟩ := ih
      refine ⟨l, h1, .inr ?_⟩
      rcases h2 with rfl | h2
      · exact .single e
      · exact .tail h2 e
  · rintro ⟨l, h1, rfl | h2⟩
    · exact .single h1
    · exact (Relation.TransGen.single h1 : Dn P u l).trans h2
/-- the order of a line -/
abbrev rkL (line : List Int) (x : Int) : Nat := line.idxOf x
def worldOf (n q : Nat) (P : List (Int × Int)) : (Int × Int × (List (Int × Int)) × (List Int) × (List (List Int)) × (List (List Int))) → Prop := fun w =>
  w.1 = n ∧ w.2.1 = q ∧ w.2.2.1 = P ∧ w.2.2.2.1 = gr n (aboveL n P) n ∧ w.2.2.2.2.1 = (rangeL 0 n).map (belowL n P) ∧ w.2.2.2.2.2 = (rangeL 0 n).map (aboveL n P)
theorem map_range_ix {n : Nat} {f : Int → List Int} {x : Int} (h0 : 0 ≤ x) (h1 : x < n) : x_ix ((rangeL 0 n).map f) x = some (f x) := by
  refine x_ix_get h0 ?_
  rw [List.getElem?_map]
  unfold rangeL
  rw [List.getElem?_map, List.getElem?_range (by omega)]
  simp
  congr 1
  omega
theorem all_in_eq (xs ls : List Int) (h : xs.length ≤ 1000000) : m__law_all_in xs ls = some (xs.all fun y => decide (y ∈ ls)) := by
  unfold m__law_all_in
  simp only [bs]
  rw [x_comp_filter (fun y => decide (y ∈ ls)) (by omega) fun _ _ => rfl, bs, bs]
  congr 1
  rw [Bool.eq_iff_iff, decide_eq_true_eq, List.all_eq_true]
  constructor
  · intro e
    have e' : (xs.filter fun y => decide (y ∈ ls)).length = xs.length := by omega
    exact List.length_filter_eq_length_iff.mp e'
  · intro e
    have := List.length_filter_eq_length_iff.mpr e
    omega
theorem known_eq {n q : Nat} {P : List (Int × Int)} {line : List Int} (hn : 1 ≤ n ∧ n ≤ 16) (hl : line.Perm (rangeL 0 n)) (h : GoodW n (rkL line) P) (hP : P.length ≤ 1000) : Ok (m__law_known n q P line) (worldOf n q P) := by
  have hlen : line.length = n := by rw [hl.length_eq, length_rangeL]
  have hnd : line.Nodup := hl.nodup_iff.mpr nodup_rangeL
  unfold m__law_known
  simp only [bs]
  rw [x_range_nat (by omega)]
  simp only [bs]
  refine Ok.bindE (x_comp_map (fun _ => ([] : List Int)) (by rw [length_rangeL]; omega) fun _ _ => rfl) ?_
  refine Ok.foldN (fun k b => b.length = n ∧ (∀ x : Int, 0 ≤ x → x < n → n ≤ rkL line x + k → b[x.toNat]? = some (belowL n P x)) ∧ ∀ l ∈ b, l.length ≤ n) ?_ ?_ ?_
  · refine ⟨by simp [length_rangeL], fun x h0 h1 h2 => ?_, fun l hl => ?_⟩
    · have : rkL line x < line.length := List.idxOf_lt_length_of_mem (hl.mem_iff.mpr (mem_rangeL.mpr ⟨h0, h1⟩))
      omega
    · obtain ⟨_, _, rfl⟩ := List.mem_map.mp hl
      simp
  · rintro k b hk ⟨b1, b2, b3⟩
    have hi : n - 1 - k < line.length := by omega
    have e0 : ((n : Int) - 1 - (k : Int)) = ((n - 1 - k : Nat) : Int) := by omega
    rw [e0, x_ix_nat hi, bs]
    generalize hu : line[n - 1 - k] = u
    have hum : u ∈ line := by rw [← hu]; exact List.getElem_mem hi
    have hur := mem_rangeL.mp (hl.mem_iff.mp hum)
    have hrk : rkL line u = n - 1 - k := by rw [← hu]; exact hnd.idxOf_getElem _ hi
    refine Ok.fold (fun p (f : List Int) => (∀ y, y ∈ f ↔ ∃ l, (u, l) ∈ p ∧ (y = l ∨ Dn P l y)) ∧ f.length ≤ p.length * (n + 1)) ?_ ?_ ?_
    · exact ⟨fun y => by simp, by simp⟩
    · rintro p ⟨a, l⟩ r f e ⟨f1, f2⟩
      have hm : (a, l) ∈ P := by rw [e]; simp
      have hpl : p.length < P.length := by rw [e]; simp
      dsimp only
      refine Ok.ite (fun c => ?_) (fun c => ?_)
      · have ha : a = u := of_decide_eq_true c
        subst ha
        obtain ⟨d1, d2, d3, d4⟩ := h.dom a l hm
        have hr := h.up a l hm
        have eb := b2 l d3 d4 (by omega)
        have hb := b3 _ (List.mem_of_getElem? eb)
        have hsz : p.length * (n + 1) ≤ 1000 * 17 := Nat.mul_le_mul (by omega) (by omega)
        rw [x_cat_eq (by simp; omega), bs, x_ix_get d3 eb, bs, x_cat_eq (by simp; omega), bs]
        refine Ok.pure ⟨fun y => ?_, ?_⟩
        · rw [List.mem_append, List.mem_append, f1 y, List.mem_singleton, mem_belowL h]
          constructor
          · rintro ((⟨l', q1, q2⟩ | q) | q)
            · exact ⟨l', List.mem_append_left _ q1, q2⟩
            · exact ⟨l, by simp, .inl q⟩
            · exact ⟨l, by simp, .inr q⟩
          · rintro ⟨l', q1, q2⟩
            rcases List.mem_append.mp q1 with q1 | q1
            · exact .inl (.inl ⟨l', q1, q2⟩)
            · have : l' = l := by simpa using q1
              subst this
              rcases q2 with q2 | q2
              · exact .inl (.inr q2)
              · exact .inr q2
        · simp only [List.length_append, List.length_singleton]
          rw [Nat.add_mul]
          omega
      · have ha : a ≠ u := of_decide_eq_false c
        refine Ok.pure ⟨fun y => ?_, ?_⟩
        · rw [f1 y]
          constructor
          · rintro ⟨l', q1, q2⟩
            exact ⟨l', List.mem_append_left _ q1, q2⟩
          · rintro ⟨l', q1, q2⟩
            rcases List.mem_append.mp q1 with q1 | q1
            · exact ⟨l', q1, q2⟩
            · simp at q1
              exact absurd q1.1.symm ha
        · simp only [List.length_append, List.length_singleton]
          rw [Nat.add_mul]
          omega
    · rintro f ⟨f1, _⟩
      rw [x_comp_filter (fun y => decide (y ∈ f)) (by rw [length_rangeL]; omega) fun _ _ => rfl, bs]
      have ef : (rangeL 0 n).filter (fun y => decide (y ∈ f)) = belowL n P u := by
        unfold belowL
        refine List.filter_congr fun y _ => ?_
        rw [Bool.eq_iff_iff, decide_eq_true_eq, f1 y, dnB_iff, dn_head]
      rw [ef, x_set_nat hur.1 (by rw [b1]; exact hur.2), bs]
      refine Ok.pure ⟨by rw [List.length_set]; exact b1, fun x h0 h1 h2 => ?_, fun l hl' => ?_⟩
      · by_cases hx : x = u
        · subst hx
          rw [List.getElem?_set_self (by omega)]
        · rw [List.getElem?_set_ne (by omega)]
          refine b2 x h0 h1 ?_
          have hne : rkL line x ≠ rkL line u := fun e => hx (by
            have hx1 : line.idxOf x < line.length := List.idxOf_lt_length_of_mem (hl.mem_iff.mpr (mem_rangeL.mpr ⟨h0, h1⟩))
            have hu1 : line.idxOf u < line.length := List.idxOf_lt_length_of_mem hum
            have e1 := List.getElem_idxOf hx1
            have e2 := List.getElem_idxOf hu1
            have e3 : line[line.idxOf x] = line[line.idxOf u] := by congr 1
            rw [← e1, ← e2, e3])
          omega
      · rcases List.mem_or_eq_of_mem_set hl' with q | rfl
        · exact b3 l q
        · unfold belowL
          exact Nat.le_trans (List.length_filter_le _ _) (by rw [length_rangeL]; omega)
  · rintro b ⟨b1, b2, _⟩
    have eb : b = (rangeL 0 n).map (belowL n P) := by
      refine List.ext_getElem? fun i => ?_
      by_cases hi : i < n
      · have := b2 (i : Int) (by omega) (by omega) (by omega)
        rw [Int.toNat_natCast] at this
        rw [this, List.getElem?_map]
        unfold rangeL
        rw [List.getElem?_map, List.getElem?_range hi]
        simp
      · rw [List.getElem?_eq_none (by omega), List.getElem?_eq_none (by rw [List.length_map, length_rangeL]; omega)]
    subst eb
    refine Ok.foldN (fun k (b : List (List Int)) => b = (rangeL 0 k).map (aboveL n P)) (by simp [rangeL]) ?_ ?_
    · intro k b hk hb
      have e : x_comp (fun y : Int => (x_ix ((rangeL 0 n).map (belowL n P)) y).bind fun z => some (decide ((k : Int) ∈ z))) (fun y => some y) (rangeL 0 n) = some (aboveL n P k) := by
        rw [x_comp_filter (fun y => dnB P y k) (by rw [length_rangeL]; omega) fun x hx => ?_]
        · rfl
        · obtain ⟨h0, h1⟩ := mem_rangeL.mp hx
          rw [map_range_ix h0 h1, bs]
          congr 1
          rw [Bool.eq_iff_iff, decide_eq_true_eq, mem_belowL h, dnB_iff]
      rw [e, bs, x_app_eq (by rw [hb]; simp [length_rangeL]; omega), bs]
      refine Ok.pure ?_
      rw [hb, rangeL_succ, List.map_append]
      rfl
    · intro b hb
      subst hb
      have hup : ∀ x y, y ∈ aboveL n P x → (0 ≤ y ∧ y < (n : Int)) ∧ rkL line y < rkL line x := fun x y hy => by
        have := h.dn (fun _ m => m) ((mem_aboveL h).mp hy)
        omega
      refine Ok.foldN (fun k (b : List Int) => b = gr n (aboveL n P) k) rfl ?_ ?_
      · intro k b hk hb
        have hbl : b.length = k := by rw [hb]; exact gr_len hup k (by omega)
        rw [x_comp_filter (fun y => !decide (y ∈ b)) (by rw [length_rangeL]; omega) fun _ _ => rfl, bs]
        rw [x_comp_filter (fun y => (aboveL n P y).all fun z => decide (z ∈ b)) (Nat.le_trans (List.length_filter_le _ _) (by rw [length_rangeL]; omega)) fun x hx => ?_, bs, List.filter_filter]
        · obtain ⟨x, r, e⟩ := gr_next hup (ls := b) (by omega)
          have e' : (rangeL 0 n).filter (fun a => ((aboveL n P a).all fun z => decide (z ∈ b)) && !decide (a ∈ b)) = x :: r := by
            rw [← e]
            exact List.filter_congr fun a _ => Bool.and_comm _ _
          rw [e', x_ix0, bs, x_app_eq (by omega), bs]
          refine Ok.pure ?_
          show b ++ [x] = gr n (aboveL n P) k ++ _
          rw [← hb, e]
          rfl
        · obtain ⟨hx1, _⟩ := List.mem_filter.mp hx
          obtain ⟨h0, h1⟩ := mem_rangeL.mp hx1
          rw [map_range_ix h0 h1, bs]
          refine all_in_eq _ _ ?_
          unfold aboveL
          exact Nat.le_trans (List.length_filter_le _ _) (by rw [length_rangeL]; omega)
      · intro b hb
        subst hb
        exact Ok.pure ⟨rfl, rfl, rfl, rfl, rfl, rfl⟩
end HF

set_option Elab.async false
set_option linter.all false
set_option maxRecDepth 100000
set_option maxHeartbeats 1000000
/-! MathG: what is drawn. -/
namespace HF
open PySem PySem.Spec L2
open PyProof.Rows hiding St
theorem Ok.foldA {β γ : Type} {a : Int} {f : β → Int → Option β} {k : β → Option γ} {b : β} {n : Nat} {Q : γ → Prop} (P : Nat → β → Prop) (h0 : P 0 b) (st : ∀ k b, k < n → P k b → Ok (f b (a + (k : Int))) (P (k + 1))) (m : ∀ b, P n b → Ok (k b) Q) : Ok ((foldO f b (rangeL a n)).bind k) Q := by
  refine Ok.fold (fun p b => P p.length b) h0 (fun p x q b e hp => ?_) fun b hb => m b (by rw [length_rangeL] at hb; exact hb)
  have h : (rangeL a n)[p.length]? = some x := by rw [e]; simp
  obtain ⟨h1, h2⟩ := rangeL_get h
  rw [h2]
  exact (st p.length b h1 hp).mono fun b hb => by simpa using hb
theorem x_mulS_r {i c : Int} (h : -(2 ^ 64) < c ∧ c < 2 ^ 64) : x_mulS i c = some (i * c) := by
  unfold x_mulS
  rw [if_pos (.inr h)]
theorem x_mulS_l {i c : Int} (h : -(2 ^ 64) < c ∧ c < 2 ^ 64) : x_mulS c i = some (c * i) := by
  unfold x_mulS
  rw [if_pos (.inl h)]
theorem x_mod_pos {i j : Int} (h : 0 < j) : x_mod i j = some (i % j) := by
  unfold x_mod
  rw [if_pos h]
theorem x_div_pos {i j : Int} (h : 0 < j) (h2 : j < 1073741824) : x_div i j = some (i / j) := by
  unfold x_div
  rw [if_pos ⟨h, h2⟩]
structure BagOk (b : R_bag) : Prop where
  cells : b.1.length ≤ 63
  p0 : 0 ≤ b.2.1
theorem ml1 (i : Int) : x_mulS i 48271 = some (i * 48271) := x_mulS_r (by decide)
theorem ml2 (i : Int) : x_mulS i 7919 = some (i * 7919) := x_mulS_r (by decide)
theorem ml3 (i : Int) : x_mulS i 69621 = some (i * 69621) := x_mulS_r (by decide)
theorem ml4 (i : Int) : x_mulS i 40692 = some (i * 40692) := x_mulS_r (by decide)
theorem md1 (i : Int) : x_mod i 2147483647 = some (i % 2147483647) := x_mod_pos (by decide)
theorem md2 (i : Int) : x_mod i 2147483399 = some (i % 2147483399) := x_mod_pos (by decide)
theorem dv1 (i : Int) : x_div i 31 = some (i / 31) := x_div_pos (by decide) (by decide)
theorem pw1 : x_pow 10 18 = some (10 ^ 18) := by decide
theorem draw_ok {b : R_bag} {s : Int} (hb : BagOk b) (h0 : 0 < s) (h1 : s < 1073741824) : Ok (m__law_draw b s) fun r => (0 ≤ r.1 ∧ r.1 < s) ∧ BagOk r.2 := by
  have hr : ∀ x : Int, 0 ≤ x % s ∧ x % s < s := fun x => ⟨Int.emod_nonneg _ (by omega), Int.emod_lt_of_pos _ h0⟩
  have hd : ∀ i, x_div i s = some (i / s) := fun i => x_div_pos h0 h1
  have hm : ∀ i, x_mod i s = some (i % s) := fun i => x_mod_pos h0
  unfold m__law_draw
  simp only [bs, joinK, ml1, ml2, ml3, ml4, md1, md2, dv1, pw1, hd, hm]
  refine Ok.ite (fun c => ?_) (fun c => ?_)
  · exact Ok.pure ⟨hr _, hb.cells, hb.p0⟩
  · refine Ok.ite (fun c => ?_) (fun c => ?_)
    · have hp : b.2.1 < (b.1.length : Int) := of_decide_eq_true c
      obtain ⟨k, hk⟩ := Int.eq_ofNat_of_zero_le hb.p0
      rw [hk, x_ix_nat (by omega), bs]
      refine Ok.ite (fun c => ?_) (fun c => ?_)
      · exact Ok.pure ⟨hr _, hb.cells, by show (0 : Int) ≤ (k : Int) + 1; omega⟩
      · exact Ok.pure ⟨hr _, hb.cells, by show (0 : Int) ≤ (k : Int) + 1; omega⟩
    · exact Ok.pure ⟨hr _, hb.cells, hb.p0⟩
theorem bag_ok {script : List Int} (h : script.length ≤ 63) : Ok (m__law_bag script) BagOk := by
  unfold m__law_bag
  simp only [bs]
  have hl : (cutL script none (some 63)).length ≤ 63 := by
    unfold cutL
    rw [List.length_take, List.length_drop]
    omega
  rw [x_comp_map (fun z : Int => if z < 0 then -z else z) (by omega) fun _ _ => rfl, bs]
  exact Ok.pure ⟨by simpa using hl, Int.le_refl 0⟩
theorem x_popAt_eq {α : Type} {xs : List α} {k : Nat} (h : k < xs.length) (h2 : xs.length ≤ 1000) : x_popAt xs (k : Int) = some (xs[k], xs.eraseIdx k) := by
  unfold x_popAt seqIndex?
  rw [if_pos ⟨by omega, by omega⟩]
  have e1 : ¬ ((k : Int) < 0) := by omega
  simp only [e1, if_false]
  have e2 : (decide (0 ≤ (k : Int)) && decide ((k : Int) < (xs.length : Int))) = true := by simp; omega
  simp only [e2, if_true, bs, Int.toNat_natCast]
  rw [List.getElem?_eq_getElem h, bs]
theorem shuffled_ok {b : R_bag} {n : Nat} (hb : BagOk b) (hn : n ≤ 16) : Ok (m__law_shuffled b n) fun r => r.1.Perm (rangeL 0 n) ∧ BagOk r.2 := by
  have hlr : x_lrange 0 (n : Int) = some (rangeL 0 n) := by
    unfold x_lrange
    rw [if_pos ⟨by decide, by decide, by omega, by omega, by omega⟩, Int.sub_zero, Int.toNat_natCast]
    rfl
  unfold m__law_shuffled
  simp only [bs]
  rw [hlr, bs, x_range_nat (by omega), bs]
  refine Ok.foldN (fun k s => BagOk s.1 ∧ s.2.1.length + k = n ∧ s.2.2.length = k ∧ (s.2.1 ++ s.2.2).Perm (rangeL 0 n)) ⟨hb, by simp [length_rangeL], rfl, by simp⟩ ?_ ?_
  · rintro k ⟨s, ls, li⟩ hk ⟨h1, h2, h3, h4⟩
    dsimp only at h1 h2 h3 h4 ⊢
    refine Ok.bind (draw_ok h1 (by omega) (by omega)) fun r hr => ?_
    obtain ⟨⟨r0, r1⟩, rb⟩ := hr
    obtain ⟨i, hi⟩ := Int.eq_ofNat_of_zero_le r0
    have hil : i < ls.length := by omega
    rw [hi, x_popAt_eq hil (by omega), bs, x_app_eq (by omega), bs]
    refine Ok.pure ⟨rb, ?_, by simp [h3], ?_⟩
    · dsimp only
      rw [List.length_eraseIdx_of_lt hil]
      omega
    · dsimp only
      refine List.Perm.trans ?_ h4
      have p1 : ls.Perm (ls[i] :: ls.eraseIdx i) := perm_erase (List.getElem?_eq_getElem hil)
      refine List.Perm.trans ?_ (p1.symm.append_right li)
      rw [← List.append_assoc]
      exact List.perm_append_comm.trans (by simp)
  · rintro ⟨s, ls, li⟩ ⟨h1, h2, _, h4⟩
    have : ls = [] := List.eq_nil_of_length_eq_zero (by dsimp only at h2; omega)
    subst this
    exact Ok.pure ⟨by simpa using h4, h1⟩
theorem wired_ok {b : R_bag} {shape split parent high low : Int} (hb : BagOk b) (h0 : 0 ≤ shape) : Ok (m__law_wired b shape split parent high low) fun r => BagOk r.2 := by
  unfold m__law_wired
  simp only [bs, andM]
  refine Ok.ite (fun c => ?_) (fun c => ?_)
  · have c' : shape < 2 := of_decide_eq_true c
    rw [x_mulS_l (by decide), bs, bs]
    refine Ok.bind (draw_ok hb (by omega) (by omega)) fun r hr => ?_
    exact Ok.pure hr.2
  · refine Ok.ite (fun c => Ok.pure hb) (fun c => ?_)
    refine Ok.ite (fun c => Ok.pure hb) (fun c => ?_)
    refine Ok.bind (P := fun _ => True) ?_ fun a _ => Ok.pure hb
    refine Ok.ite (fun c => ?_) (fun c => Ok.pure True.intro)
    refine Ok.ite (fun c => Ok.pure True.intro) (fun c => Ok.pure True.intro)
end HF

set_option Elab.async false
set_option linter.all false
set_option maxRecDepth 100000
set_option maxHeartbeats 1000000
/-! MathH: wires, hues, counts, worlds that are drawn. -/
namespace HF
open PySem PySem.Spec L2
open PyProof.Rows hiding St
theorem x_range_a {a b : Int} (h0 : -1000000 ≤ a) (h1 : a ≤ 1000000) (h2 : -1000000 ≤ b) (h3 : b ≤ 1000000) : x_range a b = some (rangeL a (b - a).toNat) := by
  unfold x_range
  rw [if_pos ⟨by omega, by omega, by omega, by omega⟩]
/-- wires from earlier to later in the line -/
def Fw (line : List Int) (P : List (Int × Int)) (low h : Nat) : Prop := ∀ u v, (u, v) ∈ P → ∃ i j : Nat, i < j ∧ line[i]? = some u ∧ line[j]? = some v ∧ (j < low ∨ (j = low ∧ i < h))
theorem fw_good {n : Nat} {line : List Int} {P : List (Int × Int)} {low h : Nat} (hl : line.Perm (rangeL 0 n)) (nd : P.Nodup) (f : Fw line P low h) : GoodW n (rkL line) P := by
  have hnd : line.Nodup := hl.nodup_iff.mpr nodup_rangeL
  refine ⟨nd, fun u v m => ?_, fun u v m => ?_⟩
  · obtain ⟨i, j, _, e1, e2, _⟩ := f u v m
    have m1 := mem_rangeL.mp (hl.mem_iff.mp (List.mem_of_getElem? e1))
    have m2 := mem_rangeL.mp (hl.mem_iff.mp (List.mem_of_getElem? e2))
    omega
  · obtain ⟨i, j, hij, e1, e2, _⟩ := f u v m
    obtain ⟨b1, q1⟩ := List.getElem?_eq_some_iff.mp e1
    obtain ⟨b2, q2⟩ := List.getElem?_eq_some_iff.mp e2
    have r1 : rkL line u = i := by rw [← q1]; exact hnd.idxOf_getElem _ b1
    have r2 : rkL line v = j := by rw [← q2]; exact hnd.idxOf_getElem _ b2
    omega
theorem shapes_ok {k : Nat} (h : k < 12) : Ok (x_ix [(0 : Int), 0, 0, 0, 1, 1, 2, 2, 3, 3, 4, 5] (k : Int)) fun v => 0 ≤ v := by
  rw [x_ix_nat h]
  refine Ok.pure ?_
  have : ∀ v ∈ [(0 : Int), 0, 0, 0, 1, 1, 2, 2, 3, 3, 4, 5], 0 ≤ v := by decide
  exact this _ (List.getElem_mem _)
theorem wires_ok {b : R_bag} {n : Nat} {line : List Int} (hb : BagOk b) (hn : 1 ≤ n ∧ n ≤ 16) (hl : line.Perm (rangeL 0 n)) : Ok (m__law_wires b line) fun r => GoodW n (rkL line) r.1 ∧ r.1.length ≤ 1000 ∧ BagOk r.2 := by
  have hlen : line.length = n := by rw [hl.length_eq, length_rangeL]
  have hnd : line.Nodup := hl.nodup_iff.mpr nodup_rangeL
  unfold m__law_wires
  simp only [bs, joinK]
  refine Ok.bind (draw_ok hb (by decide) (by decide)) fun r1 h1 => ?_
  obtain ⟨⟨a0, a1⟩, hb1⟩ := h1
  obtain ⟨k, hk⟩ := Int.eq_ofNat_of_zero_le a0
  rw [hk]
  refine Ok.bind (shapes_ok (by omega)) fun shape hs => ?_
  rw [hlen]
  refine Ok.bind (draw_ok hb1 (by omega) (by omega)) fun r2 h2 => ?_
  rw [x_range_a (by decide) (by decide) (by omega) (by omega), bs]
  refine Ok.foldA (fun k s => BagOk s.1 ∧ s.2.Nodup ∧ Fw line s.2 (k + 1) 0 ∧ s.2.length ≤ k * 16) ⟨h2.2, List.nodup_nil, fun u v m => (by cases m), by simp⟩ ?_ ?_
  · rintro k ⟨s, ws⟩ hk ⟨i1, i2, i3, i4⟩
    dsimp only at i1 i2 i3 i4 ⊢
    have elow : ((1 : Int) + (k : Int)) = ((k + 1 : Nat) : Int) := by omega
    rw [elow]
    refine Ok.bind (draw_ok i1 (by omega) (by omega)) fun r hr => ?_
    rw [x_range_nat (by omega), bs]
    refine Ok.foldN (fun m s => BagOk s.1 ∧ s.2.Nodup ∧ Fw line s.2 (k + 1) m ∧ s.2.length ≤ k * 16 + m) ⟨hr.2, i2, i3, by omega⟩ ?_ ?_
    · rintro m ⟨s, ws⟩ hm ⟨j1, j2, j3, j4⟩
      dsimp only at j1 j2 j3 j4 ⊢
      refine Ok.bind (wired_ok j1 hs) fun r hr => ?_
      have up : Fw line ws (k + 1) (m + 1) := fun u v q => by
        obtain ⟨i, j, e1, e2, e3, e4⟩ := j3 u v q
        exact ⟨i, j, e1, e2, e3, by omega⟩
      refine Ok.ite (fun c => ?_) (fun c => Ok.pure ⟨hr, j2, up, by dsimp only; omega⟩)
      have b1 : m < line.length := by omega
      have b2 : k + 1 < line.length := by omega
      rw [x_ix_nat b1, bs, x_ix_nat b2, bs, bs, x_app_eq (by omega), bs]
      refine Ok.pure ⟨hr, ?_, ?_, by simp; omega⟩
      · refine List.nodup_append.mpr ⟨j2, by simp, fun x hx y hy e => ?_⟩
        have hy' : y = (line[m], line[k + 1]) := by simpa using hy
        subst e
        subst hy'
        obtain ⟨i, j, e1, e2, e3, e4⟩ := j3 _ _ hx
        obtain ⟨c1, q1⟩ := List.getElem?_eq_some_iff.mp e2
        obtain ⟨c2, q2⟩ := List.getElem?_eq_some_iff.mp e3
        have z1 := (List.getElem_inj hnd).mp q1
        have z2 := (List.getElem_inj hnd).mp q2
        omega
      · intro u v q
        rcases List.mem_append.mp q with q | q
        · exact up u v q
        · have e : u = line[m] ∧ v = line[k + 1] := by simpa using q
          obtain ⟨rfl, rfl⟩ := e
          exact ⟨m, k + 1, hm, List.getElem?_eq_getElem b1, List.getElem?_eq_getElem b2, .inr ⟨rfl, by omega⟩⟩
    · rintro ⟨s, ws⟩ ⟨j1, j2, j3, j4⟩
      exact Ok.pure ⟨j1, j2, fun u v q => by
        obtain ⟨i, j, e1, e2, e3, e4⟩ := j3 u v q
        exact ⟨i, j, e1, e2, e3, by omega⟩, by dsimp only at j4 ⊢; omega⟩
  · rintro ⟨s, ws⟩ ⟨j1, j2, j3, j4⟩
    dsimp only at j1 j2 j3 j4 ⊢
    have hw : ws.length ≤ 1000 := by
      have : ((n : Int) - 1).toNat * 16 ≤ 16 * 16 := Nat.mul_le_mul_right _ (by omega)
      omega
    refine Ok.bind (draw_ok j1 (by decide) (by decide)) fun r hr => ?_
    refine Ok.ite (fun c => ?_) (fun c => ?_)
    · have nd : ws.reverse.Nodup := (List.reverse_perm ws).nodup_iff.mpr j2
      exact Ok.pure ⟨fw_good hl nd (fun u v m => j3 u v (List.mem_reverse.mp m)), by simpa using hw, hr.2⟩
    · exact Ok.pure ⟨fw_good hl j2 j3, hw, hr.2⟩
theorem hues_ok {b : R_bag} (hb : BagOk b) : Ok (m__law_hues b) fun r => (2 ≤ r.1 ∧ r.1 ≤ 10) ∧ BagOk r.2 := by
  unfold m__law_hues
  simp only [bs, joinK]
  refine Ok.bind (draw_ok hb (by decide) (by decide)) fun r1 h1 => ?_
  refine Ok.bind (draw_ok h1.2 (by decide) (by decide)) fun r2 h2 => ?_
  refine Ok.ite (fun c => ?_) (fun c => ?_)
  · refine Ok.bind (draw_ok h2.2 (by decide) (by decide)) fun r3 h3 => ?_
    exact Ok.pure ⟨by dsimp only; omega, h3.2⟩
  · exact Ok.pure ⟨by dsimp only; omega, h2.2⟩
theorem wide_of {i : Int} {k : Nat} (h : i.natAbs ≤ 2 ^ k) (hk : k < 4000) : wide i := Nat.lt_of_le_of_lt h (Nat.pow_lt_pow_right (by decide) hk)
theorem x_mul_wide {i j : Int} {a b : Nat} (h1 : i.natAbs ≤ 2 ^ a) (h2 : j.natAbs ≤ 2 ^ b) (ha : a < 4000) (hb : b < 4000) : x_mul i j = some (i * j) := by
  unfold x_mul
  rw [if_pos ⟨wide_of h1 ha, wide_of h2 hb⟩]
theorem pow_abs {h : Int} (hh : h.natAbs ≤ 2 ^ 10) : ∀ k : Nat, (h ^ k).natAbs ≤ 2 ^ (10 * k)
  | 0 => by simp
  | k + 1 => by
    rw [Int.pow_succ, Int.natAbs_mul, Nat.mul_succ, Nat.pow_add]
    exact Nat.mul_le_mul (pow_abs hh k) hh
theorem power_eq {h : Int} {c : Nat} (hh : h.natAbs ≤ 2 ^ 10) (hc : c ≤ 300) : m__law_power h c = some (h ^ c) := by
  refine Ok.of ?_
  unfold m__law_power
  simp only [bs]
  rw [x_range_nat (by omega), bs]
  refine Ok.foldN (fun k b => b = h ^ k) (by simp) (fun k b hk hb => ?_) fun b hb => Ok.pure hb
  subst hb
  rw [x_mul_wide (pow_abs hh k) hh (by omega) (by decide), bs]
  exact Ok.pure (Int.pow_succ ..).symm
theorem count_ok {b : R_bag} {q : Nat} {room : Int} (hb : BagOk b) (hq : 2 ≤ q ∧ q ≤ 10) : Ok (m__law_count b q room) fun r => ∃ c : Nat, r.1 = (c : Int) ∧ (1 ≤ c ∧ c ≤ 16) ∧ (c = 1 ∨ ((q ^ c : Nat) : Int) ≤ room) ∧ BagOk r.2 := by
  unfold m__law_count
  simp only [bs]
  rw [x_range_a (by decide) (by decide) (by decide) (by decide), bs]
  refine Ok.foldA (fun k s => ∃ c : Nat, s = (c : Int) ∧ (1 ≤ c ∧ c ≤ 16) ∧ (c = 1 ∨ ((q ^ c : Nat) : Int) ≤ room)) ⟨1, rfl, by decide, .inl rfl⟩ ?_ ?_
  · intro k s hk hs
    have e : ((2 : Int) + (k : Int)) = ((k + 2 : Nat) : Int) := by omega
    have hk' : k < 15 := hk
    rw [e, power_eq (by omega) (by omega), bs]
    refine Ok.ite (fun c => ?_) (fun c => Ok.pure hs)
    exact Ok.pure ⟨k + 2, rfl, by omega, .inr (by simpa using c)⟩
  · rintro _ ⟨c, rfl, h1, h2⟩
    refine Ok.bind (draw_ok hb (by decide) (by decide)) fun r hr => ?_
    refine Ok.ite (fun _ => Ok.pure ⟨c, rfl, h1, h2, hr.2⟩) (fun _ => ?_)
    refine Ok.bind (draw_ok hr.2 (by omega) (by omega)) fun r2 h3 => ?_
    obtain ⟨⟨a0, a1⟩, hb2⟩ := h3
    obtain ⟨k, hk⟩ := Int.eq_ofNat_of_zero_le a0
    refine Ok.pure ⟨k + 1, by dsimp only; omega, by omega, ?_, hb2⟩
    rcases h2 with h2 | h2
    · exact .inl (by omega)
    · refine .inr (Int.le_trans ?_ h2)
      exact Int.ofNat_le.mpr (Nat.pow_le_pow_right (by omega) (by omega))
/-- a world that was drawn -/
theorem world_ok {b : R_bag} {room : Int} (hb : BagOk b) : Ok (m__law_world b room) fun r => ∃ (n q : Nat) (P : List (Int × Int)) (line : List Int), (1 ≤ n ∧ n ≤ 16) ∧ (2 ≤ q ∧ q ≤ 10) ∧ (n = 1 ∨ ((q ^ n : Nat) : Int) ≤ room) ∧ GoodW n (rkL line) P ∧ P.length ≤ 1000 ∧ worldOf n q P r.1 ∧ BagOk r.2 := by
  unfold m__law_world
  simp only [bs]
  refine Ok.bind (hues_ok hb) fun r1 h1 => ?_
  obtain ⟨hq, hb1⟩ := h1
  obtain ⟨q, eq⟩ := Int.eq_ofNat_of_zero_le (show 0 ≤ r1.1 by omega)
  rw [eq] at hq ⊢
  refine Ok.bind (count_ok hb1 (by omega)) fun r2 h2 => ?_
  obtain ⟨n, en, hn, hroom, hb2⟩ := h2
  rw [en]
  refine Ok.bind (shuffled_ok hb2 (by omega)) fun r3 h3 => ?_
  refine Ok.bind (wires_ok h3.2 hn h3.1) fun r4 h4 => ?_
  refine Ok.bind (known_eq hn h3.1 h4.1 h4.2.1) fun w hw => ?_
  exact Ok.pure ⟨n, q, r4.1, r3.1, hn, by omega, hroom, h4.1, h4.2.1, hw, h4.2.2⟩
end HF

set_option Elab.async false
set_option linter.all false
set_option maxRecDepth 100000
set_option maxHeartbeats 1000000
/-! MathK0: states. -/
namespace HF
open PySem PySem.Spec L2
open PyProof.Rows hiding St
/-- a state -/
structure StOk (n q : Nat) (s : List Int) : Prop where
  len : s.length = n
  hue : ∀ x ∈ s, 0 ≤ x ∧ x < (q : Int)
section
variable {n q : Nat} {P : List (Int × Int)} {h : HouseD} {s : List Int}
theorem is_state_ok (hn : n ≤ 1000) (hh : HouseOk n q P h) (hs : StOk n q s) : m_is_state h s = some true := by
  have hz : x_comp (fun _ => some true) (fun y : Int => andM true (andM (decide (0 ≤ y)) (some (decide (y < h.hues))))) s = some (s.map fun y => decide (0 ≤ y) && decide (y < h.hues)) :=
    x_comp_map _ (by rw [hs.len]; omega) fun y _ => by rw [andM_some, andM_some]; rfl
  unfold m_is_state
  simp only [bs, is_integer_eq, hz]
  rw [hh.count, hs.len]
  have e : orM (!true) (some (!decide ((n : Int) = (n : Int)))) = some false := by simp [orM]
  rw [e, bs, if_neg Bool.false_ne_true]
  congr 1
  rw [List.all_eq_true]
  intro b hb
  obtain ⟨x, hx, rfl⟩ := List.mem_map.mp hb
  have := hs.hue x hx
  rw [hh.hues]
  simp
  omega
theorem need_ok (hn : n ≤ 1000) (hh : HouseOk n q P h) (hs : StOk n q s) : m_need_state h s = some () := by
  unfold m_need_state
  simp only [bs]
  rw [is_state_ok hn hh hs]
  simp only [bs]
  rfl
theorem st_ix {s : List Int} (hs : StOk n q s) {l : Int} (h0 : 0 ≤ l) (h1 : l < n) : x_ix s l = some (s.getD l.toNat 0) := by
  refine x_ix_get h0 ?_
  have := hs.len
  rw [List.getD_eq_getElem?_getD, List.getElem?_eq_getElem (by omega), Option.getD_some]
theorem getD_ok {s : List Int} (hs : StOk n q s) {l : Int} (h0 : 0 ≤ l) (h1 : l < n) : 0 ≤ s.getD l.toNat 0 ∧ s.getD l.toNat 0 < (q : Int) := by
  have := hs.len
  rw [List.getD_eq_getElem?_getD, List.getElem?_eq_getElem (by omega), Option.getD_some]
  exact hs.hue _ (List.getElem_mem _)
theorem getD_nn {s : List Int} (hs : StOk n q s) (l : Int) : 0 ≤ s.getD l.toNat 0 := by
  rw [List.getD_eq_getElem?_getD]
  cases e : s[l.toNat]? with
  | none => simp
  | some v => exact (hs.hue v (List.mem_of_getElem? e)).1
theorem getD_bound {b : Nat} (hs : ∀ x ∈ s, x.natAbs ≤ b) (x : Int) : (s.getD x.toNat 0).natAbs ≤ b := by
  rw [List.getD_eq_getElem?_getD]
  cases e : s[x.toNat]? with
  | none => simp
  | some v => exact hs v (List.mem_of_getElem? e)
end
end HF

set_option Elab.async false
set_option linter.all false
set_option maxRecDepth 100000
set_option maxHeartbeats 1000000
/-! MathK1: the order list. -/
namespace HF
open PySem PySem.Spec L2
open PyProof.Rows hiding St
section
variable {n : Nat} {P : List (Int × Int)}
theorem gr_perm {n : Nat} {up : Int → List Int} {rk : Int → Nat} (hup : ∀ x y, y ∈ up x → (0 ≤ y ∧ y < n) ∧ rk y < rk x) : (gr n up n).Perm (rangeL 0 n) := by
  refine (List.perm_ext_iff_of_nodup (gr_nodup n) nodup_rangeL).mpr fun x => ⟨fun hx => mem_rangeL.mpr (gr_mem n x hx), fun hx => Classical.byContradiction fun hn => ?_⟩
  have := nodup_len (l := x :: gr n up n) (m := rangeL 0 n) (List.nodup_cons.mpr ⟨hn, gr_nodup n⟩) fun y hy => by
    rcases List.mem_cons.mp hy with rfl | hy
    · exact hx
    · exact mem_rangeL.mpr (gr_mem n y hy)
  rw [List.length_cons, gr_len hup n (Nat.le_refl _), length_rangeL] at this
  omega
theorem up_ok {rk : Int → Nat} (hP : GoodW n rk P) : ∀ x y, y ∈ aboveL n P x → (0 ≤ y ∧ y < (n : Int)) ∧ rk y < rk x := fun x y hy => by
  have := hP.dn (fun _ m => m) ((mem_aboveL hP).mp hy)
  omega
end
/-- an order list: nothing later lies above, and it is transitive -/
structure Lin (lt : Int → Int → Bool) (L : List Int) : Prop where
  later : L.Pairwise fun x y => lt y x = false
  irr : ∀ x, lt x x = false
  tr : ∀ x y z, lt x y = true → lt y z = true → lt x z = true
theorem Lin.tail {lt : Int → Int → Bool} {x : Int} {L : List Int} (h : Lin lt (x :: L)) : Lin lt L := ⟨(List.pairwise_cons.mp h.later).2, h.irr, h.tr⟩
section
variable {n q : Nat} {P : List (Int × Int)} {rk : Int → Nat}
theorem ord_lin (hP : GoodW n rk P) : Lin (dnB P) (gr n (aboveL n P) n) := by
  have hup := up_ok hP
  refine ⟨?_, fun x => ?_, fun x y z h1 h2 => dnB_iff.mpr ((dnB_iff.mp h1).trans (dnB_iff.mp h2))⟩
  · have key : ∀ k, k ≤ n → (gr n (aboveL n P) k).Pairwise (fun x y => dnB P y x = false) ∧ ∀ x ∈ gr n (aboveL n P) k, ∀ y, Dn P y x → y ∈ gr n (aboveL n P) k := fun k => by
      induction k with
      | zero => intro _; exact ⟨List.Pairwise.nil, fun x hx => by cases hx⟩
      | succ k ih =>
        intro hk
        obtain ⟨h1, h2⟩ := ih (by omega)
        obtain ⟨x, r, e⟩ := gr_next hup (ls := gr n (aboveL n P) k) (by rw [gr_len hup k (by omega)]; omega)
        have hxm : x ∈ (rangeL 0 n).filter fun x => !decide (x ∈ gr n (aboveL n P) k) && (aboveL n P x).all fun y => decide (y ∈ gr n (aboveL n P) k) := by rw [e]; exact List.mem_cons_self ..
        obtain ⟨_, hb⟩ := List.mem_filter.mp hxm
        rw [Bool.and_eq_true, List.all_eq_true] at hb
        have hnx : x ∉ gr n (aboveL n P) k := by simpa using hb.1
        have hab : ∀ y, Dn P y x → y ∈ gr n (aboveL n P) k := fun y hy => of_decide_eq_true (hb.2 y ((mem_aboveL hP).mpr hy))
        have eg : gr n (aboveL n P) (k + 1) = gr n (aboveL n P) k ++ [x] := by
          show gr n (aboveL n P) k ++ _ = _
          rw [e]
          rfl
        rw [eg]
        refine ⟨List.pairwise_append.mpr ⟨h1, List.pairwise_singleton _ _, fun a ha b hb => ?_⟩, fun a ha y hy => ?_⟩
        · have : b = x := by simpa using hb
          subst this
          cases hd : dnB P b a with
          | false => rfl
          | true => exact absurd (h2 a ha b (dnB_iff.mp hd)) hnx
        · rcases List.mem_append.mp ha with ha | ha
          · exact List.mem_append_left _ (h2 a ha y hy)
          · have : a = x := by simpa using ha
            subst this
            exact List.mem_append_left _ (hab y hy)
    exact (key n (Nat.le_refl _)).1
  · cases hd : dnB P x x with
    | false => rfl
    | true => have := (hP.dn (fun _ m => m) (dnB_iff.mp hd)).1; omega
theorem gr_length (hP : GoodW n rk P) : (gr n (aboveL n P) n).length = n := gr_len (up_ok hP) n (Nat.le_refl _)
end
end HF

set_option Elab.async false
set_option linter.all false
set_option maxRecDepth 100000
set_option maxHeartbeats 1000000
/-! MathS: moves, greatest counts, worths; plain. -/
namespace HF
open PySem PySem.Spec L2
open PyProof.Rows hiding St
abbrev ht (s : List Int) (l : Int) : Int := s.getD l.toNat 0
/-! ### sums -/
theorem ss_filter {α : Type} (p : α → Bool) (g : α → Int) (xs : List α) : ((xs.filter p).map g).sum = (xs.map fun x => if p x = true then g x else 0).sum := by
  induction xs with
  | nil => rfl
  | cons x xs ih =>
    rw [List.filter_cons, List.map_cons, List.sum_cons]
    cases h : p x with
    | true => rw [if_pos rfl, if_pos rfl, List.map_cons, List.sum_cons, ih]
    | false => rw [if_neg Bool.false_ne_true, if_neg Bool.false_ne_true, ih]; omega
theorem ss_mul {α : Type} (c : Int) (g : α → Int) (xs : List α) : (xs.map fun x => c * g x).sum = c * (xs.map g).sum := by
  induction xs with
  | nil => simp
  | cons x xs ih => rw [List.map_cons, List.sum_cons, ih, List.map_cons, List.sum_cons]; grind
theorem ss_add {α : Type} (f g : α → Int) (xs : List α) : (xs.map fun x => f x + g x).sum = (xs.map f).sum + (xs.map g).sum := by
  induction xs with
  | nil => simp
  | cons x xs ih => rw [List.map_cons, List.sum_cons, ih, List.map_cons, List.sum_cons, List.map_cons, List.sum_cons]; omega
theorem ss_zero {α : Type} {g : α → Int} {xs : List α} (h : ∀ x ∈ xs, g x = 0) : (xs.map g).sum = 0 := by
  induction xs with
  | nil => rfl
  | cons x xs ih => rw [List.map_cons, List.sum_cons, h x (List.mem_cons_self ..), ih fun y m => h y (List.mem_cons_of_mem _ m)]; rfl
theorem ss_nn {α : Type} {g : α → Int} {xs : List α} (h : ∀ x ∈ xs, 0 ≤ g x) : 0 ≤ (xs.map g).sum := by
  induction xs with
  | nil => exact Int.le_refl 0
  | cons x xs ih =>
    rw [List.map_cons, List.sum_cons]
    have h1 := h x (List.mem_cons_self ..)
    have h2 := ih fun y m => h y (List.mem_cons_of_mem _ m)
    omega
theorem ss_ge {α : Type} {g : α → Int} {xs : List α} (h : ∀ x ∈ xs, 0 ≤ g x) {a : α} (ha : a ∈ xs) : g a ≤ (xs.map g).sum := by
  induction xs with
  | nil => cases ha
  | cons x xs ih =>
    rw [List.map_cons, List.sum_cons]
    have h1 := h x (List.mem_cons_self ..)
    have h2 : ∀ y ∈ xs, 0 ≤ g y := fun y m => h y (List.mem_cons_of_mem _ m)
    rcases List.mem_cons.mp ha with rfl | ha
    · have := ss_nn h2
      omega
    · have := ih h2 ha
      omega
theorem ss_one {a : Int} {xs : List Int} (nd : xs.Nodup) : (xs.map fun x => if x = a then (1 : Int) else 0).sum = if a ∈ xs then 1 else 0 := by
  induction xs with
  | nil => simp
  | cons x xs ih =>
    obtain ⟨h1, h2⟩ := List.nodup_cons.mp nd
    rw [List.map_cons, List.sum_cons, ih h2]
    by_cases e : x = a
    · subst e
      simp [h1]
    · have e' : ¬ a = x := fun q => e q.symm
      simp [e, e']
theorem ss_sub1 {a : Int} {g : Int → Int} {xs : List Int} (nd : xs.Nodup) : (xs.map fun x => g x - if x = a then 1 else 0).sum = (xs.map g).sum - if a ∈ xs then 1 else 0 := by
  have h := ss_add (fun x => g x - if x = a then (1 : Int) else 0) (fun x => if x = a then (1 : Int) else 0) xs
  rw [ss_one nd] at h
  have e : (xs.map fun x => (g x - if x = a then (1 : Int) else 0) + if x = a then (1 : Int) else 0) = xs.map g := List.map_congr_left fun x _ => by omega
  rw [e] at h
  omega
theorem min_of (f : Int → Nat) (p : Int → Prop) : ∀ n : Nat, (∃ l : Int, (0 ≤ l ∧ l < n) ∧ p l) → ∃ l : Int, ((0 ≤ l ∧ l < n) ∧ p l) ∧ ∀ m : Int, 0 ≤ m → m < n → p m → f l ≤ f m
  | 0, ⟨l, h, _⟩ => by omega
  | n + 1, ⟨l, h, hp⟩ => by
    by_cases hex : ∃ l : Int, (0 ≤ l ∧ l < n) ∧ p l
    · obtain ⟨a, ha, hm⟩ := min_of f p n hex
      by_cases hn : p (n : Int) ∧ f (n : Int) < f a
      · refine ⟨(n : Int), ⟨by omega, hn.1⟩, fun m m0 m1 pm => ?_⟩
        by_cases e : m = (n : Int)
        · rw [e]; omega
        · have := hm m m0 (by omega) pm
          omega
      · refine ⟨a, ⟨by omega, ha.2⟩, fun m m0 m1 pm => ?_⟩
        by_cases e : m = (n : Int)
        · subst e
          have : ¬ f (n : Int) < f a := fun q => hn ⟨pm, q⟩
          omega
        · exact hm m m0 (by omega) pm
    · have e : l = (n : Int) := Classical.byContradiction fun ne => hex ⟨l, by omega, hp⟩
      refine ⟨l, ⟨h, hp⟩, fun m m0 m1 pm => ?_⟩
      have : m = (n : Int) := Classical.byContradiction fun ne => hex ⟨m, by omega, pm⟩
      rw [e, this]
      exact Nat.le_refl _
theorem max_of (f : Int → Nat) (p : Int → Prop) : ∀ n : Nat, (∃ l : Int, (0 ≤ l ∧ l < n) ∧ p l) → ∃ l : Int, ((0 ≤ l ∧ l < n) ∧ p l) ∧ ∀ m : Int, 0 ≤ m → m < n → p m → f m ≤ f l
  | 0, ⟨l, h, _⟩ => by omega
  | n + 1, ⟨l, h, hp⟩ => by
    by_cases hex : ∃ l : Int, (0 ≤ l ∧ l < n) ∧ p l
    · obtain ⟨a, ha, hm⟩ := max_of f p n hex
      by_cases hn : p (n : Int) ∧ f a < f (n : Int)
      · refine ⟨(n : Int), ⟨by omega, hn.1⟩, fun m m0 m1 pm => ?_⟩
        by_cases e : m = (n : Int)
        · rw [e]; omega
        · have := hm m m0 (by omega) pm
          omega
      · refine ⟨a, ⟨by omega, ha.2⟩, fun m m0 m1 pm => ?_⟩
        by_cases e : m = (n : Int)
        · subst e
          have : ¬ f a < f (n : Int) := fun q => hn ⟨pm, q⟩
          omega
        · exact hm m m0 (by omega) pm
    · have e : l = (n : Int) := Classical.byContradiction fun ne => hex ⟨l, by omega, hp⟩
      refine ⟨l, ⟨h, hp⟩, fun m m0 m1 pm => ?_⟩
      have : m = (n : Int) := Classical.byContradiction fun ne => hex ⟨m, by omega, pm⟩
      rw [e, this]
      exact Nat.le_refl _
section
variable {n q : Nat} {P : List (Int × Int)} {rk : Int → Nat}
theorem ht_map {f : Int → Int} {l : Int} (h0 : 0 ≤ l) (h1 : l < n) : ht ((rangeL 0 n).map f) l = f l := by
  unfold ht rangeL
  rw [List.getD_eq_getElem?_getD, List.getElem?_map, List.getElem?_map, List.getElem?_range (by omega)]
  simp
  congr 1
  omega
theorem st_ext {s t : List Int} (hs : s.length = n) (hr : t.length = n) (h : ∀ l : Int, 0 ≤ l → l < n → ht s l = ht t l) : s = t := by
  refine List.ext_getElem (by rw [hs, hr]) fun i h1 h2 => ?_
  have := h (i : Int) (by omega) (by omega)
  rw [ht, ht, Int.toNat_natCast, List.getD_eq_getElem?_getD, List.getD_eq_getElem?_getD, List.getElem?_eq_getElem h1, List.getElem?_eq_getElem h2] at this
  exact this
theorem ht_eq_map {s : List Int} (hs : s.length = n) : (rangeL 0 n).map (ht s) = s := st_ext (by rw [List.length_map, length_rangeL]) hs fun l h0 h1 => ht_map h0 h1
theorem dnB_irr (hP : GoodW n rk P) (l : Int) : dnB P l l = false := by
  cases hd : dnB P l l with
  | false => rfl
  | true => have := (hP.dn (fun _ m => m) (dnB_iff.mp hd)).1; omega
theorem above_nd (l : Int) : (aboveL n P l).Nodup := nodup_rangeL.filter _
theorem below_nd (l : Int) : (belowL n P l).Nodup := nodup_rangeL.filter _
def td (q : Nat) (v : Int) : Int := if 0 < v then v - 1 else (q : Int) - 1
/-- the state after a move -/
noncomputable def mv (n q : Nat) (P : List (Int × Int)) (s : List Int) (l : Int) : List Int := (rangeL 0 n).map fun x => if x = l then ht s x - 1 else if dnB P l x = true then td q (ht s x) else ht s x
theorem ht_mv {s : List Int} {l x : Int} (h0 : 0 ≤ x) (h1 : x < n) : ht (mv n q P s l) x = if x = l then ht s x - 1 else if dnB P l x = true then td q (ht s x) else ht s x := ht_map h0 h1
theorem mv_len {s : List Int} {l : Int} : (mv n q P s l).length = n := by simp [mv, length_rangeL]
theorem mv_ok {s : List Int} {l : Int} (hs : StOk n q s) (hl : 0 < ht s l) (hq : 1 ≤ q) : StOk n q (mv n q P s l) := by
  refine ⟨mv_len, fun v hv => ?_⟩
  obtain ⟨x, hx, rfl⟩ := List.mem_map.mp hv
  obtain ⟨h0, h1⟩ := mem_rangeL.mp hx
  have b := getD_ok hs h0 h1
  by_cases e : x = l
  · subst e
    rw [if_pos rfl]
    show 0 ≤ ht s x - 1 ∧ ht s x - 1 < _
    have : ht s x < (q : Int) := b.2
    omega
  · rw [if_neg e]
    split
    · unfold td
      split
      · have : ht s x < (q : Int) := b.2
        omega
      · omega
    · exact b
/-- a careful move may be made -/
noncomputable def cfB (n : Nat) (P : List (Int × Int)) (s : List Int) (l : Int) : Bool := decide (0 < ht s l) && (belowL n P l).all fun m => !decide (0 < ht s m)
theorem cfB_iff (hP : GoodW n rk P) {s : List Int} (hs : StOk n q s) {l : Int} : cfB n P s l = true ↔ 0 < ht s l ∧ ∀ m, Dn P l m → ht s m = 0 := by
  unfold cfB
  rw [Bool.and_eq_true, decide_eq_true_eq, List.all_eq_true]
  constructor
  · rintro ⟨h1, h2⟩
    refine ⟨h1, fun m d => ?_⟩
    have := h2 m ((mem_belowL hP).mpr d)
    have nn : 0 ≤ ht s m := getD_nn hs m
    simp only [Bool.not_eq_true', decide_eq_false_iff_not] at this
    omega
  · rintro ⟨h1, h2⟩
    refine ⟨h1, fun m hm => ?_⟩
    rw [h2 m ((mem_belowL hP).mp hm)]
    rfl
/-- the greatest counts -/
def IsG (n q : Nat) (P : List (Int × Int)) (s t : List Int) (g : Int → Int) : Prop := ∀ l : Int, 0 ≤ l → l < n → g l = ht s l - ht t l + ((q : Int) - 1) * ((aboveL n P l).map g).sum
theorem isG_uniq (hP : GoodW n rk P) {s t : List Int} {g g' : Int → Int} (h : IsG n q P s t g) (h' : IsG n q P s t g') : ∀ l : Int, 0 ≤ l → l < n → g l = g' l := by
  have key : ∀ (k : Nat) (l : Int), rk l < k → 0 ≤ l → l < n → g l = g' l := fun k => by
    induction k with
    | zero => intro l h; omega
    | succ k ih =>
      intro l hk h0 h1
      rw [h l h0 h1, h' l h0 h1]
      congr 3
      refine List.map_congr_left fun u hu => ?_
      have := hP.dn (fun _ m => m) ((mem_aboveL hP).mp hu)
      exact ih u (by omega) this.2.1 this.2.2.1
  exact fun l => key (rk l + 1) l (by omega)
theorem isG_move (hP : GoodW n rk P) {s t : List Int} {g : Int → Int} (hs : StOk n q s) (h : IsG n q P s t g) {l : Int} (hc : cfB n P s l = true) : IsG n q P (mv n q P s l) t (fun x => g x - if x = l then 1 else 0) := fun x h0 h1 => by
  obtain ⟨hl, hd⟩ := (cfB_iff hP hs).mp hc
  show g x - _ = _
  rw [ht_mv h0 h1, ss_sub1 (above_nd x), h x h0 h1]
  by_cases e : x = l
  · subst e
    have : x ∉ aboveL n P x := fun m => by
      have := (mem_aboveL hP).mp m
      rw [← dnB_iff, dnB_irr hP] at this
      cases this
    rw [if_pos rfl, if_pos rfl, if_neg this]
    grind
  · rw [if_neg e, if_neg e]
    by_cases d : dnB P l x = true
    · have m : l ∈ aboveL n P x := (mem_aboveL hP).mpr (dnB_iff.mp d)
      have z : ht s x = 0 := hd x (dnB_iff.mp d)
      rw [if_pos d, if_pos m, z]
      unfold td
      rw [if_neg (by decide)]
      grind
    · have m : l ∉ aboveL n P x := fun m => d (dnB_iff.mpr ((mem_aboveL hP).mp m))
      rw [if_neg d, if_neg m]
      grind
/-- the same, backwards -/
theorem isG_back (hP : GoodW n rk P) {s t : List Int} {g : Int → Int} (hs : StOk n q s) {l : Int} (hc : cfB n P s l = true) (h : IsG n q P (mv n q P s l) t g) : IsG n q P s t (fun x => g x + if x = l then 1 else 0) := fun x h0 h1 => by
  obtain ⟨hl, hd⟩ := (cfB_iff hP hs).mp hc
  have e1 : ((aboveL n P x).map fun y => g y + if y = l then (1 : Int) else 0).sum = ((aboveL n P x).map g).sum + if l ∈ aboveL n P x then 1 else 0 := by
    rw [ss_add, ss_one (above_nd x)]
  have hx := h x h0 h1
  rw [ht_mv h0 h1] at hx
  show g x + _ = _
  rw [e1, hx]
  by_cases e : x = l
  · subst e
    have : x ∉ aboveL n P x := fun m => by
      have := (mem_aboveL hP).mp m
      rw [← dnB_iff, dnB_irr hP] at this
      cases this
    rw [if_pos rfl, if_pos rfl, if_neg this]
    grind
  · rw [if_neg e, if_neg e]
    by_cases d : dnB P l x = true
    · have m : l ∈ aboveL n P x := (mem_aboveL hP).mpr (dnB_iff.mp d)
      have z : ht s x = 0 := hd x (dnB_iff.mp d)
      rw [if_pos d, if_pos m, z]
      unfold td
      rw [if_neg (by decide)]
      grind
    · have m : l ∉ aboveL n P x := fun m => d (dnB_iff.mpr ((mem_aboveL hP).mp m))
      rw [if_neg d, if_neg m]
      grind
theorem isG_self {s : List Int} : IsG n q P s s (fun _ => 0) := fun l _ _ => by
  rw [ss_zero fun _ _ => rfl]
  grind
theorem isG_zero {s t : List Int} {g : Int → Int} (hP : GoodW n rk P) (h : IsG n q P s t g) (z : ∀ l : Int, 0 ≤ l → l < n → g l = 0) : ∀ l : Int, 0 ≤ l → l < n → ht s l = ht t l := fun l h0 h1 => by
  have := h l h0 h1
  rw [z l h0 h1, ss_zero fun u hu => by
    have := hP.dn (fun _ m => m) ((mem_aboveL hP).mp hu)
    exact z u this.2.1 this.2.2.1] at this
  grind
/-- while moves are left one of them may be made -/
theorem ready_ex (hP : GoodW n rk P) {s t : List Int} {g : Int → Int} (hs : StOk n q s) (hr : StOk n q t) (h : IsG n q P s t g) (nn : ∀ l : Int, 0 ≤ l → l < n → 0 ≤ g l) (ex : ∃ l : Int, (0 ≤ l ∧ l < n) ∧ 0 < g l) : ∃ l : Int, (0 ≤ l ∧ l < n) ∧ 0 < g l ∧ cfB n P s l = true := by
  have up : ∀ {l u : Int}, u ∈ aboveL n P l → rk u < rk l ∧ 0 ≤ u ∧ u < n := fun hu => by
    have := hP.dn (fun _ m => m) ((mem_aboveL hP).mp hu)
    exact ⟨this.1, this.2.1, this.2.2.1⟩
  obtain ⟨a, ⟨ha, ga⟩, amin⟩ := min_of rk (fun l => 0 < g l) n ex
  have la : 0 < ht s a := by
    have := h a ha.1 ha.2
    rw [ss_zero fun u hu => by
      obtain ⟨r, u0, u1⟩ := up hu
      have n0 := nn u u0 u1
      by_cases z : 0 < g u
      · have := amin u u0 u1 z
        omega
      · omega] at this
    have t0 : 0 ≤ ht t a := getD_nn hr a
    grind
  obtain ⟨b, ⟨hb, gb, lb⟩, bmax⟩ := max_of rk (fun l => 0 < g l ∧ 0 < ht s l) n ⟨a, ha, ga, la⟩
  refine ⟨b, hb, gb, (cfB_iff hP hs).mpr ⟨lb, fun m d => ?_⟩⟩
  have dm := hP.dn (fun _ m => m) d
  have m0 : 0 ≤ ht s m := getD_nn hs m
  refine Classical.byContradiction fun ne => ?_
  have lm : 0 < ht s m := by omega
  have gm : g m = 0 := by
    have n0 := nn m dm.2.2.2.1 dm.2.2.2.2
    by_cases z : 0 < g m
    · have := bmax m dm.2.2.2.1 dm.2.2.2.2 ⟨z, lm⟩
      omega
    · omega
  have e := h m dm.2.2.2.1 dm.2.2.2.2
  have hS : g b ≤ ((aboveL n P m).map g).sum := ss_ge (fun u hu => by
    obtain ⟨_, u0, u1⟩ := up hu
    exact nn u u0 u1) ((mem_aboveL hP).mpr d)
  have tm : ht t m < (q : Int) := (getD_ok hr dm.2.2.2.1 dm.2.2.2.2).2
  have q1 : (1 : Int) ≤ (q : Int) := by
    have : ht s m < (q : Int) := (getD_ok hs dm.2.2.2.1 dm.2.2.2.2).2
    omega
  have hm : ((q : Int) - 1) * 1 ≤ ((q : Int) - 1) * ((aboveL n P m).map g).sum := Int.mul_le_mul_of_nonneg_left (by omega) (by omega)
  rw [gm] at e
  omega
/-! ### worths -/
def IsW (n q : Nat) (P : List (Int × Int)) (w : Int → Int) : Prop := ∀ l : Int, 0 ≤ l → l < n → w l = 1 + ((q : Int) - 1) * ((belowL n P l).map w).sum
theorem isW_uniq (hP : GoodW n rk P) {w w' : Int → Int} (h : IsW n q P w) (h' : IsW n q P w') : ∀ l : Int, 0 ≤ l → l < n → w l = w' l := by
  obtain ⟨B, hB⟩ : ∃ B : Nat, ∀ l : Int, 0 ≤ l → l < n → rk l ≤ B := by
    by_cases hn : n = 0
    · exact ⟨0, fun l h0 h1 => by omega⟩
    · obtain ⟨b, _, hb⟩ := max_of rk (fun _ => True) n ⟨0, by omega, True.intro⟩
      exact ⟨rk b, fun l h0 h1 => hb l h0 h1 True.intro⟩
  have key : ∀ (k : Nat) (l : Int), B - rk l < k → 0 ≤ l → l < n → w l = w' l := fun k => by
    induction k with
    | zero => intro l h; omega
    | succ k ih =>
      intro l hk h0 h1
      rw [h l h0 h1, h' l h0 h1]
      congr 3
      refine List.map_congr_left fun u hu => ?_
      have := hP.dn (fun _ m => m) ((mem_belowL hP).mp hu)
      have := hB u this.2.2.2.1 this.2.2.2.2
      exact ih u (by omega) (by omega) (by omega)
  exact fun l h0 h1 => key (B - rk l + 1) l (by omega) h0 h1
def wo (n : Nat) (w : Int → Int) (s : List Int) : Int := ((rangeL 0 n).map fun x => ht s x * w x).sum
theorem worth_move (hP : GoodW n rk P) {w : Int → Int} (hw : IsW n q P w) {s : List Int} (hs : StOk n q s) {l : Int} (h0 : 0 ≤ l) (h1 : l < n) (hc : cfB n P s l = true) : wo n w (mv n q P s l) = wo n w s - 1 := by
  obtain ⟨hl, hd⟩ := (cfB_iff hP hs).mp hc
  have e : ((rangeL 0 n).map fun x => ht (mv n q P s l) x * w x) = (rangeL 0 n).map fun x => ht s x * w x + ((if dnB P l x = true then ((q : Int) - 1) * w x else 0) + (- w l) * (if x = l then 1 else 0)) := List.map_congr_left fun x hx => by
    obtain ⟨x0, x1⟩ := mem_rangeL.mp hx
    rw [ht_mv x0 x1]
    by_cases e : x = l
    · subst e
      rw [if_pos rfl, if_pos rfl, dnB_irr hP, if_neg Bool.false_ne_true]
      grind
    · rw [if_neg e, if_neg e]
      by_cases d : dnB P l x = true
      · have z : ht s x = 0 := hd x (dnB_iff.mp d)
        rw [if_pos d, if_pos d, z]
        unfold td
        rw [if_neg (by decide)]
        grind
      · rw [if_neg d, if_neg d]
        grind
  unfold wo
  rw [e, ss_add, ss_add, ss_mul, ss_one nodup_rangeL, if_pos (mem_rangeL.mpr ⟨h0, h1⟩), ← ss_filter (fun x => dnB P l x) (fun x => ((q : Int) - 1) * w x), ss_mul]
  have := hw l h0 h1
  show _ + (((q : Int) - 1) * ((belowL n P l).map w).sum + _) = _
  omega
/-- different lamps lead to different states -/
theorem mv_inj (hP : GoodW n rk P) {s : List Int} {l m : Int} (hl : (0 ≤ l ∧ l < n) ∧ 0 < ht s l) (hm : (0 ≤ m ∧ m < n) ∧ 0 < ht s m) (e : mv n q P s l = mv n q P s m) : l = m := by
  refine Classical.byContradiction fun ne => ?_
  have ne' : ¬ m = l := fun q => ne q.symm
  have a1 := congrArg (fun z => ht z l) e
  have a2 := congrArg (fun z => ht z m) e
  rw [ht_mv hl.1.1 hl.1.2, ht_mv hl.1.1 hl.1.2, if_pos rfl, if_neg ne] at a1
  rw [ht_mv hm.1.1 hm.1.2, ht_mv hm.1.1 hm.1.2, if_pos rfl, if_neg ne'] at a2
  by_cases d : dnB P m l = true
  · have d2 : ¬ dnB P l m = true := fun d2 => by
      have := (hP.dn (fun _ m => m) (dnB_iff.mp d)).1
      have := (hP.dn (fun _ m => m) (dnB_iff.mp d2)).1
      omega
    rw [if_neg d2] at a2
    omega
  · rw [if_neg d] at a1
    omega
end
end HF

set_option Elab.async false
set_option linter.all false
set_option maxRecDepth 100000
set_option maxHeartbeats 1000000
/-! MathT: the program's moves. -/
namespace HF
open PySem PySem.Spec L2
open PyProof.Rows hiding St
theorem set_map {n : Nat} {f : Int → Int} {a y : Int} (h0 : 0 ≤ a) (h1 : a < n) : x_set ((rangeL 0 n).map f) a y = some ((rangeL 0 n).map fun x => if x = a then y else f x) := by
  have hl : ((rangeL 0 n).map f).length = n := by rw [List.length_map, length_rangeL]
  rw [x_set_nat h0 (by rw [hl]; exact h1)]
  congr 1
  refine st_ext (n := n) (by rw [List.length_set, hl]) (by rw [List.length_map, length_rangeL]) fun l l0 l1 => ?_
  rw [ht_map l0 l1]
  unfold ht
  rw [List.getD_eq_getElem?_getD]
  by_cases e : l = a
  · subst e
    rw [List.getElem?_set_self (by omega), if_pos rfl]
    rfl
  · rw [List.getElem?_set_ne (by omega), if_neg e]
    have := ht_map (n := n) (f := f) l0 l1
    unfold ht at this
    rw [List.getD_eq_getElem?_getD] at this
    exact this
theorem set_ht {n : Nat} {c : List Int} {a y : Int} (hc : c.length = n) (h0 : 0 ≤ a) (h1 : a < n) : ∃ c', x_set c a y = some c' ∧ c'.length = n ∧ ∀ l : Int, 0 ≤ l → ht c' l = if l = a then y else ht c l := by
  refine ⟨c.set a.toNat y, x_set_nat h0 (by rw [hc]; exact h1), by rw [List.length_set]; exact hc, fun l l0 => ?_⟩
  unfold ht
  rw [List.getD_eq_getElem?_getD, List.getD_eq_getElem?_getD]
  by_cases e : l = a
  · subst e
    rw [List.getElem?_set_self (by omega), if_pos rfl]
    rfl
  · rw [List.getElem?_set_ne (by omega), if_neg e]
theorem ix_ht {n : Nat} {c : List Int} (hc : c.length = n) {l : Int} (h0 : 0 ≤ l) (h1 : l < n) : x_ix c l = some (ht c l) := by
  refine x_ix_get h0 ?_
  rw [ht, List.getD_eq_getElem?_getD, List.getElem?_eq_getElem (by omega), Option.getD_some]
section
variable {n q : Nat} {P : List (Int × Int)} {h : HouseD} {rk : Int → Nat} {s : List Int} {l : Int}
theorem mem_below (hP : GoodW n rk P) {m : Int} (hm : m ∈ belowL n P l) : (0 ≤ m ∧ m < n) ∧ Dn P l m := by
  have d := (mem_belowL hP).mp hm
  have := hP.dn (fun _ m => m) d
  exact ⟨⟨this.2.2.2.1, this.2.2.2.2⟩, d⟩
theorem mem_above (hP : GoodW n rk P) {m : Int} (hm : m ∈ aboveL n P l) : (0 ≤ m ∧ m < n) ∧ Dn P m l := by
  have d := (mem_aboveL hP).mp hm
  have := hP.dn (fun _ m => m) d
  exact ⟨⟨this.2.1, this.2.2.1⟩, d⟩
theorem below_le : (belowL n P l).length ≤ n := by
  unfold belowL
  exact Nat.le_trans (List.length_filter_le _ _) (by rw [length_rangeL]; omega)
theorem above_le : (aboveL n P l).length ≤ n := by
  unfold aboveL
  exact Nat.le_trans (List.length_filter_le _ _) (by rw [length_rangeL]; omega)
theorem below_bits (hn : n ≤ 1000) (hh : HouseOk n q P h) (h0 : 0 ≤ l) (h1 : l < n) : (((m_below_masks h).bind fun z => x_ix z l).bind fun a => m_bits a) = some (belowL n P l) := by
  obtain ⟨m, e, lm, bm⟩ := hh.belowM.ix h0 h1
  unfold m_below_masks
  simp only [bs]
  rw [e, bs, bits_eq hn lm, mask_list bm (p := fun v => dnB P l v) fun v => dnB_iff]
  rfl
theorem above_bits (hn : n ≤ 1000) (hh : HouseOk n q P h) (h0 : 0 ≤ l) (h1 : l < n) : (((m_above_masks h).bind fun z => x_ix z l).bind fun a => m_bits a) = some (aboveL n P l) := by
  obtain ⟨m, e, lm, bm⟩ := hh.aboveM.ix h0 h1
  unfold m_above_masks
  simp only [bs]
  rw [e, bs, bits_eq hn lm, mask_list bm (p := fun v => dnB P v l) fun v => dnB_iff]
  rfl
theorem lit_ok (hn : n ≤ 1000) (hP : GoodW n rk P) (hh : HouseOk n q P h) (hs : StOk n q s) (h0 : 0 ≤ l) (h1 : l < n) : m_lit_beneath h s l = some ((belowL n P l).find? fun m => decide (0 < ht s m)) := by
  unfold m_lit_beneath
  simp only [bs]
  rw [below_bits hn hh h0 h1, bs, forK_find (fun m => decide (0 < ht s m)) (fun m => some (some m)) fun m kn kb hm => ?_]
  · cases (belowL n P l).find? fun m => decide (0 < ht s m) <;> rfl
  · have := (mem_below hP hm).1
    rw [st_ix hs this.1 this.2, bs, bs]
theorem find_all {α : Type} (p : α → Bool) (xs : List α) : (xs.find? p).isNone = xs.all fun x => !p x := by
  induction xs with
  | nil => rfl
  | cons x xs ih =>
    rw [List.find?_cons, List.all_cons]
    cases p x with
    | true => rfl
    | false => simpa using ih
theorem moved_ok (hn : n ≤ 1000) (hP : GoodW n rk P) (hh : HouseOk n q P h) (hs : StOk n q s) (h0 : 0 ≤ l) (h1 : l < n) : m_moved h s l = some (mv n q P s l) := by
  refine Ok.of ?_
  unfold m_moved
  simp only [bs]
  rw [st_ix hs h0 h1, bs, bs]
  have es : s = (rangeL 0 n).map (ht s) := (ht_eq_map hs.len).symm
  have e1 : x_set s l (s.getD l.toNat 0 - 1) = some ((rangeL 0 n).map fun x => if x = l then ht s l - 1 else ht s x) := by
    conv => lhs; rw [es]
    rw [set_map h0 h1, ← es]
  rw [e1, bs, below_bits hn hh h0 h1, bs]
  refine Ok.fold (fun p r => r = (rangeL 0 n).map fun x => if x = l then ht s x - 1 else if x ∈ p then td q (ht s x) else ht s x) ?_ ?_ ?_
  · refine List.map_congr_left fun x _ => ?_
    by_cases e : x = l
    · rw [if_pos e, if_pos e, e]
    · rw [if_neg e, if_neg e, if_neg (by simp)]
  · rintro p x r b e rfl
    have hx : x ∈ belowL n P l := by rw [e]; simp
    obtain ⟨⟨x0, x1⟩, d⟩ := mem_below hP hx
    have ne : x ≠ l := fun q => by
      subst q
      have := dnB_irr hP x
      rw [dnB_iff.mpr d] at this
      cases this
    rw [st_ix hs x0 x1, bs, bs]
    have ht1 : m_turned_down (s.getD x.toNat 0) h.hues = some (td q (ht s x)) := by
      unfold m_turned_down td
      simp only [bs, hh.hues]
      by_cases c : 0 < s.getD x.toNat 0
      · rw [if_pos (decide_eq_true c), if_pos c]
      · rw [if_neg (fun q => c (of_decide_eq_true q)), if_neg c]
    rw [ht1, bs, set_map x0 x1, bs]
    refine Ok.pure (List.map_congr_left fun y _ => ?_)
    by_cases e1 : y = x
    · subst e1
      rw [if_pos rfl, if_neg ne, if_pos (by simp)]
    · rw [if_neg e1]
      have : (y ∈ p ++ [x]) ↔ y ∈ p := by simp [e1]
      simp only [this]
  · rintro b rfl
    refine Ok.pure (List.map_congr_left fun x hx => ?_)
    simp only [mem_belowL hP, ← dnB_iff]
theorem can_ok (hn : n ≤ 1000) (hP : GoodW n rk P) (hh : HouseOk n q P h) (hs : StOk n q s) (h0 : 0 ≤ l) (h1 : l < n) (c : Bool) : m_can_move h s l c = some (decide (0 < ht s l) && (!c || (belowL n P l).all fun m => !decide (0 < ht s m))) := by
  unfold m_can_move
  simp only [bs]
  rw [st_ix hs h0 h1, bs, bs, lit_ok hn hP hh hs h0 h1, bs, find_all]
  have nn := getD_nn hs l
  by_cases e : s.getD l.toNat 0 = 0
  · have : ¬ 0 < ht s l := by show ¬ 0 < s.getD l.toNat 0; omega
    rw [decide_eq_true e, if_pos rfl, decide_eq_false this]
    rfl
  · have : 0 < ht s l := by show 0 < s.getD l.toNat 0; omega
    rw [decide_eq_false e, if_neg Bool.false_ne_true, orM_some, decide_eq_true this]
    rfl
theorem allowed_ok (hn : n ≤ 1000) (hP : GoodW n rk P) (hh : HouseOk n q P h) (hs : StOk n q s) : m_allowed_lamps h s true = some ((rangeL 0 n).filter (cfB n P s)) := by
  unfold m_allowed_lamps
  simp only [bs]
  rw [need_ok hn hh hs, bs, hh.count, x_range_nat (by omega), bs]
  exact x_comp_filter (cfB n P s) (by rw [length_rangeL]; omega) fun x hx => by
    obtain ⟨x0, x1⟩ := mem_rangeL.mp hx
    rw [can_ok hn hP hh hs x0 x1]
    rfl
theorem refuse_ok (hn : n ≤ 1000) (hP : GoodW n rk P) (hh : HouseOk n q P h) (hs : StOk n q s) (h0 : 0 ≤ l) (h1 : l < n) {k : Int} (hc : cfB n P s l = true) : m_refuse h s l k true = some () := by
  unfold m_refuse
  simp only [bs]
  have hc' := hc
  unfold cfB at hc'
  rw [Bool.and_eq_true, decide_eq_true_eq] at hc'
  have hl : ¬ s.getD l.toNat 0 = 0 := by
    have : 0 < s.getD l.toNat 0 := hc'.1
    omega
  rw [st_ix hs h0 h1, bs, bs, decide_eq_false hl, if_neg Bool.false_ne_true, if_pos True.intro, lit_ok hn hP hh hs h0 h1, bs]
  have := find_all (fun m => decide (0 < ht s m)) (belowL n P l)
  rw [hc'.2, Option.isNone_iff_eq_none] at this
  rw [this]
  rfl
theorem lamp_ok (hh : HouseOk n q P h) (h0 : 0 ≤ l) (h1 : l < n) : m_need_lamp h l = some () := by
  unfold m_need_lamp m_is_lamp
  simp only [bs, is_integer_eq, andM]
  rw [hh.count, decide_eq_true h0, decide_eq_true h1]
  rfl
theorem need_run_ok (hh : HouseOk n q P h) {r : List Int} (hr : ∀ x ∈ r, 0 ≤ x ∧ x < (n : Int)) : m_need_run h r = some () := by
  refine Ok.of ?_
  unfold m_need_run
  simp only [bs]
  refine Ok.foldI (fun _ => True) True.intro (fun x b hx _ => ?_) fun b _ => Ok.pure True.intro
  rw [lamp_ok hh (hr x hx).1 (hr x hx).2, bs]
  exact Ok.pure True.intro
theorem need_states_ok (hn : n ≤ 1000) (hh : HouseOk n q P h) {ss : List (List Int)} (hr : ∀ x ∈ ss, StOk n q x) : m_need_states h ss = some () := by
  refine Ok.of ?_
  unfold m_need_states
  simp only [bs]
  refine Ok.foldI (fun _ => True) True.intro (fun x b hx _ => ?_) fun b _ => Ok.pure True.intro
  rw [need_ok hn hh (hr x hx), bs]
  exact Ok.pure True.intro
/-- the states along a run -/
noncomputable def along' (n q : Nat) (P : List (Int × Int)) : List Int → List Int → List (List Int)
  | s, [] => [s]
  | s, l :: r => s :: along' n q P (mv n q P s l) r
/-- each of its moves is careful -/
def Careful (n q : Nat) (P : List (Int × Int)) : List Int → List Int → Prop
  | _, [] => True
  | s, l :: r => (0 ≤ l ∧ l < (n : Int)) ∧ cfB n P s l = true ∧ Careful n q P (mv n q P s l) r
theorem cf_lit (hc : cfB n P s l = true) : 0 < ht s l := by
  unfold cfB at hc
  rw [Bool.and_eq_true, decide_eq_true_eq] at hc
  exact hc.1
theorem states_go {f : List Int × List (List Int) → Int × Int → Option (List Int × List (List Int))} (hq : 1 ≤ q) (hf : ∀ s a k l, StOk n q s → (0 ≤ l ∧ l < (n : Int)) → cfB n P s l = true → a.length < 16777216 → f (s, a) (k, l) = some (mv n q P s l, a ++ [mv n q P s l])) :
    ∀ (r : List Int) (s : List Int) (a : List (List Int)) (xs : List (Int × Int)), xs.map (·.2) = r → StOk n q s → Careful n q P s r → a.length + r.length ≤ 16777216 → ∃ s', foldO f (s, a) xs = some (s', a ++ (along' n q P s r).tail)
  | [], s, a, xs, e, _, _, _ => by
    have : xs = [] := by simpa using e
    subst this
    exact ⟨s, by simp [foldO, along']⟩
  | l :: r, s, a, xs, e, hs, ⟨hl, hc, hr⟩, hlen => by
    cases xs with
    | nil => cases e
    | cons x xs =>
      obtain ⟨k, m⟩ := x
      obtain ⟨e1, e2⟩ := List.cons.inj e
      have e1' : m = l := e1
      subst e1'
      have hm := mv_ok (P := P) hs (cf_lit hc) hq
      simp only [List.length_cons] at hlen
      obtain ⟨s', h'⟩ := states_go hq hf r (mv n q P s m) (a ++ [mv n q P s m]) xs e2 hm hr (by simp; omega)
      refine ⟨s', ?_⟩
      show (f (s, a) (k, m)).bind _ = _
      rw [hf s a k m hs hl hc (by omega), bs, h']
      have : (along' n q P s (m :: r)).tail = along' n q P (mv n q P s m) r := rfl
      rw [this]
      cases r <;> simp [along']
theorem careful_lamps : ∀ {r : List Int} {s : List Int}, Careful n q P s r → ∀ x ∈ r, 0 ≤ x ∧ x < (n : Int)
  | [], _, _, x, hx => by cases hx
  | l :: r, s, ⟨hl, _, hr⟩, x, hx => by
    rcases List.mem_cons.mp hx with rfl | hx
    · exact hl
    · exact careful_lamps hr x hx
theorem states_ok (hn : n ≤ 1000) (hq : 1 ≤ q) (hP : GoodW n rk P) (hh : HouseOk n q P h) (hs : StOk n q s) {r : List Int} (hr : Careful n q P s r) (hl : r.length ≤ 1000) : m_states_along h s r true = some (along' n q P s r) := by
  unfold m_states_along
  simp only [bs]
  rw [need_ok hn hh hs, bs, need_run_ok hh (careful_lamps hr), bs]
  obtain ⟨s', e⟩ := states_go (n := n) (P := P) (f := fun bx y => (m_refuse h bx.fst y.snd y.fst true).bind fun z633 => (m_moved h bx.fst y.snd).bind fun here639 => (x_app bx.snd here639).bind fun found642 => some (here639, found642)) hq (fun s a k l hs hl hc ha => by
    dsimp only
    rw [refuse_ok hn hP hh hs hl.1 hl.2 hc, bs, moved_ok hn hP hh hs hl.1 hl.2, bs, x_app_eq ha, bs]) r s [s] (enumL r) (enumL_snd r) hs hr (by simp; omega)
  rw [e, bs]
  congr 1
  cases r <;> rfl
/-! ### counts -/
theorem load_ok (hn : n ≤ 1000) (hP : GoodW n rk P) (hh : HouseOk n q P h) {c : List Int} (hc : c.length = n) (h0 : 0 ≤ l) (h1 : l < n) : m_load_at h c l = some (((aboveL n P l).map (ht c)).sum) := by
  unfold m_load_at
  simp only [bs]
  rw [above_bits hn hh h0 h1, bs, x_comp_map (ht c) (by have := above_le (n := n) (P := P) (l := l); omega) fun x hx => ?_, bs]
  have := (mem_above hP hx).1
  exact ix_ht hc this.1 this.2
theorem sum_abs {g : Int → Int} {b : Nat} : ∀ {xs : List Int}, (∀ x ∈ xs, (g x).natAbs ≤ b) → (xs.map g).sum.natAbs ≤ xs.length * b
  | [], _ => by simp
  | x :: xs, h => by
    have h1 := h x (List.mem_cons_self ..)
    have h2 := sum_abs (xs := xs) fun y m => h y (List.mem_cons_of_mem _ m)
    rw [List.map_cons, List.sum_cons, List.length_cons, Nat.succ_mul]
    omega
theorem most_ok (hn : 1 ≤ n ∧ n ≤ 16) (hq : 2 ≤ q ∧ q ≤ 10) (hP : GoodW n rk P) (hh : HouseOk n q P h) (hs : StOk n q s) {c : List Int} (hc : c.length = n) (h0 : 0 ≤ l) (h1 : l < n) {k : Nat} (hk : k ≤ 100) (hb : ∀ x : Int, (ht c x).natAbs ≤ 2 ^ (8 * k)) :
    m_most_at h s c l = some (ht s l + ((q : Int) - 1) * ((aboveL n P l).map (ht c)).sum) ∧ (ht s l + ((q : Int) - 1) * ((aboveL n P l).map (ht c)).sum).natAbs ≤ 10 + 144 * 2 ^ (8 * k) := by
  have hS : ((aboveL n P l).map (ht c)).sum.natAbs ≤ 16 * 2 ^ (8 * k) := Nat.le_trans (sum_abs fun x _ => hb x) (Nat.mul_le_mul_right _ (by have := above_le (n := n) (P := P) (l := l); omega))
  have hS2 : ((aboveL n P l).map (ht c)).sum.natAbs ≤ 2 ^ (8 * k + 4) := by rw [Nat.pow_add]; omega
  have hst := getD_ok hs h0 h1
  unfold m_most_at
  simp only [bs]
  rw [st_ix hs h0 h1, bs, load_ok (by omega) hP hh hc h0 h1, bs, hh.hues, x_mul_wide (i := (q : Int) - 1) (a := 4) (by show _ ≤ 16; omega) hS2 (by decide) (by omega), bs]
  refine ⟨rfl, ?_⟩
  have e1 : (((q : Int) - 1) * ((aboveL n P l).map (ht c)).sum).natAbs ≤ 9 * (16 * 2 ^ (8 * k)) := by
    rw [Int.natAbs_mul]
    exact Nat.mul_le_mul (by omega) hS
  have : (ht s l).natAbs ≤ 10 := by show (s.getD l.toNat 0).natAbs ≤ 10; omega
  omega
theorem ht_rep {n : Nat} (x : Int) : ht (List.replicate n 0) x = 0 := by
  unfold ht
  rw [List.getD_eq_getElem?_getD, List.getElem?_replicate]
  split <;> rfl
/-- along the order list -/
theorem order_split {p r : List Int} {x : Int} (hP : GoodW n rk P) (e : gr n (aboveL n P) n = p ++ x :: r) : (0 ≤ x ∧ x < (n : Int)) ∧ (∀ u ∈ aboveL n P x, u ∈ p) ∧ x ∉ p ∧ (∀ u ∈ belowL n P x, u ∈ r) := by
  have hx := gr_mem (n := n) (up := aboveL n P) n x (by rw [e]; simp)
  have hperm := gr_perm (up_ok hP)
  have lin := (ord_lin hP).later
  have nd : (gr n (aboveL n P) n).Nodup := gr_nodup n
  rw [e] at lin nd
  have hnp : x ∉ p := fun m => (List.nodup_append.mp nd).2.2 x m x (List.mem_cons_self ..) rfl
  refine ⟨hx, fun u hu => ?_, hnp, fun u hu => ?_⟩
  · obtain ⟨⟨u0, u1⟩, d⟩ := mem_above hP hu
    have : u ∈ p ++ x :: r := by rw [← e]; exact hperm.mem_iff.mpr (mem_rangeL.mpr ⟨u0, u1⟩)
    rcases List.mem_append.mp this with m | m
    · exact m
    · rcases List.mem_cons.mp m with rfl | m
      · have := dnB_irr hP u
        rw [dnB_iff.mpr d] at this
        cases this
      · have := (List.pairwise_cons.mp (List.pairwise_append.mp lin).2.1).1 u m
        rw [dnB_iff.mpr d] at this
        cases this
  · obtain ⟨⟨u0, u1⟩, d⟩ := mem_below hP hu
    have : u ∈ p ++ x :: r := by rw [← e]; exact hperm.mem_iff.mpr (mem_rangeL.mpr ⟨u0, u1⟩)
    rcases List.mem_append.mp this with m | m
    · have := (List.pairwise_append.mp lin).2.2 u m x (List.mem_cons_self ..)
      rw [dnB_iff.mpr d] at this
      cases this
    · rcases List.mem_cons.mp m with rfl | m
      · have := dnB_irr hP u
        rw [dnB_iff.mpr d] at this
        cases this
      · exact m
theorem pow8 (k : Nat) : 10 + 144 * 2 ^ (8 * k) + 10 ≤ 2 ^ (8 * (k + 1)) := by
  have : 1 ≤ 2 ^ (8 * k) := Nat.one_le_two_pow
  rw [Nat.mul_succ, Nat.pow_add]
  omega
theorem greatest_ok (hn : 1 ≤ n ∧ n ≤ 16) (hq : 2 ≤ q ∧ q ≤ 10) (hP : GoodW n rk P) (hh : HouseOk n q P h) {t : List Int} (hs : StOk n q s) (hr : StOk n q t) : Ok (m_greatest_counts h s t) fun c => c.length = n ∧ IsG n q P s t (ht c) := by
  have ol : (gr n (aboveL n P) n).length = n := gr_len (up_ok hP) n (Nat.le_refl _)
  unfold m_greatest_counts m_House_order
  simp only [bs]
  rw [hh.count, x_range_nat (by omega), bs, x_comp_map (fun _ => (0 : Int)) (by rw [length_rangeL]; omega) fun _ _ => rfl, bs, hh.order]
  have e0 : ∀ x : Int, ht ((rangeL 0 n).map fun _ => (0 : Int)) x = 0 := fun x => by
    rw [List.map_const', length_rangeL]
    exact ht_rep x
  refine Ok.fold (fun p c => c.length = n ∧ (∀ x : Int, (ht c x).natAbs ≤ 2 ^ (8 * p.length)) ∧ ∀ x ∈ p, ht c x = ht s x - ht t x + ((q : Int) - 1) * ((aboveL n P x).map (ht c)).sum) ⟨by rw [List.length_map, length_rangeL], fun x => by rw [e0 x]; simp, fun x hx => by cases hx⟩ ?_ ?_
  · rintro p x r c e ⟨h1, h2, h3⟩
    obtain ⟨⟨x0, x1⟩, ab, nx, _⟩ := order_split hP e
    have hp : p.length ≤ 16 := by
      have := congrArg List.length e
      rw [ol] at this
      simp at this
      omega
    obtain ⟨e1, b1⟩ := most_ok hn hq hP hh hs h1 x0 x1 (by omega) h2
    rw [e1, bs, st_ix hr x0 x1, bs, bs]
    obtain ⟨c', e2, l2, g2⟩ := set_ht (y := ht s x + ((q : Int) - 1) * ((aboveL n P x).map (ht c)).sum - t.getD x.toNat 0) h1 x0 x1
    rw [e2, bs]
    have keep : ∀ y ∈ p ++ [x], (aboveL n P y).map (ht c') = (aboveL n P y).map (ht c) := fun y hy => List.map_congr_left fun u hu => by
      rw [g2 u (mem_above hP hu).1.1, if_neg]
      rintro rfl
      rcases List.mem_append.mp hy with hy | hy
      · obtain ⟨pa, pb, ep⟩ := List.append_of_mem hy
        have e' : gr n (aboveL n P) n = pa ++ y :: (pb ++ u :: r) := by rw [e, ep]; simp
        have := (order_split hP e').2.1 u hu
        exact nx (by rw [ep]; exact List.mem_append_left _ this)
      · have : y = u := by simpa using hy
        subst this
        exact nx (ab y hu)
    refine Ok.pure ⟨l2, fun y => ?_, fun y hy => ?_⟩
    · rw [List.length_append, List.length_singleton]
      have hst := getD_ok hr x0 x1
      have p8 := pow8 p.length
      have mono : 2 ^ (8 * p.length) ≤ 2 ^ (8 * (p.length + 1)) := Nat.pow_le_pow_right (by decide) (by omega)
      by_cases y0 : 0 ≤ y
      · rw [g2 y y0]
        split
        · omega
        · exact Nat.le_trans (h2 y) mono
      · have ey : ht c' y = ht c' 0 := by
          unfold ht
          rw [show y.toNat = (0 : Int).toNat from by omega]
        rw [ey, g2 0 (by decide)]
        split
        · omega
        · exact Nat.le_trans (h2 0) mono
    · rw [keep y hy]
      rcases List.mem_append.mp hy with hy' | hy'
      · have y0 : 0 ≤ y := by
          have := gr_mem (n := n) (up := aboveL n P) n y (by rw [e]; exact List.mem_append_left _ hy')
          omega
        have ne : y ≠ x := fun q => nx (q ▸ hy')
        rw [g2 y y0, if_neg ne]
        exact h3 y hy'
      · have : y = x := by simpa using hy'
        subst this
        rw [g2 y x0, if_pos rfl]
        show _ = ht s y - ht t y + _
        have : t.getD y.toNat 0 = ht t y := rfl
        rw [this]
        omega
  · rintro c ⟨h1, _, h3⟩
    refine Ok.pure ⟨h1, fun l l0 l1 => h3 l ?_⟩
    exact (gr_perm (up_ok hP)).mem_iff.mpr (mem_rangeL.mpr ⟨l0, l1⟩)
theorem weights_ok (hn : 1 ≤ n ∧ n ≤ 16) (hq : 2 ≤ q ∧ q ≤ 10) (hP : GoodW n rk P) (hh : HouseOk n q P h) : Ok (m_weights h) fun w => w.length = n ∧ (∀ x : Int, (ht w x).natAbs ≤ 2 ^ 128) ∧ IsW n q P (ht w) := by
  have ol : (gr n (aboveL n P) n).length = n := gr_len (up_ok hP) n (Nat.le_refl _)
  unfold m_weights m_House_order m_below_masks
  simp only [bs]
  rw [hh.count, x_range_nat (by omega), bs, x_comp_map (fun _ => (0 : Int)) (by rw [length_rangeL]; omega) fun _ _ => rfl, bs, hh.order]
  have e0 : ∀ x : Int, ht ((rangeL 0 n).map fun _ => (0 : Int)) x = 0 := fun x => by
    rw [List.map_const', length_rangeL]
    exact ht_rep x
  refine Ok.fold (fun p c => c.length = n ∧ (∀ x : Int, (ht c x).natAbs ≤ 2 ^ (8 * p.length)) ∧ ∀ x ∈ p, ht c x = 1 + ((q : Int) - 1) * ((belowL n P x).map (ht c)).sum) ⟨by rw [List.length_map, length_rangeL], fun x => by rw [e0 x]; simp, fun x hx => by cases hx⟩ ?_ ?_
  · rintro p x r c e ⟨h1, h2, h3⟩
    have er : gr n (aboveL n P) n = r.reverse ++ x :: p.reverse := by
      have := congrArg List.reverse e
      simpa using this
    obtain ⟨⟨x0, x1⟩, _, _, bl⟩ := order_split hP er
    have nx : x ∉ p := fun m => by
      have nd : (gr n (aboveL n P) n).Nodup := gr_nodup n
      rw [er] at nd
      have := (List.nodup_cons.mp (List.nodup_append.mp nd).2.1).1
      exact this (List.mem_reverse.mpr m)
    have hp : p.length ≤ 16 := by
      have := congrArg List.length e
      rw [List.length_reverse, ol] at this
      simp at this
      omega
    have eb : ((x_ix h.belowM x).bind fun a => m_bits a) = some (belowL n P x) := by
      have := below_bits (l := x) (by omega) hh x0 x1
      unfold m_below_masks at this
      simpa only [bs] using this
    have hS : ((belowL n P x).map (ht c)).sum.natAbs ≤ 16 * 2 ^ (8 * p.length) := Nat.le_trans (sum_abs fun y _ => h2 y) (Nat.mul_le_mul_right _ (by have := below_le (n := n) (P := P) (l := x); omega))
    have hS2 : ((belowL n P x).map (ht c)).sum.natAbs ≤ 2 ^ (8 * p.length + 4) := by rw [Nat.pow_add]; omega
    rw [eb, bs, x_comp_map (ht c) (by have := below_le (n := n) (P := P) (l := x); omega) (fun y hy => ix_ht h1 (mem_below hP hy).1.1 (mem_below hP hy).1.2), bs, bs, hh.hues, x_mul_wide (i := (q : Int) - 1) (a := 4) (by show _ ≤ 16; omega) hS2 (by decide) (by omega), bs, bs]
    obtain ⟨c', e2, l2, g2⟩ := set_ht (y := 1 + ((q : Int) - 1) * ((belowL n P x).map (ht c)).sum) h1 x0 x1
    rw [e2, bs]
    have keep : ∀ y ∈ p ++ [x], (belowL n P y).map (ht c') = (belowL n P y).map (ht c) := fun y hy => List.map_congr_left fun u hu => by
      rw [g2 u (mem_below hP hu).1.1, if_neg]
      rintro rfl
      rcases List.mem_append.mp hy with hy | hy
      · obtain ⟨pa, pb, ep⟩ := List.append_of_mem hy
        have e' : gr n (aboveL n P) n = (r.reverse ++ u :: pb.reverse) ++ y :: pa.reverse := by rw [er, ep]; simp
        have := (order_split hP e').2.2.2 u hu
        exact nx (by rw [ep]; exact List.mem_append_left _ (List.mem_reverse.mp this))
      · have : y = u := by simpa using hy
        subst this
        exact nx (List.mem_reverse.mp (bl y hu))
    have e1 : (((q : Int) - 1) * ((belowL n P x).map (ht c)).sum).natAbs ≤ 9 * (16 * 2 ^ (8 * p.length)) := by
      rw [Int.natAbs_mul]
      exact Nat.mul_le_mul (by omega) hS
    refine Ok.pure ⟨l2, fun y => ?_, fun y hy => ?_⟩
    · rw [List.length_append, List.length_singleton]
      have p8 := pow8 p.length
      have mono : 2 ^ (8 * p.length) ≤ 2 ^ (8 * (p.length + 1)) := Nat.pow_le_pow_right (by decide) (by omega)
      by_cases y0 : 0 ≤ y
      · rw [g2 y y0]
        split
        · omega
        · exact Nat.le_trans (h2 y) mono
      · have ey : ht c' y = ht c' 0 := by
          unfold ht
          rw [show y.toNat = (0 : Int).toNat from by omega]
        rw [ey, g2 0 (by decide)]
        split
        · omega
        · exact Nat.le_trans (h2 0) mono
    · rw [keep y hy]
      rcases List.mem_append.mp hy with hy' | hy'
      · have y0 : 0 ≤ y := by
          have := gr_mem (n := n) (up := aboveL n P) n y (by rw [er]; exact List.mem_append_right _ (List.mem_cons_of_mem _ (List.mem_reverse.mpr hy')))
          omega
        have ne : y ≠ x := fun q => nx (q ▸ hy')
        rw [g2 y y0, if_neg ne]
        exact h3 y hy'
      · have : y = x := by simpa using hy'
        subst this
        rw [g2 y x0, if_pos rfl]
  · rintro c ⟨h1, h2, h3⟩
    refine Ok.pure ⟨h1, fun x => Nat.le_trans (h2 x) (Nat.pow_le_pow_right (by decide) (by rw [List.length_reverse, ol]; omega)), fun l l0 l1 => h3 l ?_⟩
    exact List.mem_reverse.mpr ((gr_perm (up_ok hP)).mem_iff.mpr (mem_rangeL.mpr ⟨l0, l1⟩))
theorem zip_map_sum {s w : List Int} (hs : s.length = n) (hw : w.length = n) : ((s.zip w).map fun y => y.1 * y.2).sum = wo n (ht w) s := by
  unfold wo
  congr 1
  refine List.ext_getElem (by simp [hs, hw, length_rangeL]) fun i h1 h2 => ?_
  have hi : i < n := by simpa [length_rangeL] using h2
  simp only [List.getElem_map, List.getElem_zip]
  have hr : (rangeL 0 n)[i]'(by rw [length_rangeL]; exact hi) = (i : Int) := by simp [rangeL]
  rw [hr]
  unfold ht
  rw [Int.toNat_natCast, List.getD_eq_getElem?_getD, List.getD_eq_getElem?_getD, List.getElem?_eq_getElem (by omega), List.getElem?_eq_getElem (by omega)]
  rfl
theorem worth_ok (hn : 1 ≤ n ∧ n ≤ 16) (hq : 2 ≤ q ∧ q ≤ 10) (hP : GoodW n rk P) (hh : HouseOk n q P h) {w : Int → Int} (hw : IsW n q P w) (hs : StOk n q s) : m_worth h s = some (wo n w s) := by
  refine Ok.of ?_
  unfold m_worth
  simp only [bs]
  rw [need_ok (by omega) hh hs, bs, Option.bind_assoc, Option.bind_assoc]
  refine Ok.bind (weights_ok hn hq hP hh) fun v hv => ?_
  obtain ⟨v1, v2, v3⟩ := hv
  simp only [bs]
  rw [x_comp_map (fun y : Int × Int => y.1 * y.2) (by rw [List.length_zip, hs.len, v1]; omega) fun y hy => ?_, bs]
  · refine Ok.pure ?_
    rw [zip_map_sum hs.len v1]
    unfold wo
    congr 1
    refine List.map_congr_left fun x hx => ?_
    obtain ⟨x0, x1⟩ := mem_rangeL.mp hx
    rw [isW_uniq hP v3 hw x x0 x1]
  · obtain ⟨a, b⟩ := y
    have ha := hs.hue a (List.of_mem_zip hy).1
    obtain ⟨i, hi⟩ := List.getElem?_of_mem (List.of_mem_zip hy).2
    have hb : b.natAbs ≤ 2 ^ 128 := by
      have := v2 (i : Int)
      unfold ht at this
      rw [Int.toNat_natCast, List.getD_eq_getElem?_getD, hi] at this
      exact this
    exact x_mul_wide (a := 4) (by show _ ≤ 16; omega) hb (by decide) (by decide)
end
end HF

set_option Elab.async false
set_option linter.all false
set_option maxRecDepth 100000
set_option maxHeartbeats 1000000
/-! MathV: the program's obstacle. -/
namespace HF
open PySem PySem.Spec L2
open PyProof.Rows hiding St
section
variable {n q : Nat} {P : List (Int × Int)} {h : HouseD} {rk : Int → Nat} {s t : List Int} {l : Int}
/-- the topmost differences -/
noncomputable def topm (n : Nat) (P : List (Int × Int)) (s t : List Int) : List Int := (rangeL 0 n).filter fun l => !decide (ht s l = ht t l) && (aboveL n P l).all fun u => decide (ht s u = ht t u)
theorem topmost_ok (hn : n ≤ 1000) (hP : GoodW n rk P) (hh : HouseOk n q P h) (hs : StOk n q s) (hr : StOk n q t) : m__topmost h s t = some (topm n P s t) := by
  refine Ok.of ?_
  unfold m__topmost m_above_masks
  simp only [bs]
  rw [hh.count, x_range_nat (by omega), bs]
  refine Ok.foldN (fun k b => ∃ D : Nat, b = (D : Int) ∧ ∀ v : Nat, D.testBit v = true ↔ v < k ∧ ¬ ht s v = ht t v) ⟨0, rfl, fun v => by simp⟩ ?_ ?_
  · rintro k b hk ⟨D, rfl, hD⟩
    rw [st_ix hs (by omega) (by omega), bs, st_ix hr (by omega) (by omega), bs, bs]
    by_cases e : s.getD ((k : Int)).toNat 0 = t.getD ((k : Int)).toNat 0
    · rw [decide_eq_true e]
      refine Ok.pure ⟨D, rfl, fun v => ?_⟩
      rw [hD v]
      constructor
      · rintro ⟨a, b⟩
        exact ⟨by omega, b⟩
      · rintro ⟨a, b⟩
        refine ⟨?_, b⟩
        have : v ≠ k := fun q => b (by rw [q]; exact e)
        omega
    · rw [decide_eq_false e, Bool.not_false, if_pos rfl, x_shl1 k (by omega), bs, or_nat, bs]
      refine Ok.pure ⟨D ||| 2 ^ k, rfl, fun v => ?_⟩
      rw [Nat.testBit_or, Nat.testBit_two_pow, Bool.or_eq_true, hD v, decide_eq_true_eq]
      constructor
      · rintro (⟨a, b⟩ | a)
        · exact ⟨by omega, b⟩
        · subst a
          exact ⟨by omega, e⟩
      · rintro ⟨a, b⟩
        by_cases hv : k = v
        · exact .inr hv
        · exact .inl ⟨by omega, b⟩
  · rintro b ⟨D, rfl, hD⟩
    refine Ok.eq (x_comp_filter (fun l => !decide (ht s l = ht t l) && (aboveL n P l).all fun u => decide (ht s u = ht t u)) (by rw [length_rangeL]; omega) fun x hx => ?_)
    obtain ⟨x0, x1⟩ := mem_rangeL.mp hx
    obtain ⟨m, em, lm, bm⟩ := hh.aboveM.ix x0 x1
    rw [st_ix hs x0 x1, bs, st_ix hr x0 x1, bs, bs, em, bs, and_nat, bs, andM_some]
    congr 1
    congr 1
    rw [Bool.eq_iff_iff, decide_eq_true_eq, List.all_eq_true]
    constructor
    · intro z u hu
      obtain ⟨⟨u0, u1⟩, d⟩ := mem_above hP hu
      obtain ⟨k, rfl⟩ := Int.eq_ofNat_of_zero_le u0
      have hz : (m &&& D).testBit k = false := by
        have : m &&& D = 0 := by omega
        rw [this]
        exact Nat.zero_testBit k
      rw [Nat.testBit_and, (bm k).mpr d, Bool.true_and] at hz
      refine decide_eq_true (Classical.byContradiction fun ne => ?_)
      have := (hD k).mpr ⟨by omega, ne⟩
      rw [hz] at this
      cases this
    · intro z
      have : m &&& D = 0 := Nat.eq_of_testBit_eq fun k => by
        rw [Nat.zero_testBit, Nat.testBit_and]
        cases h1 : m.testBit k with
        | false => rfl
        | true =>
          have d := (bm k).mp h1
          have e := of_decide_eq_true (z (k : Int) ((mem_aboveL hP).mpr d))
          cases h2 : D.testBit k with
          | false => rfl
          | true => exact absurd e ((hD k).mp h2).2
      rw [this]
      rfl
theorem topm_mem {l : Int} (hl : l ∈ topm n P s t) : (0 ≤ l ∧ l < n) ∧ ¬ ht s l = ht t l ∧ ∀ u ∈ aboveL n P l, ht s u = ht t u := by
  obtain ⟨h1, h2⟩ := List.mem_filter.mp hl
  rw [Bool.and_eq_true, List.all_eq_true] at h2
  exact ⟨mem_rangeL.mp h1, by simpa using h2.1, fun u hu => of_decide_eq_true (h2.2 u hu)⟩
noncomputable def obst (n : Nat) (P : List (Int × Int)) (s t : List Int) : Option Int := (topm n P s t).find? fun l => decide (ht s l < ht t l)
theorem raw_ok (hn : n ≤ 1000) (hP : GoodW n rk P) (hh : HouseOk n q P h) (hs : StOk n q s) (hr : StOk n q t) : m_raw_obstacle h s t = some (obst n P s t) := by
  unfold m_raw_obstacle
  simp only [bs]
  rw [topmost_ok hn hP hh hs hr, bs, forK_find (fun l => decide (ht s l < ht t l)) (fun l => some (some l)) fun l kn kb hl => ?_]
  · unfold obst
    cases (topm n P s t).find? fun l => decide (ht s l < ht t l) <;> rfl
  · have := (topm_mem hl).1
    rw [st_ix hr this.1 this.2, bs, st_ix hs this.1 this.2, bs, bs]
theorem obst_none (hP : GoodW n rk P) {g : Int → Int} (hg : IsG n q P s t g) (nn : ∀ l : Int, 0 ≤ l → l < n → 0 ≤ g l) : obst n P s t = none := by
  unfold obst
  rw [List.find?_eq_none]
  intro l hl hc
  obtain ⟨⟨l0, l1⟩, ne, ab⟩ := topm_mem hl
  have lt : ht s l < ht t l := of_decide_eq_true hc
  have up : ∀ (k : Nat) (u : Int), rk u < k → Dn P u l → 0 ≤ u → u < n → g u = 0 := fun k => by
    induction k with
    | zero => intro u hu; omega
    | succ k ih =>
      intro u hk d u0 u1
      rw [hg u u0 u1, ab u ((mem_aboveL hP).mpr d), ss_zero fun v hv => by
        obtain ⟨⟨v0, v1⟩, dv⟩ := mem_above hP hv
        have := (hP.dn (fun _ m => m) dv).1
        exact ih v (by omega) (dv.trans d) v0 v1]
      grind
  have e := hg l l0 l1
  rw [ss_zero fun u hu => by
    obtain ⟨⟨u0, u1⟩, d⟩ := mem_above hP hu
    exact up (rk u + 1) u (by omega) d u0 u1] at e
  have := nn l l0 l1
  grind
theorem way_ok (hn : n ≤ 1000) (hP : GoodW n rk P) (hh : HouseOk n q P h) (hs : StOk n q s) (hr : StOk n q t) (ho : obst n P s t = none) : m_need_way h s t = some () := by
  unfold m_need_way
  simp only [bs]
  rw [need_states_ok hn hh fun x hx => by
    rcases List.mem_cons.mp hx with rfl | hx
    · exact hs
    · rw [List.mem_singleton.mp hx]
      exact hr, bs]
  unfold m_need_reachable
  simp only [bs]
  rw [raw_ok hn hP hh hs hr, bs, ho]
  rfl
end
end HF

set_option Elab.async false
set_option linter.all false
set_option maxRecDepth 100000
set_option maxHeartbeats 1000000
/-! MathU: careful runs. -/
namespace HF
open PySem PySem.Spec L2
open PyProof.Rows hiding St
theorem Ok.forK {α β γ : Type} {f : β → α → (β → Option γ) → (β → Option γ) → Option γ} {k : β → Option γ} {Q : γ → Prop} (I : Nat → β → Prop) : ∀ {xs : List α} {b : β} {i : Nat}, I i b →
    (∀ j b x kn kb, x ∈ xs → i ≤ j → j < i + xs.length → I j b → (∀ b', I (j + 1) b' → Ok (kn b') Q) → (∀ j b', I j b' → Ok (kb b') Q) → Ok (f b x kn kb) Q) → (∀ j b, I j b → Ok (k b) Q) → Ok (forK f k xs b) Q
  | [], b, i, h, _, n => n i b h
  | x :: xs, b, i, h, st, n => by
    show Ok (f b x _ k) Q
    refine st i b x _ k (List.mem_cons_self ..) (Nat.le_refl _) (by simp) h (fun b' h' => ?_) n
    exact Ok.forK (i := i + 1) I h' (fun j b y kn kb m l1 l2 => st j b y kn kb (List.mem_cons_of_mem _ m) (by omega) (by simp at l2 ⊢; omega)) n
theorem ht_set {n : Nat} {c : List Int} {a y : Int} (hc : c.length = n) (h0 : 0 ≤ a) (h1 : a < n) {l : Int} (l0 : 0 ≤ l) : ht (c.set a.toNat y) l = if l = a then y else ht c l := by
  unfold ht
  rw [List.getD_eq_getElem?_getD, List.getD_eq_getElem?_getD]
  by_cases e : l = a
  · subst e
    rw [List.getElem?_set_self (by omega), if_pos rfl]
    rfl
  · rw [List.getElem?_set_ne (by omega), if_neg e]
section
variable {n q : Nat} {P : List (Int × Int)} {h : HouseD} {rk : Int → Nat} {s t c : List Int} {l : Int}
/-- the lamp of the next careful move -/
noncomputable def pick (n : Nat) (P : List (Int × Int)) (s : List Int) (g : Int → Int) : Option Int := (rangeL 0 n).find? fun l => decide (0 < g l) && cfB n P s l
noncomputable def trl (n q : Nat) (P : List (Int × Int)) : Nat → List Int → List Int → List Int
  | 0, _, _ => []
  | k + 1, s, c => match pick n P s (ht c) with
    | none => []
    | some l => l :: trl n q P k (mv n q P s l) (c.set l.toNat (ht c l - 1))
/-- k careful moves are left, c at each lamp -/
structure Gd (n q : Nat) (P : List (Int × Int)) (s t c : List Int) (k : Nat) : Prop where
  hs : StOk n q s
  hr : StOk n q t
  len : c.length = n
  isG : IsG n q P s t (ht c)
  nn : ∀ l : Int, 0 ≤ l → l < n → 0 ≤ ht c l
  sum : c.sum = k
theorem Gd.sum' {k : Nat} (g : Gd n q P s t c k) : ((rangeL 0 n).map (ht c)).sum = k := by rw [ht_eq_map g.len, g.sum]
theorem Gd.zero (hP : GoodW n rk P) (g : Gd n q P s t c 0) : s = t ∧ ∀ l : Int, 0 ≤ l → l < n → ht c l = 0 := by
  have z : ∀ l : Int, 0 ≤ l → l < n → ht c l = 0 := fun l l0 l1 => by
    have h1 := ss_ge (g := ht c) (xs := rangeL 0 n) (fun x hx => g.nn x (mem_rangeL.mp hx).1 (mem_rangeL.mp hx).2) (mem_rangeL.mpr ⟨l0, l1⟩)
    rw [g.sum'] at h1
    have := g.nn l l0 l1
    omega
  exact ⟨st_ext g.hs.len g.hr.len (isG_zero hP g.isG z), z⟩
theorem Gd.step (hq : 1 ≤ q) (hP : GoodW n rk P) {k : Nat} (g : Gd n q P s t c (k + 1)) : ∃ l, pick n P s (ht c) = some l ∧ (0 ≤ l ∧ l < (n : Int)) ∧ cfB n P s l = true ∧ 0 < ht c l ∧ Gd n q P (mv n q P s l) t (c.set l.toNat (ht c l - 1)) k := by
  have ex : ∃ l : Int, (0 ≤ l ∧ l < n) ∧ 0 < ht c l := Classical.byContradiction fun no => by
    have := ss_zero (g := ht c) (xs := rangeL 0 n) fun x hx => by
      have hm := mem_rangeL.mp hx
      have := g.nn x hm.1 hm.2
      refine Classical.byContradiction fun ne => no ⟨x, hm, by omega⟩
    rw [g.sum'] at this
    omega
  obtain ⟨a, ha, ga, ca⟩ := ready_ex hP g.hs g.hr g.isG g.nn ex
  cases e : pick n P s (ht c) with
  | none =>
    unfold pick at e
    have := List.find?_eq_none.mp e a (mem_rangeL.mpr ha)
    rw [ca, decide_eq_true ga] at this
    exact absurd rfl this
  | some l =>
    have h1 := List.find?_some e
    have hl := mem_rangeL.mp (List.mem_of_find?_eq_some e)
    rw [Bool.and_eq_true, decide_eq_true_eq] at h1
    have hht : ∀ x : Int, 0 ≤ x → ht (c.set l.toNat (ht c l - 1)) x = ht c x - if x = l then 1 else 0 := fun x x0 => by
      rw [ht_set g.len hl.1 hl.2 x0]
      by_cases e : x = l
      · rw [if_pos e, if_pos e, e]
      · rw [if_neg e, if_neg e]
        omega
    have hlen : (c.set l.toNat (ht c l - 1)).length = n := by rw [List.length_set]; exact g.len
    refine ⟨l, rfl, hl, h1.2, h1.1, mv_ok g.hs (cf_lit h1.2) hq, g.hr, hlen, fun x x0 x1 => ?_, fun x x0 x1 => ?_, ?_⟩
    · have := isG_move hP g.hs g.isG h1.2 x x0 x1
      dsimp only at this
      rw [hht x x0, this]
      congr 3
      exact List.map_congr_left fun u hu => (hht u (mem_above hP hu).1.1).symm
    · rw [hht x x0]
      have := g.nn x x0 x1
      split
      · rename_i e
        rw [e]
        omega
      · omega
    · rw [← ht_eq_map hlen]
      have e1 : (rangeL 0 n).map (ht (c.set l.toNat (ht c l - 1))) = (rangeL 0 n).map fun x => ht c x - if x = l then 1 else 0 := List.map_congr_left fun x hx => hht x (mem_rangeL.mp hx).1
      rw [e1, ss_sub1 nodup_rangeL, if_pos (mem_rangeL.mpr hl), g.sum']
      omega
theorem pick_zero (z : ∀ l : Int, 0 ≤ l → l < n → ht c l = 0) : pick n P s (ht c) = none := by
  unfold pick
  rw [List.find?_eq_none]
  intro x hx
  rw [z x (mem_rangeL.mp hx).1 (mem_rangeL.mp hx).2]
  simp
/-- the state at the end -/
noncomputable def endS (n q : Nat) (P : List (Int × Int)) (s : List Int) (r : List Int) : List Int := r.foldl (mv n q P) s
theorem trl_all (hq : 1 ≤ q) (hP : GoodW n rk P) : ∀ (k : Nat) (s c : List Int), Gd n q P s t c k → (trl n q P k s c).length = k ∧ Careful n q P s (trl n q P k s c) ∧ endS n q P s (trl n q P k s c) = t
  | 0, s, c, g => ⟨rfl, True.intro, (g.zero hP).1⟩
  | k + 1, s, c, g => by
    obtain ⟨l, e, hl, hc, _, g'⟩ := g.step hq hP
    obtain ⟨i1, i2, i3⟩ := trl_all hq hP k _ _ g'
    have e2 : trl n q P (k + 1) s c = l :: trl n q P k (mv n q P s l) (c.set l.toNat (ht c l - 1)) := by rw [trl, e]
    rw [e2]
    exact ⟨by rw [List.length_cons, i1], ⟨hl, hc, i2⟩, i3⟩
theorem trl_at (hq : 1 ≤ q) (hP : GoodW n rk P) : ∀ (i k : Nat) (s c : List Int), Gd n q P s t c k → i ≤ k → ∃ si ci, (along' n q P s (trl n q P k s c))[i]? = some si ∧ Gd n q P si t ci (k - i) ∧ trl n q P (k - i) si ci = (trl n q P k s c).drop i
  | 0, k, s, c, g, _ => ⟨s, c, by cases h : trl n q P k s c <;> rfl, g, rfl⟩
  | i + 1, 0, s, c, g, h => by omega
  | i + 1, k + 1, s, c, g, h => by
    obtain ⟨l, e, hl, hc, _, g'⟩ := g.step hq hP
    have e2 : trl n q P (k + 1) s c = l :: trl n q P k (mv n q P s l) (c.set l.toNat (ht c l - 1)) := by rw [trl, e]
    obtain ⟨si, ci, h1, h2, h3⟩ := trl_at hq hP i k _ _ g' (by omega)
    have hk : k + 1 - (i + 1) = k - i := by omega
    rw [e2, hk]
    exact ⟨si, ci, h1, h2, h3⟩
theorem Gd.uniq (hP : GoodW n rk P) {c' : List Int} {k : Nat} (g : Gd n q P s t c k) (h1 : c'.length = n) (h2 : IsG n q P s t (ht c')) : c' = c := st_ext h1 g.len fun l l0 l1 => isG_uniq hP h2 g.isG l l0 l1
theorem Gd.way (hn : n ≤ 1000) (hP : GoodW n rk P) (hh : HouseOk n q P h) {k : Nat} (g : Gd n q P s t c k) : m_need_way h s t = some () := way_ok hn hP hh g.hs g.hr (obst_none hP g.isG g.nn)
/-! ### the program's -/
theorem clamp_ok (hn : n ≤ 1000) (hP : GoodW n rk P) (hh : HouseOk n q P h) (hs : StOk n q s) (hc : c.length = n) : m__careful_lamp h s c = some (pick n P s (ht c)) := by
  unfold m__careful_lamp
  simp only [bs]
  rw [hh.count, x_range_nat (by omega), bs, forK_find (fun l => decide (0 < ht c l) && cfB n P s l) (fun l => some (some l)) fun l kn kb hl => ?_]
  · show _ = some (List.find? (fun l => decide (0 < ht c l) && cfB n P s l) (rangeL 0 n))
    cases List.find? (fun l => decide (0 < ht c l) && cfB n P s l) (rangeL 0 n) <;> rfl
  · obtain ⟨l0, l1⟩ := mem_rangeL.mp hl
    rw [st_ix hs l0 l1, bs, bs, ix_ht hc l0 l1, bs, bs, lit_ok hn hP hh hs l0 l1, bs, find_all, andM_some, andM_some, bs]
    have e1 : decide (1 ≤ s.getD l.toNat 0) = decide (0 < ht s l) := decide_eq_decide.mpr Iff.rfl
    have e2 : decide (1 ≤ ht c l) = decide (0 < ht c l) := decide_eq_decide.mpr Iff.rfl
    rw [e1, e2]
    unfold cfB
    cases decide (0 < ht s l) <;> cases decide (0 < ht c l) <;> rfl
theorem run_go {f : List Int × List Int × List Int → Int → Option (List Int × List Int × List Int)} (hq : 1 ≤ q) (hP : GoodW n rk P) (hf : ∀ c s a x k, Gd n q P s t c (k + 1) → a.length ≤ 1000 → f (c, s, a) x = (pick n P s (ht c)).bind fun l => some (c.set l.toNat (ht c l - 1), mv n q P s l, a ++ [l])) :
    ∀ (k : Nat) (s c a : List Int) (xs : List Int), xs.length = k → Gd n q P s t c k → a.length + k ≤ 1000 → ∃ c' s', foldO f (c, s, a) xs = some (c', s', a ++ trl n q P k s c)
  | 0, s, c, a, xs, e, g, _ => by
    have : xs = [] := List.eq_nil_of_length_eq_zero e
    subst this
    exact ⟨c, s, by simp [foldO, trl]⟩
  | k + 1, s, c, a, xs, e, g, ha => by
    cases xs with
    | nil => simp at e
    | cons x xs =>
      obtain ⟨l, ep, hl, hc, _, g'⟩ := g.step hq hP
      obtain ⟨c', s', h'⟩ := run_go hq hP hf k _ _ (a ++ [l]) xs (by simpa using e) g' (by simp; omega)
      refine ⟨c', s', ?_⟩
      show (f (c, s, a) x).bind _ = _
      rw [hf c s a x k g (by omega), ep, bs, bs, h', trl, ep]
      simp
theorem careful_run_ok (hn : 1 ≤ n ∧ n ≤ 16) (hq : 2 ≤ q ∧ q ≤ 10) (hP : GoodW n rk P) (hh : HouseOk n q P h) {k : Nat} (g : Gd n q P s t c k) {lim : Int} (hl : (k : Int) ≤ lim) (hk : k ≤ 1000) : m_careful_run h s t lim = some (trl n q P k s c) := by
  refine Ok.of ?_
  unfold m_careful_run
  simp only [bs]
  rw [g.way (by omega) hP hh, bs]
  refine Ok.bind (greatest_ok hn hq hP hh g.hs g.hr) fun c' hc' => ?_
  have := g.uniq hP hc'.1 hc'.2
  subst this
  rw [g.sum, decide_eq_false (by omega), if_neg Bool.false_ne_true, x_range_nat (by omega), bs]
  obtain ⟨c2, s2, e⟩ := run_go (t := t) (f := fun bx833 y834 => ((m__careful_lamp h bx833.snd.fst bx833.fst).bind fun z843 => z843).bind fun lamp841 => (x_app bx833.snd.snd lamp841).bind fun run845 => ((x_ix bx833.fst lamp841).bind fun z849 => some (z849 - 1)).bind fun y851 => (x_set bx833.fst lamp841 y851).bind fun remaining853 => (m_moved h bx833.snd.fst lamp841).bind fun state860 => some (remaining853, state860, run845)) (by omega) hP (fun c s a x k g ha => by
    dsimp only
    obtain ⟨l, ep, hl, hc, _, g'⟩ := g.step (by omega) hP
    rw [clamp_ok (by omega) hP hh g.hs g.len, bs, ep, bs, x_app_eq (by omega), bs, ix_ht g.len hl.1 hl.2, bs, bs, x_set_nat hl.1 (by rw [g.len]; exact hl.2), bs, moved_ok (by omega) hP hh g.hs hl.1 hl.2, bs, bs]) k s c' [] (rangeL 0 k) length_rangeL g (by simp; omega)
  rw [e, bs]
  exact Ok.pure rfl
theorem next_ok (hn : 1 ≤ n ∧ n ≤ 16) (hq : 2 ≤ q ∧ q ≤ 10) (hP : GoodW n rk P) (hh : HouseOk n q P h) {k : Nat} (g : Gd n q P s t c k) : m_next_careful h s t = some (trl n q P k s c).head? := by
  refine Ok.of ?_
  unfold m_next_careful
  simp only [bs]
  rw [g.way (by omega) hP hh, bs, Option.bind_assoc, Option.bind_assoc]
  refine Ok.bind (greatest_ok hn hq hP hh g.hs g.hr) fun c' hc' => ?_
  have := g.uniq hP hc'.1 hc'.2
  subst this
  simp only [bs]
  rw [clamp_ok (by omega) hP hh g.hs g.len]
  refine Ok.pure ?_
  cases k with
  | zero => exact pick_zero (g.zero hP).2
  | succ k =>
    obtain ⟨l, ep, _⟩ := g.step (by omega) hP
    rw [trl, ep]
    rfl
/-! ### covers -/
noncomputable def downs (n q : Nat) (P : List (Int × Int)) (s : List Int) : List (Int × List Int) := ((rangeL 0 n).filter (cfB n P s)).map fun l => (l, mv n q P s l)
theorem covered_by_ok (hn : n ≤ 1000) (hP : GoodW n rk P) (hh : HouseOk n q P h) (hs : StOk n q s) : m_covered_by h s = some (downs n q P s) := by
  unfold m_covered_by
  simp only [bs]
  rw [need_ok hn hh hs, bs, allowed_ok hn hP hh hs, bs]
  refine x_comp_map (fun l => (l, mv n q P s l)) (Nat.le_trans (List.length_filter_le _ _) (by rw [length_rangeL]; omega)) fun x hx => ?_
  obtain ⟨x0, x1⟩ := mem_rangeL.mp (List.mem_filter.mp hx).1
  rw [moved_ok hn hP hh hs x0 x1, bs]
theorem is_cover_ok (hn : n ≤ 1000) (hP : GoodW n rk P) (hh : HouseOk n q P h) (hs : StOk n q s) (hr : StOk n q t) : m_is_cover h s t = some (((rangeL 0 n).filter (cfB n P s)).any fun l => decide (mv n q P s l = t)) := by
  unfold m_is_cover
  simp only [bs]
  rw [need_ok hn hh hs, bs, need_ok hn hh hr, bs, allowed_ok hn hP hh hs, bs, forK_find (fun l => decide (mv n q P s l = t)) (fun _ => some true) fun l kn kb hl => ?_]
  · cases e : List.find? (fun l => decide (mv n q P s l = t)) ((rangeL 0 n).filter (cfB n P s)) with
    | none =>
      have := find_all (fun l => decide (mv n q P s l = t)) ((rangeL 0 n).filter (cfB n P s))
      rw [e] at this
      rw [show ((rangeL 0 n).filter (cfB n P s)).any (fun l => decide (mv n q P s l = t)) = false from Bool.eq_false_iff.mpr fun ha => by
        obtain ⟨x, hx, hd⟩ := List.any_eq_true.mp ha
        have := List.all_eq_true.mp this.symm x hx
        rw [hd] at this
        cases this]
    | some x =>
      have hx : decide (mv n q P s x = t) = true := List.find?_some (p := fun l => decide (mv n q P s l = t)) e
      rw [show ((rangeL 0 n).filter (cfB n P s)).any (fun l => decide (mv n q P s l = t)) = true from List.any_eq_true.mpr ⟨x, List.mem_of_find?_eq_some e, hx⟩]
  · obtain ⟨x0, x1⟩ := mem_rangeL.mp (List.mem_filter.mp hl).1
    rw [moved_ok hn hP hh hs x0 x1, bs, bs]
/-- the states from which a careful move leads to s -/
noncomputable def rsd (n : Nat) (P : List (Int × Int)) (s : List Int) (l : Int) : List Int := (rangeL 0 n).map fun x => if x = l then ht s x + 1 else if dnB P l x = true then 0 else ht s x
noncomputable def upB (n q : Nat) (P : List (Int × Int)) (s : List Int) (l : Int) : Bool := decide (ht s l < (q : Int) - 1) && (belowL n P l).all fun m => !decide (ht s m < (q : Int) - 1)
noncomputable def ups (n q : Nat) (P : List (Int × Int)) (s : List Int) : List (Int × List Int) := ((rangeL 0 n).filter (upB n q P s)).map fun l => (l, rsd n P s l)
theorem rsd_go {p : List Int} {x : Int} (x0 : 0 ≤ x) (x1 : x < n) (ne : x ≠ l) : x_set ((rangeL 0 n).map fun y => if y = l then ht s y + 1 else if y ∈ p then 0 else ht s y) x 0 = some ((rangeL 0 n).map fun y => if y = l then ht s y + 1 else if y ∈ p ++ [x] then 0 else ht s y) := by
  rw [set_map x0 x1]
  congr 1
  refine List.map_congr_left fun y _ => ?_
  by_cases e1 : y = x
  · subst e1
    rw [if_pos rfl, if_neg ne, if_pos (by simp)]
  · rw [if_neg e1]
    have : (y ∈ p ++ [x]) ↔ y ∈ p := by simp [e1]
    simp only [this]
theorem rsd_start (hs : StOk n q s) (h0 : 0 ≤ l) (h1 : l < n) : x_set s l (s.getD l.toNat 0 + 1) = some ((rangeL 0 n).map fun x => if x = l then ht s x + 1 else if x ∈ ([] : List Int) then 0 else ht s x) := by
  have es : s = (rangeL 0 n).map (ht s) := (ht_eq_map hs.len).symm
  conv => lhs; arg 1; rw [es]
  rw [set_map h0 h1]
  congr 1
  refine List.map_congr_left fun x _ => ?_
  by_cases e : x = l
  · rw [if_pos e, if_pos e, e]
  · rw [if_neg e, if_neg e, if_neg (by simp)]
theorem rsd_end (hP : GoodW n rk P) : ((rangeL 0 n).map fun y => if y = l then ht s y + 1 else if y ∈ belowL n P l then 0 else ht s y) = rsd n P s l := List.map_congr_left fun y _ => by simp only [mem_belowL hP, ← dnB_iff]
theorem forK_put {β γ : Type} {f : β → Int → (β → Option γ) → (β → Option γ) → Option γ} {k : β → Option γ} {g : β → Int → β} {ok : Int → Bool} {z : Option γ} : ∀ (xs pre : List Int) (b : β) (I : List Int → β → Prop), I pre b → (∀ p b x kn kb, I p b → x ∈ xs → f b x kn kb = if ok x = true then kn (g b x) else z) → (∀ p b x, I p b → x ∈ xs → ok x = true → I (p ++ [x]) (g b x)) →
    (xs.all ok = true ∧ ∃ b', I (pre ++ xs) b' ∧ forK f k xs b = k b') ∨ (xs.all ok = false ∧ forK f k xs b = z)
  | [], pre, b, I, h, _, _ => .inl ⟨rfl, b, by simpa using h, rfl⟩
  | x :: xs, pre, b, I, h, st, nx => by
    have e : forK f k (x :: xs) b = if ok x = true then forK f k xs (g b x) else z := st pre b x _ _ h (List.mem_cons_self ..)
    rw [e]
    cases ho : ok x with
    | false => exact .inr ⟨by rw [List.all_cons, ho]; rfl, rfl⟩
    | true =>
      rcases forK_put xs (pre ++ [x]) (g b x) I (nx pre b x h (List.mem_cons_self ..) ho) (fun p b y kn kb i m => st p b y kn kb i (List.mem_cons_of_mem _ m)) (fun p b y i m => nx p b y i (List.mem_cons_of_mem _ m)) with ⟨h1, b', h2, h3⟩ | ⟨h1, h2⟩
      · exact .inl ⟨by rw [List.all_cons, ho, h1]; rfl, b', by simpa using h2, h3⟩
      · exact .inr ⟨by rw [List.all_cons, h1]; simp, h2⟩
theorem before_ok (hn : n ≤ 1000) (hP : GoodW n rk P) (hh : HouseOk n q P h) (hs : StOk n q s) (h0 : 0 ≤ l) (h1 : l < n) : m_before h s l true = some (if upB n q P s l = true then some (rsd n P s l) else none) := by
  have hb := getD_ok hs h0 h1
  unfold m_before
  simp only [bs]
  rw [need_ok hn hh hs, bs, lamp_ok hh h0 h1, bs, st_ix hs h0 h1, bs, bs, hh.hues]
  by_cases e : s.getD l.toNat 0 = (q : Int) - 1
  · rw [decide_eq_true e, if_pos rfl]
    have : upB n q P s l = false := by
      unfold upB
      rw [decide_eq_false (show ¬ ht s l < (q : Int) - 1 from by show ¬ s.getD l.toNat 0 < _; omega)]
      rfl
    rw [this]
    rfl
  · rw [decide_eq_false e, if_neg Bool.false_ne_true, bs, bs, rsd_start hs h0 h1, bs, below_bits hn hh h0 h1, bs]
    have hlt : decide (ht s l < (q : Int) - 1) = true := decide_eq_true (by show s.getD l.toNat 0 < _; omega)
    rcases forK_put (z := some none) (k := fun a => some (some a)) (g := fun b x => b.set x.toNat 0) (ok := fun m => !decide (ht s m < (q : Int) - 1)) (belowL n P l) [] ((rangeL 0 n).map fun x => if x = l then ht s x + 1 else if x ∈ ([] : List Int) then 0 else ht s x) (fun p b => b = (rangeL 0 n).map fun x => if x = l then ht s x + 1 else if x ∈ p then 0 else ht s x) rfl (f := fun bx577 y578 k580 k581 => ((x_ix s y578).bind fun z559 => some (decide (z559 = (q : Int) - 1))).bind fun c582 => if c582 = true then (x_set bx577 y578 0).bind fun result589 => k580 result589 else if True then some none else ((x_ix s y578).bind fun z567 => some (z567 + 1)).bind fun y587 => (x_set bx577 y578 y587).bind fun result589 => k580 result589) (fun p b x kn kb i hx => by
        obtain ⟨⟨x0, x1⟩, d⟩ := mem_below hP hx
        have hbx := getD_ok hs x0 x1
        have bl : b.length = n := by rw [i, List.length_map, length_rangeL]
        rw [st_ix hs x0 x1, bs, bs]
        by_cases e : s.getD x.toNat 0 = (q : Int) - 1
        · rw [decide_eq_true e, if_pos rfl, x_set_nat x0 (by rw [bl]; exact x1), bs, decide_eq_false (show ¬ ht s x < (q : Int) - 1 from by show ¬ s.getD x.toNat 0 < _; omega)]
          rfl
        · rw [decide_eq_false e, if_neg Bool.false_ne_true, if_pos True.intro, decide_eq_true (show ht s x < (q : Int) - 1 from by show s.getD x.toNat 0 < _; omega)]
          rfl) (fun p b x i hx _ => by
        obtain ⟨⟨x0, x1⟩, d⟩ := mem_below hP hx
        have ne : x ≠ l := fun q => by
          subst q
          have := dnB_irr hP x
          rw [dnB_iff.mpr d] at this
          cases this
        have bl : b.length = n := by rw [i, List.length_map, length_rangeL]
        have e1 := rsd_go (s := s) (p := p) x0 x1 ne
        rw [← i, x_set_nat x0 (by rw [bl]; exact x1)] at e1
        exact Option.some.inj e1) with ⟨a1, b', i, e2⟩ | ⟨a1, e2⟩
    · have : upB n q P s l = true := by
        unfold upB
        rw [hlt, a1]
        rfl
      rw [this, if_pos rfl, e2]
      rw [List.nil_append] at i
      rw [i, rsd_end hP]
    · have : upB n q P s l = false := by
        unfold upB
        rw [a1]
        simp
      rw [this, if_neg Bool.false_ne_true, e2]
theorem covers_of_ok (hn : n ≤ 1000) (hP : GoodW n rk P) (hh : HouseOk n q P h) (hs : StOk n q s) : m_covers_of h s = some (ups n q P s) := by
  refine Ok.of ?_
  unfold m_covers_of
  simp only [bs]
  rw [need_ok hn hh hs, bs, hh.count, x_range_nat (by omega), bs]
  refine Ok.fold (fun p b => b = (p.filter (upB n q P s)).map (fun l => (l, rsd n P s l)) ∧ b.length ≤ p.length) ⟨rfl, by simp⟩ ?_ ?_
  · rintro p x r b e ⟨h1, h2⟩
    have hx : x ∈ rangeL 0 n := by rw [e]; simp
    have hp : p.length < 1000 := by
      have := congrArg List.length e
      rw [length_rangeL] at this
      simp at this
      omega
    obtain ⟨x0, x1⟩ := mem_rangeL.mp hx
    rw [before_ok hn hP hh hs x0 x1, bs]
    cases hu : upB n q P s x with
    | true =>
      rw [if_pos rfl, Option.isSome_some, if_pos rfl, bs, bs, x_app_eq (by omega), bs]
      refine Ok.pure ⟨?_, by simp; omega⟩
      rw [List.filter_append, List.map_append, ← h1]
      simp [hu]
    | false =>
      rw [if_neg Bool.false_ne_true, Option.isSome_none, if_neg Bool.false_ne_true]
      refine Ok.pure ⟨?_, by simp; omega⟩
      rw [List.filter_append, List.map_append, ← h1]
      simp [hu]
  · rintro b ⟨h1, _⟩
    exact Ok.pure h1
end
end HF

set_option Elab.async false
set_option linter.all false
set_option maxRecDepth 100000
set_option maxHeartbeats 1000000
/-! MathR0: a state that is drawn. -/
namespace HF
open PySem PySem.Spec L2
open PyProof.Rows hiding St
theorem mapE_ok {α β γ : Type} {f : γ → α → Option (β × γ)} {I : γ → Prop} {R : β → Prop} : ∀ {xs : List α} {g : γ}, I g → (∀ g x, x ∈ xs → I g → Ok (f g x) fun r => R r.1 ∧ I r.2) → Ok (mapE f g xs) fun r => (r.1.length = xs.length ∧ ∀ y ∈ r.1, R y) ∧ I r.2
  | [], g, h, _ => Ok.pure ⟨⟨rfl, fun y m => (by cases m)⟩, h⟩
  | x :: xs, g, h, st => by
    show Ok ((f g x).bind _) _
    refine Ok.bind (st g x (List.mem_cons_self ..) h) fun r hr => ?_
    refine Ok.bind (mapE_ok (xs := xs) hr.2 fun g y m => st g y (List.mem_cons_of_mem _ m)) fun r2 hr2 => ?_
    refine Ok.pure ⟨⟨by simp [hr2.1.1], fun y m => ?_⟩, hr2.2⟩
    rcases List.mem_cons.mp m with rfl | m
    · exact hr.1
    · exact hr2.1.2 y m
section
variable {n q : Nat} {P : List (Int × Int)} {w : R_world}
theorem state_ok {b : R_bag} (hb : BagOk b) (hn : 1 ≤ n ∧ n ≤ 16) (hq : 2 ≤ q ∧ q ≤ 10) (hw : worldOf n q P w) : Ok (m__law_state b w) fun r => StOk n q r.1 ∧ BagOk r.2 := by
  obtain ⟨w1, w2, w3, w4, w5, w6⟩ := hw
  unfold m__law_state
  simp only [bs, w1, w2]
  rw [x_range_nat (by omega), bs]
  unfold x_mapE
  rw [if_pos (show (rangeL 0 n).length ≤ sizeLine from by rw [length_rangeL]; show n ≤ 16777216; omega)]
  refine Ok.bind (mapE_ok (I := BagOk) (R := fun v => 0 ≤ v ∧ v < (q : Int)) hb fun g x _ hg => ?_) fun r hr => ?_
  · exact Ok.bind (draw_ok hg (by omega) (by omega)) fun r hr => Ok.pure ⟨hr.1, hr.2⟩
  · exact Ok.pure ⟨⟨by rw [hr.1.1, length_rangeL], hr.1.2⟩, hr.2⟩
end
end HF

set_option Elab.async false
set_option linter.all false
set_option maxRecDepth 100000
set_option maxHeartbeats 1000000
/-! MathW: k77, the law's side. -/
namespace HF
open PySem PySem.Spec L2
open PyProof.Rows hiding St
theorem x_ix_last {α : Type} {xs : List α} {a : α} (h : xs[xs.length - 1]? = some a) : x_ix xs (-1) = some a := by
  have hl := (List.getElem?_eq_some_iff.mp h).1
  unfold x_ix atI ixN
  rw [if_neg (by decide), if_pos (by omega), bs]
  rw [← h]
  congr 1
  omega
theorem cut_from {α : Type} {xs : List α} {i : Nat} (h : i ≤ xs.length) : cutL xs (some (i : Int)) none = xs.drop i := by
  unfold cutL
  rw [HT.sIx_nat, HT.sIx_none, Nat.min_eq_left h]
  exact List.take_of_length_le (by rw [List.length_drop]; omega)
theorem law_int (x : Int) : m__law_is_integer x = some true := rfl
theorem same_state_ok {s : List Int} (h : s.length ≤ 1000) : m__law_same_state s s = some true := by
  unfold m__law_same_state
  simp only [bs, orM, decide_true, Bool.not_true, Bool.false_eq_true, if_false]
  rw [x_range_nat (by omega), bs, forK_find (fun _ => false) (fun _ => some false) fun k kn kb hk => ?_]
  · rw [List.find?_eq_none.mpr fun _ _ => Bool.false_ne_true]
  · obtain ⟨k0, k1⟩ := mem_rangeL.mp hk
    obtain ⟨i, rfl⟩ := Int.eq_ofNat_of_zero_le k0
    rw [x_ix_nat (by omega)]
    simp only [bs, law_int, Bool.not_true, Bool.false_eq_true, if_false, decide_true]
theorem same_states_ok {ss : List (List Int)} (h : ss.length ≤ 1000) (hs : ∀ s ∈ ss, s.length ≤ 1000) : m__law_same_states ss ss = some true := by
  unfold m__law_same_states
  simp only [bs, orM, decide_true, Bool.not_true, Bool.false_eq_true, if_false]
  rw [x_range_nat (by omega), bs, forK_find (fun _ => false) (fun _ => some false) fun k kn kb hk => ?_]
  · rw [List.find?_eq_none.mpr fun _ _ => Bool.false_ne_true]
  · obtain ⟨k0, k1⟩ := mem_rangeL.mp hk
    obtain ⟨i, rfl⟩ := Int.eq_ofNat_of_zero_le k0
    rw [x_ix_nat (by omega)]
    simp only [bs]
    rw [same_state_ok (hs _ (List.getElem_mem _))]
    simp only [bs, Bool.not_true, Bool.false_eq_true, if_false]
theorem same_pairs_ok {ss : List (Int × List Int)} (h : ss.length ≤ 1000) (hs : ∀ s ∈ ss, s.2.length ≤ 1000) : m__law_same_pairs ss ss = some true := by
  unfold m__law_same_pairs
  simp only [bs, orM, decide_true, Bool.not_true, Bool.false_eq_true, if_false]
  rw [x_range_nat (by omega), bs, forK_find (fun _ => false) (fun _ => some false) fun k kn kb hk => ?_]
  · rw [List.find?_eq_none.mpr fun _ _ => Bool.false_ne_true]
  · obtain ⟨k0, k1⟩ := mem_rangeL.mp hk
    obtain ⟨i, rfl⟩ := Int.eq_ofNat_of_zero_le k0
    rw [x_ix_nat (by omega)]
    simp only [bs, law_int, Bool.not_true, Bool.false_eq_true, if_false, decide_true]
    rw [same_state_ok (hs _ (List.getElem_mem _))]
    simp only [bs, Bool.not_true, Bool.false_eq_true, if_false]
section
variable {n q : Nat} {P : List (Int × Int)} {w : R_world} {h : HouseD} {rk : Int → Nat} {s t c : List Int} {l : Int}
theorem large_ok {b : R_bag} (hb : BagOk b) : Ok (m__law_large b 1) fun r => ∃ (n q : Nat) (P : List (Int × Int)) (line : List Int), (1 ≤ n ∧ n ≤ 16) ∧ (2 ≤ q ∧ q ≤ 10) ∧ GoodW n (rkL line) P ∧ P.length ≤ 1000 ∧ worldOf n q P r.1 ∧ BagOk r.2 := by
  unfold m__law_large
  simp only [bs]
  refine Ok.bind (hues_ok hb) fun r1 h1 => ?_
  obtain ⟨hq, hb1⟩ := h1
  obtain ⟨q, eq⟩ := Int.eq_ofNat_of_zero_le (show 0 ≤ r1.1 by omega)
  rw [eq] at hq ⊢
  refine Ok.bind (draw_ok hb1 (by decide) (by decide)) fun r2 h2 => ?_
  obtain ⟨⟨a0, a1⟩, hb2⟩ := h2
  obtain ⟨k, hk⟩ := Int.eq_ofNat_of_zero_le a0
  have en : (1 : Int) + r2.1 = ((1 + k : Nat) : Int) := by omega
  have hn : 1 ≤ 1 + k ∧ 1 + k ≤ 16 := by omega
  rw [en]
  refine Ok.bind (shuffled_ok hb2 hn.2) fun r3 h3 => ?_
  refine Ok.bind (wires_ok h3.2 hn h3.1) fun r4 h4 => ?_
  refine Ok.bind (known_eq (q := q) hn h3.1 h4.1 h4.2.1) fun w hw => ?_
  exact Ok.pure ⟨1 + k, q, r4.1, r3.1, hn, by omega, h4.1, h4.2.1, hw, h4.2.2⟩
theorem any_ok {b : R_bag} (hb : BagOk b) : Ok (m__law_any b) fun r => ∃ (n q : Nat) (P : List (Int × Int)) (line : List Int), (1 ≤ n ∧ n ≤ 16) ∧ (2 ≤ q ∧ q ≤ 10) ∧ GoodW n (rkL line) P ∧ P.length ≤ 1000 ∧ worldOf n q P r.1 ∧ BagOk r.2 := by
  unfold m__law_any
  simp only [bs]
  refine Ok.bind (draw_ok hb (by decide) (by decide)) fun r1 h1 => ?_
  refine Ok.ite (fun c => ?_) (fun c => ?_)
  · exact Ok.bind (large_ok h1.2) fun r hr => Ok.pure hr
  · refine Ok.bind (world_ok h1.2) fun r hr => Ok.pure ?_
    obtain ⟨n, q, P, line, a, b, _, d⟩ := hr
    exact ⟨n, q, P, line, a, b, d⟩
theorem lmoved_ok (hn : 1 ≤ n ∧ n ≤ 16) (hq : 2 ≤ q ∧ q ≤ 10) (hP : GoodW n rk P) (hw : worldOf n q P w) (hs : StOk n q s) (h0 : 0 ≤ l) (h1 : l < n) : m__law_moved w s l = some (mv n q P s l) := by
  obtain ⟨w1, w2, w3, w4, w5, w6⟩ := hw
  refine Ok.of ?_
  unfold m__law_moved
  simp only [bs, w2, w5]
  rw [st_ix hs h0 h1, bs, bs]
  have es : s = (rangeL 0 n).map (ht s) := (ht_eq_map hs.len).symm
  have e1 : x_set s l (s.getD l.toNat 0 - 1) = some ((rangeL 0 n).map fun x => if x = l then ht s l - 1 else ht s x) := by
    conv => lhs; rw [es]
    rw [set_map h0 h1, ← es]
  rw [e1, bs, map_range_ix h0 h1, bs]
  refine Ok.fold (fun p r => r = (rangeL 0 n).map fun x => if x = l then ht s x - 1 else if x ∈ p then td q (ht s x) else ht s x) ?_ ?_ ?_
  · refine List.map_congr_left fun x _ => ?_
    by_cases e : x = l
    · rw [if_pos e, if_pos e, e]
    · rw [if_neg e, if_neg e, if_neg (by simp)]
  · rintro p x r b e rfl
    have hx : x ∈ belowL n P l := by rw [e]; simp
    have nd : (belowL n P l).Nodup := below_nd l
    obtain ⟨⟨x0, x1⟩, d⟩ := mem_below hP hx
    have ne : x ≠ l := fun q => by
      subst q
      have := dnB_irr hP x
      rw [dnB_iff.mpr d] at this
      cases this
    have nx : x ∉ p := fun m => by
      rw [e] at nd
      exact (List.nodup_append.mp nd).2.2 x m x (List.mem_cons_self ..) rfl
    rw [ix_ht (by rw [List.length_map, length_rangeL]) x0 x1, bs, bs, ht_map x0 x1, if_neg ne, if_neg nx, x_mod_pos (by omega), bs, set_map x0 x1, bs]
    refine Ok.pure (List.map_congr_left fun y _ => ?_)
    have hb : 0 ≤ ht s x ∧ ht s x < (q : Int) := getD_ok hs x0 x1
    by_cases e1 : y = x
    · subst e1
      rw [if_pos rfl, if_neg ne, if_pos (by simp)]
      unfold td
      by_cases z : 0 < ht s y
      · rw [if_pos z, Int.emod_eq_of_lt (by omega) (by omega)]
      · have : ht s y = 0 := by omega
        rw [if_neg z, this, Int.zero_sub, ← Int.add_emod_right, Int.emod_eq_of_lt (by omega) (by omega)]
        omega
    · rw [if_neg e1]
      have : (y ∈ p ++ [x]) ↔ y ∈ p := by simp [e1]
      simp only [this]
  · rintro b rfl
    refine Ok.pure (List.map_congr_left fun x hx => ?_)
    simp only [mem_belowL hP, ← dnB_iff]
theorem llit_ok (hn : 1 ≤ n ∧ n ≤ 16) (hP : GoodW n rk P) (hw : worldOf n q P w) (hs : StOk n q s) (h0 : 0 ≤ l) (h1 : l < n) : m__law_lit_beneath w s l = some ((belowL n P l).filter fun m => decide (0 < ht s m)) := by
  obtain ⟨w1, w2, w3, w4, w5, w6⟩ := hw
  unfold m__law_lit_beneath
  simp only [bs, w5]
  rw [map_range_ix h0 h1, bs]
  refine x_comp_filter (fun m => decide (0 < ht s m)) (by have := below_le (n := n) (P := P) (l := l); omega) fun x hx => ?_
  have := (mem_below hP hx).1
  rw [st_ix hs this.1 this.2, bs]
theorem filter_nil_all {α : Type} [DecidableEq α] (p : α → Bool) (xs : List α) : decide (xs.filter p = []) = xs.all fun x => !p x := by
  rw [Bool.eq_iff_iff, decide_eq_true_eq, List.filter_eq_nil_iff, List.all_eq_true]
  constructor
  · intro h x hx
    have := h x hx
    simpa using this
  · intro h x hx
    have := h x hx
    simpa using this
theorem lmay_ok (hn : 1 ≤ n ∧ n ≤ 16) (hP : GoodW n rk P) (hw : worldOf n q P w) (hs : StOk n q s) (h0 : 0 ≤ l) (h1 : l < n) (b : Bool) : m__law_may w s l b = some (decide (0 < ht s l) && (!b || (belowL n P l).all fun m => !decide (0 < ht s m))) := by
  unfold m__law_may
  simp only [bs]
  rw [st_ix hs h0 h1, bs, bs, llit_ok hn hP hw hs h0 h1, bs, filter_nil_all]
  by_cases e : s.getD l.toNat 0 < 1
  · have : ¬ 0 < ht s l := by show ¬ 0 < s.getD l.toNat 0; omega
    rw [decide_eq_true e, if_pos rfl, decide_eq_false this]
    rfl
  · have : 0 < ht s l := by show 0 < s.getD l.toNat 0; omega
    rw [decide_eq_false e, if_neg Bool.false_ne_true, orM_some, decide_eq_true this]
    rfl
theorem lmay_c (hn : 1 ≤ n ∧ n ≤ 16) (hP : GoodW n rk P) (hw : worldOf n q P w) (hs : StOk n q s) (h0 : 0 ≤ l) (h1 : l < n) : m__law_may w s l true = some (cfB n P s l) := lmay_ok hn hP hw hs h0 h1 true
theorem endS_snoc {r : List Int} : endS n q P s (r ++ [l]) = mv n q P (endS n q P s r) l := by simp [endS]
theorem careful_snoc : ∀ {r : List Int} {s : List Int}, Careful n q P s r → (0 ≤ l ∧ l < (n : Int)) → cfB n P (endS n q P s r) l = true → Careful n q P s (r ++ [l])
  | [], s, _, h1, h2 => ⟨h1, h2, True.intro⟩
  | x :: r, s, ⟨a, b, d⟩, h1, h2 => ⟨a, b, careful_snoc d h1 h2⟩
theorem careful_end (hq : 1 ≤ q) : ∀ {r : List Int} {s : List Int}, StOk n q s → Careful n q P s r → StOk n q (endS n q P s r)
  | [], s, hs, _ => hs
  | x :: r, s, hs, ⟨a, b, d⟩ => careful_end (r := r) (s := mv n q P s x) hq (mv_ok hs (cf_lit b) hq) d
theorem lrun_ok (hn : 1 ≤ n ∧ n ≤ 16) (hq : 2 ≤ q ∧ q ≤ 10) (hP : GoodW n rk P) (hw : worldOf n q P w) (hs : StOk n q s) {b : R_bag} (hb : BagOk b) : Ok (m__law_run b w s true 24) fun r => Careful n q P s r.1 ∧ r.1.length ≤ 24 ∧ BagOk r.2 := by
  have hw' := hw
  obtain ⟨w1, w2, w3, w4, w5, w6⟩ := hw'
  unfold m__law_run
  simp only [bs, w1]
  refine Ok.bind (draw_ok hb (by decide) (by decide)) fun r1 h1 => ?_
  obtain ⟨⟨a0, a1⟩, hb1⟩ := h1
  rw [x_range_int a0 (by omega), bs]
  refine Ok.forK (i := 0) (fun (j : Nat) (b : R_bag × List Int × List Int) => BagOk b.1 ∧ b.2.1 = endS n q P s b.2.2 ∧ Careful n q P s b.2.2 ∧ b.2.2.length ≤ j ∧ j ≤ 24) ⟨hb1, rfl, True.intro, by simp, by omega⟩ ?_ ?_
  · rintro j ⟨bg, s', tr⟩ x kn kb hx _ hj ⟨i1, i2, i3, i4, _⟩ hkn hkb
    dsimp only at i1 i2 i3 i4 ⊢
    subst i2
    rw [length_rangeL] at hj
    have hs' := careful_end (by omega) hs i3
    rw [x_range_nat (by omega), bs, x_comp_filter (cfB n P (endS n q P s tr)) (by rw [length_rangeL]; omega) (fun y hy => lmay_c hn hP hw hs' (mem_rangeL.mp hy).1 (mem_rangeL.mp hy).2), bs]
    refine Ok.ite (fun c => ?_) (fun c => ?_)
    · exact hkb j _ ⟨i1, rfl, i3, i4, by omega⟩
    · generalize hF : (rangeL 0 n).filter (cfB n P (endS n q P s tr)) = F at c ⊢
      have hne : F ≠ [] := of_decide_eq_false c
      have hFl : 0 < F.length := List.length_pos_iff.mpr hne
      have hF16 : F.length ≤ n := by rw [← hF]; exact Nat.le_trans (List.length_filter_le _ _) (by rw [length_rangeL]; omega)
      refine Ok.bind (draw_ok i1 (by omega) (by omega)) fun r2 h2 => ?_
      obtain ⟨⟨d0, d1⟩, hb2⟩ := h2
      obtain ⟨k, hk⟩ := Int.eq_ofNat_of_zero_le d0
      have hkl : k < F.length := by omega
      rw [hk, x_ix_nat hkl, bs]
      have hm : F[k] ∈ (rangeL 0 n).filter (cfB n P (endS n q P s tr)) := by rw [hF]; exact List.getElem_mem hkl
      obtain ⟨m1, m2⟩ := List.mem_filter.mp hm
      have hr := mem_rangeL.mp m1
      rw [x_app_eq (by omega), bs, lmoved_ok hn hq hP hw hs' hr.1 hr.2, bs]
      exact hkn _ ⟨hb2, endS_snoc.symm, careful_snoc i3 hr m2, by simp; omega, by omega⟩
  · rintro j ⟨bg, s', tr⟩ ⟨i1, i2, i3, i4, i5⟩
    exact Ok.pure ⟨i3, by dsimp only at i4 ⊢; omega, i1⟩
theorem lcounts_ok (hn : 1 ≤ n ∧ n ≤ 16) (hq : 2 ≤ q ∧ q ≤ 10) (hP : GoodW n rk P) (hw : worldOf n q P w) (hs : StOk n q s) (hr : StOk n q t) : Ok (m__law_counts w s t false) fun c => c.length = n ∧ IsG n q P s t (ht c) := by
  obtain ⟨w1, w2, w3, w4, w5, w6⟩ := hw
  have ol : (gr n (aboveL n P) n).length = n := gr_len (up_ok hP) n (Nat.le_refl _)
  unfold m__law_counts
  simp only [bs, w1, w2, w4, w6]
  rw [x_rep1 (by omega) (by omega), bs, Int.toNat_natCast]
  refine Ok.fold (fun p c => c.length = n ∧ (∀ x : Int, (ht c x).natAbs ≤ 2 ^ (8 * p.length)) ∧ ∀ x ∈ p, ht c x = ht s x - ht t x + ((q : Int) - 1) * ((aboveL n P x).map (ht c)).sum) ⟨by simp, fun x => by rw [ht_rep x]; simp, fun x hx => by cases hx⟩ ?_ ?_
  · rintro p x r c e ⟨h1, h2, h3⟩
    obtain ⟨⟨x0, x1⟩, ab, nx, _⟩ := order_split hP e
    have hp : p.length ≤ 16 := by
      have := congrArg List.length e
      rw [ol] at this
      simp at this
      omega
    have al := above_le (n := n) (P := P) (l := x)
    have hS : ((aboveL n P x).map (ht c)).sum.natAbs ≤ 16 * 2 ^ (8 * p.length) := Nat.le_trans (sum_abs fun y _ => h2 y) (Nat.mul_le_mul_right _ (by omega))
    have hS2 : ((aboveL n P x).map (ht c)).sum.natAbs ≤ 2 ^ (8 * p.length + 4) := by rw [Nat.pow_add]; omega
    rw [map_range_ix x0 x1, bs, x_comp_map (ht c) (by omega) (fun y hy => ix_ht h1 (mem_above hP hy).1.1 (mem_above hP hy).1.2), bs, bs, st_ix hs x0 x1, bs, st_ix hr x0 x1, bs, bs, x_mul_wide (i := (q : Int) - 1) (a := 4) (by show _ ≤ 16; omega) hS2 (by decide) (by omega), bs, bs]
    simp only [Bool.false_eq_true, if_false, bs]
    obtain ⟨c', e2, l2, g2⟩ := set_ht (y := s.getD x.toNat 0 - t.getD x.toNat 0 + ((q : Int) - 1) * ((aboveL n P x).map (ht c)).sum) h1 x0 x1
    rw [e2, bs]
    have keep : ∀ y ∈ p ++ [x], (aboveL n P y).map (ht c') = (aboveL n P y).map (ht c) := fun y hy => List.map_congr_left fun u hu => by
      rw [g2 u (mem_above hP hu).1.1, if_neg]
      rintro rfl
      rcases List.mem_append.mp hy with hy | hy
      · obtain ⟨pa, pb, ep⟩ := List.append_of_mem hy
        have e' : gr n (aboveL n P) n = pa ++ y :: (pb ++ u :: r) := by rw [e, ep]; simp
        have := (order_split hP e').2.1 u hu
        exact nx (by rw [ep]; exact List.mem_append_left _ this)
      · have : y = u := by simpa using hy
        subst this
        exact nx (ab y hu)
    have e1 : (((q : Int) - 1) * ((aboveL n P x).map (ht c)).sum).natAbs ≤ 9 * (16 * 2 ^ (8 * p.length)) := by
      rw [Int.natAbs_mul]
      exact Nat.mul_le_mul (by omega) hS
    have hst := getD_ok hs x0 x1
    have hrt := getD_ok hr x0 x1
    refine Ok.pure ⟨l2, fun y => ?_, fun y hy => ?_⟩
    · rw [List.length_append, List.length_singleton]
      have p8 := pow8 p.length
      have mono : 2 ^ (8 * p.length) ≤ 2 ^ (8 * (p.length + 1)) := Nat.pow_le_pow_right (by decide) (by omega)
      by_cases y0 : 0 ≤ y
      · rw [g2 y y0]
        split
        · omega
        · exact Nat.le_trans (h2 y) mono
      · have ey : ht c' y = ht c' 0 := by
          unfold ht
          rw [show y.toNat = (0 : Int).toNat from by omega]
        rw [ey, g2 0 (by decide)]
        split
        · omega
        · exact Nat.le_trans (h2 0) mono
    · rw [keep y hy]
      rcases List.mem_append.mp hy with hy' | hy'
      · have y0 : 0 ≤ y := by
          have := gr_mem (n := n) (up := aboveL n P) n y (by rw [e]; exact List.mem_append_left _ hy')
          omega
        have ne : y ≠ x := fun q => nx (q ▸ hy')
        rw [g2 y y0, if_neg ne]
        exact h3 y hy'
      · have : y = x := by simpa using hy'
        subst this
        rw [g2 y x0, if_pos rfl]
  · rintro c ⟨h1, _, h3⟩
    refine Ok.pure ⟨h1, fun l l0 l1 => h3 l ?_⟩
    exact (gr_perm (up_ok hP)).mem_iff.mpr (mem_rangeL.mpr ⟨l0, l1⟩)
/-- the counts of a careful run -/
theorem isG_run (hq : 1 ≤ q) (hP : GoodW n rk P) : ∀ (r : List Int) (s : List Int), StOk n q s → Careful n q P s r → ∃ g : Int → Int, IsG n q P s (endS n q P s r) g ∧ (∀ l : Int, 0 ≤ l → l < n → 0 ≤ g l) ∧ ((rangeL 0 n).map g).sum = r.length
  | [], s, hs, _ => ⟨fun _ => 0, isG_self, fun _ _ _ => Int.le_refl 0, ss_zero fun _ _ => rfl⟩
  | x :: r, s, hs, ⟨a, b, d⟩ => by
    obtain ⟨g, h1, h2, h3⟩ := isG_run hq hP r (mv n q P s x) (mv_ok hs (cf_lit b) hq) d
    refine ⟨fun y => g y + if y = x then 1 else 0, isG_back hP hs b h1, fun l l0 l1 => ?_, ?_⟩
    · have := h2 l l0 l1
      dsimp only
      split <;> omega
    · rw [ss_add, h3, ss_one nodup_rangeL, if_pos (mem_rangeL.mpr a), List.length_cons]
      omega
theorem gd_run (hq : 1 ≤ q) (hP : GoodW n rk P) {r : List Int} (hs : StOk n q s) (hc : Careful n q P s r) {c : List Int} (h1 : c.length = n) (h2 : IsG n q P s (endS n q P s r) (ht c)) : Gd n q P s (endS n q P s r) c r.length := by
  obtain ⟨g, g1, g2, g3⟩ := isG_run hq hP r s hs hc
  have e := isG_uniq hP h2 g1
  refine ⟨hs, careful_end hq hs hc, h1, h2, fun l l0 l1 => by rw [e l l0 l1]; exact g2 l l0 l1, ?_⟩
  rw [← ht_eq_map h1, ← g3]
  congr 1
  exact List.map_congr_left fun x hx => e x (mem_rangeL.mp hx).1 (mem_rangeL.mp hx).2
theorem lis_run_ok (hw : worldOf n q P w) {r : List Int} (hr : ∀ x ∈ r, 0 ≤ x ∧ x < (n : Int)) : m__law_is_run w r = some true := by
  obtain ⟨w1, _⟩ := hw
  unfold m__law_is_run
  simp only [bs, w1, Bool.not_true, Bool.false_eq_true, if_false]
  rw [forK_find (fun _ => false) (fun _ => some false) fun k kn kb hk => ?_]
  · rw [List.find?_eq_none.mpr fun _ _ => Bool.false_ne_true]
  · have := hr k hk
    rw [law_int, bs, bs, decide_eq_false (show ¬ k < 0 by omega), decide_eq_false (show ¬ (n : Int) ≤ k by omega)]
    simp [orM]
theorem due_go {k : List Int × List Int × List Int → Option (List Int)} {f : List Int × List Int × List Int → Int → (List Int × List Int × List Int → Option (List Int)) → (List Int × List Int × List Int → Option (List Int)) → Option (List Int)} (hq : 1 ≤ q) (hP : GoodW n rk P)
    (hf : ∀ c s a x j kn kb, Gd n q P s t c j → a.length ≤ 1000 → f (c, a, s) x kn kb = match pick n P s (ht c) with | some l => kn (c.set l.toNat (ht c l - 1), a ++ [l], mv n q P s l) | none => kb (c, a, s)) :
    ∀ (xs : List Int) (j : Nat) (s c a : List Int), Gd n q P s t c j → j ≤ xs.length → a.length + j ≤ 1000 → ∃ c' s', forK f k xs (c, a, s) = k (c', a ++ trl n q P j s c, s')
  | [], j, s, c, a, g, hj, _ => by
    have : j = 0 := by simpa using hj
    subst this
    exact ⟨c, s, by simp [forK, trl]⟩
  | x :: xs, 0, s, c, a, g, hj, ha => by
    refine ⟨c, s, ?_⟩
    show f (c, a, s) x _ _ = _
    rw [hf c s a x 0 _ _ g (by omega), pick_zero (g.zero hP).2]
    simp [trl]
  | x :: xs, j + 1, s, c, a, g, hj, ha => by
    obtain ⟨l, ep, hl, hc, _, g'⟩ := g.step hq hP
    obtain ⟨c', s', h'⟩ := due_go hq hP hf xs j _ _ (a ++ [l]) g' (by simpa using hj) (by simp; omega)
    refine ⟨c', s', ?_⟩
    show f (c, a, s) x _ _ = _
    rw [hf c s a x (j + 1) _ _ g (by omega), ep]
    dsimp only
    rw [h', trl, ep]
    simp
theorem due_ok (hn : 1 ≤ n ∧ n ≤ 16) (hq : 2 ≤ q ∧ q ≤ 10) (hP : GoodW n rk P) (hw : worldOf n q P w) {k : Nat} (g : Gd n q P s t c k) (hk : k ≤ 24) : m__law_due_run w s t = some (trl n q P k s c) := by
  refine Ok.of ?_
  have hw' := hw
  obtain ⟨w1, w2, w3, w4, w5, w6⟩ := hw'
  unfold m__law_due_run
  simp only [bs, w1]
  refine Ok.bind (lcounts_ok hn hq hP hw g.hs g.hr) fun c' hc' => ?_
  have := g.uniq hP hc'.1 hc'.2
  subst this
  rw [x_range_a (by decide) (by decide) (by decide) (by decide), bs]
  obtain ⟨c2, s2, e⟩ := due_go (t := t) (k := fun bx1827 => some bx1827.snd.fst) (f := fun bx1827 y1828 k1830 k1831 => ((x_range 0 (n : Int)).bind fun z1839 => x_comp (fun y1834 => (x_ix bx1827.fst y1834).bind fun z1837 => some (decide (0 < z1837))) (fun y1834 => some y1834) z1839).bind fun open_lamps1840 => (x_comp (fun y1842 => m__law_may w bx1827.snd.snd y1842 true) (fun y1834 => some y1834) open_lamps1840).bind fun ready1851 => if decide (ready1851 = []) = true then k1831 (bx1827.fst, bx1827.snd.fst, bx1827.snd.snd) else (x_ix ready1851 0).bind fun lamp1858 => ((x_ix bx1827.fst lamp1858).bind fun z1862 => some (z1862 - 1)).bind fun y1864 => (x_set bx1827.fst lamp1858 y1864).bind fun left1866 => (x_app bx1827.snd.fst lamp1858).bind fun trail1869 => (m__law_moved w bx1827.snd.snd lamp1858).bind fun state_here1876 => k1830 (left1866, trail1869, state_here1876)) (by omega) hP (fun c s a x j kn kb g ha => by
    dsimp only
    have hfl : ((rangeL 0 n).filter fun l => decide (0 < ht c l)).length ≤ n := Nat.le_trans (List.length_filter_le _ _) (by rw [length_rangeL]; omega)
    rw [x_range_nat (by omega), bs, x_comp_filter (fun l => decide (0 < ht c l)) (by rw [length_rangeL]; omega) (fun y hy => by rw [ix_ht g.len (mem_rangeL.mp hy).1 (mem_rangeL.mp hy).2, bs]), bs]
    rw [x_comp_filter (cfB n P s) (by omega) (fun y hy => by
      have hy' := mem_rangeL.mp (List.mem_filter.mp hy).1
      exact lmay_c hn hP hw g.hs hy'.1 hy'.2), bs, List.filter_filter]
    have ep : pick n P s (ht c) = ((rangeL 0 n).filter fun a => cfB n P s a && decide (0 < ht c a)).head? := by
      unfold pick
      rw [List.head?_filter]
      congr 1
      funext a
      exact Bool.and_comm _ _
    rw [ep]
    cases hF : (rangeL 0 n).filter fun a => cfB n P s a && decide (0 < ht c a) with
    | nil =>
      rw [decide_eq_true rfl, if_pos rfl]
      rfl
    | cons l F =>
      have hm : l ∈ (rangeL 0 n).filter fun a => cfB n P s a && decide (0 < ht c a) := by rw [hF]; exact List.mem_cons_self ..
      have hl := mem_rangeL.mp (List.mem_filter.mp hm).1
      rw [decide_eq_false (by simp), if_neg Bool.false_ne_true, x_ix0, bs, ix_ht g.len hl.1 hl.2, bs, bs, x_set_nat hl.1 (by rw [g.len]; exact hl.2), bs, x_app_eq (by omega), bs, lmoved_ok hn hq hP hw g.hs hl.1 hl.2, bs]
      rfl) (rangeL 0 24) k s c' [] g (by rw [length_rangeL]; exact hk) (by simp; omega)
  refine ⟨_, e, ?_⟩
  simp
end
end HF

set_option Elab.async false
set_option linter.all false
set_option maxRecDepth 100000
set_option maxHeartbeats 1000000
/-! MathX: k77, the law. -/
namespace HF
open PySem PySem.Spec L2
open PyProof.Rows hiding St
section
variable {n q : Nat} {P : List (Int × Int)} {w : R_world} {h : HouseD} {rk : Int → Nat} {s t c : List Int} {l : Int}
theorem downs_eq (hn : 1 ≤ n ∧ n ≤ 16) (hq : 2 ≤ q ∧ q ≤ 10) (hP : GoodW n rk P) (hw : worldOf n q P w) (hs : StOk n q s) : m__law_downs w s = some (downs n q P s) := by
  have hw' := hw
  obtain ⟨w1, _⟩ := hw'
  unfold m__law_downs
  simp only [bs, w1]
  rw [x_range_nat (by omega), bs, x_comp_filter (cfB n P s) (by rw [length_rangeL]; omega) (fun y hy => lmay_c hn hP hw hs (mem_rangeL.mp hy).1 (mem_rangeL.mp hy).2), bs]
  refine x_comp_map (fun l => (l, mv n q P s l)) (Nat.le_trans (List.length_filter_le _ _) (by rw [length_rangeL]; omega)) fun x hx => ?_
  obtain ⟨x0, x1⟩ := mem_rangeL.mp (List.mem_filter.mp hx).1
  rw [lmoved_ok hn hq hP hw hs x0 x1, bs]
theorem raised_eq (hn : 1 ≤ n ∧ n ≤ 16) (hP : GoodW n rk P) (hw : worldOf n q P w) (hs : StOk n q s) (h0 : 0 ≤ l) (h1 : l < n) : m__law_raised w s l = some (rsd n P s l) := by
  obtain ⟨w1, w2, w3, w4, w5, w6⟩ := hw
  refine Ok.of ?_
  unfold m__law_raised
  simp only [bs, w5]
  rw [st_ix hs h0 h1, bs, bs, rsd_start hs h0 h1, bs, map_range_ix h0 h1, bs]
  refine Ok.fold (fun p r => r = (rangeL 0 n).map fun x => if x = l then ht s x + 1 else if x ∈ p then 0 else ht s x) rfl ?_ ?_
  · rintro p x r b e rfl
    have hx : x ∈ belowL n P l := by rw [e]; simp
    obtain ⟨⟨x0, x1⟩, d⟩ := mem_below hP hx
    have ne : x ≠ l := fun q => by
      subst q
      have := dnB_irr hP x
      rw [dnB_iff.mpr d] at this
      cases this
    rw [rsd_go x0 x1 ne, bs]
    exact Ok.pure rfl
  · rintro b rfl
    exact Ok.pure (rsd_end hP)
theorem ups_eq (hn : 1 ≤ n ∧ n ≤ 16) (hP : GoodW n rk P) (hw : worldOf n q P w) (hs : StOk n q s) : m__law_ups w s = some (ups n q P s) := by
  have hw' := hw
  obtain ⟨w1, w2, w3, w4, w5, w6⟩ := hw'
  refine Ok.of ?_
  unfold m__law_ups
  simp only [bs, w1, w2, w5]
  rw [x_range_nat (by omega), bs]
  refine Ok.fold (fun p b => b = (p.filter (upB n q P s)).map (fun l => (l, rsd n P s l)) ∧ b.length ≤ p.length) ⟨rfl, by simp⟩ ?_ ?_
  · rintro p x r b e ⟨i1, i2⟩
    have hx : x ∈ rangeL 0 n := by rw [e]; simp
    have hp : p.length < 1000 := by
      have := congrArg List.length e
      rw [length_rangeL] at this
      simp at this
      omega
    obtain ⟨x0, x1⟩ := mem_rangeL.mp hx
    have al := below_le (n := n) (P := P) (l := x)
    rw [map_range_ix x0 x1, bs, x_comp_filter (fun m => decide (ht s m < (q : Int) - 1)) (by omega) (fun y hy => by rw [st_ix hs (mem_below hP hy).1.1 (mem_below hP hy).1.2, bs]), bs, st_ix hs x0 x1, bs, bs, andM_some, bs, filter_nil_all]
    cases hu : upB n q P s x with
    | true =>
      have hu' := hu
      unfold upB at hu'
      rw [show (decide (s.getD x.toNat 0 < (q : Int) - 1) && (belowL n P x).all fun m => !decide (ht s m < (q : Int) - 1)) = true from hu', if_pos rfl, raised_eq hn hP hw hs x0 x1, bs, bs, x_app_eq (by omega), bs]
      refine Ok.pure ⟨?_, by simp; omega⟩
      rw [List.filter_append, List.map_append, ← i1]
      simp [hu]
    | false =>
      have hu' := hu
      unfold upB at hu'
      rw [show (decide (s.getD x.toNat 0 < (q : Int) - 1) && (belowL n P x).all fun m => !decide (ht s m < (q : Int) - 1)) = false from hu', if_neg Bool.false_ne_true]
      refine Ok.pure ⟨?_, by simp; omega⟩
      rw [List.filter_append, List.map_append, ← i1]
      simp [hu]
  · rintro b ⟨i1, _⟩
    exact Ok.pure i1
theorem filter_le (p : Int → Bool) : ((rangeL 0 n).filter p).length ≤ n := Nat.le_trans (List.length_filter_le _ _) (by rw [length_rangeL]; omega)
theorem cover_mv (hP : GoodW n rk P) (h0 : 0 ≤ l) (h1 : l < n) (hl : 0 < ht s l) : (((rangeL 0 n).filter (cfB n P s)).any fun m => decide (mv n q P s m = mv n q P s l)) = cfB n P s l := by
  rw [Bool.eq_iff_iff, List.any_eq_true]
  constructor
  · rintro ⟨m, hm, e⟩
    obtain ⟨m1, m2⟩ := List.mem_filter.mp hm
    have := mv_inj hP ⟨mem_rangeL.mp m1, cf_lit m2⟩ ⟨⟨h0, h1⟩, hl⟩ (of_decide_eq_true e)
    rw [← this]
    exact m2
  · intro hc
    exact ⟨l, List.mem_filter.mpr ⟨mem_rangeL.mpr ⟨h0, h1⟩, hc⟩, decide_eq_true rfl⟩
theorem neigh_ok (hn : 1 ≤ n ∧ n ≤ 16) (hq : 2 ≤ q ∧ q ≤ 10) (hP : GoodW n rk P) (hw : worldOf n q P w) (hh : HouseOk n q P h) (hs : StOk n q s) : m__law_neighbours_right w h s = some true := by
  have hw' := hw
  obtain ⟨w1, _⟩ := hw'
  have hdl : (downs n q P s).length ≤ n := by unfold downs; rw [List.length_map]; exact filter_le _
  have hul : (ups n q P s).length ≤ n := by unfold ups; rw [List.length_map]; exact filter_le _
  have hd2 : ∀ x ∈ downs n q P s, x.2.length ≤ 1000 := fun x hx => by
    obtain ⟨l, _, rfl⟩ := List.mem_map.mp hx
    show (mv n q P s l).length ≤ 1000
    rw [mv_len]
    omega
  have hu2 : ∀ x ∈ ups n q P s, x.2.length ≤ 1000 := fun x hx => by
    obtain ⟨l, _, rfl⟩ := List.mem_map.mp hx
    show (rsd n P s l).length ≤ 1000
    unfold rsd
    rw [List.length_map, length_rangeL]
    omega
  unfold m__law_neighbours_right
  simp only [bs, w1]
  rw [downs_eq hn hq hP hw hs, bs, covered_by_ok (by omega) hP hh hs]
  simp only [bs]
  rw [same_pairs_ok (by omega) hd2]
  simp only [bs, Bool.not_true, Bool.false_eq_true, if_false]
  rw [x_app_eq (by omega), bs, covers_of_ok (by omega) hP hh hs, bs, ups_eq hn hP hw hs]
  simp only [bs]
  rw [same_pairs_ok (by omega) hu2]
  simp only [bs, Bool.not_true, Bool.false_eq_true, if_false]
  rw [x_range_nat (by omega), bs, forK_find (fun _ => false) (fun _ => some false) fun l kn kb hl => ?_]
  · rw [List.find?_eq_none.mpr fun _ _ => Bool.false_ne_true]
  · obtain ⟨l0, l1⟩ := mem_rangeL.mp hl
    rw [st_ix hs l0 l1, bs, bs]
    by_cases z : 0 < s.getD l.toNat 0
    · have hm := mv_ok (P := P) (l := l) hs z (by omega)
      rw [decide_eq_true z, if_pos rfl, lmay_c hn hP hw hs l0 l1, bs, lmoved_ok hn hq hP hw hs l0 l1]
      simp only [bs]
      rw [is_cover_ok (by omega) hP hh hs hm, bs, cover_mv hP l0 l1 z]
      simp only [orM, bs, decide_true, Bool.not_true, Bool.false_eq_true, if_false]
    · rw [decide_eq_false z, if_neg Bool.false_ne_true, if_neg Bool.false_ne_true]
theorem no_cover (hn : n ≤ 1000) (hP : GoodW n rk P) (hh : HouseOk n q P h) {v : Int → Int} (hv : IsW n q P v) (hs : StOk n q s) (hr : StOk n q t) (ne : wo n v s ≠ wo n v t + 1) : m_is_cover h s t = some false := by
  rw [is_cover_ok hn hP hh hs hr]
  congr 1
  refine Bool.eq_false_iff.mpr fun ha => ?_
  obtain ⟨m, hm, e⟩ := List.any_eq_true.mp ha
  obtain ⟨m1, m2⟩ := List.mem_filter.mp hm
  obtain ⟨m0, m1'⟩ := mem_rangeL.mp m1
  have := worth_move hP hv hs m0 m1' m2
  rw [of_decide_eq_true e] at this
  exact ne (by omega)
theorem lno_cover (hn : n ≤ 1000) (hP : GoodW n rk P) (hh : HouseOk n q P h) {v : Int → Int} (hv : IsW n q P v) (hs : StOk n q s) (hr : StOk n q t) (ne : wo n v s ≠ wo n v t + 1) : m__law_no_cover h s t = some true := by
  unfold m__law_no_cover
  simp only [bs]
  rw [no_cover hn hP hh hv hs hr ne, bs]
  rfl
theorem along_len : ∀ {r : List Int} {s : List Int}, (along' n q P s r).length = r.length + 1
  | [], _ => rfl
  | x :: r, s => by rw [along', List.length_cons, along_len, List.length_cons]
theorem along_get : ∀ {r : List Int} {s : List Int} {i : Nat}, i ≤ r.length → (along' n q P s r)[i]? = some (endS n q P s (r.take i))
  | [], s, i, h => by
    have : i = 0 := by simpa using h
    subst this
    rfl
  | x :: r, s, 0, h => rfl
  | x :: r, s, i + 1, h => by
    show (along' n q P (mv n q P s x) r)[i]? = _
    rw [along_get (by simpa using h)]
    rfl
theorem steps_ok (hn : 1 ≤ n ∧ n ≤ 16) (hq : 2 ≤ q ∧ q ≤ 10) (hP : GoodW n rk P) (hh : HouseOk n q P h) {v : Int → Int} (hv : IsW n q P v) {k : Nat} (g : Gd n q P s t c k) (hk : k ≤ 24) : m__law_steps_right h (along' n q P s (trl n q P k s c)) (trl n q P k s c) = some true := by
  have hq1 : 1 ≤ q := by omega
  obtain ⟨hl, hc, he⟩ := trl_all hq1 hP k s c g
  have hat : ∀ i, i ≤ k → ∃ ci, Gd n q P (endS n q P s ((trl n q P k s c).take i)) t ci (k - i) ∧ trl n q P (k - i) (endS n q P s ((trl n q P k s c).take i)) ci = (trl n q P k s c).drop i := fun i hi => by
    obtain ⟨si, ci, h1, h2, h3⟩ := trl_at hq1 hP i k s c g hi
    rw [along_get (by omega)] at h1
    cases h1
    exact ⟨ci, h2, h3⟩
  have hsl : (along' n q P s (trl n q P k s c)).length = k + 1 := by rw [along_len, hl]
  have hlast : x_ix (along' n q P s (trl n q P k s c)) (-1) = some t := x_ix_last (by
    rw [hsl, Nat.add_sub_cancel, along_get (by omega), List.take_of_length_le (show (trl n q P k s c).length ≤ k by omega), he])
  generalize hT : trl n q P k s c = T at *
  generalize hA : along' n q P s T = A at *
  have hget : ∀ i : Nat, i ≤ k → x_ix A (i : Int) = some (endS n q P s (T.take i)) := fun i hi => by
    rw [← hA, x_ix_get (by omega) (a := endS n q P s (T.take i)) (by rw [Int.toNat_natCast]; exact along_get (by omega))]
  unfold m__law_steps_right
  simp only [bs]
  rw [x_range_nat (by omega), bs, forK_find (fun _ => false) (fun _ => some false) fun i kn kb hi => ?_]
  · rw [List.find?_eq_none.mpr fun _ _ => Bool.false_ne_true]
    dsimp only
    rw [hlast]
    simp only [bs]
    obtain ⟨ck, gk, _⟩ := hat k (Nat.le_refl _)
    have e0 : endS n q P s (T.take k) = t := by rw [← hl, List.take_length, he]
    rw [Nat.sub_self, e0] at gk
    rw [next_ok hn hq hP hh gk]
    rfl
  · obtain ⟨i0, i1⟩ := mem_rangeL.mp hi
    obtain ⟨i, rfl⟩ := Int.eq_ofNat_of_zero_le i0
    have hik : i < k := by omega
    obtain ⟨ci, gi, ti⟩ := hat i (by omega)
    obtain ⟨m, em⟩ := Nat.exists_eq_add_of_lt hik
    have ekm : k - i = m + 1 := by omega
    rw [ekm] at gi ti
    obtain ⟨l, ep, hll, hcl, _, g'⟩ := gi.step hq1 hP
    have etl : T.drop i = l :: trl n q P m (mv n q P (endS n q P s (T.take i)) l) (ci.set l.toNat (ht ci l - 1)) := by rw [← ti, trl, ep]
    have hTi : T[i]? = some l := by
      have := congrArg (fun z => z[0]?) etl
      simpa using this
    have hnx : endS n q P s (T.take (i + 1)) = mv n q P (endS n q P s (T.take i)) l := by
      rw [List.take_add_one, hTi]
      exact endS_snoc
    generalize hsi : endS n q P s (T.take i) = si at *
    have hsi' := gi.hs
    have hsn := g'.hs
    have w1 := worth_move hP hv hsi' hll.1 hll.2 hcl
    have ei1 : ((i : Int) + 1) = ((i + 1 : Nat) : Int) := by omega
    have hcov : m_is_cover h si (mv n q P si l) = some true := by rw [is_cover_ok (by omega) hP hh hsi' hsn, cover_mv hP hll.1 hll.2 (cf_lit hcl), hcl]
    rw [hlast, ei1, hget i (by omega), hget (i + 1) (by omega), hsi, hnx]
    simp only [bs]
    rw [hcov]
    simp only [bs, decide_true, Bool.not_true, Bool.false_eq_true, if_false]
    rw [lno_cover (by omega) hP hh hv hsn hsi' (by omega)]
    simp only [bs, Bool.not_true, Bool.false_eq_true, if_false]
    rw [lno_cover (by omega) hP hh hv hsi' hsi' (by omega)]
    simp only [bs, Bool.not_true, Bool.false_eq_true, if_false]
    have h2 : (andM (decide ((i : Int) + 2 < (A.length : Int))) ((((x_ix A ((i : Int) + 2)).bind fun z => some (si, z)).bind fun z => some (h, z)).bind fun a => (m__law_no_cover a.1 a.2.1 a.2.2).bind fun z => some (!z))) = some false := by
      by_cases c2 : (i : Int) + 2 < (A.length : Int)
      · rw [decide_eq_true c2]
        have e2 : ((i : Int) + 2) = ((i + 2 : Nat) : Int) := by omega
        have hi2 : i + 2 ≤ k := by omega
        obtain ⟨c3, g3, _⟩ := hat (i + 2) hi2
        obtain ⟨m', em'⟩ : ∃ m', m = m' + 1 := ⟨m - 1, by omega⟩
        rw [em'] at g'
        obtain ⟨l', ep', hl', hc', _, _⟩ := g'.step hq1 hP
        have w2 := worth_move hP hv hsn hl'.1 hl'.2 hc'
        have hTi2 : T[i + 1]? = some l' := by
          have e1 := congrArg (fun z => z[1]?) etl
          have e2 : T[i + 1]? = (trl n q P m (mv n q P si l) (ci.set l.toNat (ht ci l - 1)))[0]? := by simpa using e1
          rw [e2, em', trl, ep']
          rfl
        have h3 : endS n q P s (T.take (i + 2)) = mv n q P (mv n q P si l) l' := by
          rw [List.take_add_one, hTi2, ← hnx]
          exact endS_snoc
        rw [e2, hget (i + 2) hi2, h3]
        rw [h3] at g3
        simp only [bs]
        rw [lno_cover (by omega) hP hh hv hsi' g3.hs (by omega)]
        rfl
      · rw [decide_eq_false c2]
        rfl
    simp only [Option.bind_assoc, bs] at h2 ⊢
    rw [h2]
    simp only [bs, Bool.false_eq_true, if_false]
    rw [worth_ok hn hq hP hh hv hsi', bs, worth_ok hn hq hP hh hv hsn]
    simp only [bs, law_int, Bool.not_true, orM, Bool.false_eq_true, if_false]
    rw [decide_eq_true (show wo n v si - wo n v (mv n q P si l) = 1 by omega)]
    simp only [bs, Bool.not_true, Bool.false_eq_true, if_false]
    rw [next_ok hn hq hP hh gi, ti, etl]
    simp only [bs, List.head?_cons, law_int, Bool.not_true, Bool.false_eq_true, if_false]
    rw [x_ix_get (xs := T) (i := (i : Int)) (a := l) (by omega) (by rw [Int.toNat_natCast]; exact hTi)]
    simp only [bs, decide_true, Bool.not_true, Bool.false_eq_true, if_false]
    have elim : (T.length : Int) - (i : Int) = ((m + 1 : Nat) : Int) := by omega
    rw [elim, careful_run_ok hn hq hP hh gi (Int.le_refl _) (by omega), ti, cut_from (by omega)]
    simp only [bs, decide_true, Bool.not_true, Bool.false_eq_true, if_false]
end
theorem law_true (ns : List Int) (hl : ns.length ≤ 63) : m_law ns = some true := by
  refine Ok.of ?_
  unfold m_law
  simp only [bs]
  refine Ok.bind (bag_ok hl) fun b hb => ?_
  refine Ok.bind (any_ok hb) fun r1 h1 => ?_
  obtain ⟨n, q, P, line, hn, hq, hP, hPl, hw, hb1⟩ := h1
  have hw' := hw
  obtain ⟨w1, w2, w3, w4, w5, w6⟩ := hw'
  have hq1 : 1 ≤ q := by omega
  rw [w1, w2, w3, Option.bind_assoc]
  refine Ok.bind (house_eq hn hq hP hPl) fun hr hh => ?_
  simp only [bs]
  generalize toHouse hr = h at hh ⊢
  refine Ok.bind (state_ok hb1 hn hq hw) fun r2 h2 => ?_
  obtain ⟨hs, hb2⟩ := h2
  generalize r2.1 = s at hs ⊢
  refine Ok.bind (lrun_ok hn hq hP hw hs hb2) fun r3 h3 => ?_
  obtain ⟨hc, hl3, hb3⟩ := h3
  generalize r3.1 = R at hc hl3 ⊢
  refine Ok.fold (fun p x => x = endS n q P s p ∧ Careful n q P s p) ⟨rfl, True.intro⟩ ?_ ?_
  · rintro p x r b e ⟨rfl, i2⟩
    have hx : 0 ≤ x ∧ x < (n : Int) := careful_lamps hc x (by rw [e]; simp)
    have split : ∀ {a d : List Int} {s : List Int}, Careful n q P s (a ++ d) → Careful n q P (endS n q P s a) d := fun {a} => by
      induction a with
      | nil => exact fun h => h
      | cons y a ih => exact fun h => ih h.2.2
    rw [e] at hc
    have h4 := split hc
    rw [lmoved_ok hn hq hP hw (careful_end hq1 hs i2) hx.1 hx.2, bs]
    exact Ok.pure ⟨endS_snoc.symm, careful_snoc i2 hx h4.2.1⟩
  · rintro T ⟨rfl, _⟩
    obtain ⟨v, _, v1, _, hv⟩ := weights_ok hn hq hP hh
    obtain ⟨c, ec, c1, c2⟩ := lcounts_ok hn hq hP hw hs (careful_end hq1 hs hc)
    have g := gd_run hq1 hP hs hc c1 c2
    obtain ⟨tl, tc, te⟩ := trl_all hq1 hP R.length s c g
    rw [due_ok hn hq hP hw g hl3, bs]
    generalize endS n q P s R = t at g te ⊢
    generalize hT : trl n q P R.length s c = T at tl tc te ⊢
    have hA : ∀ p, p.length ≤ T.length → (along' n q P s p).length ≤ 25 := fun p hp => by rw [along_len]; omega
    refine Ok.fold (fun p x => x = along' n q P s p ∧ Careful n q P s p) ⟨rfl, True.intro⟩ ?_ ?_
    · rintro p x r b e ⟨rfl, i2⟩
      have hx : 0 ≤ x ∧ x < (n : Int) := careful_lamps tc x (by rw [e]; simp)
      have hpl : p.length ≤ T.length := by rw [e]; simp
      have split : ∀ {a d : List Int} {s : List Int}, Careful n q P s (a ++ d) → Careful n q P (endS n q P s a) d := fun {a} => by
        induction a with
        | nil => exact fun h => h
        | cons y a ih => exact fun h => ih h.2.2
      rw [e] at tc
      have h4 := split tc
      rw [x_ix_last (a := endS n q P s p) (by rw [along_len, Nat.add_sub_cancel, along_get (Nat.le_refl _), List.take_length])]
      simp only [bs]
      have := hA p hpl
      rw [lmoved_ok hn hq hP hw (careful_end hq1 hs i2) hx.1 hx.2, bs, x_app_eq (by omega), bs]
      refine Ok.pure ⟨?_, careful_snoc i2 hx h4.2.1⟩
      have snoc : ∀ {a : List Int} {s : List Int}, along' n q P s (a ++ [x]) = along' n q P s a ++ [mv n q P (endS n q P s a) x] := fun {a} => by
        induction a with
        | nil => exact fun {s} => rfl
        | cons y a ih => exact fun {s} => by show s :: along' n q P (mv n q P s y) (a ++ [x]) = _; rw [ih]; rfl
      exact snoc.symm
    · rintro A ⟨rfl, _⟩
      have hAl : (along' n q P s T).length = R.length + 1 := by rw [along_len, tl]
      rw [careful_run_ok hn hq hP hh g (by omega) (by omega), hT, bs, lis_run_ok hw (careful_lamps tc)]
      simp only [bs, Bool.not_true, orM, Bool.false_eq_true, if_false, decide_true]
      rw [x_ix_last (a := t) (by rw [hAl, Nat.add_sub_cancel, along_get (by omega), ← tl, List.take_length, te])]
      simp only [bs, decide_true, Bool.not_true, Bool.false_eq_true, if_false]
      rw [states_ok (by omega) hq1 hP hh hs tc (by omega)]
      simp only [bs]
      have hall : ∀ i, i < (along' n q P s T).length → ∃ x, (along' n q P s T)[i]? = some x ∧ StOk n q x := fun i hi => by
        refine ⟨_, along_get (by omega), ?_⟩
        have : Careful n q P s (T.take i) := by
          have pre : ∀ {a d : List Int} {s : List Int}, Careful n q P s (a ++ d) → Careful n q P s a := fun {a} => by
            induction a with
            | nil => exact fun _ => True.intro
            | cons y a ih => exact fun h => ⟨h.1, h.2.1, ih h.2.2⟩
          exact pre (d := T.drop i) (by rw [List.take_append_drop]; exact tc)
        exact careful_end hq1 hs this
      rw [same_states_ok (by omega) (fun x hx => by
        obtain ⟨i, hi⟩ := List.getElem?_of_mem hx
        obtain ⟨y, e1, e2⟩ := hall i (List.getElem?_eq_some_iff.mp hi).1
        rw [hi] at e1
        cases e1
        rw [e2.len]
        omega)]
      simp only [bs, Bool.not_true, Bool.false_eq_true, if_false]
      have hst := steps_ok hn hq hP hh hv g hl3
      rw [hT] at hst
      rw [hst]
      simp only [bs, Bool.not_true, Bool.false_eq_true, if_false]
      rw [hAl]
      refine Ok.bind (draw_ok hb3 (by omega) (by omega)) fun r4 h4 => ?_
      obtain ⟨⟨a0, a1⟩, hb4⟩ := h4
      obtain ⟨i, hi⟩ := Int.eq_ofNat_of_zero_le a0
      obtain ⟨x, ex, hx⟩ := hall i (by omega)
      rw [hi, x_ix_get (a := x) (by omega) (by rw [Int.toNat_natCast]; exact ex), bs]
      refine Ok.bind (draw_ok hb4 (by omega) (by omega)) fun r5 h5 => ?_
      obtain ⟨⟨b0, b1⟩, hb5⟩ := h5
      obtain ⟨j, hj⟩ := Int.eq_ofNat_of_zero_le b0
      obtain ⟨y, ey, hy⟩ := hall j (by omega)
      rw [hj, x_ix_get (a := y) (by omega) (by rw [Int.toNat_natCast]; exact ey), bs]
      refine Ok.bind (state_ok hb5 hn hq hw) fun r6 h6 => ?_
      simp only [forK]
      rw [neigh_ok hn hq hP hw hh hx]
      simp only [bs, Bool.not_true, Bool.false_eq_true, if_false]
      rw [neigh_ok hn hq hP hw hh hy]
      simp only [bs, Bool.not_true, Bool.false_eq_true, if_false]
      rw [neigh_ok hn hq hP hw hh h6.1]
      simp only [bs, Bool.not_true, Bool.false_eq_true, if_false]
      exact Ok.pure rfl
end HF

set_option Elab.async false
set_option linter.all false
set_option maxRecDepth 100000
set_option maxHeartbeats 0
namespace HF
open PySem PySem.Spec PyProof.Rows L2
def d0 : He.DefD := ⟨("is_integer", none), "is_integer", "is_integer", defArgs (top 12), defBody (top 12), defScope (top 12), [], []⟩
def d1 : He.DefD := ⟨("is_lamp", none), "is_lamp", "is_lamp", defArgs (top 13), defBody (top 13), defScope (top 13), [], []⟩
def d2 : He.DefD := ⟨("bits", none), "bits", "bits", defArgs (top 14), defBody (top 14), defScope (top 14), [], []⟩
def d3 : He.DefD := ⟨("below_masks", none), "below_masks", "below_masks", defArgs (top 15), defBody (top 15), defScope (top 15), [], []⟩
def d4 : He.DefD := ⟨("above_masks", none), "above_masks", "above_masks", defArgs (top 16), defBody (top 16), defScope (top 16), [], []⟩
def d5 : He.DefD := ⟨("_is_wire", none), "_is_wire", "_is_wire", defArgs (top 18), defBody (top 18), defScope (top 18), [], []⟩
def d6 : He.DefD := ⟨("_join_wires", none), "_join_wires", "_join_wires", defArgs (top 19), defBody (top 19), defScope (top 19), [], []⟩
def d7 : He.DefD := ⟨("_turn_round", none), "_turn_round", "_turn_round", defArgs (top 20), defBody (top 20), defScope (top 20), [], []⟩
def d8 : He.DefD := ⟨("_order_list", none), "_order_list", "_order_list", defArgs (top 21), defBody (top 21), defScope (top 21), [], []⟩
def d9 : He.DefD := ⟨("House", some "__init__"), "__init__", "House.__init__", defArgs (inClass (top 22) 2), defBody (inClass (top 22) 2), defScope (inClass (top 22) 2), [.adr (He.dflAt ("House", some "__init__") 0)], []⟩
def d10 : He.DefD := ⟨("House", some "order"), "order", "House.order", defArgs (inClass (top 22) 10), defBody (inClass (top 22) 10), defScope (inClass (top 22) 10), [], []⟩
def d11 : He.DefD := ⟨("is_state", none), "is_state", "is_state", defArgs (top 24), defBody (top 24), defScope (top 24), [], []⟩
def d12 : He.DefD := ⟨("turned_down", none), "turned_down", "turned_down", defArgs (top 25), defBody (top 25), defScope (top 25), [], []⟩
def d13 : He.DefD := ⟨("need_lamp", none), "need_lamp", "need_lamp", defArgs (top 27), defBody (top 27), defScope (top 27), [], []⟩
def d14 : He.DefD := ⟨("need_state", none), "need_state", "need_state", defArgs (top 28), defBody (top 28), defScope (top 28), [], []⟩
def d15 : He.DefD := ⟨("need_states", none), "need_states", "need_states", defArgs (top 29), defBody (top 29), defScope (top 29), [], []⟩
def d16 : He.DefD := ⟨("need_run", none), "need_run", "need_run", defArgs (top 30), defBody (top 30), defScope (top 30), [], []⟩
def d17 : He.DefD := ⟨("_topmost", none), "_topmost", "_topmost", defArgs (top 32), defBody (top 32), defScope (top 32), [], []⟩
def d18 : He.DefD := ⟨("raw_obstacle", none), "raw_obstacle", "raw_obstacle", defArgs (top 33), defBody (top 33), defScope (top 33), [], []⟩
def d19 : He.DefD := ⟨("need_reachable", none), "need_reachable", "need_reachable", defArgs (top 34), defBody (top 34), defScope (top 34), [], []⟩
def d20 : He.DefD := ⟨("lit_beneath", none), "lit_beneath", "lit_beneath", defArgs (top 36), defBody (top 36), defScope (top 36), [], []⟩
def d21 : He.DefD := ⟨("moved", none), "moved", "moved", defArgs (top 37), defBody (top 37), defScope (top 37), [], []⟩
def d22 : He.DefD := ⟨("can_move", none), "can_move", "can_move", defArgs (top 38), defBody (top 38), defScope (top 38), [], []⟩
def d23 : He.DefD := ⟨("refuse", none), "refuse", "refuse", defArgs (top 39), defBody (top 39), defScope (top 39), [], []⟩
def d24 : He.DefD := ⟨("allowed_lamps", none), "allowed_lamps", "allowed_lamps", defArgs (top 40), defBody (top 40), defScope (top 40), [], [("careful", .bl false)]⟩
def d25 : He.DefD := ⟨("before", none), "before", "before", defArgs (top 41), defBody (top 41), defScope (top 41), [], [("careful", .bl false)]⟩
def d26 : He.DefD := ⟨("states_along", none), "states_along", "states_along", defArgs (top 43), defBody (top 43), defScope (top 43), [], [("careful", .bl false)]⟩
def d27 : He.DefD := ⟨("load_at", none), "load_at", "load_at", defArgs (top 45), defBody (top 45), defScope (top 45), [], []⟩
def d28 : He.DefD := ⟨("most_at", none), "most_at", "most_at", defArgs (top 46), defBody (top 46), defScope (top 46), [], []⟩
def d29 : He.DefD := ⟨("greatest_counts", none), "greatest_counts", "greatest_counts", defArgs (top 47), defBody (top 47), defScope (top 47), [], []⟩
def d30 : He.DefD := ⟨("need_way", none), "need_way", "need_way", defArgs (top 50), defBody (top 50), defScope (top 50), [], []⟩
def d31 : He.DefD := ⟨("weights", none), "weights", "weights", defArgs (top 51), defBody (top 51), defScope (top 51), [], []⟩
def d32 : He.DefD := ⟨("worth", none), "worth", "worth", defArgs (top 52), defBody (top 52), defScope (top 52), [], []⟩
def d33 : He.DefD := ⟨("_careful_lamp", none), "_careful_lamp", "_careful_lamp", defArgs (top 56), defBody (top 56), defScope (top 56), [], []⟩
def d34 : He.DefD := ⟨("careful_run", none), "careful_run", "careful_run", defArgs (top 54), defBody (top 54), defScope (top 54), [], [("limit", .int 1000)]⟩
def d35 : He.DefD := ⟨("next_careful", none), "next_careful", "next_careful", defArgs (top 55), defBody (top 55), defScope (top 55), [], []⟩
def d36 : He.DefD := ⟨("covered_by", none), "covered_by", "covered_by", defArgs (top 58), defBody (top 58), defScope (top 58), [], []⟩
def d37 : He.DefD := ⟨("covers_of", none), "covers_of", "covers_of", defArgs (top 59), defBody (top 59), defScope (top 59), [], []⟩
def d38 : He.DefD := ⟨("is_cover", none), "is_cover", "is_cover", defArgs (top 60), defBody (top 60), defScope (top 60), [], []⟩
def d39 : He.DefD := ⟨("_law_bag", none), "_law_bag", "_law_bag", defArgs (top 62), defBody (top 62), defScope (top 62), [], []⟩
def d40 : He.DefD := ⟨("_law_draw", none), "_law_draw", "_law_draw", defArgs (top 63), defBody (top 63), defScope (top 63), [], []⟩
def d41 : He.DefD := ⟨("_law_shuffled", none), "_law_shuffled", "_law_shuffled", defArgs (top 64), defBody (top 64), defScope (top 64), [], []⟩
def d42 : He.DefD := ⟨("_law_wired", none), "_law_wired", "_law_wired", defArgs (top 65), defBody (top 65), defScope (top 65), [], []⟩
def d43 : He.DefD := ⟨("_law_wires", none), "_law_wires", "_law_wires", defArgs (top 66), defBody (top 66), defScope (top 66), [], []⟩
def d44 : He.DefD := ⟨("_law_all_in", none), "_law_all_in", "_law_all_in", defArgs (top 67), defBody (top 67), defScope (top 67), [], []⟩
def d45 : He.DefD := ⟨("_law_known", none), "_law_known", "_law_known", defArgs (top 68), defBody (top 68), defScope (top 68), [], []⟩
def d46 : He.DefD := ⟨("_law_hues", none), "_law_hues", "_law_hues", defArgs (top 69), defBody (top 69), defScope (top 69), [], []⟩
def d47 : He.DefD := ⟨("_law_power", none), "_law_power", "_law_power", defArgs (top 70), defBody (top 70), defScope (top 70), [], []⟩
def d48 : He.DefD := ⟨("_law_count", none), "_law_count", "_law_count", defArgs (top 71), defBody (top 71), defScope (top 71), [], []⟩
def d49 : He.DefD := ⟨("_law_world", none), "_law_world", "_law_world", defArgs (top 72), defBody (top 72), defScope (top 72), [], []⟩
def d50 : He.DefD := ⟨("_law_large", none), "_law_large", "_law_large", defArgs (top 73), defBody (top 73), defScope (top 73), [], []⟩
def d51 : He.DefD := ⟨("_law_any", none), "_law_any", "_law_any", defArgs (top 74), defBody (top 74), defScope (top 74), [], []⟩
def d52 : He.DefD := ⟨("_law_state", none), "_law_state", "_law_state", defArgs (top 75), defBody (top 75), defScope (top 75), [], []⟩
def d53 : He.DefD := ⟨("_law_moved", none), "_law_moved", "_law_moved", defArgs (top 76), defBody (top 76), defScope (top 76), [], []⟩
def d54 : He.DefD := ⟨("_law_lit_beneath", none), "_law_lit_beneath", "_law_lit_beneath", defArgs (top 77), defBody (top 77), defScope (top 77), [], []⟩
def d55 : He.DefD := ⟨("_law_may", none), "_law_may", "_law_may", defArgs (top 78), defBody (top 78), defScope (top 78), [], []⟩
def d56 : He.DefD := ⟨("_law_run", none), "_law_run", "_law_run", defArgs (top 79), defBody (top 79), defScope (top 79), [], []⟩
def d57 : He.DefD := ⟨("_law_counts", none), "_law_counts", "_law_counts", defArgs (top 80), defBody (top 80), defScope (top 80), [], []⟩
def d58 : He.DefD := ⟨("_law_is_integer", none), "_law_is_integer", "_law_is_integer", defArgs (top 81), defBody (top 81), defScope (top 81), [], []⟩
def d59 : He.DefD := ⟨("_law_is_run", none), "_law_is_run", "_law_is_run", defArgs (top 82), defBody (top 82), defScope (top 82), [], []⟩
def d60 : He.DefD := ⟨("_law_same_state", none), "_law_same_state", "_law_same_state", defArgs (top 83), defBody (top 83), defScope (top 83), [], []⟩
def d61 : He.DefD := ⟨("_law_same_states", none), "_law_same_states", "_law_same_states", defArgs (top 84), defBody (top 84), defScope (top 84), [], []⟩
def d62 : He.DefD := ⟨("_law_due_run", none), "_law_due_run", "_law_due_run", defArgs (top 85), defBody (top 85), defScope (top 85), [], []⟩
def d63 : He.DefD := ⟨("_law_same_pairs", none), "_law_same_pairs", "_law_same_pairs", defArgs (top 86), defBody (top 86), defScope (top 86), [], []⟩
def d64 : He.DefD := ⟨("_law_downs", none), "_law_downs", "_law_downs", defArgs (top 87), defBody (top 87), defScope (top 87), [], []⟩
def d65 : He.DefD := ⟨("_law_raised", none), "_law_raised", "_law_raised", defArgs (top 88), defBody (top 88), defScope (top 88), [], []⟩
def d66 : He.DefD := ⟨("_law_ups", none), "_law_ups", "_law_ups", defArgs (top 89), defBody (top 89), defScope (top 89), [], []⟩
def d67 : He.DefD := ⟨("_law_neighbours_right", none), "_law_neighbours_right", "_law_neighbours_right", defArgs (top 90), defBody (top 90), defScope (top 90), [], []⟩
def d68 : He.DefD := ⟨("_law_no_cover", none), "_law_no_cover", "_law_no_cover", defArgs (top 91), defBody (top 91), defScope (top 91), [], []⟩
def d69 : He.DefD := ⟨("_law_steps_right", none), "_law_steps_right", "_law_steps_right", defArgs (top 92), defBody (top 92), defScope (top 92), [], []⟩
def d70 : He.DefD := ⟨("law", none), "law", "law", defArgs (top 93), defBody (top 93), defScope (top 93), [], []⟩
def fns0 : List He.DefD := [d0, d1, d2, d3, d4, d5, d6, d7, d8, d9, d10, d11, d12, d13, d14, d15, d16, d17, d18, d19]
def fns1 : List He.DefD := [d20, d21, d22, d23, d24, d25, d26, d27, d28, d29, d30, d31, d32, d33, d34, d35, d36, d37, d38, d39]
def fns2 : List He.DefD := [d40, d41, d42, d43, d44, d45, d46, d47, d48, d49, d50, d51, d52, d53, d54, d55, d56, d57, d58, d59]
def fns3 : List He.DefD := [d60, d61, d62, d63, d64, d65, d66, d67, d68, d69, d70]
def fns : List He.DefD := fns0 ++ fns1 ++ fns2 ++ fns3
def fas0 : List He.Fa := [.glo "is_integer", .glo "is_lamp", .glo "bits", .glo "below_masks", .glo "above_masks", .glo "_is_wire", .glo "_join_wires", .glo "_turn_round", .glo "_order_list", .mkr "House", .glo "House", .cls "House", .meth "House" "order", .glo "is_state", .glo "turned_down", .glo "need_lamp", .glo "need_state", .glo "need_states", .glo "need_run", .glo "_topmost"]
def fas1 : List He.Fa := [.glo "raw_obstacle", .glo "need_reachable", .glo "lit_beneath", .glo "moved", .glo "can_move", .glo "refuse", .glo "allowed_lamps", .glo "before", .glo "states_along", .glo "load_at", .glo "most_at", .glo "greatest_counts", .glo "need_way", .glo "weights", .glo "worth", .glo "_careful_lamp", .glo "careful_run", .glo "next_careful", .glo "covered_by", .glo "covers_of"]
def fas2 : List He.Fa := [.glo "is_cover", .glo "_law_bag", .glo "_law_draw", .glo "_law_shuffled", .glo "_law_wired", .glo "_law_wires", .glo "_law_all_in", .glo "_law_known", .glo "_law_hues", .glo "_law_power", .glo "_law_count", .glo "_law_world", .glo "_law_large", .glo "_law_any", .glo "_law_state", .glo "_law_moved", .glo "_law_lit_beneath", .glo "_law_may", .glo "_law_run", .glo "_law_counts"]
def fas3 : List He.Fa := [.glo "_law_is_integer", .glo "_law_is_run", .glo "_law_same_state", .glo "_law_same_states", .glo "_law_due_run", .glo "_law_same_pairs", .glo "_law_downs", .glo "_law_raised", .glo "_law_ups", .glo "_law_neighbours_right", .glo "_law_no_cover", .glo "_law_steps_right", .glo "law", .free "abs", .free "all", .free "bool", .free "enumerate", .free "int", .free "isinstance", .free "len"]
def fas4 : List He.Fa := [.free "list", .free "range", .free "reversed", .free "sorted", .free "sum", .free "tuple", .free "zip", .noat "House" "_above", .noat "House" "_above_masks", .noat "House" "_below", .noat "House" "_below_masks", .noat "House" "_direct", .noat "House" "_order", .noat "House" "count", .noat "House" "hues", .noat "House" "wires", .int "MOST_MOVES" 1000]
def fas : List He.Fa := fas0 ++ fas1 ++ fas2 ++ fas3 ++ fas4
def lo0 : List PySem.Str := ["_wall", "__name__", "HuefallError", "InvalidHouse", "InvalidLamp", "InvalidState", "RefusedMove", "DarkLamp", "LitBeneath", "NotReachable", "TooLong", "is_integer", "is_lamp", "bits", "below_masks", "above_masks", "_check_lamp", "_is_wire", "_join_wires", "_turn_round"]
def lo1 : List PySem.Str := ["_order_list", "House", "is_state", "turned_down", "need_lamp", "need_state", "need_states", "need_run", "_topmost", "raw_obstacle", "need_reachable", "lit_beneath", "moved", "can_move", "refuse", "allowed_lamps", "before", "states_along", "load_at", "most_at"]
def lo2 : List PySem.Str := ["greatest_counts", "MOST_MOVES", "need_way", "weights", "worth", "careful_run", "next_careful", "_careful_lamp", "covered_by", "covers_of", "is_cover", "_law_bag", "_law_draw", "_law_shuffled", "_law_wired", "_law_wires", "_law_all_in", "_law_known", "_law_hues", "_law_power"]
def lo3 : List PySem.Str := ["_law_count", "_law_world", "_law_large", "_law_any", "_law_state", "_law_moved", "_law_lit_beneath", "_law_may", "_law_run", "_law_counts", "_law_is_integer", "_law_is_run", "_law_same_state", "_law_same_states", "_law_due_run", "_law_same_pairs", "_law_downs", "_law_raised", "_law_ups", "_law_neighbours_right"]
def lo4 : List PySem.Str := ["_law_no_cover", "_law_steps_right"]
def lo : List PySem.Str := lo0 ++ lo1 ++ lo2 ++ lo3 ++ lo4
def exs : List (PySem.Str × PySem.Str × Int) := [("House", "MOST_HUES", 10), ("House", "MOST_LAMPS", 16)]
abbrev RR : PySem.W.OpenRow := PySem.W.OpenLaw.row PySem.Challenge.rw_huefall_k77_careful_run_covers
abbrev hk : PySem.W.Hook := hookY 5 fas fns exs
def ob (s : PySem.W.SharedT) : AlX := obsY 5 fas fns exs (HandSHeadRun.getT s)
theorem ob_eq (s : PySem.W.SharedT) : ob s = hk.obs s.abs := obsY_eq (HandSHeadRun.getT_eq s)
theorem run (w : World) : HandSHeadRun.RunEq RR (PySem.W.view RR.prog [93]) hk ob 40000 lo w := by
  intro os
  kernel_rfl
theorem env_of {K : PySem.W.Frag} {h : Heap} {mg : Str → Option Value} (X : K.In h) (G : h.Ns mainGlobals mg) (c : He.SaysD fas fns K) (e : exB exs K = true) : EnvF K mg :=
  { d_is_integer := def_at (c.def_ 0 (d := d0) rfl) (He.glo_ok X G (c.fact 0 (f := .glo "is_integer") rfl)),
    d_is_lamp := def_at (c.def_ 1 (d := d1) rfl) (He.glo_ok X G (c.fact 1 (f := .glo "is_lamp") rfl)),
    d_bits := def_at (c.def_ 2 (d := d2) rfl) (He.glo_ok X G (c.fact 2 (f := .glo "bits") rfl)),
    d_below_masks := def_at (c.def_ 3 (d := d3) rfl) (He.glo_ok X G (c.fact 3 (f := .glo "below_masks") rfl)),
    d_above_masks := def_at (c.def_ 4 (d := d4) rfl) (He.glo_ok X G (c.fact 4 (f := .glo "above_masks") rfl)),
    d__is_wire := def_at (c.def_ 5 (d := d5) rfl) (He.glo_ok X G (c.fact 5 (f := .glo "_is_wire") rfl)),
    d__join_wires := def_at (c.def_ 6 (d := d6) rfl) (He.glo_ok X G (c.fact 6 (f := .glo "_join_wires") rfl)),
    d__turn_round := def_at (c.def_ 7 (d := d7) rfl) (He.glo_ok X G (c.fact 7 (f := .glo "_turn_round") rfl)),
    d__order_list := def_at (c.def_ 8 (d := d8) rfl) (He.glo_ok X G (c.fact 8 (f := .glo "_order_list") rfl)),
    d_House___init__ := idef_at (c.def_ 9 (d := d9) rfl) rfl (He.mkr_ok (c.fact 9 (f := .mkr "House") rfl)) (He.glo_ok X G (c.fact 10 (f := .glo "House") rfl)),
    d_House_order := mdef_at (c.def_ 10 (d := d10) rfl) (He.cls_ok (c.fact 11 (f := .cls "House") rfl)) (He.meth_ok (c.fact 12 (f := .meth "House" "order") rfl)),
    d_is_state := def_at (c.def_ 11 (d := d11) rfl) (He.glo_ok X G (c.fact 13 (f := .glo "is_state") rfl)),
    d_turned_down := def_at (c.def_ 12 (d := d12) rfl) (He.glo_ok X G (c.fact 14 (f := .glo "turned_down") rfl)),
    d_need_lamp := def_at (c.def_ 13 (d := d13) rfl) (He.glo_ok X G (c.fact 15 (f := .glo "need_lamp") rfl)),
    d_need_state := def_at (c.def_ 14 (d := d14) rfl) (He.glo_ok X G (c.fact 16 (f := .glo "need_state") rfl)),
    d_need_states := def_at (c.def_ 15 (d := d15) rfl) (He.glo_ok X G (c.fact 17 (f := .glo "need_states") rfl)),
    d_need_run := def_at (c.def_ 16 (d := d16) rfl) (He.glo_ok X G (c.fact 18 (f := .glo "need_run") rfl)),
    d__topmost := def_at (c.def_ 17 (d := d17) rfl) (He.glo_ok X G (c.fact 19 (f := .glo "_topmost") rfl)),
    d_raw_obstacle := def_at (c.def_ 18 (d := d18) rfl) (He.glo_ok X G (c.fact 20 (f := .glo "raw_obstacle") rfl)),
    d_need_reachable := def_at (c.def_ 19 (d := d19) rfl) (He.glo_ok X G (c.fact 21 (f := .glo "need_reachable") rfl)),
    d_lit_beneath := def_at (c.def_ 20 (d := d20) rfl) (He.glo_ok X G (c.fact 22 (f := .glo "lit_beneath") rfl)),
    d_moved := def_at (c.def_ 21 (d := d21) rfl) (He.glo_ok X G (c.fact 23 (f := .glo "moved") rfl)),
    d_can_move := def_at (c.def_ 22 (d := d22) rfl) (He.glo_ok X G (c.fact 24 (f := .glo "can_move") rfl)),
    d_refuse := def_at (c.def_ 23 (d := d23) rfl) (He.glo_ok X G (c.fact 25 (f := .glo "refuse") rfl)),
    d_allowed_lamps := kdef_at (c.def_ 24 (d := d24) rfl) (He.glo_ok X G (c.fact 26 (f := .glo "allowed_lamps") rfl)),
    d_before := kdef_at (c.def_ 25 (d := d25) rfl) (He.glo_ok X G (c.fact 27 (f := .glo "before") rfl)),
    d_states_along := kdef_at (c.def_ 26 (d := d26) rfl) (He.glo_ok X G (c.fact 28 (f := .glo "states_along") rfl)),
    d_load_at := def_at (c.def_ 27 (d := d27) rfl) (He.glo_ok X G (c.fact 29 (f := .glo "load_at") rfl)),
    d_most_at := def_at (c.def_ 28 (d := d28) rfl) (He.glo_ok X G (c.fact 30 (f := .glo "most_at") rfl)),
    d_greatest_counts := def_at (c.def_ 29 (d := d29) rfl) (He.glo_ok X G (c.fact 31 (f := .glo "greatest_counts") rfl)),
    d_need_way := def_at (c.def_ 30 (d := d30) rfl) (He.glo_ok X G (c.fact 32 (f := .glo "need_way") rfl)),
    d_weights := def_at (c.def_ 31 (d := d31) rfl) (He.glo_ok X G (c.fact 33 (f := .glo "weights") rfl)),
    d_worth := def_at (c.def_ 32 (d := d32) rfl) (He.glo_ok X G (c.fact 34 (f := .glo "worth") rfl)),
    d__careful_lamp := def_at (c.def_ 33 (d := d33) rfl) (He.glo_ok X G (c.fact 35 (f := .glo "_careful_lamp") rfl)),
    d_careful_run := kdef_at (c.def_ 34 (d := d34) rfl) (He.glo_ok X G (c.fact 36 (f := .glo "careful_run") rfl)),
    d_next_careful := def_at (c.def_ 35 (d := d35) rfl) (He.glo_ok X G (c.fact 37 (f := .glo "next_careful") rfl)),
    d_covered_by := def_at (c.def_ 36 (d := d36) rfl) (He.glo_ok X G (c.fact 38 (f := .glo "covered_by") rfl)),
    d_covers_of := def_at (c.def_ 37 (d := d37) rfl) (He.glo_ok X G (c.fact 39 (f := .glo "covers_of") rfl)),
    d_is_cover := def_at (c.def_ 38 (d := d38) rfl) (He.glo_ok X G (c.fact 40 (f := .glo "is_cover") rfl)),
    d__law_bag := def_at (c.def_ 39 (d := d39) rfl) (He.glo_ok X G (c.fact 41 (f := .glo "_law_bag") rfl)),
    d__law_draw := def_at (c.def_ 40 (d := d40) rfl) (He.glo_ok X G (c.fact 42 (f := .glo "_law_draw") rfl)),
    d__law_shuffled := def_at (c.def_ 41 (d := d41) rfl) (He.glo_ok X G (c.fact 43 (f := .glo "_law_shuffled") rfl)),
    d__law_wired := def_at (c.def_ 42 (d := d42) rfl) (He.glo_ok X G (c.fact 44 (f := .glo "_law_wired") rfl)),
    d__law_wires := def_at (c.def_ 43 (d := d43) rfl) (He.glo_ok X G (c.fact 45 (f := .glo "_law_wires") rfl)),
    d__law_all_in := def_at (c.def_ 44 (d := d44) rfl) (He.glo_ok X G (c.fact 46 (f := .glo "_law_all_in") rfl)),
    d__law_known := def_at (c.def_ 45 (d := d45) rfl) (He.glo_ok X G (c.fact 47 (f := .glo "_law_known") rfl)),
    d__law_hues := def_at (c.def_ 46 (d := d46) rfl) (He.glo_ok X G (c.fact 48 (f := .glo "_law_hues") rfl)),
    d__law_power := def_at (c.def_ 47 (d := d47) rfl) (He.glo_ok X G (c.fact 49 (f := .glo "_law_power") rfl)),
    d__law_count := def_at (c.def_ 48 (d := d48) rfl) (He.glo_ok X G (c.fact 50 (f := .glo "_law_count") rfl)),
    d__law_world := def_at (c.def_ 49 (d := d49) rfl) (He.glo_ok X G (c.fact 51 (f := .glo "_law_world") rfl)),
    d__law_large := def_at (c.def_ 50 (d := d50) rfl) (He.glo_ok X G (c.fact 52 (f := .glo "_law_large") rfl)),
    d__law_any := def_at (c.def_ 51 (d := d51) rfl) (He.glo_ok X G (c.fact 53 (f := .glo "_law_any") rfl)),
    d__law_state := def_at (c.def_ 52 (d := d52) rfl) (He.glo_ok X G (c.fact 54 (f := .glo "_law_state") rfl)),
    d__law_moved := def_at (c.def_ 53 (d := d53) rfl) (He.glo_ok X G (c.fact 55 (f := .glo "_law_moved") rfl)),
    d__law_lit_beneath := def_at (c.def_ 54 (d := d54) rfl) (He.glo_ok X G (c.fact 56 (f := .glo "_law_lit_beneath") rfl)),
    d__law_may := def_at (c.def_ 55 (d := d55) rfl) (He.glo_ok X G (c.fact 57 (f := .glo "_law_may") rfl)),
    d__law_run := def_at (c.def_ 56 (d := d56) rfl) (He.glo_ok X G (c.fact 58 (f := .glo "_law_run") rfl)),
    d__law_counts := def_at (c.def_ 57 (d := d57) rfl) (He.glo_ok X G (c.fact 59 (f := .glo "_law_counts") rfl)),
    d__law_is_integer := def_at (c.def_ 58 (d := d58) rfl) (He.glo_ok X G (c.fact 60 (f := .glo "_law_is_integer") rfl)),
    d__law_is_run := def_at (c.def_ 59 (d := d59) rfl) (He.glo_ok X G (c.fact 61 (f := .glo "_law_is_run") rfl)),
    d__law_same_state := def_at (c.def_ 60 (d := d60) rfl) (He.glo_ok X G (c.fact 62 (f := .glo "_law_same_state") rfl)),
    d__law_same_states := def_at (c.def_ 61 (d := d61) rfl) (He.glo_ok X G (c.fact 63 (f := .glo "_law_same_states") rfl)),
    d__law_due_run := def_at (c.def_ 62 (d := d62) rfl) (He.glo_ok X G (c.fact 64 (f := .glo "_law_due_run") rfl)),
    d__law_same_pairs := def_at (c.def_ 63 (d := d63) rfl) (He.glo_ok X G (c.fact 65 (f := .glo "_law_same_pairs") rfl)),
    d__law_downs := def_at (c.def_ 64 (d := d64) rfl) (He.glo_ok X G (c.fact 66 (f := .glo "_law_downs") rfl)),
    d__law_raised := def_at (c.def_ 65 (d := d65) rfl) (He.glo_ok X G (c.fact 67 (f := .glo "_law_raised") rfl)),
    d__law_ups := def_at (c.def_ 66 (d := d66) rfl) (He.glo_ok X G (c.fact 68 (f := .glo "_law_ups") rfl)),
    d__law_neighbours_right := def_at (c.def_ 67 (d := d67) rfl) (He.glo_ok X G (c.fact 69 (f := .glo "_law_neighbours_right") rfl)),
    d__law_no_cover := def_at (c.def_ 68 (d := d68) rfl) (He.glo_ok X G (c.fact 70 (f := .glo "_law_no_cover") rfl)),
    d__law_steps_right := def_at (c.def_ 69 (d := d69) rfl) (He.glo_ok X G (c.fact 71 (f := .glo "_law_steps_right") rfl)),
    d_law := def_at (c.def_ 70 (d := d70) rfl) (He.glo_ok X G (c.fact 72 (f := .glo "law") rfl)),
    g_abs := He.free_ok X G (c.fact 73 (f := .free "abs") rfl),
    g_all := He.free_ok X G (c.fact 74 (f := .free "all") rfl),
    g_bool := He.free_ok X G (c.fact 75 (f := .free "bool") rfl),
    g_enumerate := He.free_ok X G (c.fact 76 (f := .free "enumerate") rfl),
    g_int := He.free_ok X G (c.fact 77 (f := .free "int") rfl),
    g_isinstance := He.free_ok X G (c.fact 78 (f := .free "isinstance") rfl),
    g_len := He.free_ok X G (c.fact 79 (f := .free "len") rfl),
    g_list := He.free_ok X G (c.fact 80 (f := .free "list") rfl),
    g_range := He.free_ok X G (c.fact 81 (f := .free "range") rfl),
    g_reversed := He.free_ok X G (c.fact 82 (f := .free "reversed") rfl),
    g_sorted := He.free_ok X G (c.fact 83 (f := .free "sorted") rfl),
    g_sum := He.free_ok X G (c.fact 84 (f := .free "sum") rfl),
    g_tuple := He.free_ok X G (c.fact 85 (f := .free "tuple") rfl),
    g_zip := He.free_ok X G (c.fact 86 (f := .free "zip") rfl),
    cl_House := He.cls_ok (c.fact 11 (f := .cls "House") rfl),
    gc_House := glo_okR X G (c.fact 10 (f := .glo "House") rfl),
    na_House__above := He.noat_ok (c.fact 87 (f := .noat "House" "_above") rfl),
    na_House__above_masks := He.noat_ok (c.fact 88 (f := .noat "House" "_above_masks") rfl),
    na_House__below := He.noat_ok (c.fact 89 (f := .noat "House" "_below") rfl),
    na_House__below_masks := He.noat_ok (c.fact 90 (f := .noat "House" "_below_masks") rfl),
    na_House__direct := He.noat_ok (c.fact 91 (f := .noat "House" "_direct") rfl),
    na_House__order := He.noat_ok (c.fact 92 (f := .noat "House" "_order") rfl),
    na_House_count := He.noat_ok (c.fact 93 (f := .noat "House" "count") rfl),
    na_House_hues := He.noat_ok (c.fact 94 (f := .noat "House" "hues") rfl),
    na_House_wires := He.noat_ok (c.fact 95 (f := .noat "House" "wires") rfl),
    cc_House_MOST_HUES := exB_ok e 0 (q := ("House", "MOST_HUES", 10)) rfl,
    cc_House_MOST_LAMPS := exB_ok e 1 (q := ("House", "MOST_LAMPS", 16)) rfl,
    c_MOST_MOVES := int_okV X G (c.fact 96 (f := .int "MOST_MOVES" 1000) rfl) }
theorem facts {P : Program} {w : World} {K : PySem.W.Frag} {h : Heap} {mg : Str → Option Value} {f : Addr} (X : K.In h) (G : h.Ns mainGlobals mg) (hfa : mg ("law" : Str) = some (.ref f)) (c : He.SaysD fas fns K) (e : exB exs K = true) :
    ∃ fd : FuncData, (∀ (s : Shared) (v : Value), BindsTo s fd ⟨[v], []⟩ [("_law_script", v)]) ∧ ∀ base : Heap, K.In base → base.Ns mainGlobals mg → FnOk P w K mg base CX0 8 f fd ["_law_script"] (spP (TyA.one (tScr K)) (fun a => m_law a) tBool) := by
  obtain ⟨fd, F⟩ := c.def_ 70 (d := d70) rfl
  have e0 := hfa.symm.trans (He.glo_ok X G (c.fact 72 (f := .glo "law") rfl))
  cases e0
  have b := FunD.bindsA (ps := ["_law_script"]) F fun _ _ _ _ _ _ us hl => match us, hl with | [_], _ => rfl
  exact ⟨fd, fun s v => b s [v] rfl, fun base KB GB => fn_law (env_of KB GB c e) F⟩
end HF
open PySem PySem.W PySem.Calls PyProof.Rows
theorem cw_main (LAW : ∀ ns : List Int, ns.length ≤ 63 → HF.m_law ns = some true) : PySem.Challenge.rw_huefall_k77_careful_run_covers.Holds := by
  w_on; o_law
  refine HandSHeadRun.head_any (r := OpenLaw.row PySem.Challenge.rw_huefall_k77_careful_run_covers) (q := view (OpenLaw.row PySem.Challenge.rw_huefall_k77_careful_run_covers).prog [93]) (H := HF.hk) (ob := HF.ob) (M := 40000) (loose := HF.lo) (d := HandSHeadRun.topDef (OpenLaw.row PySem.Challenge.rw_huefall_k77_careful_run_covers).prog 93) (kwd := []) HF.ob_eq
    (by kernel_rfl) (fun s => by kernel_rfl) HF.run (by kernel_rfl) (by kernel_rfl) (by kernel_rfl) (by rfl) (by first | assumption | decide +kernel) (by decide +kernel) ⟨rfl, rfl, rfl, rfl, rfl, by decide +kernel⟩ ?hw ?hc
  case hw => w_witness2
  case hc =>
    refine L2.walk_ofE (l := PySem.Challenge.rw_huefall_k77_careful_run_covers) (n := 63) (k := 8) (x := "_law_script") (CX := L2.CX0) rfl (by decide) (by kernel_rfl) ⟨rfl, by decide, by decide⟩ ?F (fun _ _ _ _ z => z)
    intro w mg fa h Y G hmg0
    obtain ⟨K, KX, c, e⟩ := Y
    have hmg : mg ("law" : PySem.Str) = some (.ref fa) := by
      have e : (HandSHeadRun.topDef (OpenLaw.row PySem.Challenge.rw_huefall_k77_careful_run_covers).prog 93).name = ("law" : PySem.Str) := by kernel_rfl
      rw [← e]
      exact hmg0
    obtain ⟨fd, hb, hF⟩ := HF.facts (P := (PySem.Challenge.rw_huefall_k77_careful_run_covers).prog) (w := w) KX G hmg c e
    exact ⟨K, fd, _, KX, hb, fun H a ns hl _ hS => HF.law_end hS (LAW ns hl), hF⟩

set_option maxRecDepth 100000 in
theorem PySem.Challenge.cw_huefall_k77_careful_run_covers_holds : PySem.Challenge.rw_huefall_k77_careful_run_covers.Holds := by
  exact cw_main HF.law_true
