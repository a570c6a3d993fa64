import PyProof.Rows.All
import Wide.All
import OpenK.AllK
import Wide.FinOn
import HandS.ForMost
import HandS.ForExc
import HandS.Wide
import HandS.WideBits
import HandS.IsInst
import HandS.Deep
import HandS.Conv
import HandS.SortRule
import HandS.SortInts
import HandS.Rev
import HandS.RevRange
import HandS.TupMul
import HandS.Defaults
import HandS.Style
import HandS.Codes
import HandS.ClsMeth
import HandS.Head0
import HandS.Head1
import HandS.Head2
import HandS.HeadEnd
import HandS.HeadHook1
import HandS.HeadHook2
import HandS.MakeKwOnly
import HandS.Zip
import KE.GoesMore
import HandS.SetFor
import HandS.Strs
import KE.KExcSuper
import HandS.ExcInit
import HandS.ExcSuper
import HandS.ExcCtx
import HandS.HotCalls
import HandS.ExcField
import HandS.ExcInitHot
import HandS.FStr
import PySem.Challenge.RW_huefall_k82_lowest_lit_lamps_agree
set_option Elab.async false
set_option linter.all false
set_option maxRecDepth 100000
set_option maxHeartbeats 2000000
/-! Mini: plain data in the abstract heap; a reading computes a mirror. -/
namespace HF
open PySem PySem.Spec L2
open PyProof.Rows hiding St

/-! ### data and how the heap holds them -/
structure Ty (α : Type) where
  rep : α → V → Hp → Prop
  mono : ∀ {a : α} {v : V} {S S' : Hp}, Same S S' → rep a v S → rep a v S'

def Rl {α : Type} (T : Ty α) (S : Hp) (xs : List α) (vs : List V) : Prop := Paired (fun x v => T.rep x v S) xs vs
theorem Rl.mono {α : Type} {T : Ty α} {S S' : Hp} {xs : List α} {vs : List V} (h : Same S S') (r : Rl T S xs vs) : Rl T S' xs vs :=
  Paired.mapP r fun _ _ q => T.mono h q
theorem Rl.length {α : Type} {T : Ty α} {S : Hp} {xs : List α} {vs : List V} (r : Rl T S xs vs) : xs.length = vs.length := Paired.length r
theorem Rl.get {α : Type} {T : Ty α} {S : Hp} : ∀ {xs : List α} {vs : List V} {i : Nat} {x : α}, Rl T S xs vs → xs[i]? = some x → ∃ v, vs[i]? = some v ∧ T.rep x v S
  | _, _, _, _, .nil, e => by simp at e
  | _, _, 0, _, .cons r _, e => by simp at e; subst e; exact ⟨_, rfl, r⟩
  | _, _, i + 1, x, .cons _ t, e => by
    obtain ⟨u, h1, h2⟩ := Rl.get (i := i) (x := x) t (by simpa using e)
    exact ⟨u, by simpa using h1, h2⟩
theorem Rl.getV {α : Type} {T : Ty α} {S : Hp} : ∀ {xs : List α} {vs : List V} {i : Nat} {v : V}, Rl T S xs vs → vs[i]? = some v → ∃ x, xs[i]? = some x ∧ T.rep x v S
  | _, _, _, _, .nil, e => by simp at e
  | _, _, 0, _, .cons r _, e => by simp at e; subst e; exact ⟨_, rfl, r⟩
  | _, _, i + 1, v, .cons _ t, e => by
    obtain ⟨u, h1, h2⟩ := Rl.getV (i := i) (v := v) t (by simpa using e)
    exact ⟨u, by simpa using h1, h2⟩
theorem Rl.append {α : Type} {T : Ty α} {S : Hp} : ∀ {xs ys : List α} {vs ws : List V}, Rl T S xs vs → Rl T S ys ws → Rl T S (xs ++ ys) (vs ++ ws)
  | _, _, _, _, .nil, s => s
  | _, _, _, _, .cons r t, s => .cons r (Rl.append t s)
theorem Rl.one {α : Type} {T : Ty α} {S : Hp} {x : α} {v : V} (h : T.rep x v S) : Rl T S [x] [v] := .cons h .nil
theorem Rl.take {α : Type} {T : Ty α} {S : Hp} : ∀ {xs : List α} {vs : List V} (n : Nat), Rl T S xs vs → Rl T S (xs.take n) (vs.take n)
  | _, _, 0, _ => .nil
  | _, _, _ + 1, .nil => .nil
  | _, _, n + 1, .cons r t => .cons r (Rl.take n t)
theorem Rl.drop {α : Type} {T : Ty α} {S : Hp} : ∀ {xs : List α} {vs : List V} (n : Nat), Rl T S xs vs → Rl T S (xs.drop n) (vs.drop n)
  | _, _, 0, r => r
  | _, _, _ + 1, .nil => .nil
  | _, _, n + 1, .cons _ t => Rl.drop n t
theorem Rl.set {α : Type} {T : Ty α} {S : Hp} {x : α} {v : V} (h : T.rep x v S) : ∀ {xs : List α} {vs : List V} (n : Nat), Rl T S xs vs → Rl T S (xs.set n x) (vs.set n v)
  | _, _, _, .nil => .nil
  | _, _, 0, .cons _ t => .cons h t
  | _, _, n + 1, .cons r t => .cons r (Rl.set h n t)
theorem Rl.eraseIdx {α : Type} {T : Ty α} {S : Hp} : ∀ {xs : List α} {vs : List V} (n : Nat), Rl T S xs vs → Rl T S (xs.eraseIdx n) (vs.eraseIdx n)
  | _, _, _, .nil => .nil
  | _, _, 0, .cons _ t => t
  | _, _, n + 1, .cons r t => .cons r (Rl.eraseIdx n t)
theorem Rl.reverse {α : Type} {T : Ty α} {S : Hp} {xs : List α} {vs : List V} (r : Rl T S xs vs) : Rl T S xs.reverse vs.reverse := by
  induction r with
  | nil => exact .nil
  | cons h t ih => simp only [List.reverse_cons]; exact Rl.append ih (.cons h .nil)

def tInt : Ty Int := ⟨fun i v _ => v = .int i, fun _ h => h⟩
def tBool : Ty Bool := ⟨fun b v _ => v = .bl b, fun _ h => h⟩
def tUnit : Ty Unit := ⟨fun _ v _ => v = .non, fun _ h => h⟩
def tStr : Ty Str := ⟨fun z v _ => v = .str z, fun _ h => h⟩
/-- a list that never changes again -/
def tL {α : Type} (T : Ty α) : Ty (List α) := ⟨fun xs v S => ∃ p vs, v = .ref p ∧ S p = some (.lst vs) ∧ Rl T S xs vs, fun h ⟨p, vs, e, g, r⟩ => ⟨p, vs, e, h _ _ g, r.mono h⟩⟩
/-- a tuple of any length, its items of one kind -/
def tT {α : Type} (T : Ty α) : Ty (List α) := ⟨fun xs v S => ∃ p vs, v = .ref p ∧ S p = some (.tup vs) ∧ Rl T S xs vs, fun h ⟨p, vs, e, g, r⟩ => ⟨p, vs, e, h _ _ g, r.mono h⟩⟩
/-- None or a value that is not None -/
def tO {α : Type} (T : Ty α) : Ty (Option α) := ⟨fun o v S => match o with
  | none => v = .non
  | some a => T.rep a v S ∧ v ≠ .non, fun {o _ _ _} h q => match o, q with
  | none, q => q
  | some _, q => ⟨T.mono h q.1, q.2⟩⟩
def tP {α β : Type} (T : Ty α) (U : Ty β) : Ty (α × β) := ⟨fun a v S => ∃ p x y, v = .ref p ∧ S p = some (.tup [x, y]) ∧ T.rep a.1 x S ∧ U.rep a.2 y S,
  fun h ⟨p, x, y, e, g, r1, r2⟩ => ⟨p, x, y, e, h _ _ g, T.mono h r1, U.mono h r2⟩⟩
/-- argument lists, records -/
structure TyA (α : Type) where
  rep : α → List V → Hp → Prop
  mono : ∀ {a : α} {vs : List V} {S S' : Hp}, Same S S' → rep a vs S → rep a vs S'
def TyA.nil : TyA Unit := ⟨fun _ vs _ => vs = [], fun _ h => h⟩
def TyA.one {α : Type} (T : Ty α) : TyA α := ⟨fun a vs S => ∃ v, vs = [v] ∧ T.rep a v S, fun h ⟨v, e, r⟩ => ⟨v, e, T.mono h r⟩⟩
def TyA.c {α β : Type} (T : Ty α) (A : TyA β) : TyA (α × β) := ⟨fun a vs S => ∃ v ws, vs = v :: ws ∧ T.rep a.1 v S ∧ A.rep a.2 ws S, fun h ⟨v, ws, e, r, q⟩ => ⟨v, ws, e, T.mono h r, A.mono h q⟩⟩
/-- a tuple with fixed places -/
def tTupA {α : Type} (A : TyA α) : Ty α := ⟨fun a v S => ∃ p vs, v = .ref p ∧ S p = some (.tup vs) ∧ A.rep a vs S, fun h ⟨p, vs, e, g, r⟩ => ⟨p, vs, e, h _ _ g, A.mono h r⟩⟩
/-- a list with fixed places that never changes again -/
def tLstA {α : Type} (A : TyA α) : Ty α := ⟨fun a v S => ∃ p vs, v = .ref p ∧ S p = some (.lst vs) ∧ A.rep a vs S, fun h ⟨p, vs, e, g, r⟩ => ⟨p, vs, e, h _ _ g, A.mono h r⟩⟩

/-! ### what is known: facts that stay -/
structure Fact where
  P : Hp → Prop
  mono : ∀ {S S' : Hp}, Same S S' → P S → P S'
def Ty.f {α : Type} (T : Ty α) (a : α) (v : V) : Fact := ⟨T.rep a v, fun h => T.mono h⟩
def TyA.f {α : Type} (T : TyA α) (a : α) (vs : List V) : Fact := ⟨T.rep a vs, fun h => T.mono h⟩
/-- since S0 -/
def fS (S0 : Hp) : Fact := ⟨Same S0, fun h q => q.trans h⟩
def Okc : List Fact → Hp → Prop
  | [], _ => True
  | f :: G, S => f.P S ∧ Okc G S
theorem Okc.mono : ∀ {G : List Fact} {S S' : Hp}, Same S S' → Okc G S → Okc G S'
  | [], _, _, _, _ => True.intro
  | f :: _, _, _, h, q => ⟨f.mono h q.1, Okc.mono h q.2⟩
theorem Okc.at : ∀ {G : List Fact} {S : Hp} (i : Nat) {f : Fact}, G[i]? = some f → Okc G S → f.P S
  | [], _, _, _, e, _ => by simp at e
  | _ :: _, _, 0, _, e, q => by simp at e; subst e; exact q.1
  | _ :: _, _, i + 1, f, e, q => Okc.at i (f := f) (by simpa using e) q.2
theorem Okc.append : ∀ {G G' : List Fact} {S : Hp}, Okc G S → Okc G' S → Okc (G ++ G') S
  | [], _, _, _, q => q
  | _ :: _, _, _, h, q => ⟨h.1, Okc.append h.2 q⟩

/-! ### the stable part S and the owned cells of the heap H -/
abbrev Cell := Addr × HO
structure Wd0 (S : Hp) (L : List Cell) (H : Hp) : Prop where
  st : Same S H
  ow : ∀ p o, (p, o) ∈ L → H p = some o ∧ S p = none
  nd : (L.map (·.1)).Nodup
theorem same_upd {S : Hp} {p : Addr} {o : HO} (h : S p = none) : Same S (upd S p o) := fun b u e => by
  rw [upd_ne (fun z => by subst z; rw [h] at e; cases e)]; exact e
section
variable {S H : Hp} {L L' : List Cell} {p : Addr} {o o' : HO}
theorem Wd0.sn (W : Wd0 S L H) (h : H p = none) : S p = none := W.st.free h
theorem Wd0.notIn (W : Wd0 S L H) (h : H p = none) : p ∉ L.map (·.1) := fun m => by
  obtain ⟨⟨q, u⟩, hm, e⟩ := List.mem_map.mp m
  cases e
  rw [(W.ow _ _ hm).1] at h; cases h
/-- a new object, for ever -/
theorem Wd0.new (W : Wd0 S L H) (h : H p = none) : Wd0 (upd S p o) L (upd H p o) := by
  refine ⟨fun b u e => ?_, fun q u m => ?_, W.nd⟩
  · by_cases hb : b = p
    · subst hb; rw [upd_same] at e ⊢; exact e
    · rw [upd_ne hb] at e ⊢; exact W.st b u e
  · have hq : q ≠ p := fun z => W.notIn h (List.mem_map.mpr ⟨(q, u), m, z⟩)
    rw [upd_ne hq, upd_ne hq]; exact W.ow q u m
/-- a new object of one's own -/
theorem Wd0.newO (W : Wd0 S L H) (h : H p = none) : Wd0 S ((p, o) :: L) (upd H p o) := by
  refine ⟨fun b u e => ?_, fun q u m => ?_, ?_⟩
  · rw [upd_ne (fun z => by subst z; rw [W.sn h] at e; cases e)]; exact W.st b u e
  · rcases List.mem_cons.mp m with e | m
    · cases e; exact ⟨upd_same, W.sn h⟩
    · have hq : q ≠ p := fun z => W.notIn h (List.mem_map.mpr ⟨(q, u), m, z⟩)
      rw [upd_ne hq]; exact W.ow q u m
  · exact List.nodup_cons.mpr ⟨W.notIn h, W.nd⟩
theorem Wd0.perm (W : Wd0 S L H) (h : L.Perm L') : Wd0 S L' H := ⟨W.st, fun q u m => W.ow q u (h.mem_iff.mpr m), (h.map _).nodup_iff.mp W.nd⟩
theorem Wd0.sub (W : Wd0 S L H) (h : L'.Sublist L) : Wd0 S L' H := ⟨W.st, fun q u m => W.ow q u (h.subset m), (h.map _).nodup W.nd⟩
theorem Wd0.hd (W : Wd0 S ((p, o) :: L) H) : H p = some o := (W.ow p o (List.mem_cons_self ..)).1
theorem Wd0.sfree (W : Wd0 S ((p, o) :: L) H) : S p = none := (W.ow p o (List.mem_cons_self ..)).2
/-- from now on it stays -/
theorem Wd0.freeze (W : Wd0 S ((p, o) :: L) H) : Wd0 (upd S p o) L H := by
  refine ⟨fun b u e => ?_, fun q u m => ?_, (List.nodup_cons.mp W.nd).2⟩
  · by_cases hb : b = p
    · subst hb; rw [upd_same] at e; cases e; exact W.hd
    · rw [upd_ne hb] at e; exact W.st b u e
  · have hq : q ≠ p := fun z => (List.nodup_cons.mp W.nd).1 (List.mem_map.mpr ⟨(q, u), m, z⟩)
    rw [upd_ne hq]; exact W.ow q u (List.mem_cons_of_mem _ m)
/-- an owned cell is written -/
theorem Wd0.put0 (W : Wd0 S ((p, o) :: L) H) (o' : HO) : Wd0 S ((p, o') :: L) (upd H p o') := by
  refine ⟨fun b u e => ?_, fun q u m => ?_, W.nd⟩
  · rw [upd_ne (fun z => by subst z; rw [W.sfree] at e; cases e)]; exact W.st b u e
  · rcases List.mem_cons.mp m with e | m
    · cases e; exact ⟨upd_same, W.sfree⟩
    · have hq : q ≠ p := fun z => (List.nodup_cons.mp W.nd).1 (List.mem_map.mpr ⟨(q, u), m, z⟩)
      rw [upd_ne hq]; exact W.ow q u (List.mem_cons_of_mem _ m)
end
theorem sub_flat {α : Type} : ∀ {O O' : List (List α)}, O.Sublist O' → O.flatten.Sublist O'.flatten
  | _, _, .slnil => List.Sublist.refl _
  | _, _, .cons a h => by rw [List.flatten_cons]; exact (sub_flat h).trans (List.sublist_append_right _ _)
  | _, _, .cons_cons a h => by rw [List.flatten_cons, List.flatten_cons]; exact (List.Sublist.refl a).append (sub_flat h)
/-- the owned cells, an object a group -/
abbrev Ow := List (List Cell)
def Wd (S : Hp) (O : Ow) (H : Hp) : Prop := Wd0 S O.flatten H
theorem perm_erase {α : Type} : ∀ {O : List α} {i : Nat} {c : α}, O[i]? = some c → O.Perm (c :: O.eraseIdx i)
  | [], _, _, h => by simp at h
  | d :: O, 0, c, h => by simp at h; subst h; exact List.Perm.refl _
  | d :: O, i + 1, c, h => by
    have q := perm_erase (O := O) (i := i) (c := c) (by simpa using h)
    exact (q.cons d).trans (List.Perm.swap ..)
theorem erase_set {α : Type} : ∀ {O : List α} {i : Nat} {d : α}, (O.set i d).eraseIdx i = O.eraseIdx i
  | [], _, _ => rfl
  | _ :: _, 0, _ => rfl
  | c :: O, i + 1, d => congrArg (c :: ·) (erase_set (O := O) (i := i) (d := d))
theorem perm_front {O F : Ow} {i : Nat} {c : List Cell} (h : O[i]? = some c) : (O ++ F).Perm (c :: (O.eraseIdx i ++ F)) := (perm_erase h).append_right F
theorem perm_set {O : Ow} {i : Nat} {c d : List Cell} (h : O[i]? = some c) (F : Ow) : (d :: (O.eraseIdx i ++ F)).Perm (O.set i d ++ F) := by
  obtain ⟨hi, _⟩ := List.getElem?_eq_some_iff.mp h
  have h2 : (O.set i d)[i]? = some d := by rw [List.getElem?_set_self hi]
  have h3 := perm_erase h2
  rw [erase_set] at h3
  exact h3.symm.append_right F
section
variable {S H H' : Hp} {O O' F : Ow} {p : Addr} {o o' : HO} {c c' : List Cell}
theorem Wd.st (W : Wd S O H) : Same S H := Wd0.st W
theorem Wd.sn (W : Wd S O H) (h : H p = none) : S p = none := W.st.free h
theorem Wd.new (W : Wd S O H) (h : H p = none) : Wd (upd S p o) O (upd H p o) := Wd0.new W h
theorem Wd.newO (W : Wd S O H) (h : H p = none) : Wd S ([(p, o)] :: O) (upd H p o) := Wd0.newO W h
theorem Wd.perm (W : Wd S O H) (h : O.Perm O') : Wd S O' H := Wd0.perm W h.flatten
theorem Wd.sub (W : Wd S O H) (h : O'.Sublist O) : Wd S O' H := Wd0.sub W (sub_flat h)
theorem Wd.tail (W : Wd S (c :: O) H) : Wd S O H := W.sub (List.sublist_cons_self _ _)
theorem Wd.mem (W : Wd S O H) (m : c ∈ O) (h : (p, o) ∈ c) : H p = some o := (Wd0.ow W p o (List.mem_flatten.mpr ⟨c, m, h⟩)).1
theorem Wd.hd1 (W : Wd S ([(p, o)] :: O) H) : H p = some o := W.mem (List.mem_cons_self ..) (List.mem_cons_self ..)
/-- a group is written -/
theorem Wd.putG (W : Wd S (c :: O) H) (hk : c'.map (·.1) = c.map (·.1)) (hn : ∀ a o, (a, o) ∈ c' → H' a = some o) (ho : ∀ a, a ∉ c.map (·.1) → H' a = H a) : Wd S (c' :: O) H' := by
  have nd := Wd0.nd W
  simp only [List.flatten_cons, List.map_append] at nd
  obtain ⟨nd1, nd2, nd3⟩ := List.nodup_append.mp nd
  have free : ∀ a, a ∈ c.map (·.1) → S a = none := fun a m => by
    obtain ⟨⟨q, u⟩, hm, e⟩ := List.mem_map.mp m
    cases e
    exact (Wd0.ow W q u (List.mem_flatten.mpr ⟨c, List.mem_cons_self .., hm⟩)).2
  refine ⟨fun b u e => ?_, fun q u m => ?_, ?_⟩
  · rw [ho b fun z => by rw [free b z] at e; cases e]
    exact W.st b u e
  · rw [List.flatten_cons] at m
    rcases List.mem_append.mp m with m | m
    · refine ⟨hn q u m, free q ?_⟩
      rw [← hk]
      exact List.mem_map.mpr ⟨_, m, rfl⟩
    · have hq : q ∉ c.map (·.1) := fun z => nd3 q z q (List.mem_map.mpr ⟨_, m, rfl⟩) rfl
      rw [ho q hq]
      exact Wd0.ow W q u (by rw [List.flatten_cons]; exact List.mem_append_right _ m)
  · simp only [List.flatten_cons, List.map_append]
    rw [hk]
    exact nd
theorem Wd.put1 (W : Wd S ([(p, o)] :: O) H) (o' : HO) : Wd S ([(p, o')] :: O) (upd H p o') := Wd0.put0 W o'
/-- a group stays from now on -/
def addG (S : Hp) : List Cell → Hp
  | [] => S
  | c :: r => addG (upd S c.1 c.2) r
theorem addG_same : ∀ {c : List Cell} {S : Hp} {L : List Cell}, Wd0 S (c ++ L) H → Same S (addG S c) ∧ Wd0 (addG S c) L H ∧ ∀ a o, (a, o) ∈ c → addG S c a = some o
  | [], S, L, W => ⟨Same.refl _, W, fun _ _ m => by cases m⟩
  | (p, o) :: c, S, L, W => by
    obtain ⟨h1, h2, h3⟩ := addG_same (c := c) (S := upd S p o) (L := L) (Wd0.freeze W)
    refine ⟨(same_upd (Wd0.sfree W)).trans h1, h2, fun a u m => ?_⟩
    rcases List.mem_cons.mp m with e | m
    · cases e; exact h1 _ _ upd_same
    · exact h3 a u m
theorem Wd.frzG (W : Wd S (c :: O) H) : Same S (addG S c) ∧ Wd (addG S c) O H ∧ ∀ a o, (a, o) ∈ c → addG S c a = some o := addG_same W
theorem Wd.at (W : Wd S (O ++ F) H) {i : Nat} (h : O[i]? = some c) : ∀ a o, (a, o) ∈ c → H a = some o := fun a o m => W.mem (List.mem_append_left _ (List.mem_of_getElem? h)) m
theorem Wd.at1 (W : Wd S (O ++ F) H) {i : Nat} (h : O[i]? = some [(p, o)]) : H p = some o := W.at h p o (List.mem_cons_self ..)
theorem Wd.put (W : Wd S (O ++ F) H) (i : Nat) (h : O[i]? = some [(p, o)]) (o' : HO) : Wd S (O.set i [(p, o')] ++ F) (upd H p o') :=
  ((W.perm (perm_front h)).put1 o').perm (perm_set h F)
theorem Wd.frz (W : Wd S (O ++ F) H) (i : Nat) (h : O[i]? = some c) : Same S (addG S c) ∧ Wd (addG S c) (O.eraseIdx i ++ F) H ∧ ∀ a o, (a, o) ∈ c → addG S c a = some o := (W.perm (perm_front h)).frzG
end
/-! ### objects of one's own, that may change -/
structure OTy (γ : Type) where
  rep : γ → Addr → List Cell → Hp → Prop
  mono : ∀ {g : γ} {p : Addr} {c : List Cell} {S S' : Hp}, Same S S' → rep g p c S → rep g p c S'
def OTy.f {γ : Type} (T : OTy γ) (g : γ) (p : Addr) (c : List Cell) : Fact := ⟨T.rep g p c, fun h => T.mono h⟩
def oL {α : Type} (T : Ty α) : OTy (List α) := ⟨fun xs p c S => ∃ vs, c = [(p, .lst vs)] ∧ Rl T S xs vs, fun h ⟨vs, e, r⟩ => ⟨vs, e, r.mono h⟩⟩
/-- an owned object that is only looked at -/
def tOwn {γ : Type} (O : Ow) (OT : OTy γ) : Ty γ := ⟨fun g v S => ∃ p c, v = .ref p ∧ c ∈ O ∧ OT.rep g p c S, fun h ⟨p, c, e, m, r⟩ => ⟨p, c, e, m, OT.mono h r⟩⟩
/-- frozen, such an object is data -/
def Frz {γ : Type} (OT : OTy γ) (T : Ty γ) : Prop := ∀ g p c S, OT.rep g p c S → (∀ a o, (a, o) ∈ c → S a = some o) → T.rep g (.ref p) S
theorem frz_L {α : Type} {T : Ty α} : Frz (oL T) (tL T) := fun g p c S ⟨vs, e, r⟩ h => ⟨p, vs, rfl, h _ _ (by rw [e]; exact List.mem_cons_self ..), r⟩
/-- what is read as such an object -/
class Lk {γ : Type} (O : Ow) (OT : outParam (OTy γ)) (TL : Ty γ) : Prop where
  lk : ∀ g v S, TL.rep g v S → ∃ p c, v = .ref p ∧ OT.rep g p c S ∧ ∀ H F, Wd S (O ++ F) H → ∀ a o, (a, o) ∈ c → H a = some o
instance {α : Type} {O : Ow} {T : Ty α} : Lk O (oL T) (tL T) := ⟨fun _ _ _ ⟨p, vs, e, h, r⟩ => ⟨p, _, e, ⟨vs, rfl, r⟩, fun _ _ w a o m => by
  obtain ⟨rfl, rfl⟩ : a = p ∧ o = .lst vs := by simpa using m
  exact w.st _ _ h⟩⟩
instance {γ : Type} {O : Ow} {OT : OTy γ} : Lk O OT (tOwn O OT) := ⟨fun _ _ _ ⟨p, c, e, m, r⟩ => ⟨p, c, e, r, fun _ _ w a o h => w.mem (List.mem_append_left _ m) h⟩⟩
theorem lkL {α : Type} {O : Ow} {T : Ty α} {TL : Ty (List α)} [Lk O (oL T) TL] {xs : List α} {v : V} {S : Hp} (h : TL.rep xs v S) : ∃ p vs, v = .ref p ∧ Rl T S xs vs ∧ ∀ H F, Wd S (O ++ F) H → H p = some (.lst vs) := by
  obtain ⟨p, c, e, ⟨vs, rfl, r⟩, k⟩ := Lk.lk (O := O) xs v S h
  exact ⟨p, vs, e, r, fun H F w => k H F w _ _ (List.mem_cons_self ..)⟩

/-! ### a reading computes a mirror (nothing owned changes) -/
section
variable {α β γ : Type}
def Sim (G : List Fact) (O : Ow) (t : TE) (σ : St) (m : Option α) (T : Ty α) : Prop :=
  ∀ (S H : Hp) (F : Ow) (r : α), Okc G S → Wd S (O ++ F) H → m = some r → ∀ Q : VK, (∀ v S' H', Same S S' → Wd S' (O ++ F) H' → T.rep r v S' → Q v H') → t σ H Q
def SimT (G : List Fact) (O : Ow) (t : TT) (σ : St) (m : Option Bool) : Prop :=
  ∀ (S H : Hp) (F : Ow) (r : Bool), Okc G S → Wd S (O ++ F) H → m = some r → ∀ Q : Bool → Hp → Prop, (∀ S' H', Same S S' → Wd S' (O ++ F) H' → Q r H') → t σ H Q
def SimA (G : List Fact) (O : Ow) (t : TA) (σ : St) (m : Option α) (A : TyA α) : Prop :=
  ∀ (S H : Hp) (F : Ow) (r : α), Okc G S → Wd S (O ++ F) H → m = some r → ∀ Q : List V → Hp → Prop, (∀ vs S' H', Same S S' → Wd S' (O ++ F) H' → A.rep r vs S' → Q vs H') → t σ H Q
/-- a fresh object comes out, owned -/
def SimF (G : List Fact) (O : Ow) (t : TE) (σ : St) (m : Option α) (T : OTy α) : Prop :=
  ∀ (S H : Hp) (F : Ow) (r : α), Okc G S → Wd S (O ++ F) H → m = some r → ∀ Q : VK, (∀ p c S' H', Same S S' → Wd S' (c :: (O ++ F)) H' → T.rep r p c S' → Q (.ref p) H') → t σ H Q
variable {G : List Fact} {O : Ow} {σ : St} {T : Ty α} {U : Ty β} {W : Ty γ}
theorem bind_some {m : Option α} {k : α → Option β} {r : β} (h : m.bind k = some r) : ∃ a, m = some a ∧ k a = some r := Option.bind_eq_some_iff.mp h
/-- a fresh object, frozen at once -/
theorem SimF.frz {OT : OTy α} {t : TE} {m : Option α} (fr : Frz OT T) (h : SimF G O t σ m OT) : Sim G O t σ m T := fun S H F r hG w hm Q k =>
  h S H F r hG w hm Q fun p c S' H' s w' q => by
    obtain ⟨h1, h2, h3⟩ := w'.frzG
    exact k _ (addG S' c) H' (s.trans h1) h2 (fr _ _ _ _ (OT.mono h1 q) h3)
theorem SimF.sim {t : TE} {m : Option (List α)} (h : SimF G O t σ m (oL T)) : Sim G O t σ m (tL T) := h.frz frz_L
/-- a value that was come to -/
theorem sim_K {v : V} {x : α} (j : Nat) (hf : G[j]? = some (T.f x v)) : Sim G O (tC v) σ (some x) T := fun S H F r hG w hm Q k => by
  cases hm
  exact k v S H (Same.refl _) w (Okc.at j hf hG)
theorem sim_own {OT : OTy α} {p : Addr} {c : List Cell} {g : α} {i : Nat} (o j : Nat) (hs : σ[i]? = some (some (.ref p))) (ho : O[o]? = some c) (hf : G[j]? = some (OT.f g p c)) : Sim G O (tVar i) σ (some g) (tOwn O OT) := fun S H F r hG w hm Q k => by
  cases hm
  exact ⟨.ref p, hs, k _ S H (Same.refl _) w ⟨p, c, rfl, List.mem_of_getElem? ho, Okc.at j hf hG⟩⟩
theorem sim_var {v : V} {x : α} {i : Nat} (j : Nat) (hs : σ[i]? = some (some v)) (hf : G[j]? = some (T.f x v)) : Sim G O (tVar i) σ (some x) T := fun S H F r hG w hm Q k => by
  cases hm
  exact ⟨v, hs, k v S H (Same.refl _) w (Okc.at j hf hG)⟩
theorem sim_int {i : Int} : Sim G O (tC (.int i)) σ (some i) tInt := fun S H F r hG w hm Q k => by cases hm; exact k _ S H (Same.refl _) w rfl
theorem sim_bl {i : Bool} : Sim G O (tC (.bl i)) σ (some i) tBool := fun S H F r hG w hm Q k => by cases hm; exact k _ S H (Same.refl _) w rfl
theorem sim_str {i : Str} : Sim G O (tC (.str i)) σ (some i) tStr := fun S H F r hG w hm Q k => by cases hm; exact k _ S H (Same.refl _) w rfl
theorem sim_non : Sim G O (tC .non) σ (some ()) tUnit := fun S H F r hG w hm Q k => by cases hm; exact k _ S H (Same.refl _) w rfl
theorem sim_nonO : Sim G O (tC .non) σ (some (none : Option α)) (tO T) := fun S H F r hG w hm Q k => by cases hm; exact k _ S H (Same.refl _) w rfl
theorem sim_imp {t : TE} {m : Option α} {f : α → β} (h : Sim G O t σ m T) (i : ∀ a v S, T.rep a v S → U.rep (f a) v S) : Sim G O t σ (m.bind fun a => some (f a)) U := fun S H F r hG w hm Q k => by
  obtain ⟨a, h1, h2⟩ := bind_some hm
  cases h2
  exact h S H F a hG w h1 Q fun v S' H' s w' q => k v S' H' s w' (i _ _ _ q)
/-- two operands -/
theorem sim_op2 {r : R2} {ta tb : TE} {ma : Option α} {mb : Option β} {f : α → β → Option γ}
    (hr : ∀ a b c x y S H F, T.rep a x S → U.rep b y S → Wd S (O ++ F) H → f a b = some c → ∀ Q : VK, (∀ v S' H', Same S S' → Wd S' (O ++ F) H' → W.rep c v S' → Q v H') → r x y H Q)
    (ha : Sim G O ta σ ma T) (hb : Sim G O tb σ mb U) : Sim G O (tOp r ta tb) σ (ma.bind fun a => mb.bind fun b => f a b) W := fun S H F c hG w hm Q k => by
  obtain ⟨a, h1, hm⟩ := bind_some hm
  obtain ⟨b, h2, hm⟩ := bind_some hm
  refine ha S H F a hG w h1 _ fun x S1 H1 s1 w1 q1 => ?_
  refine hb S1 H1 F b (hG.mono s1) w1 h2 _ fun y S2 H2 s2 w2 q2 => ?_
  exact hr a b c x y S2 H2 F (T.mono s2 q1) q2 w2 hm Q fun v S3 H3 s3 w3 q3 => k v S3 H3 ((s1.trans s2).trans s3) w3 q3
theorem sim_rI0 {g : Int → Int → V} {f : Int → Int → γ} {ta tb : TE} {ma mb : Option Int} (hg : ∀ i j S, W.rep (f i j) (g i j) S)
    (ha : Sim G O ta σ ma tInt) (hb : Sim G O tb σ mb tInt) : Sim G O (tOp (rI0 g) ta tb) σ (ma.bind fun a => mb.bind fun b => some (f a b)) W :=
  sim_op2 (fun a b c x y S H F h1 h2 w e Q k => by cases e; exact ⟨a, b, h1, h2, k _ S H (Same.refl _) w (hg _ _ _)⟩) ha hb
theorem sim_rI {C : Int → Int → Prop} {g : Int → Int → V} {f : Int → Int → Option γ} {ta tb : TE} {ma mb : Option Int} (hg : ∀ i j c, f i j = some c → C i j ∧ ∀ S, W.rep c (g i j) S)
    (ha : Sim G O ta σ ma tInt) (hb : Sim G O tb σ mb tInt) : Sim G O (tOp (rI C g) ta tb) σ (ma.bind fun a => mb.bind fun b => f a b) W :=
  sim_op2 (fun a b c x y S H F h1 h2 w e Q k => ⟨a, b, h1, h2, (hg a b c e).1, k _ S H (Same.refl _) w ((hg a b c e).2 S)⟩) ha hb
end

/-! ### the operations on ints that ask something -/
def wide (i : Int) : Prop := i.natAbs < 2 ^ 4000
instance (i : Int) : Decidable (wide i) := inferInstanceAs (Decidable (_ < _))
def x_mul (i j : Int) : Option Int := if wide i ∧ wide j then some (i * j) else none
def x_mulS (i j : Int) : Option Int := if (-(2 ^ 64) < i ∧ i < 2 ^ 64) ∨ (-(2 ^ 64) < j ∧ j < 2 ^ 64) then some (i * j) else none
def x_div (i j : Int) : Option Int := if 0 < j ∧ j < 1073741824 then some (i / j) else none
def x_mod (i j : Int) : Option Int := if 0 < j then some (i % j) else none
def x_shl (i j : Int) : Option Int := if 0 ≤ j ∧ j ≤ 1000000 ∧ i.natAbs < 2 ^ 64 then some (i * 2 ^ j.toNat) else none
def x_shr (i j : Int) : Option Int := if 0 ≤ j then some (i / 2 ^ j.toNat) else none
def x_pow (i j : Int) : Option Int := if 0 ≤ j ∧ j ≤ 1000000 ∧ i.natAbs < 2 ^ 64 then some (i ^ j.toNat) else none
theorem of_if {α : Type} {c : Prop} [Decidable c] {x y : α} (h : (if c then some x else none) = some y) : c ∧ x = y := by
  split at h
  · exact ⟨by assumption, Option.some.inj h⟩
  · cases h
section
variable {G : List Fact} {O : Ow} {σ : St} {ta tb : TE} {ma mb : Option Int}
theorem sim_add (ha : Sim G O ta σ ma tInt) (hb : Sim G O tb σ mb tInt) : Sim G O (tOp (rI0 fun i j => .int (i + j)) ta tb) σ (ma.bind fun a => mb.bind fun b => some (a + b)) tInt := sim_rI0 (fun _ _ _ => rfl) ha hb
theorem sim_sub (ha : Sim G O ta σ ma tInt) (hb : Sim G O tb σ mb tInt) : Sim G O (tOp (rI0 fun i j => .int (i - j)) ta tb) σ (ma.bind fun a => mb.bind fun b => some (a - b)) tInt := sim_rI0 (fun _ _ _ => rfl) ha hb
theorem sim_and (ha : Sim G O ta σ ma tInt) (hb : Sim G O tb σ mb tInt) : Sim G O (tOp (rI0 fun i j => .int (Builtin.bitAnd i j)) ta tb) σ (ma.bind fun a => mb.bind fun b => some (Builtin.bitAnd a b)) tInt := sim_rI0 (fun _ _ _ => rfl) ha hb
theorem sim_or (ha : Sim G O ta σ ma tInt) (hb : Sim G O tb σ mb tInt) : Sim G O (tOp (rI0 fun i j => .int (Builtin.bitOr i j)) ta tb) σ (ma.bind fun a => mb.bind fun b => some (Builtin.bitOr a b)) tInt := sim_rI0 (fun _ _ _ => rfl) ha hb
theorem sim_mul (ha : Sim G O ta σ ma tInt) (hb : Sim G O tb σ mb tInt) : Sim G O (tOp (rI CMulW fun i j => .int (i * j)) ta tb) σ (ma.bind fun a => mb.bind fun b => x_mul a b) tInt :=
  sim_rI (fun i j c e => by
    obtain ⟨⟨h1, h2⟩, rfl⟩ := of_if e
    exact ⟨wide_mul h1 h2 (by decide) (by decide) (by decide), fun _ => rfl⟩) ha hb
theorem sim_mulS (ha : Sim G O ta σ ma tInt) (hb : Sim G O tb σ mb tInt) : Sim G O (tOp (rI CMul fun i j => .int (i * j)) ta tb) σ (ma.bind fun a => mb.bind fun b => x_mulS a b) tInt :=
  sim_rI (fun i j c e => by
    obtain ⟨h, rfl⟩ := of_if e
    exact ⟨h, fun _ => rfl⟩) ha hb
theorem sim_div (ha : Sim G O ta σ ma tInt) (hb : Sim G O tb σ mb tInt) : Sim G O (tOp (rI CDiv fun i j => .int (i / j)) ta tb) σ (ma.bind fun a => mb.bind fun b => x_div a b) tInt :=
  sim_rI (fun i j c e => by
    obtain ⟨h, rfl⟩ := of_if e
    exact ⟨h, fun _ => rfl⟩) ha hb
theorem sim_mod (ha : Sim G O ta σ ma tInt) (hb : Sim G O tb σ mb tInt) : Sim G O (tOp (rI (fun _ j => 0 < j) fun i j => .int (i % j)) ta tb) σ (ma.bind fun a => mb.bind fun b => x_mod a b) tInt :=
  sim_rI (fun i j c e => by
    obtain ⟨h, rfl⟩ := of_if e
    exact ⟨h, fun _ => rfl⟩) ha hb
theorem sim_shl (ha : Sim G O ta σ ma tInt) (hb : Sim G O tb σ mb tInt) : Sim G O (tOp (rI CPow fun i j => .int (i * 2 ^ j.toNat)) ta tb) σ (ma.bind fun a => mb.bind fun b => x_shl a b) tInt :=
  sim_rI (fun i j c e => by
    obtain ⟨h, rfl⟩ := of_if e
    exact ⟨h, fun _ => rfl⟩) ha hb
theorem sim_shr (ha : Sim G O ta σ ma tInt) (hb : Sim G O tb σ mb tInt) : Sim G O (tOp (rI (fun _ j => 0 ≤ j) fun i j => .int (i / 2 ^ j.toNat)) ta tb) σ (ma.bind fun a => mb.bind fun b => x_shr a b) tInt :=
  sim_rI (fun i j c e => by
    obtain ⟨h, rfl⟩ := of_if e
    exact ⟨h, fun _ => rfl⟩) ha hb
theorem sim_pow (ha : Sim G O ta σ ma tInt) (hb : Sim G O tb σ mb tInt) : Sim G O (tOp (rI CPow fun i j => .int (i ^ j.toNat)) ta tb) σ (ma.bind fun a => mb.bind fun b => x_pow a b) tInt :=
  sim_rI (fun i j c e => by
    obtain ⟨h, rfl⟩ := of_if e
    exact ⟨h, fun _ => rfl⟩) ha hb
theorem sim_lt (ha : Sim G O ta σ ma tInt) (hb : Sim G O tb σ mb tInt) : Sim G O (tOp (rI0 fun i j => .bl (decide (i < j))) ta tb) σ (ma.bind fun a => mb.bind fun b => some (decide (a < b))) tBool := sim_rI0 (fun _ _ _ => rfl) ha hb
theorem sim_le (ha : Sim G O ta σ ma tInt) (hb : Sim G O tb σ mb tInt) : Sim G O (tOp (rI0 fun i j => .bl (decide (i ≤ j))) ta tb) σ (ma.bind fun a => mb.bind fun b => some (decide (a ≤ b))) tBool := sim_rI0 (fun _ _ _ => rfl) ha hb
theorem sim_gt (ha : Sim G O ta σ ma tInt) (hb : Sim G O tb σ mb tInt) : Sim G O (tOp (rI0 fun i j => .bl (decide (j < i))) ta tb) σ (ma.bind fun a => mb.bind fun b => some (decide (b < a))) tBool := sim_rI0 (fun _ _ _ => rfl) ha hb
theorem sim_ge (ha : Sim G O ta σ ma tInt) (hb : Sim G O tb σ mb tInt) : Sim G O (tOp (rI0 fun i j => .bl (decide (j ≤ i))) ta tb) σ (ma.bind fun a => mb.bind fun b => some (decide (b ≤ a))) tBool := sim_rI0 (fun _ _ _ => rfl) ha hb
theorem sim_eqI (ha : Sim G O ta σ ma tInt) (hb : Sim G O tb σ mb tInt) : Sim G O (tOp rEq ta tb) σ (ma.bind fun a => mb.bind fun b => some (decide (a = b))) tBool :=
  sim_op2 (fun a b c x y S H F h1 h2 w e Q k => by
    cases e
    obtain rfl : x = .int a := h1
    obtain rfl : y = .int b := h2
    refine ⟨rfl, ?_⟩
    have e : decide (V.int a = V.int b) = decide (a = b) := by rw [dec_int, Bool.beq_eq_decide_eq]
    rw [e]
    exact k _ S H (Same.refl _) w rfl) ha hb
theorem sim_neI (ha : Sim G O ta σ ma tInt) (hb : Sim G O tb σ mb tInt) : Sim G O (tOp rNe ta tb) σ (ma.bind fun a => mb.bind fun b => some (!decide (a = b))) tBool :=
  sim_op2 (fun a b c x y S H F h1 h2 w e Q k => by
    cases e
    obtain rfl : x = .int a := h1
    obtain rfl : y = .int b := h2
    refine ⟨rfl, ?_⟩
    have e : decide (V.int a = V.int b) = decide (a = b) := by rw [dec_int, Bool.beq_eq_decide_eq]
    rw [e]
    exact k _ S H (Same.refl _) w rfl) ha hb
theorem sim_neg (ha : Sim G O ta σ ma tInt) : Sim G O (tUn (rU fun i => .int (-i)) ta) σ (ma.bind fun a => some (-a)) tInt := fun S H F r hG w hm Q k => by
  obtain ⟨a, h1, hm⟩ := bind_some hm
  cases hm
  exact ha S H F a hG w h1 _ fun v S' H' s w' q => ⟨a, q, k _ S' H' s w' rfl⟩
end
end HF

set_option Elab.async false
set_option linter.all false
set_option maxRecDepth 100000
set_option maxHeartbeats 2000000
/-! Mini2: tests, lists, tuples, comprehensions, calls. -/
namespace HF
open PySem PySem.Spec L2
open PyProof.Rows hiding St
/-! ### tests -/
def andM (a : Bool) (m : Option Bool) : Option Bool := if a = true then m else some false
def orM (a : Bool) (m : Option Bool) : Option Bool := if a = true then some true else m
theorem andM_some (a b : Bool) : andM a (some b) = some (a && b) := by cases a <;> rfl
theorem orM_some (a b : Bool) : orM a (some b) = some (a || b) := by cases a <;> rfl
section
variable {α β γ : Type} {G : List Fact} {O : Ow} {σ : St} {T : Ty α} {U : Ty β} {W : Ty γ}
theorem simT_test {t : TE} {m : Option Bool} (h : Sim G O t σ m tBool) : SimT G O (tTest t) σ m := fun S H F r hG w hm Q k =>
  h S H F r hG w hm _ fun v S' H' s w' q => ⟨r, q, k S' H' s w'⟩
theorem simT_B {t : TE} {m : Option Bool} (h : Sim G O t σ m tBool) : SimT G O (tB t) σ m := fun S H F r hG w hm Q k =>
  h S H F r hG w hm _ fun v S' H' s w' q => ⟨r, q, k S' H' s w'⟩
theorem simT_not {t : TT} {m : Option Bool} (h : SimT G O t σ m) : SimT G O (tNot t) σ (m.bind fun b => some (!b)) := fun S H F r hG w hm Q k => by
  obtain ⟨a, h1, h2⟩ := bind_some hm
  cases h2
  exact h S H F a hG w h1 _ fun S' H' s w' => k S' H' s w'
theorem simT_and {t u : TT} {ma mb : Option Bool} (ha : SimT G O t σ ma) (hb : SimT G O u σ mb) : SimT G O (tAnd t u) σ (ma.bind fun a => andM a mb) := fun S H F r hG w hm Q k => by
  obtain ⟨a, h1, h2⟩ := bind_some hm
  refine ha S H F a hG w h1 _ fun S' H' s w' => ?_
  cases a with
  | true => exact hb S' H' F r (hG.mono s) w' h2 Q fun S2 H2 s2 w2 => k S2 H2 (s.trans s2) w2
  | false =>
    obtain rfl : false = r := Option.some.inj h2
    exact k S' H' s w'
theorem simT_or {t u : TT} {ma mb : Option Bool} (ha : SimT G O t σ ma) (hb : SimT G O u σ mb) : SimT G O (tOr t u) σ (ma.bind fun a => orM a mb) := fun S H F r hG w hm Q k => by
  obtain ⟨a, h1, h2⟩ := bind_some hm
  refine ha S H F a hG w h1 _ fun S' H' s w' => ?_
  cases a with
  | false => exact hb S' H' F r (hG.mono s) w' h2 Q fun S2 H2 s2 w2 => k S2 H2 (s.trans s2) w2
  | true =>
    obtain rfl : true = r := Option.some.inj h2
    exact k S' H' s w'
theorem sim_andV {t u : TE} {ma mb : Option Bool} (ha : Sim G O t σ ma tBool) (hb : Sim G O u σ mb tBool) : Sim G O (tAndV t u) σ (ma.bind fun a => andM a mb) tBool := fun S H F r hG w hm Q k => by
  obtain ⟨a, h1, h2⟩ := bind_some hm
  refine ha S H F a hG w h1 _ fun v S' H' s w' q => ⟨a, q, ?_⟩
  cases a with
  | true => exact hb S' H' F r (hG.mono s) w' h2 Q fun v2 S2 H2 s2 w2 q2 => k v2 S2 H2 (s.trans s2) w2 q2
  | false =>
    obtain rfl : false = r := Option.some.inj h2
    exact k _ S' H' s w' rfl
theorem sim_orV {t u : TE} {ma mb : Option Bool} (ha : Sim G O t σ ma tBool) (hb : Sim G O u σ mb tBool) : Sim G O (tOrV t u) σ (ma.bind fun a => orM a mb) tBool := fun S H F r hG w hm Q k => by
  obtain ⟨a, h1, h2⟩ := bind_some hm
  refine ha S H F a hG w h1 _ fun v S' H' s w' q => ⟨a, q, ?_⟩
  cases a with
  | false => exact hb S' H' F r (hG.mono s) w' h2 Q fun v2 S2 H2 s2 w2 q2 => k v2 S2 H2 (s.trans s2) w2 q2
  | true =>
    obtain rfl : true = r := Option.some.inj h2
    exact k _ S' H' s w' rfl
theorem sim_notV {t : TE} {m : Option Bool} (h : Sim G O t σ m tBool) : Sim G O (tNotV t) σ (m.bind fun b => some (!b)) tBool := fun S H F r hG w hm Q k => by
  obtain ⟨a, h1, h2⟩ := bind_some hm
  cases h2
  exact h S H F a hG w h1 _ fun v S' H' s w' q => ⟨a, q, k _ S' H' s w' rfl⟩
theorem sim_if {c : TT} {t u : TE} {mc : Option Bool} {ma mb : Option α} (hc : SimT G O c σ mc) (ha : Sim G O t σ ma T) (hb : Sim G O u σ mb T) : Sim G O (tIf c t u) σ (mc.bind fun b => if b = true then ma else mb) T := fun S H F r hG w hm Q k => by
  obtain ⟨a, h1, h2⟩ := bind_some hm
  refine hc S H F a hG w h1 _ fun S' H' s w' => ?_
  cases a with
  | true => exact ha S' H' F r (hG.mono s) w' h2 Q fun v2 S2 H2 s2 w2 q2 => k v2 S2 H2 (s.trans s2) w2 q2
  | false => exact hb S' H' F r (hG.mono s) w' h2 Q fun v2 S2 H2 s2 w2 q2 => k v2 S2 H2 (s.trans s2) w2 q2
/-- a op b op' c of ints -/
theorem sim_chain {p p' : Int → Int → Bool} {ta tb tc : TE} {ma mb mc : Option Int} (ha : Sim G O ta σ ma tInt) (hb : Sim G O tb σ mb tInt) (hc : Sim G O tc σ mc tInt) :
    Sim G O (tChain (rI0 fun i j => .bl (p i j)) (rI0 fun i j => .bl (p' i j)) ta tb tc) σ (ma.bind fun a => mb.bind fun b => andM (p a b) (mc.bind fun c => some (p' b c))) tBool := fun S H F r hG w hm Q k => by
  obtain ⟨a, h1, hm⟩ := bind_some hm
  obtain ⟨b, h2, hm⟩ := bind_some hm
  refine ha S H F a hG w h1 _ fun x S1 H1 s1 w1 q1 => ?_
  refine hb S1 H1 F b (hG.mono s1) w1 h2 _ fun y S2 H2 s2 w2 q2 => ⟨a, b, q1, q2, p a b, rfl, ?_⟩
  cases e : p a b with
  | false =>
    rw [e] at hm
    obtain rfl : false = r := Option.some.inj hm
    exact k _ S2 H2 (s1.trans s2) w2 rfl
  | true =>
    rw [e] at hm
    obtain ⟨c, h3, hm⟩ := bind_some hm
    cases hm
    exact hc S2 H2 F c (hG.mono (s1.trans s2)) w2 h3 _ fun z S3 H3 s3 w3 q3 => ⟨b, c, q2, q3, k _ S3 H3 ((s1.trans s2).trans s3) w3 rfl⟩
/-- the truth of an int -/
theorem simT_truI {K : PySem.W.Frag} {t : TE} {m : Option Int} (h : Sim G O t σ m tInt) : SimT G O (fun σ H Q => t σ H fun x H' => ∃ k, TruV K x H' k ∧ Q k H') σ (m.bind fun i => some (i != 0)) := fun S H F r hG w hm Q k => by
  obtain ⟨a, h1, h2⟩ := bind_some hm
  cases h2
  refine h S H F a hG w h1 _ fun v S' H' s w' q => ⟨_, ?_, k S' H' s w'⟩
  cases q
  rfl
/-! ### None -/
theorem sim_isN {ta : TE} {u : TE} {ma : Option (Option α)} {mb : Option Unit} (ha : Sim G O ta σ ma (tO T)) (hb : Sim G O u σ mb tUnit) : Sim G O (tOp (fun x y H Q => y = .non ∧ Q (.bl (decide (x = .non))) H) ta u) σ (ma.bind fun a => mb.bind fun _ => some a.isNone) tBool :=
  sim_op2 (fun a b c x y S H F h1 h2 w e Q k => by
    cases e
    refine ⟨h2, ?_⟩
    cases a with
    | none => obtain rfl : x = .non := h1; exact k _ S H (Same.refl _) w rfl
    | some z => rw [decide_eq_false h1.2]; exact k _ S H (Same.refl _) w rfl) ha hb
theorem sim_notN {ta : TE} {u : TE} {ma : Option (Option α)} {mb : Option Unit} (ha : Sim G O ta σ ma (tO T)) (hb : Sim G O u σ mb tUnit) : Sim G O (tOp (fun x y H Q => y = .non ∧ Q (.bl (!decide (x = .non))) H) ta u) σ (ma.bind fun a => mb.bind fun _ => some a.isSome) tBool :=
  sim_op2 (fun a b c x y S H F h1 h2 w e Q k => by
    cases e
    refine ⟨h2, ?_⟩
    cases a with
    | none => obtain rfl : x = .non := h1; exact k _ S H (Same.refl _) w rfl
    | some z => rw [decide_eq_false h1.2]; exact k _ S H (Same.refl _) w rfl) ha hb
/-- what is never None -/
def NotNon (T : Ty α) : Prop := ∀ a v S, T.rep a v S → v ≠ .non
theorem nn_int : NotNon tInt := fun _ _ _ h e => by cases h; cases e
theorem nn_str : NotNon tStr := fun _ _ _ h e => by cases h; cases e
theorem nn_L : NotNon (tL T) := fun _ _ _ ⟨_, _, h, _⟩ e => by rw [h] at e; cases e
theorem nn_T : NotNon (tT T) := fun _ _ _ ⟨_, _, h, _⟩ e => by rw [h] at e; cases e
theorem nn_P : NotNon (tP T U) := fun _ _ _ ⟨_, _, _, h, _⟩ e => by rw [h] at e; cases e
theorem sim_some {t : TE} {m : Option α} (n : NotNon T) (h : Sim G O t σ m T) : Sim G O t σ (m.bind fun a => some (some a)) (tO T) :=
  sim_imp h fun a v S q => ⟨q, n a v S q⟩
end

/-! ### lists -/
section
variable {α β γ : Type} {G : List Fact} {O : Ow} {σ : St} {T : Ty α} {U : Ty β} {W : Ty γ} {TL : Ty (List α)} {K : PySem.W.Frag}
def x_ix (xs : List α) (i : Int) : Option α := atI xs i
theorem atI_rl {S : Hp} {xs : List α} {vs : List V} {i : Int} {a : α} (r : Rl T S xs vs) (h : x_ix xs i = some a) : ∃ v, atI vs i = some v ∧ T.rep a v S := by
  unfold x_ix atI at *
  rw [← r.length]
  obtain ⟨j, h1, h2⟩ := bind_some h
  obtain ⟨v, h3, h4⟩ := r.get h2
  exact ⟨v, by rw [h1]; exact h3, h4⟩
theorem sim_ix [Lk O (oL T) TL] {ta tb : TE} {ma : Option (List α)} {mb : Option Int} (ha : Sim G O ta σ ma TL) (hb : Sim G O tb σ mb tInt) : Sim G O (tOp (rIxL K) ta tb) σ (ma.bind fun a => mb.bind fun b => x_ix a b) T :=
  sim_op2 (fun a b c x y S H F h1 h2 w e Q k => by
    obtain ⟨p, vs, rfl, r, g⟩ := lkL (O := O) (T := T) h1
    obtain ⟨v, h3, h4⟩ := atI_rl r e
    exact ⟨p, vs, b, v, rfl, h2, SqL.of (g H F w), h3, k v S H (Same.refl _) w h4⟩) ha hb
theorem sim_ixT {ta tb : TE} {ma : Option (List α)} {mb : Option Int} (ha : Sim G O ta σ ma (tT T)) (hb : Sim G O tb σ mb tInt) : Sim G O (tOp (rIxT K) ta tb) σ (ma.bind fun a => mb.bind fun b => x_ix a b) T :=
  sim_op2 (fun a b c x y S H F h1 h2 w e Q k => by
    obtain ⟨p, vs, rfl, g, r⟩ := h1
    obtain ⟨v, h3, h4⟩ := atI_rl r e
    exact ⟨p, vs, b, v, rfl, h2, SqT.of (w.st _ _ g), h3, k v S H (Same.refl _) w h4⟩) ha hb
theorem sim_fst {ta : TE} {ma : Option (α × β)} (ha : Sim G O ta σ ma (tP T U)) : Sim G O (tOp (rIxT K) ta (tC (.int 0))) σ (ma.bind fun a => some a.1) T := fun S H F r hG w hm Q k => by
  obtain ⟨a, h1, hm⟩ := bind_some hm
  cases hm
  refine ha S H F a hG w h1 _ fun x S1 H1 s1 w1 q1 => ?_
  obtain ⟨p, x, y, rfl, g, r1, r2⟩ := q1
  exact ⟨p, [x, y], 0, x, rfl, rfl, SqT.of (w1.st _ _ g), rfl, k _ S1 H1 s1 w1 r1⟩
theorem sim_snd {ta : TE} {ma : Option (α × β)} (ha : Sim G O ta σ ma (tP T U)) : Sim G O (tOp (rIxT K) ta (tC (.int 1))) σ (ma.bind fun a => some a.2) U := fun S H F r hG w hm Q k => by
  obtain ⟨a, h1, hm⟩ := bind_some hm
  cases hm
  refine ha S H F a hG w h1 _ fun x S1 H1 s1 w1 q1 => ?_
  obtain ⟨p, x, y, rfl, g, r1, r2⟩ := q1
  exact ⟨p, [x, y], 1, y, rfl, rfl, SqT.of (w1.st _ _ g), rfl, k _ S1 H1 s1 w1 r2⟩
/-- len -/
abbrev rLn (K : PySem.W.Frag) : List V → Hp → VK → Prop := fun xs H Q => ∃ p ys, xs = [.ref p] ∧ (SqL K H p ys ∨ SqT K H p ys) ∧ Q (.int ys.length) H
theorem sim_len [Lk O (oL T) TL] {ta : TE} {ma : Option (List α)} (ha : Sim G O ta σ ma TL) : Sim G O (tCB (rLn K) (tCons ta tNil)) σ (ma.bind fun a => some (a.length : Int)) tInt := fun S H F r hG w hm Q k => by
  obtain ⟨a, h1, hm⟩ := bind_some hm
  cases hm
  refine ha S H F a hG w h1 _ fun x S1 H1 s1 w1 q1 => ?_
  obtain ⟨p, vs, rfl, r, g⟩ := lkL (O := O) (T := T) q1
  refine ⟨p, vs, rfl, .inl (SqL.of (g H1 F w1)), ?_⟩
  rw [← r.length]
  exact k _ S1 H1 s1 w1 rfl
theorem sim_lenT {ta : TE} {ma : Option (List α)} (ha : Sim G O ta σ ma (tT T)) : Sim G O (tCB (rLn K) (tCons ta tNil)) σ (ma.bind fun a => some (a.length : Int)) tInt := fun S H F r hG w hm Q k => by
  obtain ⟨a, h1, hm⟩ := bind_some hm
  cases hm
  refine ha S H F a hG w h1 _ fun x S1 H1 s1 w1 q1 => ?_
  obtain ⟨p, vs, rfl, g, r⟩ := q1
  refine ⟨p, vs, rfl, .inr (SqT.of (w1.st _ _ g)), ?_⟩
  rw [← r.length]
  exact k _ S1 H1 s1 w1 rfl

/-! ### displays -/
def TyA.ln (n : Nat) (T : Ty α) : TyA (List α) := ⟨fun xs vs S => Rl T S xs vs ∧ vs.length = n, fun h q => ⟨q.1.mono h, q.2⟩⟩
theorem simA_nil : SimA G O tNil σ (some ()) TyA.nil := fun S H F r hG w hm Q k => k _ S H (Same.refl _) w rfl
theorem simA_one {ta : TE} {ma : Option α} (ha : Sim G O ta σ ma T) : SimA G O (tCons ta tNil) σ ma (TyA.one T) := fun S H F r hG w hm Q k =>
  ha S H F r hG w hm _ fun v S' H' s w' q => k _ S' H' s w' ⟨v, rfl, q⟩
theorem simA_c {ta : TE} {tr : TA} {ma : Option α} {mb : Option β} {A : TyA β} (ha : Sim G O ta σ ma T) (hb : SimA G O tr σ mb A) : SimA G O (tCons ta tr) σ (ma.bind fun a => mb.bind fun b => some (a, b)) (TyA.c T A) := fun S H F r hG w hm Q k => by
  obtain ⟨a, h1, hm⟩ := bind_some hm
  obtain ⟨b, h2, hm⟩ := bind_some hm
  cases hm
  refine ha S H F a hG w h1 _ fun x S1 H1 s1 w1 q1 => ?_
  exact hb S1 H1 F b (hG.mono s1) w1 h2 _ fun vs S2 H2 s2 w2 q2 => k _ S2 H2 (s1.trans s2) w2 ⟨x, vs, rfl, T.mono s2 q1, q2⟩
theorem simA_ln0 : SimA G O tNil σ (some []) (TyA.ln 0 T) := fun S H F r hG w hm Q k => by cases hm; exact k _ S H (Same.refl _) w ⟨.nil, rfl⟩
theorem simA_ln {n : Nat} {ta : TE} {tr : TA} {ma : Option α} {mb : Option (List α)} (ha : Sim G O ta σ ma T) (hb : SimA G O tr σ mb (TyA.ln n T)) : SimA G O (tCons ta tr) σ (ma.bind fun a => mb.bind fun b => some (a :: b)) (TyA.ln (n + 1) T) := fun S H F r hG w hm Q k => by
  obtain ⟨a, h1, hm⟩ := bind_some hm
  obtain ⟨b, h2, hm⟩ := bind_some hm
  cases hm
  refine ha S H F a hG w h1 _ fun x S1 H1 s1 w1 q1 => ?_
  exact hb S1 H1 F b (hG.mono s1) w1 h2 _ fun vs S2 H2 s2 w2 q2 => k _ S2 H2 (s1.trans s2) w2 ⟨.cons (T.mono s2 q1) q2.1, congrArg Nat.succ q2.2⟩
theorem simF_lst {n : Nat} {t : TA} {m : Option (List α)} (h : SimA G O t σ m (TyA.ln n T)) (hn : n ≤ sizeLine := by show _ ≤ (2 ^ 24 : Nat); decide) : SimF G O (tLst t) σ m (oL T) := fun S H F r hG w hm Q k =>
  h S H F r hG w hm _ fun vs S' H' s w' q => ⟨by rw [q.2]; exact hn, fun p hp => k p _ S' _ s (w'.newO hp) ⟨vs, rfl, q.1⟩⟩
theorem sim_tupL {n : Nat} {t : TA} {m : Option (List α)} (h : SimA G O t σ m (TyA.ln n T)) (hn : n ≤ sizeLine := by show _ ≤ (2 ^ 24 : Nat); decide) : Sim G O (tTup t) σ m (tT T) := fun S H F r hG w hm Q k =>
  h S H F r hG w hm _ fun vs S' H' s w' q => ⟨by rw [q.2]; exact hn, fun p hp => k _ (upd S' p (.tup vs)) _ (s.trans (same_upd (w'.sn hp))) (w'.new hp) ⟨p, vs, rfl, upd_same, q.1.mono (same_upd (w'.sn hp))⟩⟩
theorem sim_pair {ta tb : TE} {ma : Option α} {mb : Option β} (ha : Sim G O ta σ ma T) (hb : Sim G O tb σ mb U) : Sim G O (tTup (tCons ta (tCons tb tNil))) σ (ma.bind fun a => mb.bind fun b => some (a, b)) (tP T U) := fun S H F r hG w hm Q k => by
  obtain ⟨a, h1, hm⟩ := bind_some hm
  obtain ⟨b, h2, hm⟩ := bind_some hm
  cases hm
  refine ha S H F a hG w h1 _ fun x S1 H1 s1 w1 q1 => ?_
  refine hb S1 H1 F b (hG.mono s1) w1 h2 _ fun y S2 H2 s2 w2 q2 => ⟨(by show 2 ≤ (2 ^ 24 : Nat); decide), fun p hp => ?_⟩
  have s3 : Same S2 (upd S2 p (.tup [x, y])) := same_upd (w2.sn hp)
  exact k _ _ _ ((s1.trans s2).trans s3) (w2.new hp) ⟨p, x, y, rfl, upd_same, T.mono (s2.trans s3) q1, U.mono s3 q2⟩
/-! ### new lists out of lists -/
def x_cat (xs ys : List α) : Option (List α) := if xs.length + ys.length ≤ sizeLine then some (xs ++ ys) else none
theorem simF_cat {TL' : Ty (List α)} [Lk O (oL T) TL] [Lk O (oL T) TL'] {ta tb : TE} {ma mb : Option (List α)} (ha : Sim G O ta σ ma TL) (hb : Sim G O tb σ mb TL') : SimF G O (tOp rCat ta tb) σ (ma.bind fun a => mb.bind fun b => x_cat a b) (oL T) := fun S H F r hG w hm Q k => by
  obtain ⟨a, h1, hm⟩ := bind_some hm
  obtain ⟨b, h2, hm⟩ := bind_some hm
  obtain ⟨hz, rfl⟩ := of_if hm
  refine ha S H F a hG w h1 _ fun x S1 H1 s1 w1 q1 => ?_
  refine hb S1 H1 F b (hG.mono s1) w1 h2 _ fun y S2 H2 s2 w2 q2 => ?_
  obtain ⟨p, vs, rfl, r, g⟩ := lkL (O := O) (T := T) (TL.mono s2 q1)
  obtain ⟨p', vs', rfl, r', g'⟩ := lkL (O := O) (T := T) q2
  exact ⟨p, p', vs, vs', rfl, rfl, g H2 F w2, g' H2 F w2, by rw [← r.length, ← r'.length]; exact hz, fun l hl => k l _ S2 _ (s1.trans s2) (w2.newO hl) ⟨_, rfl, r.append r'⟩⟩
def x_rep (xs : List α) (k : Int) : Option (List α) := if -(2 ^ 63) ≤ k ∧ k < 2 ^ 63 ∧ xs.length * k.toNat ≤ sizeLine then some (List.replicate k.toNat xs).flatten else none
theorem Rl.rep {S : Hp} {xs : List α} {vs : List V} (r : Rl T S xs vs) : ∀ n : Nat, Rl T S (List.replicate n xs).flatten (List.replicate n vs).flatten
  | 0 => .nil
  | n + 1 => by simp only [List.replicate_succ, List.flatten_cons]; exact r.append (Rl.rep r n)
theorem simF_rep [Lk O (oL T) TL] {ta tb : TE} {ma : Option (List α)} {mb : Option Int} (ha : Sim G O ta σ ma TL) (hb : Sim G O tb σ mb tInt) : SimF G O (tOp rRep ta tb) σ (ma.bind fun a => mb.bind fun b => x_rep a b) (oL T) := fun S H F r hG w hm Q k => by
  obtain ⟨a, h1, hm⟩ := bind_some hm
  obtain ⟨b, h2, hm⟩ := bind_some hm
  obtain ⟨⟨z1, z2, z3⟩, rfl⟩ := of_if hm
  refine ha S H F a hG w h1 _ fun x S1 H1 s1 w1 q1 => ?_
  refine hb S1 H1 F b (hG.mono s1) w1 h2 _ fun y S2 H2 s2 w2 q2 => ?_
  obtain ⟨p, vs, rfl, r, g⟩ := lkL (O := O) (T := T) (TL.mono s2 q1)
  exact ⟨p, b, vs, rfl, q2, g H2 F w2, z1, z2, by rw [← r.length]; exact z3, fun l hl => k l _ S2 _ (s1.trans s2) (w2.newO hl) ⟨_, rfl, r.rep _⟩⟩
def cutL (xs : List α) (lo hi : Option Int) : List α := (xs.drop (HT.sIx xs.length 0 lo)).take (HT.sIx xs.length xs.length hi - HT.sIx xs.length 0 lo)
theorem Rl.cut {S : Hp} {xs : List α} {vs : List V} (r : Rl T S xs vs) (lo hi : Option Int) : Rl T S (cutL xs lo hi) (cutV vs lo hi) := by
  unfold cutL cutV
  rw [r.length]
  exact (r.drop _).take _
/-- a part of a slice -/
def SimO (G : List Fact) (O : Ow) (t : TO) (σ : St) (m : Option (Option Int)) : Prop :=
  ∀ (S H : Hp) (F : Ow) (r : Option Int), Okc G S → Wd S (O ++ F) H → m = some r → ∀ Q : Option Int → Hp → Prop, (∀ S' H', Same S S' → Wd S' (O ++ F) H' → Q r H') → t σ H Q
theorem simO_no : SimO G O tNoPart σ (some none) := fun S H F r hG w hm Q k => by cases hm; exact k S H (Same.refl _) w
theorem simO_part {t : TE} {m : Option Int} (h : Sim G O t σ m tInt) : SimO G O (tPart t) σ (m.bind fun i => some (some i)) := fun S H F r hG w hm Q k => by
  obtain ⟨a, h1, hm⟩ := bind_some hm
  cases hm
  exact h S H F a hG w h1 _ fun v S' H' s w' q => ⟨a, q, k S' H' s w'⟩
theorem simF_slice [Lk O (oL T) TL] {te : TE} {tl th : TO} {ma : Option (List α)} {ml mh : Option (Option Int)} (ha : Sim G O te σ ma TL) (hl : SimO G O tl σ ml) (hh : SimO G O th σ mh) :
    SimF G O (tSl (rSlL K) te tl th) σ (ma.bind fun a => ml.bind fun l => mh.bind fun h => some (cutL a l h)) (oL T) := fun S H F r hG w hm Q k => by
  obtain ⟨a, h1, hm⟩ := bind_some hm
  obtain ⟨b, h2, hm⟩ := bind_some hm
  obtain ⟨c, h3, hm⟩ := bind_some hm
  cases hm
  refine ha S H F a hG w h1 _ fun x S1 H1 s1 w1 q1 => ?_
  refine hl S1 H1 F b (hG.mono s1) w1 h2 _ fun S2 H2 s2 w2 => ?_
  refine hh S2 H2 F c (hG.mono (s1.trans s2)) w2 h3 _ fun S3 H3 s3 w3 => ?_
  obtain ⟨p, vs, rfl, r, g⟩ := lkL (O := O) (T := T) (TL.mono (s2.trans s3) q1)
  exact ⟨p, vs, rfl, SqL.of (g H3 F w3), fun l hl => k l _ S3 _ ((s1.trans s2).trans s3) (w3.newO hl) ⟨_, rfl, r.cut b c⟩⟩
theorem simF_rev [Lk O (oL T) TL] {te : TE} {ma : Option (List α)} (ha : Sim G O te σ ma TL) : SimF G O (tRevL K te) σ (ma.bind fun a => some a.reverse) (oL T) := fun S H F r hG w hm Q k => by
  obtain ⟨a, h1, hm⟩ := bind_some hm
  cases hm
  refine ha S H F a hG w h1 _ fun x S1 H1 s1 w1 q1 => ?_
  obtain ⟨p, vs, rfl, r, g⟩ := lkL (O := O) (T := T) q1
  exact ⟨p, vs, rfl, SqL.of (g H1 F w1), fun l hl => k l _ S1 _ s1 (w1.newO hl) ⟨_, rfl, r.reverse⟩⟩
abbrev rLs (K : PySem.W.Frag) : List V → Hp → VK → Prop := fun xs H Q => ∃ p ys, xs = [.ref p] ∧ (SqL K H p ys ∨ SqT K H p ys) ∧ ∀ l, H l = none → Q (.ref l) (upd H l (.lst ys))
abbrev rTp (K : PySem.W.Frag) : List V → Hp → VK → Prop := fun xs H Q => ∃ p ys, xs = [.ref p] ∧ ((SqL K H p ys ∧ ∀ l, H l = none → Q (.ref l) (upd H l (.tup ys))) ∨ (SqT K H p ys ∧ Q (.ref p) H))
theorem simF_list [Lk O (oL T) TL] {te : TE} {ma : Option (List α)} (ha : Sim G O te σ ma TL) : SimF G O (tCB (rLs K) (tCons te tNil)) σ ma (oL T) := fun S H F r hG w hm Q k => by
  refine ha S H F r hG w hm _ fun x S1 H1 s1 w1 q1 => ?_
  obtain ⟨p, vs, rfl, r, g⟩ := lkL (O := O) (T := T) q1
  exact ⟨p, vs, rfl, .inl (SqL.of (g H1 F w1)), fun l hl => k l _ S1 _ s1 (w1.newO hl) ⟨_, rfl, r⟩⟩
theorem simF_listT {te : TE} {ma : Option (List α)} (ha : Sim G O te σ ma (tT T)) : SimF G O (tCB (rLs K) (tCons te tNil)) σ ma (oL T) := fun S H F r hG w hm Q k => by
  refine ha S H F r hG w hm _ fun x S1 H1 s1 w1 q1 => ?_
  obtain ⟨p, vs, rfl, g, r⟩ := q1
  exact ⟨p, vs, rfl, .inr (SqT.of (w1.st _ _ g)), fun l hl => k l _ S1 _ s1 (w1.newO hl) ⟨_, rfl, r⟩⟩
theorem sim_tuple [Lk O (oL T) TL] {te : TE} {ma : Option (List α)} (ha : Sim G O te σ ma TL) : Sim G O (tCB (rTp K) (tCons te tNil)) σ ma (tT T) := fun S H F r hG w hm Q k => by
  refine ha S H F r hG w hm _ fun x S1 H1 s1 w1 q1 => ?_
  obtain ⟨p, vs, rfl, r, g⟩ := lkL (O := O) (T := T) q1
  exact ⟨p, vs, rfl, .inl ⟨SqL.of (g H1 F w1), fun l hl => k _ _ _ (s1.trans (same_upd (w1.sn hl))) (w1.new hl) ⟨l, vs, rfl, upd_same, r.mono (same_upd (w1.sn hl))⟩⟩⟩
def x_lrange (a b : Int) : Option (List Int) := if -(2 ^ 62) ≤ a ∧ a < 2 ^ 62 ∧ -(2 ^ 62) ≤ b ∧ b < 2 ^ 62 ∧ (b - a).toNat ≤ 2 ^ 24 then some ((List.range (b - a).toNat).map fun i => a + (i : Nat)) else none
theorem rl_ints (S : Hp) : ∀ xs : List Int, Rl tInt S xs (xs.map V.int)
  | [] => .nil
  | _ :: xs => .cons rfl (rl_ints S xs)
theorem rgV_map (a b : Int) : rgV a b = ((List.range (b - a).toNat).map fun i : Nat => a + (i : Int)).map V.int := by
  unfold rgV
  rw [List.map_map]
  rfl
theorem simF_lrange1 {tb : TE} {mb : Option Int} (hb : Sim G O tb σ mb tInt) : SimF G O (tLstRg (tRg1 tb)) σ (mb.bind fun b => x_lrange 0 b) (oL tInt) := fun S H F r hG w hm Q k => by
  obtain ⟨b, h1, hm⟩ := bind_some hm
  obtain ⟨z, rfl⟩ := of_if hm
  refine hb S H F b hG w h1 _ fun x S1 H1 s1 w1 q1 => ⟨b, q1, z, fun l hl => ?_⟩
  rw [rgV_map]
  exact k l _ S1 _ s1 (w1.newO hl) ⟨_, rfl, rl_ints _ _⟩
theorem simF_lrange2 {ta tb : TE} {ma mb : Option Int} (ha : Sim G O ta σ ma tInt) (hb : Sim G O tb σ mb tInt) : SimF G O (tLstRg (tRg2 ta tb)) σ (ma.bind fun a => mb.bind fun b => x_lrange a b) (oL tInt) := fun S H F r hG w hm Q k => by
  obtain ⟨a, h1, hm⟩ := bind_some hm
  obtain ⟨b, h2, hm⟩ := bind_some hm
  obtain ⟨z, rfl⟩ := of_if hm
  refine ha S H F a hG w h1 _ fun x S1 H1 s1 w1 q1 => ?_
  refine hb S1 H1 F b (hG.mono s1) w1 h2 _ fun y S2 H2 s2 w2 q2 => ⟨a, b, q1, q2, z, fun l hl => ?_⟩
  rw [rgV_map]
  exact k l _ S2 _ (s1.trans s2) (w2.newO hl) ⟨_, rfl, rl_ints _ _⟩
end
end HF

set_option Elab.async false
set_option linter.all false
set_option maxRecDepth 100000
set_option maxHeartbeats 2000000
/-! Mini3: what is walked, comprehensions, statements, loops, calls. -/
namespace HF
open PySem PySem.Spec L2
open PyProof.Rows hiding St
theorem Okc.cons {f : Fact} {G : List Fact} {S : Hp} (h : f.P S) (t : Okc G S) : Okc (f :: G) S := ⟨h, t⟩
theorem Okc.dr : ∀ {G : List Fact} {S : Hp} (n : Nat), Okc G S → Okc (G.drop n) S
  | _, _, 0, h => h
  | [], _, _ + 1, _ => True.intro
  | _ :: _, _, n + 1, h => Okc.dr n h.2
theorem Okc.right : ∀ {G G' : List Fact} {S : Hp}, Okc (G ++ G') S → Okc G' S
  | [], _, _, h => h
  | _ :: _, _, _, h => Okc.right h.2
theorem Okc.left : ∀ {G G' : List Fact} {S : Hp}, Okc (G ++ G') S → Okc G S
  | [], _, _, h => True.intro
  | _ :: _, _, _, h => ⟨h.1, Okc.left h.2⟩
section
variable {α β γ ρ : Type} {G : List Fact} {O O0 F : Ow} {σ : St} {T : Ty α} {U : Ty β} {K : PySem.W.Frag}
/-! ### iterators -/
def JOk (S0 : Hp) (O0 : Ow) (J : It) (T : Ty α) (xs : List α) : Prop := ∀ S H, Same S0 S → Wd S O0 H →
  (∀ i a, xs[i]? = some a → J.go i H ∧ ∀ x H', J.yld i H x H' → ∃ S', Same S S' ∧ T.rep a x S' ∧ ∀ O, Wd S O H → Wd S' O H') ∧ J.stop xs.length H
def SimI (G : List Fact) (O O0 : Ow) (wi : TI) (σ : St) (m : Option (List α)) (T : Ty α) : Prop :=
  ∀ (S H : Hp) (F : Ow) (r : List α), Okc G S → Wd S (O ++ F) H → m = some r → ∀ R : It → Hp → Prop, (∀ J S' H', Same S S' → Wd S' (O ++ F) H' → JOk S' O0 J T r → R J H') → wi σ H R
def rangeL (a : Int) (n : Nat) : List Int := (List.range n).map fun i => a + (i : Nat)
def x_range (a b : Int) : Option (List Int) := if -(2 ^ 62) ≤ a ∧ a < 2 ^ 62 ∧ -(2 ^ 62) ≤ b ∧ b < 2 ^ 62 then some (rangeL a (b - a).toNat) else none
theorem rangeL_get {a : Int} {n i : Nat} {x : Int} (h : (rangeL a n)[i]? = some x) : i < n ∧ x = a + i := by
  unfold rangeL at h
  rw [List.getElem?_map] at h
  by_cases hi : i < n
  · rw [List.getElem?_range hi] at h
    exact ⟨hi, (Option.some.inj h).symm⟩
  · rw [List.getElem?_eq_none (by simpa using hi)] at h
    cases h
theorem jok_range (S0 : Hp) (O0 : Ow) (a : Int) (n : Nat) : JOk S0 O0 (Itr a n) tInt (rangeL a n) := fun S H s w => by
  refine ⟨fun i x e => ?_, ?_⟩
  · obtain ⟨h1, rfl⟩ := rangeL_get e
    exact ⟨h1, fun y H' q => ⟨S, Same.refl _, q.2, fun O w' => by rw [q.1]; exact w'⟩⟩
  · show n ≤ (rangeL a n).length
    unfold rangeL
    simp
theorem simI_range1 {tb : TE} {mb : Option Int} (hb : Sim G O tb σ mb tInt) : SimI G O [] (iRng1 (tCons tb tNil)) σ (mb.bind fun b => x_range 0 b) tInt := fun S H F r hG w hm R k => by
  obtain ⟨b, h1, hm⟩ := bind_some hm
  obtain ⟨⟨z1, z2, z3, z4⟩, rfl⟩ := of_if hm
  refine hb S H F b hG w h1 _ fun x S1 H1 s1 w1 q1 => ⟨b, by rw [show x = .int b from q1], z3, z4, ?_⟩
  rw [show (b - 0).toNat = b.toNat by rw [Int.sub_zero]] at k
  exact k _ S1 H1 s1 w1 (jok_range _ _ _ _)
theorem simI_range2 {ta tb : TE} {ma mb : Option Int} (ha : Sim G O ta σ ma tInt) (hb : Sim G O tb σ mb tInt) : SimI G O [] (iRng2 (tCons ta (tCons tb tNil))) σ (ma.bind fun a => mb.bind fun b => x_range a b) tInt := fun S H F r hG w hm R k => by
  obtain ⟨a, h1, hm⟩ := bind_some hm
  obtain ⟨b, h2, hm⟩ := bind_some hm
  obtain ⟨⟨z1, z2, z3, z4⟩, rfl⟩ := of_if hm
  refine ha S H F a hG w h1 _ fun x S1 H1 s1 w1 q1 => ?_
  refine hb S1 H1 F b (hG.mono s1) w1 h2 _ fun y S2 H2 s2 w2 q2 => ⟨a, b, by rw [show x = .int a from q1, show y = .int b from q2], ⟨z1, z2, z3, z4⟩, ?_⟩
  exact k _ S2 H2 (s1.trans s2) w2 (jok_range _ _ _ _)
theorem jok_list {S0 : Hp} {p : Addr} {vs : List V} {xs : List α} (g : ∀ S H, Same S0 S → Wd S O0 H → H p = some (.lst vs)) (r : Rl T S0 xs vs) : JOk S0 O0 (Itl K p) T xs := fun S H s w => by
  have e := g S H s w
  refine ⟨fun i a h => ?_, vs, SqL.of e, by rw [r.length]; exact Nat.le_refl _⟩
  obtain ⟨v, h1, h2⟩ := r.get h
  refine ⟨⟨vs, v, SqL.of e, h1⟩, fun x H' q => ⟨S, Same.refl _, ?_, fun O w' => by rw [q.1]; exact w'⟩⟩
  have h3 := q.2 vs (SqL.of e)
  rw [h1] at h3
  cases h3
  exact T.mono s h2
theorem simI_list {te : TE} {m : Option (List α)} (h : Sim G O te σ m (tL T)) : SimI G O [] (iList K te) σ m T := fun S H F r hG w hm R k => by
  refine h S H F r hG w hm _ fun v S1 H1 s1 w1 ⟨p, vs, e, g, q⟩ => ⟨p, e, ⟨vs, SqL.of (w1.st _ _ g)⟩, k _ S1 H1 s1 w1 ?_⟩
  exact jok_list (fun S H s w => w.st _ _ (s _ _ g)) q
theorem simI_listO {te : TE} {m : Option (List α)} (h : Sim G O te σ m (tOwn O (oL T))) : SimI G O O (iList K te) σ m T := fun S H F r hG w hm R k => by
  refine h S H F r hG w hm _ fun v S1 H1 s1 w1 ⟨p, c, e, g, vs, ec, q⟩ => ?_
  subst ec
  refine ⟨p, e, ⟨vs, SqL.of (w1.mem (List.mem_append_left _ g) (List.mem_cons_self ..))⟩, k _ S1 H1 s1 w1 ?_⟩
  exact jok_list (fun S H s w => w.mem g (List.mem_cons_self ..)) q
theorem simI_tup {te : TE} {m : Option (List α)} (h : Sim G O te σ m (tT T)) : SimI G O [] (iTup K te) σ m T := fun S H F r hG w hm R k => by
  refine h S H F r hG w hm _ fun v S1 H1 s1 w1 ⟨p, vs, e, g, q⟩ => ⟨p, e, ⟨vs, SqT.of (w1.st _ _ g)⟩, k _ S1 H1 s1 w1 fun S H s w => ?_⟩
  have e := w.st _ _ (s _ _ g)
  refine ⟨fun i a h => ?_, vs, SqT.of e, by rw [q.length]; exact Nat.le_refl _⟩
  obtain ⟨v, h1, h2⟩ := q.get h
  refine ⟨⟨vs, v, SqT.of e, h1⟩, fun x H' q' => ⟨S, Same.refl _, ?_, fun O w' => by rw [q'.1]; exact w'⟩⟩
  have h3 := q'.2 vs (SqT.of e)
  rw [h1] at h3
  cases h3
  exact T.mono s h2
def enumL (xs : List α) : List (Int × α) := xs.zipIdx.map fun p => ((p.2 : Int), p.1)
theorem enumL_get {xs : List α} {i : Nat} {p : Int × α} (h : (enumL xs)[i]? = some p) : ∃ a, xs[i]? = some a ∧ p = ((i : Int), a) := by
  unfold enumL at h
  rw [List.getElem?_map, List.getElem?_zipIdx] at h
  cases e : xs[i]? with
  | none => rw [e] at h; cases h
  | some a =>
    rw [e] at h
    refine ⟨a, rfl, ?_⟩
    simp at h
    exact h.symm
theorem enumL_length (xs : List α) : (enumL xs).length = xs.length := by unfold enumL; simp
theorem jok_enum {S0 : Hp} {p : Addr} {vs : List V} {xs : List α} (g : ∀ S H, Same S0 S → Wd S O0 H → H p = some (.lst vs)) (r : Rl T S0 xs vs) : JOk S0 O0 (Ite K p) (tP tInt T) (enumL xs) := fun S H s w => by
  have e := g S H s w
  refine ⟨fun i a h => ?_, vs, SqL.of e, by rw [enumL_length, r.length]; exact Nat.le_refl _⟩
  obtain ⟨a', h0, rfl⟩ := enumL_get h
  obtain ⟨v, h1, h2⟩ := r.get h0
  refine ⟨⟨vs, v, SqL.of e, h1⟩, fun x H' ⟨q, y, e1, e2, e3, e4⟩ => ?_⟩
  have h3 := e4 vs (SqL.of e)
  rw [h1] at h3
  cases h3
  have s3 : Same S (upd S q (.tup [.int (i : Nat), v])) := same_upd (w.sn e2)
  exact ⟨_, s3, ⟨q, _, _, e1, upd_same, rfl, T.mono (s.trans s3) h2⟩, fun O w' => by rw [e3]; exact w'.new e2⟩
theorem simI_enum {te : TE} {m : Option (List α)} (h : Sim G O te σ m (tL T)) : SimI G O [] (iEnum K (tCons te tNil)) σ (m.bind fun xs => some (enumL xs)) (tP tInt T) := fun S H F r hG w hm R k => by
  obtain ⟨a, h1, hm⟩ := bind_some hm
  cases hm
  refine h S H F a hG w h1 _ fun v S1 H1 s1 w1 ⟨p, vs, e, g, q⟩ => ⟨p, vs, by rw [e], SqL.of (w1.st _ _ g), k _ S1 H1 s1 w1 ?_⟩
  exact jok_enum (fun S H s w => w.st _ _ (s _ _ g)) q
theorem simI_enumO {te : TE} {m : Option (List α)} (h : Sim G O te σ m (tOwn O (oL T))) : SimI G O O (iEnum K (tCons te tNil)) σ (m.bind fun xs => some (enumL xs)) (tP tInt T) := fun S H F r hG w hm R k => by
  obtain ⟨a, h1, hm⟩ := bind_some hm
  cases hm
  refine h S H F a hG w h1 _ fun v S1 H1 s1 w1 ⟨p, c, e, g, vs, ec, q⟩ => ?_
  subst ec
  refine ⟨p, vs, by rw [e], SqL.of (w1.mem (List.mem_append_left _ g) (List.mem_cons_self ..)), k _ S1 H1 s1 w1 ?_⟩
  exact jok_enum (fun S H s w => w.mem g (List.mem_cons_self ..)) q
/-- reversed list -/
theorem rev_get {xs : List V} {i : Nat} {v : V} (h : xs.reverse[i]? = some v) : i < xs.length ∧ xs[xs.length - 1 - i]? = some v := by
  have hi : i < xs.reverse.length := (List.getElem?_eq_some_iff.mp h).1
  rw [List.length_reverse] at hi
  rw [List.getElem?_reverse hi] at h
  exact ⟨hi, h⟩
theorem jok_rev {S0 : Hp} {p : Addr} {vs : List V} {xs : List α} (g : ∀ S H, Same S0 S → Wd S O0 H → H p = some (.lst vs)) (r : Rl T S0 xs vs) : JOk S0 O0 (Itv K p vs.length) T xs.reverse := fun S H s w => by
  have e := g S H s w
  refine ⟨fun i a h => ?_, by show vs.length ≤ _; rw [List.length_reverse, r.length]; exact Nat.le_refl _⟩
  obtain ⟨v, h1, h2⟩ := r.reverse.get h
  obtain ⟨hi, h1⟩ := rev_get h1
  refine ⟨⟨hi, vs, v, SqL.of e, h1⟩, fun x H' q => ⟨S, Same.refl _, ?_, fun O w' => by rw [q.1]; exact w'⟩⟩
  have h3 := q.2 vs (SqL.of e)
  rw [h1] at h3
  cases h3
  exact T.mono s h2
theorem simI_rev {te : TE} {m : Option (List α)} (h : Sim G O te σ m (tL T)) : SimI G O [] (iRev K (tCons te tNil)) σ (m.bind fun xs => some xs.reverse) T := fun S H F r hG w hm R k => by
  obtain ⟨a, h1, hm⟩ := bind_some hm
  cases hm
  refine h S H F a hG w h1 _ fun v S1 H1 s1 w1 ⟨p, vs, e, g, q⟩ => ⟨p, vs, by rw [e], SqL.of (w1.st _ _ g), k _ S1 H1 s1 w1 ?_⟩
  exact jok_rev (fun S H s w => w.st _ _ (s _ _ g)) q
theorem simI_revO {te : TE} {m : Option (List α)} (h : Sim G O te σ m (tOwn O (oL T))) : SimI G O O (iRev K (tCons te tNil)) σ (m.bind fun xs => some xs.reverse) T := fun S H F r hG w hm R k => by
  obtain ⟨a, h1, hm⟩ := bind_some hm
  cases hm
  refine h S H F a hG w h1 _ fun v S1 H1 s1 w1 ⟨p, c, e, g, vs, ec, q⟩ => ?_
  subst ec
  refine ⟨p, vs, by rw [e], SqL.of (w1.mem (List.mem_append_left _ g) (List.mem_cons_self ..)), k _ S1 H1 s1 w1 ?_⟩
  exact jok_rev (fun S H s w => w.mem g (List.mem_cons_self ..)) q

/-! ### targets -/
def TgOk {ω : Type} (g : TG) (σ : St) (T : Ty α) (σ' : ω → St) (Fx : α → ω → List Fact) : Prop :=
  ∀ a x S H (Q : St → Hp → Prop), T.rep a x S → Same S H → (∀ w, Okc (Fx a w) S → Q (σ' w) H) → g x σ H Q
theorem tg_name {i : Nat} : TgOk (gName i) σ T (fun w : V => σ.set i (some w)) (fun a w => [T.f a w]) := fun a x S H Q h s k => k x ⟨h, True.intro⟩
theorem tg_pair {i j : Nat} : TgOk (gTup K 2 (gCons (gName i) (gCons (gName j) gNil))) σ (tP T U) (fun w : V × V => (σ.set i (some w.1)).set j (some w.2)) (fun a w => [T.f a.1 w.1, U.f a.2 w.2]) := fun a x S H Q h s k => by
  obtain ⟨p, y, z, rfl, g, r1, r2⟩ := h
  exact ⟨p, [y, z], rfl, SqT.of (s _ _ g), rfl, y, [z], rfl, z, [], rfl, rfl, k (y, z) ⟨r1, r2, True.intro⟩⟩

/-! ### comprehensions -/
def compM (t : α → Option Bool) (e : α → Option β) : List α → Option (List β)
  | [] => some []
  | x :: xs => (t x).bind fun b => if b = true then (e x).bind fun y => (compM t e xs).bind fun ys => some (y :: ys) else compM t e xs
def x_comp (t : α → Option Bool) (e : α → Option β) (xs : List α) : Option (List β) := if xs.length ≤ sizeLine then compM t e xs else none
theorem simT_yes : SimT G O tYes σ (some true) := fun S H F r hG w hm Q k => by cases hm; exact k S H (Same.refl _) w
theorem perm_mid (c : List Cell) (O F : Ow) : (c :: (O ++ F)).Perm (O ++ (c :: F)) := List.perm_middle.symm
theorem simF_lc {ω : Type} {g : TG} {tt : TT} {te : TE} {wi : TI} {vs : List Nat} {σ' : ω → St} {Fx : α → ω → List Fact} {mi : Option (List α)} {mt : α → Option Bool} {me : α → Option β}
    (hi : SimI G O O0 wi σ mi T) (tg : TgOk g (wipe σ vs) T σ' Fx) (hw : ∀ w, wipe (σ' w) vs = wipe σ vs) (hO : O0.Sublist O)
    (ht : ∀ a w, SimT (Fx a w ++ G) O tt (σ' w) (mt a)) (he : ∀ a w, Sim (Fx a w ++ G) O te (σ' w) (me a) U) :
    SimF G O (tLc wi g tt te vs) σ (mi.bind fun xs => x_comp mt me xs) (oL U) := fun S H F r hG w hm Q k => by
  obtain ⟨xs, h1, hm⟩ := bind_some hm
  unfold x_comp at hm
  split at hm
  case isFalse => cases hm
  case isTrue hz =>
  refine hi S H F xs hG w h1 _ fun J S1 H1 s1 w1 jok D hD => ?_
  have sub : O0.Sublist (O ++ F) := hO.trans (List.sublist_append_left _ _)
  refine ⟨fun i m H' => m = xs.length - i ∧ i ≤ xs.length ∧ ∃ S' acc us rest, Same S1 S' ∧ Wd S' ([(D, .lst us)] :: (O ++ F)) H' ∧ Rl U S' acc us ∧ acc.length ≤ i ∧ compM mt me (xs.drop i) = some rest ∧ r = acc ++ rest,
    ⟨xs.length, by simp, Nat.zero_le _, S1, [], [], r, Same.refl _, w1.newO hD, .nil, Nat.le_refl _, by simpa using hm, rfl⟩, ?_⟩
  rintro i m H' ⟨rfl, hi', S', acc, us, rest, s', w', ra, hl, hc, rfl⟩
  have jk := jok S' H' s' (w'.tail.sub sub)
  by_cases hlt : i < xs.length
  · have hd : xs.drop i = xs[i] :: xs.drop (i + 1) := (List.drop_eq_getElem_cons hlt)
    rw [hd] at hc
    obtain ⟨go, yl⟩ := jk.1 i xs[i] (by simp [hlt])
    have hz2 : us.length < sizeLine := by rw [← ra.length]; omega
    refine .inr ⟨go, fun H2 => ∃ S2 acc2 us2 rest2, Same S1 S2 ∧ Wd S2 ([(D, .lst us2)] :: (O ++ F)) H2 ∧ Rl U S2 acc2 us2 ∧ acc2.length ≤ i + 1 ∧ compM mt me (xs.drop (i + 1)) = some rest2 ∧ acc ++ rest = acc2 ++ rest2,
      fun H2 q => ⟨xs.length - (i + 1), by omega, rfl, hlt, q⟩, fun x H2 y => ?_⟩
    obtain ⟨S2, s2, rx, wk⟩ := yl x H2 y
    have w2 := wk _ w'
    refine tg xs[i] x S2 H2 _ rx w2.st fun wt ok => ⟨hw wt, ?_⟩
    obtain ⟨b, hb, hc⟩ := bind_some hc
    have hG2 : Okc (Fx xs[i] wt ++ G) S2 := ok.append (hG.mono (s1.trans (s'.trans s2)))
    refine ht xs[i] wt S2 H2 ([(D, .lst us)] :: F) b hG2 (w2.perm (perm_mid _ _ _)) hb _ fun S3 H3 s3 w3 => ?_
    cases b with
    | false =>
      rw [if_neg Bool.false_ne_true]
      rw [if_neg Bool.false_ne_true] at hc
      exact ⟨S3, acc, us, rest, s'.trans (s2.trans s3), w3.perm (perm_mid _ _ _).symm, ra.mono (s2.trans s3), by omega, hc, rfl⟩
    | true =>
      rw [if_pos rfl]
      rw [if_pos rfl] at hc
      obtain ⟨y, hy, hc⟩ := bind_some hc
      obtain ⟨ys, hys, hc⟩ := bind_some hc
      cases hc
      refine he xs[i] wt S3 H3 ([(D, .lst us)] :: F) y (hG2.mono s3) w3 hy _ fun v S4 H4 s4 w4 rv => ?_
      have w5 := w4.perm (perm_mid _ _ _).symm
      exact ⟨us, w5.hd1, hz2, S4, acc ++ [y], us ++ [v], ys, s'.trans (s2.trans (s3.trans s4)), w5.put1 _, (ra.mono (s2.trans (s3.trans s4))).append (Rl.one rv), by simp; omega, hys, by simp⟩
  · have e : i = xs.length := by omega
    subst e
    rw [List.drop_length] at hc
    cases hc
    rw [List.append_nil] at k
    exact .inl ⟨jk.2, k D _ S' H' (s1.trans s') w' ⟨us, rfl, ra⟩⟩

/-! ### calls -/
/-- the promise of a def that changes nothing -/
def spP (A : TyA α) (m : α → Option β) (U : Ty β) : Sp := fun vs H Q _ => ∃ (S : Hp) (F : Ow) (a : α) (r : β), A.rep a vs S ∧ Wd S F H ∧ m a = some r ∧ ∀ v S' H', Same S S' → Wd S' F H' → U.rep r v S' → Q v H'
theorem sim_call {A : TyA α} {f : α → Option β} {ta : TA} {ma : Option α} {E : XK} (h : SimA G O ta σ ma A) : Sim G O (tCall (spP A f U) [] E ta) σ (ma.bind fun a => f a) U := fun S H F r hG w hm Q k => by
  obtain ⟨a, h1, hm⟩ := bind_some hm
  refine h S H F a hG w h1 _ fun vs S1 H1 s1 w1 q1 => ?_
  refine ⟨S1, O ++ F, a, r, ?_, w1, hm, fun v S2 H2 s2 w2 q2 => k v S2 H2 (s1.trans s2) w2 q2⟩
  rw [List.append_nil]
  exact q1
/-- o.m(..) -/
theorem sim_meth {C : Addr} {mn : Str} {A : TyA β} {f : α × β → Option γ} {W : Ty γ} {to : TE} {ta : TA} {mo : Option α} {ma : Option β} {E : XK} (hI : ∀ a v S, T.rep a v S → ∃ p dx fs, v = .ref p ∧ S p = some (.ins C dx fs) ∧ fs.lookup mn = none)
    (ho : Sim G O to σ mo T) (ha : SimA G O ta σ ma A) : Sim G O (tMeth C mn (spP (TyA.c T A) f W) [] E to ta) σ (mo.bind fun o => ma.bind fun a => f (o, a)) W := fun S H F r hG w hm Q k => by
  obtain ⟨o, h1, hm⟩ := bind_some hm
  obtain ⟨a, h2, hm⟩ := bind_some hm
  refine ho S H F o hG w h1 _ fun x S1 H1 s1 w1 q1 => ?_
  obtain ⟨p, dx, fs, rfl, g, l⟩ := hI _ _ _ q1
  refine ⟨p, dx, fs, rfl, w1.st _ _ g, l, ?_⟩
  refine ha S1 H1 F a (hG.mono s1) w1 h2 _ fun vs S2 H2 s2 w2 q2 => ?_
  refine ⟨S2, O ++ F, (o, a), r, ⟨_, _, by rw [List.append_nil], T.mono s2 q1, q2⟩, w2, hm, fun v S3 H3 s3 w3 q3 => k v S3 H3 ((s1.trans s2).trans s3) w3 q3⟩
/-- o.f -/
theorem sim_fld {f : Str} {g : α → β} {to : TE} {mo : Option α} (hF : ∀ a v S, T.rep a v S → ∃ p C dx fs u, v = .ref p ∧ S p = some (.ins C dx fs) ∧ Cls K C ∧ NoAttr K C f ∧ fs.lookup f = some u ∧ U.rep (g a) u S)
    (ho : Sim G O to σ mo T) : Sim G O (tFld K to f) σ (mo.bind fun o => some (g o)) U := fun S H F r hG w hm Q k => by
  obtain ⟨o, h1, hm⟩ := bind_some hm
  cases hm
  refine ho S H F o hG w h1 _ fun x S1 H1 s1 w1 q1 => ?_
  obtain ⟨p, C, dx, fs, u, rfl, e, c, n, l, q⟩ := hF _ _ _ q1
  exact ⟨p, C, dx, fs, u, rfl, w1.st _ _ e, c, n, l, k u S1 H1 s1 w1 q⟩

/-! ### statements -/
variable {S H : Hp} {D : Ends} {out : ρ} {u t t' : TS}
theorem k_set {te : TE} {i : Nat} {ma : Option α} {k : α → Option ρ} (hG : Okc G S) (W : Wd S (O ++ F) H) (hm : ma.bind k = some out) (hs : Sim G O te σ ma T) (next : ∀ a v S H, Okc (T.f a v :: G) S → Wd S (O ++ F) H → k a = some out → u D (σ.set i (some v)) H) : tSeq (tAsg te (gName i)) u D σ H := by
  obtain ⟨a, h1, h2⟩ := bind_some hm
  exact hs S H F a hG W h1 _ fun v S' H' s w q => next a v S' H' ⟨q, hG.mono s⟩ w h2
/-- a fresh object of one's own -/
theorem k_setO {OT : OTy α} {te : TE} {i : Nat} {ma : Option α} {k : α → Option ρ} (hG : Okc G S) (W : Wd S (O ++ F) H) (hm : ma.bind k = some out) (hs : SimF G O te σ ma OT)
    (next : ∀ a p c S H, Okc (OT.f a p c :: G) S → Wd S ((c :: O) ++ F) H → k a = some out → u D (σ.set i (some (.ref p))) H) : tSeq (tAsg te (gName i)) u D σ H := by
  obtain ⟨a, h1, h2⟩ := bind_some hm
  exact hs S H F a hG W h1 _ fun p c S' H' s w q => next a p c S' H' ⟨q, hG.mono s⟩ w h2
/-- an owned object stays as it is from now on -/
theorem k_frz {OT : OTy α} {p : Addr} {c : List Cell} {g : α} {P : Prop} (hG : Okc G S) (W : Wd S (O ++ F) H) (fr : Frz OT T) (o j : Nat) (ho : O[o]? = some c) (hf : G[j]? = some (OT.f g p c))
    (next : ∀ S, Okc (T.f g (.ref p) :: G) S → Wd S (O.eraseIdx o ++ F) H → P) : P := by
  obtain ⟨s, w, n⟩ := W.frz o ho
  have r : OT.rep g p c S := Okc.at j hf hG
  exact next _ ⟨fr _ _ _ _ (OT.mono s r) n, hG.mono s⟩ w
theorem k_if {c : TT} {mc : Option Bool} {A B : Option ρ} (hG : Okc G S) (W : Wd S (O ++ F) H) (hm : (mc.bind fun b => if b = true then A else B) = some out) (hc : SimT G O c σ mc) (h1 : ∀ S H, Okc G S → Wd S (O ++ F) H → A = some out → t { D with nx := u D } σ H) (h2 : ∀ S H, Okc G S → Wd S (O ++ F) H → B = some out → t' { D with nx := u D } σ H) : tSeq (tIfS c t t') u D σ H := by
  obtain ⟨b, e1, e2⟩ := bind_some hm
  refine hc S H F b hG W e1 _ fun S' H' s w => ?_
  cases b with
  | true => exact h1 S' H' (hG.mono s) w e2
  | false => exact h2 S' H' (hG.mono s) w e2
theorem k_ret {te : TE} {m : Option ρ} {R : Ty ρ} (hG : Okc G S) (W : Wd S (O ++ F) H) (hm : m = some out) (hs : Sim G O te σ m R) (next : ∀ v S H, Okc G S → Wd S (O ++ F) H → R.rep out v S → D.rt v H) : tSeq (tRet te) u D σ H :=
  hs S H F out hG W hm _ fun v S' H' s w q => next v S' H' (hG.mono s) w q
theorem k_drop {te : TE} {m : Option α} {k : α → Option ρ} (hG : Okc G S) (W : Wd S (O ++ F) H) (hm : m.bind k = some out) (hs : Sim G O te σ m T) (next : ∀ a S H, Okc G S → Wd S (O ++ F) H → k a = some out → u D σ H) : tSeq (tDrop te) u D σ H := by
  obtain ⟨a, h1, h2⟩ := bind_some hm
  exact hs S H F a hG W h1 _ fun v S' H' s w q => next a S' H' (hG.mono s) w h2
/-- xs.append(e), xs one's own -/
def x_app (xs : List α) (y : α) : Option (List α) := if xs.length < sizeLine then some (xs ++ [y]) else none
theorem k_app {te : TE} {i : Nat} {p : Addr} {c : List Cell} {xs : List α} {my : Option α} {k : List α → Option ρ} (hG : Okc G S) (W : Wd S (O ++ F) H) (hm : (my.bind fun y => (x_app xs y).bind k) = some out)
    (o j : Nat) (hi : σ[i]? = some (some (.ref p))) (ho : O[o]? = some c) (hf : G[j]? = some ((oL T).f xs p c)) (hs : Sim G O te σ my T)
    (next : ∀ y c' S H, Okc ((oL T).f (xs ++ [y]) p c' :: G) S → Wd S (O.set o c' ++ F) H → k (xs ++ [y]) = some out → u D σ H) : tSeq (tDrop (tBM K "list" rAppend (tVar i) (tCons te tNil))) u D σ H := by
  obtain ⟨y, h1, hm⟩ := bind_some hm
  obtain ⟨z, h2, hm⟩ := bind_some hm
  obtain ⟨hz, rfl⟩ := of_if h2
  obtain ⟨vs0, e0, r0⟩ := (Okc.at j hf hG : (oL T).rep xs p c S)
  subst e0
  refine ⟨.ref p, hi, .inl ⟨rfl, vs0, SqL.of (W.at1 ho)⟩, ?_⟩
  refine hs S H F y hG W h1 _ fun v S1 H1 s1 w1 q1 => ?_
  have r := r0.mono s1
  exact ⟨p, vs0, v, rfl, rfl, w1.at1 ho, by rw [← r.length]; exact hz, next y _ S1 _ ⟨⟨_, rfl, r.append (Rl.one q1)⟩, hG.mono s1⟩ (w1.put o ho _) hm⟩
/-- xs[i] = e, xs one's own -/
def x_set (xs : List α) (i : Int) (y : α) : Option (List α) := (ixN xs.length i).bind fun j => some (xs.set j y)
theorem k_put {te ti : TE} {i : Nat} {p : Addr} {c : List Cell} {xs : List α} {my : Option α} {mi : Option Int} {k : List α → Option ρ} (hG : Okc G S) (W : Wd S (O ++ F) H) (hm : (my.bind fun y => mi.bind fun n => (x_set xs n y).bind k) = some out)
    (o j : Nat) (hi : σ[i]? = some (some (.ref p))) (ho : O[o]? = some c) (hf : G[j]? = some ((oL T).f xs p c)) (hs : Sim G O te σ my T) (hx : Sim G O ti σ mi tInt)
    (next : ∀ xs' c' S H, Okc ((oL T).f xs' p c' :: G) S → Wd S (O.set o c' ++ F) H → k xs' = some out → u D σ H) : tSeq (tAsg te (gSub (tVar i) ti rSetL)) u D σ H := by
  obtain ⟨y, h1, hm⟩ := bind_some hm
  obtain ⟨n, h2, hm⟩ := bind_some hm
  obtain ⟨z, h3, hm⟩ := bind_some hm
  obtain ⟨l, h4, h5⟩ := bind_some h3
  cases h5
  obtain ⟨vs, e0, r0⟩ := (Okc.at j hf hG : (oL T).rep xs p c S)
  subst e0
  refine hs S H F y hG W h1 _ fun v S1 H1 s1 w1 q1 => ⟨.ref p, hi, ?_⟩
  refine hx S1 H1 F n (hG.mono s1) w1 h2 _ fun x S2 H2 s2 w2 q2 => ?_
  have r := r0.mono (s1.trans s2)
  exact ⟨p, vs, n, l, rfl, q2, w2.at1 ho, by rw [← r.length]; exact h4, next _ _ S2 _ ⟨⟨_, rfl, r.set (T.mono s2 q1) l⟩, hG.mono (s1.trans s2)⟩ (w2.put o ho _) hm⟩

/-! ### loops -/
def foldO (f : β → α → Option β) : β → List α → Option β
  | b, [] => some b
  | b, x :: xs => (f b x).bind fun b' => foldO f b' xs
/-- left by return or break: kn goes on, kb leaves -/
def forK (f : β → α → (β → Option γ) → (β → Option γ) → Option γ) (k : β → Option γ) : List α → β → Option γ
  | [], b => k b
  | x :: xs, b => f b x (fun b' => forK f k xs b') k
theorem k_forK {ω τ : Type} {wi : TI} {g : TG} {tb : TS} {mi : Option (List α)} {f : β → α → (β → Option ρ) → (β → Option ρ) → Option ρ} {k : β → Option ρ} {b0 : β} (w0 : ω) {σJ : β → ω → St} {OJ : β → ω → Ow} {Fb : β → ω → List Fact} {σT : β → ω → τ → St} {Fx : α → τ → List Fact} (hG : Okc G S) (W : Wd S (O ++ F) H) (hm : (mi.bind fun xs => forK f k xs b0) = some out) (hi : SimI G O O0 wi σ mi T) (tg : ∀ b w, TgOk g (σJ b w) T (σT b w) Fx) (hsub : ∀ b w, O0.Sublist (OJ b w)) (eσ : σ = σJ b0 w0) (eO : O = OJ b0 w0) (e0 : ∀ S, Okc G S → Okc (Fb b0 w0 ++ G) S) (step : ∀ S1 a b w x S H kn, f b a kn k = some out → Okc (Fx a x ++ (Fb b w ++ (fS S1 :: G))) S → Wd S (OJ b w ++ F) H → ∀ N : St → Hp → Prop,
      (∀ b' w' S' H', kn b' = some out → Okc (Fb b' w' ++ (fS S1 :: G)) S' → Wd S' (OJ b' w' ++ F) H' → N (σJ b' w') H') →
      (∀ b' w' S' H', k b' = some out → Okc (Fb b' w' ++ (fS S1 :: G)) S' → Wd S' (OJ b' w' ++ F) H' → u D (σJ b' w') H') → tb { D with nx := N, ct := N, bk := u D } (σT b w x) H) (next : ∀ b w S H, k b = some out → Okc (Fb b w ++ G) S → Wd S (OJ b w ++ F) H → u D (σJ b w) H) : tSeq (tFor wi g tb) u D σ H := by
  obtain ⟨xs, h1, hm⟩ := bind_some hm
  refine hi S H F xs hG W h1 _ fun J S1 H1 s1 w1 jok => ?_
  subst eσ eO
  have e0' := e0 S1 (hG.mono s1)
  have drp : ∀ {b w S}, Okc (Fb b w ++ (fS S1 :: G)) S → Okc (Fb b w ++ G) S := fun h => (Okc.left h).append h.right.2
  refine ⟨fun i m σ' H' => m = xs.length - i ∧ i ≤ xs.length ∧ ∃ b w S', σ' = σJ b w ∧ Okc (Fb b w ++ (fS S1 :: G)) S' ∧ Wd S' (OJ b w ++ F) H' ∧ forK f k (xs.drop i) b = some out,
    ⟨xs.length, by simp, Nat.zero_le _, b0, w0, S1, rfl, (Okc.left e0').append ⟨Same.refl _, hG.mono s1⟩, w1, by simpa using hm⟩, ?_⟩
  rintro i m σ' H' ⟨rfl, hi', b, w, S', rfl, ok, w', hf⟩
  have jk := jok S' H' ok.right.1 (w'.sub ((hsub b w).trans (List.sublist_append_left _ _)))
  by_cases hlt : i < xs.length
  · have hd : xs.drop i = xs[i] :: xs.drop (i + 1) := (List.drop_eq_getElem_cons hlt)
    rw [hd] at hf
    obtain ⟨go, yl⟩ := jk.1 i xs[i] (by simp [hlt])
    refine .inr ⟨go, fun σ2 H2 => ∃ b w S', σ2 = σJ b w ∧ Okc (Fb b w ++ (fS S1 :: G)) S' ∧ Wd S' (OJ b w ++ F) H2 ∧ forK f k (xs.drop (i + 1)) b = some out,
      fun σ2 H2 q => ⟨xs.length - (i + 1), by omega, rfl, hlt, q⟩, fun x H2 y => ?_⟩
    obtain ⟨S2, s2, rx, wk⟩ := yl x H2 y
    have w2 := wk _ w'
    refine tg b w xs[i] x S2 H2 _ rx w2.st fun wt okt => ?_
    exact step S1 xs[i] b w wt S2 H2 _ hf (okt.append (ok.mono s2)) w2 _ (fun b' w' S3 H3 e ok' w3 => ⟨b', w', S3, rfl, ok', w3, e⟩) fun b' w' S3 H3 e ok' w3 => next b' w' S3 H3 e (drp ok') w3
  · have e : i = xs.length := by omega
    subst e
    rw [List.drop_length] at hf
    exact .inl ⟨jk.2, next b w S' H' hf (drp ok) w'⟩
theorem k_fold {ω τ : Type} {wi : TI} {g : TG} {tb : TS} {mi : Option (List α)} {f : β → α → Option β} {k : β → Option ρ} {b0 : β} (w0 : ω) {σJ : β → ω → St} {OJ : β → ω → Ow} {Fb : β → ω → List Fact} {σT : β → ω → τ → St} {Fx : α → τ → List Fact} (hG : Okc G S) (W : Wd S (O ++ F) H) (hm : (mi.bind fun xs => (foldO f b0 xs).bind k) = some out) (hi : SimI G O O0 wi σ mi T) (tg : ∀ b w, TgOk g (σJ b w) T (σT b w) Fx) (hsub : ∀ b w, O0.Sublist (OJ b w)) (eσ : σ = σJ b0 w0) (eO : O = OJ b0 w0) (e0 : ∀ S, Okc G S → Okc (Fb b0 w0 ++ G) S) (step : ∀ S1 a b b' w x S H, f b a = some b' → Okc (Fx a x ++ (Fb b w ++ (fS S1 :: G))) S → Wd S (OJ b w ++ F) H → ∀ N : St → Hp → Prop,
      (∀ w' S' H', Okc (Fb b' w' ++ (fS S1 :: G)) S' → Wd S' (OJ b' w' ++ F) H' → N (σJ b' w') H') → tb { D with nx := N, ct := N, bk := u D } (σT b w x) H) (next : ∀ b w S H, k b = some out → Okc (Fb b w ++ G) S → Wd S (OJ b w ++ F) H → u D (σJ b w) H) : tSeq (tFor wi g tb) u D σ H := by
  have conv : ∀ (xs : List α) (b : β), (foldO f b xs).bind k = forK (fun b a kn _ => (f b a).bind kn) k xs b := fun xs => by
    induction xs with
    | nil => intro b; rfl
    | cons x xs ih =>
      intro b
      show ((f b x).bind fun b' => foldO f b' xs).bind k = (f b x).bind fun b' => forK _ k xs b'
      rw [Option.bind_assoc]
      congr 1
      funext b'
      exact ih b'
  refine k_forK (f := fun b a kn _ => (f b a).bind kn) (k := k) w0 hG W ?_ hi tg hsub eσ eO e0 ?_ next
  · rw [← hm]
    congr 1
    funext xs
    exact (conv xs b0).symm
  · intro S1 a b w x S H kn e ok w' N hN _
    obtain ⟨b', e1, e2⟩ := bind_some e
    exact step S1 a b b' w x S H e1 ok w' N fun w' S' H' => hN b' w' S' H' e2
def whileO (c : β → Option Bool) (f : β → Option β) : Nat → β → Option β
  | 0, _ => none
  | n + 1, b => (c b).bind fun t => if t = true then (f b).bind fun b' => whileO c f n b' else some b
theorem k_while {ω : Type} {tc : TT} {tb : TS} {n : Nat} {mc : β → Option Bool} {f : β → Option β} {k : β → Option ρ} {b0 : β} (w0 : ω) {σJ : β → ω → St} {OJ : β → ω → Ow} {Fb : β → ω → List Fact} (hG : Okc G S) (W : Wd S (O ++ F) H) (hm : (whileO mc f n b0).bind k = some out) (hc : ∀ b w, SimT (Fb b w ++ G) (OJ b w) tc (σJ b w) (mc b)) (eσ : σ = σJ b0 w0) (eO : O = OJ b0 w0) (e0 : ∀ S, Okc G S → Okc (Fb b0 w0 ++ G) S) (step : ∀ b b' w S H, f b = some b' → Okc (Fb b w ++ G) S → Wd S (OJ b w ++ F) H → ∀ N : St → Hp → Prop,
      (∀ w' S' H', Okc (Fb b' w' ++ G) S' → Wd S' (OJ b' w' ++ F) H' → N (σJ b' w') H') → tb { D with nx := N, ct := N, bk := u D } (σJ b w) H) (next : ∀ b w S H, k b = some out → Okc (Fb b w ++ G) S → Wd S (OJ b w ++ F) H → u D (σJ b w) H) : tSeq (tWhile tc tb) u D σ H := by
  subst eσ eO
  refine ⟨fun m σ' H' => ∃ b w S', σ' = σJ b w ∧ Okc (Fb b w ++ G) S' ∧ Wd S' (OJ b w ++ F) H' ∧ (whileO mc f m b).bind k = some out, ⟨n, b0, w0, S, rfl, e0 S hG, W, hm⟩, ?_⟩
  rintro m σ' H' ⟨b, w, S', rfl, ok, w', hf⟩
  cases m with
  | zero => cases hf
  | succ m =>
    have hf : ((mc b).bind fun t => if t = true then (f b).bind fun b' => whileO mc f m b' else some b).bind k = some out := hf
    rw [Option.bind_assoc] at hf
    obtain ⟨t, h1, h2⟩ := bind_some hf
    refine hc b w S' H' F t ok w' h1 _ fun S2 H2 s2 w2 => ?_
    cases t with
    | false =>
      rw [if_neg Bool.false_ne_true] at h2 ⊢
      exact next b w S2 H2 h2 (ok.mono s2) w2
    | true =>
      rw [if_pos rfl] at h2 ⊢
      rw [Option.bind_assoc] at h2
      obtain ⟨b', h3, h4⟩ := bind_some h2
      refine ⟨fun σ' H' => ∃ w S', σ' = σJ b' w ∧ Okc (Fb b' w ++ G) S' ∧ Wd S' (OJ b' w ++ F) H', fun σ2 H2 ⟨w2, S2, e, ok2, ww⟩ => ⟨m, Nat.lt_succ_self m, b', w2, S2, e, ok2, ww, h4⟩, ?_⟩
      exact step b b' w S2 H2 h3 (ok.mono s2) w2 _ fun w' S3 H3 ok3 w3 => ⟨w', S3, rfl, ok3, w3⟩
/-- two ways that meet again -/
theorem k_ifj {ω : Type} {c : TT} {mc : Option Bool} {A B : Option β} {k : β → Option ρ} {σJ : β → ω → St} {OJ : β → ω → Ow} {Fb : β → ω → List Fact} (hG : Okc G S) (W : Wd S (O ++ F) H) (hm : ((mc.bind fun b => if b = true then A else B).bind k) = some out) (hc : SimT G O c σ mc) (h1 : ∀ S H b, A = some b → Okc G S → Wd S (O ++ F) H → ∀ N : St → Hp → Prop, (∀ w S H, Okc (Fb b w ++ G) S → Wd S (OJ b w ++ F) H → N (σJ b w) H) → t { D with nx := N } σ H) (h2 : ∀ S H b, B = some b → Okc G S → Wd S (O ++ F) H → ∀ N : St → Hp → Prop, (∀ w S H, Okc (Fb b w ++ G) S → Wd S (OJ b w ++ F) H → N (σJ b w) H) → t' { D with nx := N } σ H) (next : ∀ b w S H, Okc (Fb b w ++ G) S → Wd S (OJ b w ++ F) H → k b = some out → u D (σJ b w) H) : tSeq (tIfS c t t') u D σ H := by
  obtain ⟨b, e0, e2⟩ := bind_some hm
  obtain ⟨d, e0, e1⟩ := bind_some e0
  refine hc S H F d hG W e0 _ fun S' H' s w => ?_
  cases d with
  | true => exact h1 S' H' b e1 (hG.mono s) w _ fun w S H ok ww => next b w S H ok ww e2
  | false => exact h2 S' H' b e1 (hG.mono s) w _ fun w S H ok ww => next b w S H ok ww e2
/-- a way that may leave, and what follows -/
def joinK (k : β → Option γ) (body : (β → Option γ) → Option γ) : Option γ := body k
theorem k_join {ω : Type} {k : β → Option ρ} {body : (β → Option ρ) → Option ρ} {σJ : β → ω → St} {OJ : β → ω → Ow} {Fb : β → ω → List Fact} {P : Prop} (hm : joinK k body = some out)
    (next : ∀ b w S H, k b = some out → Okc (Fb b w ++ G) S → Wd S (OJ b w ++ F) H → u D (σJ b w) H)
    (main : (∀ b w S H, k b = some out → Okc (Fb b w ++ G) S → Wd S (OJ b w ++ F) H → u D (σJ b w) H) → body k = some out → P) : P := main next hm
end
end HF

set_option Elab.async false
set_option linter.all false
set_option maxRecDepth 100000
set_option maxHeartbeats 2000000
/-! Mini4: defs by name. -/
namespace HF
open PySem PySem.Spec L2
open PyProof.Rows hiding St
/-- a def that may be called by its name -/
structure Cal (CX : CXT) (P : Program) (w : World) (K : PySem.W.Frag) (mg : Str → Option Value) (base : Heap) (k : Nat) (x : Str) (sp : Sp) : Prop where
  ex : ∃ (f : Addr) (fd : FuncData) (ps : List Str), FnOk P w K mg base CX k f fd ps sp ∧ mg x = some (.ref f) ∧ PySem.W.keepIn K (.ref f) = true ∧ Binds K fd ps []
/-- a def of the text -/
structure DefAt (K : PySem.W.Frag) (mg : Str → Option Value) (x : Str) (st : Stmt) : Prop where
  ex : ∃ (f : Addr) (fd : FuncData), FunD K x x (defArgs st) (defBody st) (defScope st) [] [] f fd ∧ mg x = some (.ref f)
section
variable {CX : CXT} {P : Program} {w : World} {K : PySem.W.Frag} {mg : Str → Option Value} {base : Heap}
theorem cal_mk {x : Str} {st : Stmt} {N ps : List Str} {k : Nat} {sp : Sp} (D : DefAt K mg x st) (S : FnScope N ps (defScope st)) (len : ∀ vs H Q E, sp vs H Q E → vs.length = ps.length)
    (hb : ∀ (kV doc pm : Value) (an : Option Addr) (cdv ct : Value) (us : List Value), us.length = ps.length → bindArgs (PySem.W.fnOf x x (defArgs st) (defBody st) (defScope st) .none kV doc pm an cdv ct) ⟨us, []⟩ = pure (ps.zip us))
    (hbody : ∀ (f : Addr) (cdv : Value) (A : Around) (outer : List Env) (s : Shared) (H : Hp) (vs : List V) (Q : VK) (E : XK), Room k (A.deeper (envOfC x (defScope st) s.heap.objs.size f cdv)) → sp vs H Q E →
      ∃ t, PSs (cxOf CX P w K mg base N x (defScope st) f cdv A outer s H E) (defBody st) t ∧ t { nx := fun _ H' => Q .non H', rt := Q } (start N vs) H) : Cal CX P w K mg base (k + 1) x sp := by
  obtain ⟨f, fd, F, hm⟩ := D.ex
  exact ⟨f, fd, ps, F.ok S len (fun cdv A outer s H vs Q E hr h => hbody f cdv A outer s H vs Q E hr h), hm, F.kp, F.bindsN hb⟩
theorem Cal.mono {x : Str} {sp : Sp} {j k : Nat} (c : Cal CX P w K mg base j x sp) (h : j ≤ k) : Cal CX P w K mg base k x sp := by
  obtain ⟨f, fd, ps, F, a, b, d⟩ := c.ex
  exact ⟨f, fd, ps, F.mono h, a, b, d⟩
end
section
variable {X : Cx} {CX : CXT} {k j : Nat} {x : Str} {sp : Sp} {p pos : Pos} {e : Expr} {es : List Expr} {t : TA} {E : XK}
theorem pe_cal (c : Cal CX X.prog X.w X.K X.mg X.base k x sp) (hr : Room j X.A) (hk : k ≤ j) (hg : Gl X x) (hx : Passes CX X E) (ha : PA X (e :: es) t)
    (hdb : (x == ("__debug__" : Str)) = false := by decide) (he : starEach (e :: es) X.env = (false, eval e X.env) :: starEach es X.env := by rfl) (hpl : (backTo pos (starEach es X.env)).any (·.1) = false := by rfl) :
    PE X (.Call (.Name x p) (e :: es) [] pos) (tCall sp [] E t) := by
  obtain ⟨f, fd, ps, F, hm, kp, b⟩ := c.ex
  exact pe_call F (hr.mono hk) hg hm kp b .nil hx ha hdb he hpl
end
section
variable {α : Type} {β : Type}
theorem spP_len1 {T : Ty α} {m : α → Option β} {U : Ty β} : ∀ vs H Q E, spP (TyA.one T) m U vs H Q E → vs.length = 1 := fun vs H Q E ⟨S, F, a, r, ⟨v, e, _⟩, _⟩ => by rw [e]; rfl
end
end HF

set_option Elab.async false
set_option linter.all false
set_option maxRecDepth 100000
set_option maxHeartbeats 2000000
/-! Mini5: equality of data, in, isinstance, sums, dicts, what changes. -/
namespace HF
open PySem PySem.Spec L2
open PyProof.Rows hiding St
section
variable {α β γ ρ : Type} {G : List Fact} {O O0 F : Ow} {σ : St} {T : Ty α} {U : Ty β} {K : PySem.W.Frag}
/-! ### == of data -/
class Dat {α : Type} (T : Ty α) where
  enc : α → PyData
  dep : Nat
  dp : ∀ {K : PySem.W.Frag} {a : α} {v : V} {S H : Hp}, T.rep a v S → Same S H → Dp K H v (enc a)
  lay : ∀ a, (enc a).canLay0 = true
  dpt : ∀ a, (enc a).depth ≤ dep
  inj : ∀ a b, PyData.eqv (enc a) (enc b) = true ↔ a = b
instance : Dat tInt := ⟨.int, 0, fun h _ => by cases h; exact .int _, fun _ => rfl, fun _ => Nat.le_refl _, fun a b => by show (a == b) = true ↔ _; exact beq_iff_eq⟩
instance : Dat tBool := ⟨.bool, 0, fun h _ => by cases h; exact .bl _, fun _ => rfl, fun _ => Nat.le_refl _, fun a b => by show (a == b) = true ↔ _; exact beq_iff_eq⟩
def encO (e : α → PyData) : Option α → PyData
  | none => .none
  | some a => e a
theorem lay_all {e : α → PyData} (h : ∀ a, (e a).canLay0 = true) : ∀ xs : List α, PyData.canLayAll0 (xs.map e) = true
  | [] => rfl
  | x :: xs => by simp only [List.map_cons, PyData.canLayAll0, h x, lay_all h xs, Bool.and_self]
theorem dpt_all {e : α → PyData} {n : Nat} (h : ∀ a, (e a).depth ≤ n) : ∀ xs : List α, PyData.depthAll (xs.map e) ≤ n
  | [] => Nat.zero_le _
  | x :: xs => by simp only [List.map_cons, PyData.depthAll]; exact Nat.max_le.mpr ⟨h x, dpt_all h xs⟩
theorem inj_all {e : α → PyData} (h : ∀ a b, PyData.eqv (e a) (e b) = true ↔ a = b) : ∀ xs ys : List α, PyData.eqvAll (xs.map e) (ys.map e) = true ↔ xs = ys
  | [], [] => by simp [PyData.eqvAll]
  | [], _ :: _ => by simp [PyData.eqvAll]
  | _ :: _, [] => by simp [PyData.eqvAll]
  | x :: xs, y :: ys => by simp only [List.map_cons, PyData.eqvAll, Bool.and_eq_true, h x y, inj_all h xs ys, List.cons.injEq]
theorem dp_all [D : Dat T] {S H : Hp} : ∀ {xs : List α} {vs : List V}, Rl T S xs vs → Same S H → DpAll K H vs (xs.map D.enc)
  | _, _, .nil, _ => .nil
  | _, _, .cons r t, s => .cons (D.dp r s) (dp_all t s)
instance [D : Dat T] : Dat (tL T) := ⟨fun xs => .list (xs.map D.enc), D.dep + 1, fun ⟨p, vs, e, g, r⟩ s => by rw [e]; exact .lst (SqL.of (s _ _ g)) (dp_all r s), fun xs => lay_all D.lay xs, fun xs => Nat.succ_le_succ (dpt_all D.dpt xs), fun xs ys => by
  show PyData.eqvAll _ _ = true ↔ _
  exact inj_all D.inj xs ys⟩
instance [D : Dat T] : Dat (tT T) := ⟨fun xs => .tuple (xs.map D.enc), D.dep + 1, fun ⟨p, vs, e, g, r⟩ s => by rw [e]; exact .tup (SqT.of (s _ _ g)) (dp_all r s), fun xs => lay_all D.lay xs, fun xs => Nat.succ_le_succ (dpt_all D.dpt xs), fun xs ys => by
  show PyData.eqvAll _ _ = true ↔ _
  exact inj_all D.inj xs ys⟩
instance [D : Dat T] [D' : Dat U] : Dat (tP T U) := ⟨fun a => .tuple [D.enc a.1, D'.enc a.2], max D.dep D'.dep + 1, fun ⟨p, x, y, e, g, r1, r2⟩ s => by rw [e]; exact .tup (SqT.of (s _ _ g)) (.cons (D.dp r1 s) (.cons (D'.dp r2 s) .nil)),
  fun a => by simp only [PyData.canLay0, PyData.canLayAll0, D.lay, D'.lay, Bool.and_self],
  fun a => by
    simp only [PyData.depth, PyData.depthAll]
    have h1 := D.dpt a.1
    have h2 := D'.dpt a.2
    omega, fun a b => by
    show (PyData.eqv _ _ && (PyData.eqv _ _ && true)) = true ↔ _
    rw [Bool.and_true, Bool.and_eq_true, D.inj, D'.inj]
    obtain ⟨a1, a2⟩ := a
    obtain ⟨b1, b2⟩ := b
    simp⟩
theorem shaped_of [D : Dat T] (h : D.dep ≤ 64) (a : α) : SeqAt.shaped (D.enc a) = true := by
  unfold SeqAt.shaped
  rw [D.lay, decide_eq_true (Nat.le_trans (D.dpt a) h)]
  rfl
theorem eqv_dec [D : Dat T] [DecidableEq α] (a b : α) : PyData.eqv (D.enc a) (D.enc b) = decide (a = b) := by
  by_cases h : a = b
  · rw [decide_eq_true h]; exact (D.inj a b).mpr h
  · rw [decide_eq_false h]
    cases q : PyData.eqv (D.enc a) (D.enc b) with
    | false => rfl
    | true => exact absurd ((D.inj a b).mp q) h
theorem sim_eqD [D : Dat T] [DecidableEq α] {ta tb : TE} {ma mb : Option α} (ha : Sim G O ta σ ma T) (hb : Sim G O tb σ mb T) (h : D.dep ≤ 64 := by decide) : Sim G O (tOp (rEqD K) ta tb) σ (ma.bind fun a => mb.bind fun b => some (decide (a = b))) tBool :=
  sim_op2 (fun a b c x y S H F h1 h2 w e Q k => by
    cases e
    refine ⟨D.enc a, D.enc b, D.dp h1 w.st, D.dp h2 w.st, shaped_of h a, shaped_of h b, ?_⟩
    rw [eqv_dec]
    exact k _ S H (Same.refl _) w rfl) ha hb
theorem sim_neD [D : Dat T] [DecidableEq α] {ta tb : TE} {ma mb : Option α} (ha : Sim G O ta σ ma T) (hb : Sim G O tb σ mb T) (h : D.dep ≤ 64 := by decide) : Sim G O (tOp (rNeD K) ta tb) σ (ma.bind fun a => mb.bind fun b => some (!decide (a = b))) tBool :=
  sim_op2 (fun a b c x y S H F h1 h2 w e Q k => by
    cases e
    refine ⟨D.enc a, D.enc b, D.dp h1 w.st, D.dp h2 w.st, shaped_of h a, shaped_of h b, ?_⟩
    rw [eqv_dec]
    exact k _ S H (Same.refl _) w rfl) ha hb
/-! ### in -/
theorem any_enc [D : Dat T] [DecidableEq α] (a : α) : ∀ xs : List α, ((xs.map D.enc).any fun z => PyData.eqv z (D.enc a)) = decide (a ∈ xs)
  | [] => by simp
  | x :: xs => by
    rw [List.map_cons, List.any_cons, any_enc a xs, eqv_dec]
    by_cases h : x = a
    · subst h; simp
    · have h2 : ¬ a = x := fun e => h e.symm
      simp [h, h2]
theorem sim_in [D : Dat T] [DecidableEq α] {ta tb : TE} {ma : Option α} {mb : Option (List α)} (ha : Sim G O ta σ ma T) (hb : Sim G O tb σ mb (tL T)) (h : D.dep + 1 ≤ 64 := by decide) : Sim G O (tOp (rInD K) ta tb) σ (ma.bind fun a => mb.bind fun b => some (decide (a ∈ b))) tBool :=
  sim_op2 (fun a b c x y S H F h1 h2 w e Q k => by
    cases e
    obtain ⟨p, vs, rfl, g, r⟩ := h2
    refine ⟨D.enc a, b.map D.enc, D.dp h1 w.st, .lst (SqL.of (w.st _ _ g)) (dp_all r w.st), shaped_of (Nat.le_of_succ_le h) a, shaped_of (T := tL T) h b, ?_⟩
    rw [any_enc]
    exact k _ S H (Same.refl _) w rfl) ha hb
theorem sim_notIn [D : Dat T] [DecidableEq α] {ta tb : TE} {ma : Option α} {mb : Option (List α)} (ha : Sim G O ta σ ma T) (hb : Sim G O tb σ mb (tL T)) (h : D.dep + 1 ≤ 64 := by decide) : Sim G O (tOp (rNotInD K) ta tb) σ (ma.bind fun a => mb.bind fun b => some (!decide (a ∈ b))) tBool :=
  sim_op2 (fun a b c x y S H F h1 h2 w e Q k => by
    cases e
    obtain ⟨p, vs, rfl, g, r⟩ := h2
    refine ⟨D.enc a, b.map D.enc, D.dp h1 w.st, .lst (SqL.of (w.st _ _ g)) (dp_all r w.st), shaped_of (Nat.le_of_succ_le h) a, shaped_of (T := tL T) h b, ?_⟩
    rw [any_enc]
    exact k _ S H (Same.refl _) w rfl) ha hb
/-! ### an owned object looked at as if it were frozen, where a plain value comes out -/
def subG (S : Hp) (c : List Cell) : Hp := fun a => if a ∈ c.map (·.1) then none else S a
theorem Wd.unfrz {S H : Hp} {O : Ow} {c : List Cell} (W : Wd S O H) (hc : ∀ a o, (a, o) ∈ c → S a = some o) (nd : (c.map (·.1)).Nodup) : Wd (subG S c) (c :: O) H := by
  refine ⟨fun b u e => ?_, fun q u m => ?_, ?_⟩
  · unfold subG at e
    split at e
    · cases e
    · exact W.st b u e
  · rw [List.flatten_cons] at m
    rcases List.mem_append.mp m with m | m
    · refine ⟨W.st _ _ (hc q u m), ?_⟩
      unfold subG
      rw [if_pos (List.mem_map.mpr ⟨_, m, rfl⟩)]
    · obtain ⟨h1, h2⟩ := Wd0.ow W q u m
      refine ⟨h1, ?_⟩
      unfold subG
      split
      · rfl
      · exact h2
  · simp only [List.flatten_cons, List.map_append]
    refine List.nodup_append.mpr ⟨nd, Wd0.nd W, fun a ha b hb e => ?_⟩
    subst e
    obtain ⟨⟨q, u⟩, hm, e⟩ := List.mem_map.mp ha
    obtain ⟨⟨q', u'⟩, hm', e'⟩ := List.mem_map.mp hb
    have e1 : q = a := e
    have e2 : q' = a := e'
    subst e1
    subst e2
    have h1 := hc _ _ hm
    rw [(Wd0.ow W _ _ hm').2] at h1
    cases h1
theorem sim_peek {δ : Type} {OT : OTy α} {T : Ty α} {R : Ty δ} {p : Addr} {c : List Cell} {g : α} {t : TE} {m : Option δ} (o j : Nat) (ho : O[o]? = some c) (hf : G[j]? = some (OT.f g p c)) (fr : Frz OT T) (sc : ∀ a v S S', R.rep a v S → R.rep a v S')
    (h : Sim (T.f g (.ref p) :: G) (O.eraseIdx o) t σ m R) : Sim G O t σ m R := fun S H F r hG w hm Q k => by
  have w1 := w.perm (perm_front ho)
  obtain ⟨s, w2, n⟩ := w1.frzG
  have nd : (c.map (·.1)).Nodup := by
    have q := Wd0.nd w1
    simp only [List.flatten_cons, List.map_append] at q
    exact (List.nodup_append.mp q).1
  have free : ∀ a, a ∈ c.map (·.1) → S a = none := fun a m => by
    obtain ⟨⟨q, u⟩, hm, e⟩ := List.mem_map.mp m
    cases e
    exact (Wd0.ow w1 q u (List.mem_flatten.mpr ⟨c, List.mem_cons_self .., hm⟩)).2
  have r0 : OT.rep g p c S := Okc.at j hf hG
  refine h (addG S c) H F r ⟨fr _ _ _ _ (OT.mono s r0) n, hG.mono s⟩ w2 hm Q fun v S' H' s' w' q => ?_
  have w3 := w'.unfrz (fun a u m => s' _ _ (n a u m)) nd
  refine k v (subG S' c) H' (fun a u e => ?_) (w3.perm (perm_front ho).symm) (sc _ _ _ _ q)
  unfold subG
  rw [if_neg (fun z => by rw [free a z] at e; cases e)]
  exact s' _ _ (s _ _ e)
theorem sc_int : ∀ a v (S S' : Hp), tInt.rep a v S → tInt.rep a v S' := fun _ _ _ _ h => h
theorem sc_bool : ∀ a v (S S' : Hp), tBool.rep a v S → tBool.rep a v S' := fun _ _ _ _ h => h
theorem sc_unit : ∀ a v (S S' : Hp), tUnit.rep a v S → tUnit.rep a v S' := fun _ _ _ _ h => h
theorem sc_optInt : ∀ a v (S S' : Hp), (tO tInt).rep a v S → (tO tInt).rep a v S' := fun a _ _ _ h => by cases a <;> exact h
/-! ### builtins -/
theorem rl_int {S : Hp} {xs : List Int} {vs : List V} (r : Rl tInt S xs vs) : vs = xs.map V.int := by
  induction r with
  | nil => rfl
  | cons h t ih => rw [List.map_cons, ih, show _ = V.int _ from h]
theorem sim_sum {ta : TE} {ma : Option (List Int)} {TL : Ty (List Int)} [Lk O (oL tInt) TL] (ha : Sim G O ta σ ma TL) : Sim G O (tCB (rSum K) (tCons ta tNil)) σ (ma.bind fun a => some a.sum) tInt := fun S H F r hG w hm Q k => by
  obtain ⟨a, h1, hm⟩ := bind_some hm
  cases hm
  refine ha S H F a hG w h1 _ fun x S1 H1 s1 w1 q1 => ?_
  obtain ⟨p, vs, rfl, r, g⟩ := lkL (O := O) (T := tInt) q1
  exact ⟨p, a, rfl, SqL.of (by rw [g H1 F w1, rl_int r]), k _ S1 H1 s1 w1 rfl⟩
theorem rl_bools {S : Hp} {xs : List Bool} {vs : List V} (r : Rl tBool S xs vs) : vs = xs.map V.bl := by
  induction r with
  | nil => rfl
  | cons h t ih => rw [List.map_cons, ih, show _ = V.bl _ from h]
theorem sim_all {ta : TE} {ma : Option (List Bool)} {TL : Ty (List Bool)} [Lk O (oL tBool) TL] (ha : Sim G O ta σ ma TL) : Sim G O (tCB (rAll K) (tCons ta tNil)) σ (ma.bind fun a => some (a.all id)) tBool := fun S H F r hG w hm Q k => by
  obtain ⟨a, h1, hm⟩ := bind_some hm
  cases hm
  refine ha S H F a hG w h1 _ fun x S1 H1 s1 w1 q1 => ?_
  obtain ⟨p, vs, rfl, r, g⟩ := lkL (O := O) (T := tBool) q1
  exact ⟨p, a, rfl, SqL.of (by rw [g H1 F w1, rl_bools r]), k _ S1 H1 s1 w1 rfl⟩
theorem sim_any {ta : TE} {ma : Option (List Bool)} {TL : Ty (List Bool)} [Lk O (oL tBool) TL] (ha : Sim G O ta σ ma TL) : Sim G O (tCB (rAny K) (tCons ta tNil)) σ (ma.bind fun a => some (a.any id)) tBool := fun S H F r hG w hm Q k => by
  obtain ⟨a, h1, hm⟩ := bind_some hm
  cases hm
  refine ha S H F a hG w h1 _ fun x S1 H1 s1 w1 q1 => ?_
  obtain ⟨p, vs, rfl, r, g⟩ := lkL (O := O) (T := tBool) q1
  exact ⟨p, a, rfl, SqL.of (by rw [g H1 F w1, rl_bools r]), k _ S1 H1 s1 w1 rfl⟩
theorem sim_abs {ta : TE} {ma : Option Int} (ha : Sim G O ta σ ma tInt) : Sim G O (tCB (fun xs H Q => ∃ i, xs = [.int i] ∧ Q (.int (if i < 0 then -i else i)) H) (tCons ta tNil)) σ (ma.bind fun a => some (if a < 0 then -a else a)) tInt := fun S H F r hG w hm Q k => by
  obtain ⟨a, h1, hm⟩ := bind_some hm
  cases hm
  refine ha S H F a hG w h1 _ fun x S1 H1 s1 w1 q1 => ⟨a, by rw [show x = .int a from q1], k _ S1 H1 s1 w1 rfl⟩
theorem sim_intI {ta : TE} {ma : Option Int} (ha : Sim G O ta σ ma tInt) : Sim G O (tCB (fun xs H Q => (∃ i, xs = [.int i] ∧ Q (.int i) H) ∨ ∃ k, xs = [.bl k] ∧ Q (.int (if k then 1 else 0)) H) (tCons ta tNil)) σ ma tInt := fun S H F r hG w hm Q k => by
  refine ha S H F r hG w hm _ fun x S1 H1 s1 w1 q1 => .inl ⟨r, by rw [show x = .int r from q1], k _ S1 H1 s1 w1 rfl⟩
theorem sim_intB {ta : TE} {ma : Option Bool} (ha : Sim G O ta σ ma tBool) : Sim G O (tCB (fun xs H Q => (∃ i, xs = [.int i] ∧ Q (.int i) H) ∨ ∃ k, xs = [.bl k] ∧ Q (.int (if k then 1 else 0)) H) (tCons ta tNil)) σ (ma.bind fun b => some (if b = true then 1 else 0)) tInt := fun S H F r hG w hm Q k => by
  obtain ⟨a, h1, hm⟩ := bind_some hm
  cases hm
  refine ha S H F a hG w h1 _ fun x S1 H1 s1 w1 q1 => .inr ⟨a, by rw [show x = .bl a from q1], k _ S1 H1 s1 w1 rfl⟩
theorem sim_max2 {ta tb : TE} {ma mb : Option Int} (ha : Sim G O ta σ ma tInt) (hb : Sim G O tb σ mb tInt) : Sim G O (tCB (fun xs H Q => ∃ i j, xs = [.int i, .int j] ∧ Q (.int (if j > i then j else i)) H) (tCons ta (tCons tb tNil))) σ (ma.bind fun a => mb.bind fun b => some (max a b)) tInt := fun S H F r hG w hm Q k => by
  obtain ⟨a, h1, hm⟩ := bind_some hm
  obtain ⟨b, h2, hm⟩ := bind_some hm
  cases hm
  refine ha S H F a hG w h1 _ fun x S1 H1 s1 w1 q1 => ?_
  refine hb S1 H1 F b (hG.mono s1) w1 h2 _ fun y S2 H2 s2 w2 q2 => ⟨a, b, by rw [show x = .int a from q1, show y = .int b from q2], ?_⟩
  have e : (if b > a then b else a) = max a b := by split <;> omega
  rw [e]
  exact k _ S2 H2 (s1.trans s2) w2 rfl
theorem sim_min2 {ta tb : TE} {ma mb : Option Int} (ha : Sim G O ta σ ma tInt) (hb : Sim G O tb σ mb tInt) : Sim G O (tCB (fun xs H Q => ∃ i j, xs = [.int i, .int j] ∧ Q (.int (if j < i then j else i)) H) (tCons ta (tCons tb tNil))) σ (ma.bind fun a => mb.bind fun b => some (min a b)) tInt := fun S H F r hG w hm Q k => by
  obtain ⟨a, h1, hm⟩ := bind_some hm
  obtain ⟨b, h2, hm⟩ := bind_some hm
  cases hm
  refine ha S H F a hG w h1 _ fun x S1 H1 s1 w1 q1 => ?_
  refine hb S1 H1 F b (hG.mono s1) w1 h2 _ fun y S2 H2 s2 w2 q2 => ⟨a, b, by rw [show x = .int a from q1, show y = .int b from q2], ?_⟩
  have e : (if b < a then b else a) = min a b := by split <;> omega
  rw [e]
  exact k _ S2 H2 (s1.trans s2) w2 rfl
theorem sim_bitlen {to : TE} {m : Option Int} (h : Sim G O to σ m tInt) : Sim G O (tBits to) σ (m.bind fun i => some ((Builtin.Int.intBits i : Nat) : Int)) tInt := fun S H F r hG w hm Q k => by
  obtain ⟨a, h1, hm⟩ := bind_some hm
  cases hm
  exact h S H F a hG w h1 _ fun v S1 H1 s1 w1 q1 => ⟨a, q1, k _ S1 H1 s1 w1 rfl⟩
/-- isinstance against a built-in class, the answer known by the kind of the data -/
def IsI (T : Ty α) (c : String) (b : Bool) : Prop := ∀ (K : PySem.W.Frag) (a : α) (v : V) (S H : Hp), T.rep a v S → Same S H → ∃ t, TyX K H v t ∧ PySem.W.kitOne K t (.type c) = some b
theorem sim_isi {c : String} {b : Bool} {ta : TE} {ma : Option α} (hi : IsI T c b) (ha : Sim G O ta σ ma T) : Sim G O (tCB (rIsi K) (tCons ta (tCons (tC (.ty c)) tNil))) σ (ma.bind fun _ => some b) tBool := fun S H F r hG w hm Q k => by
  obtain ⟨a, h1, hm⟩ := bind_some hm
  cases hm
  refine ha S H F a hG w h1 _ fun x S1 H1 s1 w1 q1 => ?_
  obtain ⟨t, h2, h3⟩ := hi K a x S1 H1 q1 w1.st
  exact ⟨x, .ty c, t, .type c, b, rfl, .ty c, h2, h3, k _ S1 H1 s1 w1 rfl⟩
theorem isI_int_int : IsI tInt "int" true := fun K a v S H h s => by cases h; exact ⟨_, .base (.int _), kit_ty (by decide +kernel)⟩
theorem isI_int_bool : IsI tInt "bool" false := fun K a v S H h s => by cases h; exact ⟨_, .base (.int _), kit_ty (by decide +kernel)⟩
theorem isI_bool_bool : IsI tBool "bool" true := fun K a v S H h s => by cases h; exact ⟨_, .base (.bl _), kit_ty (by decide +kernel)⟩
theorem isI_tup_tuple : IsI (tT T) "tuple" true := fun K a v S H ⟨p, vs, e, g, _⟩ s => by subst e; exact ⟨_, .base (.tup (s _ _ g)), kit_ty (by decide +kernel)⟩
theorem isI_pair_tuple : IsI (tP T U) "tuple" true := fun K a v S H ⟨p, x, y, e, g, _⟩ s => by subst e; exact ⟨_, .base (.tup (s _ _ g)), kit_ty (by decide +kernel)⟩
theorem isI_list_list : IsI (tL T) "list" true := fun K a v S H ⟨p, vs, e, g, _⟩ s => by subst e; exact ⟨_, .base (.lst (s _ _ g)), kit_ty (by decide +kernel)⟩
theorem isI_list_tuple : IsI (tL T) "tuple" false := fun K a v S H ⟨p, vs, e, g, _⟩ s => by subst e; exact ⟨_, .base (.lst (s _ _ g)), kit_ty (by decide +kernel)⟩
theorem isI_tup_list : IsI (tT T) "list" false := fun K a v S H ⟨p, vs, e, g, _⟩ s => by subst e; exact ⟨_, .base (.tup (s _ _ g)), kit_ty (by decide +kernel)⟩
theorem sim_lenP {ta : TE} {ma : Option (α × β)} (ha : Sim G O ta σ ma (tP T U)) : Sim G O (tCB (rLn K) (tCons ta tNil)) σ (ma.bind fun _ => some 2) tInt := fun S H F r hG w hm Q k => by
  obtain ⟨a, h1, hm⟩ := bind_some hm
  cases hm
  refine ha S H F a hG w h1 _ fun x S1 H1 s1 w1 q1 => ?_
  obtain ⟨p, y, z, rfl, g, r⟩ := q1
  exact ⟨p, [y, z], rfl, .inr (SqT.of (w1.st _ _ g)), k _ S1 H1 s1 w1 rfl⟩
/-! ### records: dicts with written keys -/
def recKv (keys : List Str) (vs : List V) : List (Key × V) := (keys.map Sum.inr).zip vs
def oRec (keys : List Str) (A : TyA α) : OTy α := ⟨fun a p c S => ∃ vs, c = [(p, .dK (recKv keys vs))] ∧ vs.length = keys.length ∧ keys.Nodup ∧ A.rep a vs S, fun h ⟨vs, e, l, n, r⟩ => ⟨vs, e, l, n, A.mono h r⟩⟩
def tRec (keys : List Str) (A : TyA α) : Ty α := ⟨fun a v S => ∃ p vs, v = .ref p ∧ S p = some (.dK (recKv keys vs)) ∧ vs.length = keys.length ∧ keys.Nodup ∧ A.rep a vs S, fun h ⟨p, vs, e, g, l, n, r⟩ => ⟨p, vs, e, h _ _ g, l, n, A.mono h r⟩⟩
theorem frz_Rec {keys : List Str} {A : TyA α} : Frz (oRec keys A) (tRec keys A) := fun g p c S ⟨vs, e, l, n, r⟩ h => ⟨p, vs, rfl, h _ _ (by rw [e]; exact List.mem_cons_self ..), l, n, r⟩
instance {keys : List Str} {A : TyA α} : Lk O (oRec keys A) (tRec keys A) := ⟨fun _ _ _ ⟨p, vs, e, h, l, n, r⟩ => ⟨p, _, e, ⟨vs, rfl, l, n, r⟩, fun _ _ w a o m => by
  obtain ⟨rfl, rfl⟩ : a = p ∧ o = .dK (recKv keys vs) := by simpa using m
  exact w.st _ _ h⟩⟩
theorem valV_rec : ∀ {keys : List Str} {vs : List V} {i : Nat} {k : Str}, keys.Nodup → vs.length = keys.length → keys[i]? = some k → valV (recKv keys vs) (Sum.inr k : Key) = vs[i]?
  | [], _, _, _, _, _, h => by simp at h
  | x :: keys, [], _, _, _, h, _ => by simp at h
  | x :: keys, v :: vs, 0, k, _, _, h => by
    simp at h
    subst h
    exact valV_pos (p := ((Sum.inr x : Key), v)) rfl
  | x :: keys, v :: vs, i + 1, k, n, l, h => by
    have hk : keys[i]? = some k := by simpa using h
    have hne : ¬ ((Sum.inr x : Key) = Sum.inr k) := fun e => (List.nodup_cons.mp n).1 (by rw [Sum.inr.inj e]; exact List.mem_of_getElem? hk)
    show valV (((Sum.inr x : Key), v) :: recKv keys vs) _ = _
    rw [valV_neg (p := ((Sum.inr x : Key), v)) hne, valV_rec (List.nodup_cons.mp n).2 (by simpa using l) hk]
    simp
/-- the i-th place of a record -/
def Pj (A : TyA α) (i : Nat) (T : Ty β) (f : α → β) : Prop := ∀ a vs S, A.rep a vs S → ∃ v, vs[i]? = some v ∧ T.rep (f a) v S
theorem pj_one : Pj (TyA.one T) 0 T id := fun a vs S ⟨v, e, r⟩ => ⟨v, by rw [e]; rfl, r⟩
theorem pj_0 {A : TyA β} : Pj (TyA.c T A) 0 T Prod.fst := fun a vs S ⟨v, ws, e, r, _⟩ => ⟨v, by rw [e]; rfl, r⟩
theorem pj_s {A : TyA β} {i : Nat} {W : Ty γ} {f : β → γ} (h : Pj A i W f) : Pj (TyA.c T A) (i + 1) W (fun a => f a.2) := fun a vs S ⟨v, ws, e, _, r⟩ => by
  obtain ⟨x, h1, h2⟩ := h a.2 ws S r
  exact ⟨x, by rw [e]; exact h1, h2⟩
theorem sim_get {keys : List Str} {A : TyA α} {TR : Ty α} [Lk O (oRec keys A) TR] {i : Nat} {k : Str} {f : α → β} {td : TE} {md : Option α} (pj : Pj A i U f) (hk : keys[i]? = some k) (hd : Sim G O td σ md TR) :
    Sim G O (tDGet td (tC (.str k))) σ (md.bind fun a => some (f a)) U := fun S H F r hG w hm Q kk => by
  obtain ⟨a, h1, hm⟩ := bind_some hm
  cases hm
  refine hd S H F a hG w h1 _ fun x S1 H1 s1 w1 q1 => ?_
  obtain ⟨p, c, rfl, ⟨vs, rfl, l, n, r⟩, g⟩ := Lk.lk (O := O) _ _ _ q1
  obtain ⟨v, h2, h3⟩ := pj a vs S1 r
  have e := g H1 F w1 _ _ (List.mem_cons_self ..)
  refine ⟨p, v, rfl, ?_, kk v S1 H1 s1 w1 h3⟩
  have q := DGet.k (k := Sum.inr k) e
  rw [valV_rec n l hk, h2] at q
  exact q
/-- the display of a record -/
def SimPs (G : List Fact) (O : Ow) (trs : List (TE × TE)) (σ : St) (m : Option α) (keys : List Str) (A : TyA α) : Prop :=
  ∀ (S H : Hp) (F : Ow) (r : α), Okc G S → Wd S (O ++ F) H → m = some r → ∀ Q : List (V × V) → Hp → Prop, (∀ vs S' H', Same S S' → Wd S' (O ++ F) H' → vs.length = keys.length → A.rep r vs S' → Q ((keys.map V.str).zip vs) H') → tPairs trs σ H Q
theorem simPs_one {k : Str} {tv : TE} {m : Option α} (h : Sim G O tv σ m T) : SimPs G O [(tC (.str k), tv)] σ m [k] (TyA.one T) := fun S H F r hG w hm Q kk =>
  h S H F r hG w hm _ fun v S' H' s w' q => kk [v] S' H' s w' rfl ⟨v, rfl, q⟩
theorem simPs_c {k : Str} {keys : List Str} {tv : TE} {trs : List (TE × TE)} {A : TyA β} {ma : Option α} {mb : Option β} (h : Sim G O tv σ ma T) (hr : SimPs G O trs σ mb keys A) :
    SimPs G O ((tC (.str k), tv) :: trs) σ (ma.bind fun a => mb.bind fun b => some (a, b)) (k :: keys) (TyA.c T A) := fun S H F r hG w hm Q kk => by
  obtain ⟨a, h1, hm⟩ := bind_some hm
  obtain ⟨b, h2, hm⟩ := bind_some hm
  cases hm
  refine h S H F a hG w h1 _ fun v S1 H1 s1 w1 q1 => ?_
  exact hr S1 H1 F b (hG.mono s1) w1 h2 _ fun vs S2 H2 s2 w2 l q2 => kk (v :: vs) S2 H2 (s1.trans s2) w2 (congrArg Nat.succ l) ⟨v, vs, rfl, T.mono s2 q1, q2⟩
theorem any_key {kvs : List (Key × V)} {k : Key} (h : k ∉ kvs.map (·.1)) : (kvs.any fun kv => decide (kv.1 = k)) = false := by
  rw [Bool.eq_false_iff]
  intro z
  obtain ⟨p, hp, e⟩ := List.any_eq_true.mp z
  exact h (List.mem_map.mpr ⟨p, hp, of_decide_eq_true e⟩)
theorem merge_new : ∀ (kvs acc : List (Key × V)), ((acc ++ kvs).map (·.1)).Nodup → mergeK acc kvs = acc ++ kvs
  | [], acc, _ => by rw [List.append_nil]; rfl
  | kv :: kvs, acc, n => by
    have n1 : kv.1 ∉ acc.map (·.1) := fun m => by
      rw [List.map_append] at n
      exact (List.nodup_append.mp n).2.2 _ m _ (List.mem_map.mpr ⟨kv, List.mem_cons_self .., rfl⟩) rfl
    have e : putK acc kv.1 kv.2 = acc ++ [kv] := by
      unfold putK
      rw [any_key n1, if_neg Bool.false_ne_true]
    have q := merge_new kvs (acc ++ [kv]) (by rw [List.append_assoc]; exact n)
    show mergeK (putK acc kv.1 kv.2) kvs = _
    rw [e, q, List.append_assoc]
    rfl
theorem recKv_keys {keys : List Str} {vs : List V} (l : vs.length = keys.length) : (recKv keys vs).map (·.1) = keys.map Sum.inr := by
  unfold recKv
  rw [List.map_fst_zip]
  simp [l]
theorem nodup_inr {keys : List Str} (n : keys.Nodup) : (keys.map (Sum.inr : Str → Key)).Nodup := by
  induction keys with
  | nil => exact List.nodup_nil
  | cons x r ih =>
    obtain ⟨n1, n2⟩ := List.nodup_cons.mp n
    refine List.nodup_cons.mpr ⟨fun m => ?_, ih n2⟩
    obtain ⟨y, hy, e⟩ := List.mem_map.mp m
    exact n1 (by rw [← Sum.inr.inj e]; exact hy)
theorem zip_kV : ∀ (keys : List Str) (vs : List V), (keys.map V.str).zip vs = (recKv keys vs).map fun kv => (kV kv.1, kv.2)
  | [], _ => rfl
  | _ :: _, [] => rfl
  | k :: keys, v :: vs => by
    show (V.str k, v) :: (keys.map V.str).zip vs = (kV (Sum.inr k), v) :: (recKv keys vs).map _
    rw [zip_kV keys vs]
    rfl
theorem simF_disp {keys : List Str} {A : TyA α} {trs : List (TE × TE)} {m : Option α} (nd : keys.Nodup) (h15 : keys.length ≤ 15) (h : SimPs G O trs σ m keys A) : SimF G O (tDisp trs) σ m (oRec keys A) := fun S H F r hG w hm Q k => by
  intro p hp
  refine h S _ ([(p, .dK [])] :: F) r hG ((w.newO hp).perm (perm_mid _ _ _)) hm _ fun vs S' H' s w' l q => ?_
  have w2 := w'.perm (perm_mid _ _ _).symm
  refine ⟨w2.hd1, recKv keys vs, zip_kV keys vs, ?_, ?_⟩
  · unfold recKv
    rw [List.length_zip, List.length_map]
    omega
  · rw [merge_new _ [] (by rw [List.nil_append, recKv_keys l]; exact nodup_inr nd), List.nil_append]
    exact k p _ S' _ s (w2.put1 _) ⟨vs, rfl, l, nd, q⟩
/-- a record's place is written -/
theorem recKv_set : ∀ {keys : List Str} {vs : List V} {i : Nat} {k : Str} {v : V}, keys.Nodup → vs.length = keys.length → keys[i]? = some k → (recKv keys vs).map (fun kv => if kv.1 = (Sum.inr k : Key) then (kv.1, v) else kv) = recKv keys (vs.set i v)
  | [], _, _, _, _, _, _, h => by simp at h
  | x :: keys, [], _, _, _, _, h, _ => by simp at h
  | x :: keys, u :: vs, 0, k, v, n, l, h => by
    simp at h
    subst h
    show (if (Sum.inr x : Key) = Sum.inr x then ((Sum.inr x : Key), v) else _) :: (recKv keys vs).map _ = ((Sum.inr x : Key), v) :: recKv keys vs
    rw [if_pos rfl]
    congr 1
    have l' : vs.length = keys.length := by simpa using l
    have hn : (Sum.inr x : Key) ∉ (recKv keys vs).map (·.1) := fun m => by
      rw [recKv_keys l'] at m
      obtain ⟨y, hy, e⟩ := List.mem_map.mp m
      exact (List.nodup_cons.mp n).1 (by rw [← Sum.inr.inj e]; exact hy)
    refine (List.map_congr_left fun kv m => ?_).trans (List.map_id _)
    exact if_neg fun e => hn (List.mem_map.mpr ⟨kv, m, e⟩)
  | x :: keys, u :: vs, i + 1, k, v, n, l, h => by
    have hk : keys[i]? = some k := by simpa using h
    have hne : ¬ ((Sum.inr x : Key) = Sum.inr k) := fun e => (List.nodup_cons.mp n).1 (by rw [Sum.inr.inj e]; exact List.mem_of_getElem? hk)
    show (if (Sum.inr x : Key) = Sum.inr k then ((Sum.inr x : Key), v) else ((Sum.inr x : Key), u)) :: (recKv keys vs).map _ = ((Sum.inr x : Key), u) :: recKv keys (vs.set i v)
    rw [if_neg hne, recKv_set (List.nodup_cons.mp n).2 (by simpa using l) hk]
def Stp (A : TyA α) (i : Nat) (T : Ty β) (f : α → β → α) : Prop := ∀ a vs S x v, A.rep a vs S → T.rep x v S → A.rep (f a x) (vs.set i v) S
theorem st_one : Stp (TyA.one T) 0 T (fun _ x => x) := fun a vs S x v ⟨u, e, r⟩ q => ⟨v, by rw [e]; rfl, q⟩
theorem st_0 {A : TyA β} : Stp (TyA.c T A) 0 T (fun a x => (x, a.2)) := fun a vs S x v ⟨u, ws, e, r, q0⟩ q => ⟨v, ws, by rw [e]; rfl, q, q0⟩
theorem st_s {A : TyA β} {i : Nat} {W : Ty γ} {f : β → γ → β} (h : Stp A i W f) : Stp (TyA.c T A) (i + 1) W (fun a x => (a.1, f a.2 x)) := fun a vs S x v ⟨u, ws, e, r, q0⟩ q => ⟨u, ws.set i v, by rw [e]; rfl, r, h _ _ _ _ _ q0 q⟩
def Snp (A : TyA α) (A' : TyA γ) (T : Ty β) (f : α → β → γ) : Prop := ∀ a vs S x v, A.rep a vs S → T.rep x v S → A'.rep (f a x) (vs ++ [v]) S
theorem sn_one : Snp (TyA.one T) (TyA.c T (TyA.one U)) U (fun a x => (a, x)) := fun a vs S x v ⟨u, e, r⟩ q => ⟨u, [v], by rw [e]; rfl, r, ⟨v, rfl, q⟩⟩
theorem sn_c {A : TyA β} {A' : TyA γ} {δ : Type} {W : Ty δ} {f : β → δ → γ} (h : Snp A A' W f) : Snp (TyA.c T A) (TyA.c T A') W (fun a x => (a.1, f a.2 x)) := fun a vs S x v ⟨u, ws, e, r, q0⟩ q => ⟨u, ws ++ [v], by rw [e]; rfl, r, h _ _ _ _ _ q0 q⟩
variable {S H : Hp} {D : Ends} {out : ρ} {u t t' : TS}
theorem k_rput {keys : List Str} {A : TyA α} {n : Nat} {key : Str} {g : α → β → α} {tv : TE} {i : Nat} {p : Addr} {c : List Cell} {a : α} {mv : Option β} {k : α → Option ρ} (hG : Okc G S) (W : Wd S (O ++ F) H) (hm : (mv.bind fun x => (some (g a x)).bind k) = some out)
    (o j : Nat) (hi : σ[i]? = some (some (.ref p))) (ho : O[o]? = some c) (hf : G[j]? = some ((oRec keys A).f a p c)) (st : Stp A n U g) (hk : keys[n]? = some key) (hl : keys.length < sizeLine) (hs : Sim G O tv σ mv U)
    (next : ∀ x c' S H, Okc ((oRec keys A).f (g a x) p c' :: G) S → Wd S (O.set o c' ++ F) H → k (g a x) = some out → u D σ H) : tSeq (sDPut (tVar i) (tC (.str key)) tv) u D σ H := by
  obtain ⟨x, h1, hm⟩ := bind_some hm
  obtain ⟨vs, e0, l, nd, r0⟩ := (Okc.at j hf hG : (oRec keys A).rep a p c S)
  subst e0
  refine hs S H F x hG W h1 _ fun v S1 H1 s1 w1 q1 => ⟨.ref p, hi, p, upd H1 p (.dK (recKv keys (vs.set n v))), rfl, ?_, next x _ S1 _ ⟨⟨vs.set n v, rfl, by rw [List.length_set]; exact l, nd, st _ _ _ _ _ (A.mono s1 r0) q1⟩, hG.mono s1⟩ (w1.put o ho _) hm⟩
  have e := w1.at1 ho
  have hz : (recKv keys vs).length < sizeLine := by
    unfold recKv
    rw [List.length_zip, List.length_map]
    omega
  have q := DPut.k (k := Sum.inr key) (v := v) e hz
  have ep : putK (recKv keys vs) (Sum.inr key : Key) v = recKv keys (vs.set n v) := by
    unfold putK
    rw [valV_any, valV_rec nd l hk]
    have hn : n < vs.length := by rw [l]; exact (List.getElem?_eq_some_iff.mp hk).1
    rw [List.getElem?_eq_getElem hn, Option.isSome_some, if_pos rfl]
    exact recKv_set nd l hk
  rw [ep] at q
  exact q
/-- a record gets one key more -/
theorem k_rnew {keys : List Str} {A : TyA α} {A' : TyA γ} {key : Str} {g : α → β → γ} {tv : TE} {i : Nat} {p : Addr} {c : List Cell} {a : α} {mv : Option β} {k : γ → Option ρ} (hG : Okc G S) (W : Wd S (O ++ F) H) (hm : (mv.bind fun x => (some (g a x)).bind k) = some out)
    (o j : Nat) (hi : σ[i]? = some (some (.ref p))) (ho : O[o]? = some c) (hf : G[j]? = some ((oRec keys A).f a p c)) (sn : Snp A A' U g) (hk : (keys ++ [key]).Nodup) (hl : keys.length < sizeLine) (hs : Sim G O tv σ mv U)
    (next : ∀ x c' S H, Okc ((oRec (keys ++ [key]) A').f (g a x) p c' :: G) S → Wd S (O.set o c' ++ F) H → k (g a x) = some out → u D σ H) : tSeq (sDPut (tVar i) (tC (.str key)) tv) u D σ H := by
  obtain ⟨x, h1, hm⟩ := bind_some hm
  obtain ⟨vs, e0, l, nd, r0⟩ := (Okc.at j hf hG : (oRec keys A).rep a p c S)
  subst e0
  refine hs S H F x hG W h1 _ fun v S1 H1 s1 w1 q1 => ⟨.ref p, hi, p, upd H1 p (.dK (recKv (keys ++ [key]) (vs ++ [v]))), rfl, ?_, next x _ S1 _ ⟨⟨vs ++ [v], rfl, by simp [l], hk, sn _ _ _ _ _ (A.mono s1 r0) q1⟩, hG.mono s1⟩ (w1.put o ho _) hm⟩
  have e := w1.at1 ho
  have hz : (recKv keys vs).length < sizeLine := by
    unfold recKv
    rw [List.length_zip, List.length_map]
    omega
  have q := DPut.k (k := Sum.inr key) (v := v) e hz
  have hn : (Sum.inr key : Key) ∉ (recKv keys vs).map (·.1) := fun m => by
    rw [recKv_keys l] at m
    obtain ⟨y, hy, e⟩ := List.mem_map.mp m
    have := (List.nodup_append.mp hk).2.2 y hy key (List.mem_singleton.mpr rfl)
    exact this (Sum.inr.inj e)
  have ep : putK (recKv keys vs) (Sum.inr key : Key) v = recKv (keys ++ [key]) (vs ++ [v]) := by
    unfold putK
    rw [any_key hn, if_neg Bool.false_ne_true]
    unfold recKv
    rw [List.map_append, List.zip_append (by simp [l])]
    rfl
  rw [ep] at q
  exact q
end
end HF

set_option Elab.async false
set_option linter.all false
set_option maxRecDepth 100000
set_option maxHeartbeats 2000000
/-! Mini6: step by step from the left, calls that change one owned object, dicts with int keys and with tuple keys. -/
namespace HF
open PySem PySem.Spec L2
open PyProof.Rows hiding St
/-- the promise of a def that changes the owned object at its n-th place -/
def spO {α β γ : Type} (n : Nat) (OT : OTy γ) (A : TyA α) (m : γ → α → Option (β × γ)) (U : Ty β) : Sp := fun vs H Q _ => ∃ (S : Hp) (F : Ow) (p : Addr) (c : List Cell) (g : γ) (a : α) (r : β × γ),
  vs[n]? = some (.ref p) ∧ A.rep a (vs.eraseIdx n) S ∧ OT.rep g p c S ∧ Wd S (c :: F) H ∧ m g a = some r ∧ ∀ v c' S' H', Same S S' → Wd S' (c' :: F) H' → OT.rep r.2 p c' S' → U.rep r.1 v S' → Q v H'
section
variable {α β γ ρ δ : Type} {G : List Fact} {O O0 F : Ow} {σ : St} {T : Ty α} {U : Ty β} {K : PySem.W.Frag} {S H : Hp} {D : Ends} {out : ρ} {u t t' : TS} {Q : VK}
/-! ### steps -/
theorem c_pure {te : TE} {m : Option α} {k : α → Option ρ} (hG : Okc G S) (W : Wd S (O ++ F) H) (hm : m.bind k = some out) (hs : Sim G O te σ m T)
    (next : ∀ a v S H, Okc (T.f a v :: G) S → Wd S (O ++ F) H → k a = some out → Q v H) : te σ H Q := by
  obtain ⟨a, h1, h2⟩ := bind_some hm
  exact hs S H F a hG W h1 _ fun v S' H' s w q => next a v S' H' ⟨q, hG.mono s⟩ w h2
theorem c_fresh {OT : OTy α} {te : TE} {m : Option α} {k : α → Option ρ} (hG : Okc G S) (W : Wd S (O ++ F) H) (hm : m.bind k = some out) (hs : SimF G O te σ m OT)
    (next : ∀ a p c S H, Okc (OT.f a p c :: G) S → Wd S ((c :: O) ++ F) H → k a = some out → Q (.ref p) H) : te σ H Q := by
  obtain ⟨a, h1, h2⟩ := bind_some hm
  exact hs S H F a hG W h1 _ fun p c S' H' s w q => next a p c S' H' ⟨q, hG.mono s⟩ w h2
theorem c_test {tt : TT} {m : Option Bool} {k : Bool → Option ρ} {R : Bool → Hp → Prop} (hG : Okc G S) (W : Wd S (O ++ F) H) (hm : m.bind k = some out) (hs : SimT G O tt σ m)
    (next : ∀ b S H, Okc G S → Wd S (O ++ F) H → k b = some out → R b H) : tt σ H R := by
  obtain ⟨a, h1, h2⟩ := bind_some hm
  exact hs S H F a hG W h1 _ fun S' H' s w => next a S' H' (hG.mono s) w h2
theorem c_ref {i : Nat} {v : V} (hi : σ[i]? = some (some v)) (h : Q v H) : tVar i σ H Q := ⟨v, hi, h⟩
theorem c_bool {b : Bool} {v : V} {R : Bool → Hp → Prop} (hG : Okc G S) (j : Nat) (hf : G[j]? = some (tBool.f b v)) (h : R b H) : ∃ k, v = .bl k ∧ R k H := ⟨b, Okc.at j hf hG, h⟩
theorem c_ite {b : Bool} {A B : Option ρ} {P1 P2 : Prop} (hm : (if b = true then A else B) = some out) (h1 : b = true → A = some out → P1) (h2 : b = false → B = some out → P2) : if b = true then P1 else P2 := by
  cases b with
  | true => exact h1 rfl hm
  | false => exact h2 rfl hm
theorem e_op {r : R2} {ta tb : TE} (h : ta σ H fun x H1 => tb σ H1 fun y H2 => r x y H2 Q) : tOp r ta tb σ H Q := h
theorem x_op {r : R2} {x y : V} (h : tOp r (tC x) (tC y) σ H Q) : r x y H Q := h
theorem e_cons {ta : TE} {tr : TA} {R : List V → Hp → Prop} (h : ta σ H fun x H1 => tr σ H1 fun xs H2 => R (x :: xs) H2) : tCons ta tr σ H R := h
theorem e_nil {R : List V → Hp → Prop} (h : R [] H) : tNil σ H R := h
theorem e_cb {r : List V → Hp → VK → Prop} {t : TA} (h : t σ H fun vs H1 => r vs H1 Q) : tCB r t σ H Q := h
theorem x_cb1 {r : List V → Hp → VK → Prop} {x : V} (h : tCB r (tCons (tC x) tNil) σ H Q) : r [x] H Q := h
theorem x_cb2 {r : List V → Hp → VK → Prop} {x y : V} (h : tCB r (tCons (tC x) (tCons (tC y) tNil)) σ H Q) : r [x, y] H Q := h
theorem e_call {sp : Sp} {E : XK} {t : TA} (h : t σ H fun vs H1 => sp (vs ++ []) H1 Q E) : tCall sp [] E t σ H Q := h
theorem e_test {t : TE} {R : Bool → Hp → Prop} (h : t σ H fun x H' => ∃ k, x = .bl k ∧ R k H') : tTest t σ H R := h
theorem e_tB {t : TE} {R : Bool → Hp → Prop} (h : t σ H fun x H' => ∃ k, x = .bl k ∧ R k H') : tB t σ H R := h
theorem e_and {t u : TT} {R : Bool → Hp → Prop} (h : t σ H fun c H1 => if c = true then u σ H1 R else R false H1) : tAnd t u σ H R := h
theorem e_or {t u : TT} {R : Bool → Hp → Prop} (h : t σ H fun c H1 => if c = true then R true H1 else u σ H1 R) : tOr t u σ H R := h
theorem e_not {t : TT} {R : Bool → Hp → Prop} (h : t σ H fun c H1 => R (!c) H1) : tNot t σ H R := h
theorem e_set {te : TE} {i : Nat} (h : te σ H fun x H1 => u D (σ.set i (some x)) H1) : tSeq (tAsg te (gName i)) u D σ H := h
theorem e_ret {te : TE} (h : te σ H D.rt) : tSeq (tRet te) u D σ H := h
theorem e_drop {te : TE} (h : te σ H fun _ H1 => u D σ H1) : tSeq (tDrop te) u D σ H := h
theorem e_if {c : TT} (h : c σ H fun b H1 => if b = true then t { D with nx := u D } σ H1 else t' { D with nx := u D } σ H1) : tSeq (tIfS c t t') u D σ H := h
theorem e_lst {t : TA} (h : t σ H fun xs H1 => xs.length ≤ sizeLine ∧ ∀ p, H1 p = none → Q (.ref p) (upd H1 p (.lst xs))) : L2.tLst t σ H Q := h
theorem e_tup {t : TA} (h : t σ H fun xs H1 => xs.length ≤ sizeLine ∧ ∀ p, H1 p = none → Q (.ref p) (upd H1 p (.tup xs))) : L2.tTup t σ H Q := h
theorem e_bm {T : String} {r : V → List V → Hp → VK → Prop} {to : TE} {t : TA} (h : to σ H fun x H1 => tyV K T x H1 ∧ t σ H1 fun xs H2 => r x xs H2 Q) : tBM K T r to t σ H Q := h
theorem e_rng1 {t : TA} {R : It → Hp → Prop} (h : t σ H fun vs H1 => ∃ j : Int, vs = [.int j] ∧ -(2 ^ 62) ≤ j ∧ j < 2 ^ 62 ∧ R (Itr 0 j.toNat) H1) : iRng1 t σ H R := h
/-- a call that changes nothing, its arguments come to -/
theorem v_callP {A : TyA α} {f : α → Option β} {a : α} {vs : List V} {k : β → Option ρ} {E : XK} (hG : Okc G S) (W : Wd S (O ++ F) H) (hm : (f a).bind k = some out) (ra : ∀ S, Okc G S → A.rep a vs S)
    (next : ∀ b v S H, Okc (U.f b v :: G) S → Wd S (O ++ F) H → k b = some out → Q v H) : spP A f U (vs ++ []) H Q E := by
  obtain ⟨b, h1, h2⟩ := bind_some hm
  exact ⟨S, O ++ F, a, b, by rw [List.append_nil]; exact ra S hG, W, h1, fun v S' H' s w q => next b v S' H' ⟨q, hG.mono s⟩ w h2⟩
/-- a call that changes an owned object -/
theorem v_callO {n : Nat} {OT : OTy γ} {A : TyA α} {f : γ → α → Option (β × γ)} {g : γ} {a : α} {p : Addr} {c : List Cell} {vs : List V} {k : β × γ → Option ρ} {E : XK} (hG : Okc G S) (W : Wd S (O ++ F) H) (hm : (f g a).bind k = some out)
    (o j : Nat) (ho : O[o]? = some c) (hf : G[j]? = some (OT.f g p c)) (hn : (vs ++ [])[n]? = some (.ref p)) (ra : ∀ S, Okc G S → A.rep a ((vs ++ []).eraseIdx n) S)
    (next : ∀ r v c' S H, Okc (U.f r.1 v :: OT.f r.2 p c' :: G) S → Wd S (O.set o c' ++ F) H → k r = some out → Q v H) : spO n OT A f U (vs ++ []) H Q E := by
  obtain ⟨b, h1, h2⟩ := bind_some hm
  exact ⟨S, O.eraseIdx o ++ F, p, c, g, a, b, hn, ra S hG, Okc.at j hf hG, W.perm (perm_front ho), h1, fun v c' S' H' s w q1 q2 => next b v c' S' H' ⟨q2, q1, hG.mono s⟩ (w.perm (perm_set ho F)) h2⟩
theorem ra_nil : TyA.nil.rep () [] S := rfl
theorem ra_one {a : α} {v : V} (h : T.rep a v S) : (TyA.one T).rep a [v] S := ⟨v, rfl, h⟩
theorem ra_c {A : TyA β} {a : α} {b : β} {v : V} {vs : List V} (h : T.rep a v S) (r : A.rep b vs S) : (TyA.c T A).rep (a, b) (v :: vs) S := ⟨v, vs, rfl, h, r⟩
/-! ### pop -/
def x_popAt (xs : List α) (i : Int) : Option (α × List α) := if -(2 ^ 63) ≤ i ∧ i < 2 ^ 63 then (seqIndex? i xs.length).bind fun n => (xs[n]?).bind fun y => some (y, xs.eraseIdx n) else none
theorem v_popAt {xs : List α} {i : Int} {v : V} {p : Addr} {c : List Cell} {k : α × List α → Option ρ} (hG : Okc G S) (W : Wd S (O ++ F) H) (hm : (x_popAt xs i).bind k = some out) (o j l : Nat) (ho : O[o]? = some c) (hf : G[j]? = some ((oL T).f xs p c)) (hv : G[l]? = some (tInt.f i v))
    (next : ∀ r v c' S H, Okc (T.f r.1 v :: (oL T).f r.2 p c' :: G) S → Wd S (O.set o c' ++ F) H → k r = some out → Q v H) : rPopAt (.ref p) [v] H Q := by
  obtain ⟨r, h1, hm⟩ := bind_some hm
  unfold x_popAt at h1
  split at h1
  case isFalse => cases h1
  case isTrue hz =>
  obtain ⟨n, h2, h3⟩ := bind_some h1
  obtain ⟨y, h4, h5⟩ := bind_some h3
  cases h5
  obtain ⟨vs, e0, r0⟩ := (Okc.at j hf hG : (oL T).rep xs p c S)
  subst e0
  obtain ⟨w, h6, h7⟩ := r0.get h4
  obtain rfl : v = .int i := Okc.at l hv hG
  exact ⟨p, vs, i, n, w, rfl, rfl, W.at1 ho, hz.1, hz.2, by rw [← r0.length]; exact h2, h6, next (y, xs.eraseIdx n) w _ S _ ⟨h7, ⟨_, rfl, r0.eraseIdx n⟩, hG⟩ (W.put o ho _) hm⟩
theorem ty_list {p : Addr} {xs : List α} {c : List Cell} (hG : Okc G S) (W : Wd S (O ++ F) H) (o j : Nat) (ho : O[o]? = some c) (hf : G[j]? = some ((oL T).f xs p c)) : tyV K "list" (.ref p) H := by
  obtain ⟨vs, e0, r0⟩ := (Okc.at j hf hG : (oL T).rep xs p c S)
  subst e0
  exact .inl ⟨rfl, vs, SqL.of (W.at1 ho)⟩
/-- append of a value that was come to -/
theorem v_app {xs : List α} {y : α} {v : V} {p : Addr} {c : List Cell} {k : List α → Option ρ} (hG : Okc G S) (W : Wd S (O ++ F) H) (hm : (x_app xs y).bind k = some out) (o j l : Nat) (ho : O[o]? = some c) (hf : G[j]? = some ((oL T).f xs p c)) (hv : G[l]? = some (T.f y v))
    (next : ∀ c' S H, Okc ((oL T).f (xs ++ [y]) p c' :: G) S → Wd S (O.set o c' ++ F) H → k (xs ++ [y]) = some out → Q .non H) : rAppend (.ref p) [v] H Q := by
  obtain ⟨z, h2, hm⟩ := bind_some hm
  obtain ⟨hz, rfl⟩ := of_if h2
  obtain ⟨vs, e0, r0⟩ := (Okc.at j hf hG : (oL T).rep xs p c S)
  subst e0
  have hy : T.rep y v S := Okc.at l hv hG
  exact ⟨p, vs, v, rfl, rfl, W.at1 ho, by rw [← r0.length]; exact hz, next _ S _ ⟨⟨_, rfl, r0.append (Rl.one hy)⟩, hG⟩ (W.put o ho _) hm⟩
/-! ### a comprehension whose element changes an owned object -/
def mapE (f : γ → α → Option (β × γ)) : γ → List α → Option (List β × γ)
  | g, [] => some ([], g)
  | g, x :: xs => (f g x).bind fun r => (mapE f r.2 xs).bind fun q => some (r.1 :: q.1, q.2)
def x_mapE (f : γ → α → Option (β × γ)) (g : γ) (xs : List α) : Option (List β × γ) := if xs.length ≤ sizeLine then mapE f g xs else none
theorem c_lcE {ω : Type} {OT : OTy γ} {g : TG} {te : TE} {wi : TI} {vs : List Nat} {σ' : ω → St} {Fx : α → ω → List Fact} {mi : Option (List α)} {me : γ → α → Option (β × γ)} {gv : γ} {p : Addr} {c : List Cell} {k : List β × γ → Option ρ}
    (hG : Okc G S) (W : Wd S (O ++ F) H) (hm : (mi.bind fun xs => (x_mapE me gv xs).bind k) = some out) (o j : Nat) (ho : O[o]? = some c) (hf : G[j]? = some (OT.f gv p c))
    (hi : SimI G O [] wi σ mi T) (tg : TgOk g (wipe σ vs) T σ' Fx) (hw : ∀ w, wipe (σ' w) vs = wipe σ vs)
    (he : ∀ a w gv c S H F r, me gv a = some r → Okc (Fx a w ++ (OT.f gv p c :: fS S :: G)) S → Wd S (O.set o c ++ F) H → ∀ Q : VK, (∀ v c' S' H', Same S S' → Wd S' (O.set o c' ++ F) H' → OT.rep r.2 p c' S' → U.rep r.1 v S' → Q v H') → te (σ' w) H Q)
    (next : ∀ r q d c' S H, Okc ((oL U).f r.1 q d :: OT.f r.2 p c' :: G) S → Wd S ((d :: O.set o c') ++ F) H → k r = some out → Q (.ref q) H) : tLc wi g tYes te vs σ H Q := by
  obtain ⟨xs, h1, hm⟩ := bind_some hm
  obtain ⟨r, h2, hm⟩ := bind_some hm
  unfold x_mapE at h2
  split at h2
  case isFalse => cases h2
  case isTrue hz =>
  refine hi S H F xs hG W h1 _ fun J S1 H1 s1 w1 jok D hD => ?_
  have g0 : OT.rep gv p c S1 := OT.mono s1 (Okc.at j hf hG)
  have oset : O.set o c = O := by
    obtain ⟨hi, e⟩ := List.getElem?_eq_some_iff.mp ho
    rw [← e]
    exact List.set_getElem_self hi
  refine ⟨fun i m H' => m = xs.length - i ∧ i ≤ xs.length ∧ ∃ S' acc us gc cc rest, Same S1 S' ∧ Wd S' ([(D, .lst us)] :: (O.set o cc ++ F)) H' ∧ Rl U S' acc us ∧ OT.rep gc p cc S' ∧ acc.length ≤ i ∧ mapE me gc (xs.drop i) = some rest ∧ r.1 = acc ++ rest.1 ∧ r.2 = rest.2,
    ⟨xs.length, by simp, Nat.zero_le _, S1, [], [], gv, c, r, Same.refl _, by rw [oset]; exact w1.newO hD, .nil, g0, Nat.le_refl _, by simpa using h2, rfl, rfl⟩, ?_⟩
  rintro i m H' ⟨rfl, hi', S', acc, us, gc, cc, rest, s', w', ra, rg, hl, hc, e1, e2⟩
  have jk := jok S' H' s' (w'.sub (List.nil_sublist _))
  by_cases hlt : i < xs.length
  · have hd : xs.drop i = xs[i] :: xs.drop (i + 1) := (List.drop_eq_getElem_cons hlt)
    rw [hd] at hc
    obtain ⟨go, yl⟩ := jk.1 i xs[i] (by simp [hlt])
    have hz2 : us.length < sizeLine := by rw [← ra.length]; omega
    refine .inr ⟨go, fun H2 => ∃ S2 acc2 us2 g2 c2 rest2, Same S1 S2 ∧ Wd S2 ([(D, .lst us2)] :: (O.set o c2 ++ F)) H2 ∧ Rl U S2 acc2 us2 ∧ OT.rep g2 p c2 S2 ∧ acc2.length ≤ i + 1 ∧ mapE me g2 (xs.drop (i + 1)) = some rest2 ∧ r.1 = acc2 ++ rest2.1 ∧ r.2 = rest2.2,
      fun H2 q => ⟨xs.length - (i + 1), by omega, rfl, hlt, q⟩, fun x H2 y => ?_⟩
    obtain ⟨S2, s2, rx, wk⟩ := yl x H2 y
    have w2 := wk _ w'
    refine tg xs[i] x S2 H2 _ rx w2.st fun wt ok => ⟨hw wt, ?_⟩
    obtain ⟨q1, hq1, hc⟩ := bind_some hc
    obtain ⟨q2, hq2, hc⟩ := bind_some hc
    cases hc
    have hG2 : Okc (Fx xs[i] wt ++ (OT.f gc p cc :: fS S2 :: G)) S2 := ok.append ⟨OT.mono s2 rg, Same.refl _, hG.mono (s1.trans (s'.trans s2))⟩
    unfold tYes
    dsimp only
    rw [if_pos rfl]
    refine he xs[i] wt gc cc S2 H2 ([(D, .lst us)] :: F) q1 hq1 hG2 (w2.perm (perm_mid _ _ _)) _ fun v c4 S4 H4 s4 w4 rg4 rv => ?_
    have w5 := w4.perm (perm_mid _ _ _).symm
    exact ⟨us, w5.hd1, hz2, S4, acc ++ [q1.1], us ++ [v], q1.2, c4, q2, s'.trans (s2.trans s4), w5.put1 _, (ra.mono (s2.trans s4)).append (Rl.one rv), rg4, by simp; omega, hq2, by rw [e1]; simp, e2⟩
  · have e : i = xs.length := by omega
    subst e
    rw [List.drop_length] at hc
    cases hc
    rw [List.append_nil] at e1
    have e1 : r.1 = acc := e1
    have e2 : r.2 = gc := e2
    refine .inl ⟨jk.2, next r D [(D, .lst us)] cc S' H' ⟨⟨us, rfl, by rw [e1]; exact ra⟩, by show OT.rep r.2 p cc S'; rw [e2]; exact rg, hG.mono (s1.trans s')⟩ w' hm⟩
/-! ### a pair taken apart -/
theorem k_unpair {te : TE} {i j : Nat} {ma : Option (α × β)} {k : α × β → Option ρ} (hG : Okc G S) (W : Wd S (O ++ F) H) (hm : ma.bind k = some out) (hs : Sim G O te σ ma (tP T U))
    (next : ∀ a v w S H, Okc (T.f a.1 v :: U.f a.2 w :: G) S → Wd S (O ++ F) H → k a = some out → u D ((σ.set i (some v)).set j (some w)) H) : tSeq (tAsg te (gTup K 2 (gCons (gName i) (gCons (gName j) gNil)))) u D σ H := by
  obtain ⟨a, h1, h2⟩ := bind_some hm
  refine hs S H F a hG W h1 _ fun v S' H' s w q => ?_
  obtain ⟨p, y, z, rfl, g, r1, r2⟩ := q
  exact ⟨p, [y, z], rfl, SqT.of (w.st _ _ g), rfl, y, [z], rfl, z, [], rfl, rfl, next a y z S' H' ⟨r1, r2, hG.mono s⟩ w h2⟩
/-! ### index -/
def x_index (xs : List Int) (y : Int) : Option Int := Option.map (fun n : Nat => (n : Int)) (List.findIdx? (fun x => decide (x = y)) xs)
theorem flat_ints : ∀ xs : List Int, (xs.map V.int).all flatV = true
  | [] => rfl
  | _ :: xs => by rw [List.map_cons, List.all_cons, flat_ints xs]; rfl
theorem sim_index {TL : Ty (List Int)} [Lk O (oL tInt) TL] {ta tb : TE} {ma : Option (List Int)} {mb : Option Int} (ha : Sim G O ta σ ma TL) (hb : Sim G O tb σ mb tInt) : Sim G O (tBM K "list" (rIndex K) ta (tCons tb tNil)) σ (ma.bind fun a => mb.bind fun b => x_index a b) tInt := fun S H F r hG w hm Q k => by
  obtain ⟨a, h1, hm⟩ := bind_some hm
  obtain ⟨b, h2, hm⟩ := bind_some hm
  obtain ⟨n, h3, h4⟩ := Option.map_eq_some_iff.mp hm
  subst h4
  refine ha S H F a hG w h1 _ fun x S1 H1 s1 w1 q1 => ?_
  obtain ⟨p, vs, rfl, r, g⟩ := lkL (O := O) (T := tInt) q1
  have ev := rl_int r
  subst ev
  refine ⟨.inl ⟨rfl, _, SqL.of (g H1 F w1)⟩, ?_⟩
  refine hb S1 H1 F b (hG.mono s1) w1 h2 _ fun y S2 H2 s2 w2 q2 => ?_
  obtain rfl : y = .int b := q2
  obtain ⟨hn, e1, e2⟩ := List.findIdx?_eq_some_iff_getElem.mp h3
  have e1 : a[n] = b := of_decide_eq_true e1
  have g2 : H2 p = some (.lst (a.map V.int)) := by
    obtain ⟨p', vs', e, r', g'⟩ := lkL (O := O) (T := tInt) (TL.mono s2 q1)
    cases e
    rw [g' H2 F w2, rl_int r']
  refine ⟨p, a.map V.int, .int b, n, .int b, rfl, rfl, SqL.of g2, rfl, flat_ints a, by simp [hn, e1], by show (b == b) = true; simp, fun m z' hm' hz => ?_, k _ S2 H2 (s1.trans s2) w2 rfl⟩
  rw [List.getElem?_map] at hz
  have hml : m < a.length := Nat.lt_trans hm' hn
  rw [List.getElem?_eq_getElem hml] at hz
  cases hz
  have := e2 m hm'
  show (a[m] == b) = false
  rw [Bool.beq_eq_decide_eq]
  simpa using this
/-! ### dicts with int keys -/
def lookA {κ : Type} [DecidableEq κ] (d : List (κ × β)) (k : κ) : Option β := (d.find? fun p => decide (p.1 = k)).map (·.2)
def putA {κ : Type} [DecidableEq κ] (d : List (κ × β)) (k : κ) (y : β) : List (κ × β) := if (d.any fun p => decide (p.1 = k)) = true then d.map (fun p => if p.1 = k then (p.1, y) else p) else d ++ [(k, y)]
def x_putA {κ : Type} [DecidableEq κ] (d : List (κ × β)) (k : κ) (y : β) : Option (List (κ × β)) := if d.length < sizeLine then some (putA d k y) else none
def RlD {κ κ' : Type} (e : κ → κ') (U : Ty β) (S : Hp) (d : List (κ × β)) (kvs : List (κ' × V)) : Prop := Paired (fun (x : κ × β) (kv : κ' × V) => kv.1 = e x.1 ∧ U.rep x.2 kv.2 S) d kvs
theorem RlD.mono {κ κ' : Type} {e : κ → κ'} {S S' : Hp} {d : List (κ × β)} {kvs : List (κ' × V)} (h : Same S S') (r : RlD e U S d kvs) : RlD e U S' d kvs := Paired.mapP r fun _ _ q => ⟨q.1, U.mono h q.2⟩
theorem RlD.look {κ κ' : Type} [DecidableEq κ] [DecidableEq κ'] {e : κ → κ'} (inj : ∀ a b, e a = e b → a = b) {S : Hp} {d : List (κ × β)} {kvs : List (κ' × V)} (r : RlD e U S d kvs) (k : κ) :
    match lookA d k with
    | none => valV kvs (e k) = none
    | some y => ∃ v, valV kvs (e k) = some v ∧ U.rep y v S := by
  unfold RlD at r
  induction r with
  | nil => rfl
  | @cons x kv d kvs h t ih =>
    unfold lookA
    rw [List.find?_cons]
    by_cases hk : x.1 = k
    · rw [decide_eq_true hk]
      exact ⟨kv.2, valV_pos (by rw [h.1, hk]), h.2⟩
    · rw [decide_eq_false hk, valV_neg (fun z => hk (inj _ _ (h.1.symm.trans z)))]
      exact ih
theorem RlD.any {κ κ' : Type} [DecidableEq κ] [DecidableEq κ'] {e : κ → κ'} (inj : ∀ a b, e a = e b → a = b) {S : Hp} {d : List (κ × β)} {kvs : List (κ' × V)} (r : RlD e U S d kvs) (k : κ) :
    (kvs.any fun kv => decide (kv.1 = e k)) = (d.any fun p => decide (p.1 = k)) := by
  unfold RlD at r
  induction r with
  | nil => rfl
  | @cons x kv d kvs h t ih =>
    rw [List.any_cons, List.any_cons, ih]
    congr 1
    by_cases hk : x.1 = k
    · rw [decide_eq_true hk, decide_eq_true (by rw [h.1, hk])]
    · rw [decide_eq_false hk, decide_eq_false (fun z => hk (inj _ _ (h.1.symm.trans z)))]
theorem RlD.app {κ κ' : Type} {e : κ → κ'} {S : Hp} {k : κ} {y : β} {v : V} (hy : U.rep y v S) {d : List (κ × β)} {kvs : List (κ' × V)} (r : RlD e U S d kvs) : RlD e U S (d ++ [(k, y)]) (kvs ++ [(e k, v)]) := by
  unfold RlD at r
  induction r with
  | nil => exact .cons ⟨rfl, hy⟩ .nil
  | cons h t ih => exact .cons h ih
theorem RlD.put {κ κ' : Type} [DecidableEq κ] [DecidableEq κ'] {e : κ → κ'} (inj : ∀ a b, e a = e b → a = b) {S : Hp} {d : List (κ × β)} {kvs : List (κ' × V)} (r : RlD e U S d kvs) (k : κ) {y : β} {v : V} (hy : U.rep y v S) :
    RlD e U S (putA d k y) (putK kvs (e k) v) := by
  unfold putA putK
  rw [r.any inj k]
  by_cases ha : (d.any fun p => decide (p.1 = k)) = true
  · rw [if_pos ha, if_pos ha]
    clear ha
    unfold RlD at r ⊢
    induction r with
    | nil => exact .nil
    | @cons x kv d kvs h t ih =>
      refine .cons ?_ ih
      dsimp only
      by_cases hk : x.1 = k
      · rw [if_pos hk, if_pos (by rw [h.1, hk])]
        exact ⟨h.1, hy⟩
      · rw [if_neg hk, if_neg (fun z => hk (inj _ _ (h.1.symm.trans z)))]
        exact h
  · rw [if_neg ha, if_neg ha]
    exact r.app hy
def oDI (U : Ty β) : OTy (List (Int × β)) := ⟨fun d p c S => ∃ kvs : List (Key × V), c = [(p, .dK kvs)] ∧ RlD (fun i : Int => (Sum.inl i : Key)) U S d kvs, fun h ⟨kvs, e, r⟩ => ⟨kvs, e, r.mono h⟩⟩
def tDI (U : Ty β) : Ty (List (Int × β)) := ⟨fun d v S => ∃ p, ∃ kvs : List (Key × V), v = .ref p ∧ S p = some (.dK kvs) ∧ RlD (fun i : Int => (Sum.inl i : Key)) U S d kvs, fun h ⟨p, kvs, e, g, r⟩ => ⟨p, kvs, e, h _ _ g, r.mono h⟩⟩
theorem frz_DI : Frz (oDI U) (tDI U) := fun g p c S ⟨kvs, e, r⟩ h => ⟨p, kvs, rfl, h _ _ (by rw [e]; exact List.mem_cons_self ..), r⟩
instance : Lk O (oDI U) (tDI U) := ⟨fun _ _ _ ⟨p, kvs, e, h, r⟩ => ⟨p, _, e, ⟨kvs, rfl, r⟩, fun _ _ w a o m => by
  obtain ⟨rfl, rfl⟩ : a = p ∧ o = .dK kvs := by simpa using m
  exact w.st _ _ h⟩⟩
theorem inl_inj : ∀ a b : Int, (Sum.inl a : Key) = Sum.inl b → a = b := fun a b h => Sum.inl.inj h
theorem sim_dgetI {TD : Ty (List (Int × β))} [Lk O (oDI U) TD] {td tk : TE} {md : Option (List (Int × β))} {mk : Option Int} (hd : Sim G O td σ md TD) (hk : Sim G O tk σ mk tInt) : Sim G O (tDGet td tk) σ (md.bind fun d => mk.bind fun k => lookA d k) U := fun S H F r hG w hm Q kk => by
  obtain ⟨d, h1, hm⟩ := bind_some hm
  obtain ⟨k, h2, hm⟩ := bind_some hm
  refine hd S H F d hG w h1 _ fun x S1 H1 s1 w1 q1 => ?_
  refine hk S1 H1 F k (hG.mono s1) w1 h2 _ fun y S2 H2 s2 w2 q2 => ?_
  obtain ⟨p, c, rfl, ⟨kvs, rfl, rr⟩, g⟩ := Lk.lk (O := O) _ _ _ (TD.mono s2 q1)
  have l := rr.look inl_inj k
  rw [hm] at l
  obtain ⟨v, h3, h4⟩ := l
  refine ⟨p, v, rfl, ?_, kk v S2 H2 (s1.trans s2) w2 h4⟩
  have q := DGet.k (k := Sum.inl k) (g H2 F w2 _ _ (List.mem_cons_self ..))
  rw [h3] at q
  rw [show y = .int k from q2]
  exact q
theorem sim_dinI {TD : Ty (List (Int × β))} [Lk O (oDI U) TD] {td tk : TE} {md : Option (List (Int × β))} {mk : Option Int} (hk : Sim G O tk σ mk tInt) (hd : Sim G O td σ md TD) : Sim G O (tDIn tk td) σ (mk.bind fun k => md.bind fun d => some (lookA d k).isSome) tBool := fun S H F r hG w hm Q kk => by
  obtain ⟨k, h2, hm⟩ := bind_some hm
  obtain ⟨d, h1, hm⟩ := bind_some hm
  cases hm
  refine hk S H F k hG w h2 _ fun y S1 H1 s1 w1 q1 => ?_
  refine hd S1 H1 F d (hG.mono s1) w1 h1 _ fun x S2 H2 s2 w2 q2 => ?_
  obtain ⟨p, c, rfl, ⟨kvs, rfl, rr⟩, g⟩ := Lk.lk (O := O) _ _ _ q2
  have l := rr.look inl_inj k
  have q := DGet.k (k := Sum.inl k) (g H2 F w2 _ _ (List.mem_cons_self ..))
  obtain rfl : y = .int k := q1
  refine ⟨p, _, rfl, q, ?_⟩
  have e : (valV kvs (Sum.inl k : Key)).isSome = (lookA d k).isSome := by
    cases hl : lookA d k with
    | none => rw [hl] at l; rw [show valV kvs (Sum.inl k : Key) = none from l]; rfl
    | some z => rw [hl] at l; obtain ⟨v, h3, _⟩ := l; rw [show valV kvs (Sum.inl k : Key) = some v from h3]; rfl
  rw [e]
  exact kk _ S2 H2 (s1.trans s2) w2 rfl
theorem k_dputI {tv tk : TE} {i : Nat} {p : Addr} {c : List Cell} {d : List (Int × β)} {mv : Option β} {mk : Option Int} {k : List (Int × β) → Option ρ} (hG : Okc G S) (W : Wd S (O ++ F) H) (hm : (mv.bind fun y => mk.bind fun n => (x_putA d n y).bind k) = some out)
    (o j : Nat) (hi : σ[i]? = some (some (.ref p))) (ho : O[o]? = some c) (hf : G[j]? = some ((oDI U).f d p c)) (hs : Sim G O tv σ mv U) (hx : Sim G O tk σ mk tInt)
    (next : ∀ d' c' S H, Okc ((oDI U).f d' p c' :: G) S → Wd S (O.set o c' ++ F) H → k d' = some out → u D σ H) : tSeq (sDPut (tVar i) tk tv) u D σ H := by
  obtain ⟨y, h1, hm⟩ := bind_some hm
  obtain ⟨n, h2, hm⟩ := bind_some hm
  obtain ⟨z, h3, hm⟩ := bind_some hm
  obtain ⟨hz, rfl⟩ := of_if h3
  obtain ⟨kvs, e0, r0⟩ := (Okc.at j hf hG : (oDI U).rep d p c S)
  subst e0
  refine hs S H F y hG W h1 _ fun v S1 H1 s1 w1 q1 => ⟨.ref p, hi, ?_⟩
  refine hx S1 H1 F n (hG.mono s1) w1 h2 _ fun x S2 H2 s2 w2 q2 => ?_
  obtain rfl : x = .int n := q2
  have r := r0.mono (s1.trans s2)
  have hl : kvs.length < sizeLine := by rw [← Paired.length r]; exact hz
  exact ⟨p, _, rfl, DPut.k (k := Sum.inl n) (w2.at1 ho) hl, next _ _ S2 _ ⟨⟨_, rfl, r.put inl_inj n (U.mono s2 q1)⟩, hG.mono (s1.trans s2)⟩ (w2.put o ho _) hm⟩
theorem simF_newDI : SimF G O tDNewK σ (some []) (oDI U) := fun S H F r hG w hm Q k => by
  cases hm
  intro p hp
  exact k p _ S _ (Same.refl _) (w.newO hp) ⟨[], rfl, .nil⟩
theorem simF_dispI1 {i : Int} {tv : TE} {mv : Option β} (hv : Sim G O tv σ mv U) : SimF G O (tDisp [(tC (.int i), tv)]) σ (mv.bind fun y => some [(i, y)]) (oDI U) := fun S H F r hG w hm Q k => by
  obtain ⟨y, h1, hm⟩ := bind_some hm
  cases hm
  intro p hp
  refine hv S _ ([(p, .dK [])] :: F) y hG ((w.newO hp).perm (perm_mid _ _ _)) h1 _ fun v S' H' s w' q => ?_
  have w2 := w'.perm (perm_mid _ _ _).symm
  exact ⟨w2.hd1, [((Sum.inl i : Key), v)], rfl, (by show 1 ≤ 15; decide), k p _ S' _ s (w2.put1 _) ⟨_, rfl, .cons ⟨rfl, q⟩ .nil⟩⟩
/-! ### dicts keyed by tuples of ints -/
def kT (l : List Int) : List Key := l.map Sum.inl
theorem kT_inj : ∀ a b : List Int, kT a = kT b → a = b := fun a b h => List.map_inj_right (fun x y e => Sum.inl.inj e) |>.mp h
theorem kT_kV (l : List Int) : (kT l).map kV = l.map V.int := by unfold kT; rw [List.map_map]; rfl
def oDT (U : Ty β) : OTy (List (List Int × β)) := ⟨fun d p c S => ∃ kvs : List (List Key × V), c = [(p, .dT kvs)] ∧ RlD kT U S d kvs, fun h ⟨kvs, e, r⟩ => ⟨kvs, e, r.mono h⟩⟩
def tDT (U : Ty β) : Ty (List (List Int × β)) := ⟨fun d v S => ∃ p, ∃ kvs : List (List Key × V), v = .ref p ∧ S p = some (.dT kvs) ∧ RlD kT U S d kvs, fun h ⟨p, kvs, e, g, r⟩ => ⟨p, kvs, e, h _ _ g, r.mono h⟩⟩
theorem frz_DT : Frz (oDT U) (tDT U) := fun g p c S ⟨kvs, e, r⟩ h => ⟨p, kvs, rfl, h _ _ (by rw [e]; exact List.mem_cons_self ..), r⟩
instance : Lk O (oDT U) (tDT U) := ⟨fun _ _ _ ⟨p, kvs, e, h, r⟩ => ⟨p, _, e, ⟨kvs, rfl, r⟩, fun _ _ w a o m => by
  obtain ⟨rfl, rfl⟩ : a = p ∧ o = .dT kvs := by simpa using m
  exact w.st _ _ h⟩⟩
theorem simF_newDT : SimF G O tDNewT σ (some []) (oDT U) := fun S H F r hG w hm Q k => by
  cases hm
  intro p hp
  exact k p _ S _ (Same.refl _) (w.newO hp) ⟨[], rfl, .nil⟩
theorem sim_dgetT {TD : Ty (List (List Int × β))} [Lk O (oDT U) TD] {td tk : TE} {md : Option (List (List Int × β))} {mk : Option (List Int)} (hd : Sim G O td σ md TD) (hk : Sim G O tk σ mk (tT tInt)) : Sim G O (tDGet td tk) σ (md.bind fun d => mk.bind fun k => lookA d k) U := fun S H F r hG w hm Q kk => by
  obtain ⟨d, h1, hm⟩ := bind_some hm
  obtain ⟨k, h2, hm⟩ := bind_some hm
  refine hd S H F d hG w h1 _ fun x S1 H1 s1 w1 q1 => ?_
  refine hk S1 H1 F k (hG.mono s1) w1 h2 _ fun y S2 H2 s2 w2 q2 => ?_
  obtain ⟨p, c, rfl, ⟨kvs, rfl, rr⟩, g⟩ := Lk.lk (O := O) _ _ _ (TD.mono s2 q1)
  have l := rr.look kT_inj k
  rw [hm] at l
  obtain ⟨v, h3, h4⟩ := l
  obtain ⟨b, vs, rfl, gb, rb⟩ := q2
  refine ⟨p, v, rfl, ?_, kk v S2 H2 (s1.trans s2) w2 h4⟩
  have q := DGet.t (k := kT k) (g H2 F w2 _ _ (List.mem_cons_self ..)) (b := b) (by rw [w2.st _ _ gb, kT_kV, rl_int rb])
  rw [h3] at q
  exact q
theorem sim_dinT {TD : Ty (List (List Int × β))} [Lk O (oDT U) TD] {td tk : TE} {md : Option (List (List Int × β))} {mk : Option (List Int)} (hk : Sim G O tk σ mk (tT tInt)) (hd : Sim G O td σ md TD) : Sim G O (tDIn tk td) σ (mk.bind fun k => md.bind fun d => some (lookA d k).isSome) tBool := fun S H F r hG w hm Q kk => by
  obtain ⟨k, h2, hm⟩ := bind_some hm
  obtain ⟨d, h1, hm⟩ := bind_some hm
  cases hm
  refine hk S H F k hG w h2 _ fun y S1 H1 s1 w1 q1 => ?_
  refine hd S1 H1 F d (hG.mono s1) w1 h1 _ fun x S2 H2 s2 w2 q2 => ?_
  obtain ⟨p, c, rfl, ⟨kvs, rfl, rr⟩, g⟩ := Lk.lk (O := O) _ _ _ q2
  obtain ⟨b, vs, rfl, gb, rb⟩ := q1
  have l := rr.look kT_inj k
  have q := DGet.t (k := kT k) (g H2 F w2 _ _ (List.mem_cons_self ..)) (b := b) (by rw [w2.st _ _ (s2 _ _ gb), kT_kV, rl_int rb])
  refine ⟨p, _, rfl, q, ?_⟩
  have e : (valV kvs (kT k)).isSome = (lookA d k).isSome := by
    cases hl : lookA d k with
    | none => rw [hl] at l; rw [show valV kvs (kT k) = none from l]; rfl
    | some z => rw [hl] at l; obtain ⟨v, h3, _⟩ := l; rw [show valV kvs (kT k) = some v from h3]; rfl
  rw [e]
  exact kk _ S2 H2 (s1.trans s2) w2 rfl
theorem k_dputT {tv tk : TE} {i : Nat} {p : Addr} {c : List Cell} {d : List (List Int × β)} {mv : Option β} {mk : Option (List Int)} {k : List (List Int × β) → Option ρ} (hG : Okc G S) (W : Wd S (O ++ F) H) (hm : (mv.bind fun y => mk.bind fun n => (x_putA d n y).bind k) = some out)
    (o j : Nat) (hi : σ[i]? = some (some (.ref p))) (ho : O[o]? = some c) (hf : G[j]? = some ((oDT U).f d p c)) (hs : Sim G O tv σ mv U) (hx : Sim G O tk σ mk (tT tInt))
    (next : ∀ d' c' S H, Okc ((oDT U).f d' p c' :: G) S → Wd S (O.set o c' ++ F) H → k d' = some out → u D σ H) : tSeq (sDPut (tVar i) tk tv) u D σ H := by
  obtain ⟨y, h1, hm⟩ := bind_some hm
  obtain ⟨n, h2, hm⟩ := bind_some hm
  obtain ⟨z, h3, hm⟩ := bind_some hm
  obtain ⟨hz, rfl⟩ := of_if h3
  obtain ⟨kvs, e0, r0⟩ := (Okc.at j hf hG : (oDT U).rep d p c S)
  subst e0
  refine hs S H F y hG W h1 _ fun v S1 H1 s1 w1 q1 => ⟨.ref p, hi, ?_⟩
  refine hx S1 H1 F n (hG.mono s1) w1 h2 _ fun x S2 H2 s2 w2 q2 => ?_
  obtain ⟨b, vs, rfl, gb, rb⟩ := q2
  have r := r0.mono (s1.trans s2)
  have hl : kvs.length < sizeLine := by rw [← Paired.length r]; exact hz
  exact ⟨p, _, rfl, DPut.t (k := kT n) (w2.at1 ho) (b := b) (by rw [w2.st _ _ gb, kT_kV, rl_int rb]) hl, next _ _ S2 _ ⟨⟨_, rfl, r.put kT_inj n (U.mono s2 q1)⟩, hG.mono (s1.trans s2)⟩ (w2.put o ho _) hm⟩
end
end HF

set_option Elab.async false
set_option linter.all false
set_option maxRecDepth 100000
set_option maxHeartbeats 2000000
/-! Mini7: small ends of statements, methods, houses. -/
namespace HF
open PySem PySem.Spec L2
open PyProof.Rows hiding St
def pickE : Ow → List Nat → Option Ow
  | _, [] => some []
  | O, i :: r => (O[i]?).bind fun c => (pickE (O.eraseIdx i) r).bind fun q => some (c :: q)
theorem pickE_perm : ∀ {is : List Nat} {O O' : Ow}, pickE O is = some O' → ∃ rest, O.Perm (O' ++ rest)
  | [], O, O', h => by
    cases h
    exact ⟨O, List.Perm.refl _⟩
  | i :: r, O, O', h => by
    obtain ⟨c, h1, h2⟩ := bind_some h
    obtain ⟨q, h3, h4⟩ := bind_some h2
    cases h4
    obtain ⟨rest, h5⟩ := pickE_perm h3
    exact ⟨rest, (perm_erase h1).trans (h5.cons c)⟩
theorem Wd.pick {S H : Hp} {O O' F : Ow} (W : Wd S (O ++ F) H) (is : List Nat) (h : pickE O is = some O') : Wd S (O' ++ F) H := by
  obtain ⟨rest, p⟩ := pickE_perm h
  have q := W.perm ((p.append_right F).trans (List.Perm.of_eq (List.append_assoc _ _ _)))
  exact q.sub ((List.Sublist.refl _).append (List.sublist_append_right _ _))
section
variable {D : Ends} {σ : St} {H : Hp} {u : TS} {te : TE} {Q : VK}
theorem x_next {N : St → Hp → Prop} (h : N σ H) : tNext { D with nx := N } σ H := h
theorem x_break (h : D.bk σ H) : tSeq tBreak u D σ H := h
theorem x_cont (h : D.ct σ H) : tSeq tCont u D σ H := h
theorem x_pass (h : u D σ H) : tSeq tNext u D σ H := h
theorem x_retN (h : D.rt .non H) : tSeq tRetN u D σ H := h
end
theorem hu64 {A : Around} {k : Nat} (hr : Room k A) : A.units + 64 < cLine := hr.units
theorem hu65 {A : Around} {k : Nat} (hr : Room k A) : A.units + 65 < cLine := by have := hr.un; omega
/-! ### methods -/
structure Mtd (CX : CXT) (P : Program) (w : World) (K : PySem.W.Frag) (mg : Str → Option Value) (base : Heap) (k : Nat) (C : Addr) (m : Str) (sp : Sp) : Prop where
  ex : ∃ (f : Addr) (fd : FuncData) (ps : List Str), Cls K C ∧ Meth K C m f ∧ FnOk P w K mg base CX k f fd ps sp ∧ Binds K fd ps []
structure MDefAt (K : PySem.W.Frag) (C : Addr) (m qual : Str) (st : Stmt) : Prop where
  ex : ∃ (f : Addr) (fd : FuncData), FunD K m qual (defArgs st) (defBody st) (defScope st) [] [] f fd ∧ Cls K C ∧ Meth K C m f
section
variable {CX : CXT} {P : Program} {w : World} {K : PySem.W.Frag} {mg : Str → Option Value} {base : Heap}
theorem mtd_mk {C : Addr} {m qual : Str} {st : Stmt} {N ps : List Str} {k : Nat} {sp : Sp} (D : MDefAt K C m qual st) (S : FnScope N ps (defScope st)) (len : ∀ vs H Q E, sp vs H Q E → vs.length = ps.length)
    (hb : ∀ (kV doc pm : Value) (an : Option Addr) (cdv ct : Value) (us : List Value), us.length = ps.length → bindArgs (PySem.W.fnOf m qual (defArgs st) (defBody st) (defScope st) .none kV doc pm an cdv ct) ⟨us, []⟩ = pure (ps.zip us))
    (hbody : ∀ (f : Addr) (cdv : Value) (A : Around) (outer : List Env) (s : Shared) (H : Hp) (vs : List V) (Q : VK) (E : XK), Room k (A.deeper (envOfC qual (defScope st) s.heap.objs.size f cdv)) → sp vs H Q E →
      ∃ t, PSs (cxOf CX P w K mg base N qual (defScope st) f cdv A outer s H E) (defBody st) t ∧ t { nx := fun _ H' => Q .non H', rt := Q } (start N vs) H) : Mtd CX P w K mg base (k + 1) C m sp := by
  obtain ⟨f, fd, F, c, hm⟩ := D.ex
  exact ⟨f, fd, ps, c, hm, F.ok S len (fun cdv A outer s H vs Q E hr h => hbody f cdv A outer s H vs Q E hr h), F.bindsN hb⟩
end
section
variable {X : Cx} {CX : CXT} {k j : Nat} {C : Addr} {m : Str} {sp : Sp} {pos apos : Pos} {e o : Expr} {es : List Expr} {ta : TE} {t : TA} {E : XK}
theorem pe_mtd {pl : Sem Bool} (c : Mtd CX X.prog X.w X.K X.mg X.base k C m sp) (hr : Room j X.A) (hk : k ≤ j) (hx : Passes CX X E) (he : PE X o ta) (ha : PA X (e :: es) t)
    (hst : starEach (e :: es) X.env = (false, eval e X.env) :: starEach es X.env := by rfl) (hpl : (backTo pos (starEach es X.env)).any (·.1) = false := by rfl)
    (ht : eval (.Call (.Attribute o m apos) (e :: es) [] pos) X.env = (do
      let ov ← eval o X.env
      standAt apos.atName
      let (f, first) ← holding [ov] (getMethod ov m pl)
      callWith pos f first (backTo pos (starEach (e :: es) X.env)) (backToKw pos (keywordEach [] X.env))) := by rfl) :
    PE X (.Call (.Attribute o m apos) (e :: es) [] pos) (tMeth C m sp [] E ta t) := by
  obtain ⟨f, fd, ps, hc, hm, F, b⟩ := c.ex
  exact pe_meth (pl := pl) he hc hm F (hr.mono hk) b .nil hx ha hst hpl ht
theorem pe_mtd0 {pl : Sem Bool} (c : Mtd CX X.prog X.w X.K X.mg X.base k C m sp) (hr : Room j X.A) (hk : k ≤ j) (hx : Passes CX X E) (he : PE X o ta)
    (ht : eval (.Call (.Attribute o m apos) [] [] pos) X.env = (do
      let ov ← eval o X.env
      standAt apos.atName
      let (f, first) ← holding [ov] (getMethod ov m pl)
      callWith pos f first (backTo pos (starEach [] X.env)) (backToKw pos (keywordEach [] X.env))) := by rfl) :
    PE X (.Call (.Attribute o m apos) [] [] pos) (tMeth C m sp [] E ta tNil) := by
  obtain ⟨f, fd, ps, hc, hm, F, b⟩ := c.ex
  exact pe_meth0 (pl := pl) he hc hm F (hr.mono hk) b .nil hx ht
end
/-- o.m() -/
theorem sim_meth0 {α γ : Type} {G : List Fact} {O : Ow} {σ : St} {T : Ty α} {W : Ty γ} {C : Addr} {mn : Str} {f : α → Option γ} {to : TE} {mo : Option α} {E : XK} (hI : ∀ a v S, T.rep a v S → ∃ p dx fs, v = .ref p ∧ S p = some (.ins C dx fs) ∧ fs.lookup mn = none)
    (ho : Sim G O to σ mo T) : Sim G O (tMeth C mn (spP (TyA.one T) f W) [] E to tNil) σ (mo.bind fun o => f o) W := fun S H F r hG w hm Q k => by
  obtain ⟨o, h1, hm⟩ := bind_some hm
  refine ho S H F o hG w h1 _ fun x S1 H1 s1 w1 q1 => ?_
  obtain ⟨p, dx, fs, rfl, g, l⟩ := hI _ _ _ q1
  exact ⟨p, dx, fs, rfl, w1.st _ _ g, l, S1, O ++ F, o, r, ⟨_, rfl, q1⟩, w1, hm, fun v S3 H3 s3 w3 q3 => k v S3 H3 (s1.trans s3) w3 q3⟩
/-! ### a house -/
structure HouseD where
  belowM : List Int
  aboveM : List Int
  below : List (List Int)
  above : List (List Int)
  order : List Int
  count : Int
  hues : Int
  wires : List (Int × Int)
  direct : List (List Int)
def FldR {α : Type} (fs : List (Str × V)) (f : Str) (T : Ty α) (a : α) (S : Hp) : Prop := ∃ u, fs.lookup f = some u ∧ T.rep a u S
theorem FldR.mono {α : Type} {fs : List (Str × V)} {f : Str} {T : Ty α} {a : α} {S S' : Hp} (s : Same S S') (h : FldR fs f T a S) : FldR fs f T a S' := let ⟨u, e, r⟩ := h; ⟨u, e, T.mono s r⟩
structure HouseF (h : HouseD) (fs : List (Str × V)) (S : Hp) : Prop where
  belowM : FldR fs "_below_masks" (tL tInt) h.belowM S
  aboveM : FldR fs "_above_masks" (tL tInt) h.aboveM S
  below : FldR fs "_below" (tL (tL tInt)) h.below S
  above : FldR fs "_above" (tL (tL tInt)) h.above S
  order : FldR fs "_order" (tL tInt) h.order S
  count : FldR fs "count" tInt h.count S
  hues : FldR fs "hues" tInt h.hues S
  wires : FldR fs "wires" (tT (tP tInt tInt)) h.wires S
  direct : FldR fs "_direct" (tL (tL tInt)) h.direct S
  no : ∀ m : Str, m ≠ "_below_masks" → m ≠ "_above_masks" → m ≠ "_below" → m ≠ "_above" → m ≠ "_order" → m ≠ "count" → m ≠ "hues" → m ≠ "wires" → m ≠ "_direct" → fs.lookup m = none
def tHouse (C : Addr) : Ty HouseD := ⟨fun h v S => ∃ p dx fs, v = .ref p ∧ S p = some (.ins C dx fs) ∧ HouseF h fs S, fun s ⟨p, dx, fs, e, g, r⟩ =>
  ⟨p, dx, fs, e, s _ _ g, r.belowM.mono s, r.aboveM.mono s, r.below.mono s, r.above.mono s, r.order.mono s, r.count.mono s, r.hues.mono s, r.wires.mono s, r.direct.mono s, r.no⟩⟩
section
variable {α : Type} {K : PySem.W.Frag} {C : Addr} {f : Str} {T : Ty α} {g : HouseD → α}
theorem house_fld (c : Cls K C) (n : NoAttr K C f) (h : ∀ a fs S, HouseF a fs S → FldR fs f T (g a) S) : ∀ a v S, (tHouse C).rep a v S → ∃ p C' dx fs u, v = .ref p ∧ S p = some (.ins C' dx fs) ∧ Cls K C' ∧ NoAttr K C' f ∧ fs.lookup f = some u ∧ T.rep (g a) u S :=
  fun a v S ⟨p, dx, fs, e, q, r⟩ => by
    obtain ⟨u, h1, h2⟩ := h a fs S r
    exact ⟨p, C, dx, fs, u, e, q, c, n, h1, h2⟩
theorem house_no (m : Str) (h : ([ "_below_masks", "_above_masks", "_below", "_above", "_order", "count", "hues", "wires", "_direct"] : List Str).contains m = false) : ∀ a v S, (tHouse C).rep a v S → ∃ p dx fs, v = .ref p ∧ S p = some (.ins C dx fs) ∧ fs.lookup m = none :=
  fun a v S ⟨p, dx, fs, e, q, r⟩ => by
    refine ⟨p, dx, fs, e, q, r.no m ?_ ?_ ?_ ?_ ?_ ?_ ?_ ?_ ?_⟩ <;> (intro z; subst z; revert h; decide +kernel)
end
end HF

set_option Elab.async false
set_option linter.all false
set_option maxRecDepth 100000
set_option maxHeartbeats 2000000
/-! Mini8: what the printer leans on besides. -/
namespace HF
open PySem PySem.Spec L2
open PyProof.Rows hiding St
section
variable {α β γ δ ρ : Type} {G : List Fact} {O O0 F : Ow} {σ : St} {T : Ty α} {U : Ty β} {K : PySem.W.Frag} {S H : Hp} {D : Ends} {out : ρ} {u t t' : TS} {Q : VK}
theorem k_join2 {ω : Type} {k : β → Option ρ} {body : (β → Option ρ) → Option ρ} {σJ : β → ω → St} {OJ : β → ω → Ow} {Fb : β → ω → List Fact} (hG : Okc G S) (hm : joinK k body = some out)
    (next : ∀ b w S H, k b = some out → Okc (Fb b w ++ G) S → Wd S (OJ b w ++ F) H → u D (σJ b w) H)
    (main : (∀ b w S H, k b = some out → Okc (Fb b w ++ G) S → Wd S (OJ b w ++ F) H → u D (σJ b w) H) → body k = some out → tSeq t u D σ H) : tSeq t u D σ H := main next hm
theorem sim_Kown {OT : OTy α} {p : Addr} {c : List Cell} {g : α} (o j : Nat) (ho : O[o]? = some c) (hf : G[j]? = some (OT.f g p c)) : Sim G O (tC (.ref p)) σ (some g) (tOwn O OT) := fun S H F r hG w hm Q k => by
  cases hm
  exact k _ S H (Same.refl _) w ⟨p, c, rfl, List.mem_of_getElem? ho, Okc.at j hf hG⟩
theorem spO_vs1_0 {vs : List V} {p : Addr} {a : Unit} (hn : vs[0]? = some (.ref p)) (hA : TyA.nil.rep a (vs.eraseIdx 0) S) : vs = [.ref p] := by
  cases vs with
  | nil => simp at hn
  | cons x r =>
    simp at hn
    subst hn
    have h : r = [] := hA
    rw [h]
theorem spO_vs2_0 {vs : List V} {p : Addr} {a : α} (hn : vs[0]? = some (.ref p)) (hA : (TyA.one T).rep a (vs.eraseIdx 0) S) : ∃ v, vs = [.ref p, v] ∧ T.rep a v S := by
  cases vs with
  | nil => simp at hn
  | cons x r =>
    simp at hn
    subst hn
    obtain ⟨v, e, h⟩ := hA
    have e : r = [v] := e
    exact ⟨v, by rw [e], h⟩
theorem spO_vs3_0 {vs : List V} {p : Addr} {a : α × β} (hn : vs[0]? = some (.ref p)) (hA : (TyA.c T (TyA.one U)).rep a (vs.eraseIdx 0) S) : ∃ v w, vs = [.ref p, v, w] ∧ T.rep a.1 v S ∧ U.rep a.2 w S := by
  cases vs with
  | nil => simp at hn
  | cons x r =>
    simp at hn
    subst hn
    obtain ⟨v, ws, e, h, w, e2, h2⟩ := hA
    have e : r = v :: ws := e
    exact ⟨v, w, by rw [e, e2], h, h2⟩
/-- any number of further arguments behind the owned one -/
theorem spO_vs0 {vs : List V} {p : Addr} {A : TyA α} {a : α} (hn : vs[0]? = some (.ref p)) (hA : A.rep a (vs.eraseIdx 0) S) : ∃ ws, vs = .ref p :: ws ∧ A.rep a ws S := by
  cases vs with
  | nil => simp at hn
  | cons x r =>
    simp at hn
    subst hn
    exact ⟨r, rfl, hA⟩
theorem spO_vs6_0 {α1 α2 α3 α4 α5 : Type} {T1 : Ty α1} {T2 : Ty α2} {T3 : Ty α3} {T4 : Ty α4} {T5 : Ty α5} {vs : List V} {p : Addr} {a : α1 × α2 × α3 × α4 × α5} (hn : vs[0]? = some (.ref p)) (hA : (TyA.c T1 (TyA.c T2 (TyA.c T3 (TyA.c T4 (TyA.one T5))))).rep a (vs.eraseIdx 0) S) :
    ∃ v1 v2 v3 v4 v5, vs = [.ref p, v1, v2, v3, v4, v5] ∧ T1.rep a.1 v1 S ∧ T2.rep a.2.1 v2 S ∧ T3.rep a.2.2.1 v3 S ∧ T4.rep a.2.2.2.1 v4 S ∧ T5.rep a.2.2.2.2 v5 S := by
  obtain ⟨ws, rfl, h⟩ := spO_vs0 hn hA
  obtain ⟨v1, _, rfl, h1, v2, _, rfl, h2, v3, _, rfl, h3, v4, _, rfl, h4, v5, rfl, h5⟩ := h
  exact ⟨v1, v2, v3, v4, v5, rfl, h1, h2, h3, h4, h5⟩
theorem spO_vs6_5 {α1 α2 α3 α4 α5 : Type} {T1 : Ty α1} {T2 : Ty α2} {T3 : Ty α3} {T4 : Ty α4} {T5 : Ty α5} {vs : List V} {p : Addr} {a : α1 × α2 × α3 × α4 × α5} (hn : vs[5]? = some (.ref p)) (hA : (TyA.c T1 (TyA.c T2 (TyA.c T3 (TyA.c T4 (TyA.one T5))))).rep a (vs.eraseIdx 5) S) :
    ∃ v1 v2 v3 v4 v5, vs = [v1, v2, v3, v4, v5, .ref p] ∧ T1.rep a.1 v1 S ∧ T2.rep a.2.1 v2 S ∧ T3.rep a.2.2.1 v3 S ∧ T4.rep a.2.2.2.1 v4 S ∧ T5.rep a.2.2.2.2 v5 S := by
  obtain ⟨v1, w1, e1, h1, v2, w2, e2, h2, v3, w3, e3, h3, v4, w4, e4, h4, v5, e5, h5⟩ := hA
  subst e2 e3 e4 e5
  refine ⟨v1, v2, v3, v4, v5, ?_, h1, h2, h3, h4, h5⟩
  have e1 : vs.eraseIdx 5 = [v1, v2, v3, v4, v5] := e1
  match vs, hn, e1 with
  | [a0, a1, a2, a3, a4, a5], hn, e1 => simp at hn e1; obtain ⟨rfl, rfl, rfl, rfl, rfl⟩ := e1; rw [hn]
  | [], hn, _ => simp at hn
  | [_], hn, _ => simp at hn
  | [_, _], hn, _ => simp at hn
  | [_, _, _], hn, _ => simp at hn
  | [_, _, _, _], hn, _ => simp at hn
  | [_, _, _, _, _], hn, _ => simp at hn
  | _ :: _ :: _ :: _ :: _ :: _ :: _ :: _, _, e1 => simp at e1
end
end HF

set_option Elab.async false
set_option linter.all false
set_option maxRecDepth 100000
set_option maxHeartbeats 2000000
/-! Mini9: defs that hand out an object of the caller's own. -/
namespace HF
open PySem PySem.Spec L2
open PyProof.Rows hiding St
section
variable {α β γ δ ρ : Type} {G : List Fact} {O O0 F : Ow} {σ : St} {T : Ty α} {U : Ty β} {K : PySem.W.Frag} {S H : Hp} {D : Ends} {u t t' : TS} {Q : VK}
def spF (A : TyA α) (m : α → Option β) (OT : OTy β) : Sp := fun vs H Q _ => ∃ (S : Hp) (F : Ow) (a : α) (r : β), A.rep a vs S ∧ Wd S F H ∧ m a = some r ∧ ∀ p c S' H', Same S S' → Wd S' ([c] ++ F) H' → OT.rep r p c S' → Q (.ref p) H'
theorem simF_call {OT : OTy β} {A : TyA α} {f : α → Option β} {ta : TA} {ma : Option α} {E : XK} (h : SimA G O ta σ ma A) : SimF G O (tCall (spF A f OT) [] E ta) σ (ma.bind fun a => f a) OT := fun S H F r hG w hm Q k => by
  obtain ⟨a, h1, hm⟩ := bind_some hm
  refine h S H F a hG w h1 _ fun vs S1 H1 s1 w1 q1 => ?_
  refine ⟨S1, O ++ F, a, r, ?_, w1, hm, fun p c S2 H2 s2 w2 q2 => k p c S2 H2 (s1.trans s2) w2 q2⟩
  rw [List.append_nil]
  exact q1
theorem k_retF {OT : OTy ρ} {te : TE} {m : Option ρ} {out : ρ} (hG : Okc G S) (W : Wd S (O ++ F) H) (hm : m = some out) (hs : SimF G O te σ m OT)
    (next : ∀ p c S H, Okc (OT.f out p c :: G) S → Wd S ((c :: O) ++ F) H → D.rt (.ref p) H) : tSeq (tRet te) u D σ H :=
  hs S H F out hG W hm _ fun p c S' H' s w q => next p c S' H' ⟨q, hG.mono s⟩ w
end
/-! the lemmas of the kit with the fragment named ahead (a comprehension's inner context) -/
section
variable {X : Cx} {K : PySem.W.Frag}
theorem ix_listK (hK : X.K = K := by rfl) : IxR X (rIxL K) := by subst hK; exact ix_list
theorem ix_tupK (hK : X.K = K := by rfl) : IxR X (rIxT K) := by subst hK; exact ix_tup
theorem op_inDK (hu : X.A.units + 65 < cLine) (hK : X.K = K := by rfl) : OpR X (compareOp .In) (rInD K) := by subst hK; exact op_inD hu
theorem op_notInDK (hu : X.A.units + 65 < cLine) (hK : X.K = K := by rfl) : OpR X (compareOp .NotIn) (rNotInD K) := by subst hK; exact op_notInD hu
theorem op_eqDK (hu : X.A.units + 64 < cLine) (hK : X.K = K := by rfl) : OpR X (compareOp .Eq) (rEqD K) := by subst hK; exact op_eqD hu
theorem op_neDK (hu : X.A.units + 64 < cLine) (hK : X.K = K := by rfl) : OpR X (compareOp .NotEq) (rNeD K) := by subst hK; exact op_neD hu
theorem pe_fldK {e : Expr} {ta : TE} {f : Str} {pos : Pos} (he : PE X e ta) (hb : attributeBase e f X.env (eval e X.env) = eval e X.env := by rfl) (hK : X.K = K := by rfl) : PE X (.Attribute e f pos) (tFld K ta f) := by subst hK; exact pe_fld he hb
theorem pi_listK {tg l : Expr} {tl : TE} (hl : PE X l tl) (hK : X.K = K := by rfl) : PI X tg l (iList K tl) := by subst hK; exact pi_list hl
theorem pi_tupK {tg l : Expr} {tl : TE} (hl : PE X l tl) (hK : X.K = K := by rfl) : PI X tg l (iTup K tl) := by subst hK; exact pi_tup hl
theorem pi_enumK {e : Expr} {ta : TA} {p pos tpos : Pos} {elts : List Expr} {kk : Nat} (hg : Gl X "enumerate") (hm : X.mg "enumerate" = none) (ha : PA X [e] ta) (hs : starEach [e] X.env = [(false, eval e X.env)] := by rfl) (hK : X.K = K := by rfl) :
    PI X (.Tuple elts kk tpos) (.Call (.Name "enumerate" p) [e] [] pos) (iEnum K ta) := by subst hK; exact pi_enum hg hm ha hs
theorem pi_reversedK {tg e : Expr} {ta : TA} {p pos : Pos} (hg : Gl X "reversed") (hm : X.mg "reversed" = none) (ha : PA X [e] ta) (hs : starEach [e] X.env = [(false, eval e X.env)] := by rfl) (hK : X.K = K := by rfl) : PI X tg (.Call (.Name "reversed" p) [e] [] pos) (iRev K ta) := by
  subst hK; exact pi_reversed hg hm ha hs
theorem pe_revLK {e : Expr} {te : TE} {k : Nat} {p1 p2 p3 pos : Pos} (he : PE X e te) (hK : X.K = K := by rfl) : PE X (.Subscript e (.Slice none none (some (.UnaryOp .USub (.Constant (.int 1) k p1) p2)) p3) pos) (tRevL K te) := by subst hK; exact pe_revL he
theorem sl_listK (hK : X.K = K := by rfl) : SlR X (rSlL K) := by subst hK; exact sl_list
theorem call_lenK (hK : X.K = K := by rfl) : CallR X (.builtin "len") (rLn K) := by subst hK; exact call_len_seq
theorem call_listK (hK : X.K = K := by rfl) : CallR X (.type "list") (rLs K) := by subst hK; exact call_list_of
theorem call_tupleK (hK : X.K = K := by rfl) : CallR X (.type "tuple") (rTp K) := by subst hK; exact call_tuple_of
theorem cr_sumK (hc : X.calm = true := by rfl) (hK : X.K = K := by rfl) : CallR X (.builtin "sum") (rSum K) := by subst hK; exact cr_sum hc
theorem cr_allK (hc : X.calm = true := by rfl) (hK : X.K = K := by rfl) : CallR X (.builtin "all") (rAll K) := by subst hK; exact cr_all hc
theorem cr_anyK (hc : X.calm = true := by rfl) (hK : X.K = K := by rfl) : CallR X (.builtin "any") (rAny K) := by subst hK; exact cr_any hc
theorem call_isiKK (hK : X.K = K := by rfl) : CallR X (.builtin "isinstance") (rIsi K) := by subst hK; exact call_isi
theorem mt_indexK (hK : X.K = K := by rfl) : MtR X "list.index" (rIndex K) := by subst hK; exact mt_index
theorem pe_bmK {T name id : String} {r : V → List V → Hp → VK → Prop} {o e : Expr} {es : List Expr} {to : TE} {t : TA} {apos cpos : Pos} (pa : PlainAttrs T) (slot : Slot T name id) (hty : typeOf (.builtin id) = pure (.type "method_descriptor")) (hm : MtR X id r) (ho : PE X o to) (ha : PA X (e :: es) t)
    (hbase : attributeBase o name X.env (eval o X.env) = eval o X.env := by rfl)
    (hfew : ((backTo cpos (starEach (e :: es) X.env)).all (fun x => !x.1) && (backToKw cpos (keywordEach [] X.env)).all (fun x => x.1.isSome)
      && decide ((e :: es).length + ([] : List Keyword).length + (if ([] : List Keyword).isEmpty then 0 else 1) < 30)) = true := by rfl)
    (hline : (apos.endLine == cpos.line) = true := by rfl) (hs : starEach (e :: es) X.env = (false, eval e X.env) :: starEach es X.env := by rfl) (hplain : (backTo cpos (starEach es X.env)).any (·.1) = false := by rfl) (hK : X.K = K := by rfl) :
    PE X (.Call (.Attribute o name apos) (e :: es) [] cpos) (tBM K T r to t) := by subst hK; exact pe_bm pa slot hty hm ho ha hbase hfew hline hs hplain
theorem pg_tupK {es : List Expr} {k : Nat} {t : TGs} {n : Nat} {pos : Pos} (hc : X.calm = true) (h : PGs X es t)
    (hn : (assignEach es X.env).length = n := by rfl) (hst : (assignEach es X.env).findIdx? (·.1) = none := by rfl) (hK : X.K = K := by rfl) : PG X (.Tuple es k pos) (gTup K n t) := by subst hK; exact pg_tup hc h hn hst
abbrev tTru (K : PySem.W.Frag) (ta : TE) : TT := fun σ H Q => ta σ H fun x H' => ∃ k, TruV K x H' k ∧ Q k H'
theorem pt_truthK {a : Expr} {ta : TE} (ha : PE X a ta) (he : ∀ whole, isTrue a X.env whole = (do let v ← whole; standAt a.pos; holding [v] (truthy v))) (hK : X.K = K := by rfl) : PT X a (tTru K ta) := by subst hK; exact pt_truth ha he
end
/-! statement steps, as the printer needs them -/
section
variable {α β γ δ ρ : Type} {G : List Fact} {O O0 F : Ow} {σ : St} {T : Ty α} {U : Ty β} {K : PySem.W.Frag} {S H : Hp} {D : Ends} {out : ρ} {u t t' : TS} {Q : VK}
theorem y_next {N : St → Hp → Prop} {rt bk ct} (h : N σ H) : tNext (Ends.mk N rt bk ct) σ H := h
theorem y_join {ω : Type} {k : β → Option ρ} {body : (β → Option ρ) → Option ρ} {σJ : β → ω → St} {OJ : β → ω → Ow} {Fb : β → ω → List Fact} (hG : Okc G S) (W : Wd S (O ++ F) H) (hm : joinK k body = some out)
    (next : ∀ b w S H, k b = some out → Okc (Fb b w ++ G) S → Wd S (OJ b w ++ F) H → u D (σJ b w) H)
    (main : (∀ b w S H, k b = some out → Okc (Fb b w ++ G) S → Wd S (OJ b w ++ F) H → u D (σJ b w) H) → body k = some out → tSeq t u D σ H) : tSeq t u D σ H := main next hm
theorem y_bool {b : Bool} {v : V} {R : Bool → Prop} (hG : Okc G S) (j : Nat) (hf : G[j]? = some (tBool.f b v)) (h : R b) : ∃ k, v = .bl k ∧ R k := ⟨b, Okc.at j hf hG, h⟩
theorem y_cb1 {r : List V → Hp → VK → Prop} {te : TE} (h : te σ H fun x H1 => tCB r (tCons (tC x) tNil) ([] : St) H1 Q) : tCB r (tCons te tNil) σ H Q := h
end
end HF

set_option Elab.async false
set_option linter.all false
set_option maxRecDepth 100000
set_option maxHeartbeats 2000000
/-! Mini10: lists of lists of one's own; instances that are made; sorted pairs; constants of a class. -/
namespace HF
open PySem PySem.Spec L2
open PyProof.Rows hiding St
/-! ### a list of lists, all one's own -/
def cellsLL : List Addr → List (List V) → List Cell
  | a :: as, v :: vs => (a, .lst v) :: cellsLL as vs
  | _, _ => []
theorem cellsLL_keys : ∀ {as : List Addr} {vss : List (List V)}, as.length = vss.length → (cellsLL as vss).map (·.1) = as
  | [], [], _ => rfl
  | [], _ :: _, h => by cases h
  | _ :: _, [], h => by cases h
  | a :: as, v :: vs, h => by show a :: (cellsLL as vs).map (·.1) = _; rw [cellsLL_keys (by simpa using h)]
theorem cellsLL_mem : ∀ {as : List Addr} {vss : List (List V)} {i : Nat} {a : Addr} {v : List V}, as[i]? = some a → vss[i]? = some v → (a, HO.lst v) ∈ cellsLL as vss
  | [], _, _, _, _, h, _ => by simp at h
  | _ :: _, [], _, _, _, _, h => by simp at h
  | a :: as, v :: vs, 0, _, _, h1, h2 => by
    simp at h1 h2
    subst h1 h2
    exact List.mem_cons_self ..
  | a :: as, v :: vs, i + 1, _, _, h1, h2 => List.mem_cons_of_mem _ (cellsLL_mem (i := i) (by simpa using h1) (by simpa using h2))
theorem cellsLL_get : ∀ {as : List Addr} {vss : List (List V)} {b : Addr} {o : HO}, (b, o) ∈ cellsLL as vss → ∃ (i : Nat) (w : List V), as[i]? = some b ∧ vss[i]? = some w ∧ o = .lst w
  | [], _, _, _, h => by cases h
  | _ :: _, [], _, _, h => by cases h
  | a :: as, v :: vs, b, o, h => by
    rcases List.mem_cons.mp h with e | h
    · cases e
      exact ⟨0, v, rfl, rfl, rfl⟩
    · obtain ⟨i, w, h1, h2, h3⟩ := cellsLL_get h
      exact ⟨i + 1, w, by simpa using h1, by simpa using h2, h3⟩
theorem cellsLL_app : ∀ {as : List Addr} {vss : List (List V)} {a : Addr} {v : List V}, as.length = vss.length → cellsLL (as ++ [a]) (vss ++ [v]) = cellsLL as vss ++ [(a, .lst v)]
  | [], [], _, _, _ => rfl
  | [], _ :: _, _, _, h => by cases h
  | _ :: _, [], _, _, h => by cases h
  | a :: as, v :: vs, _, _, h => by show _ :: cellsLL (as ++ _) (vs ++ _) = _; rw [cellsLL_app (by simpa using h)]; rfl
section
variable {α β γ ρ : Type} {G : List Fact} {O O0 F : Ow} {σ : St} {T : Ty α} {U : Ty β} {K : PySem.W.Frag} {S H : Hp} {D : Ends} {out : ρ} {u : TS} {Q : VK}
def oLL (T : Ty α) : OTy (List (List α)) := ⟨fun xss p c S => ∃ ps vss, c = (p, .lst (ps.map V.ref)) :: cellsLL ps vss ∧ ps.length = vss.length ∧ Paired (Rl T S) xss vss,
  fun h ⟨ps, vss, e, l, r⟩ => ⟨ps, vss, e, l, Paired.mapP r fun _ _ q => q.mono h⟩⟩
theorem paired_get {R : α → β → Prop} : ∀ {xs : List α} {ys : List β} {i : Nat} {x : α}, Paired R xs ys → xs[i]? = some x → ∃ y, ys[i]? = some y ∧ R x y
  | _, _, _, _, .nil, h => by simp at h
  | _, _, 0, _, .cons r _, h => by simp at h; subst h; exact ⟨_, rfl, r⟩
  | _, _, i + 1, _, .cons _ rs, h => by
    obtain ⟨y, h1, h2⟩ := paired_get (i := i) rs (by simpa using h)
    exact ⟨y, by simpa using h1, h2⟩
theorem paired_set {R : α → β → Prop} {x : α} {y : β} (h : R x y) : ∀ {xs : List α} {ys : List β} (n : Nat), Paired R xs ys → Paired R (xs.set n x) (ys.set n y)
  | _, _, _, .nil => .nil
  | _, _, 0, .cons _ rs => .cons h rs
  | _, _, n + 1, .cons r rs => .cons r (paired_set h n rs)
theorem paired_app {R : α → β → Prop} {x : α} {y : β} (h : R x y) : ∀ {xs : List α} {ys : List β}, Paired R xs ys → Paired R (xs ++ [x]) (ys ++ [y])
  | _, _, .nil => .cons h .nil
  | _, _, .cons r rs => .cons r (paired_app h rs)
theorem frz_LL : Frz (oLL T) (tL (tL T)) := fun g p c S q h => by
  obtain ⟨ps, vss, e, l, r⟩ := q
  subst e
  refine ⟨p, ps.map V.ref, rfl, h _ _ (List.mem_cons_self ..), ?_⟩
  have h' : ∀ a o, (a, o) ∈ cellsLL ps vss → S a = some o := fun a o m => h a o (List.mem_cons_of_mem _ m)
  clear h
  show Paired (fun x v => (tL T).rep x v S) g (ps.map V.ref)
  induction r generalizing ps with
  | nil =>
    cases ps with
    | nil => exact .nil
    | cons => cases l
  | @cons x v xs vs q rs ih =>
    cases ps with
    | nil => cases l
    | cons a as => exact .cons ⟨a, v, rfl, h' _ _ (List.mem_cons_self ..), q⟩ (ih as (by simpa using l) fun b o m => h' b o (List.mem_cons_of_mem _ m))
theorem Wd.keysNd (W : Wd S (O ++ F) H) {o : Nat} {c : List Cell} (ho : O[o]? = some c) : (c.map (·.1)).Nodup := by
  have q := Wd0.nd (W.perm (perm_front ho))
  simp only [List.flatten_cons, List.map_append] at q
  exact (List.nodup_append.mp q).1
theorem Wd.putLL {ps : List Addr} {vss : List (List V)} {p a : Addr} {i : Nat} (W : Wd S (O ++ F) H) (o : Nat) (ho : O[o]? = some ((p, .lst (ps.map V.ref)) :: cellsLL ps vss)) (l : ps.length = vss.length) (hi : ps[i]? = some a) (w : List V) :
    Wd S (O.set o ((p, .lst (ps.map V.ref)) :: cellsLL ps (vss.set i w)) ++ F) (upd H a (.lst w)) := by
  have nd := W.keysNd ho
  have l' : ps.length = (vss.set i w).length := by rw [List.length_set]; exact l
  simp only [List.map_cons, cellsLL_keys l, List.nodup_cons] at nd
  refine (Wd.putG (W.perm (perm_front ho)) (c' := (p, .lst (ps.map V.ref)) :: cellsLL ps (vss.set i w)) ?_ ?_ ?_).perm (perm_set ho F)
  · simp only [List.map_cons, cellsLL_keys l, cellsLL_keys l']
  · intro b z m
    rcases List.mem_cons.mp m with e | m
    · cases e
      have ne : p ≠ a := fun e => nd.1 (e ▸ List.mem_of_getElem? hi)
      rw [upd_ne ne]
      exact W.at ho _ _ (List.mem_cons_self ..)
    · obtain ⟨j, y, h1, h2, rfl⟩ := cellsLL_get m
      by_cases e : j = i
      · subst e
        rw [hi] at h1
        cases h1
        have hj : j < vss.length := by rw [← l]; exact (List.getElem?_eq_some_iff.mp hi).1
        rw [List.getElem?_set_self hj] at h2
        cases h2
        exact upd_same
      · rw [List.getElem?_set_ne (fun q => e q.symm)] at h2
        have ne : b ≠ a := fun q => by
          subst q
          have b1 := (List.getElem?_eq_some_iff.mp h1)
          have b2 := (List.getElem?_eq_some_iff.mp hi)
          obtain ⟨b1, e1⟩ := b1
          obtain ⟨b2, e2⟩ := b2
          exact e ((List.getElem_inj nd.2).mp (e1.trans e2.symm))
        rw [upd_ne ne]
        exact W.at ho _ _ (List.mem_cons_of_mem _ (cellsLL_mem h1 h2))
  · intro b m
    have ne : b ≠ a := fun q => by
      subst q
      refine m ?_
      simp only [List.map_cons, cellsLL_keys l]
      exact List.mem_cons_of_mem _ (List.mem_of_getElem? hi)
    exact upd_ne ne
/-- at just this address -/
def tAt (p : Addr) : Ty Unit := ⟨fun _ v _ => v = .ref p, fun _ h => h⟩
theorem sim_ownAt {OT : OTy α} {p : Addr} {c : List Cell} {g : α} {i : Nat} (hs : σ[i]? = some (some (.ref p))) : Sim G O (tVar i) σ (some ()) (tAt p) := fun S H F r hG w hm Q k => by
  exact ⟨_, hs, k _ S H (Same.refl _) w rfl⟩
def x_app2 (xss : List (List α)) (n : Int) (y : α) : Option (List (List α)) := (ixN xss.length n).bind fun i => (xss[i]?).bind fun xs => if xs.length < sizeLine then some (xss.set i (xs ++ [y])) else none
theorem atI_ixN {vs : List α} {n : Int} {i : Nat} {a : α} (h : ixN vs.length n = some i) (g : vs[i]? = some a) : atI vs n = some a := by
  unfold atI
  rw [h]
  exact g
/-- xss[n].append(y) -/
theorem k_app2 {to ti te : TE} {p : Addr} {c : List Cell} {xss : List (List α)} {m0 : Option Unit} {mi : Option Int} {my : Option α} {k : List (List α) → Option ρ} (hG : Okc G S) (W : Wd S (O ++ F) H)
    (hm : (m0.bind fun _ => mi.bind fun n => my.bind fun y => (x_app2 xss n y).bind k) = some out) (o j : Nat) (ho : O[o]? = some c) (hf : G[j]? = some ((oLL T).f xss p c)) (ht : Sim G O to σ m0 (tAt p)) (hi : Sim G O ti σ mi tInt) (hs : Sim G O te σ my T)
    (next : ∀ xss' c' S H, Okc ((oLL T).f xss' p c' :: G) S → Wd S (O.set o c' ++ F) H → k xss' = some out → u D σ H) : tSeq (tDrop (tBM K "list" rAppend (tOp (rIxL K) to ti) (tCons te tNil))) u D σ H := by
  obtain ⟨_, h0, hm⟩ := bind_some hm
  obtain ⟨n, h1, hm⟩ := bind_some hm
  obtain ⟨y, h2, hm⟩ := bind_some hm
  obtain ⟨z, h3, hm⟩ := bind_some hm
  obtain ⟨i, h4, h5⟩ := bind_some h3
  obtain ⟨xs, h6, h7⟩ := bind_some h5
  obtain ⟨hz, e7⟩ := of_if h7
  obtain ⟨ps, vss, e0, l, r0⟩ := (Okc.at j hf hG : (oLL T).rep xss p c S)
  subst e0
  obtain ⟨vs, h8, h9⟩ := paired_get r0 h6
  have hi' : i < ps.length := by rw [l]; exact (List.getElem?_eq_some_iff.mp h8).1
  have hp : ps[i]? = some ps[i] := List.getElem?_eq_getElem hi'
  have hix : ixN (ps.map V.ref).length n = some i := by rw [List.length_map, l, ← Paired.length r0]; exact h4
  refine ht S H F () hG W h0 _ fun v0 S1 H1 s1 w1 q1 => ?_
  refine hi S1 H1 F n (hG.mono s1) w1 h1 _ fun v1 S2 H2 s2 w2 q2 => ?_
  have g2 := w2.at ho
  refine ⟨p, ps.map V.ref, n, .ref ps[i], q1, q2, SqL.of (g2 _ _ (List.mem_cons_self ..)), atI_ixN hix (by simp [hp]), .inl ⟨rfl, vs, SqL.of (g2 _ _ (List.mem_cons_of_mem _ (cellsLL_mem hp h8)))⟩, ?_⟩
  refine hs S2 H2 F y (hG.mono (s1.trans s2)) w2 h2 _ fun v S3 H3 s3 w3 q3 => ?_
  have s := s1.trans (s2.trans s3)
  have g3 := w3.at ho
  refine ⟨ps[i], vs, v, rfl, rfl, g3 _ _ (List.mem_cons_of_mem _ (cellsLL_mem hp h8)), by rw [← h9.length]; exact hz, next z _ S3 _ ⟨?_, hG.mono s⟩ (w3.putLL o ho l hp _) hm⟩
  rw [← e7]
  exact ⟨ps, vss.set i (vs ++ [v]), rfl, by rw [List.length_set]; exact l, paired_set ((h9.mono s).append (Rl.one q3)) i (Paired.mapP r0 fun _ _ q => q.mono s)⟩
def x_put2 (xss : List (List α)) (n m : Int) (y : α) : Option (List (List α)) := (ixN xss.length n).bind fun i => (xss[i]?).bind fun xs => (x_set xs m y).bind fun ys => some (xss.set i ys)
/-- xss[n][m] = y -/
theorem k_put2 {to ti tj te : TE} {p : Addr} {c : List Cell} {xss : List (List α)} {m0 : Option Unit} {mi mj : Option Int} {my : Option α} {k : List (List α) → Option ρ} (hG : Okc G S) (W : Wd S (O ++ F) H)
    (hm : (my.bind fun y => m0.bind fun _ => mi.bind fun n => mj.bind fun m => (x_put2 xss n m y).bind k) = some out) (o j : Nat) (ho : O[o]? = some c) (hf : G[j]? = some ((oLL T).f xss p c)) (ht : Sim G O to σ m0 (tAt p)) (hi : Sim G O ti σ mi tInt) (hj : Sim G O tj σ mj tInt) (hs : Sim G O te σ my T)
    (next : ∀ xss' c' S H, Okc ((oLL T).f xss' p c' :: G) S → Wd S (O.set o c' ++ F) H → k xss' = some out → u D σ H) : tSeq (tAsg te (gSub (tOp (rIxL K) to ti) tj rSetL)) u D σ H := by
  obtain ⟨y, h2, hm⟩ := bind_some hm
  obtain ⟨_, h0, hm⟩ := bind_some hm
  obtain ⟨n, h1, hm⟩ := bind_some hm
  obtain ⟨m, h10, hm⟩ := bind_some hm
  obtain ⟨z, h3, hm⟩ := bind_some hm
  obtain ⟨i, h4, h5⟩ := bind_some h3
  obtain ⟨xs, h6, h7⟩ := bind_some h5
  obtain ⟨ys, h8', e7⟩ := bind_some h7
  obtain ⟨l', hl', e8⟩ := bind_some h8'
  cases e8
  cases e7
  obtain ⟨ps, vss, e0, l, r0⟩ := (Okc.at j hf hG : (oLL T).rep xss p c S)
  subst e0
  obtain ⟨vs, h8, h9⟩ := paired_get r0 h6
  have hi' : i < ps.length := by rw [l]; exact (List.getElem?_eq_some_iff.mp h8).1
  have hp : ps[i]? = some ps[i] := List.getElem?_eq_getElem hi'
  have hix : ixN (ps.map V.ref).length n = some i := by rw [List.length_map, l, ← Paired.length r0]; exact h4
  refine hs S H F y hG W h2 _ fun v S1 H1 s1 w1 q1 => ?_
  refine ht S1 H1 F () (hG.mono s1) w1 h0 _ fun v0 S2 H2 s2 w2 q2 => ?_
  refine hi S2 H2 F n (hG.mono (s1.trans s2)) w2 h1 _ fun v1 S3 H3 s3 w3 q3 => ?_
  refine ⟨p, ps.map V.ref, n, .ref ps[i], q2, q3, SqL.of (w3.at ho _ _ (List.mem_cons_self ..)), atI_ixN hix (by simp [hp]), ?_⟩
  refine hj S3 H3 F m (hG.mono (s1.trans (s2.trans s3))) w3 h10 _ fun x S4 H4 s4 w4 q4 => ?_
  have s := s1.trans (s2.trans (s3.trans s4))
  refine ⟨ps[i], vs, m, l', rfl, q4, w4.at ho _ _ (List.mem_cons_of_mem _ (cellsLL_mem hp h8)), by rw [← h9.length]; exact hl', next _ _ S4 _ ⟨?_, hG.mono s⟩ (w4.putLL o ho l hp _) hm⟩
  exact ⟨ps, vss.set i (vs.set l' v), rfl, by rw [List.length_set]; exact l, paired_set ((h9.mono s).set (T.mono (s2.trans (s3.trans s4)) q1) l') i (Paired.mapP r0 fun _ _ q => q.mono s)⟩
end
end HF

set_option Elab.async false
set_option linter.all false
set_option maxRecDepth 100000
set_option maxHeartbeats 2000000
/-! Mini11: instances that are made; sorted pairs; constants of a class. -/
namespace HF
open PySem PySem.Spec L2 ClX
open PyProof.Rows hiding St
section
variable {α β γ δ ρ : Type} {G : List Fact} {O O0 F : Ow} {σ : St} {T : Ty α} {U : Ty β} {K : PySem.W.Frag} {S H : Hp} {D : Ends} {out : ρ} {u : TS} {Q : VK}
/-- [[..] for x in it], all its lists one's own -/
theorem simF_lcLL {ω : Type} {g : TG} {tt : TT} {te : TE} {wi : TI} {vs : List Nat} {σ' : ω → St} {Fx : α → ω → List Fact} {mi : Option (List α)} {mt : α → Option Bool} {me : α → Option (List β)}
    (hi : SimI G O O0 wi σ mi T) (tg : TgOk g (wipe σ vs) T σ' Fx) (hw : ∀ w, wipe (σ' w) vs = wipe σ vs) (hO : O0.Sublist O)
    (ht : ∀ a w, SimT (Fx a w ++ G) O tt (σ' w) (mt a)) (he : ∀ a w, SimF (Fx a w ++ G) O te (σ' w) (me a) (oL U)) :
    SimF G O (tLc wi g tt te vs) σ (mi.bind fun xs => x_comp mt me xs) (oLL U) := fun S H F r hG w hm Q k => by
  obtain ⟨xs, h1, hm⟩ := bind_some hm
  unfold x_comp at hm
  split at hm
  case isFalse => cases hm
  case isTrue hz =>
  refine hi S H F xs hG w h1 _ fun J S1 H1 s1 w1 jok D hD => ?_
  have sub : O0.Sublist (O ++ F) := hO.trans (List.sublist_append_left _ _)
  refine ⟨fun i m H' => m = xs.length - i ∧ i ≤ xs.length ∧ ∃ S' acc ps vss rest, Same S1 S' ∧ Wd S' (((D, .lst (ps.map V.ref)) :: cellsLL ps vss) :: (O ++ F)) H' ∧ ps.length = vss.length ∧ Paired (Rl U S') acc vss ∧ acc.length ≤ i ∧ compM mt me (xs.drop i) = some rest ∧ r = acc ++ rest,
    ⟨xs.length, by simp, Nat.zero_le _, S1, [], [], [], r, Same.refl _, w1.newO hD, rfl, .nil, Nat.le_refl _, by simpa using hm, rfl⟩, ?_⟩
  rintro i m H' ⟨rfl, hi', S', acc, ps, vss, rest, s', w', hps, ra, hl, hc, rfl⟩
  have jk := jok S' H' s' (w'.tail.sub sub)
  by_cases hlt : i < xs.length
  · have hd : xs.drop i = xs[i] :: xs.drop (i + 1) := (List.drop_eq_getElem_cons hlt)
    rw [hd] at hc
    obtain ⟨go, yl⟩ := jk.1 i xs[i] (by simp [hlt])
    have hz2 : (ps.map V.ref).length < sizeLine := by rw [List.length_map, hps, ← Paired.length ra]; omega
    refine .inr ⟨go, fun H2 => ∃ S2 acc2 ps2 vss2 rest2, Same S1 S2 ∧ Wd S2 (((D, .lst (ps2.map V.ref)) :: cellsLL ps2 vss2) :: (O ++ F)) H2 ∧ ps2.length = vss2.length ∧ Paired (Rl U S2) acc2 vss2 ∧ acc2.length ≤ i + 1 ∧ compM mt me (xs.drop (i + 1)) = some rest2 ∧ acc ++ rest = acc2 ++ rest2,
      fun H2 q => ⟨xs.length - (i + 1), by omega, rfl, hlt, q⟩, fun x H2 y => ?_⟩
    obtain ⟨S2, s2, rx, wk⟩ := yl x H2 y
    have w2 := wk _ w'
    refine tg xs[i] x S2 H2 _ rx w2.st fun wt ok => ⟨hw wt, ?_⟩
    obtain ⟨b, hb, hc⟩ := bind_some hc
    have hG2 : Okc (Fx xs[i] wt ++ G) S2 := ok.append (hG.mono (s1.trans (s'.trans s2)))
    refine ht xs[i] wt S2 H2 (((D, .lst (ps.map V.ref)) :: cellsLL ps vss) :: F) b hG2 (w2.perm (perm_mid _ _ _)) hb _ fun S3 H3 s3 w3 => ?_
    cases b with
    | false =>
      rw [if_neg Bool.false_ne_true]
      rw [if_neg Bool.false_ne_true] at hc
      exact ⟨S3, acc, ps, vss, rest, s'.trans (s2.trans s3), w3.perm (perm_mid _ _ _).symm, hps, Paired.mapP ra fun _ _ q => q.mono (s2.trans s3), by omega, hc, rfl⟩
    | true =>
      rw [if_pos rfl]
      rw [if_pos rfl] at hc
      obtain ⟨y, hy, hc⟩ := bind_some hc
      obtain ⟨ys, hys, hc⟩ := bind_some hc
      cases hc
      refine he xs[i] wt S3 H3 (((D, .lst (ps.map V.ref)) :: cellsLL ps vss) :: F) y (hG2.mono s3) w3 hy _ fun p c S4 H4 s4 w4 rv => ?_
      obtain ⟨us, e0, r0⟩ := rv
      subst e0
      have w4' : Wd S4 ([(p, HO.lst us)] :: (((D, .lst (ps.map V.ref)) :: cellsLL ps vss) :: (O ++ F))) H4 := w4.perm ((perm_mid _ _ _).symm.cons _)
      have w5 : Wd S4 (((D, .lst (ps.map V.ref)) :: (cellsLL ps vss ++ [(p, HO.lst us)])) :: (O ++ F)) H4 := by
        refine Wd0.perm w4' ?_
        show ((p, HO.lst us) :: (D, .lst (ps.map V.ref)) :: (cellsLL ps vss ++ (O ++ F).flatten)).Perm ((D, .lst (ps.map V.ref)) :: ((cellsLL ps vss ++ [(p, HO.lst us)]) ++ (O ++ F).flatten))
        refine (List.Perm.swap _ _ _).trans (List.Perm.cons _ ?_)
        rw [List.append_assoc]
        exact List.perm_middle.symm
      have gD : H4 D = some (.lst (ps.map V.ref)) := w5.mem (List.mem_cons_self ..) (List.mem_cons_self ..)
      have w6 : Wd S4 (((D, .lst ((ps ++ [p]).map V.ref)) :: cellsLL (ps ++ [p]) (vss ++ [us])) :: (O ++ F)) (upd H4 D (.lst (ps.map V.ref ++ [.ref p]))) := by
        rw [cellsLL_app hps]
        have nd : (((D, HO.lst (ps.map V.ref)) :: (cellsLL ps vss ++ [(p, HO.lst us)])).map (·.1)).Nodup := Wd.keysNd (O := [_]) (F := O ++ F) (o := 0) w5 rfl
        have nd2 := (List.nodup_cons.mp nd).1
        refine w5.putG (by simp) ?_ ?_
        · intro a o m
          rcases List.mem_cons.mp m with e | m2
          · cases e
            rw [upd_same]
            simp
          · have ne : a ≠ D := fun e => nd2 (List.mem_map.mpr ⟨(a, o), m2, e⟩)
            rw [upd_ne ne]
            exact w5.mem (List.mem_cons_self ..) (List.mem_cons_of_mem _ m2)
        · intro a m
          exact upd_ne fun e => m (by subst e; exact List.mem_cons_self ..)
      refine ⟨ps.map V.ref, gD, hz2, S4, acc ++ [y], ps ++ [p], vss ++ [us], ys, s'.trans (s2.trans (s3.trans s4)), w6, by simp [hps], paired_app r0 (Paired.mapP ra fun _ _ q => q.mono (s2.trans (s3.trans s4))), by simp; omega, hys, by simp⟩
  · have e : i = xs.length := by omega
    subst e
    rw [List.drop_length] at hc
    cases hc
    rw [List.append_nil] at k
    exact .inl ⟨jk.2, k D _ S' H' (s1.trans s') w' ⟨ps, vss, rfl, hps, ra⟩⟩
/-! ### instances -/
def oIns (C : Addr) (keys : List Str) (A : TyA α) : OTy α := ⟨fun a p c S => ∃ dx vs, c = [(p, .ins C dx (keys.zip vs)), (dx, .own p)] ∧ vs.length = keys.length ∧ keys.Nodup ∧ A.rep a vs S, fun h ⟨dx, vs, e, l, n, r⟩ => ⟨dx, vs, e, l, n, A.mono h r⟩⟩
def tIns (C : Addr) (keys : List Str) (A : TyA α) : Ty α := ⟨fun a v S => ∃ p dx vs, v = .ref p ∧ S p = some (.ins C dx (keys.zip vs)) ∧ S dx = some (.own p) ∧ vs.length = keys.length ∧ keys.Nodup ∧ A.rep a vs S,
  fun h ⟨p, dx, vs, e, g, g2, l, n, r⟩ => ⟨p, dx, vs, e, h _ _ g, h _ _ g2, l, n, A.mono h r⟩⟩
theorem frz_Ins {C : Addr} {keys : List Str} {A : TyA α} : Frz (oIns C keys A) (tIns C keys A) := fun g p c S ⟨dx, vs, e, l, n, r⟩ h =>
  ⟨p, dx, vs, rfl, h _ _ (by rw [e]; exact List.mem_cons_self ..), h _ _ (by rw [e]; exact List.mem_cons_of_mem _ (List.mem_cons_self ..)), l, n, r⟩
instance {C : Addr} {keys : List Str} {A : TyA α} : Lk O (oIns C keys A) (tIns C keys A) := ⟨fun _ _ _ ⟨p, dx, vs, e, h, h2, l, n, r⟩ => ⟨p, _, e, ⟨dx, vs, rfl, l, n, r⟩, fun _ _ w a o m => by
  rcases List.mem_cons.mp m with e | m
  · cases e
    exact w.st _ _ h
  · rcases List.mem_cons.mp m with e | m
    · cases e
      exact w.st _ _ h2
    · cases m⟩⟩
theorem lookup_zip : ∀ {keys : List Str} {vs : List V} {i : Nat} {k : Str}, keys.Nodup → vs.length = keys.length → keys[i]? = some k → (keys.zip vs).lookup k = vs[i]?
  | [], _, _, _, _, _, h => by simp at h
  | x :: keys, [], _, _, _, h, _ => by simp at h
  | x :: keys, v :: vs, 0, k, _, _, h => by
    simp at h
    subst h
    simp
  | x :: keys, v :: vs, i + 1, k, n, l, h => by
    have hk : keys[i]? = some k := by simpa using h
    have hne : (k == x) = false := by
      rw [beq_eq_false_iff_ne]
      intro e
      subst e
      exact (List.nodup_cons.mp n).1 (List.mem_of_getElem? hk)
    show ((x, v) :: keys.zip vs).lookup k = _
    rw [List.lookup_cons, hne]
    simpa using lookup_zip (List.nodup_cons.mp n).2 (by simpa using l) hk
theorem lookup_zip_none : ∀ {keys : List Str} {vs : List V} {k : Str}, k ∉ keys → (keys.zip vs).lookup k = none
  | [], _, _, _ => rfl
  | x :: keys, [], _, _ => rfl
  | x :: keys, v :: vs, k, h => by
    have hne : (k == x) = false := by
      rw [beq_eq_false_iff_ne]
      intro e
      exact h (e ▸ List.mem_cons_self ..)
    show ((x, v) :: keys.zip vs).lookup k = _
    rw [List.lookup_cons, hne]
    exact lookup_zip_none fun m => h (List.mem_cons_of_mem _ m)
theorem putF_zip_new : ∀ {keys : List Str} {vs : List V} {k : Str} {v : V}, k ∉ keys → vs.length = keys.length → putF k v (keys.zip vs) = (keys ++ [k]).zip (vs ++ [v])
  | [], [], _, _, _, _ => rfl
  | [], _ :: _, _, _, _, l => by cases l
  | x :: keys, [], _, _, _, l => by cases l
  | x :: keys, y :: vs, k, v, h, l => by
    have hne : ¬ x = k := fun e => h (e ▸ List.mem_cons_self ..)
    have e1 : (x :: keys).zip (y :: vs) = (x, y) :: keys.zip vs := rfl
    rw [e1]
    unfold putF
    rw [if_neg hne, putF_zip_new (fun m => h (List.mem_cons_of_mem _ m)) (by simpa using l)]
    rfl
theorem putF_zip_set : ∀ {keys : List Str} {vs : List V} {i : Nat} {k : Str} {v : V}, keys.Nodup → vs.length = keys.length → keys[i]? = some k → putF k v (keys.zip vs) = keys.zip (vs.set i v)
  | [], _, _, _, _, _, _, h => by simp at h
  | x :: keys, [], _, _, _, _, l, _ => by cases l
  | x :: keys, y :: vs, 0, k, v, _, _, h => by
    simp at h
    subst h
    show (if x = x then _ else _) = _
    rw [if_pos rfl]
    rfl
  | x :: keys, y :: vs, i + 1, k, v, n, l, h => by
    have hk : keys[i]? = some k := by simpa using h
    have hne : ¬ x = k := fun e => (List.nodup_cons.mp n).1 (by rw [e]; exact List.mem_of_getElem? hk)
    have e1 : (x :: keys).zip (y :: vs) = (x, y) :: keys.zip vs := rfl
    rw [e1]
    unfold putF
    rw [if_neg hne, putF_zip_set (List.nodup_cons.mp n).2 (by simpa using l) hk]
    rfl
/-- o.f -/
theorem sim_ofld {C : Addr} {keys : List Str} {A : TyA α} {TR : Ty α} [Lk O (oIns C keys A) TR] {i : Nat} {k : Str} {f : α → β} {td : TE} {md : Option α} (cl : Cls K C) (na : NoAttr K C k) (pj : Pj A i U f) (hk : keys[i]? = some k) (hd : Sim G O td σ md TR) :
    Sim G O (tFld K td k) σ (md.bind fun a => some (f a)) U := fun S H F r hG w hm Q kk => by
  obtain ⟨a, h1, hm⟩ := bind_some hm
  cases hm
  refine hd S H F a hG w h1 _ fun x S1 H1 s1 w1 q1 => ?_
  obtain ⟨p, c, rfl, ⟨dx, vs, rfl, l, n, r⟩, g⟩ := Lk.lk (O := O) _ _ _ q1
  obtain ⟨v, h2, h3⟩ := pj a vs S1 r
  exact ⟨p, C, dx, _, v, rfl, g H1 F w1 _ _ (List.mem_cons_self ..), cl, na, by rw [lookup_zip n l hk, h2], kk v S1 H1 s1 w1 h3⟩
theorem Wd.putIns {p dx C : Addr} {fs : List (Str × V)} (W : Wd S (O ++ F) H) (o : Nat) (ho : O[o]? = some [(p, .ins C dx fs), (dx, .own p)]) (gs : List (Str × V)) : Wd S (O.set o [(p, .ins C dx gs), (dx, .own p)] ++ F) (upd H p (.ins C dx gs)) := by
  have nd := W.keysNd ho
  have ne : dx ≠ p := fun e => by subst e; simp at nd
  refine (Wd.putG (W.perm (perm_front ho)) (c' := [(p, .ins C dx gs), (dx, .own p)]) rfl ?_ ?_).perm (perm_set ho F)
  · intro a z m
    rcases List.mem_cons.mp m with e | m
    · cases e
      exact upd_same
    · rcases List.mem_cons.mp m with e | m
      · cases e
        rw [upd_ne ne]
        exact W.at ho _ _ (List.mem_cons_of_mem _ (List.mem_cons_self ..))
      · cases m
  · intro b m
    exact upd_ne fun e => m (by subst e; exact List.mem_cons_self ..)
theorem sn_nil : Snp TyA.nil (TyA.one T) T (fun _ x => x) := fun a vs S x v e q => ⟨v, by rw [show vs = [] from e]; rfl, q⟩
/-- o.f = e, a new field -/
theorem k_fnew {C : Addr} {keys : List Str} (keys' : List Str) {A : TyA α} {A' : TyA γ} {key : Str} {g : α → β → γ} {tv : TE} {i : Nat} {p : Addr} {c : List Cell} {a : α} {mv : Option β} {k : γ → Option ρ} (hG : Okc G S) (W : Wd S (O ++ F) H) (hm : (mv.bind fun x => (some (g a x)).bind k) = some out)
    (o j : Nat) (hi : σ[i]? = some (some (.ref p))) (ho : O[o]? = some c) (hf : G[j]? = some ((oIns C keys A).f a p c)) (cl : Cls K C) (na : NoAttr K C key) (sn : Snp A A' U g) (he : keys ++ [key] = keys') (hk : keys'.Nodup) (hl : keys.length < 1000) (hs : Sim G O tv σ mv U)
    (next : ∀ x c' S H, Okc ((oIns C keys' A').f (g a x) p c' :: G) S → Wd S (O.set o c' ++ F) H → k (g a x) = some out → u D σ H) : tSeq (sFld K (tVar i) tv key) u D σ H := by
  subst he
  obtain ⟨x, h1, hm⟩ := bind_some hm
  obtain ⟨dx, vs, e0, l, nd, r0⟩ := (Okc.at j hf hG : (oIns C keys A).rep a p c S)
  subst e0
  have hn : key ∉ keys := fun m => (List.nodup_append.mp hk).2.2 _ m key (List.mem_singleton.mpr rfl) rfl
  refine hs S H F x hG W h1 _ fun v S1 H1 s1 w1 q1 => ⟨.ref p, hi, p, C, dx, _, rfl, w1.at ho _ _ (List.mem_cons_self ..), cl, na, by rw [List.length_zip]; omega, ?_⟩
  refine next x _ S1 _ ⟨⟨dx, vs ++ [v], rfl, by simp [l], hk, sn _ _ _ _ _ (A.mono s1 r0) q1⟩, hG.mono s1⟩ ?_ hm
  rw [putF_zip_new hn l]
  exact w1.putIns o ho _
/-- o.f = e, e a new object of one's own -/
theorem k_fnewO {OT : OTy β} {C : Addr} {keys : List Str} (keys' : List Str) {A : TyA α} {A' : Addr → TyA γ} {key : Str} {g : α → Unit → γ} {tv : TE} {i : Nat} {p : Addr} {c : List Cell} {a : α} {mv : Option β} {k : β → γ → Option ρ} (hG : Okc G S) (W : Wd S (O ++ F) H) (hm : (mv.bind fun x => (some (g a ())).bind (k x)) = some out)
    (o j : Nat) (hi : σ[i]? = some (some (.ref p))) (ho : O[o]? = some c) (hf : G[j]? = some ((oIns C keys A).f a p c)) (cl : Cls K C) (na : NoAttr K C key) (sn : ∀ q, Snp A (A' q) (tAt q) g) (he : keys ++ [key] = keys') (hk : keys'.Nodup) (hl : keys.length < 1000) (hs : SimF G O tv σ mv OT)
    (next : ∀ x q d c' S H, Okc (OT.f x q d :: (oIns C keys' (A' q)).f (g a ()) p c' :: G) S → Wd S ((d :: O.set o c') ++ F) H → k x (g a ()) = some out → u D σ H) : tSeq (sFld K (tVar i) tv key) u D σ H := by
  subst he
  obtain ⟨x, h1, hm⟩ := bind_some hm
  obtain ⟨dx, vs, e0, l, nd, r0⟩ := (Okc.at j hf hG : (oIns C keys A).rep a p c S)
  subst e0
  have hn : key ∉ keys := fun m => (List.nodup_append.mp hk).2.2 _ m key (List.mem_singleton.mpr rfl) rfl
  refine hs S H F x hG W h1 _ fun q d S1 H1 s1 w1 q1 => ?_
  have w1' : Wd S1 ((d :: O) ++ F) H1 := w1
  have ho' : (d :: O)[o + 1]? = some [(p, .ins C dx (keys.zip vs)), (dx, .own p)] := ho
  refine ⟨.ref p, hi, p, C, dx, _, rfl, w1'.at ho' _ _ (List.mem_cons_self ..), cl, na, by rw [List.length_zip]; omega, ?_⟩
  refine next x q d _ S1 _ ⟨q1, ⟨dx, vs ++ [.ref q], rfl, by simp [l], hk, sn q _ _ _ () (.ref q) (A.mono s1 r0) (show (tAt q).rep () (.ref q) S1 from rfl)⟩, hG.mono s1⟩ ?_ hm
  rw [putF_zip_new hn l]
  exact w1'.putIns (o + 1) ho' _
/-- o.f = e, a field anew -/
theorem k_fput {C : Addr} {keys : List Str} {A : TyA α} {n : Nat} {key : Str} {g : α → β → α} {tv : TE} {i : Nat} {p : Addr} {c : List Cell} {a : α} {mv : Option β} {k : α → Option ρ} (hG : Okc G S) (W : Wd S (O ++ F) H) (hm : (mv.bind fun x => (some (g a x)).bind k) = some out)
    (o j : Nat) (hi : σ[i]? = some (some (.ref p))) (ho : O[o]? = some c) (hf : G[j]? = some ((oIns C keys A).f a p c)) (cl : Cls K C) (na : NoAttr K C key) (st : Stp A n U g) (hk : keys[n]? = some key) (hl : keys.length < 1000) (hs : Sim G O tv σ mv U)
    (next : ∀ x c' S H, Okc ((oIns C keys A).f (g a x) p c' :: G) S → Wd S (O.set o c' ++ F) H → k (g a x) = some out → u D σ H) : tSeq (sFld K (tVar i) tv key) u D σ H := by
  obtain ⟨x, h1, hm⟩ := bind_some hm
  obtain ⟨dx, vs, e0, l, nd, r0⟩ := (Okc.at j hf hG : (oIns C keys A).rep a p c S)
  subst e0
  refine hs S H F x hG W h1 _ fun v S1 H1 s1 w1 q1 => ⟨.ref p, hi, p, C, dx, _, rfl, w1.at ho _ _ (List.mem_cons_self ..), cl, na, by rw [List.length_zip]; omega, ?_⟩
  refine next x _ S1 _ ⟨⟨dx, vs.set n v, rfl, by rw [List.length_set]; exact l, nd, st _ _ _ _ _ (A.mono s1 r0) q1⟩, hG.mono s1⟩ ?_ hm
  rw [putF_zip_set nd l hk]
  exact w1.putIns o ho _
/-- the last place, an address, is what lies there -/
def LsT (A : TyA α) (A' : TyA γ) (q : Addr) (T : Ty β) (g : α → β → γ) : Prop := ∀ a vs S y, A.rep a vs S → T.rep y (.ref q) S → A'.rep (g a y) vs S
theorem ls_one {q : Addr} : LsT (TyA.one (tAt q)) (TyA.one T) q T (fun _ y => y) := fun a vs S y ⟨v, e, r⟩ h => ⟨v, e, by rw [show v = .ref q from r]; exact h⟩
theorem ls_c {A : TyA α} {A' : TyA γ} {q : Addr} {g : α → β → γ} {W : Ty δ} (h : LsT A A' q T' g) : LsT (TyA.c W A) (TyA.c W A') q T' (fun a y => (a.1, g a.2 y)) := fun a vs S y ⟨v, ws, e, r, r2⟩ z => ⟨v, ws, e, r, h _ _ _ _ r2 z⟩
theorem k_cast {C : Addr} {keys : List Str} {A : TyA α} {A' : TyA γ} {g : α → β → γ} {p q : Addr} {c : List Cell} {a : α} {y : β} {P : Prop} (hG : Okc G S) (j l : Nat) (hf : G[j]? = some ((oIns C keys A).f a p c)) (hy : G[l]? = some (U.f y (.ref q))) (ls : LsT A A' q U g)
    (next : Okc ((oIns C keys A').f (g a y) p c :: G) S → P) : P := by
  obtain ⟨dx, vs, e0, l', nd, r0⟩ := (Okc.at j hf hG : (oIns C keys A).rep a p c S)
  exact next ⟨⟨dx, vs, e0, l', nd, ls _ _ _ _ r0 (Okc.at l hy hG)⟩, hG⟩
/-! ### making -/
/-- the promise of an __init__ -/
def spI (A : TyA α) (m : α → Option β) (C : Addr) (keys : List Str) (A' : TyA β) : Sp := fun vs H Q _ => ∃ (S : Hp) (F : Ow) (a : α) (r : β) (p dx : Addr) (ws : List V), vs = .ref p :: ws ∧ A.rep a ws S ∧ Wd S ([[(p, .ins C dx []), (dx, .own p)]] ++ F) H ∧ m a = some r ∧
  ∀ c S' H', Same S S' → Wd S' ([c] ++ F) H' → (oIns C keys A').rep r p c S' → Q .non H'
theorem simF_make {C : Addr} {keys : List Str} {A : TyA α} {A' : TyA β} {f : α → Option β} {ta : TA} {ma : Option α} {E : XK} (h : SimA G O ta σ ma A) : SimF G O (tMake C (spI A f C keys A') [] E ta) σ (ma.bind fun a => f a) (oIns C keys A') := fun S H F r hG w hm Q k => by
  obtain ⟨a, h1, hm⟩ := bind_some hm
  refine h S H F a hG w h1 _ fun vs S1 H1 s1 w1 q1 => fun x dx hx hdx ne => ?_
  refine ⟨S1, O ++ F, a, r, x, dx, vs ++ [], rfl, by rw [List.append_nil]; exact q1, ?_, hm, fun c S2 H2 s2 w2 q2 => ⟨rfl, k x c S2 H2 (s1.trans s2) w2 q2⟩⟩
  have w2 := w1.newO (o := .own x) hdx
  have hx2 : upd H1 dx (.own x) x = none := by rw [upd_ne (fun e => ne e.symm)]; exact hx
  have w3 := w2.newO (o := .ins C dx []) hx2
  exact w3
/-- a class that may be made by its name -/
structure Mak (CX : CXT) (P : Program) (w : World) (K : PySem.W.Frag) (mg : Str → Option Value) (base : Heap) (k : Nat) (x : Str) (C : Addr) (sp : Sp) : Prop where
  ex : ∃ (f : Addr) (fd : FuncData) (ps : List Str), Mk K C f ∧ FnOk P w K mg base CX k f fd ps sp ∧ mg x = some (.ref C) ∧ Binds K fd ps []
/-- an __init__ of the text; the last nd of its parameters have defaults -/
structure IDefAt (K : PySem.W.Frag) (mg : Str → Option Value) (x : Str) (C : Addr) (qual : Str) (st : Stmt) (nd : Nat) : Prop where
  ex : ∃ (f : Addr) (fd : FuncData) (dvs : List V), dvs.length = nd ∧ FunD K "__init__" qual (defArgs st) (defBody st) (defScope st) dvs [] f fd ∧ Mk K C f ∧ mg x = some (.ref C)
section
variable {CX : CXT} {P : Program} {w : World} {mg : Str → Option Value} {base : Heap}
theorem vals_nil {us : List Value} (h : Vals [] us) : us = [] := by cases h; rfl
theorem mak_mk {x qual : Str} {C : Addr} {st : Stmt} {N ps : List Str} {k nd : Nat} {sp : Sp} (D : IDefAt K mg x C qual st nd) (S : FnScope N ps (defScope st)) (len : ∀ vs H Q E, sp vs H Q E → vs.length = ps.length)
    (hb : (∀ (kV doc pm : Value) (an : Option Addr) (cdv ct : Value) (us : List Value), nd = 0 → us.length = ps.length → bindArgs (PySem.W.fnOf "__init__" qual (defArgs st) (defBody st) (defScope st) .none kV doc pm an cdv ct) ⟨us, []⟩ = pure (ps.zip us)) ∧
      (∀ (T : Addr) (kV doc pm : Value) (an : Option Addr) (cdv ct : Value) (us its : List Value), nd ≠ 0 → us.length = ps.length → its.length = nd →
        ∃ k, bindArgs (PySem.W.fnOf "__init__" qual (defArgs st) (defBody st) (defScope st) (.ref T) kV doc pm an cdv ct) ⟨us, []⟩ = seqItems? (.ref T) >>= k ∧ k (some its.toArray) = pure (ps.zip (us ++ its.drop nd))))
    (hbody : ∀ (f : Addr) (cdv : Value) (A : Around) (outer : List Env) (s : Shared) (H : Hp) (vs : List V) (Q : VK) (E : XK), Room k (A.deeper (envOfC qual (defScope st) s.heap.objs.size f cdv)) → sp vs H Q E →
      ∃ t, PSs (cxOf CX P w K mg base N qual (defScope st) f cdv A outer s H E) (defBody st) t ∧ t { nx := fun _ H' => Q .non H', rt := Q } (start N vs) H) : Mak CX P w K mg base (k + 1) x C sp := by
  obtain ⟨f, fd, dvs, hl, F, M, hm⟩ := D.ex
  refine ⟨f, fd, ps, M, F.ok S len (fun cdv A outer s H vs Q E hr h => hbody f cdv A outer s H vs Q E hr h), hm, ?_⟩
  cases dvs with
  | nil => exact F.bindsN fun kV doc pm an cdv ct us h => hb.1 kV doc pm an cdv ct us hl.symm h
  | cons d ds =>
    have h0 : nd ≠ 0 := by rw [← hl]; simp
    obtain ⟨vs, h1, h2⟩ := F.binds1 (ps := ps) ps.length (d :: ds).length (List.cons_ne_nil _ _) (by simp) fun T kV doc pm an cdv ct us its h3 h4 => by
      obtain ⟨k, e1, e2⟩ := hb.2 T kV doc pm an cdv ct us its h0 h3 (h4.trans hl)
      exact ⟨k, e1, by rw [hl]; exact e2⟩
    rw [List.drop_length] at h1
    rw [vals_nil h1] at h2
    exact h2
end
section
variable {X : Cx} {CX : CXT} {k j : Nat} {x : Str} {C : Addr} {sp : Sp} {p pos : Pos} {e : Expr} {es : List Expr} {t : TA} {E : XK}
theorem pe_mak (c : Mak CX X.prog X.w X.K X.mg X.base k x C sp) (hr : Room j X.A) (hk : k + 1 ≤ j) (hg : Gl X x) (hx : Passes CX X E) (ha : PA X (e :: es) t)
    (hdb : (x == ("__debug__" : Str)) = false := by decide) (he : starEach (e :: es) X.env = (false, eval e X.env) :: starEach es X.env := by rfl) (hpl : (backTo pos (starEach es X.env)).any (·.1) = false := by rfl) :
    PE X (.Call (.Name x p) (e :: es) [] pos) (tMake C sp [] E t) := by
  obtain ⟨f, fd, ps, M, F, hm, b⟩ := c.ex
  exact pe_make M F (hr.mono hk) hg hm b .nil hx ha hdb he hpl
end
/-! ### constants of a class -/
section
variable {X : Cx} {o e : Expr} {f : Str} {pos : Pos} {ta : TE}
theorem pe_cvalK (he : PE X e ta) (hb : attributeBase e f X.env (eval e X.env) = eval e X.env := by rfl) (hK : X.K = K := by rfl) : PE X (.Attribute e f pos) (tCVal K ta f) := by subst hK; exact pe_cval he hb
end
structure CCon (K : PySem.W.Frag) (C : Addr) (f : Str) (i : Int) : Prop where
  ex : ∃ mc u, CRead K C mc ∧ CVal K C mc f (.int i) u
theorem sim_cval {C : Addr} {f : Str} {i : Int} (c : CCon K C f i) : Sim G O (tCVal K (tC (.ref C)) f) σ (some i) tInt := fun S H F r hG w hm Q k => by
  cases hm
  obtain ⟨mc, u, h1, h2⟩ := c.ex
  exact ⟨C, mc, _, u, rfl, h1, h2, k _ S H (Same.refl _) w rfl⟩
/-! ### sorted pairs -/
def lexP (a b : Int × Int) : Bool := decide (a.1 < b.1 ∨ (a.1 = b.1 ∧ a.2 ≤ b.2))
def sortP (xs : List (Int × Int)) : List (Int × Int) := xs.mergeSort lexP
end
end HF

set_option Elab.async false
set_option linter.all false
set_option maxRecDepth 100000
set_option maxHeartbeats 2000000
/-! Mini12: sorted pairs. -/
namespace HF
open PySem PySem.Spec L2 ClX
open PyProof.Rows hiding St
theorem lexP_trans (a b c : Int × Int) : lexP a b = true → lexP b c = true → lexP a c = true := by
  unfold lexP
  simp only [decide_eq_true_eq]
  omega
theorem lexP_total (a b : Int × Int) : (lexP a b || lexP b a) = true := by
  unfold lexP
  simp only [Bool.or_eq_true, decide_eq_true_eq]
  omega
theorem lexP_lexB {a b : Int × Int} : lexP a b = true ↔ SrtO.lexB b a = false := by
  rw [SrtO.lexB_no]
  unfold lexP
  simp only [decide_eq_true_eq]
  omega
theorem eqv_lex {a b : Int × Int} : SrtO.eqv SrtO.lexB a b = true ↔ a = b := by
  rw [SrtO.eqv_iff, SrtO.lexB_no, SrtO.lexB_no]
  constructor
  · intro h
    exact Prod.ext (by omega) (by omega)
  · rintro rfl
    omega
theorem stb_perm {l m : List (Int × Int)} (h : l.Perm m) : SrtO.Stb SrtO.lexB l m := by
  refine ⟨h, fun x => ?_⟩
  have e1 : ∀ n : List (Int × Int), n.filter (SrtO.eqv SrtO.lexB x) = List.replicate (n.filter (SrtO.eqv SrtO.lexB x)).length x := fun n =>
    List.eq_replicate_of_mem fun b hb => (eqv_lex.mp (List.mem_filter.mp hb).2).symm
  rw [e1 l, e1 m, (h.filter _).length_eq]
theorem swo_lexB : SrtO.Swo SrtO.lexB := by
  refine ⟨fun x y h => ?_, fun x y z h1 h2 => ?_⟩
  · have a := SrtO.lexB_iff.mp h
    refine SrtO.lexB_no.mpr ?_
    omega
  · have a := SrtO.lexB_no.mp h1
    have b := SrtO.lexB_no.mp h2
    refine SrtO.lexB_no.mpr ?_
    omega
theorem srtd_sortP (xs : List (Int × Int)) : SrtO.Srtd SrtO.lexB (sortP xs) := by
  have h := List.pairwise_mergeSort (le := lexP) lexP_trans lexP_total xs
  exact h.imp fun r => lexP_lexB.mp r
theorem sortP_uniq {xs ys : List (Int × Int)} (h1 : SrtO.Srtd SrtO.lexB ys) (h2 : ys.Perm xs) : ys = sortP xs :=
  SrtO.stb_uniq swo_lexB h1 (srtd_sortP xs) (stb_perm (h2.trans (List.mergeSort_perm xs lexP).symm))
def keyP (S : Hp) : V → Int × Int
  | .ref t => (match S t with
    | some (.tup [.int i, .int j]) => (i, j)
    | _ => (0, 0))
  | _ => (0, 0)
theorem keyP_of {S : Hp} {a : Int × Int} {v : V} (h : (tP tInt tInt).rep a v S) : keyP S v = a ∧ ∃ t, v = .ref t ∧ S t = some (.tup [.int a.1, .int a.2]) := by
  obtain ⟨t, x, y, rfl, g, h1, h2⟩ := h
  have e1 : x = .int a.1 := h1
  have e2 : y = .int a.2 := h2
  subst e1 e2
  refine ⟨?_, t, rfl, g⟩
  show (match S t with
      | some (.tup [.int i, .int j]) => (i, j)
      | _ => (0, 0)) = a
  rw [g]
theorem keyP_map {S : Hp} {xs : List (Int × Int)} {vs : List V} (r : Rl (tP tInt tInt) S xs vs) : vs.map (keyP S) = xs := by
  induction r with
  | nil => rfl
  | cons q _ ih => rw [List.map_cons, ih, (keyP_of q).1]
section
variable {G : List Fact} {O : Ow} {σ : St} {K : PySem.W.Frag}
theorem simF_sortedP {TL : Ty (List (Int × Int))} [Lk O (oL (tP tInt tInt)) TL] {ta : TE} {ma : Option (List (Int × Int))} (ha : Sim G O ta σ ma TL) : SimF G O (tCB (rSortedPO K) (tCons ta tNil)) σ (ma.bind fun a => some (sortP a)) (oL (tP tInt tInt)) := fun S H F r hG w hm Q k => by
  obtain ⟨xs, h1, hm⟩ := bind_some hm
  cases hm
  refine ha S H F xs hG w h1 _ fun v S1 H1 s1 w1 q1 => ?_
  obtain ⟨p, vs, rfl, r, g⟩ := lkL (O := O) (T := tP tInt tInt) q1
  have hkey : ∀ v ∈ vs, (tP tInt tInt).rep (keyP S1 v) v S1 := fun v m => by
    obtain ⟨i, hi⟩ := List.getElem?_of_mem m
    obtain ⟨x, _, h3⟩ := r.getV hi
    rw [(keyP_of h3).1]
    exact h3
  have hmap : vs.map (keyP S1) = xs := keyP_map r
  refine ⟨p, vs, keyP S1, rfl, SqL.of (g H1 F w1), fun x m => ?_, fun ys q hs hb hn => ?_⟩
  · obtain ⟨_, t, e, h3⟩ := keyP_of (hkey x m)
    exact ⟨t, e, w1.st _ _ h3⟩
  · have hy : ys.map (keyP S1) = sortP xs := by
      refine sortP_uniq (SrtO.srtd_map hs) ?_
      have := (hb.perm).map (keyP S1)
      rw [hmap] at this
      exact this
    have hr : Rl (tP tInt tInt) S1 (ys.map (keyP S1)) ys := by
      have : ∀ y ∈ ys, (tP tInt tInt).rep (keyP S1 y) y S1 := fun y m => hkey y (hb.perm.mem_iff.mp m)
      clear hs hb hy
      induction ys with
      | nil => exact .nil
      | cons y ys ih => exact .cons (this y (List.mem_cons_self ..)) (ih fun z m => this z (List.mem_cons_of_mem _ m))
    rw [hy] at hr
    exact k q _ S1 _ s1 (w1.newO hn) ⟨ys, rfl, hr⟩
end
section
variable {X : Cx} {K : PySem.W.Frag}
theorem cr_sortedPK (hK : X.K = K := by rfl) : CallR X (.builtin "sorted") (rSortedPO K) := by subst hK; exact cr_sortedPO
end
end HF

set_option Elab.async false
set_option linter.all false
set_option maxRecDepth 100000
set_option maxHeartbeats 2000000
/-! Mini13: the house. -/
namespace HF
open PySem PySem.Spec L2 ClX
open PyProof.Rows hiding St
abbrev k_House : List Str := ["_below_masks", "_above_masks", "_below", "_above", "_order", "count", "hues", "wires", "_direct"]
abbrev R_House := List Int × List Int × List (List Int) × List (List Int) × List Int × Int × Int × List (Int × Int) × List (List Int)
abbrev A_House : TyA R_House := .c (tL tInt) (.c (tL tInt) (.c (tL (tL tInt)) (.c (tL (tL tInt)) (.c (tL tInt) (.c tInt (.c tInt (.c (tT (tP tInt tInt)) (.one (tL (tL tInt))))))))))
def toHouse (r : R_House) : HouseD := { belowM := r.1, aboveM := r.2.1, below := r.2.2.1, above := r.2.2.2.1, order := r.2.2.2.2.1, count := r.2.2.2.2.2.1, hues := r.2.2.2.2.2.2.1, wires := r.2.2.2.2.2.2.2.1, direct := r.2.2.2.2.2.2.2.2 }
theorem house_of {C : Addr} : ∀ (a : R_House) (v : V) (S : Hp), (tIns C k_House A_House).rep a v S → (tHouse C).rep (toHouse a) v S := fun a v S ⟨p, dx, vs, e, g, _, l, n, r⟩ => by
  obtain ⟨v1, _, rfl, h1, v2, _, rfl, h2, v3, _, rfl, h3, v4, _, rfl, h4, v5, _, rfl, h5, v6, _, rfl, h6, v7, _, rfl, h7, v8, _, rfl, h8, v9, rfl, h9⟩ := r
  exact ⟨p, dx, _, e, g, ⟨⟨_, rfl, h1⟩, ⟨_, rfl, h2⟩, ⟨_, rfl, h3⟩, ⟨_, rfl, h4⟩, ⟨_, rfl, h5⟩, ⟨_, rfl, h6⟩, ⟨_, rfl, h7⟩, ⟨_, rfl, h8⟩, ⟨_, rfl, h9⟩, fun m n1 n2 n3 n4 n5 n6 n7 n8 n9 => lookup_zip_none (by simp only [List.mem_cons, List.not_mem_nil, or_false, not_or]; exact ⟨n1, n2, n3, n4, n5, n6, n7, n8, n9⟩)⟩⟩
section
variable {X : Cx} {K : PySem.W.Frag} {o value : Expr} {f : Str} {pos pos' : Pos} {ta tv : TE}
theorem ps_fldK (ha : PE X o ta) (hv : PE X value tv) (hs : swapsWith value (some (.Attribute o f pos')) pos.line X.env = pure false := by rfl) (hK : X.K = K := by rfl) : PS X (.Assign [.Attribute o f pos'] value pos) (sFld K ta tv f) := by
  subst hK; exact ps_fld ha hv hs
end
theorem x_endI {β : Type} {OT : OTy β} {r out : β} {p : Addr} {c : List Cell} {S0 S H : Hp} {F : Ow} {Q : VK} (hm : some r = some out) (k : ∀ c S' H', Same S0 S' → Wd S' ([c] ++ F) H' → OT.rep out p c S' → Q .non H') (s : Same S0 S) (W : Wd S ([c] ++ F) H) (h : OT.rep r p c S) : Q .non H := by
  cases hm; exact k _ _ _ s W h
section
variable {G : List Fact} {O : Ow} {σ : St}
theorem sim_house {C : Addr} {t : TE} {m : Option R_House} (h : SimF G O t σ m (oIns C k_House A_House)) : Sim G O t σ (m.bind fun a => some (toHouse a)) (tHouse C) :=
  sim_imp (h.frz frz_Ins) house_of
end
end HF

set_option Elab.async false
set_option linter.all false
set_option maxRecDepth 100000
set_option maxHeartbeats 2000000
/-! Mini14: the script. -/
namespace HF
open PySem PySem.Spec L2 ClX
open PyProof.Rows hiding St
theorem SqL_mono {K : PySem.W.Frag} {S S' : Hp} {p : Addr} {xs : List V} (s : Same S S') (h : SqL K S p xs) : SqL K S' p xs := by
  rcases h with (h | ⟨o, h⟩) | h
  · exact .inl (.inl (s _ _ h))
  · exact .inl (.inr ⟨o, s _ _ h⟩)
  · exact .inr h
def tScr (K : PySem.W.Frag) : Ty (List Int) := ⟨fun xs v S => ∃ p, v = .ref p ∧ SqL K S p (xs.map V.int), fun s ⟨p, e, h⟩ => ⟨p, e, SqL_mono s h⟩⟩
section
variable {G : List Fact} {O : Ow} {σ : St} {K : PySem.W.Frag}
theorem simF_sliceS {te : TE} {tl th : TO} {ma : Option (List Int)} {ml mh : Option (Option Int)} (ha : Sim G O te σ ma (tScr K)) (hl : SimO G O tl σ ml) (hh : SimO G O th σ mh) :
    SimF G O (tSl (rSlL K) te tl th) σ (ma.bind fun a => ml.bind fun l => mh.bind fun h => some (cutL a l h)) (oL tInt) := fun S H F r hG w hm Q k => by
  obtain ⟨a, h1, hm⟩ := bind_some hm
  obtain ⟨b, h2, hm⟩ := bind_some hm
  obtain ⟨c, h3, hm⟩ := bind_some hm
  cases hm
  refine ha S H F a hG w h1 _ fun x S1 H1 s1 w1 q1 => ?_
  refine hl S1 H1 F b (hG.mono s1) w1 h2 _ fun S2 H2 s2 w2 => ?_
  refine hh S2 H2 F c (hG.mono (s1.trans s2)) w2 h3 _ fun S3 H3 s3 w3 => ?_
  obtain ⟨p, rfl, g⟩ := (tScr K).mono (s2.trans s3) q1
  exact ⟨p, _, rfl, SqL_mono w3.st g, fun l hl => k l _ S3 _ ((s1.trans s2).trans s3) (w3.newO hl) ⟨_, rfl, (rl_ints S3 a).cut b c⟩⟩
theorem sim_ixS {ta tb : TE} {ma : Option (List Int)} {mb : Option Int} (ha : Sim G O ta σ ma (tScr K)) (hb : Sim G O tb σ mb tInt) : Sim G O (tOp (rIxL K) ta tb) σ (ma.bind fun a => mb.bind fun b => x_ix a b) tInt :=
  sim_op2 (fun a b c x y S H F h1 h2 w e Q k => by
    obtain ⟨p, rfl, g⟩ := h1
    obtain ⟨v, h3, h4⟩ := atI_rl (rl_ints S a) e
    exact ⟨p, _, b, v, rfl, h2, SqL_mono w.st g, h3, k v S H (Same.refl _) w h4⟩) ha hb
theorem sim_lenS {ta : TE} {ma : Option (List Int)} (ha : Sim G O ta σ ma (tScr K)) : Sim G O (tCB (rLn K) (tCons ta tNil)) σ (ma.bind fun a => some (a.length : Int)) tInt := fun S H F r hG w hm Q k => by
  obtain ⟨a, h1, hm⟩ := bind_some hm
  cases hm
  refine ha S H F a hG w h1 _ fun v S1 H1 s1 w1 q => ?_
  obtain ⟨p, rfl, g⟩ := q
  refine ⟨p, _, rfl, .inl (SqL_mono w1.st g), k _ S1 H1 s1 w1 ?_⟩
  show V.int _ = V.int _
  rw [List.length_map]
end
/-- what the law's def promises, as the head asks for it -/
theorem law_end {K : PySem.W.Frag} {m : List Int → Option Bool} {H : Hp} {a : Addr} {ns : List Int} (hS : SqL K H a (ns.map V.int)) (hm : m ns = some true) : spP (TyA.one (tScr K)) m tBool [.ref a] H (fun v _ => v = .bl true) fun _ _ _ => False := by
  refine ⟨H, [], ns, true, ⟨_, rfl, a, rfl, hS⟩, ⟨Same.refl _, ?_, List.nodup_nil⟩, hm, fun v S' H' _ _ r => r⟩
  intro p o m
  cases m
end HF

set_option Elab.async false
set_option linter.all false
set_option maxRecDepth 100000
set_option maxHeartbeats 2000000
/-! Mini15: the head's hook, with the classes' constants. -/
namespace HF
open PySem PySem.Spec L2 ClX
open PyProof.Rows hiding St
def conB (K : PySem.W.Frag) (q : Str × Str × Int) : Bool := PySem.W.readsIn K (He.ga K q.1) (.type "type") &&
  (He.eqO (PySem.W.specialIn K (.ref (He.ga K q.1)) "__getattribute__") (some (some (.builtin "type.__getattribute__"))) &&
    match PySem.W.findCls K (.ref (He.ga K q.1)) (.type "type") q.2.1 with
    | some (.val u) => He.relB (.int q.2.2) u
    | _ => false)
theorem conB_ok {K : PySem.W.Frag} {q : Str × Str × Int} (h : conB K q = true) : CCon K (He.ga K q.1) q.2.1 q.2.2 := by
  obtain ⟨h1, h2⟩ := He.ba h
  obtain ⟨h3, h4⟩ := He.ba h2
  have h5 : (match PySem.W.findCls K (.ref (He.ga K q.1)) (.type "type") q.2.1 with
    | some (.val u) => He.relB (.int q.2.2) u
    | _ => false) = true := h4
  cases e : PySem.W.findCls K (.ref (He.ga K q.1)) (.type "type") q.2.1 with
  | none =>
    rw [e] at h5
    cases h5
  | some o =>
    rw [e] at h5
    cases o with
    | val u => exact ⟨_, u, ⟨h1, He.eqO_ok h3⟩, ⟨e, He.relB_ok h5⟩⟩
    | _ => cases h5
def exB (l : List (Str × Str × Int)) (K : PySem.W.Frag) : Bool := l.all fun q => conB K q
theorem exB_ok {l : List (Str × Str × Int)} {K : PySem.W.Frag} (h : exB l K = true) (i : Nat) {q : Str × Str × Int} (e : l[i]? = some q) : CCon K (He.ga K q.1) q.2.1 q.2.2 := conB_ok (List.all_eq_true.mp h q (List.mem_of_getElem? e))
abbrev AlX : Type := Bool × He.AlD
def asX (g : Addr → Option Obj) : Nat → List Addr
  | 0 => [mainGlobals, cStatics]
  | n + 1 => He.growD g (asX g n)
def obsK (fa : List He.Fa) (fn : List He.DefD) (l : List (Str × Str × Int)) (K : PySem.W.Frag) : AlX := (exB l K, He.obsD fa fn K)
def obsX (n : Nat) (fa : List He.Fa) (fn : List He.DefD) (l : List (Str × Str × Int)) (g : Addr → Option Obj) : AlX := obsK fa fn l (He.frG g (asX g n))
def hookX (n : Nat) (fa : List He.Fa) (fn : List He.DefD) (l : List (Str × Str × Int)) : PySem.W.Hook where
  α := AlX
  obs := fun s => obsX n fa fn l s.heap.get?
  val := fun _ => (true, He.valD fn)
  says := fun _ h => ∃ K : PySem.W.Frag, K.In h ∧ He.SaysD fa fn K ∧ exB l K = true
  of := fun _ _ e => ⟨_, He.frG_in, congrArg (fun z : AlX => z.2) e, congrArg (fun z : AlX => z.1) e⟩
  keeps := fun _ _ _ ⟨K, hK, c, d⟩ k => ⟨K, PySem.W.Frag.In.keeps hK k, c, d⟩
theorem obsX_eq {n : Nat} {fa : List He.Fa} {fn : List He.DefD} {l : List (Str × Str × Int)} {g : Addr → Option Obj} {s : Shared} (h : ∀ a, g a = s.heap.get? a) : obsX n fa fn l g = (hookX n fa fn l).obs s := by
  have e : g = s.heap.get? := funext h
  rw [e] <;> rfl
theorem int_okV {K : PySem.W.Frag} {h : Heap} {mg : Str → Option Value} (X : K.In h) (G : h.Ns mainGlobals mg) {x : Str} {i : Int} (c : (He.Fa.int x i).ok K = true) : ∃ u, mg x = some u ∧ RelV (.int i) u := by
  obtain ⟨t, e⟩ := He.int_ok X G c
  exact ⟨_, e, t, rfl⟩
theorem def_at {K : PySem.W.Frag} {mg : Str → Option Value} {x : Str} {st : Stmt} {f : Addr} (h : ∃ fd, FunD K x x (defArgs st) (defBody st) (defScope st) [] [] f fd) (e : mg x = some (.ref f)) : DefAt K mg x st := by
  obtain ⟨fd, F⟩ := h
  exact ⟨f, fd, F, e⟩
theorem mdef_at {K : PySem.W.Frag} {C : Addr} {m qual : Str} {st : Stmt} {f : Addr} (h : ∃ fd, FunD K m qual (defArgs st) (defBody st) (defScope st) [] [] f fd) (c : Cls K C) (e : Meth K C m f) : MDefAt K C m qual st := by
  obtain ⟨fd, F⟩ := h
  exact ⟨f, fd, F, c, e⟩
theorem idef_at {K : PySem.W.Frag} {mg : Str → Option Value} {x qual : Str} {C : Addr} {st : Stmt} {nd : Nat} {f : Addr} {dvs : List V} (h : ∃ fd, FunD K "__init__" qual (defArgs st) (defBody st) (defScope st) dvs [] f fd) (l : dvs.length = nd) (m : Mk K C f) (e : mg x = some (.ref C)) : IDefAt K mg x C qual st nd := by
  obtain ⟨fd, F⟩ := h
  exact ⟨f, fd, dvs, l, F, m, e⟩
theorem glo_okR {K : PySem.W.Frag} {h : Heap} {mg : Str → Option Value} (X : K.In h) (G : h.Ns mainGlobals mg) {x : Str} (c : (He.Fa.glo x).ok K = true) : ∃ u, mg x = some u ∧ RelV (.ref (He.ga K x)) u := ⟨_, He.glo_ok X G c, rfl⟩
end HF

set_option Elab.async false
set_option linter.all false
set_option maxRecDepth 100000
set_option maxHeartbeats 2000000
/-! Mini16: keyword-only parameters; loops over what a step by step expression gives; is of bools; what is there in spite of None. -/
namespace HF
open PySem PySem.Spec L2
open PyProof.Rows hiding St
/-- a def whose keyword-only parameters have the defaults kws -/
structure KDefAt (K : PySem.W.Frag) (mg : Str → Option Value) (x : Str) (st : Stmt) (kws : List (Str × V)) : Prop where
  ex : ∃ (f : Addr) (fd : FuncData), FunD K x x (defArgs st) (defBody st) (defScope st) [] kws f fd ∧ mg x = some (.ref f)
theorem kdef_at {K : PySem.W.Frag} {mg : Str → Option Value} {x : Str} {st : Stmt} {f : Addr} {kws : List (Str × V)} (h : ∃ fd, FunD K x x (defArgs st) (defBody st) (defScope st) [] kws f fd) (e : mg x = some (.ref f)) : KDefAt K mg x st kws := by
  obtain ⟨fd, F⟩ := h
  exact ⟨f, fd, F, e⟩
/-- it may be called by its name: n written values, then all keywords or none -/
structure KCal (CX : CXT) (P : Program) (w : World) (K : PySem.W.Frag) (mg : Str → Option Value) (base : Heap) (k : Nat) (x : Str) (sp : Sp) (n : Nat) (kws : List (Str × V)) : Prop where
  ex : ∃ (f : Addr) (fd : FuncData) (ps : List Str), FnOk P w K mg base CX k f fd ps sp ∧ mg x = some (.ref f) ∧ PySem.W.keepIn K (.ref f) = true ∧
    (∃ ds, Vals (kws.map (·.2)) ds ∧ Binds K fd ps ds) ∧ ∃ g : List Value → List Value → List Value, KBn K fd ps n (kws.map (·.1)) g fun vs zs => vs ++ zs
section
variable {CX : CXT} {P : Program} {w : World} {K : PySem.W.Frag} {mg : Str → Option Value} {base : Heap}
theorem kcal_mk {x : Str} {st : Stmt} {N ps : List Str} {k n : Nat} {sp : Sp} {kws : List (Str × V)} (D : KDefAt K mg x st kws) (S : FnScope N ps (defScope st)) (len : ∀ vs H Q E, sp vs H Q E → vs.length = ps.length) (hk : kws ≠ []) (hn : n + kws.length = ps.length)
    (hb : ∀ (D : Addr) (doc pm : Value) (an : Option Addr) (cdv ct : Value) (us ks : List Value), us.length = n → ks.length = kws.length →
      KwChain D ((kws.map (·.1)).zip ks) (bindArgs (PySem.W.fnOf x x (defArgs st) (defBody st) (defScope st) .none (.ref D) doc pm an cdv ct) ⟨us, []⟩) (ps.zip (us ++ ks)))
    (hb2 : ∀ (D : Addr) (doc pm : Value) (an : Option Addr) (cdv ct : Value) (us ws : List Value), us.length = n → ws.length = kws.length →
      bindArgs (PySem.W.fnOf x x (defArgs st) (defBody st) (defScope st) .none (.ref D) doc pm an cdv ct) ⟨us, (kws.map (·.1)).zip ws⟩ = pure (ps.zip (us ++ ws)))
    (hbody : ∀ (f : Addr) (cdv : Value) (A : Around) (outer : List Env) (s : Shared) (H : Hp) (vs : List V) (Q : VK) (E : XK), Room k (A.deeper (envOfC x (defScope st) s.heap.objs.size f cdv)) → sp vs H Q E →
      ∃ t, PSs (cxOf CX P w K mg base N x (defScope st) f cdv A outer s H E) (defBody st) t ∧ t { nx := fun _ H' => Q .non H', rt := Q } (start N vs) H) : KCal CX P w K mg base (k + 1) x sp n kws := by
  obtain ⟨f, fd, F, hm⟩ := D.ex
  refine ⟨f, fd, ps, F.ok S len (fun cdv A outer s H vs Q E hr h => hbody f cdv A outer s H vs Q E hr h), hm, F.kp, F.binds0 n hk hn hb, ?_⟩
  obtain ⟨mv, h⟩ := F.kbinds0 n (kws.map (·.1)) [] (fun us _ ws => us ++ ws) hk (fun q m => by cases m) (fun r1 _ r3 => r1.append r3) fun D doc pm an cdv ct us mv ws l1 _ l3 => by
    have := hb2 D doc pm an cdv ct us ws l1 (by simpa using l3)
    exact this
  exact ⟨_, h⟩
end
section
variable {X : Cx} {CX : CXT} {k j n : Nat} {x : Str} {sp : Sp} {p pos : Pos} {e : Expr} {es : List Expr} {t tk : TA} {E : XK} {kws : List (Str × V)} {kw : List Keyword}
theorem pe_kcal0 (c : KCal CX X.prog X.w X.K X.mg X.base k x sp n kws) (hr : Room j X.A) (hk : k ≤ j) (hg : Gl X x) (hx : Passes CX X E) (ha : PA X (e :: es) t)
    (hdb : (x == ("__debug__" : Str)) = false := by decide) (he : starEach (e :: es) X.env = (false, eval e X.env) :: starEach es X.env := by rfl) (hpl : (backTo pos (starEach es X.env)).any (·.1) = false := by rfl) :
    PE X (.Call (.Name x p) (e :: es) [] pos) (tCall sp (kws.map (·.2)) E t) := by
  obtain ⟨f, fd, ps, F, hm, kp, ⟨ds, hd, b⟩, _⟩ := c.ex
  exact pe_call F (hr.mono hk) hg hm kp b hd hx ha hdb he hpl
theorem pe_kcal (c : KCal CX X.prog X.w X.K X.mg X.base k x sp n kws) (hr : Room j X.A) (hk : k ≤ j) (hg : Gl X x) (hx : Passes CX X E) (ha : PA X (e :: es) t) (hkw : PK X kw tk)
    (hall : (backToKw pos (keywordEach kw X.env)).all (·.1.isSome) = true := by rfl) (hks : (backToKw pos (keywordEach kw X.env)).filterMap (·.1) = kws.map (·.1) := by rfl)
    (hdb : (x == ("__debug__" : Str)) = false := by decide) (he : starEach (e :: es) X.env = (false, eval e X.env) :: starEach es X.env := by rfl)
    (hpl : ((backTo pos (starEach (e :: es) X.env)).any (·.1) || (backToKw pos (keywordEach kw X.env)).any (·.1.isNone)) = false := by rfl) :
    PE X (.Call (.Name x p) (e :: es) kw pos) (tCallN n kws.length sp (fun vs zs => vs ++ zs) E t tk) := by
  obtain ⟨f, fd, ps, F, hm, kp, _, g, b⟩ := c.ex
  have := pe_callN (p := p) F (hr.mono hk) hg hm kp b hx ha hkw hall hks hdb he hpl
  rw [List.length_map] at this
  exact this
end
section
variable {α β γ ρ δ : Type} {G : List Fact} {O O0 F : Ow} {σ : St} {T : Ty α} {U : Ty β} {W' : Ty γ} {K : PySem.W.Frag} {S H : Hp} {D : Ends} {out : ρ} {u : TS} {Q : VK}
/-- values behind others -/
def TyA.app {α β : Type} (A : TyA α) (B : TyA β) : TyA (α × β) := ⟨fun a vs S => ∃ us ws, vs = us ++ ws ∧ A.rep a.1 us S ∧ B.rep a.2 ws S, fun h ⟨us, ws, e, r, q⟩ => ⟨us, ws, e, A.mono h r, B.mono h q⟩⟩
/-- f(..) with its defaults -/
theorem sim_callD {A : TyA α} {A' : TyA β} {ext : α → β} {f : β → Option γ} {ta : TA} {ma : Option α} {E : XK} {dvs : List V} (hx : ∀ a vs S, A.rep a vs S → A'.rep (ext a) (vs ++ dvs) S) (h : SimA G O ta σ ma A) : Sim G O (tCall (spP A' f W') dvs E ta) σ (ma.bind fun a => f (ext a)) W' := fun S H F r hG w hm Q k => by
  obtain ⟨a, h1, hm⟩ := bind_some hm
  refine h S H F a hG w h1 _ fun vs S1 H1 s1 w1 q1 => ?_
  exact ⟨S1, O ++ F, ext a, r, hx _ _ _ q1, w1, hm, fun v S2 H2 s2 w2 q2 => k v S2 H2 (s1.trans s2) w2 q2⟩
theorem simF_callD {A : TyA α} {A' : TyA β} {ext : α → β} {f : β → Option γ} {OT : OTy γ} {ta : TA} {ma : Option α} {E : XK} {dvs : List V} (hx : ∀ a vs S, A.rep a vs S → A'.rep (ext a) (vs ++ dvs) S) (h : SimA G O ta σ ma A) : SimF G O (tCall (spF A' f OT) dvs E ta) σ (ma.bind fun a => f (ext a)) OT := fun S H F r hG w hm Q k => by
  obtain ⟨a, h1, hm⟩ := bind_some hm
  refine h S H F a hG w h1 _ fun vs S1 H1 s1 w1 q1 => ?_
  exact ⟨S1, O ++ F, ext a, r, hx _ _ _ q1, w1, hm, fun p c S2 H2 s2 w2 q2 => k p c S2 H2 (s1.trans s2) w2 q2⟩
/-- f(.., k = v) -/
theorem sim_callK {A : TyA α} {B : TyA δ} {A' : TyA β} {ext : α → δ → β} {f : β → Option γ} {ta tk : TA} {ma : Option α} {mb : Option δ} {E : XK} {n m : Nat} (hn : ∀ a vs S, A.rep a vs S → vs.length = n) (hm' : ∀ a vs S, B.rep a vs S → vs.length = m) (hx : ∀ a b vs zs S, A.rep a vs S → B.rep b zs S → A'.rep (ext a b) (vs ++ zs) S)
    (h : SimA G O ta σ ma A) (hb : SimA G O tk σ mb B) : Sim G O (tCallN n m (spP A' f W') (fun vs zs => vs ++ zs) E ta tk) σ (ma.bind fun a => mb.bind fun b => f (ext a b)) W' := fun S H F r hG w hm Q k => by
  obtain ⟨a, h1, hm⟩ := bind_some hm
  obtain ⟨b, h2, hm⟩ := bind_some hm
  refine h S H F a hG w h1 _ fun vs S1 H1 s1 w1 q1 => ?_
  refine hb S1 H1 F b (hG.mono s1) w1 h2 _ fun zs S2 H2 s2 w2 q2 => ?_
  exact ⟨hn _ _ _ q1, hm' _ _ _ q2, S2, O ++ F, ext a b, r, hx _ _ _ _ _ (A.mono s2 q1) q2, w2, hm, fun v S3 H3 s3 w3 q3 => k v S3 H3 ((s1.trans s2).trans s3) w3 q3⟩
theorem simF_callK {A : TyA α} {B : TyA δ} {A' : TyA β} {ext : α → δ → β} {f : β → Option γ} {OT : OTy γ} {ta tk : TA} {ma : Option α} {mb : Option δ} {E : XK} {n m : Nat} (hn : ∀ a vs S, A.rep a vs S → vs.length = n) (hm' : ∀ a vs S, B.rep a vs S → vs.length = m) (hx : ∀ a b vs zs S, A.rep a vs S → B.rep b zs S → A'.rep (ext a b) (vs ++ zs) S)
    (h : SimA G O ta σ ma A) (hb : SimA G O tk σ mb B) : SimF G O (tCallN n m (spF A' f OT) (fun vs zs => vs ++ zs) E ta tk) σ (ma.bind fun a => mb.bind fun b => f (ext a b)) OT := fun S H F r hG w hm Q k => by
  obtain ⟨a, h1, hm⟩ := bind_some hm
  obtain ⟨b, h2, hm⟩ := bind_some hm
  refine h S H F a hG w h1 _ fun vs S1 H1 s1 w1 q1 => ?_
  refine hb S1 H1 F b (hG.mono s1) w1 h2 _ fun zs S2 H2 s2 w2 q2 => ?_
  exact ⟨hn _ _ _ q1, hm' _ _ _ q2, S2, O ++ F, ext a b, r, hx _ _ _ _ _ (A.mono s2 q1) q2, w2, hm, fun p c S3 H3 s3 w3 q3 => k p c S3 H3 ((s1.trans s2).trans s3) w3 q3⟩
/-! the values are put together -/
theorem ln_one {a : α} {vs : List V} {S : Hp} (h : (TyA.one T).rep a vs S) : vs.length = 1 := by obtain ⟨v, rfl, _⟩ := h; rfl
theorem ln_c {A : TyA β} {n : Nat} {a : α × β} {vs : List V} {S : Hp} (h : (TyA.c T A).rep a vs S) (ih : ∀ a vs S, A.rep a vs S → vs.length = n) : vs.length = n + 1 := by obtain ⟨v, ws, rfl, _, r⟩ := h; rw [List.length_cons, ih _ _ _ r]
theorem ap_one {B : TyA β} {a : α} {b : β} {vs zs : List V} {S : Hp} (h : (TyA.one T).rep a vs S) (r : B.rep b zs S) : (TyA.c T B).rep (a, b) (vs ++ zs) S := by obtain ⟨v, rfl, q⟩ := h; exact ⟨v, zs, rfl, q, r⟩
theorem ap_c {A : TyA β} {B : TyA γ} {a : α × β} {c : γ} {vs zs : List V} {S : Hp} (h : (TyA.c T A).rep a vs S) (ih : ∀ ws, A.rep a.2 ws S → B.rep c (ws ++ zs) S) : (TyA.c T B).rep (a.1, c) (vs ++ zs) S := by obtain ⟨v, ws, rfl, q, r⟩ := h; exact ⟨v, ws ++ zs, rfl, q, ih _ r⟩
/-! None cannot be there -/
theorem sim_unO {t : TE} {m : Option (Option α)} (h : Sim G O t σ m (tO T)) : Sim G O t σ (m.bind fun a => a) T := fun S H F r hG w hm Q k => by
  obtain ⟨a, h1, hm⟩ := bind_some hm
  exact h S H F a hG w h1 Q fun v S1 H1 s1 w1 q1 => k v S1 H1 s1 w1 (by subst hm; exact q1.1)
/-! is, is not of bools -/
theorem sim_isB {ta tb : TE} {ma mb : Option Bool} (ha : Sim G O ta σ ma tBool) (hb : Sim G O tb σ mb tBool) : Sim G O (tOp rIsB ta tb) σ (ma.bind fun a => mb.bind fun b => some (decide (a = b))) tBool :=
  sim_op2 (fun a b c x y S H F e1 e2 W e Q k => by
    cases e1
    cases e2
    cases e
    exact ⟨a, b, rfl, rfl, k _ S H (Same.refl _) W rfl⟩) ha hb
theorem sim_notB {ta tb : TE} {ma mb : Option Bool} (ha : Sim G O ta σ ma tBool) (hb : Sim G O tb σ mb tBool) : Sim G O (tOp rNotB ta tb) σ (ma.bind fun a => mb.bind fun b => some (!decide (a = b))) tBool :=
  sim_op2 (fun a b c x y S H F e1 e2 W e Q k => by
    cases e1
    cases e2
    cases e
    exact ⟨a, b, rfl, rfl, k _ S H (Same.refl _) W rfl⟩) ha hb
/-! a list written down, step by step -/
def LK (Q : VK) (xs : List V) (H : Hp) : Prop := xs.length ≤ sizeLine ∧ ∀ p, H p = none → Q (.ref p) (upd H p (.lst xs))
theorem e_lstK {t : TA} (h : t σ H (LK Q)) : tLst t σ H Q := h
theorem v_lst {xs : List α} {vs : List V} {k : List α → Option ρ} (hG : Okc G S) (W : Wd S (O ++ F) H) (hm : (some xs).bind k = some out) (ra : ∀ S, Okc G S → Rl T S xs vs) (hl : vs.length ≤ 16777216)
    (next : ∀ p c S H, Okc ((oL T).f xs p c :: G) S → Wd S ((c :: O) ++ F) H → k xs = some out → Q (.ref p) H) : LK Q vs H :=
  ⟨hl, fun p hp => next p _ S _ ⟨⟨vs, rfl, ra S hG⟩, hG⟩ (W.newO hp) hm⟩
/-! loops over what comes step by step -/
theorem e_forL {te : TE} {g : TG} {tb : TS} (h : te σ H fun v H1 => tSeq (tFor (iList K (tC v)) g tb) u D σ H1) : tSeq (tFor (iList K te) g tb) u D σ H := h
theorem e_forR {te : TE} {g : TG} {tb : TS} (h : te σ H fun v H1 => tSeq (tFor (iRng1 (tCons (tC v) tNil)) g tb) u D σ H1) : tSeq (tFor (iRng1 (tCons te tNil)) g tb) u D σ H := h
end
end HF

set_option Elab.async false
set_option linter.all false
set_option maxRecDepth 100000
set_option maxHeartbeats 2000000
/-! Mini17: zip of a tuple and a list. -/
namespace HF
open PySem PySem.Spec PyProof.Rows L2
/-! ### an iterator over a list or a tuple -/
def Nx : Bool → Heap → Addr → Addr → Nat → Array Value → Prop
  | false, h, i, l, k, xs => h.IsTupleIter i l k ∧ h.IsTuple l xs
  | true, h, i, l, k, xs => h.IsListIter i l k ∧ h.IsList l xs
theorem Nx.ext {f : Bool} {h h' : Heap} {i l b : Addr} {k : Nat} {xs : Array Value} (n : Nx f h i l k xs) (e : Heap.ExtBut b h h') (n1 : i ≠ b) (n2 : l ≠ b) : Nx f h' i l k xs := by
  cases f
  · exact ⟨n.1.extBut e n1, n.2.extBut e n2⟩
  · exact ⟨n.1.extBut e n1, n.2.extBut e n2⟩
theorem Nx.kp {f : Bool} {h h' : Heap} {i l : Addr} {k : Nat} {xs : Array Value} (n : Nx f h i l k xs) (e1 : ∀ o, h.get? i = some o → h'.get? i = some o) (e2 : ∀ o, h.get? l = some o → h'.get? l = some o) : Nx f h' i l k xs := by
  cases f
  · obtain ⟨x, ⟨o, ho, r⟩⟩ := n
    exact ⟨x.at e1, ⟨o, e2 o ho, r⟩⟩
  · obtain ⟨x, ⟨o, ho, r⟩⟩ := n
    exact ⟨x.at e1, ⟨o, e2 o ho, r⟩⟩
section
variable {prog : Program} {w : World} {A : Around} {E : Value → Shared → Prop} {s : Shared}
theorem nx_item {f : Bool} {i l : Addr} {k : Nat} {xs : Array Value} {x : Value} {Q : Value → Shared → Prop} (n : Nx f s.heap i l k xs) (hil : l ≠ i) (hx : xs[k]? = some x)
    (q : ∀ h', Nx f h' i l (k + 1) xs → Heap.SameBut i s.heap h' → Q x { s with heap := h' }) : wpAny (model prog w) A (Builtin.SmallTypes.nextOf (.ref i)) Q E s := by
  cases f
  · exact RZ.nextOf_tuple_item n.1 n.2 hx fun h' i' e => q h' ⟨i', n.2.extBut e.extBut hil⟩ e
  · exact wpAny_nextOf_list_item n.1 n.2 hx fun h' i' e => q h' ⟨i', n.2.extBut e.extBut hil⟩ e
theorem nx_end {f : Bool} {i l : Addr} {k : Nat} {xs : Array Value} {Q : Value → Shared → Prop} (hh : A.handled = none) (n : Nx f s.heap i l k xs) (hx : xs[k]? = none)
    (q : ∀ h' e, Heap.ExtBut i s.heap h' → (∃ o, h'.get? e = some o ∧ o.cls = .type "StopIteration") → E (.ref e) { s with heap := h' }) : wpAny (model prog w) A (Builtin.SmallTypes.nextOf (.ref i)) Q E s := by
  cases f
  · exact RZ.nextOf_tuple_end hh n.1 n.2 hx q
  · exact wpAny_nextOf_list_end hh n.1 n.2 hx q
/-- the five objects of a zip whose two iterators are such -/
structure Zp (f g : Bool) (h : Heap) (z pI pO i j l m : Addr) (k : Nat) (xs ys : Array Value) : Prop where
  zip : IsZip h z pI pO .none
  ins : IsPair h pI (.ref i) (.ref j)
  out : ∃ a b, IsPair h pO a b
  one : Nx f h i l k xs
  two : Nx g h j m k ys
theorem zp_item {f g : Bool} {z pI pO i j l m : Addr} {k : Nat} {xs ys : Array Value} {x y : Value} {Q : Value → Shared → Prop} (D : ZipApart z pI pO i j l m) (Z : Zp f g s.heap z pI pO i j l m k xs ys) (hx : xs[k]? = some x) (hy : ys[k]? = some y)
    (hQ : ∀ h', IsZip h' z pI pO (rawInt s.heap.objs.size) → IsPair h' pO x y → Nx f h' i l (k + 1) xs → Nx g h' j m (k + 1) ys → IsPair h' s.heap.objs.size x y → h'.objs.size = s.heap.objs.size + 1 →
      (∀ c o, c ≠ z → c ≠ pO → c ≠ i → c ≠ j → s.heap.get? c = some o → h'.get? c = some o) → Q (.ref s.heap.objs.size) { s with heap := h' }) :
    wpAny (model prog w) A (Builtin.«zip.__next__» ⟨[.ref z], []⟩) (fun fin s' => ∃ v, fin = .done (.ret v) ∧ Q v s') E s := by
  obtain ⟨Zz, Zi, ⟨a, b, Zo⟩, N1, N2⟩ := Z
  show wpAny _ _ (field (.ref z) 2 >>= _) _ _ s
  refine wpAny_bind (wpAny_field Zz rfl (x := .bool false) rfl (show wpAny _ _ (field (.ref z) 3 >>= _) _ _ s from wpAny_bind (wpAny_field Zz rfl (x := .ref pI) rfl (wpAny_bind (wpAny_seqItems Zi rfl ?_)))))
  show wpAny _ _ (Builtin.SmallTypes.ownedTupleIsFree (.ref z) >>= _) _ _ s
  refine wpAny_bind (show wpAny _ _ (Builtin.SmallTypes.ownedTupleIsFree (.ref z)) _ _ s from ?_)
  (unfold Builtin.SmallTypes.ownedTupleIsFree; refine wpAny_bind (wpAny_field Zz rfl (x := .none) rfl (wpAny_pure ?_)))
  (simp only [if_true]; refine wpAny_bind (wpAny_rule (wpAny_bind (wpAny_field Zz rfl (x := .ref pO) rfl (wpAny_bind (wpAny_setField_rec Zz (by simp) fun g1 y1 e1 => ?_))))))
  replace y1 : IsZip g1 z pI pO .ellipsis := y1
  (refine wpAny_bind ?_; simp only [List.zipIdx_cons, List.zipIdx_nil, List.forIn_cons, List.forIn_nil]; refine wpAny_bind (wpAny_bind (wpAny_onRaise ?_)))
  show wpAny _ _ (Builtin.SmallTypes.nextOf (.ref i) >>= _) _ _ _
  refine wpAny_bind (nx_item (N1.ext e1.extBut D.i1z D.l1z) D.l1i1 hx fun g2 n1 e2 => wpAny_pure ?_)
  have o2 : IsPair g2 pO a b := e2.extBut _ _ D.TOi1 (e1.extBut _ _ D.TOz Zo)
  refine wpAny_bind (wpAny_seqItems o2 rfl (wpAny_bind (wpAny_updateSeq_pair o2 fun g3 o3 e3 => ?_)))
  replace o3 : IsPair g3 pO x b := o3
  refine wpAny_bind (wpAny_letGo (wpAny_pure (wpAny_bind (wpAny_bind (wpAny_onRaise ?_)))))
  show wpAny _ _ (Builtin.SmallTypes.nextOf (.ref j) >>= _) _ _ _
  refine wpAny_bind (nx_item (((N2.ext e1.extBut D.i2z D.l2z).ext e2.extBut D.i12.symm D.l2i1).ext e3.extBut D.TOi2.symm D.l2TO) D.l2i2 hy fun g4 n2 e4 => wpAny_pure ?_)
  have o4 : IsPair g4 pO x b := e4.extBut _ _ D.TOi2 o3
  refine wpAny_bind (wpAny_seqItems o4 rfl (wpAny_bind (wpAny_updateSeq_pair o4 fun g5 o5 e5 => ?_)))
  replace o5 : IsPair g5 pO x y := o5
  refine wpAny_bind (wpAny_letGo (wpAny_pure (wpAny_pure (wpAny_bind (wpAny_seqItems o5 rfl (wpAny_bind (wpAny_newTuple ?_)))))))
  have sz : g5.objs.size = s.heap.objs.size := by rw [e5.1, e4.1, e3.1, e2.1, e1.1]
  have y5 : IsZip g5 z pI pO .ellipsis := e5.extBut _ _ D.TOz.symm (e4.extBut _ _ D.i2z.symm (e3.extBut _ _ D.TOz.symm (e2.extBut _ _ D.i1z.symm y1)))
  have k5 : ∀ c o, c ≠ z → c ≠ pO → c ≠ i → c ≠ j → s.heap.get? c = some o → g5.get? c = some o := fun c o a1 a2 a3 a4 q => e5.extBut _ _ a2 (e4.extBut _ _ a4 (e3.extBut _ _ a2 (e2.extBut _ _ a3 (e1.extBut _ _ a1 q))))
  have n15 : Nx f g5 i l (k + 1) xs := ((n1.ext e3.extBut D.TOi1.symm D.l1TO).ext e4.extBut D.i12 D.l1i2).ext e5.extBut D.TOi1.symm D.l1TO
  have n25 : Nx g g5 j m (k + 1) ys := n2.ext e5.extBut D.TOi2.symm D.l2TO
  have zlt : z < g5.objs.size := Heap.lt_size y5
  show wpAny _ _ (Builtin.SmallTypes.ownedTupleHandOut (.ref z) (.ref g5.objs.size) >>= _) _ _ _
  (refine wpAny_bind ?_; unfold Builtin.SmallTypes.ownedTupleHandOut)
  have y6 : IsZip (g5.push { cls := .type "tuple", data := .seq #[x, y] }) z pI pO .ellipsis := Heap.get?_push_of_some _ y5
  refine wpAny_bind (wpAny_setField_rec y6 (by simp) fun g7 y7 e7 => ?_)
  replace y7 : IsZip g7 z pI pO (rawInt g5.objs.size) := y7
  refine wpAny_setField_rec y7 (by simp) fun g8 y8 e8 => ?_
  replace y8 : IsZip g8 z pI pO (rawInt g5.objs.size) := y8
  have lift : ∀ c o, c ≠ z → g5.get? c = some o → g8.get? c = some o := fun c o a1 q => e8.extBut _ _ a1 (e7.extBut _ _ a1 (Heap.get?_push_of_some _ q))
  have t8 : IsPair g8 g5.objs.size x y := e8.extBut _ _ (Nat.ne_of_gt zlt) (e7.extBut _ _ (Nat.ne_of_gt zlt) (Heap.get?_push_size _ rfl))
  have s8 : g8.objs.size = g5.objs.size + 1 := by rw [e8.1, e7.1, Heap.size_push]
  rw [sz] at y8 t8 s8
  refine wpAny_pure ⟨_, rfl, show Q (.ref g5.objs.size) _ from ?_⟩
  rw [sz]
  exact hQ g8 y8 (lift _ _ D.TOz o5) (n15.kp (fun o q => lift _ o D.i1z q) fun o q => lift _ o D.l1z q) (n25.kp (fun o q => lift _ o D.i2z q) fun o q => lift _ o D.l2z q) t8 s8 fun c o a1 a2 a3 a4 q => lift c o a1 (k5 c o a1 a2 a3 a4 q)
theorem zp_end {f g : Bool} {z pI pO i j l m : Addr} {k : Nat} {xs ys : Array Value} {Q : Fin → Shared → Prop} (hh : A.handled = none) (D : ZipApart z pI pO i j l m) (Z : Zp f g s.heap z pI pO i j l m k xs ys) (hend : xs[k]? = none ∨ ys[k]? = none)
    (hE : ∀ h' e, (∀ c o, c ≠ z → c ≠ pO → c ≠ i → c ≠ j → s.heap.get? c = some o → h'.get? c = some o) → (∃ o, h'.get? e = some o ∧ o.cls = .type "StopIteration") → E (.ref e) { s with heap := h' }) :
    wpAny (model prog w) A (Builtin.«zip.__next__» ⟨[.ref z], []⟩) Q E s := by
  obtain ⟨Zz, Zi, ⟨a, b, Zo⟩, N1, N2⟩ := Z
  show wpAny _ _ (field (.ref z) 2 >>= _) _ _ s
  refine wpAny_bind (wpAny_field Zz rfl (x := .bool false) rfl (show wpAny _ _ (field (.ref z) 3 >>= _) _ _ s from wpAny_bind (wpAny_field Zz rfl (x := .ref pI) rfl (wpAny_bind (wpAny_seqItems Zi rfl ?_)))))
  show wpAny _ _ (Builtin.SmallTypes.ownedTupleIsFree (.ref z) >>= _) _ _ s
  refine wpAny_bind (show wpAny _ _ (Builtin.SmallTypes.ownedTupleIsFree (.ref z)) _ _ s from ?_)
  (unfold Builtin.SmallTypes.ownedTupleIsFree; refine wpAny_bind (wpAny_field Zz rfl (x := .none) rfl (wpAny_pure ?_)))
  (simp only [if_true]; refine wpAny_bind (wpAny_rule (wpAny_bind (wpAny_field Zz rfl (x := .ref pO) rfl (wpAny_bind (wpAny_setField_rec Zz (by simp) fun g1 y1 e1 => ?_))))))
  replace y1 : IsZip g1 z pI pO .ellipsis := y1
  (refine wpAny_bind ?_; simp only [List.zipIdx_cons, List.zipIdx_nil, List.forIn_cons, List.forIn_nil]; refine wpAny_bind (wpAny_bind (wpAny_onRaise ?_)))
  show wpAny _ _ (Builtin.SmallTypes.nextOf (.ref i) >>= _) _ _ _
  have M1 := N1.ext e1.extBut D.i1z D.l1z
  cases hx : xs[k]? with
  | none =>
    refine wpAny_bind (nx_end hh M1 hx fun g2 e x2 ⟨oe, hoe, hce⟩ => ?_)
    have y2 : IsZip g2 z pI pO .ellipsis := x2 _ _ D.i1z.symm y1
    have ne : e ≠ z := fun q => by
      rw [q, y2] at hoe
      cases hoe
      simp at hce
    exact wpAny_setField_rec y2 (by simp) fun g3 _ e3 => hE g3 e (fun c o a1 _ a3 _ q => e3.extBut _ _ a1 (x2 _ _ a3 (e1.extBut _ _ a1 q))) ⟨oe, e3.extBut _ _ ne hoe, hce⟩
  | some x =>
    have hy : ys[k]? = none := by
      rcases hend with q | q
      · rw [hx] at q
        cases q
      · exact q
    refine wpAny_bind (nx_item M1 D.l1i1 hx fun g2 n1 e2 => wpAny_pure ?_)
    have o2 : IsPair g2 pO a b := e2.extBut _ _ D.TOi1 (e1.extBut _ _ D.TOz Zo)
    refine wpAny_bind (wpAny_seqItems o2 rfl (wpAny_bind (wpAny_updateSeq_pair o2 fun g3 o3 e3 => wpAny_bind (wpAny_letGo (wpAny_pure (wpAny_bind (wpAny_bind (wpAny_onRaise ?_))))))))
    show wpAny _ _ (Builtin.SmallTypes.nextOf (.ref j) >>= _) _ _ _
    refine wpAny_bind (nx_end hh (((N2.ext e1.extBut D.i2z D.l2z).ext e2.extBut D.i12.symm D.l2i1).ext e3.extBut D.TOi2.symm D.l2TO) hy fun g4 e x4 ⟨oe, hoe, hce⟩ => ?_)
    have y4 : IsZip g4 z pI pO .ellipsis := x4 _ _ D.i2z.symm (e3.extBut _ _ D.TOz.symm (e2.extBut _ _ D.i1z.symm y1))
    have ne : e ≠ z := fun q => by
      rw [q, y4] at hoe
      cases hoe
      simp at hce
    exact wpAny_setField_rec y4 (by simp) fun g5 _ e5 => hE g5 e (fun c o a1 a2 a3 a4 q => e5.extBut _ _ a1 (x4 _ _ a4 (e3.extBut _ _ a2 (e2.extBut _ _ a3 (e1.extBut _ _ a1 q))))) ⟨oe, e5.extBut _ _ ne hoe, hce⟩
theorem py_zp_item {f g : Bool} {z pI pO i j l m : Addr} {k : Nat} {xs ys : Array Value} {x y : Value} {Q : Option Value → Shared → Prop} (D : ZipApart z pI pO i j l m) (Z : Zp f g s.heap z pI pO i j l m k xs ys) (hx : xs[k]? = some x) (hy : ys[k]? = some y)
    (hQ : ∀ h', IsZip h' z pI pO (rawInt s.heap.objs.size) → IsPair h' pO x y → Nx f h' i l (k + 1) xs → Nx g h' j m (k + 1) ys → IsPair h' s.heap.objs.size x y → h'.objs.size = s.heap.objs.size + 1 →
      (∀ c o, c ≠ z → c ≠ pO → c ≠ i → c ≠ j → s.heap.get? c = some o → h'.get? c = some o) → Q (some (.ref s.heap.objs.size)) { s with heap := h' }) : wpAny (model prog w) A (pyNext (.ref z)) Q E s := by
  have T : s.TypeIs (.ref z) "zip" := ⟨_, Z.zip, rfl⟩
  unfold pyNext
  exact wpAny_bind (wpAny_attempt (wpAny_callSpecial?_slot (name := Str.ofString "__next__") T F.slot_zip_next (wpAny_call_entry F.slot_zip_next T F.entry_zip_next (zp_item D Z hx hy fun h' a1 a2 a3 a4 a5 a6 a7 => wpAny_pure (hQ h' a1 a2 a3 a4 a5 a6 a7)) (F.args_zip_next_1 _))))
theorem py_zp_end {f g : Bool} {z pI pO i j l m : Addr} {k : Nat} {xs ys : Array Value} {Q : Option Value → Shared → Prop} (hh : A.handled = none) (D : ZipApart z pI pO i j l m) (Z : Zp f g s.heap z pI pO i j l m k xs ys) (hend : xs[k]? = none ∨ ys[k]? = none)
    (hQ : ∀ h', (∀ c o, c ≠ z → c ≠ pO → c ≠ i → c ≠ j → s.heap.get? c = some o → h'.get? c = some o) → Q none { s with heap := h' }) : wpAny (model prog w) A (pyNext (.ref z)) Q E s := by
  have T : s.TypeIs (.ref z) "zip" := ⟨_, Z.zip, rfl⟩
  unfold pyNext
  refine wpAny_bind (wpAny_attempt (wpAny_callSpecial?_slot (name := Str.ofString "__next__") T F.slot_zip_next (wpAny_call_entry F.slot_zip_next T F.entry_zip_next (zp_end hh D Z hend fun h' e hk ⟨o, ho, hc⟩ => ?_) (F.args_zip_next_1 _))))
  exact wpAny_bind (wpAny_isInstance (T := "StopIteration") (b := true) ⟨o, ho, hc⟩ isSubtype_stop (wpAny_pure (hQ _ hk)))
end
/-! ### zip of a tuple (at a) and a list (at b) -/
def ItzM (K : PySem.W.Frag) (a b : Addr) : It :=
  ⟨fun i H => ∃ (xs ys : List V) (x y : V), (SqT K H a xs ∧ SqL K H b ys) ∧ xs[i]? = some x ∧ ys[i]? = some y,
    fun i H v H' => ∃ t x y, (v = .ref t ∧ H t = none ∧ H' = upd H t (.tup [x, y])) ∧ (∀ zs, SqT K H a zs → zs[i]? = some x) ∧ ∀ zs, SqL K H b zs → zs[i]? = some y,
    fun i H => ∃ xs ys : List V, (SqT K H a xs ∧ SqL K H b ys) ∧ (xs.length ≤ i ∨ ys.length ≤ i)⟩
theorem five {c z pI pO i j : Addr} (h : c ∈ [z, pI, pO, i, j]) : c = z ∨ c = pI ∨ c = pO ∨ c = i ∨ c = j := by simpa using h
theorem turn_zipM {P : Program} {w : World} {K : PySem.W.Frag} {elts : List Expr} {kk : Nat} {tpos : Pos} {a b z pI pO i j : Addr} (D : ZipApart z pI pO i j a b) :
    Turn P w K (.Tuple elts kk tpos) (ItzM K a b) [z, pI, pO, i, j] z (fun k h => (IsZip h z pI pO .none ∧ IsPair h pI (.ref i) (.ref j)) ∧ (∃ x y, IsPair h pO x y) ∧ h.IsTupleIter i a k ∧ h.IsListIter j b k) where
  mem := List.mem_cons_self ..
  obj := fun k h ⟨⟨hz, hi⟩, ⟨x, y, ho⟩, ⟨o1, e1, _, d1⟩, ⟨o2, e2, _, d2⟩⟩ c hc => by
    rcases five hc with rfl | rfl | rfl | rfl | rfl
    · exact ⟨_, hz, fun v q => nomatch q⟩
    · exact ⟨_, hi, fun v q => nomatch q⟩
    · exact ⟨_, ho, fun v q => nomatch q⟩
    · exact ⟨o1, e1, fun v q => by rw [d1] at q; cases q⟩
    · exact ⟨o2, e2, fun v q => by rw [d2] at q; cases q⟩
  keep := fun k h h' ⟨⟨hz, hi⟩, ⟨x, y, ho⟩, h1, h2⟩ kp => ⟨⟨kp z (by simp) _ hz, kp pI (by simp) _ hi⟩, ⟨x, y, kp pO (by simp) _ ho⟩, h1.at fun o q => kp i (by simp) o q, h2.at fun o q => kp j (by simp) o q⟩
  item := by
    intro X hP hw hK hc k pins s σ H E I hf ⟨⟨hz, hi⟩, ⟨x0, y0, ho⟩, h1, h2⟩ ⟨xs, ys, x, y, ⟨qa, qb⟩, hx, hy⟩
    subst hP hw hK
    obtain ⟨its, rv, p1, _⟩ := I.tuple qa
    obtain ⟨its2, rv2, p2, _⟩ := I.list qb
    obtain ⟨u, hu, ru⟩ := rv.get hx
    obtain ⟨u2, hu2, ru2⟩ := rv2.get hy
    have zl : z < s.heap.objs.size := Heap.lt_size hz
    have Z : Zp false true s.heap z pI pO i j a b k its.toArray its2.toArray := ⟨hz, hi, ⟨_, _, ho⟩, ⟨h1, p1⟩, ⟨h2, p2.isList⟩⟩
    refine py_zp_item D Z (x := u) (y := u2) (by simpa using hu) (by simpa using hu2) fun h' z' o' n1 n2 hT hs hk => ⟨_, rfl, wpAny_letOwnedTupleGo_zip (s := { s with heap := h' }) z' fun h'' z'' sb => ?_⟩
    have hT2 : h''.get? s.heap.objs.size = some { cls := .type "tuple", data := .seq #[u, u2] } := (sb.2 _ (Nat.ne_of_gt zl)).trans hT
    have fresh : ObjOk X.prog X.w (upd H s.heap.objs.size (.tup [x, y])) h'' s.heap.objs.size (.tup [x, y]) := ⟨show 2 ≤ sizeLine by decide, [u, u2], .cons ru (.cons ru2 .nil), ⟨_, hT2, rfl, _, rfl⟩⟩
    have J : Inv X pins σ (upd H s.heap.objs.size (.tup [x, y])) { s with heap := h'' } :=
      I.turnedNew (t' := s.toks) (ch := [z, pI, pO, i, j]) (fun c o hb q => (sb.2 c (fun e => hb (by simp [e]))).trans (hk c o (fun e => hb (by simp [e])) (fun e => hb (by simp [e])) (fun e => hb (by simp [e])) (fun e => hb (by simp [e])) q)) hf (Nat.le_refl _) fresh
    refine ⟨.ref s.heap.objs.size, _, J, rfl, ⟨_, x, y, ⟨rfl, I.hok.fresh (Nat.le_refl _), rfl⟩, fun zs hz => by rw [I.tuple_inj hz qa]; exact hx, fun zs hz => by rw [I.list_inj hz qb]; exact hy⟩, ⟨⟨z'', (sb.2 _ D.TIz).trans (hk _ _ D.TIz D.TITO D.TIi1 D.TIi2 hi)⟩, ⟨u, u2, (sb.2 _ D.TOz).trans o'⟩, n1.1.at fun o q => (sb.2 _ D.i1z).trans q, n2.1.at fun o q => (sb.2 _ D.i2z).trans q⟩, fun c hc => ?_⟩
    have lt : c < s.heap.objs.size := by
      rcases five hc with rfl | rfl | rfl | rfl | rfl
      · exact zl
      · exact Heap.lt_size hi
      · exact Heap.lt_size ho
      · obtain ⟨_, e1, _⟩ := h1
        exact Heap.lt_size e1
      · obtain ⟨_, e1, _⟩ := h2
        exact Heap.lt_size e1
    rw [upd_ne (Nat.ne_of_lt lt)]
    exact (hf c hc).1
  done := by
    intro X hP hw hK hc k pins s σ H E I hf ⟨⟨hz, hi⟩, ⟨x0, y0, ho⟩, h1, h2⟩ ⟨xs, ys, ⟨qa, qb⟩, hend⟩
    subst hP hw hK
    obtain ⟨its, rv, p1, _⟩ := I.tuple qa
    obtain ⟨its2, rv2, p2, _⟩ := I.list qb
    have l1 := rv.length
    have l2 := rv2.length
    have he : its.toArray[k]? = none ∨ its2.toArray[k]? = none := by
      rcases hend with q | q
      · exact .inl (by simp; omega)
      · exact .inr (by simp; omega)
    have Z : Zp false true s.heap z pI pO i j a b k its.toArray its2.toArray := ⟨hz, hi, ⟨_, _, ho⟩, ⟨h1, p1⟩, ⟨h2, p2.isList⟩⟩
    exact py_zp_end (I.ok.hd hc) D Z he fun h' hk => ⟨rfl, I.turnedL (t' := s.toks) (ch := [z, pI, pO, i, j]) (fun c o hb q => hk c o (fun e => hb (by simp [e])) (fun e => hb (by simp [e])) (fun e => hb (by simp [e])) (fun e => hb (by simp [e])) q) hf⟩
  self := fun A k s Q E st h => wpAny_pyIter_zip st.1.1 h
/-! ### it is made -/
abbrev mH1 (h : Heap) (a : Addr) : Heap := h.push { cls := .type "tuple_iterator", data := .fields #[.ref a, .int 0 0] }
abbrev mH2 (h : Heap) (a b : Addr) : Heap := (mH1 h a).push { cls := .type "list_iterator", data := .fields #[.ref b, .int 0 0] }
abbrev mH3 (h : Heap) (a b : Addr) : Heap := (mH2 h a b).push { cls := .type "tuple", data := .seq #[.ref h.objs.size, .ref (mH1 h a).objs.size] }
abbrev mH4 (h : Heap) (a b : Addr) : Heap := (mH3 h a b).push { cls := .type "tuple", data := .seq #[.none, .none] }
abbrev mH5 (h : Heap) (a b : Addr) : Heap := (mH4 h a b).push { cls := .type "zip", data := .fields #[.none, .bool false, .bool false, .ref (mH2 h a b).objs.size, .ref (mH3 h a b).objs.size] }
theorem meets_zipM (a b : Addr) (xs ys : Array Value) : Meets (Builtin.«zip.__new__» ⟨[.type "zip", .ref a, .ref b], []⟩) (fun _ R s => s.heap.IsTuple a xs ∧ s.heap.IsList b ys ∧ R (.ok (.ret (.ref (mH4 s.heap a b).objs.size))) { s with heap := mH5 s.heap a b }) :=
  .of_wp fun prog w A R s ⟨ha, hb, h⟩ => by
    obtain ⟨hp, g, d, tk, os⟩ := s
    have sub := sub_zip
    have A1 : Heap.IsTuple (Shared.heap ⟨hp, g, d, tk, os⟩) a xs := ha
    have B1 : Heap.IsList (Shared.heap ⟨hp.push { cls := .type "tuple_iterator", data := .fields #[.ref a, .int 0 0] }, g, d, tk, os⟩) b ys := Heap.IsList.push hb _
    wp_walk using wpAny_pyIter_tuple A1, wpAny_pyIter_list B1
    exact ⟨_, rfl, h⟩
theorem call_zipM {prog : Program} {w : World} {A : Around} {E : Value → Shared → Prop} {s : Shared} {a b : Addr} {xs ys : Array Value} {Q : Value → Shared → Prop} (ha : s.heap.IsTuple a xs) (hb : s.heap.IsList b ys)
    (h : ∀ h', IsZip h' (s.heap.objs.size + 4) (s.heap.objs.size + 2) (s.heap.objs.size + 3) .none ∧ IsPair h' (s.heap.objs.size + 2) (.ref s.heap.objs.size) (.ref (s.heap.objs.size + 1)) → IsPair h' (s.heap.objs.size + 3) .none .none →
      h'.IsTupleIter s.heap.objs.size a 0 → h'.IsListIter (s.heap.objs.size + 1) b 0 → (∀ c o, s.heap.get? c = some o → h'.get? c = some o) → Q (.ref (s.heap.objs.size + 4)) { s with heap := h' }) :
    wpAny (model prog w) A (call (.type "zip") [.ref a, .ref b]) Q E s := by
  refine callType_new F.called_zip (by decide) (F.typeCall_zip_2 _ _) (F.newCall_zip_2 _ _) (fun obj => F.args_object_init_3 obj _ _) F.entry_zip_new (meets_zipM a b xs ys) ⟨ha, hb, ?_⟩
  have z1 : (mH1 s.heap a).objs.size = s.heap.objs.size + 1 := Heap.size_push ..
  have z2 : (mH2 s.heap a b).objs.size = s.heap.objs.size + 2 := by rw [Heap.size_push, z1]
  have z3 : (mH3 s.heap a b).objs.size = s.heap.objs.size + 3 := by rw [Heap.size_push, z2]
  have z4 : (mH4 s.heap a b).objs.size = s.heap.objs.size + 4 := by rw [Heap.size_push, z3]
  have up : ∀ {h : Heap} {o : Obj} {c : Addr} {o' : Obj}, h.get? c = some o' → (h.push o).get? c = some o' := fun e => Heap.get?_push_of_some _ e
  have g5 : (mH5 s.heap a b).get? (mH4 s.heap a b).objs.size = some _ := Heap.get?_push_size _ rfl
  have g4 : (mH5 s.heap a b).get? (mH3 s.heap a b).objs.size = some _ := up (Heap.get?_push_size _ rfl)
  have g3 : (mH5 s.heap a b).get? (mH2 s.heap a b).objs.size = some _ := up (up (Heap.get?_push_size _ rfl))
  have g2 : (mH5 s.heap a b).get? (mH1 s.heap a).objs.size = some _ := up (up (up (Heap.get?_push_size _ rfl)))
  have g1 : (mH5 s.heap a b).get? s.heap.objs.size = some _ := up (up (up (up (Heap.get?_push_size _ rfl))))
  refine (show _ ∧ _ from ?_)
  rw [z2, z3, z4] at g5
  rw [z1, z2] at g3
  rw [z3] at g4
  rw [z1] at g2
  rw [z4]
  exact ⟨⟨_, g5, rfl⟩, h _ ⟨g5, g3⟩ g4 ⟨_, g1, rfl, rfl⟩ ⟨_, g2, rfl, rfl⟩ fun c o e => up (up (up (up (up e))))⟩
def iZipM (K : PySem.W.Frag) (ta : TA) : TI := fun σ H R => ta σ H fun vs H1 => ∃ a b xs ys, vs = [.ref a, .ref b] ∧ SqT K H1 a xs ∧ SqL K H1 b ys ∧ R (ItzM K a b) H1
theorem pi_zipM {X : Cx} {K : PySem.W.Frag} {e e2 : Expr} {ta : TA} {p pos tpos : Pos} {elts : List Expr} {kk : Nat} (hg : Gl X "zip") (hm : X.mg "zip" = none) (ha : PA X [e, e2] ta) (hK : X.K = K := by rfl)
    (hs : starEach [e, e2] X.env = (false, eval e X.env) :: starEach [e2] X.env := by rfl) (hpl : (backTo pos (starEach [e2] X.env)).any (·.1) = false := by rfl) :
    PI X (.Tuple elts kk tpos) (.Call (.Name "zip" p) [e, e2] [] pos) (iZipM K ta) := by
  subst hK
  refine ⟨fun pins s σ H R I h => Call_ (ld_blt I hg hm PyProof.Rows.boot_zip (PyProof.Rows.callWith_type1 (thn (ha.run pos pins s σ H _ I h) fun us s1 ⟨vs, H1, I1, r1, a, b, xs, ys, ex, qa, qb, q⟩ => ?_) hs hpl))⟩
  subst ex
  obtain _ | ⟨r, _ | ⟨r', rr⟩⟩ := r1
  cases rr
  cases r
  cases r'
  have fr : ∀ c, c ∈ [s1.heap.objs.size + 4, s1.heap.objs.size + 2, s1.heap.objs.size + 3, s1.heap.objs.size, s1.heap.objs.size + 1] → FpOk X pins H1 c := fun c hc => by
    have le : s1.heap.objs.size ≤ c := by
      rcases five hc with e | e | e | e | e <;> (rw [e]; first | exact Nat.le_add_right _ _ | exact Nat.le_refl _)
    exact I1.fpOk le (I1.hok.fresh le)
  obtain ⟨its, rv, p1, _⟩ := I1.tuple qa
  obtain ⟨its2, rv2, p2, _⟩ := I1.list qb
  obtain ⟨o1, ho1, _⟩ := id p1
  refine call_zipM (show s1.heap.IsTuple a its.toArray from p1) p2.isList fun h' hz ho h1 h2 hk => wpAny_pyIter_zip hz.1 ?_
  exact ⟨s1.heap.objs.size + 4, [s1.heap.objs.size + 4, s1.heap.objs.size + 2, s1.heap.objs.size + 3, s1.heap.objs.size, s1.heap.objs.size + 1], _, _, H1, rfl, I1.kept (t' := s1.toks) hk, turn_zipM (PySem.W.ktu_apart s1.heap.objs.size a b (Heap.lt_size ho1) p2.lt), ⟨hz, ⟨_, _, ho⟩, h1, h2⟩, fr, q⟩
/-! ### its reading -/
section
variable {α β : Type} {G : List Fact} {O : Ow} {σ : L2.St} {T : Ty α} {U : Ty β} {K : PySem.W.Frag}
theorem zip_get {xs : List α} {ys : List β} {i : Nat} {p : α × β} (h : (xs.zip ys)[i]? = some p) : xs[i]? = some p.1 ∧ ys[i]? = some p.2 := by
  rw [List.getElem?_zip_eq_some] at h
  exact h
theorem simI_zipM {ta tb : TE} {ma : Option (List α)} {mb : Option (List β)} (ha : Sim G O ta σ ma (tT T)) (hb : Sim G O tb σ mb (tL U)) : SimI G O [] (iZipM K (tCons ta (tCons tb tNil))) σ (ma.bind fun xs => mb.bind fun ys => some (xs.zip ys)) (tP T U) := fun S H F r hG w hm R k => by
  obtain ⟨xs, h1, hm⟩ := bind_some hm
  obtain ⟨ys, h2, hm⟩ := bind_some hm
  cases hm
  refine ha S H F xs hG w h1 _ fun v S1 H1 s1 w1 ⟨p, vs, e, g, q⟩ => ?_
  refine hb S1 H1 F ys (hG.mono s1) w1 h2 _ fun v2 S2 H2 s2 w2 ⟨p2, vs2, e2, g2, q2⟩ => ?_
  subst e e2
  have g' := s2 _ _ g
  have q' := q.mono s2
  refine ⟨p, p2, vs, vs2, rfl, SqT.of (w2.st _ _ g'), SqL.of (w2.st _ _ g2), k _ S2 H2 (s1.trans s2) w2 fun S H s w => ?_⟩
  have e1 := w.st _ _ (s _ _ g')
  have e2 := w.st _ _ (s _ _ g2)
  refine ⟨fun i a h => ?_, vs, vs2, ⟨SqT.of e1, SqL.of e2⟩, ?_⟩
  · obtain ⟨h1, h2⟩ := zip_get h
    obtain ⟨u, h3, h4⟩ := q'.get h1
    obtain ⟨u2, h5, h6⟩ := q2.get h2
    refine ⟨⟨vs, vs2, u, u2, ⟨SqT.of e1, SqL.of e2⟩, h3, h5⟩, fun x H' ⟨t, y, y2, ⟨a1, a2, a3⟩, b1, b2⟩ => ?_⟩
    have c1 := b1 vs (SqT.of e1)
    have c2 := b2 vs2 (SqL.of e2)
    rw [h3] at c1
    rw [h5] at c2
    cases c1
    cases c2
    have s3 : Same S (upd S t (.tup [u, u2])) := same_upd (w.sn a2)
    exact ⟨_, s3, ⟨t, _, _, a1, upd_same, T.mono (s.trans s3) h4, U.mono (s.trans s3) h6⟩, fun O w' => by rw [a3]; exact w'.new a2⟩
  · rw [List.length_zip, q'.length, q2.length]
    omega
end
end HF

set_option Elab.async false
set_option linter.all false
set_option maxRecDepth 100000
set_option maxHeartbeats 2000000
/-! Mini18: more small lemmas. -/
namespace HF
open PySem PySem.Spec L2
open PyProof.Rows hiding St
section
variable {S : Hp}
theorem spO_vs4_0 {α1 α2 α3 : Type} {T1 : Ty α1} {T2 : Ty α2} {T3 : Ty α3} {vs : List V} {p : Addr} {a : α1 × α2 × α3} (hn : vs[0]? = some (.ref p)) (hA : (TyA.c T1 (TyA.c T2 (TyA.one T3))).rep a (vs.eraseIdx 0) S) : ∃ v1 v2 v3, vs = [.ref p, v1, v2, v3] ∧ T1.rep a.1 v1 S ∧ T2.rep a.2.1 v2 S ∧ T3.rep a.2.2 v3 S := by
  obtain ⟨ws, rfl, h⟩ := spO_vs0 hn hA
  obtain ⟨v1, _, rfl, h1, ⟨v2, _, rfl, h2, ⟨v3, rfl, h3⟩⟩⟩ := h
  exact ⟨v1, v2, v3, rfl, h1, h2, h3⟩
theorem spO_vs5_0 {α1 α2 α3 α4 : Type} {T1 : Ty α1} {T2 : Ty α2} {T3 : Ty α3} {T4 : Ty α4} {vs : List V} {p : Addr} {a : α1 × α2 × α3 × α4} (hn : vs[0]? = some (.ref p)) (hA : (TyA.c T1 (TyA.c T2 (TyA.c T3 (TyA.one T4)))).rep a (vs.eraseIdx 0) S) : ∃ v1 v2 v3 v4, vs = [.ref p, v1, v2, v3, v4] ∧ T1.rep a.1 v1 S ∧ T2.rep a.2.1 v2 S ∧ T3.rep a.2.2.1 v3 S ∧ T4.rep a.2.2.2 v4 S := by
  obtain ⟨ws, rfl, h⟩ := spO_vs0 hn hA
  obtain ⟨v1, _, rfl, h1, ⟨v2, _, rfl, h2, ⟨v3, _, rfl, h3, ⟨v4, rfl, h4⟩⟩⟩⟩ := h
  exact ⟨v1, v2, v3, v4, rfl, h1, h2, h3, h4⟩
theorem spO_vs7_0 {α1 α2 α3 α4 α5 α6 : Type} {T1 : Ty α1} {T2 : Ty α2} {T3 : Ty α3} {T4 : Ty α4} {T5 : Ty α5} {T6 : Ty α6} {vs : List V} {p : Addr} {a : α1 × α2 × α3 × α4 × α5 × α6} (hn : vs[0]? = some (.ref p)) (hA : (TyA.c T1 (TyA.c T2 (TyA.c T3 (TyA.c T4 (TyA.c T5 (TyA.one T6)))))).rep a (vs.eraseIdx 0) S) : ∃ v1 v2 v3 v4 v5 v6, vs = [.ref p, v1, v2, v3, v4, v5, v6] ∧ T1.rep a.1 v1 S ∧ T2.rep a.2.1 v2 S ∧ T3.rep a.2.2.1 v3 S ∧ T4.rep a.2.2.2.1 v4 S ∧ T5.rep a.2.2.2.2.1 v5 S ∧ T6.rep a.2.2.2.2.2 v6 S := by
  obtain ⟨ws, rfl, h⟩ := spO_vs0 hn hA
  obtain ⟨v1, _, rfl, h1, ⟨v2, _, rfl, h2, ⟨v3, _, rfl, h3, ⟨v4, _, rfl, h4, ⟨v5, _, rfl, h5, ⟨v6, rfl, h6⟩⟩⟩⟩⟩⟩ := h
  exact ⟨v1, v2, v3, v4, v5, v6, rfl, h1, h2, h3, h4, h5, h6⟩
theorem spO_vs8_0 {α1 α2 α3 α4 α5 α6 α7 : Type} {T1 : Ty α1} {T2 : Ty α2} {T3 : Ty α3} {T4 : Ty α4} {T5 : Ty α5} {T6 : Ty α6} {T7 : Ty α7} {vs : List V} {p : Addr} {a : α1 × α2 × α3 × α4 × α5 × α6 × α7} (hn : vs[0]? = some (.ref p)) (hA : (TyA.c T1 (TyA.c T2 (TyA.c T3 (TyA.c T4 (TyA.c T5 (TyA.c T6 (TyA.one T7))))))).rep a (vs.eraseIdx 0) S) : ∃ v1 v2 v3 v4 v5 v6 v7, vs = [.ref p, v1, v2, v3, v4, v5, v6, v7] ∧ T1.rep a.1 v1 S ∧ T2.rep a.2.1 v2 S ∧ T3.rep a.2.2.1 v3 S ∧ T4.rep a.2.2.2.1 v4 S ∧ T5.rep a.2.2.2.2.1 v5 S ∧ T6.rep a.2.2.2.2.2.1 v6 S ∧ T7.rep a.2.2.2.2.2.2 v7 S := by
  obtain ⟨ws, rfl, h⟩ := spO_vs0 hn hA
  obtain ⟨v1, _, rfl, h1, ⟨v2, _, rfl, h2, ⟨v3, _, rfl, h3, ⟨v4, _, rfl, h4, ⟨v5, _, rfl, h5, ⟨v6, _, rfl, h6, ⟨v7, rfl, h7⟩⟩⟩⟩⟩⟩⟩ := h
  exact ⟨v1, v2, v3, v4, v5, v6, v7, rfl, h1, h2, h3, h4, h5, h6, h7⟩
end
end HF

set_option Elab.async false
set_option linter.all false
set_option maxRecDepth 100000
set_option maxHeartbeats 2000000
/-! Mini19: the head's hook, walked without a look for doubles; the part of the heap laid out first. -/
namespace HF
open PySem PySem.Spec L2 ClX
open PyProof.Rows hiding St
def outs (o : Obj) : List Addr := match o.data with
  | .seq its _ => its.toList.flatMap He.refV
  | .dict es _ => es.toList.flatMap fun e => He.refV e.val
  | .func fd => He.refV fd.code ++ (He.refV fd.defaults ++ (He.refV fd.kwdefaults ++ fd.closure.map (·.2)))
  | .cls cd => [cd.ns]
  | .cell (some v) => He.refV v
  | .fields vs => vs.toList.flatMap He.refV
  | _ => []
def asY (g : Addr → Option Obj) : Nat → List Addr → List Addr
  | 0, as => as
  | n + 1, as => as ++ asY g n (as.flatMap fun a => match g a with
    | some o => outs o
    | none => [])
def frObj {α : Type} (o : Obj) (k : Obj → α) : α := match o with
  | ⟨c, d, t, s⟩ => k ⟨c, d, t, s⟩
theorem frObj_eq {α : Type} (o : Obj) (k : Obj → α) : frObj o k = k o := by
  cases o <;> rfl
/-- the part of the heap, each cell laid out -/
def frK {α : Type} : List (Addr × Obj) → (List (Addr × Obj) → α) → α
  | [], k => k []
  | (a, o) :: r, k => HandSHeadRun.frNat a fun a => frObj o fun o => frK r fun r => k ((a, o) :: r)
theorem frK_eq {α : Type} : ∀ (l : List (Addr × Obj)) (k : List (Addr × Obj) → α), frK l k = k l
  | [], k => rfl
  | (a, o) :: r, k => by
    unfold frK
    rw [HandSHeadRun.frNat_eq, frObj_eq, frK_eq r]
def partY (n : Nat) (g : Addr → Option Obj) : PySem.W.Frag := He.frG g (cStatics :: asY g n [mainGlobals])
def obsY (n : Nat) (fa : List He.Fa) (fn : List He.DefD) (l : List (Str × Str × Int)) (g : Addr → Option Obj) : AlX := frK (partY n g) fun K => obsK fa fn l K
def hookY (n : Nat) (fa : List He.Fa) (fn : List He.DefD) (l : List (Str × Str × Int)) : PySem.W.Hook where
  α := AlX
  obs := fun s => obsK fa fn l (partY n s.heap.get?)
  val := fun _ => (true, He.valD fn)
  says := fun _ h => ∃ K : PySem.W.Frag, K.In h ∧ He.SaysD fa fn K ∧ exB l K = true
  of := fun _ _ e => ⟨_, He.frG_in, congrArg (fun z : AlX => z.2) e, congrArg (fun z : AlX => z.1) e⟩
  keeps := fun _ _ _ ⟨K, hK, c, d⟩ k => ⟨K, PySem.W.Frag.In.keeps hK k, c, d⟩
theorem obsY_eq {n : Nat} {fa : List He.Fa} {fn : List He.DefD} {l : List (Str × Str × Int)} {g : Addr → Option Obj} {s : Shared} (h : ∀ a, g a = s.heap.get? a) : obsY n fa fn l g = (hookY n fa fn l).obs s := by
  have e : g = s.heap.get? := funext h
  rw [e]
  exact frK_eq _ _
end HF

set_option Elab.async false
set_option linter.all false
set_option maxRecDepth 100000
set_option maxHeartbeats 4000000
/-! Mini20: enumerate of a tuple; range of three. -/
namespace HF
open PySem PySem.Spec PyProof.Rows L2
/-! ### enumerate(tuple) -/
def IteT (K : PySem.W.Frag) (a : Addr) : It :=
  ⟨fun i H => ∃ (xs : List V) (x : V), SqT K H a xs ∧ xs[i]? = some x, fun i H v H' => ∃ T x, v = .ref T ∧ H T = none ∧ H' = upd H T (.tup [.int (i : Nat), x]) ∧ ∀ xs, SqT K H a xs → xs[i]? = some x, fun i H => ∃ xs : List V, SqT K H a xs ∧ xs.length ≤ i⟩
theorem two {b e it : Addr} (h : b ∈ [e, it]) : b = e ∨ b = it := by simpa using h
theorem turn_enumT {P : Program} {w : World} {K : PySem.W.Frag} {elts : List Expr} {kk : Nat} {tpos : Pos} (a e it : Addr) :
    Turn P w K (.Tuple elts kk tpos) (IteT K a) [e, it] e (fun i h => (∃ old, IsEnum h e it ((i : Nat) : Int) old) ∧ h.IsTupleIter it a i ∧ (e ≠ it ∧ e ≠ a ∧ a ≠ it)) where
  mem := List.mem_cons_self ..
  obj := fun i h st b hb => by
    obtain ⟨⟨old, he⟩, ⟨o, ho, _, hd⟩, _⟩ := st
    rcases two hb with z | z
    · rw [z]
      exact ⟨_, he, fun v q => nomatch q⟩
    · rw [z]
      exact ⟨o, ho, fun v q => by rw [hd] at q; cases q⟩
  keep := fun i h h' ⟨⟨old, he⟩, hi, hne⟩ k => ⟨⟨old, k e (by simp) _ he⟩, hi.at fun o q => k it (by simp) o q, hne⟩
  item := by
    intro X hP hw hK hc i pins s σ H E I hf ⟨⟨old, he⟩, hit, h1, h2, h3⟩ ⟨xs, x, hq, hx⟩
    subst hP hw hK
    obtain ⟨its, rv, p, hz⟩ := I.tuple hq
    obtain ⟨u, hu, ru⟩ := rv.get hx
    have hel : e < s.heap.objs.size := Heap.lt_size he
    have hil : it < s.heap.objs.size := by
      obtain ⟨_, q, _⟩ := hit
      exact Heap.lt_size q
    have hh : X.A.in1.handled = none := (by simpa using I.ok.hd hc)
    have D := Draws.tuple (prog := X.prog) (w := X.w) (A := X.A.in1) hh it a h3 its.toArray
    have hlt : i < its.toArray.size := (Array.getElem?_eq_some_iff.mp (show its.toArray[i]? = some u by simpa using hu)).1
    refine wpAny_pyNext_enum_itemD D he ⟨hit, show s.heap.IsTuple a its.toArray from p⟩ hlt h1 (by simp; exact ⟨h1, h2⟩) fun x' h' tk hP ho st' hT hsz hk => ?_
    have ex : x' = u := by
      have e1 : its.toArray[i]? = some u := by simpa using hu
      rw [hP] at e1
      exact Option.some.inj e1
    subst ex
    refine ⟨_, rfl, wpAny_letOwnedTupleGo_enum (s := { s with heap := h', toks := tk + 1 }) ho fun h'' he' sb => ?_⟩
    have hT2 : h''.get? s.heap.objs.size = some { cls := .type "tuple", data := .seq #[.int i tk, x'] } := (sb.2 _ (Nat.ne_of_gt hel)).trans hT
    have new : ObjOk X.prog X.w (upd H s.heap.objs.size (.tup [.int (i : Nat), x])) h'' s.heap.objs.size (.tup [.int (i : Nat), x]) :=
      ⟨show 2 ≤ sizeLine by decide, [.int i tk, x'], .cons ⟨_, rfl⟩ (.cons ru .nil), ⟨_, hT2, rfl, _, rfl⟩⟩
    have J : Inv X pins σ (upd H s.heap.objs.size (.tup [.int (i : Nat), x])) { s with heap := h'', toks := tk + 1 } :=
      I.turnedNew (ch := [e, it]) (fun b ob hb q => (sb.2 b (fun z => hb (by simp [z]))).trans (hk b ob (fun z => hb (by simp [z])) (fun z => hb (by simp [z])) q)) hf (Nat.le_refl _) new
    refine ⟨.ref s.heap.objs.size, _, J, rfl, ⟨_, x, rfl, I.hok.fresh (Nat.le_refl _), rfl, fun ys hy => by rw [I.tuple_inj hy hq]; exact hx⟩, ⟨⟨x', ?_⟩, st'.1.at fun o q => (sb.2 it (Ne.symm h1)).trans q, h1, h2, h3⟩, fun b hb => ?_⟩
    · have e1 : ((i + 1 : Nat) : Int) = (i : Int) + 1 := by omega
      rw [e1]
      exact he'
    · have lt : b < s.heap.objs.size := by
        rcases two hb with z | z
        · rw [z]
          exact hel
        · rw [z]
          exact hil
      rw [upd_ne (Nat.ne_of_lt lt)]
      exact (hf b hb).1
  done := by
    intro X hP hw hK hc i pins s σ H E I hf ⟨⟨old, he⟩, hit, h1, h2, h3⟩ ⟨xs, hq, hx⟩
    subst hP hw hK
    obtain ⟨its, rv, p, hz⟩ := I.tuple hq
    obtain ⟨f0, f1, f2, f3, f4, f5⟩ := hf it (by simp)
    have hl := rv.length
    have T : s.TypeIs (.ref e) "enumerate" := ⟨_, he, rfl⟩
    unfold pyNext
    refine wpAny_bind (wpAny_attempt (wpAny_callSpecial?_slot (name := Str.ofString "__next__") T F.slot_enumerate_next (wpAny_call_entry F.slot_enumerate_next T F.entry_enumerate_next ?_ (F.args_enumerate_next_1 _))))
    show wpAny _ _ (field (.ref e) 2 >>= _) _ _ _
    refine wpAny_bind (wpAny_field he rfl (x := .ref it) rfl ?_)
    refine wpAny_bind (RZ.nextOf_tuple_end (by simpa using I.ok.hd hc) hit (show s.heap.IsTuple a its.toArray from p) (by simp; omega) fun h' x eb hx' => ?_)
    obtain ⟨o, ho, hcl⟩ := hx'
    exact wpAny_bind (wpAny_isInstance (T := "StopIteration") (b := true) ⟨o, ho, hcl⟩ isSubtype_stop (wpAny_pure ⟨rfl, I.turned (t' := s.toks) (fun b o hb q => eb b o hb q) f0 f1 f3 f4 f5⟩))
  self := fun A i s Q E ⟨⟨_, he⟩, _⟩ h => wpAny_pyIter_enum he h
theorem meets_enumT (l : Addr) (items : Array Value) :
    Meets (Builtin.«enumerate.__new__» ⟨[.type "enumerate", .ref l], []⟩) (fun _ R s => s.heap.IsTuple l items ∧
      R (.ok (.ret (.ref (s.heap.push { cls := .type "tuple_iterator", data := .fields #[.ref l, .int 0 0] }).objs.size)))
        { s with heap := (s.heap.push { cls := .type "tuple_iterator", data := .fields #[.ref l, .int 0 0] }).push { cls := .type "enumerate", data := .fields #[.none, .bool false, .ref s.heap.objs.size, rawInt 0, .none, .none] } }) :=
  .of_wp fun prog w A R s h => by
    obtain ⟨hp, g, d, tk, os⟩ := s
    obtain ⟨hl, h⟩ := h
    have hsub := sub_enumerate
    have hL : Heap.IsTuple (Shared.heap ⟨hp, g, d, tk, os⟩) l items := hl
    have q1 : ∀ {A' : Around} {E : Value → Shared → Prop} {Q : Value → Shared → Prop}, Q (.ref hp.objs.size) ⟨hp.push { cls := .type "tuple_iterator", data := .fields #[.ref l, .int 0 0] }, g, d, tk, os⟩ → wpAny (model prog w) A' (pyIter (.ref l)) Q E ⟨hp, g, d, tk, os⟩ :=
      fun q => wpAny_pyIter_tuple hL q
    wp_walk using q1
    refine wpAny_stack_any fun st => wpAny_pure ?_
    split
    · rename_i c _ _ _ _ _
      cases (c == Value.type "enumerate")
      · wp_walk using q1
        exact ⟨_, rfl, h⟩
      · wp_walk using q1
        exact ⟨_, rfl, h⟩
    · wp_walk using q1
      exact ⟨_, rfl, h⟩
theorem call_enumT {prog : Program} {w : World} {A : Around} {E : Value → Shared → Prop} {s : Shared} {l : Addr} {items : Array Value} {Q : Value → Shared → Prop} (hL : s.heap.IsTuple l items)
    (h : ∀ h', IsEnum h' (s.heap.objs.size + 1) s.heap.objs.size 0 .none → h'.IsTupleIter s.heap.objs.size l 0 → (∀ b o, s.heap.get? b = some o → h'.get? b = some o) → Q (.ref (s.heap.objs.size + 1)) { s with heap := h' }) :
    wpAny (model prog w) A (call (.type "enumerate") [.ref l]) Q E s := by
  refine callType_new F.called_enumerate (by decide) (F.typeCall_enumerate_1 _) (F.newCall_enumerate_1 _) (fun obj => F.args_object_init_2 obj _) F.entry_enumerate_new (meets_enumT l items) ⟨hL, ?_⟩
  have hz : (s.heap.push { cls := .type "tuple_iterator", data := .fields #[.ref l, .int 0 0] }).objs.size = s.heap.objs.size + 1 := Heap.size_push ..
  refine (show _ ∧ _ from ?_)
  rw [hz]
  have he : IsEnum ((s.heap.push { cls := .type "tuple_iterator", data := .fields #[.ref l, .int 0 0] }).push { cls := .type "enumerate", data := .fields #[.none, .bool false, .ref s.heap.objs.size, rawInt 0, .none, .none] }) (s.heap.objs.size + 1) s.heap.objs.size 0 .none := by
    have q := Heap.get?_push_size (s.heap.push { cls := .type "tuple_iterator", data := .fields #[.ref l, .int 0 0] }) (o := { cls := .type "enumerate", data := .fields #[.none, .bool false, .ref s.heap.objs.size, rawInt 0, .none, .none] }) rfl
    rw [hz] at q
    exact q
  exact ⟨⟨_, he, rfl⟩, h _ he ⟨_, Heap.get?_push_of_some _ (Heap.get?_push_size _ rfl), rfl, rfl⟩ fun b o x => Heap.get?_push_of_some _ (Heap.get?_push_of_some _ x)⟩
def iEnumT (K : PySem.W.Frag) (ta : TA) : TI := fun σ H R => ta σ H fun vs H1 => ∃ a xs, vs = [.ref a] ∧ SqT K H1 a xs ∧ R (IteT K a) H1
theorem pi_enumT {X : Cx} {K : PySem.W.Frag} {e : Expr} {ta : TA} {p pos tpos : Pos} {elts : List Expr} {kk : Nat} (hg : Gl X "enumerate") (hm : X.mg "enumerate" = none) (ha : PA X [e] ta) (hs : starEach [e] X.env = [(false, eval e X.env)] := by rfl) (hK : X.K = K := by rfl) :
    PI X (.Tuple elts kk tpos) (.Call (.Name "enumerate" p) [e] [] pos) (iEnumT K ta) := by
  subst hK
  refine ⟨fun pins s σ H R I h => Call_ (ld_blt I hg hm boot_enumerate (PyProof.Rows.callWith_type1 (thn (ha.run pos pins s σ H _ I h) fun us s1 ⟨vs, H1, I1, r1, a, xs, ex, hq, q⟩ => ?_) hs rfl))⟩
  subst ex
  obtain _ | ⟨r, rr⟩ := r1
  cases rr
  cases r
  obtain ⟨its, rv, p', hz⟩ := I1.tuple hq
  have la : a < s1.heap.objs.size := by
    obtain ⟨o, ho, _⟩ := p'
    exact Heap.lt_size ho
  refine call_enumT (show s1.heap.IsTuple a its.toArray from p') fun h' he hit hk => wpAny_pyIter_enum he ?_
  refine ⟨s1.heap.objs.size + 1, [s1.heap.objs.size + 1, s1.heap.objs.size], _, _, H1, rfl, I1.kept (t' := s1.toks) hk, turn_enumT a (s1.heap.objs.size + 1) s1.heap.objs.size, ⟨⟨.none, he⟩, hit, Nat.succ_ne_self _, Nat.ne_of_gt (Nat.lt_succ_of_lt la), Nat.ne_of_lt la⟩, fun b hb => ?_, q⟩
  have hle : s1.heap.objs.size ≤ b := by
    rcases two hb with z | z
    · rw [z]
      exact Nat.le_add_right _ _
    · rw [z]
      exact Nat.le_refl _
  exact I1.fpOk hle (I1.hok.fresh hle)
section
variable {α β : Type} {G : List Fact} {O O0 : Ow} {σ : L2.St} {T : Ty α} {U : Ty β} {K : PySem.W.Frag}
theorem jok_enumT {S0 : Hp} {p : Addr} {vs : List V} {xs : List α} (g : ∀ S H, Same S0 S → Wd S O0 H → H p = some (.tup vs)) (r : Rl T S0 xs vs) : JOk S0 O0 (IteT K p) (tP tInt T) (enumL xs) := fun S H s w => by
  have e := g S H s w
  refine ⟨fun i a h => ?_, vs, SqT.of e, by rw [enumL_length, r.length]; exact Nat.le_refl _⟩
  obtain ⟨a', h0, rfl⟩ := enumL_get h
  obtain ⟨v, h1, h2⟩ := r.get h0
  refine ⟨⟨vs, v, SqT.of e, h1⟩, fun x H' ⟨q, y, e1, e2, e3, e4⟩ => ?_⟩
  have h3 := e4 vs (SqT.of e)
  rw [h1] at h3
  cases h3
  have s3 : Same S (upd S q (.tup [.int (i : Nat), v])) := same_upd (w.sn e2)
  exact ⟨_, s3, ⟨q, _, _, e1, upd_same, rfl, T.mono (s.trans s3) h2⟩, fun O w' => by rw [e3]; exact w'.new e2⟩
theorem simI_enumT {te : TE} {m : Option (List α)} (h : Sim G O te σ m (tT T)) : SimI G O [] (iEnumT K (tCons te tNil)) σ (m.bind fun xs => some (enumL xs)) (tP tInt T) := fun S H F r hG w hm R k => by
  obtain ⟨a, h1, hm⟩ := bind_some hm
  cases hm
  refine h S H F a hG w h1 _ fun v S1 H1 s1 w1 ⟨p, vs, e, g, q⟩ => ⟨p, vs, by rw [e], SqT.of (w1.st _ _ g), k _ S1 H1 s1 w1 ?_⟩
  exact jok_enumT (fun S H s w => w.st _ _ (s _ _ g)) q
/-! ### range(a, b, c) -/
def x_range3 (a b c : Int) : Option (List Int) := if c ≠ 0 ∧ c.natAbs < 1073741824 ∧ Builtin.Range.small a b c = true ∧ 0 ≤ Builtin.Range.rangeSize a b c then some ((List.range (Builtin.Range.rangeSize a b c).toNat).map fun i => a + (i : Nat) * c) else none
theorem simI_range3 {ta tb tc : TE} {ma mb mc : Option Int} (ha : Sim G O ta σ ma tInt) (hb : Sim G O tb σ mb tInt) (hc : Sim G O tc σ mc tInt) :
    SimI G O [] (iRng3 (tCons ta (tCons tb (tCons tc tNil)))) σ (ma.bind fun a => mb.bind fun b => mc.bind fun c => x_range3 a b c) tInt := fun S H F r hG w hm R k => by
  obtain ⟨a, h1, hm⟩ := bind_some hm
  obtain ⟨b, h2, hm⟩ := bind_some hm
  obtain ⟨c, h3, hm⟩ := bind_some hm
  obtain ⟨⟨z1, z2, z3, z4⟩, rfl⟩ := of_if hm
  refine ha S H F a hG w h1 _ fun x S1 H1 s1 w1 q1 => ?_
  refine hb S1 H1 F b (hG.mono s1) w1 h2 _ fun y S2 H2 s2 w2 q2 => ?_
  refine hc S2 H2 F c (hG.mono (s1.trans s2)) w2 h3 _ fun z S3 H3 s3 w3 q3 => ⟨a, b, c, (Builtin.Range.rangeSize a b c).toNat, by rw [show x = .int a from q1, show y = .int b from q2, show z = .int c from q3], ⟨z1, z2, z3, (Int.toNat_of_nonneg z4).symm⟩, ?_⟩
  refine k _ S3 H3 ((s1.trans s2).trans s3) w3 fun S H s w => ⟨fun i x e => ?_, ?_⟩
  · rw [List.getElem?_map] at e
    by_cases hi : i < (Builtin.Range.rangeSize a b c).toNat
    · rw [List.getElem?_range hi] at e
      cases e
      exact ⟨hi, fun y H' q => ⟨S, Same.refl _, q.2, fun O w' => by rw [q.1]; exact w'⟩⟩
    · rw [List.getElem?_eq_none (by simpa using hi)] at e
      cases e
  · show (Builtin.Range.rangeSize a b c).toNat ≤ _
    simp
end
end HF

set_option Elab.async false
set_option linter.all false
set_option maxRecDepth 100000
set_option maxHeartbeats 4000000
/-! Mini21: sorted(set(list of small ints)). -/
namespace HF
open PySem PySem.Spec PyProof.Rows L2
abbrev emp (w : World) : Obj := { cls := .type "set", dict := none, data := .set #[] 0 (.fresh 0 0 (!w.params.followText "set-order")) }
section
variable {P : Program} {w : World} {A : Around} {E : Value → Shared → Prop} {s : Shared}
set_option maxHeartbeats 6400000 in
theorem call_setLI {l : Addr} {items : Array Value} (ns : List Int) {Q : Value → Shared → Prop} (hh : A.handled = none) (hl : s.heap.IsList l items) (hit : IntsAre items.toList ns) (hb : ns.length + 1 < scanBound)
    (h : ∀ (h' : Heap) (tk c : Nat), SetR w h' s.heap.objs.size (fun j => decide (j ∈ ns)) c → (∀ b o, s.heap.get? b = some o → h'.get? b = some o) → Q (.ref s.heap.objs.size) { s with heap := h', toks := tk }) :
    wpAny (model P w) A (call (.type "set") [.ref l]) Q E s := by
  have sz : items.size = ns.length := by
    have q := IntsAre.length hit
    rwa [Array.length_toList] at q
  have val : ∀ (i : Nat) (v : Value), items[i]? = some v → ∃ k t, ns[i]? = some k ∧ v = .int k t := fun i v hv => by
    have hi : i < ns.length := by
      rw [← sz]
      exact (Array.getElem?_eq_some_iff.mp hv).1
    obtain ⟨t, e⟩ := PyProof.Rows.IntsAre.int_at hit i v (by rw [Array.getElem?_toList]; exact hv)
    refine ⟨ns[i], t, List.getElem?_eq_getElem hi, ?_⟩
    rw [e, List.getD_eq_getElem?_getD, List.getElem?_eq_getElem hi] <;> rfl
  have ll : l < s.heap.objs.size := by
    obtain ⟨_, q, _⟩ := hl
    exact Heap.lt_size q
  obtain ⟨c, tl, hmro⟩ := F.called_set.mro
  have hmade := F.called_set.made
  have hsub := F.called_set.sub
  have h1 := F.called_set.notType
  have h2 := F.called_set.canCreate
  have hct := F.typeCall_set_1 (.ref l)
  refine wpAny_call (codeAny_of_tree (show wpAny _ _ (callAny (.type "set") _) _ _ _ from wpAny_pure ⟨Code.quiet_builtin _ (by decide +kernel), codeAny_builtin F.entry_type_call ?_⟩))
  rw [Around.under_plain (weight_type_call_type "set" [.ref l] []) rfl]
  repeat (any_goals (first | assumption | wp_step))
  refine codeAny_mono (code_set_led1 (.ref l) (E := E) (Q₁ := fun obj s₁ => obj = .ref s.heap.objs.size ∧ s₁ = { s with heap := s.heap.push (emp w) }) ⟨rfl, rfl⟩) fun r s₁ hr => ?_
  cases r with
  | error e => exact hr
  | ok fl =>
    cases fl with
    | ret obj =>
      obtain ⟨rfl, rfl⟩ := hr
      have hS : (s.heap.push (emp w)).get? s.heap.objs.size = some (emp w) := Heap.get?_push_size _ rfl
      have hT : Shared.TypeIs { s with heap := s.heap.push (emp w) } (.ref s.heap.objs.size) "set" := ⟨_, hS, rfl⟩
      have hli := F.called_set.init.lookup
      have hbi := F.called_set.init.bind (.ref s.heap.objs.size)
      repeat (any_goals (first | assumption | wp_step))
      refine codeAny_mono (codeAny_call_builtin (R := wants (fun r s₂ => r = .none ∧ ∃ h' tk c, s₂ = { s with heap := h', toks := tk } ∧ SetR w h' s.heap.objs.size (fun j => decide (j ∈ ns)) c ∧ (∀ b o, s.heap.get? b = some o → h'.get? b = some o)) E) F.called_set.init.plain F.entry_set_init (check_set_init_1 hT ?_)) fun r₂ s₂ hr₂ => ?_
      · obtain ⟨⟨oc, od, dt, osl⟩, hol, hcl, nl, hdl⟩ := hl
        simp only at hcl hdl
        subst hcl
        subst hdl
        have hol' : (s.heap.push (emp w)).get? l = some { cls := .type "list", dict := od, data := .seq items nl, slots := osl } := Heap.get?_push_of_some _ hol
        have hsls := F.sub_list_set
        have hslf := F.sub_list_frozenset
        have hne : (Value.type "list" == Value.type "dict") = false := by decide
        have hl1 : (s.heap.push (emp w)).IsList l items := ⟨_, hol', rfl, nl, rfl⟩
        unfold Builtin.«set.__init__» noKeywords Builtin.Frozenset.updateFrom
        generalize hPI : pyIter = PI
        wp_walk
        subst hPI
        refine wpAny_pyIter_list hl1 (wpAny_bind (wpAny_runValue ?_))
        have hh3 : A.in1.in1.in1.handled = none := by simp [hh]
        have z1 : (s.heap.push (emp w)).objs.size = s.heap.objs.size + 1 := Heap.size_push ..
        have nI : l ≠ (s.heap.push (emp w)).objs.size := by
          rw [z1]
          exact Nat.ne_of_lt (Nat.lt_succ_of_lt ll)
        have nS : s.heap.objs.size ∉ [(s.heap.push (emp w)).objs.size, l] := by
          rw [z1]
          simp only [List.mem_cons, List.mem_singleton, List.not_mem_nil, or_false, not_or]
          exact ⟨Nat.ne_of_lt (Nat.lt_succ_self _), Nat.ne_of_gt ll⟩
        refine set_update_ints ((Walks.list hh3 _ l nI items).toS) s.heap.objs.size nS ns sz hb val (items.size - 0) 0 _ (by omega) (Nat.zero_le _) ⟨⟨_, Heap.get?_push_size _ rfl, rfl, rfl⟩, (hl1.push _)⟩ ?hS0 ?hR
        case hS0 =>
          have hget : ((s.heap.push (emp w)).push { cls := .type "list_iterator", data := .fields #[.ref l, .int 0 0] }).get? s.heap.objs.size = some (emp w) := Heap.get?_push_of_some _ hS
          exact ⟨0, Nat.le_refl 0, setR_new_at hget⟩
        case hR =>
          intro s' c' hm hc' hS'
          obtain ⟨h', g2, d', tk', os'⟩ := s'
          obtain rfl : g2 = s.gens := hm.gens
          obtain rfl : d' = s.drawn := hm.drawn
          obtain rfl : os' = s.os := hm.os
          refine wpAny_pure (show wpAny _ _ (ret Value.none) _ _ _ from wpAny_pure ⟨rfl, h', tk', c', rfl, hS', fun b o e => ?_⟩)
          have b0 : b < s.heap.objs.size := Heap.lt_size e
          refine hm.heap b o ?_ (Heap.get?_push_of_some _ (Heap.get?_push_of_some _ e))
          rw [z1]
          simp only [List.mem_cons, List.mem_singleton, List.not_mem_nil, or_false, not_or]
          exact ⟨Nat.ne_of_lt b0, Nat.ne_of_lt (Nat.lt_succ_of_lt b0)⟩
      · cases r₂ with
        | error e => exact hr₂
        | ok fl2 =>
          cases fl2 with
          | ret v =>
            obtain ⟨rfl, h', tk, c', rfl, hS', kp⟩ := hr₂
            repeat (any_goals (first | assumption | wp_step))
            exact h h' tk c' hS' kp
          | _ => exact hr₂.elim
    | _ => exact hr.elim
end
end HF

set_option Elab.async false
set_option linter.all false
set_option maxRecDepth 100000
set_option maxHeartbeats 4000000
/-! Mini22: an exception's __init__ that begins with super().__init__(..), the chain ending in ValueError. -/
namespace HF
open PySem PySem.Spec PyProof.Rows L2
abbrev clsC (cc : Addr) : List (Str × Addr) := [("__class__", cc)]
abbrev enX (qual : Str) (scope : Scope) (L f : Addr) (cd : Value) (cc : Addr) : Env := PySem.W.envX qual scope L f cd (clsC cc)
/-- the context of such a body -/
def cxI (CX : CXT) (P : Program) (w : World) (K : PySem.W.Frag) (mg : Str → Option Value) (base : Heap) (N : List Str) (qual : Str) (scope : Scope) (f cc : Addr) (cd : Value) (A : Around) (outer : List Env) (s : Shared) (H : Hp) (E : XK) : Cx where
  prog := P
  w := w
  K := K
  mg := mg
  base := base
  A := A.deeper (enX qual scope s.heap.objs.size f cd cc)
  N := N
  s_0 := s
  H_0 := H
  env := enX qual scope s.heap.objs.size f cd cc
  outer := outer
  stack := enX qual scope s.heap.objs.size f cd cc :: outer
  ex := []
  calm := true
  fn := fun x => x != "__class__"
  pn := []
  xe := fun e s' => wpAny (model P w) (A.deeper (enX qual scope s.heap.objs.size f cd cc)) (leaving (enX qual scope s.heap.objs.size f cd cc) e) (fun _ s'' => CX outer H s E e s'') (fun e' s'' => CX outer H s E e' s'') s'
structure ScI (ps : List Str) (sc : Scope) : Prop where
  kind : sc.kind = .function
  co : sc.isCoroutine = false
  gen : sc.isGenerator = false
  nd : ps.Nodup
  par : ∀ x ∈ ps, sc.names.lookup x = some .local
  nocell : ∀ y ∈ sc.names, y.2 ≠ .cell
  sup : sc.names.lookup ("super" : Str) = some .globalImplicit
  cls : sc.names.lookup ("__class__" : Str) = some .free
  free : ∀ x, sc.names.lookup x = some .free → x = "__class__"
theorem zip_lookup {β : Type} {x : Str} {u : β} : ∀ {ps : List Str} {us : List β} {i : Nat}, ps.Nodup → ps[i]? = some x → us[i]? = some u → (ps.zip us).reverse.lookup x = some u
  | [], _, _, _, h, _ => by simp at h
  | _ :: _, [], _, _, _, h => by simp at h
  | p :: ps, v :: us, i, nd, h1, h2 => by
    rw [List.zip_cons_cons, List.reverse_cons, List.lookup_append]
    cases i with
    | zero =>
      simp at h1 h2
      subst h1
      subst h2
      have n : (ps.zip us).reverse.lookup p = none := by
        rw [List.lookup_eq_none_iff]
        intro q hq
        obtain ⟨a, b⟩ := q
        have m : a ∈ ps := (List.of_mem_zip (List.mem_reverse.mp hq)).1
        simp only [beq_eq_false_iff_ne, ne_eq, bne_iff_ne]
        rintro rfl
        exact (List.nodup_cons.mp nd).1 m
      rw [n]
      simp [List.lookup]
    | succ i =>
      rw [zip_lookup (List.nodup_cons.mp nd).2 (by simpa using h1) (by simpa using h2)]
      rfl
theorem inv_I {CX : CXT} {P : Program} {w : World} {K : PySem.W.Frag} {mg : Str → Option Value} {base : Heap} {ps : List Str} {qual : Str} {scope : Scope} {f cc : Addr} {cd : Value} {A : Around} {outer : List Env} {s : Shared} {H : Hp} {E : XK} {us : List Value} {vs : List V} {h1 : Heap} {tk : Nat} {v0 : Option Value}
    (S : ScI ps scope) (hd : A.handled = none) (e0 : Env0 P w K mg base A outer s H) (hl : vs.length = ps.length) (r : Vals vs us) (hns : h1.Ns s.heap.objs.size fun x => (ps.zip us).reverse.lookup x) (k : ∀ b o, s.heap.get? b = some o → h1.get? b = some o)
    (hcell : ∃ a b c, K.lookup cc = some ⟨a, b, .cell v0, c⟩) : Inv (cxI CX P w K mg base ps qual scope f cc cd A outer s H E) [] (vs.map some) H { s with heap := h1, toks := tk } := by
  obtain ⟨ca, cb, ce, hc⟩ := hcell
  have noA : ∀ b : Addr, b ∉ (cxI CX P w K mg base ps qual scope f cc cd A outer s H E).ex := fun b z => absurd (show b ∈ ([] : List Addr) from z) (by simp)
  have onl : ∀ {x : Str} {c : Addr}, (clsC cc).lookup x = some c → x = "__class__" ∧ c = cc := fun {x c} h => by
    simp only [clsC, List.lookup] at h
    split at h
    · rename_i q
      exact ⟨beq_iff_eq.mp q, (Option.some.inj h).symm⟩
    · cases h
  have KB := e0.mod.kin _ _ hc
  refine ⟨⟨e0.mod, S.kind, rfl, rfl, Nat.le_refl _, fun y z c h1 h2 => (onl h1).1.trans (onl h2).1.symm, fun y hy => ?_, fun y c h2 h => ?_, fun _ => hd, Around.frames_deeper e0.frames, .inr ⟨rfl, rfl⟩, fun b z => absurd z (noA b), e0.bs, e0.bsz, fun b _ _ => noA b, fun b z => absurd z (noA b), e0.funs, e0.frf⟩,
    rfl, e0.bare, Un.kept k, ⟨_, hns, fun i y v h1 h2 h3 => ?_⟩, fun y c h => ?_, e0.hok.fresh (Nat.le_refl _), fun y c h => ?_, fun p hp => absurd (show p ∈ ([] : List (Addr × Obj)) from hp) (by simp), e0.hok.kept k, ?_⟩
  · have hy : scope.names.lookup y = some .cell ∨ scope.names.lookup y = some .free := hy
    rcases hy with hy | hy
    · exact absurd rfl (S.nocell _ (PySem.mem_of_lookup hy))
    · rw [S.free y hy]
      exact ⟨cc, rfl⟩
  · rw [(onl h).1] at h2
    exact absurd (show (("__class__" : Str) != "__class__") = true from h2) (by decide +kernel)
  · rw [List.getElem?_map] at h2
    cases e : vs[i]? with
    | none => rw [e] at h2; cases h2
    | some a =>
      rw [e] at h2
      cases h2
      obtain ⟨u, hu, rv⟩ := r.get e
      have h1' : ps[i]? = some y := h1
      exact ⟨u, rv, .inl ⟨S.par y (List.mem_of_getElem? h1'), zip_lookup S.nd h1' hu⟩⟩
  · rw [(onl h).2]
    exact ⟨v0, _, k _ _ (e0.bs _ _ KB).1, rfl⟩
  · rw [(onl h).2]
    exact (e0.bs _ _ KB).2
  · show (vs.map some).length = ps.length
    rw [List.length_map, hl]

/-- the built-in __init__ bound to an exception that is being made, called -/
theorem call_mw {prog : Program} {w : World} {A : Around} {E : Value → Shared → Prop} {h : Heap} {g : Array GenState} {d : Drawn} {t : Nat} {os : OsState} {nm q : Str} {C N : Addr} {bs bm : List Value} {hdct : Bool} {sn : List Str} {sub : List Value} {ab : Bool} {col : Option Bool} {dd : Option Addr} {k0 k1 k2 k3 k5 : Option Value}
    {u e t0 : Addr} {rest : List Value} {Q : Value → Shared → Prop}
    (hC : h.get? C = some (excClassObj nm q C N bs bm hdct sn sub ab col dd k0 k1 k2 k3 k5 "ValueError.__new__")) (he : h.get? e = some (HandSPX.excO C t0)) (hu : h.get? u = some (PySem.W.kxs_mw "ValueError.__init__" e)) (hrest : rest.length ≤ sizeLine)
    (hq : ∀ h' t1, (∀ b o, b ≠ e → h.get? b = some o → h'.get? b = some o) → h'.get? e = some (HandSPX.excO C t1) → Q .none ⟨h', g, d, t, os⟩) :
    wpAny (model prog w) A (call (.ref u) rest) Q E ⟨h, g, d, t, os⟩ := by
  refine wpAny_call (codeAny_of_tree ?_)
  show wpAny _ A.in1 (callAny (.ref u) ⟨rest, []⟩) _ _ _
  simp only [callAny]
  refine wpAny_bind (wpAny_load hu ?_)
  simp only [PySem.W.kxs_mw, show (Value.type "method-wrapper" == Value.type "method" || Value.type "method-wrapper" == Value.type "builtin_function_or_method" || Value.type "method-wrapper" == Value.type "method-wrapper") = true by decide, if_true]
  refine W.KFB.if_so (by decide) ?_
  refine wpAny_bind (ESX.check_bound F.excBase_ValueError hC he rfl ?_)
  refine wpAny_bind (wpAny_pure (wpAny_pure ?_))
  refine ⟨Code.quiet_builtin _ (by decide +kernel), codeAny_builtin F.excBase_ValueError.initEntry ?_⟩
  rw [Around.under_plainId F.excBase_ValueError.init.plain _]
  wp_walk
  refine hq _ h.objs.size (fun b o hb ho => ?_) ?_
  · rw [Heap.get?_update_other _ _ (Ne.symm hb)]
    exact Heap.get?_push_of_some _ ho
  · rw [Heap.get?_update_self _ (Heap.get?_push_of_some _ he) rfl]
    rfl

/-- what is written of such an exception: the class at C, its __init__ from the class at D -/
structure ExI (K : PySem.W.Frag) (C D : Addr) : Prop where
  ex : OexC K C
  sub : PySem.W.mroIn K C (.ref D) = some true
  sup : PySem.W.ks_superIn K C D "__init__" = some (some (.builtin "ValueError.__init__"))
  cd : ∃ c, PySem.W.clsIn K D = some c
theorem fn_exi {CX : CXT} {P : Program} {w : World} {K : PySem.W.Frag} {mg : Str → Option Value} {base : Heap} {k : Nat} {f cc cda D : Addr} {name qual : Str} {params : Arguments} {body : List Stmt} {scope : Scope} {dV kV doc pm ct oc : Value} {an od : Option Addr}
    {osl : Array (Option Value)} {ps : List Str} {sp : Sp} {ar : Arg} {e : Expr} {es : List Expr} {p0 p1 p2 p3 p4 : Pos} {pl : Addr → Sem Bool}
    (lk : K.lookup f = some ⟨oc, od, .func (PySem.W.fnX name qual params (.Expr (.Call (.Attribute (.Call (.Name "super" p0) [] [] p1) "__init__" p2) (e :: es) [] p3) p4 :: body) scope (clsC cc) dV kV doc pm an (.ref cda) ct), osl⟩) (hcd : PySem.W.codeIn K (.ref cda) qual = true)
    (S : ScI ps scope) (har : (params.posonlyargs ++ params.args).head? = some ar) (hps : ps[0]? = some ar.arg) (hcode : ∃ a b vs c file tf, K.lookup cda = some ⟨a, b, .fields vs, c⟩ ∧ vs[2]? = some (.str file tf) ∧ ((P.main.file : Str) == file) = true)
    (hcell : ∃ a b c, K.lookup cc = some ⟨a, b, .cell (some (.ref D)), c⟩) (hsup : mg "super" = none) (htop : (P.main.scope.names.lookup ("super" : Str)).isSome = false) (hop : PySem.W.nsIn K cStatics "thirdparty.any" = some none) (len : ∀ vs H Q E, sp vs H Q E → vs.length = ps.length)
    (hev : ∀ L, eval (.Call (.Attribute (.Call (.Name "super" p0) [] [] p1) "__init__" p2) (e :: es) [] p3) (enX qual scope L f (.ref cda) cc) = (do
      let ov ← attributeBase (.Call (.Name "super" p0) [] [] p1) "__init__" (enX qual scope L f (.ref cda) cc) (eval (.Call (.Name "super" p0) [] [] p1) (enX qual scope L f (.ref cda) cc))
      standAt p2.atName
      let (f', first) ← holding [ov] (getMethod ov "__init__" (pl L))
      callWith p3 f' first (backTo p3 (starEach (e :: es) (enX qual scope L f (.ref cda) cc))) []))
    (hint : ∀ L, interactive (enX qual scope L f (.ref cda) cc) = false) (hsw : ∀ L, swapsWith (.Call (.Attribute (.Call (.Name "super" p0) [] [] p1) "__init__" p2) (e :: es) [] p3) none p4.line (enX qual scope L f (.ref cda) cc) = pure false)
    (hst : ∀ L, starEach (e :: es) (enX qual scope L f (.ref cda) cc) = (false, eval e (enX qual scope L f (.ref cda) cc)) :: starEach es (enX qual scope L f (.ref cda) cc)) (hpl : ∀ L, (backTo p3 (starEach es (enX qual scope L f (.ref cda) cc))).any (·.1) = false)
    (hbody : ∀ (A : Around) (outer : List Env) (s : Shared) (H : Hp) (vs : List V) (Q : VK) (E : XK), Room k (A.deeper (enX qual scope s.heap.objs.size f (.ref cda) cc)) → sp vs H Q E →
      ∃ ta t, PA (cxI CX P w K mg base ps qual scope f cc (.ref cda) A outer s H E) (e :: es) ta ∧ PSs (cxI CX P w K mg base ps qual scope f cc (.ref cda) A outer s H E) body t ∧ ∃ a C, vs[0]? = some (.ref a) ∧ ExI K C D ∧ H a = some (exo a C none) ∧
        ta (vs.map some) H fun ws H1 => H1 a = some (exo a C none) ∧ ws.length ≤ 1000 ∧ t { nx := fun _ H' => Q .non H', rt := Q } (vs.map some) H1) :
    FnOk P w K mg base CX (k + 1) f (PySem.W.fnX name qual params (.Expr (.Call (.Attribute (.Call (.Name "super" p0) [] [] p1) "__init__" p2) (e :: es) [] p3) p4 :: body) scope (clsC cc) dV kV doc pm an (.ref cda) ct) ps sp := by
  refine ⟨len, fun A outer s H args us vs Q E hr e0 hb r hsp => ?_⟩
  have hl := len _ _ _ _ hsp
  have KX : K.In s.heap := e0.mod.kin.keeps fun b o e => (e0.bs b o e).1
  have lim : s.heap.NoLimit := e0.mod.nolimit.keeps fun b o e => (e0.bs b o e).1
  obtain ⟨c1, c2, cvs, c3, file, tf, hcode, hfile0, hfile⟩ := hcode
  obtain ⟨d1, d2, d3, hcell⟩ := hcell
  refine PySem.ks_codeAny_call_defAt (binds := ps.zip us) hr.depth (KX _ _ lk) rfl lim (PySem.W.codeRec_of KX hcd) rfl hb S.nocell (fun x hx => S.par _ (List.of_mem_zip hx).1) (fun h1 hns hk => ?_) S.co S.gen S.kind
  obtain ⟨ta, t, hPA, hPS, a, C, hv0, T, hexo, hq⟩ := hbody A outer s H vs Q E (hr.deeper _) hsp
  have I : Inv (cxI CX P w K mg base ps qual scope f cc (.ref cda) A outer s H E) [] (vs.map some) H { s with heap := h1, toks := s.toks + (ps.zip us).length } := inv_I S hr.hd e0 hl r hns hk ⟨d1, d2, d3, hcell⟩
  obtain ⟨cD, hcD⟩ := T.cd
  obtain ⟨nm, q, N, bs, bm, sn, sub, ab, col, dd, k0, k1, k2, k3, k5, hC, hbm⟩ := T.ex.cls
  obtain ⟨t1, ho⟩ := exo_at I.hok hexo
  have X1 : K.In h1 := I.kIn
  have hcl : PySem.W.clsIn K C = some { name := nm, bases := bs, mro := .ref C :: bm, ns := N, qualname := q, hasDict := true, slotNames := sn, subclasses := sub, abstract := ab, collection := col, hasDel := false } := by
    unfold PySem.W.clsIn
    rw [hC]
  obtain ⟨oD, hD1, hD2⟩ : ∃ oD, h1.get? D = some oD ∧ oD.data = .cls cD := by
    unfold PySem.W.clsIn at hcD
    split at hcD
    · rename_i c d cd' sl ho'
      cases hcD
      exact ⟨_, X1 _ _ ho', rfl⟩
    · cases hcD
  obtain ⟨u0, hu0, ru0⟩ := r.get hv0
  obtain rfl : u0 = .ref a := ru0
  obtain ⟨mb, hmb, hboot⟩ := e0.mod.blt
  show PySem.wpAt (model P w) (A.deeper (enX qual scope s.heap.objs.size f (.ref cda) cc)) (.func _ (enX qual scope s.heap.objs.size f (.ref cda) cc)) (execs _ (enX qual scope s.heap.objs.size f (.ref cda) cc)) _ _ _
  refine PySem.ks_wpAt_execs_cons (PySem.ks_wpAt_Expr_any ?_ (hint _) (hsw _))
  refine PySem.ks_wpAt_MethodCall (pl := pl s.heap.objs.size) ?_ (hev _)
  refine PySem.ks_wpAt_super_base (env := enX qual scope s.heap.objs.size f (.ref cda) cc) S.sup S.cls (by decide +kernel) rfl (X1 _ _ lk) rfl har rfl (X1 _ _ hcode) rfl hfile0 hfile htop ?_
  refine PySem.W.ks_loadName_global S.kind S.sup (Calls.loadGlobal_builtin (env := enX qual scope s.heap.objs.size f (.ref cda) cc) (I.mod.glob.keeps I.bk) hsup (hmb.keeps I.bk) ((hboot _ (by decide +kernel)).trans (by decide +kernel)) ⟨rfl, ?_⟩)
  refine wpAny_loadName_free S.kind S.cls rfl ⟨_, X1 _ _ hcell, rfl⟩ ?_
  refine wpAny_loadName_local S.kind (S.par _ (List.mem_of_getElem? hps)) hns (zip_lookup S.nd hps hu0) ?_
  refine PySem.ks_wpAny_isType_cls hD1 hD2 ⟨rfl, ?_⟩
  refine PySem.ks_wpAny_call_super hD1 hD2 ho rfl (fun c z => by cases z) (PySem.W.looks_mroIn X1 T.sub) (fun h2 hso kp => ?_)
  have I2 : Inv (cxI CX P w K mg base ps qual scope f cc (.ref cda) A outer s H E) [] (vs.map some) H { s with heap := h2, toks := s.toks + (ps.zip us).length } := I.kept (t' := s.toks + (ps.zip us).length) kp
  have X2 : K.In h2 := I2.kIn
  have J : PySem.W.InstAt h2 a { cls := .ref C, dict := none, data := .fields #[.ref t1, .none, .none, .none, .bool false, .none] } C none := ⟨kp _ _ ho, rfl, rfl, trivial⟩
  have hin : PySem.W.Looks (model P w) h2 (isInstance (.ref a) (.type "ValueError")) true := J.type.andThen (PySem.W.looks_mroIn X2 (by
    unfold PySem.W.mroIn
    rw [hcl, Option.bind_some, if_neg (show ¬ (List.isEmpty (Value.ref C :: bm) = true) from Bool.false_ne_true)]
    exact congrArg some ((PySem.HandSPX.refsVE_contains "ValueError" (.ref C :: bm) hbm).trans (by decide +kernel))))
  have hal : PySem.W.alongIn K "__init__" (((Value.ref C :: bm).dropWhile (· != .ref D)).drop 1) = some (some (.builtin "ValueError.__init__")) := by
    have z := T.sup
    unfold PySem.W.ks_superIn at z
    rw [hcl] at z
    exact z
  refine PySem.W.kxs_getMethod PySem.W.kxs_ValueError hso (PySem.W.looks_opaque X2 hop) (l₀ := Value.ref C :: bm) (fun A Q E s k q => wpAny_bind ((PySem.W.looks_clsIn X2 hcl) A _ E s k (wpAny_pure q))) rfl X2 hal hin (PySem.W.ks_ne X2 J hcl) (by decide +kernel) ?_
  have I3 : Inv (cxI CX P w K mg base ps qual scope f cc (.ref cda) A outer s H E) [(h2.objs.size, PySem.W.kxs_mw "ValueError.__init__" a)] (vs.map some) H { s with heap := h2.push (PySem.W.kxs_mw "ValueError.__init__" a), toks := s.toks + (ps.zip us).length + 1 } :=
    ClX.pin_new (s := { s with heap := h2, toks := s.toks + (ps.zip us).length }) (t' := s.toks + (ps.zip us).length + 1) I2 (fun b o z => Heap.get?_push_of_some _ z) (Nat.le_refl _) (Heap.get?_push_size _ rfl) (fun v z => by cases z)
  have pre : (backTo p3 (starEach (e :: es) (enX qual scope s.heap.objs.size f (.ref cda) cc))).any (·.1) = false := by
    rw [hst]
    show (false || (backTo p3 (starEach es (enX qual scope s.heap.objs.size f (.ref cda) cc))).any (·.1)) = false
    rw [hpl]
    rfl
  refine PySem.W.kxs_callWith (i := "ValueError.__init__") (x := a) pre ?_
  have key := hPA.run p3 _ _ _ _ _ I3 hq
  have hst0 := hst s.heap.objs.size
  rw [show (cxI CX P w K mg base ps qual scope f cc (.ref cda) A outer s H E).env = enX qual scope s.heap.objs.size f (.ref cda) cc from rfl, hst0] at key
  rw [hst0]
  refine Calls.evalArgs_plain (thn key fun us2 s2 ⟨ws, H1, I4, rws, e1, hlen, q3⟩ => ⟨ClX.pin_at I4, ?_⟩)
  have hu := ClX.pin_at I4
  have I5 := ClX.unpin I4
  obtain ⟨t2, ho2⟩ := exo_at I5.hok e1
  have hlen2 : us2.length ≤ sizeLine := by
    rw [← Paired.length rws, sizeLine_eq]
    omega
  obtain ⟨hp, g, dd2, tk, os⟩ := s2
  refine call_mw (I5.kIn _ _ hC) ho2 hu hlen2 fun h' t3 k3 hx => ?_
  have J := I5.write (t' := tk) (x := a) (e := a) (o := exo a C none) (by rw [e1]; exact True.intro) (.inl rfl) k3 ⟨_, hx⟩ (exo_ok hx)
  have eu : upd H1 a (exo a C none) = H1 := by
    funext b
    by_cases hb : b = a
    · rw [hb, upd_same, e1]
    · rw [upd_ne hb]
  rw [eu] at J
  refine wpAt_of_wpAny (wpAny_mono (hPS.run [] _ _ H1 _ J q3) (fun fl s' hs => ?_) fun e s' hs => hs)
  have fin : ∀ {σ' : L2.St} {H' : Hp} {v : V} {u : Value}, Inv (cxI CX P w K mg base ps qual scope f cc (.ref cda) A outer s H E) [] σ' H' s' → RelV v u → Q v H' → CE outer P w H s Q u s' :=
    fun {σ' H' v u} J rv q => ⟨v, H', J.os, J.bare, J.base, J.hok, rv, q⟩
  cases fl with
  | ret u =>
    obtain ⟨v, σ', H', J, rv, q⟩ := hs
    exact fin J rv q
  | next =>
    obtain ⟨σ', H', J, q⟩ := hs
    exact fin (v := V.non) (u := Value.none) J rfl q
  | brk =>
    obtain ⟨_, _, _, q⟩ := hs
    exact False.elim q
  | cont =>
    obtain ⟨_, _, _, q⟩ := hs
    exact False.elim q
end HF

set_option Elab.async false
set_option linter.all false
set_option maxRecDepth 100000
set_option maxHeartbeats 4000000
/-! Mini23: exceptions: raised by a def, caught by a try. -/
namespace HF
open PySem PySem.Spec PyProof.Rows L2
/-! ### the making of an exception -/
/-- the promise of C's __init__, which stores its arguments under keys -/
def spEx (C : Addr) (keys : List Str) : Sp := fun vs H Q _ => ∃ (a : Addr) (ws : List V), vs = .ref a :: ws ∧ ws.length = keys.length ∧ H a = some (exo a C none) ∧
  ∀ d H', H d = none → d ≠ a → H' a = some (exo a C (some d)) → H' d = some (exd d (keys.zip ws).reverse) → (∀ b, b ≠ a → b ≠ d → H' b = H b) → Q .non H'
def tRx (C : Addr) (keys : List Str) (ta : TA) : L2.St → Hp → XK → Prop := fun σ H Q => ta σ H fun ws H1 => (ws.length = keys.length ∧ ws.length ≤ 1000) ∧ ∀ d, H1 d = none → Q (.ref C) (some d) (upd H1 d (.xd (keys.zip ws).reverse))
/-- what the making of C asks of its arguments -/
def MkC (C : Addr) (sp : Sp) (vs : List V) (H1 : Hp) (Q : XK) : Prop := vs.length ≤ 1000 ∧ ∀ a, H1 a = none → sp (.ref a :: vs) (upd H1 a (exo a C none)) (fun v H2 => v = .non ∧ ∃ (d : Addr) (fs : List (Str × V)), H2 a = some (exo a C (some d)) ∧ H2 d = some (exd d fs) ∧ H1 d = none ∧ Q (.ref C) (some d) (upd (del H2 a) d (.xd fs))) (fun _ _ _ => False)
theorem pmk_oexN {R : List V → Hp → XK → Prop} {X : Cx} {CX : CXT} {x : Str} {e : Expr} {es : List Expr} {ta : TA} {p pos : Pos} {C fI : Addr} {k : Nat} {fd : FuncData} {ps : List Str} {sp : Sp} (T : OexC X.K C) (iC : PySem.W.findIn X.K (.ref C) "__init__" = some (some (.ref fI))) (tI : PySem.W.typeIn X.K (.ref fI) = some (.type "function"))
    (F1 : FnOk X.prog X.w X.K X.mg X.base CX k fI fd ps sp) (hr : Room (k + 1) X.A) (hb : Binds X.K fd ps []) (hx : Passes CX X (fun _ _ _ => False)) (hg : Gl X x) (hm : X.mg x = some (.ref C)) (ha : PA X (e :: es) ta) (hR : ∀ vs H Q, R vs H Q → MkC C sp vs H Q)
    (hdb : (x == ("__debug__" : Str)) = false := by decide) (he : starEach (e :: es) X.env = (false, eval e X.env) :: starEach es X.env := by rfl) (hpl : (backTo pos (starEach es X.env)).any (·.1) = false := by rfl) :
    L2N.PMk X (.Call (.Name x p) (e :: es) [] pos) (fun σ H Q => ta σ H fun vs H1 => R vs H1 Q) := by
  intro pins s σ H Q I h
  obtain ⟨nm, q, N, bs, bm, sn, sub, ab, col, dd, k0, k1, k2, k3, k5, hC, hbm⟩ := T.cls
  refine wpAny_Call_Name_kw (ld_glob I hg hm ?_ hdb)
  refine PySem.W.callWith_K (h₀ := X.base) I.ok.mod.kin T.kC (thn (ha.run pos pins s σ H _ I h) fun us s1 ⟨vs, H1, I1, r1, q0⟩ => ⟨I1.kIn, ?_⟩) he hpl
  obtain ⟨hz, q1⟩ := hR _ _ _ q0
  refine (show wpAny _ _ (call (.ref C) us) _ _ _ from ?_)
  obtain ⟨hp, g, dr, tk, os⟩ := s1
  have hsz : hp.objs.size ≤ hp.objs.size + 1 := Nat.le_succ _
  have hn : H1 (hp.objs.size + 1) = none := I1.hok.fresh hsz
  have hq := q1 (hp.objs.size + 1) hn
  have kk : ∀ b o, hp.get? b = some o → ((hp.push (PySem.W.kdv_tup us)).push (PySem.HandSPX.excO C hp.objs.size)).get? b = some o := fun b o e => Heap.get?_push_of_some _ (Heap.get?_push_of_some _ e)
  have hget : ((hp.push (PySem.W.kdv_tup us)).push (PySem.HandSPX.excO C hp.objs.size)).get? (hp.objs.size + 1) = some (PySem.HandSPX.excO C hp.objs.size) := by heap_get
  have I2 : Inv X pins σ (upd H1 (hp.objs.size + 1) (exo (hp.objs.size + 1) C none)) ⟨(hp.push (PySem.W.kdv_tup us)).push (PySem.HandSPX.excO C hp.objs.size), g, dr, tk, os⟩ :=
    I1.laid (t' := tk) (a := hp.objs.size + 1) (o := exo (hp.objs.size + 1) C none) (h' := (hp.push (PySem.W.kdv_tup us)).push (PySem.HandSPX.excO C hp.objs.size)) kk hsz (exo_ok hget)
  have r2 : Vals (V.ref (hp.objs.size + 1) :: vs) (Value.ref (hp.objs.size + 1) :: us) := .cons rfl r1
  have hl : (Value.ref (hp.objs.size + 1) :: us ++ []).length = ps.length := by
    have e := r2.length
    rw [F1.len _ _ _ _ hq] at e
    rw [List.append_nil]
    exact e.symm
  have hus : us.length ≤ sizeLine := by
    rw [← Paired.length r1, sizeLine_eq]
    omega
  have b2 := hb _ (Value.ref (hp.objs.size + 1) :: us) I2.kIn hl
  rw [List.append_nil] at b2
  refine wpAny_call (PySem.HandSPX.call_own F.excBase_ValueError (fun Y => PySem.HandSPX.refsVE_contains Y bm hbm) (I1.kIn _ _ hC) (PySem.W.looks_findIn I1.kIn iC) (fun self => PySem.W.bind_fn I1.kIn self tI) hus
    (codeAny_mono (F1.run _ X.stack _ _ ⟨Value.ref (hp.objs.size + 1) :: us, []⟩ (Value.ref (hp.objs.size + 1) :: us) _ _ (fun _ _ _ => False) (hr.make C us []) (I2.env0.make C us []) b2 r2 hq) fun r s' hq' => ?_))
  cases r with
  | error er => exact hx pins σ _ _ er s' I2 hq'
  | ok fl =>
    cases fl with
    | ret u =>
      obtain ⟨v, H2, os2, bare2, un2, hok2, rv, ev, d, fs, ea, ed, hd1, q2⟩ := hq'
      subst ev
      obtain ⟨h2, g2, d2, t2, os'⟩ := s'
      obtain ⟨t0, G, J, kG, ge, hoe, na⟩ := mk_end0 (d2 := d2) (t2 := t2) I1 hsz kk un2 hok2 os2 bare2 ea ed hd1
      refine ⟨rv, hp.objs.size + 1, _, _, ⟨G, g2, d2, t2, os'⟩, _, .ref C, some d, rfl, J, kG, ge, hoe, ⟨rfl, rfl, fun vs hv => ?_⟩, rfl, rfl, na, rfl, bare2, raises_own T.exC T.tyC, q2⟩
      cases hv
      rfl
    | next => exact False.elim hq'
    | brk => exact False.elim hq'
    | cont => exact False.elim hq'
/-- a class of exceptions that may be made by its name -/
structure XMk (P : Program) (w : World) (K : PySem.W.Frag) (mg : Str → Option Value) (base : Heap) (k : Nat) (x : Str) (keys : List Str) : Prop where
  ex : ∃ (f : Addr) (fd : FuncData) (ps : List Str), FnOk P w K mg base CX0 k f fd ps (spEx (He.ga K x) keys) ∧ Binds K fd ps [] ∧ PySem.W.findIn K (.ref (He.ga K x)) "__init__" = some (some (.ref f)) ∧ PySem.W.typeIn K (.ref f) = some (.type "function")
  T : OexC K (He.ga K x)
  hm : mg x = some (.ref (He.ga K x))
theorem pmk_x {X : Cx} {x : Str} {e : Expr} {es : List Expr} {ta : TA} {p pos : Pos} {k j : Nat} {keys : List Str} (c : XMk X.prog X.w X.K X.mg X.base k x keys) (hr : Room j X.A) (hk : k + 1 ≤ j) (hg : Gl X x) (ha : PA X (e :: es) ta)
    (hdb : (x == ("__debug__" : Str)) = false := by decide) (he : starEach (e :: es) X.env = (false, eval e X.env) :: starEach es X.env := by rfl) (hpl : (backTo pos (starEach es X.env)).any (·.1) = false := by rfl) :
    L2N.PMk X (.Call (.Name x p) (e :: es) [] pos) (tRx (He.ga X.K x) keys ta) := by
  obtain ⟨f, fd, ps, F, b, iC, tI⟩ := c.ex
  refine pmk_oexN (R := fun ws H1 Q => (ws.length = keys.length ∧ ws.length ≤ 1000) ∧ ∀ d, H1 d = none → Q (.ref (He.ga X.K x)) (some d) (upd H1 d (.xd (keys.zip ws).reverse))) c.T iC tI F (hr.mono hk) b pass0 hg c.hm ha (fun ws H1 Q ⟨⟨l1, l2⟩, q⟩ => ⟨l2, fun a na => ⟨a, ws, rfl, l1, upd_same, fun d H' nd da e1 e2 e3 => ⟨rfl, d, _, e1, e2, ?_, ?_⟩⟩⟩) hdb he hpl
  · rw [upd_ne da] at nd
    exact nd
  · rw [upd_ne da] at nd
    have eq : upd (del H' a) d (.xd (keys.zip ws).reverse) = upd H1 d (.xd (keys.zip ws).reverse) := by
      funext b
      by_cases hb : b = d
      · rw [hb, upd_same, upd_same]
      · rw [upd_ne hb, upd_ne hb]
        by_cases hba : b = a
        · rw [hba, del_same, na]
        · rw [del_ne hba, e3 b hba hb, upd_ne hba]
    rw [eq]
    exact q d nd
end HF

set_option Elab.async false
set_option linter.all false
set_option maxRecDepth 100000
set_option maxHeartbeats 4000000
/-! Mini24: the classes of exceptions of the text, their readings. -/
namespace HF
open PySem PySem.Spec PyProof.Rows L2
/-- the class x: its __init__ is written in the class y by st -/
structure XAt (P : Program) (K : PySem.W.Frag) (mg : Str → Option Value) (x y : Str) (st : Stmt) : Prop where
  fn : ∃ (f cc cda : Addr) (oc : Value) (od : Option Addr) (kV doc pm ct : Value) (an : Option Addr) (osl : Array (Option Value)) (qual : Str),
    K.lookup f = some ⟨oc, od, .func (PySem.W.fnX "__init__" qual (defArgs st) (defBody st) (defScope st) (clsC cc) .none kV doc pm an (.ref cda) ct), osl⟩ ∧ PySem.W.codeIn K (.ref cda) qual = true ∧ PySem.W.findIn K (.ref (He.ga K x)) "__init__" = some (some (.ref f)) ∧
    PySem.W.typeIn K (.ref f) = some (.type "function") ∧ (∃ a b vs c file tf, K.lookup cda = some ⟨a, b, .fields vs, c⟩ ∧ vs[2]? = some (.str file tf) ∧ ((P.main.file : Str) == file) = true) ∧ ∃ a b c, K.lookup cc = some ⟨a, b, .cell (some (.ref (He.ga K y))), c⟩
  ex : ExI K (He.ga K x) (He.ga K y)
  hm : mg x = some (.ref (He.ga K x))
  sup : mg "super" = none
  top : (P.main.scope.names.lookup ("super" : Str)).isSome = false
  op : PySem.W.nsIn K cStatics "thirdparty.any" = some none
section
variable {P : Program} {w : World} {K : PySem.W.Frag} {mg : Str → Option Value} {base : Heap}
theorem xd_one {H : Hp} {a C : Addr} {k1 : Str} {v1 : V} {Q : Hp → Prop} (e : H a = some (exo a C none)) (q : ∀ d H', H d = none → d ≠ a → H' a = some (exo a C (some d)) → H' d = some (exd d [(k1, v1)]) → (∀ b, b ≠ a → b ≠ d → H' b = H b) → Q H') :
    ∀ dx, H dx = none → dx ≠ a → Q (upd (upd H dx (exd dx [(k1, v1)])) a (exo a C (some dx))) := fun dx n ne =>
  q dx _ n ne upd_same (by rw [upd_ne ne, upd_same]) fun b h1 h2 => by rw [upd_ne h1, upd_ne h2]
/-- super().__init__('..'); self.f = f -/
theorem xmk1 {x y : Str} {st : Stmt} {f1 : Str} {z : Str} {j : Nat} {p0 p1 p2 p3 p4 p5 q0 q1 q2 q3 : Pos} {pl : ∀ (L f : Addr) (cd : Value) (cc : Addr) (qual : Str), Sem Bool} (D : XAt P K mg x y st) (na : PySem.W.findIn K (.ref (He.ga K x)) f1 = some none)
    (hb : defBody st = [.Expr (.Call (.Attribute (.Call (.Name "super" p0) [] [] p1) "__init__" p2) [.Constant (.str z) j p5] [] p3) p4, .Assign [.Attribute (.Name "self" q0) f1 q1] (.Name f1 q2) q3])
    (S : ScI ["self", f1] (defScope st)) (har : ∃ ar, ((defArgs st).posonlyargs ++ (defArgs st).args).head? = some ar ∧ ar.arg = "self")
    (hbind : ∀ (qual : Str) (cc : Addr) (kV doc pm : Value) (an : Option Addr) (cdv ct : Value) (us : List Value), us.length = 2 → bindArgs (PySem.W.fnX "__init__" qual (defArgs st) (defBody st) (defScope st) (clsC cc) .none kV doc pm an cdv ct) ⟨us, []⟩ = pure (List.zip (["self", f1] : List Str) us))
    (hd1 : (f1 == ("__debug__" : Str)) = false) (hd2 : (f1 == ("__classdict__" : Str)) = false)
    (hev : ∀ L f cd cc qual, eval (.Call (.Attribute (.Call (.Name "super" p0) [] [] p1) "__init__" p2) [.Constant (.str z) j p5] [] p3) (enX qual (defScope st) L f cd cc) = (do
      let ov ← attributeBase (.Call (.Name "super" p0) [] [] p1) "__init__" (enX qual (defScope st) L f cd cc) (eval (.Call (.Name "super" p0) [] [] p1) (enX qual (defScope st) L f cd cc))
      standAt p2.atName
      let (f', first) ← holding [ov] (getMethod ov "__init__" (pl L f cd cc qual))
      callWith p3 f' first (backTo p3 (starEach [.Constant (.str z) j p5] (enX qual (defScope st) L f cd cc))) []))
    (hint : ∀ L f cd cc qual, interactive (enX qual (defScope st) L f cd cc) = false)
    (hsw : ∀ L f cd cc qual, swapsWith (.Call (.Attribute (.Call (.Name "super" p0) [] [] p1) "__init__" p2) [.Constant (.str z) j p5] [] p3) none p4.line (enX qual (defScope st) L f cd cc) = pure false)
    (hsw2 : ∀ L f cd cc qual, swapsWith (.Name f1 q2) (some (.Attribute (.Name "self" q0) f1 q1)) q3.line (enX qual (defScope st) L f cd cc) = pure false) :
    XMk P w K mg base 1 x [f1] := by
  obtain ⟨f, cc, cda, oc, od, kV, doc, pm, ct, an, osl, qual, lk, hcd, iC, tI, hcode, hcell⟩ := D.fn
  obtain ⟨ar, ha1, ha2⟩ := har
  have hb2 := hbind qual cc kV doc pm an (.ref cda) ct
  rw [hb] at lk hb2
  refine ⟨⟨f, _, ["self", f1], fn_exi (k := 0) (pl := fun L => pl L f (.ref cda) cc qual) lk hcd S ha1 (by rw [ha2]; rfl) hcode hcell D.sup D.top D.op (fun vs H Q E ⟨a, ws, e, l, _⟩ => ?_) (fun L => hev L f _ cc qual) (fun L => hint L f _ cc qual) (fun L => hsw L f _ cc qual) (fun L => rfl) (fun L => rfl) ?_, .all hb2, iC, tI⟩, D.ex.ex, D.hm⟩
  · rw [e]
    show ws.length + 1 = 2
    rw [l]
    rfl
  · rintro A outer s H vs Q E hr ⟨a, ws, rfl, hl, ha, q⟩
    obtain ⟨v1, rfl⟩ : ∃ v1, ws = [v1] := by
      match ws, hl with
      | [v], _ => exact ⟨v, rfl⟩
    refine ⟨_, _, pa_cons pe_str pa_nil, pss_cons (ps_ost (pv 0 rfl (.inl (S.par _ (by simp)))) (pv 1 rfl (.inl (S.par _ (by simp))) hd1 hd2) (hsw2 _ f _ cc qual)) pss_nil, a, _, rfl, D.ex, ha, ?_⟩
    refine (show _ ∧ _ ∧ _ from ⟨ha, show (1 : Nat) ≤ 1000 by decide, ?_⟩)
    refine ⟨v1, rfl, .ref a, rfl, a, _, rfl, D.ex.ex, na, .inl ⟨ha, fun dx n ne => ?_⟩⟩
    exact q dx _ n ne upd_same (by rw [upd_ne ne, upd_same]; rfl) fun b h1 h2 => by rw [upd_ne h1, upd_ne h2]
end
end HF

set_option Elab.async false
set_option linter.all false
set_option maxRecDepth 100000
set_option maxHeartbeats 4000000
/-! Mini25: exceptions in the mirrors. -/
namespace HF
open PySem PySem.Spec PyProof.Rows L2
theorem of_if' {α : Type} {c : Prop} [Decidable c] {x : Option α} {y : α} (h : (if c then x else none) = some y) : c ∧ x = some y := by
  split at h
  · exact ⟨by assumption, h⟩
  · cases h
/-! ### values -/
inductive XV where
  | int (i : Int) | str (z : Str) | tup (xs : List Int)
def XV.rep : XV → V → Hp → Prop
  | .int i, v, _ => v = .int i
  | .str z, v, _ => v = .str z
  | .tup xs, v, S => (tT tInt).rep xs v S
structure Ex where
  cls : Str
  fs : List (Str × XV)
def XFs (S : Hp) (fs : List (Str × XV)) (ws : List V) : Prop := Paired (fun (y : Str × XV) v => y.2.rep v S) fs ws
def xRep (K : PySem.W.Frag) (x : Ex) (cls : Value) (d : Option Addr) (S : Hp) : Prop := cls = .ref (He.ga K x.cls) ∧ ∃ dd ws, d = some dd ∧ S dd = some (.xd ((x.fs.map (·.1)).zip ws).reverse) ∧ XFs S x.fs ws
theorem XV.mono {S S' : Hp} (h : Same S S') {y : XV} {v : V} (r : y.rep v S) : y.rep v S' := by
  cases y with
  | int i => exact r
  | str z => exact r
  | tup xs => exact (tT tInt).mono h r
theorem XFs.mono {S S' : Hp} (h : Same S S') {fs : List (Str × XV)} {ws : List V} (r : XFs S fs ws) : XFs S' fs ws := Paired.mono (fun _ _ q => XV.mono h q) r
/-! ### the promise of a def that may raise -/
def XOut {β : Type} (K : PySem.W.Frag) (S : Hp) (F : Ow) (U : Ty β) (Q : VK) (E : XK) : Except Ex β → Prop
  | .ok b => ∀ v S' H', Same S S' → Wd S' F H' → U.rep b v S' → Q v H'
  | .error x => ∀ cls d S' H', Same S S' → Wd S' F H' → xRep K x cls d S' → E cls d H'
def spX {α β : Type} (K : PySem.W.Frag) (A : TyA α) (m : α → Option (Except Ex β)) (U : Ty β) : Sp := fun vs H Q E => ∃ (S : Hp) (F : Ow) (a : α) (r : Except Ex β), A.rep a vs S ∧ Wd S F H ∧ m a = some r ∧ XOut K S F U Q E r
section
variable {α β γ ρ : Type} {G : List Fact} {O F F0 : Ow} {σ : L2.St} {T : Ty α} {U : Ty β} {K : PySem.W.Frag} {S S0 H : Hp} {D : Ends} {u : TS} {Q : VK} {E : XK}
theorem k_retX {te : TE} {m : Option β} {out : Except Ex β} (hG : Okc G S) (W : Wd S (O ++ F) H) (hm : (m.bind fun r => some (Except.ok r)) = some out) (hs : Sim G O te σ m U) (k : XOut K S0 F0 U Q E out) (hS : ∀ S, Okc G S → Same S0 S)
    (hW : ∀ S H, Wd S (O ++ F) H → Wd S F0 H) (hD : ∀ v H, Q v H → D.rt v H) : tSeq (tRet te) u D σ H := by
  obtain ⟨r, h1, h2⟩ := bind_some hm
  cases h2
  exact hs S H F r hG W h1 _ fun v S' H' s w q => hD _ _ (k v S' H' ((hS S hG).trans s) (hW _ _ w) q)
theorem k_raise {A : TyA α} {ta : TA} {ma : Option α} {c : Str} {keys : List Str} {xs : α → List (Str × XV)} {out : Except Ex β} (hG : Okc G S) (W : Wd S (O ++ F) H) (hm : (ma.bind fun a => some (Except.error ⟨c, xs a⟩)) = some out) (hs : SimA G O ta σ ma A)
    (hx : ∀ a ws S, A.rep a ws S → (xs a).map (·.1) = keys ∧ XFs S (xs a) ws) (hk : keys.length ≤ 1000) (k : XOut K S0 F0 U Q E out) (hS : ∀ S, Okc G S → Same S0 S) (hW : ∀ S H, Wd S (O ++ F) H → Wd S F0 H) :
    tSeq (fun _ σ H => tRx (He.ga K c) keys ta σ H fun cls d H' => E cls d H') u D σ H := by
  obtain ⟨a, h1, h2⟩ := bind_some hm
  cases h2
  refine hs S H F a hG W h1 _ fun ws S1 H1 s1 w1 q1 => ?_
  obtain ⟨e1, e2⟩ := hx _ _ _ q1
  have l : ws.length = keys.length := by
    rw [← e1, List.length_map, Paired.length e2]
  refine ⟨⟨l, by omega⟩, fun d nd => ?_⟩
  have s2 : Same S1 (upd S1 d (.xd (keys.zip ws).reverse)) := same_upd (w1.sn nd)
  refine k _ _ (upd S1 d (.xd (keys.zip ws).reverse)) _ ((hS S hG).trans (s1.trans s2)) (hW _ _ (w1.new nd)) ⟨rfl, d, ws, rfl, ?_, e2.mono s2⟩
  rw [upd_same, e1]
/-! ### try: a call, except c as n -/
def xcatch (c : Str) (sel : List (Str × XV) → Option γ) (h : γ → Option ρ) (k : β → Option ρ) : Except Ex β → Option ρ
  | .ok b => k b
  | .error x => if x.cls = c then (sel x.fs).bind h else none
def fXd (dd : Addr) (keys : List Str) (A : TyA γ) (y : γ) : Fact := ⟨fun S => ∃ ws, S dd = some (.xd (keys.zip ws).reverse) ∧ ws.length = keys.length ∧ A.rep y ws S, fun h ⟨ws, e, l, r⟩ => ⟨ws, h _ _ e, l, A.mono h r⟩⟩
def Sel (sel : List (Str × XV) → Option γ) (keys : List Str) (A : TyA γ) : Prop := ∀ fs ws S y, sel fs = some y → XFs S fs ws → fs.map (·.1) = keys ∧ A.rep y ws S
def selI (k : Str) : List (Str × XV) → Option Int
  | [(k', .int n)] => if k' = k then some n else none
  | _ => none
theorem selI_ok {k : Str} : Sel (selI k) [k] (TyA.one tInt) := fun fs ws S y h r => by
  unfold selI at h
  split at h
  · rename_i k' n
    split at h
    · rename_i e
      cases h
      cases r with
      | cons q rr =>
        cases rr
        exact ⟨by rw [e]; rfl, _, rfl, q⟩
    · cases h
  · cases h
variable {out : ρ}
theorem k_try1 {A : TyA α} {ta : TA} {ma : Option α} {f : α → Option (Except Ex β)} {c : Str} {i : Nat} {ts : Addr → Value → Option Addr → TS} {Wout : WX} {sel : List (Str × XV) → Option γ} {keys : List Str} {A' : TyA γ} {h : γ → Option ρ} {kk : β → Option ρ}
    (hG : Okc G S) (W : Wd S (O ++ F) H) (hm : (ma.bind fun a => (f a).bind fun r => xcatch c sel h kk r) = some out) (hs : SimA G O ta σ ma A) (hsel : Sel sel keys A') (hex : PySem.W.exmOne K (.ref (He.ga K c)) (.ref (He.ga K c)) = some true)
    (onOk : ∀ b S H, Okc G S → Wd S (O ++ F) H → kk b = some out → u D σ H)
    (onErr : ∀ y dd S H, Okc (fXd dd keys A' y :: G) S → Wd S (O ++ F) H → h y = some out → ∀ a, H a = none →
      ts a (.ref (He.ga K c)) (some dd) { nx := fun σ' H' => u D (σ'.set i none) H', rt := D.rt, bk := fun σ' H' => D.bk (σ'.set i none) H', ct := fun σ' H' => D.ct (σ'.set i none) H' } (σ.set i (some (.ref a))) H) :
    tSeq (fun D σ H => tSeq (tDrop (tCallS (spX K A f U) (WE (wAs K (.ref (He.ga K c)) i ts Wout D)) ta)) tNext D σ H) u D σ H := by
  obtain ⟨a, h1, hm⟩ := bind_some hm
  obtain ⟨r, h2, hm⟩ := bind_some hm
  refine hs S H F a hG W h1 _ fun vs S1 H1 s1 w1 q1 => ⟨S1, O ++ F, a, r, q1, w1, h2, ?_⟩
  cases r with
  | ok b => exact fun v S2 H2 s2 w2 _ => onOk b S2 H2 (hG.mono (s1.trans s2)) w2 hm
  | error x =>
    intro cls d S2 H2 s2 w2 ⟨ec, dd, ws, ed, e1, e2⟩
    have hm2 : (if x.cls = c then (sel x.fs).bind h else none) = some out := hm
    obtain ⟨hc, hm3⟩ := of_if' hm2
    obtain ⟨y, h3, hm4⟩ := bind_some hm3
    obtain ⟨e3, e4⟩ := hsel _ _ _ _ h3 e2
    refine ⟨true, ?_, fun _ a ha => ?_, fun z => by cases z⟩
    · rw [ec, hc]
      exact hex
    · rw [ec, ed, hc]
      refine onErr y dd S2 H2 ⟨⟨ws, ?_, ?_, e4⟩, hG.mono (s1.trans s2)⟩ w2 hm4 a ha
      · rw [← e3]
        exact e1
      · rw [← e3, List.length_map, Paired.length e2]
theorem sim_xf {C : Addr} {n : Str} {a dd : Addr} {i ix : Nat} {keys : List Str} {A' : TyA γ} {y : γ} {g : γ → α} (hi : σ[i]? = some (some (.ref a))) (j : Nat) (hf : G[j]? = some (fXd dd keys A' y)) (pj : Pj A' ix T g) (hk : keys[ix]? = some n) (nd : keys.Nodup) :
    Sim G O (tXf a (.ref C) (some dd) C n (tVar i)) σ (some (g y)) T := fun S H F r hG w hm Q k => by
  cases hm
  obtain ⟨ws, e, l, q⟩ := (Okc.at j hf hG : (fXd dd keys A' y).P S)
  obtain ⟨v, h1, h2⟩ := pj _ _ _ q
  exact ⟨.ref a, hi, rfl, rfl, dd, _, v, rfl, w.st _ _ e, zip_lookup nd hk h1, k v S H (Same.refl _) w h2⟩
theorem sim_callS {A : TyA α} {f : α → Option β} {ta : TA} {ma : Option α} {E : L2.St → XK} (h : SimA G O ta σ ma A) : Sim G O (tCallS (spP A f U) E ta) σ (ma.bind fun a => f a) U := fun S H F r hG w hm Q k => by
  obtain ⟨a, h1, hm⟩ := bind_some hm
  exact h S H F a hG w h1 _ fun vs S1 H1 s1 w1 q1 => ⟨S1, O ++ F, a, r, q1, w1, hm, fun v S2 H2 s2 w2 q2 => k v S2 H2 (s1.trans s2) w2 q2⟩
end
/-! ### calls that may raise; calls while an exception is handled -/
section
variable {X : Cx} {k j : Nat} {x : Str} {sp : Sp} {p pos : Pos} {e : Expr} {es : List Expr} {t : TA} {W : WX}
theorem pe_calE (c : Cal (L2N.CX X.prog X.w) X.prog X.w X.K X.mg X.base k x sp) (hr : Room j X.A) (hk : k ≤ j) (hg : Gl X x) (tk : L2N.Takes X W) (ha : PA X (e :: es) t)
    (hdb : (x == ("__debug__" : Str)) = false := by decide) (he : starEach (e :: es) X.env = (false, eval e X.env) :: starEach es X.env := by rfl) (hpl : (backTo pos (starEach es X.env)).any (·.1) = false := by rfl) :
    PE X (.Call (.Name x p) (e :: es) [] pos) (tCallS sp (WE W) t) := by
  obtain ⟨f, fd, ps, F, hm, kp, b⟩ := c.ex
  exact pe_callS F (hr.mono hk) hg hm kp b (fun σ => L2N.passAt tk σ) ha hdb he hpl
structure CalH (CX : CXT) (P : Program) (w : World) (K : PySem.W.Frag) (mg : Str → Option Value) (base : Heap) (k : Nat) (x : Str) (sp : Sp) : Prop where
  ex : ∃ (f : Addr) (fd : FuncData) (ps : List Str), L2H.FnH P w K mg base CX k f fd ps sp ∧ mg x = some (.ref f) ∧ PySem.W.keepIn K (.ref f) = true ∧ Binds K fd ps []
theorem pe_calH {E : L2.St → XK} (c : CalH CX0 X.prog X.w X.K X.mg X.base k x sp) (hr : L2H.RoomH j X.A) (hk : k ≤ j) (hc : L2H.HotC X) (hg : Gl X x) (ha : PA X (e :: es) t)
    (hdb : (x == ("__debug__" : Str)) = false := by decide) (he : starEach (e :: es) X.env = (false, eval e X.env) :: starEach es X.env := by rfl) (hpl : (backTo pos (starEach es X.env)).any (·.1) = false := by rfl) :
    PE X (.Call (.Name x p) (e :: es) [] pos) (tCallS sp E t) := by
  obtain ⟨f, fd, ps, F, hm, kp, b⟩ := c.ex
  refine L2H.pe_callH ⟨F.len, fun A outer s H args us vs Q E p hr => F.run A outer s H args us vs Q E p (hr.mono hk)⟩ hr hc hg hm kp b (fun σ _ _ _ _ _ _ h => h.elim) ha hdb he hpl
theorem hotc {a : Addr} {oe : Obj} {cls : Value} {d : Option Addr} {pn : List (Addr × Obj)} (hz : L2N.Zn cls d oe) (hf : ∃ vs, oe.data = .fields vs) : L2H.HotC (X.suite a ((a, oe) :: pn)) := by
  obtain ⟨vs, e⟩ := hf
  exact ⟨(a, oe), ⟨rfl, vs, e, hz.2.2 vs e⟩, List.mem_cons_self ..⟩
end
section
variable {CX : CXT} {P : Program} {w : World} {K : PySem.W.Frag} {mg : Str → Option Value} {base : Heap}
theorem calH_mk {x : Str} {st : Stmt} {N ps : List Str} {k : Nat} {sp : Sp} (D : DefAt K mg x st) (S : FnScope N ps (defScope st)) (len : ∀ vs H Q E, sp vs H Q E → vs.length = ps.length)
    (hb : ∀ (kV doc pm : Value) (an : Option Addr) (cdv ct : Value) (us : List Value), us.length = ps.length → bindArgs (PySem.W.fnOf x x (defArgs st) (defBody st) (defScope st) .none kV doc pm an cdv ct) ⟨us, []⟩ = pure (ps.zip us))
    (hbody : ∀ (p : Addr × Obj) (f : Addr) (cdv : Value) (A : Around) (outer : List Env) (s : Shared) (H : Hp) (vs : List V) (Q : VK) (E : XK), L2H.Hot1 A p → L2H.RoomH k (A.deeper (envOfC x (defScope st) s.heap.objs.size f cdv)) → sp vs H Q E →
      ∃ t, PSs (L2H.cxH CX P w K mg base N x (defScope st) f cdv A outer s H E p) (defBody st) t ∧ t { nx := fun _ H' => Q .non H', rt := Q } (start N vs) H) : CalH CX P w K mg base (k + 1) x sp := by
  obtain ⟨f, fd, F, hm⟩ := D.ex
  refine ⟨f, fd, ps, ?_, hm, F.kp, F.bindsN hb⟩
  obtain ⟨oc, od, dV, kV, doc, pm, an, cdv, ct, osl, rfl, lk, hcd, _, _⟩ := F.ex
  exact L2H.fn_ofH lk hcd S len fun A outer s H vs Q E p hot hr hsp => hbody p f cdv A outer s H vs Q E hot hr hsp
end
end HF

set_option Elab.async false
set_option linter.all false
set_option maxRecDepth 100000
set_option maxHeartbeats 4000000
/-! Mini26: sorted(set(xs)), xs.extend(ys), xs.clear(), lists of two kinds. -/
namespace HF
open PySem PySem.Spec PyProof.Rows L2
theorem len_of_sub {α : Type} [DecidableEq α] : ∀ {l m : List α}, l.Nodup → (∀ x ∈ l, x ∈ m) → l.length ≤ m.length
  | [], m, _, _ => Nat.zero_le _
  | a :: l, m, nd, h => by
    have h1 := List.nodup_cons.mp nd
    have h2 := len_of_sub (m := m.erase a) h1.2 fun x hx => (List.mem_erase_of_ne (fun e => h1.1 (by rw [← e]; exact hx))).mpr (h x (List.mem_cons_of_mem _ hx))
    rw [List.length_erase_of_mem (h a (List.mem_cons_self ..))] at h2
    have h3 := List.length_pos_of_mem (h a (List.mem_cons_self ..))
    simp only [List.length_cons]
    omega
/-! ### sorted(set(list of small ints)) -/
def rSetLI (K : PySem.W.Frag) (w : World) : List V → Hp → VK → Prop := fun xs H Q => ∃ (l : Addr) (ns : List Int), xs = [.ref l] ∧ SqL K H l (ns.map V.int) ∧ (ns.length ≤ 1000 ∧ ∀ x ∈ ns, 0 ≤ x ∧ x < 63) ∧
  ∀ a n, H a = none → n < 64 → Q (.ref a) (upd H a (SetO w a (fun j => decide (j ∈ ns)) n))
theorem cr_setLI {X : Cx} (hc : X.calm = true) : CallR X (.type "set") (rSetLI X.K X.w) := by
  intro pins s σ H xs us Q I r ⟨l, ns, ex, hq, ⟨hl, hs⟩, q⟩
  subst ex
  obtain _ | ⟨r, rr⟩ := r
  cases rr
  cases r
  obtain ⟨its, rv, p, hz⟩ := I.list hq
  refine call_setLI ns (I.ok.hd hc) p.isList (ints_of_vals rv) (by unfold scanBound; omega) fun h' tk c R kp => ?_
  refine ⟨.ref s.heap.objs.size, upd H s.heap.objs.size (SetO X.w s.heap.objs.size (fun j => decide (j ∈ ns)) c), I.laid (t' := tk) kp (Nat.le_refl _) (setO_new R), rfl, q _ _ (I.hok.fresh (Nat.le_refl _)) ?_⟩
  obtain ⟨o, es, ep, t, ho, hex, hdt, g, nd, hm2, hb, hf, hn, hr, hl2⟩ := R
  have z := len_of_sub (m := (List.range 63).map fun i : Nat => (i : Int)) nd fun x hx => by
    have hx2 : x ∈ ns := by
      have := (hm2 x).mpr hx
      simpa using this
    obtain ⟨h1, h2⟩ := hs x hx2
    exact List.mem_map.mpr ⟨x.toNat, List.mem_range.mpr (by omega), by omega⟩
  rw [List.length_map, List.length_map, List.length_range, Array.length_toList] at z
  omega
section
variable {X : Cx} {K : PySem.W.Frag} {w : World}
theorem cr_setLIK (hc : X.calm = true := by rfl) (hK : X.K = K := by rfl) (hw : X.w = w := by rfl) : CallR X (.type "set") (rSetLI K w) := by subst hK; subst hw; exact cr_setLI hc
theorem cr_sortedSetK (hc : X.calm = true := by rfl) (hw : X.w = w := by rfl) : CallR X (.builtin "sorted") (rSortedSet w) := by subst hw; exact cr_sortedSet hc
end
def x_sset (xs : List Int) : Option (List Int) := if xs.length ≤ 1000 ∧ (∀ x ∈ xs, 0 ≤ x ∧ x < 63) then some ((rangeL 0 63).filter fun x => decide (x ∈ xs)) else none
theorem sorted_uniq : ∀ {l m : List Int}, l.Pairwise (· < ·) → m.Pairwise (· < ·) → (∀ x, x ∈ l ↔ x ∈ m) → l = m
  | [], [], _, _, _ => rfl
  | [], b :: m, _, _, h => absurd ((h b).mpr (List.mem_cons_self ..)) (by simp)
  | a :: l, [], _, _, h => absurd ((h a).mp (List.mem_cons_self ..)) (by simp)
  | a :: l, b :: m, h1, h2, h => by
    obtain ⟨a1, a2⟩ := List.pairwise_cons.mp h1
    obtain ⟨b1, b2⟩ := List.pairwise_cons.mp h2
    have e : a = b := by
      rcases List.mem_cons.mp ((h a).mp (List.mem_cons_self ..)) with e | e
      · exact e
      · rcases List.mem_cons.mp ((h b).mpr (List.mem_cons_self ..)) with e' | e'
        · exact e'.symm
        · have := b1 a e
          have := a1 b e'
          omega
    subst e
    rw [sorted_uniq a2 b2 fun x => ⟨fun hx => ?_, fun hx => ?_⟩]
    · rcases List.mem_cons.mp ((h x).mp (List.mem_cons_of_mem _ hx)) with e | e
      · have := a1 x hx
        omega
      · exact e
    · rcases List.mem_cons.mp ((h x).mpr (List.mem_cons_of_mem _ hx)) with e | e
      · have := b1 x hx
        omega
      · exact e
theorem rangeL_lt (a : Int) (n : Nat) : (rangeL a n).Pairwise (· < ·) := by
  unfold rangeL
  rw [List.pairwise_map]
  exact List.pairwise_lt_range.imp fun h => by omega
section
variable {α β γ ρ : Type} {G : List Fact} {O F : Ow} {σ : L2.St} {T : Ty α} {U : Ty β} {K : PySem.W.Frag} {w : World} {S H : Hp} {D : Ends} {u : TS} {out : ρ}
theorem simF_sset {TL : Ty (List Int)} [Lk O (oL tInt) TL] {ta : TE} {ma : Option (List Int)} (ha : Sim G O ta σ ma TL) : SimF G O (tCB (rSortedSet w) (tCons (tCB (rSetLI K w) (tCons ta tNil)) tNil)) σ (ma.bind fun a => x_sset a) (oL tInt) := fun S H F r hG W hm Q k => by
  obtain ⟨xs, h1, hm⟩ := bind_some hm
  obtain ⟨⟨c1, c2⟩, rfl⟩ := of_if hm
  refine ha S H F xs hG W h1 _ fun v S1 H1 s1 w1 q1 => ?_
  obtain ⟨p, vs, rfl, r, g⟩ := lkL (O := O) (T := tInt) q1
  refine ⟨p, xs, rfl, SqL.of (by rw [g H1 F w1, rl_int r]), ⟨c1, c2⟩, fun a n na hn => ?_⟩
  have w2 := w1.new (o := SetO w a (fun j => decide (j ∈ xs)) n) na
  refine ⟨a, _, n, rfl, upd_same, hn, fun ns l hp hs hl hna => ?_⟩
  have e : ns = (rangeL 0 63).filter fun x => decide (x ∈ xs) := sorted_uniq hp ((rangeL_lt 0 63).filter _) fun x => by
    rw [hs x, List.mem_filter]
    refine ⟨fun h => ⟨?_, h⟩, fun h => h.2⟩
    obtain ⟨h3, h4⟩ := c2 x (of_decide_eq_true h)
    unfold rangeL
    exact List.mem_map.mpr ⟨x.toNat, List.mem_range.mpr (by omega), by omega⟩
  rw [e]
  exact k l _ _ _ (s1.trans (same_upd (w1.sn na))) (w2.newO hna) ⟨_, rfl, rl_ints _ _⟩
/-! ### xs.extend(ys), xs.clear() -/
theorem k_ext {TL : Ty (List α)} [Lk O (oL T) TL] {te : TE} {i : Nat} {p : Addr} {c : List Cell} {xs : List α} {my : Option (List α)} {k : List α → Option ρ} (hG : Okc G S) (W : Wd S (O ++ F) H) (hm : (my.bind fun ys => (x_cat xs ys).bind k) = some out)
    (o j : Nat) (hi : σ[i]? = some (some (.ref p))) (ho : O[o]? = some c) (hf : G[j]? = some ((oL T).f xs p c)) (hs : Sim G O te σ my TL)
    (next : ∀ ys c' S H, Okc ((oL T).f (xs ++ ys) p c' :: G) S → Wd S (O.set o c' ++ F) H → k (xs ++ ys) = some out → u D σ H) : tSeq (tDrop (tBM K "list" rExtend (tVar i) (tCons te tNil))) u D σ H := by
  obtain ⟨y, h1, hm⟩ := bind_some hm
  obtain ⟨z, h2, hm⟩ := bind_some hm
  obtain ⟨hz, rfl⟩ := of_if h2
  obtain ⟨vs0, e0, r0⟩ := (Okc.at j hf hG : (oL T).rep xs p c S)
  subst e0
  refine ⟨.ref p, hi, .inl ⟨rfl, vs0, SqL.of (W.at1 ho)⟩, ?_⟩
  refine hs S H F y hG W h1 _ fun v S1 H1 s1 w1 q1 => ?_
  obtain ⟨b, vs, rfl, r, g⟩ := lkL (O := O) (T := T) q1
  have r2 := r0.mono s1
  exact ⟨p, b, vs0, vs, rfl, rfl, w1.at1 ho, g H1 F w1, by rw [← r2.length, ← r.length]; exact hz, next y _ S1 _ ⟨⟨_, rfl, r2.append r⟩, hG.mono s1⟩ (w1.put o ho _) hm⟩
theorem k_clear {i : Nat} {p : Addr} {c : List Cell} {xs : List α} {k : List α → Option ρ} (hG : Okc G S) (W : Wd S (O ++ F) H) (hm : ((some []).bind k) = some out) (o j : Nat) (hi : σ[i]? = some (some (.ref p))) (ho : O[o]? = some c) (hf : G[j]? = some ((oL T).f xs p c))
    (next : ∀ c' H, Okc ((oL T).f [] p c' :: G) S → Wd S (O.set o c' ++ F) H → k [] = some out → u D σ H) : tSeq (tDrop (tBM0 K "list" rClear (tVar i))) u D σ H := by
  obtain ⟨vs0, e0, r0⟩ := (Okc.at j hf hG : (oL T).rep xs p c S)
  subst e0
  exact ⟨.ref p, hi, .inl ⟨rfl, vs0, SqL.of (W.at1 ho)⟩, p, vs0, rfl, rfl, W.at1 ho, next _ _ ⟨⟨[], rfl, .nil⟩, hG⟩ (W.put o ho _) hm⟩
/-! ### lists of several kinds -/
theorem sim_lstA {A : TyA α} {n : Nat} {t : TA} {m : Option α} (hn : ∀ a vs S, A.rep a vs S → vs.length = n) (h : SimA G O t σ m A) (hl : n ≤ sizeLine := by show _ ≤ (2 ^ 24 : Nat); decide) : Sim G O (L2.tLst t) σ m (tLstA A) := fun S H F r hG w hm Q k =>
  h S H F r hG w hm _ fun vs S' H' s w' q => ⟨by rw [hn _ _ _ q]; exact hl, fun p hp => k _ (upd S' p (.lst vs)) _ (s.trans (same_upd (w'.sn hp))) (w'.new hp) ⟨p, vs, rfl, upd_same, A.mono (same_upd (w'.sn hp)) q⟩⟩
theorem pg_lstK {X : Cx} {es : List Expr} {k : Nat} {t : TGs} {n : Nat} {pos : Pos} (hc : X.calm = true) (h : PGs X es t)
    (hn : (assignEach es X.env).length = n := by rfl) (hst : (assignEach es X.env).findIdx? (·.1) = none := by rfl) (hK : X.K = K := by rfl) : PG X (.Tuple es k pos) (gLst K n t) := by subst hK; exact pg_lst hc h hn hst
theorem e_asg {te : TE} {g : TG} (h : te σ H fun x H1 => g x σ H1 fun σ' H' => u D σ' H') : tSeq (tAsg te g) u D σ H := h
theorem v_unlst {T : Ty α} {U : Ty β} {i j l : Nat} {a : α × β} {v : V} (hG : Okc G S) (W : Wd S (O ++ F) H) (hf : G[l]? = some ((tLstA (TyA.c T (TyA.one U))).f a v))
    (next : ∀ x y, Okc (T.f a.1 x :: U.f a.2 y :: G) S → u D ((σ.set i (some x)).set j (some y)) H) : (gLst K 2 (gCons (gName i) (gCons (gName j) gNil))) v σ H fun σ' H' => u D σ' H' := by
  obtain ⟨p, vs, rfl, g, y, ws, rfl, r1, z, rfl, r2⟩ := (Okc.at l hf hG : (tLstA (TyA.c T (TyA.one U))).rep a v S)
  exact ⟨p, [y, z], rfl, SqL.of (W.st _ _ g), rfl, y, [z], rfl, z, [], rfl, rfl, next y z ⟨r1, r2, hG⟩⟩
theorem v_unpair {T : Ty α} {U : Ty β} {i j l : Nat} {a : α × β} {v : V} (hG : Okc G S) (W : Wd S (O ++ F) H) (hf : G[l]? = some ((tP T U).f a v))
    (next : ∀ x y, Okc (T.f a.1 x :: U.f a.2 y :: G) S → u D ((σ.set i (some x)).set j (some y)) H) : (gTup K 2 (gCons (gName i) (gCons (gName j) gNil))) v σ H fun σ' H' => u D σ' H' := by
  obtain ⟨p, y, z, rfl, g, r1, r2⟩ := (Okc.at l hf hG : (tP T U).rep a v S)
  exact ⟨p, [y, z], rfl, SqT.of (W.st _ _ g), rfl, y, [z], rfl, z, [], rfl, rfl, next y z ⟨r1, r2, hG⟩⟩
end
end HF

set_option Elab.async false
set_option linter.all false
set_option maxRecDepth 100000
set_option maxHeartbeats 4000000
/-! Mini27: the head's hook, with the classes of exceptions. -/
namespace HF
open PySem PySem.Spec PyProof.Rows L2
/-- an exception's class x, its __init__ written in the class y -/
structure XD where
  x : Str
  y : Str
  qual : Str
  params : Arguments
  body : List Stmt
  scope : Scope
  file : Str
def oexB (K : PySem.W.Frag) (C : Addr) : Bool := (match K.lookup C with
  | some ⟨.type t, _, .cls cd, sl⟩ => (match cd.mro, sl.toList with
    | .ref C' :: bm, [_, _, _, _, some (.builtin n), _] => decide (t = "type") && (decide (C' = C) && (decide (n = "ValueError.__new__") && (!cd.hasDel && (cd.hasDict && PySem.HandSPX.refsVE bm))))
    | _, _ => false)
  | _ => false) && (He.eqO (PySem.W.findIn K (.ref C) "__setattr__") (some (some (.builtin "object.__setattr__"))) && (decide (PySem.W.subIn K (.ref C) (.type "BaseException") = some true) && (decide (PySem.W.typeIn K (.ref C) = some (.type "type")) && PySem.W.keepIn K (.ref C))))
theorem oexB_ok {K : PySem.W.Frag} {C : Addr} (h : oexB K C = true) : OexC K C := by
  obtain ⟨h1, h⟩ := He.ba h
  obtain ⟨h2, h⟩ := He.ba h
  obtain ⟨h3, h⟩ := He.ba h
  obtain ⟨h4, h5⟩ := He.ba h
  refine ⟨?_, He.eqO_ok h2, of_decide_eq_true h3, of_decide_eq_true h4, h5⟩
  split at h1
  · rename_i t dd cd sl ho
    split at h1
    · rename_i C' bm k0 k1 k2 k3 n k5 hm hs
      obtain ⟨a1, h1⟩ := He.ba h1
      obtain ⟨a2, h1⟩ := He.ba h1
      obtain ⟨a3, h1⟩ := He.ba h1
      obtain ⟨a4, h1⟩ := He.ba h1
      obtain ⟨a5, a6⟩ := He.ba h1
      obtain rfl := of_decide_eq_true a1
      obtain rfl := of_decide_eq_true a2
      obtain rfl := of_decide_eq_true a3
      obtain ⟨nm, bs, mro, ns, qn, hd, sn, sub, ab, col, del⟩ := cd
      dsimp only at hm a4 a5
      subst hm a5
      have e4 : del = false := by simpa using a4
      subst e4
      have hsl : sl = #[k0, k1, k2, k3, some (.builtin "ValueError.__new__"), k5] := by
        rw [← Array.toArray_toList (xs := sl), hs]
      subst hsl
      exact ⟨nm, qn, ns, bs, bm, sn, sub, ab, col, dd, k0, k1, k2, k3, k5, ho, a6⟩
    · cases h1
  · cases h1
def xAd (K : PySem.W.Frag) (d : XD) : Addr := He.ma K (He.ga K d.x) "__init__"
abbrev XW : Type := Option (Str × Str × Arguments × FuncBody × Scope × Addr × List Str × Addr)
def xW (K : PySem.W.Frag) (d : XD) : XW := match K.lookup (xAd K d) with
  | some ⟨_, _, .func fd, _⟩ => some (fd.name, fd.qualname, fd.params, fd.body, fd.scope, fd.globals, fd.closure.map (·.1), fd.builtins)
  | _ => none
def XD.val (d : XD) : XW := some ("__init__", d.qual, d.params, .stmts d.body, d.scope, mainGlobals, ["__class__"], builtinsNs)
def xFn (K : PySem.W.Frag) (d : XD) : Bool := match K.lookup (xAd K d) with
  | some ⟨_, _, .func fd, _⟩ => (match fd.defaults with
    | .none => true
    | _ => false) && (PySem.W.codeIn K fd.code d.qual && ((match fd.code with
    | .ref c => (match K.lookup c with
      | some ⟨_, _, .fields vs, _⟩ => (match (vs[2]? : Option Value) with
        | some (.str z _) => decide (z = d.file)
        | _ => false)
      | _ => false)
    | _ => false) && (match fd.closure with
    | [(_, c)] => (match K.lookup c with
      | some ⟨_, _, .cell (some v), _⟩ => decide (v = .ref (He.ga K d.y))
      | _ => false)
    | _ => false)))
  | _ => false
def xB (K : PySem.W.Frag) (d : XD) : Bool := oexB K (He.ga K d.x) && (xFn K d && (He.eqO (PySem.W.findIn K (.ref (He.ga K d.x)) "__init__") (some (some (.ref (xAd K d)))) && (decide (PySem.W.typeIn K (.ref (xAd K d)) = some (.type "function")) &&
  (decide (PySem.W.mroIn K (He.ga K d.x) (.ref (He.ga K d.y)) = some true) && (He.eqO (PySem.W.ks_superIn K (He.ga K d.x) (He.ga K d.y) "__init__") (some (some (.builtin "ValueError.__init__"))) && ((PySem.W.clsIn K (He.ga K d.y)).isSome &&
  (He.eqO (PySem.W.nsIn K cStatics "thirdparty.any") (some none) && (xfB K (He.ga K d.x) && He.eqO (PySem.W.nsIn K mainGlobals d.x) (some (some (.ref (He.ga K d.x))))))))))))
theorem xB_xf {K : PySem.W.Frag} {d : XD} (c : xB K d = true) : XfC K (He.ga K d.x) := by
  obtain ⟨h1, c⟩ := He.ba c
  obtain ⟨h2, c⟩ := He.ba c
  obtain ⟨h3, c⟩ := He.ba c
  obtain ⟨h4, c⟩ := He.ba c
  obtain ⟨h5, c⟩ := He.ba c
  obtain ⟨h6, c⟩ := He.ba c
  obtain ⟨h7, c⟩ := He.ba c
  obtain ⟨h8, c⟩ := He.ba c
  obtain ⟨h9, h0⟩ := He.ba c
  exact xfB_ok h9
theorem xB_ok {P : Program} {K : PySem.W.Frag} {h : Heap} {mg : Str → Option Value} {d : XD} {st : Stmt} (X : K.In h) (G : h.Ns mainGlobals mg) (e : xW K d = d.val) (c : xB K d = true) (s1 : defArgs st = d.params) (s2 : defBody st = d.body) (s3 : defScope st = d.scope)
    (hf : ((P.main.file : Str) == d.file) = true) (hs : mg "super" = none) (ht : (P.main.scope.names.lookup ("super" : Str)).isSome = false) : XAt P K mg d.x d.y st := by
  obtain ⟨h1, c⟩ := He.ba c
  obtain ⟨h2, c⟩ := He.ba c
  obtain ⟨h3, c⟩ := He.ba c
  obtain ⟨h4, c⟩ := He.ba c
  obtain ⟨h5, c⟩ := He.ba c
  obtain ⟨h6, c⟩ := He.ba c
  obtain ⟨h7, c⟩ := He.ba c
  obtain ⟨h8, c⟩ := He.ba c
  obtain ⟨h9, h0⟩ := He.ba c
  refine ⟨?_, ⟨oexB_ok h1, of_decide_eq_true h5, He.eqO_ok h6, Option.isSome_iff_exists.mp h7⟩, PySem.W.mg_of X G (He.eqO_ok h0), hs, ht, He.eqO_ok h8⟩
  unfold xFn at h2
  unfold xW at e
  cases q : K.lookup (xAd K d) with
  | none =>
    rw [q] at h2
    cases h2
  | some o =>
    obtain ⟨oc, od, dt, osl⟩ := o
    rw [q] at h2 e
    cases dt with
    | func fd =>
      obtain ⟨n1, n2, n3, n4, n5, n6, n7, n8, n9, n10, n11, n12, n13, n14, n15⟩ := fd
      have e2 : (some (n1, n2, n3, n4, n5, n6, n7.map (·.1), n15) : XW) = (some (("__init__" : Str), d.qual, d.params, FuncBody.stmts d.body, d.scope, mainGlobals, [("__class__" : Str)], builtinsNs) : XW) := e
      simp only [Option.some.injEq, Prod.mk.injEq] at e2
      obtain ⟨a1, a2, a3, a4, a5, a6, a7, a8⟩ := e2
      subst a1 a2 a3 a4 a5 a6 a8
      obtain ⟨b1, h2⟩ := He.ba h2
      obtain ⟨b2, h2⟩ := He.ba h2
      obtain ⟨b3, b4⟩ := He.ba h2
      dsimp only at b1 b2 b3 b4
      cases n8 with
      | none =>
        cases n13 with
        | ref cda =>
          dsimp only at b3
          cases q2 : K.lookup cda with
          | none =>
            rw [q2] at b3
            cases b3
          | some o2 =>
            obtain ⟨pc, pd, pt, psl⟩ := o2
            rw [q2] at b3
            cases pt with
            | fields vs =>
              dsimp only at b3
              match n7, a7, b4 with
              | [(_, cc)], a7, b4 =>
                dsimp only at b4
                obtain rfl : _ = ("__class__" : Str) := by simpa using a7
                cases q3 : K.lookup cc with
                | none =>
                  rw [q3] at b4
                  cases b4
                | some o3 =>
                  obtain ⟨rc, rd, rt, rsl⟩ := o3
                  rw [q3] at b4
                  cases rt with
                  | cell v =>
                    cases v with
                    | some v =>
                      dsimp only at b4
                      obtain rfl := of_decide_eq_true b4
                      cases q4 : vs[2]? with
                      | none =>
                        rw [q4] at b3
                        cases b3
                      | some z =>
                        rw [q4] at b3
                        cases z with
                        | str z tz =>
                          dsimp only at b3
                          obtain rfl := of_decide_eq_true b3
                          rw [s1, s2, s3]
                          exact ⟨_, cc, cda, oc, od, _, _, _, _, _, osl, d.qual, q, b2, He.eqO_ok h3, of_decide_eq_true h4, ⟨_, _, _, _, _, _, q2, q4, hf⟩, _, _, _, q3⟩
                        | _ => cases b3
                    | none => cases b4
                  | _ => cases b4
            | _ => cases b3
        | _ => cases b3
      | _ => cases b1
    | _ => cases h2
/-! ### the hook -/
abbrev AlZ : Type := (Bool × List XW) × He.AlD
def obsKZ (fa : List He.Fa) (fn : List He.DefD) (l : List (Str × Str × Int)) (xs : List XD) (K : PySem.W.Frag) : AlZ := ((exB l K && xs.all fun d => xB K d, xs.map fun d => xW K d), He.obsD fa fn K)
def obsZ (n : Nat) (fa : List He.Fa) (fn : List He.DefD) (l : List (Str × Str × Int)) (xs : List XD) (g : Addr → Option Obj) : AlZ := frK (partY n g) fun K => obsKZ fa fn l xs K
def hookZ (n : Nat) (fa : List He.Fa) (fn : List He.DefD) (l : List (Str × Str × Int)) (xs : List XD) : PySem.W.Hook where
  α := AlZ
  obs := fun s => obsKZ fa fn l xs (partY n s.heap.get?)
  val := fun _ => ((true, xs.map XD.val), He.valD fn)
  says := fun _ h => ∃ K : PySem.W.Frag, K.In h ∧ He.SaysD fa fn K ∧ exB l K = true ∧ (∀ d ∈ xs, xB K d = true) ∧ xs.map (fun d => xW K d) = xs.map XD.val
  of := fun _ _ e => by
    have e1 : (exB l _ && xs.all fun d => xB _ d) = true := congrArg (fun z : AlZ => z.1.1) e
    obtain ⟨a, b⟩ := He.ba e1
    exact ⟨_, He.frG_in, congrArg (fun z : AlZ => z.2) e, a, fun d hd => List.all_eq_true.mp b d hd, congrArg (fun z : AlZ => z.1.2) e⟩
  keeps := fun _ _ _ ⟨K, hK, c, d⟩ k => ⟨K, PySem.W.Frag.In.keeps hK k, c, d⟩
theorem obsZ_eq {n : Nat} {fa : List He.Fa} {fn : List He.DefD} {l : List (Str × Str × Int)} {xs : List XD} {g : Addr → Option Obj} {s : Shared} (h : ∀ a, g a = s.heap.get? a) : obsZ n fa fn l xs g = (hookZ n fa fn l xs).obs s := by
  have e : g = s.heap.get? := funext h
  rw [e]
  exact frK_eq _ _
theorem xs_at {K : PySem.W.Frag} {xs : List XD} (h : xs.map (fun d => xW K d) = xs.map XD.val) (i : Nat) {d : XD} (e : xs[i]? = some d) : xW K d = d.val := by
  have e2 : (xs.map fun d => xW K d)[i]? = (xs.map XD.val)[i]? := by rw [h]
  rw [List.getElem?_map, List.getElem?_map, e] at e2
  exact Option.some.inj e2
end HF

set_option Elab.async false
set_option linter.all false
set_option maxRecDepth 100000
set_option maxHeartbeats 4000000
/-! Mini28: small rules for what may raise. -/
namespace HF
open PySem PySem.Spec PyProof.Rows L2
theorem takesF {X : Cx} : L2N.Takes X (fun _ _ _ _ => False) := fun _ _ x => by
  obtain ⟨_, _, _, _, _, _, _, _, _, _, _, _, _, _, _, _, z⟩ := x
  exact z.elim
def okO {β : Type} : Except Ex β → Option β
  | .ok b => some b
  | .error _ => none
theorem okO_some {β : Type} {r : Except Ex β} {b : β} (h : okO r = some b) : r = .ok b := by
  cases r with
  | ok c => exact congrArg _ (Option.some.inj h)
  | error x => cases h
section
variable {P : Program} {w : World} {K : PySem.W.Frag} {mg : Str → Option Value} {base : Heap} {α β : Type}
/-- called where it does not raise -/
theorem cal_okX {k : Nat} {x : Str} {A : TyA α} {m : α → Option (Except Ex β)} {U : Ty β} (c : Cal (L2N.CX P w) P w K mg base k x (spX K A m U)) : Cal CX0 P w K mg base k x (spP A (fun a => (m a).bind okO) U) := by
  obtain ⟨f, fd, ps, F, a, b, d⟩ := c.ex
  have up : ∀ {vs : List V} {H : Hp} {Q : VK} {E : XK}, spP A (fun a => (m a).bind okO) U vs H Q E → spX K A m U vs H Q (fun _ _ _ => False) := fun {vs H Q E} ⟨S, F, a, r, h1, h2, h3, h4⟩ => by
    obtain ⟨z, e1, e2⟩ := bind_some h3
    obtain rfl := okO_some e2
    exact ⟨S, F, a, _, h1, h2, e1, h4⟩
  refine ⟨f, fd, ps, ⟨fun vs H Q E h => F.len _ _ _ _ (up h), fun A' outer s H args us vs Q E hr e0 hb r h => codeAny_mono (F.run A' outer s H args us vs Q (fun _ _ _ => False) hr e0 hb r (up h)) fun r s' q => ?_⟩, a, b, d⟩
  cases r with
  | ok v => cases v <;> exact q
  | error e =>
    obtain ⟨_, _, _, _, _, _, _, _, _, _, _, _, z⟩ := q
    exact z.elim
end
section
variable {X : Cx} {K : PySem.W.Frag} {T name id : String} {r : V → List V → Hp → VK → Prop} {o : Expr} {to : TE} {apos cpos : Pos}
theorem pe_bm0K2 (pa : PlainAttrs T) (slot : Slot T name id) (hty : typeOf (.builtin id) = pure (.type "method_descriptor")) (hm : MtR X id r) (ho : PE X o to)
    (hbase : attributeBase o name X.env (eval o X.env) = eval o X.env := by rfl) (hline : (apos.endLine == cpos.line) = true := by rfl) (hK : X.K = K := by rfl) : PE X (.Call (.Attribute o name apos) [] [] cpos) (tBM0 K T r to) := by
  subst hK
  exact pe_bm0 pa slot hty hm ho hbase hline
end
theorem one_int {k : Str} : ∀ (a : Int) ws S, (TyA.one tInt).rep a ws S → ([(k, XV.int a)] : List (Str × XV)).map (·.1) = [k] ∧ XFs S [(k, XV.int a)] ws := fun a ws S ⟨v, e, q⟩ => by
  subst e
  exact ⟨rfl, .cons q .nil⟩
theorem e_notT {t : TT} {σ : L2.St} {H : Hp} {R : Bool → Hp → Prop} (h : t σ H fun b H1 => R (!b) H1) : tNot t σ H R := h
theorem xfree {l : List (Str × NameKind)} {x : Str} (h : l.lookup x = some .free) (k : (l.all fun y => decide (y.2 ≠ .free) || decide (y.1 = "__class__")) = true := by decide +kernel) : x = "__class__" := by
  have m := PySem.mem_of_lookup h
  have q := List.all_eq_true.mp k _ m
  simpa using q
theorem sim_slotAt {G : List Fact} {O : Ow} {σ : L2.St} {i : Nat} {p : Addr} (hi : σ[i]? = some (some (.ref p))) : Sim G O (tVar i) σ (some ()) (tAt p) := fun S H F r hG w hm Q k => ⟨.ref p, hi, k _ S H (Same.refl _) w rfl⟩
end HF

set_option Elab.async false
set_option linter.all false
set_option maxRecDepth 100000
set_option maxHeartbeats 4000000
set_option pp.maxSteps 40
set_option pp.oneline true
namespace HF
open PySem PySem.Spec L2 ClX
open PyProof.Rows hiding St


def m_is_integer (value1 : Int) : Option Bool :=
  ((some value1).bind fun _ => some true).bind fun z3 => andM z3 (((some value1).bind fun _ => some false).bind fun z2 => some (!z2))
def m_is_lamp (house4 : HouseD) (value5 : Int) : Option Bool :=
  ((some value5).bind fun a6 => m_is_integer a6).bind fun z11 => andM z11 ((some (0 : Int)).bind fun z8 => (some value5).bind fun z9 => andM (decide (z8 ≤ z9)) (((some house4).bind fun z7 => some z7.count).bind fun z10 => some (decide (z9 < z10))))
def m_bits (mask12 : Int) : Option (List Int) :=
  (((some mask12).bind fun z13 => some ((Builtin.Int.intBits z13 : Nat) : Int)).bind fun z14 => x_range 0 z14).bind fun z22 => x_comp (fun y15 => (((some mask12).bind fun z16 => (some y15).bind fun z17 => x_shr z16 z17).bind fun z18 => (some (1 : Int)).bind fun z19 => some (Builtin.bitAnd z18 z19)).bind fun z20 => (some (1 : Int)).bind fun z21 => some (decide (z20 = z21))) (fun y15 => some y15) z22
def m_below_masks (house23 : HouseD) : Option (List Int) :=
  (some house23).bind fun z24 => some z24.belowM
def m_above_masks (house25 : HouseD) : Option (List Int) :=
  (some house25).bind fun z26 => some z26.aboveM
def m__check_lamp (house27 : HouseD) (value28 : Int) : Option Unit :=
  ((((some house27).bind fun z30 => (some value28).bind fun z31 => some (z30, z31)).bind fun a32 => m_is_lamp a32.1 a32.2).bind fun z33 => some (!z33)).bind fun c29 => if c29 = true then none else some ()
def m__is_wire (count34 : Int) (value35 : (Int × Int)) : Option Bool :=
  ((((some value35).bind fun _ => some true).bind fun z37 => some (!z37)).bind fun z41 => orM z41 (((some value35).bind fun _ => some 2).bind fun z39 => (some (2 : Int)).bind fun z40 => some (!decide (z39 = z40)))).bind fun c36 => if c36 = true then some false else (some value35).bind fun q42 => ((((some q42.1).bind fun a46 => m_is_integer a46).bind fun z47 => some (!z47)).bind fun z50 => orM z50 (((some q42.2).bind fun a48 => m_is_integer a48).bind fun z49 => some (!z49))).bind fun c45 => if c45 = true then some false else ((some (0 : Int)).bind fun z51 => (some q42.1).bind fun z52 => andM (decide (z51 ≤ z52)) ((some count34).bind fun z53 => some (decide (z52 < z53)))).bind fun z60 => andM z60 (((some (0 : Int)).bind fun z54 => (some q42.2).bind fun z55 => andM (decide (z54 ≤ z55)) ((some count34).bind fun z56 => some (decide (z55 < z56)))).bind fun z59 => andM z59 ((some q42.1).bind fun z57 => (some q42.2).bind fun z58 => some (!decide (z57 = z58))))
def m__join_wires (count61 : Int) (wires62 : (List (Int × Int))) : Option (List Int) :=
  (((some (0 : Int)).bind fun z63 => (some []).bind fun z64 => some (z63 :: z64)).bind fun z65 => (some count61).bind fun z66 => x_rep z65 z66).bind fun wired67 => (((some (0 : Int)).bind fun z71 => (some []).bind fun z72 => some (z71 :: z72)).bind fun z73 => (some count61).bind fun z74 => x_rep z73 z74).bind fun below75 => ((some wires62).bind fun z79 => some (enumL z79)).bind fun xs82 => (foldO (fun (bx80 : (List Int) × (List Int)) y81 => ((((some count61).bind fun z84 => (some y81.2).bind fun z85 => some (z84, z85)).bind fun a86 => m__is_wire a86.1 a86.2).bind fun z87 => some (!z87)).bind fun c83 => if c83 = true then none else (some y81.2).bind fun q88 => (((((some bx80.1).bind fun z92 => (some q88.1).bind fun z93 => x_ix z92 z93).bind fun z94 => (some q88.2).bind fun z95 => x_shr z94 z95).bind fun z96 => (some (1 : Int)).bind fun z97 => some (Builtin.bitAnd z96 z97)).bind fun z98 => (some (1 : Int)).bind fun z99 => some (decide (z98 = z99))).bind fun c91 => if c91 = true then none else (((((some bx80.2).bind fun z101 => (some q88.2).bind fun z102 => x_ix z101 z102).bind fun z103 => (some q88.1).bind fun z104 => x_shr z103 z104).bind fun z105 => (some (1 : Int)).bind fun z106 => some (Builtin.bitAnd z105 z106)).bind fun z107 => (some (1 : Int)).bind fun z108 => some (decide (z107 = z108))).bind fun c100 => if c100 = true then none else (((some bx80.1).bind fun z109 => (some q88.1).bind fun z110 => x_ix z109 z110).bind fun z113 => ((some (1 : Int)).bind fun z111 => (some q88.2).bind fun z112 => x_shl z111 z112).bind fun z114 => some (Builtin.bitOr z113 z114)).bind fun y115 => (some q88.1).bind fun n116 => (x_set bx80.1 n116 y115).bind fun wired117 => (((some bx80.2).bind fun z119 => (some q88.2).bind fun z120 => x_ix z119 z120).bind fun z123 => ((some (1 : Int)).bind fun z121 => (some q88.2).bind fun z122 => x_shl z121 z122).bind fun z124 => some (Builtin.bitOr z123 z124)).bind fun gained125 => ((some count61).bind fun z127 => x_range 0 z127).bind fun xs130 => (foldO (fun (bx128 : (List Int)) y129 => (((some y129).bind fun z132 => (some q88.1).bind fun z133 => some (decide (z132 = z133))).bind fun z142 => orM z142 (((((some bx128).bind fun z134 => (some y129).bind fun z135 => x_ix z134 z135).bind fun z136 => (some q88.1).bind fun z137 => x_shr z136 z137).bind fun z138 => (some (1 : Int)).bind fun z139 => some (Builtin.bitAnd z138 z139)).bind fun z140 => (some (1 : Int)).bind fun z141 => some (decide (z140 = z141)))).bind fun c131 => if c131 = true then (((some bx128).bind fun z143 => (some y129).bind fun z144 => x_ix z143 z144).bind fun z145 => (some gained125).bind fun z146 => some (Builtin.bitOr z145 z146)).bind fun y147 => (some y129).bind fun n148 => (x_set bx128 n148 y147).bind fun below149 => some below149 else some bx128) bx80.2 xs130).bind fun bx128 => some (wired117, bx128)) (wired67, below75) xs82).bind fun bx80 => some bx80.2
def m__turn_round (below151 : (List Int)) : Option (List Int) :=
  (((some (0 : Int)).bind fun z152 => (some []).bind fun z153 => some (z152 :: z153)).bind fun z155 => ((some below151).bind fun z154 => some (z154.length : Int)).bind fun z156 => x_rep z155 z156).bind fun upper_masks157 => ((some below151).bind fun z161 => some (enumL z161)).bind fun xs164 => (foldO (fun (bx162 : (List Int)) y163 => ((some y163.2).bind fun a165 => m_bits a165).bind fun xs168 => (foldO (fun (bx166 : (List Int)) y167 => (((some bx166).bind fun z169 => (some y167).bind fun z170 => x_ix z169 z170).bind fun z173 => ((some (1 : Int)).bind fun z171 => (some y163.1).bind fun z172 => x_shl z171 z172).bind fun z174 => some (Builtin.bitOr z173 z174)).bind fun y175 => (some y167).bind fun n176 => (x_set bx166 n176 y175).bind fun upper_masks177 => some upper_masks177) bx162 xs168).bind fun bx166 => some bx166) upper_masks157 xs164).bind fun bx162 => some bx162
def m__order_list (masks179 : (List Int)) : Option (List Int) :=
  (some ([] : (List Int))).bind fun lamps180 => (some (0 : Int)).bind fun listed184 => (whileO (fun (bx186 : (List Int) × Int) => ((some bx186.1).bind fun z187 => some (z187.length : Int)).bind fun z189 => ((some masks179).bind fun z188 => some (z188.length : Int)).bind fun z190 => some (decide (z189 < z190))) (fun (bx186 : (List Int) × Int) => (((some masks179).bind fun z191 => some (enumL z191)).bind fun z197 => x_comp (fun y192 => ((some y192.2).bind fun z193 => (some bx186.2).bind fun z194 => some (Builtin.bitAnd z193 z194)).bind fun z195 => (some y192.2).bind fun z196 => some (decide (z195 = z196))) (fun y192 => some y192.1) z197).bind fun ready198 => ((some ready198).bind fun z207 => x_comp (fun y200 => (((some bx186.2).bind fun z201 => (some y200).bind fun z202 => x_shr z201 z202).bind fun z203 => (some (1 : Int)).bind fun z204 => some (Builtin.bitAnd z203 z204)).bind fun z205 => (some (0 : Int)).bind fun z206 => some (decide (z205 = z206))) (fun y200 => some y200) z207).bind fun following208 => ((some following208).bind fun z210 => (some (0 : Int)).bind fun z211 => x_ix z210 z211).bind fun y212 => (x_app bx186.1 y212).bind fun lamps213 => ((some bx186.2).bind fun z219 => ((some (1 : Int)).bind fun z217 => ((some following208).bind fun z215 => (some (0 : Int)).bind fun z216 => x_ix z215 z216).bind fun z218 => x_shl z217 z218).bind fun z220 => some (Builtin.bitOr z219 z220)).bind fun listed221 => some (lamps213, listed221)) (masks179.length + 1) (lamps180, listed184)).bind fun bx186 => some bx186.1
def m_House___init__ (count224 : Int) (hues225 : Int) (wires226 : (List (Int × Int))) : Option ((List Int) × (List Int) × (List (List Int)) × (List (List Int)) × (List Int) × Int × Int × (List (Int × Int)) × (List (List Int))) :=
  ((((some count224).bind fun a228 => m_is_integer a228).bind fun z229 => some (!z229)).bind fun z234 => orM z234 (((some (1 : Int)).bind fun z230 => (some count224).bind fun z231 => andM (decide (z230 ≤ z231)) ((some (16 : Int)).bind fun z232 => some (decide (z231 ≤ z232)))).bind fun z233 => some (!z233))).bind fun c227 => if c227 = true then none else ((((some hues225).bind fun a236 => m_is_integer a236).bind fun z237 => some (!z237)).bind fun z242 => orM z242 (((some (2 : Int)).bind fun z238 => (some hues225).bind fun z239 => andM (decide (z238 ≤ z239)) ((some (10 : Int)).bind fun z240 => some (decide (z239 ≤ z240)))).bind fun z241 => some (!z241))).bind fun c235 => if c235 = true then none else (((some count224).bind fun z246 => (some wires226).bind fun z247 => some (z246, z247)).bind fun a248 => m__join_wires a248.1 a248.2).bind fun y243 => (some (y243)).bind fun self244 => (((some self244).bind fun z252 => some z252).bind fun a253 => m__turn_round a253).bind fun y249 => (some ((self244, y249))).bind fun self250 => (((some self250).bind fun z257 => some z257.1).bind fun z260 => x_comp (fun y258 => some true) (fun y258 => (some y258).bind fun a259 => m_bits a259) z260).bind fun y254 => (some ((self250.1, (self250.2, y254)))).bind fun self255 => (((some self255).bind fun z264 => some z264.2.1).bind fun z267 => x_comp (fun y265 => some true) (fun y265 => (some y265).bind fun a266 => m_bits a266) z267).bind fun y261 => (some ((self255.1, (self255.2.1, (self255.2.2, y261))))).bind fun self262 => (((some self262).bind fun z271 => some z271.2.1).bind fun a272 => m__order_list a272).bind fun y268 => (some ((self262.1, (self262.2.1, (self262.2.2.1, (self262.2.2.2, y268)))))).bind fun self269 => (some count224).bind fun y273 => (some ((self269.1, (self269.2.1, (self269.2.2.1, (self269.2.2.2.1, (self269.2.2.2.2, y273))))))).bind fun self274 => (some hues225).bind fun y276 => (some ((self274.1, (self274.2.1, (self274.2.2.1, (self274.2.2.2.1, (self274.2.2.2.2.1, (self274.2.2.2.2.2, y276)))))))).bind fun self277 => ((some wires226).bind fun z282 => some (sortP z282)).bind fun y279 => (some ((self277.1, (self277.2.1, (self277.2.2.1, (self277.2.2.2.1, (self277.2.2.2.2.1, (self277.2.2.2.2.2.1, (self277.2.2.2.2.2.2, y279))))))))).bind fun self280 => (((some count224).bind fun z286 => x_range 0 z286).bind fun z288 => x_comp (fun y287 => some true) (fun y287 => some ([] : (List Int))) z288).bind fun y283 => (some ((self280.1, (self280.2.1, (self280.2.2.1, (self280.2.2.2.1, (self280.2.2.2.2.1, (self280.2.2.2.2.2.1, (self280.2.2.2.2.2.2.1, (self280.2.2.2.2.2.2.2, ())))))))))).bind fun self284 => ((some self284).bind fun z291 => some z291.2.2.2.2.2.2.2.1).bind fun xs294 => (foldO (fun (bx292 : (List (List Int))) y293 => ((some self284).bind fun z295 => some z295.2.2.2.2.2.2.2.2).bind fun u296 => (some y293.1).bind fun n297 => (some y293.2).bind fun y298 => (x_app2 bx292 n297 y298).bind fun xss299 => some xss299) y283 xs294).bind fun bx292 => some (self284.1, (self284.2.1, (self284.2.2.1, (self284.2.2.2.1, (self284.2.2.2.2.1, (self284.2.2.2.2.2.1, (self284.2.2.2.2.2.2.1, (self284.2.2.2.2.2.2.2.1, bx292))))))))
def m_House_beneath (self301 : HouseD) (lamp302 : Int) : Option (List Int) :=
  (((some self301).bind fun z303 => (some lamp302).bind fun z304 => some (z303, z304)).bind fun a305 => m__check_lamp a305.1 a305.2).bind fun z306 => ((some self301).bind fun z307 => some z307.below).bind fun z308 => (some lamp302).bind fun z309 => x_ix z308 z309
def m_House_order (self310 : HouseD) : Option (List Int) :=
  (some self310).bind fun z311 => some z311.order
def m_is_state (house312 : HouseD) (value313 : (List Int)) : Option Bool :=
  ((((some value313).bind fun _ => some true).bind fun z315 => some (!z315)).bind fun z320 => orM z320 (((some value313).bind fun z316 => some (z316.length : Int)).bind fun z318 => ((some house312).bind fun z317 => some z317.count).bind fun z319 => some (!decide (z318 = z319)))).bind fun c314 => if c314 = true then some false else ((some value313).bind fun z328 => x_comp (fun y321 => some true) (fun y321 => ((some y321).bind fun a322 => m_is_integer a322).bind fun z327 => andM z327 ((some (0 : Int)).bind fun z324 => (some y321).bind fun z325 => andM (decide (z324 ≤ z325)) (((some house312).bind fun z323 => some z323.hues).bind fun z326 => some (decide (z325 < z326))))) z328).bind fun z329 => some (z329.all id)
def m__check_state (house330 : HouseD) (value331 : (List Int)) : Option Unit :=
  ((((some house330).bind fun z333 => (some value331).bind fun z334 => some (z333, z334)).bind fun a335 => m_is_state a335.1 a335.2).bind fun z336 => some (!z336)).bind fun c332 => if c332 = true then none else some ()
def m_lit_lamps (house337 : HouseD) (state338 : (List Int)) : Option (List Int) :=
  (((some house337).bind fun z339 => (some state338).bind fun z340 => some (z339, z340)).bind fun a341 => m__check_state a341.1 a341.2).bind fun z342 => ((some state338).bind fun z343 => some (enumL z343)).bind fun z347 => x_comp (fun y344 => (some y344.2).bind fun z345 => (some (0 : Int)).bind fun z346 => some (decide (z346 < z345))) (fun y344 => some y344.1) z347
def m_turned_down (hue348 : Int) (hues349 : Int) : Option Int :=
  ((some hue348).bind fun z351 => (some (0 : Int)).bind fun z352 => some (decide (z352 < z351))).bind fun c350 => if c350 = true then (some hue348).bind fun z353 => (some (1 : Int)).bind fun z354 => some (z353 - z354) else (some hues349).bind fun z355 => (some (1 : Int)).bind fun z356 => some (z355 - z356)
def m_need_lamp (house357 : HouseD) (value358 : Int) : Option Unit :=
  ((((some house357).bind fun z360 => (some value358).bind fun z361 => some (z360, z361)).bind fun a362 => m_is_lamp a362.1 a362.2).bind fun z363 => some (!z363)).bind fun c359 => if c359 = true then none else some ()
def m_need_state (house364 : HouseD) (value365 : (List Int)) : Option Unit :=
  ((((some house364).bind fun z367 => (some value365).bind fun z368 => some (z367, z368)).bind fun a369 => m_is_state a369.1 a369.2).bind fun z370 => some (!z370)).bind fun c366 => if c366 = true then none else some ()
def m_lit_beneath (house371 : HouseD) (state372 : (List Int)) (lamp373 : Int) : Option (Option Int) :=
  ((((some house371).bind fun a374 => m_below_masks a374).bind fun z375 => (some lamp373).bind fun z376 => x_ix z375 z376).bind fun a377 => m_bits a377).bind fun xs380 => forK (fun (bx378 : Unit) y379 k381 k382 => (((some state372).bind fun z384 => (some y379).bind fun z385 => x_ix z384 z385).bind fun z386 => (some (0 : Int)).bind fun z387 => some (decide (z387 < z386))).bind fun c383 => if c383 = true then (some y379).bind fun a => some (some a) else k381 ()) (fun bx378 => some (none : (Option Int))) xs380 ()
def m_moved (house388 : HouseD) (state389 : (List Int)) (lamp390 : Int) : Option (List Int) :=
  ((some house388).bind fun z391 => some z391.hues).bind fun hues392 => (some state389).bind fun result394 => (((some state389).bind fun z398 => (some lamp390).bind fun z399 => x_ix z398 z399).bind fun z400 => (some (1 : Int)).bind fun z401 => some (z400 - z401)).bind fun y402 => (some lamp390).bind fun n403 => (x_set result394 n403 y402).bind fun result404 => ((((some house388).bind fun a406 => m_below_masks a406).bind fun z407 => (some lamp390).bind fun z408 => x_ix z407 z408).bind fun a409 => m_bits a409).bind fun xs412 => (foldO (fun (bx410 : (List Int)) y411 => ((((some state389).bind fun z413 => (some y411).bind fun z414 => x_ix z413 z414).bind fun z415 => (some hues392).bind fun z416 => some (z415, z416)).bind fun a417 => m_turned_down a417.1 a417.2).bind fun y418 => (some y411).bind fun n419 => (x_set bx410 n419 y418).bind fun result420 => some result420) result404 xs412).bind fun bx410 => some bx410
def m_can_move (house422 : HouseD) (state423 : (List Int)) (lamp424 : Int) (careful425 : Bool) : Option Bool :=
  (((some state423).bind fun z427 => (some lamp424).bind fun z428 => x_ix z427 z428).bind fun z429 => (some (0 : Int)).bind fun z430 => some (decide (z429 = z430))).bind fun c426 => if c426 = true then some false else ((some careful425).bind fun z431 => some (!z431)).bind fun z439 => orM z439 ((((some house422).bind fun z434 => ((some state423).bind fun z432 => (some lamp424).bind fun z433 => some (z432, z433)).bind fun z435 => some (z434, z435)).bind fun a436 => m_lit_beneath a436.1 a436.2.1 a436.2.2).bind fun z437 => (some ()).bind fun z438 => some z437.isNone)
def m_is_allowed (house440 : HouseD) (state441 : (List Int)) (lamp442 : Int) (careful443 : Bool) : Option Bool :=
  (((some house440).bind fun z444 => (some state441).bind fun z445 => some (z444, z445)).bind fun a446 => m_need_state a446.1 a446.2).bind fun z447 => (((some house440).bind fun z448 => (some lamp442).bind fun z449 => some (z448, z449)).bind fun a450 => m_need_lamp a450.1 a450.2).bind fun z451 => ((some house440).bind fun z456 => ((some state441).bind fun z454 => ((some lamp442).bind fun z452 => (some careful443).bind fun z453 => some (z452, z453)).bind fun z455 => some (z454, z455)).bind fun z457 => some (z456, z457)).bind fun a458 => m_can_move a458.1 a458.2.1 a458.2.2.1 a458.2.2.2
def m_allowed_lamps (house459 : HouseD) (state460 : (List Int)) (careful461 : Bool) : Option (List Int) :=
  (((some house459).bind fun z462 => (some state460).bind fun z463 => some (z462, z463)).bind fun a464 => m_need_state a464.1 a464.2).bind fun z465 => (((some house459).bind fun z466 => some z466.count).bind fun z467 => x_range 0 z467).bind fun z476 => x_comp (fun y468 => ((some house459).bind fun z473 => ((some state460).bind fun z471 => ((some y468).bind fun z469 => (some careful461).bind fun z470 => some (z469, z470)).bind fun z472 => some (z471, z472)).bind fun z474 => some (z473, z474)).bind fun a475 => m_can_move a475.1 a475.2.1 a475.2.2.1 a475.2.2.2) (fun y468 => some y468) z476
def m_before (house477 : HouseD) (state478 : (List Int)) (lamp479 : Int) (careful480 : Bool) : Option (Option (List Int)) :=
  (((some house477).bind fun z481 => (some state478).bind fun z482 => some (z481, z482)).bind fun a483 => m_need_state a483.1 a483.2).bind fun z484 => (((some house477).bind fun z485 => (some lamp479).bind fun z486 => some (z485, z486)).bind fun a487 => m_need_lamp a487.1 a487.2).bind fun z488 => (((some house477).bind fun z489 => some z489.hues).bind fun z490 => (some (1 : Int)).bind fun z491 => some (z490 - z491)).bind fun brightest492 => (((some state478).bind fun z495 => (some lamp479).bind fun z496 => x_ix z495 z496).bind fun z497 => (some brightest492).bind fun z498 => some (decide (z497 = z498))).bind fun c494 => if c494 = true then some (none : (Option (List Int))) else (some state478).bind fun result499 => (((some state478).bind fun z503 => (some lamp479).bind fun z504 => x_ix z503 z504).bind fun z505 => (some (1 : Int)).bind fun z506 => some (z505 + z506)).bind fun y507 => (some lamp479).bind fun n508 => (x_set result499 n508 y507).bind fun result509 => ((((some house477).bind fun a511 => m_below_masks a511).bind fun z512 => (some lamp479).bind fun z513 => x_ix z512 z513).bind fun a514 => m_bits a514).bind fun xs517 => forK (fun (bx515 : (List Int)) y516 k518 k519 => (((some state478).bind fun z521 => (some y516).bind fun z522 => x_ix z521 z522).bind fun z523 => (some brightest492).bind fun z524 => some (decide (z523 = z524))).bind fun c520 => if c520 = true then (some (0 : Int)).bind fun y525 => (some y516).bind fun n526 => (x_set bx515 n526 y525).bind fun result527 => k518 result527 else (some careful480).bind fun c529 => if c529 = true then some (none : (Option (List Int))) else (((some state478).bind fun z530 => (some y516).bind fun z531 => x_ix z530 z531).bind fun z532 => (some (1 : Int)).bind fun z533 => some (z532 + z533)).bind fun y534 => (some y516).bind fun n535 => (x_set bx515 n535 y534).bind fun result536 => k518 result536) (fun bx515 => (some bx515).bind fun a => some (some a)) xs517 result509
def m_covered_by (house538 : HouseD) (state539 : (List Int)) : Option (List (Int × (List Int))) :=
  (((some house538).bind fun z540 => (some state539).bind fun z541 => some (z540, z541)).bind fun a542 => m_need_state a542.1 a542.2).bind fun z543 => (((some house538).bind fun z544 => (some state539).bind fun z545 => some (z544, z545)).bind fun a546 => (some true).bind fun a547 => m_allowed_lamps a546.1 a546.2 a547).bind fun z556 => x_comp (fun y548 => some true) (fun y548 => (some y548).bind fun z554 => (((some house538).bind fun z551 => ((some state539).bind fun z549 => (some y548).bind fun z550 => some (z549, z550)).bind fun z552 => some (z551, z552)).bind fun a553 => m_moved a553.1 a553.2.1 a553.2.2).bind fun z555 => some (z554, z555)) z556
def m_covers_of (house557 : HouseD) (state558 : (List Int)) : Option (List (Int × (List Int))) :=
  (((some house557).bind fun z559 => (some state558).bind fun z560 => some (z559, z560)).bind fun a561 => m_need_state a561.1 a561.2).bind fun z562 => (some ([] : (List (Int × (List Int))))).bind fun pairs563 => (((some house557).bind fun z567 => some z567.count).bind fun z568 => x_range 0 z568).bind fun xs571 => (foldO (fun (bx569 : (List (Int × (List Int)))) y570 => (((some house557).bind fun z574 => ((some state558).bind fun z572 => (some y570).bind fun z573 => some (z572, z573)).bind fun z575 => some (z574, z575)).bind fun a576 => (some true).bind fun a577 => m_before a576.1 a576.2.1 a576.2.2 a577).bind fun other578 => ((some other578).bind fun z581 => (some ()).bind fun z582 => some z581.isSome).bind fun c580 => if c580 = true then ((some y570).bind fun z584 => ((some other578).bind fun z583 => z583).bind fun z585 => some (z584, z585)).bind fun y586 => (x_app bx569 y586).bind fun pairs587 => some pairs587 else some bx569) pairs563 xs571).bind fun bx569 => some bx569
def m_is_cover (house589 : HouseD) (source590 : (List Int)) (target591 : (List Int)) : Option Bool :=
  (((some house589).bind fun z592 => (some source590).bind fun z593 => some (z592, z593)).bind fun a594 => m_need_state a594.1 a594.2).bind fun z595 => (((some house589).bind fun z596 => (some target591).bind fun z597 => some (z596, z597)).bind fun a598 => m_need_state a598.1 a598.2).bind fun z599 => (((some house589).bind fun z600 => (some source590).bind fun z601 => some (z600, z601)).bind fun a602 => (some true).bind fun a603 => m_allowed_lamps a602.1 a602.2 a603).bind fun xs606 => forK (fun (bx604 : Unit) y605 k607 k608 => ((((some house589).bind fun z612 => ((some source590).bind fun z610 => (some y605).bind fun z611 => some (z610, z611)).bind fun z613 => some (z612, z613)).bind fun a614 => m_moved a614.1 a614.2.1 a614.2.2).bind fun z615 => (some target591).bind fun z616 => some (decide (z615 = z616))).bind fun c609 => if c609 = true then some true else k607 ()) (fun bx604 => some false) xs606 ()
def m_lowest_lit (house617 : HouseD) (state618 : (List Int)) : Option (List Int) :=
  (((some house617).bind fun z619 => (some state618).bind fun z620 => some (z619, z620)).bind fun a621 => m_need_state a621.1 a621.2).bind fun z622 => (((some house617).bind fun z623 => (some state618).bind fun z624 => some (z623, z624)).bind fun a625 => m_lit_lamps a625.1 a625.2).bind fun lit626 => (((some lit626).bind fun z631 => x_comp (fun y628 => some true) (fun y628 => (some (1 : Int)).bind fun z629 => (some y628).bind fun z630 => x_shl z629 z630) z631).bind fun z632 => some z632.sum).bind fun lit_mask633 => ((some house617).bind fun a635 => m_below_masks a635).bind fun below636 => (some lit626).bind fun z645 => x_comp (fun y638 => (((some below636).bind fun z639 => (some y638).bind fun z640 => x_ix z639 z640).bind fun z641 => (some lit_mask633).bind fun z642 => some (Builtin.bitAnd z641 z642)).bind fun z643 => (some (0 : Int)).bind fun z644 => some (decide (z643 = z644))) (fun y638 => some y638) z645
def m__lowered_at (house646 : HouseD) (state647 : (List Int)) (lamps648 : (List Int)) : Option (List Int) :=
  (some state647).bind fun result649 => (some lamps648).bind fun xs655 => (foldO (fun (bx653 : (List Int)) y654 => (((some state647).bind fun z656 => (some y654).bind fun z657 => x_ix z656 z657).bind fun z658 => (some (1 : Int)).bind fun z659 => some (z658 - z659)).bind fun y660 => (some y654).bind fun n661 => (x_set bx653 n661 y660).bind fun result662 => ((some house646).bind fun z664 => (some y654).bind fun a665 => m_House_beneath z664 a665).bind fun xs668 => (foldO (fun (bx666 : (List Int)) y667 => (((some house646).bind fun z669 => some z669.hues).bind fun z670 => (some (1 : Int)).bind fun z671 => some (z670 - z671)).bind fun y672 => (some y667).bind fun n673 => (x_set bx666 n673 y672).bind fun result674 => some result674) result662 xs668).bind fun bx666 => some bx666) result649 xs655).bind fun bx653 => some bx653
def mX_lowered (house676 : HouseD) (state677 : (List Int)) (lamps678 : (List Int)) : Option (Except Ex (List Int)) :=
  (((some house676).bind fun z679 => (some state677).bind fun z680 => some (z679, z680)).bind fun a681 => m_lowest_lit a681.1 a681.2).bind fun lowest682 => (some lamps678).bind fun xs686 => forK (fun (bx684 : Unit) y685 k687 k688 => ((((some y685).bind fun a690 => m_is_integer a690).bind fun z691 => some (!z691)).bind fun z694 => orM z694 ((some y685).bind fun z692 => (some lowest682).bind fun z693 => some (!decide (z692 ∈ z693)))).bind fun c689 => if c689 = true then (some y685).bind fun a695 => some (Except.error ⟨"InvalidLamp", [("lamp", XV.int a695)]⟩) else k687 ()) (fun bx684 => (((some house676).bind fun z698 => ((some state677).bind fun z696 => (some lamps678).bind fun z697 => some (z696, z697)).bind fun z699 => some (z698, z699)).bind fun a700 => m__lowered_at a700.1 a700.2.1 a700.2.2).bind fun x701 => some (Except.ok x701)) xs686 ()
def m_lowered (house676 : HouseD) (state677 : (List Int)) (lamps678 : (List Int)) : Option (List Int) := (mX_lowered house676 state677 lamps678).bind okO
def m__piece (house702 : HouseD) (state703 : (List Int)) (lamp704 : Int) : Option (List Int) :=
  ((((some house702).bind fun a705 => m_above_masks a705).bind fun z706 => (some lamp704).bind fun z707 => x_ix z706 z707).bind fun z710 => ((some (1 : Int)).bind fun z708 => (some lamp704).bind fun z709 => x_shl z708 z709).bind fun z711 => some (Builtin.bitOr z710 z711)).bind fun mask712 => ((some state703).bind fun z714 => some (enumL z714)).bind fun z722 => x_comp (fun y715 => some true) (fun y715 => (((some mask712).bind fun z718 => ((some (1 : Int)).bind fun z716 => (some y715.1).bind fun z717 => x_shl z716 z717).bind fun z719 => some (Builtin.bitAnd z718 z719)).bind fun z720 => some (z720 != 0)).bind fun z721 => if z721 = true then some y715.2 else some (0 : Int)) z722
def m_pieces (house723 : HouseD) (state724 : (List Int)) : Option (List (List Int)) :=
  (((some house723).bind fun z725 => (some state724).bind fun z726 => some (z725, z726)).bind fun a727 => m_need_state a727.1 a727.2).bind fun z728 => (((some house723).bind fun z729 => (some state724).bind fun z730 => some (z729, z730)).bind fun a731 => m_lowest_lit a731.1 a731.2).bind fun z738 => x_comp (fun y732 => some true) (fun y732 => ((some house723).bind fun z735 => ((some state724).bind fun z733 => (some y732).bind fun z734 => some (z733, z734)).bind fun z736 => some (z735, z736)).bind fun a737 => m__piece a737.1 a737.2.1 a737.2.2) z738
def m_is_single (house739 : HouseD) (state740 : (List Int)) : Option Bool :=
  (((some house739).bind fun z741 => (some state740).bind fun z742 => some (z741, z742)).bind fun a743 => m_need_state a743.1 a743.2).bind fun z744 => ((((some house739).bind fun z745 => (some state740).bind fun z746 => some (z745, z746)).bind fun a747 => m_lowest_lit a747.1 a747.2).bind fun z748 => some (z748.length : Int)).bind fun z749 => (some (1 : Int)).bind fun z750 => some (decide (z749 = z750))
def m__law_purse (script751 : (List Int)) (place752 : Int) : Option (List Int) :=
  (((some (1795 : Int)).bind fun z755 => ((some place752).bind fun z753 => (some (1 : Int)).bind fun z754 => some (z753 + z754)).bind fun z756 => x_mulS z755 z756).bind fun z764 => ((((some script751).bind fun z758 => (some none).bind fun z759 => ((some (1 : Int)).bind fun z757 => some (some z757)).bind fun z760 => some (cutL z758 z759 z760)).bind fun z761 => some z761.sum).bind fun z762 => (some (1000003 : Int)).bind fun z763 => x_mod z762 z763).bind fun z765 => some (z764 + z765)).bind fun seed766 => ((some place752).bind fun z771 => ((some (63 : Int)).bind fun z769 => ((some script751).bind fun z768 => some (z768.length : Int)).bind fun z770 => some (min z769 z770)).bind fun z773 => (some (4 : Int)).bind fun z774 => x_range3 z771 z773 z774).bind fun xs777 => (foldO (fun (bx775 : Int) y776 => ((((some bx775).bind fun z778 => (some (1009 : Int)).bind fun z779 => x_mulS z778 z779).bind fun z782 => ((some script751).bind fun z780 => (some y776).bind fun z781 => x_ix z780 z781).bind fun z783 => some (z782 + z783)).bind fun z784 => (some (2147483647 : Int)).bind fun z785 => x_mod z784 z785).bind fun seed786 => some seed786) seed766 xs777).bind fun bx775 => (some (0 : Int)).bind fun rest788 => ((((some place752).bind fun z793 => ((some script751).bind fun z792 => some (z792.length : Int)).bind fun z794 => some (decide (z793 < z794))).bind fun z802 => andM z802 ((((some script751).bind fun z795 => (some place752).bind fun z796 => x_ix z795 z796).bind fun z797 => some (if z797 < 0 then -z797 else z797)).bind fun z800 => ((some (10 : Int)).bind fun z798 => (some (18 : Int)).bind fun z799 => x_pow z798 z799).bind fun z801 => some (decide (z801 ≤ z800)))).bind fun c790 => if c790 = true then (((some script751).bind fun z803 => (some place752).bind fun z804 => x_ix z803 z804).bind fun z805 => some (if z805 < 0 then -z805 else z805)).bind fun rest806 => some rest806 else some rest788).bind fun bx791 => (some bx791).bind fun z812 => ((some bx775).bind fun z810 => ((some (0 : Int)).bind fun z808 => (some []).bind fun z809 => some (z808 :: z809)).bind fun z811 => some (z810 :: z811)).bind fun z813 => some (z812 :: z813)
def m__law_draw (purse_here814 : (List Int)) (size815 : Int) : Option (Int × (List Int)) :=
  (((some purse_here814).bind fun z817 => (some (0 : Int)).bind fun z818 => x_ix z817 z818).bind fun z819 => (some (0 : Int)).bind fun z820 => some (decide (z820 < z819))).bind fun c816 => if c816 = true then (((some purse_here814).bind fun z821 => (some (0 : Int)).bind fun z822 => x_ix z821 z822).bind fun z823 => (some size815).bind fun z824 => x_mod z823 z824).bind fun digit825 => (((some purse_here814).bind fun z827 => (some (0 : Int)).bind fun z828 => x_ix z827 z828).bind fun z829 => (some size815).bind fun z830 => x_div z829 z830).bind fun y831 => (some (0 : Int)).bind fun n832 => (x_set purse_here814 n832 y831).bind fun purse_here833 => (some digit825).bind fun r835 => some (r835, purse_here833) else (((some purse_here814).bind fun z836 => (some (2 : Int)).bind fun z837 => x_ix z836 z837).bind fun z838 => (some (1 : Int)).bind fun z839 => some (z838 + z839)).bind fun y840 => (some (2 : Int)).bind fun n841 => (x_set purse_here814 n841 y840).bind fun purse_here842 => (((((some purse_here842).bind fun z844 => (some (1 : Int)).bind fun z845 => x_ix z844 z845).bind fun z846 => (some (48271 : Int)).bind fun z847 => x_mulS z846 z847).bind fun z852 => (((some purse_here842).bind fun z848 => (some (2 : Int)).bind fun z849 => x_ix z848 z849).bind fun z850 => (some (69621 : Int)).bind fun z851 => x_mulS z850 z851).bind fun z853 => some (z852 + z853)).bind fun z854 => (some (2147483647 : Int)).bind fun z855 => x_mod z854 z855).bind fun mixed856 => ((((some mixed856).bind fun z858 => (some (40692 : Int)).bind fun z859 => x_mulS z858 z859).bind fun z862 => ((some mixed856).bind fun z860 => (some (1024 : Int)).bind fun z861 => x_div z860 z861).bind fun z863 => some (z862 + z863)).bind fun z864 => (some (2147483399 : Int)).bind fun z865 => x_mod z864 z865).bind fun y866 => (some (1 : Int)).bind fun n867 => (x_set purse_here842 n867 y866).bind fun purse_here868 => ((((some purse_here868).bind fun z870 => (some (1 : Int)).bind fun z871 => x_ix z870 z871).bind fun z872 => (some (8 : Int)).bind fun z873 => x_div z872 z873).bind fun z874 => (some size815).bind fun z875 => x_mod z874 z875).bind fun r876 => some (r876, purse_here868)
def m__law_wires (purse_here877 : (List Int)) (count878 : Int) : Option (((List Int) × (List (List Int))) × (List Int)) :=
  ((some count878).bind fun z879 => x_lrange 0 z879).bind fun left880 => (some ([] : (List Int))).bind fun line884 => ((some count878).bind fun z888 => x_range 0 z888).bind fun xs891 => (foldO (fun (bx889 : (List Int) × (List Int) × (List Int)) y890 => ((some bx889.2.1).bind fun z892 => some (z892.length : Int)).bind fun x893 => (m__law_draw bx889.1 x893).bind fun r895 => (x_popAt bx889.2.1 r895.1).bind fun r898 => (x_app bx889.2.2 r898.1).bind fun line901 => some (r895.2, r898.2, line901)) (purse_here877, left880, line884) xs891).bind fun bx889 => (some (5 : Int)).bind fun x903 => (m__law_draw bx889.1 x903).bind fun r905 => (((some count878).bind fun z908 => x_range 0 z908).bind fun z910 => x_comp (fun y909 => some true) (fun y909 => some ([] : (List Int))) z910).bind fun direct911 => ((some count878).bind fun z914 => x_range 0 z914).bind fun xs917 => (foldO (fun (bx915 : (List Int) × (List (List Int))) y916 => ((some bx889.2.2).bind fun z921 => (((some y916).bind fun z918 => (some (1 : Int)).bind fun z919 => some (z918 + z919)).bind fun z920 => some (some z920)).bind fun z922 => (some none).bind fun z923 => some (cutL z921 z922 z923)).bind fun xs926 => (foldO (fun (bx924 : (List Int) × (List (List Int))) y925 => (some (4 : Int)).bind fun x928 => (m__law_draw bx924.1 x928).bind fun r930 => ((some r930.1).bind fun z933 => (some r905.1).bind fun z934 => some (decide (z933 < z934))).bind fun x935 => if x935 = true then (some ()).bind fun u939 => ((some bx889.2.2).bind fun z937 => (some y916).bind fun z938 => x_ix z937 z938).bind fun n940 => (some y925).bind fun y941 => (x_app2 bx924.2 n940 y941).bind fun xss942 => some (r930.2, xss942) else some (r930.2, bx924.2)) (bx915.1, bx915.2) xs926).bind fun bx924 => some (bx924.1, bx924.2)) (r905.2, direct911) xs917).bind fun bx915 => ((some bx889.2.2).bind fun z944 => (some bx915.2).bind fun z945 => some (z944, z945)).bind fun r946 => some (r946, bx915.1)
def m__law_pairs (line947 : (List Int)) (direct948 : (List (List Int))) : Option (List (Int × Int)) :=
  (some ([] : (List (Int × Int)))).bind fun pairs_here949 => (some line947).bind fun xs955 => (foldO (fun (bx953 : (List (Int × Int))) y954 => ((some direct948).bind fun z956 => (some y954).bind fun z957 => x_ix z956 z957).bind fun xs960 => (foldO (fun (bx958 : (List (Int × Int))) y959 => ((some y954).bind fun z961 => (some y959).bind fun z962 => some (z961, z962)).bind fun y963 => (x_app bx958 y963).bind fun pairs_here964 => some pairs_here964) bx953 xs960).bind fun bx958 => some bx958) pairs_here949 xs955).bind fun bx953 => some bx953
def m__law_below (line966 : (List Int)) (direct967 : (List (List Int))) : Option (List (List Int)) :=
  ((((some line966).bind fun z968 => some (z968.length : Int)).bind fun z969 => x_range 0 z969).bind fun z971 => x_comp (fun y970 => some true) (fun y970 => some ([] : (List Int))) z971).bind fun below_here972 => ((some line966).bind fun z976 => some z976.reverse).bind fun xs979 => (foldO (fun (bx977 : (List (List Int))) y978 => ((some direct967).bind fun z980 => (some y978).bind fun z981 => x_ix z980 z981).bind fun met982 => ((some direct967).bind fun z986 => (some y978).bind fun z987 => x_ix z986 z987).bind fun xs990 => (foldO (fun (bx988 : (List Int)) y989 => ((some bx977).bind fun z993 => (some y989).bind fun z994 => x_ix z993 z994).bind fun y995 => (x_cat bx988 y995).bind fun met991 => some met991) met982 xs990).bind fun bx988 => ((some bx988).bind fun z996 => x_sset z996).bind fun y997 => (some y978).bind fun n998 => (x_set bx977 n998 y997).bind fun below_here999 => some below_here999) below_here972 xs979).bind fun bx977 => some bx977
def m__law_above (below_here1001 : (List (List Int))) : Option (List (List Int)) :=
  (some ([] : (List (List Int)))).bind fun above_here1002 => (((some below_here1001).bind fun z1006 => some (z1006.length : Int)).bind fun z1007 => x_range 0 z1007).bind fun xs1010 => (foldO (fun (bx1008 : (List (List Int))) y1009 => ((((some below_here1001).bind fun z1011 => some (z1011.length : Int)).bind fun z1012 => x_range 0 z1012).bind fun z1018 => x_comp (fun y1013 => (some y1009).bind fun z1016 => ((some below_here1001).bind fun z1014 => (some y1013).bind fun z1015 => x_ix z1014 z1015).bind fun z1017 => some (decide (z1016 ∈ z1017))) (fun y1013 => some y1013) z1018).bind fun y1019 => (x_app bx1008 y1019).bind fun above_here1020 => some above_here1020) above_here1002 xs1010).bind fun bx1008 => some bx1008
def m__law_state (purse_here1022 : (List Int)) (count1023 : Int) (hues1024 : Int) : Option ((List Int) × (List Int)) :=
  (some (4 : Int)).bind fun x1025 => (m__law_draw purse_here1022 x1025).bind fun r1027 => (some ([] : (List Int))).bind fun hand1030 => ((some count1023).bind fun z1034 => x_range 0 z1034).bind fun xs1037 => (foldO (fun (bx1035 : (List Int) × (List Int)) y1036 => (m__law_draw bx1035.1 hues1024).bind fun r1038 => joinK (fun (bx1042 : (List Int) × Int) => joinK (fun (bx1046 : (List Int) × Int) => (some bx1046.2).bind fun y1049 => (x_app bx1035.2 y1049).bind fun hand1050 => some (bx1046.1, hand1050)) fun k1047 => ((some r1027.1).bind fun z1052 => (some (2 : Int)).bind fun z1053 => some (decide (z1052 = z1053))).bind fun c1054 => if c1054 = true then (some (3 : Int)).bind fun x1055 => (m__law_draw bx1042.1 x1055).bind fun r1057 => (some (0 : Int)).bind fun x1060 => ((some r1057.1).bind fun z1062 => (some x1060).bind fun z1063 => some (decide (z1063 < z1062))).bind fun x1064 => if x1064 = true then ((some hues1024).bind fun z1066 => (some (1 : Int)).bind fun z1067 => some (z1066 - z1067)).bind fun hue1068 => k1047 (r1057.2, hue1068) else k1047 (r1057.2, bx1042.2) else k1047 (bx1042.1, bx1042.2)) fun k1043 => ((some r1027.1).bind fun z1070 => (some (1 : Int)).bind fun z1071 => some (decide (z1070 = z1071))).bind fun c1072 => if c1072 = true then (some (3 : Int)).bind fun x1073 => (m__law_draw r1038.2 x1073).bind fun r1075 => (some (0 : Int)).bind fun x1078 => ((some r1075.1).bind fun z1080 => (some x1078).bind fun z1081 => some (decide (z1081 < z1080))).bind fun x1082 => if x1082 = true then (some (0 : Int)).bind fun hue1084 => k1043 (r1075.2, hue1084) else k1043 (r1075.2, r1038.1) else k1043 (r1038.2, r1038.1)) (r1027.2, hand1030) xs1037).bind fun bx1035 => (some bx1035.2).bind fun r1086 => some (r1086, bx1035.1)
def m__law_after (below_here1087 : (List (List Int))) (hues1088 : Int) (state_here1089 : (List Int)) (lamp1090 : Int) : Option (List Int) :=
  (some state_here1089).bind fun hand1091 => (((some hand1091).bind fun z1095 => (some lamp1090).bind fun z1096 => x_ix z1095 z1096).bind fun z1097 => (some (1 : Int)).bind fun z1098 => some (z1097 - z1098)).bind fun y1099 => (some lamp1090).bind fun n1100 => (x_set hand1091 n1100 y1099).bind fun hand1101 => ((some below_here1087).bind fun z1103 => (some lamp1090).bind fun z1104 => x_ix z1103 z1104).bind fun xs1107 => (foldO (fun (bx1105 : (List Int)) y1106 => (((((some bx1105).bind fun z1108 => (some y1106).bind fun z1109 => x_ix z1108 z1109).bind fun z1110 => (some hues1088).bind fun z1111 => some (z1110 + z1111)).bind fun z1112 => (some (1 : Int)).bind fun z1113 => some (z1112 - z1113)).bind fun z1114 => (some hues1088).bind fun z1115 => x_mod z1114 z1115).bind fun y1116 => (some y1106).bind fun n1117 => (x_set bx1105 n1117 y1116).bind fun hand1118 => some hand1118) hand1101 xs1107).bind fun bx1105 => some bx1105
def m__law_is_integer (value1120 : Int) : Option Bool :=
  ((some value1120).bind fun _ => some true).bind fun z1122 => andM z1122 (((some value1120).bind fun _ => some false).bind fun z1121 => some (!z1121))
def m__law_truth (found1123 : Bool) (due1124 : Bool) : Option Bool :=
  ((some found1123).bind fun _ => some true).bind fun z1127 => andM z1127 ((some found1123).bind fun z1125 => (some due1124).bind fun z1126 => some (decide (z1125 = z1126)))
def m__law_same (found1128 : (List Int)) (due1129 : (List Int)) : Option Bool :=
  ((((some found1128).bind fun _ => some true).bind fun z1131 => some (!z1131)).bind fun z1136 => orM z1136 (((some found1128).bind fun z1132 => some (z1132.length : Int)).bind fun z1134 => ((some due1129).bind fun z1133 => some (z1133.length : Int)).bind fun z1135 => some (!decide (z1134 = z1135)))).bind fun c1130 => if c1130 = true then some false else (((some due1129).bind fun z1137 => some (z1137.length : Int)).bind fun z1138 => x_range 0 z1138).bind fun xs1141 => forK (fun (bx1139 : Unit) y1140 k1142 k1143 => (((((some found1128).bind fun z1145 => (some y1140).bind fun z1146 => x_ix z1145 z1146).bind fun a1147 => m__law_is_integer a1147).bind fun z1148 => some (!z1148)).bind fun z1155 => orM z1155 (((some found1128).bind fun z1149 => (some y1140).bind fun z1150 => x_ix z1149 z1150).bind fun z1153 => ((some due1129).bind fun z1151 => (some y1140).bind fun z1152 => x_ix z1151 z1152).bind fun z1154 => some (!decide (z1153 = z1154)))).bind fun c1144 => if c1144 = true then some false else k1142 ()) (fun bx1139 => some true) xs1141 ()
def m__law_is (found1156 : (List Int)) (due1157 : (List Int)) : Option Bool :=
  ((some found1156).bind fun _ => some true).bind fun z1161 => andM z1161 (((some found1156).bind fun z1158 => (some due1157).bind fun z1159 => some (z1158, z1159)).bind fun a1160 => m__law_same a1160.1 a1160.2)
def m__law_same_pairs (found1162 : (List (Int × (List Int)))) (due1163 : (List (Int × (List Int)))) : Option Bool :=
  ((((some found1162).bind fun _ => some true).bind fun z1165 => some (!z1165)).bind fun z1170 => orM z1170 (((some found1162).bind fun z1166 => some (z1166.length : Int)).bind fun z1168 => ((some due1163).bind fun z1167 => some (z1167.length : Int)).bind fun z1169 => some (!decide (z1168 = z1169)))).bind fun c1164 => if c1164 = true then some false else (((some due1163).bind fun z1171 => some (z1171.length : Int)).bind fun z1172 => x_range 0 z1172).bind fun xs1175 => forK (fun (bx1173 : Unit) y1174 k1176 k1177 => ((some found1162).bind fun z1178 => (some y1174).bind fun z1179 => x_ix z1178 z1179).bind fun pair1180 => ((((some pair1180).bind fun _ => some true).bind fun z1183 => some (!z1183)).bind fun z1191 => orM z1191 ((((some pair1180).bind fun _ => some 2).bind fun z1185 => (some (2 : Int)).bind fun z1186 => some (!decide (z1185 = z1186))).bind fun z1190 => orM z1190 ((((some pair1180).bind fun z1187 => some z1187.1).bind fun a1188 => m__law_is_integer a1188).bind fun z1189 => some (!z1189)))).bind fun c1182 => if c1182 = true then some false else ((((some pair1180).bind fun z1193 => some z1193.1).bind fun z1197 => (((some due1163).bind fun z1194 => (some y1174).bind fun z1195 => x_ix z1194 z1195).bind fun z1196 => some z1196.1).bind fun z1198 => some (!decide (z1197 = z1198))).bind fun z1207 => orM z1207 (((((some pair1180).bind fun z1199 => some z1199.2).bind fun z1203 => (((some due1163).bind fun z1200 => (some y1174).bind fun z1201 => x_ix z1200 z1201).bind fun z1202 => some z1202.2).bind fun z1204 => some (z1203, z1204)).bind fun a1205 => m__law_is a1205.1 a1205.2).bind fun z1206 => some (!z1206))).bind fun c1192 => if c1192 = true then some false else k1176 ()) (fun bx1173 => some true) xs1175 ()
def m__law_same_states (found1208 : (List (List Int))) (due1209 : (List (List Int))) : Option Bool :=
  ((((some found1208).bind fun _ => some true).bind fun z1211 => some (!z1211)).bind fun z1216 => orM z1216 (((some found1208).bind fun z1212 => some (z1212.length : Int)).bind fun z1214 => ((some due1209).bind fun z1213 => some (z1213.length : Int)).bind fun z1215 => some (!decide (z1214 = z1215)))).bind fun c1210 => if c1210 = true then some false else (((some due1209).bind fun z1217 => some (z1217.length : Int)).bind fun z1218 => x_range 0 z1218).bind fun xs1221 => forK (fun (bx1219 : Unit) y1220 k1222 k1223 => (((((some found1208).bind fun z1225 => (some y1220).bind fun z1226 => x_ix z1225 z1226).bind fun z1229 => ((some due1209).bind fun z1227 => (some y1220).bind fun z1228 => x_ix z1227 z1228).bind fun z1230 => some (z1229, z1230)).bind fun a1231 => m__law_is a1231.1 a1231.2).bind fun z1232 => some (!z1232)).bind fun c1224 => if c1224 = true then some false else k1222 ()) (fun bx1219 => some true) xs1221 ()
def m__law_lowest (below_here1233 : (List (List Int))) (state_here1234 : (List Int)) : Option (List Int) :=
  (some ([] : (List Int))).bind fun lamps1235 => (((some state_here1234).bind fun z1239 => some (z1239.length : Int)).bind fun z1240 => x_range 0 z1240).bind fun xs1243 => (foldO (fun (bx1241 : (List Int)) y1242 => ((((some state_here1234).bind fun z1245 => (some y1242).bind fun z1246 => x_ix z1245 z1246).bind fun z1247 => (some (0 : Int)).bind fun z1248 => some (decide (z1248 < z1247))).bind fun z1258 => andM z1258 (((((some below_here1233).bind fun z1249 => (some y1242).bind fun z1250 => x_ix z1249 z1250).bind fun z1254 => x_comp (fun y1251 => some true) (fun y1251 => (some state_here1234).bind fun z1252 => (some y1251).bind fun z1253 => x_ix z1252 z1253) z1254).bind fun z1255 => some z1255.sum).bind fun z1256 => (some (0 : Int)).bind fun z1257 => some (decide (z1256 = z1257)))).bind fun c1244 => if c1244 = true then (some y1242).bind fun y1259 => (x_app bx1241 y1259).bind fun lamps1260 => some lamps1260 else some bx1241) lamps1235 xs1243).bind fun bx1241 => some bx1241
def m__law_piece (above_here1262 : (List (List Int))) (state_here1263 : (List Int)) (lamp1264 : Int) : Option (List Int) :=
  (((some state_here1263).bind fun z1265 => some (z1265.length : Int)).bind fun z1266 => x_range 0 z1266).bind fun z1280 => x_comp (fun y1267 => some true) (fun y1267 => ((some state_here1263).bind fun z1268 => (some y1267).bind fun z1269 => x_ix z1268 z1269).bind fun z1278 => ((((some y1267).bind fun z1270 => (some lamp1264).bind fun z1271 => some (decide (z1270 = z1271))).bind fun z1276 => orM z1276 ((some y1267).bind fun z1274 => ((some above_here1262).bind fun z1272 => (some lamp1264).bind fun z1273 => x_ix z1272 z1273).bind fun z1275 => some (decide (z1274 ∈ z1275)))).bind fun z1277 => some (if z1277 = true then 1 else 0)).bind fun z1279 => x_mul z1278 z1279) z1280
def m__law_all_lowered (below_here1281 : (List (List Int))) (hues1282 : Int) (state_here1283 : (List Int)) (lamps1284 : (List Int)) : Option (List Int) :=
  (some state_here1283).bind fun hand1285 => (some lamps1284).bind fun xs1291 => (foldO (fun (bx1289 : (List Int)) y1290 => (((some bx1289).bind fun z1292 => (some y1290).bind fun z1293 => x_ix z1292 z1293).bind fun z1294 => (some (1 : Int)).bind fun z1295 => some (z1294 - z1295)).bind fun y1296 => (some y1290).bind fun n1297 => (x_set bx1289 n1297 y1296).bind fun hand1298 => ((some below_here1281).bind fun z1300 => (some y1290).bind fun z1301 => x_ix z1300 z1301).bind fun xs1304 => (foldO (fun (bx1302 : (List Int)) y1303 => ((some hues1282).bind fun z1305 => (some (1 : Int)).bind fun z1306 => some (z1305 - z1306)).bind fun y1307 => (some y1303).bind fun n1308 => (x_set bx1302 n1308 y1307).bind fun hand1309 => some hand1309) hand1298 xs1304).bind fun bx1302 => some bx1302) hand1285 xs1291).bind fun bx1289 => some bx1289
def m__law_covers_of (below_here1311 : (List (List Int))) (hues1312 : Int) (state_here1313 : (List Int)) : Option (List (Int × (List Int))) :=
  (some ([] : (List (Int × (List Int))))).bind fun found1314 => (((some state_here1313).bind fun z1318 => some (z1318.length : Int)).bind fun z1319 => x_range 0 z1319).bind fun xs1322 => (foldO (fun (bx1320 : (List (Int × (List Int)))) y1321 => ((((some state_here1313).bind fun z1324 => (some y1321).bind fun z1325 => x_ix z1324 z1325).bind fun z1328 => ((some hues1312).bind fun z1326 => (some (1 : Int)).bind fun z1327 => some (z1326 - z1327)).bind fun z1329 => some (decide (z1328 < z1329))).bind fun z1341 => andM z1341 ((((some below_here1311).bind fun z1330 => (some y1321).bind fun z1331 => x_ix z1330 z1331).bind fun z1339 => x_comp (fun y1332 => some true) (fun y1332 => ((some state_here1313).bind fun z1333 => (some y1332).bind fun z1334 => x_ix z1333 z1334).bind fun z1337 => ((some hues1312).bind fun z1335 => (some (1 : Int)).bind fun z1336 => some (z1335 - z1336)).bind fun z1338 => some (decide (z1337 = z1338))) z1339).bind fun z1340 => some (z1340.all id))).bind fun c1323 => if c1323 = true then (some state_here1313).bind fun hand1342 => (((some hand1342).bind fun z1346 => (some y1321).bind fun z1347 => x_ix z1346 z1347).bind fun z1348 => (some (1 : Int)).bind fun z1349 => some (z1348 + z1349)).bind fun y1350 => (some y1321).bind fun n1351 => (x_set hand1342 n1351 y1350).bind fun hand1352 => ((some below_here1311).bind fun z1354 => (some y1321).bind fun z1355 => x_ix z1354 z1355).bind fun xs1358 => (foldO (fun (bx1356 : (List Int)) y1357 => (some (0 : Int)).bind fun y1359 => (some y1357).bind fun n1360 => (x_set bx1356 n1360 y1359).bind fun hand1361 => some hand1361) hand1352 xs1358).bind fun bx1356 => ((some y1321).bind fun z1363 => (some bx1356).bind fun z1364 => some (z1363, z1364)).bind fun y1365 => (x_app bx1320 y1365).bind fun found1366 => some found1366 else some bx1320) found1314 xs1322).bind fun bx1320 => some bx1320
def m__law_refuses (house1368 : HouseD) (state_here1369 : (List Int)) (lamps1370 : (List Int)) (lamp1371 : Int) : Option Bool :=
  ((some house1368).bind fun z1374 => ((some state_here1369).bind fun z1372 => (some lamps1370).bind fun z1373 => some (z1372, z1373)).bind fun z1375 => some (z1374, z1375)).bind fun a1384 => (mX_lowered a1384.1 a1384.2.1 a1384.2.2).bind fun r1383 => xcatch "InvalidLamp" (selI "lamp") (fun y1376 => ((some y1376).bind fun a1379 => m__law_is_integer a1379).bind fun z1382 => andM z1382 ((some y1376).bind fun z1380 => (some lamp1371).bind fun z1381 => some (decide (z1380 = z1381)))) (fun b1385 => some false) r1383
def m__law_agree (house1386 : HouseD) (below_here1387 : (List (List Int))) (above_here1388 : (List (List Int))) (hues1389 : Int) (state_here1390 : (List Int)) : Option Bool :=
  (((some below_here1387).bind fun z1391 => (some state_here1390).bind fun z1392 => some (z1391, z1392)).bind fun a1393 => m__law_lowest a1393.1 a1393.2).bind fun due1394 => ((some due1394).bind fun z1406 => x_comp (fun y1396 => some true) (fun y1396 => (some y1396).bind fun z1404 => (((some below_here1387).bind fun z1401 => ((some hues1389).bind fun z1399 => ((some state_here1390).bind fun z1397 => (some y1396).bind fun z1398 => some (z1397, z1398)).bind fun z1400 => some (z1399, z1400)).bind fun z1402 => some (z1401, z1402)).bind fun a1403 => m__law_after a1403.1 a1403.2.1 a1403.2.2.1 a1403.2.2.2).bind fun z1405 => some (z1404, z1405)) z1406).bind fun steps1407 => ((some due1394).bind fun z1415 => x_comp (fun y1409 => some true) (fun y1409 => ((some above_here1388).bind fun z1412 => ((some state_here1390).bind fun z1410 => (some y1409).bind fun z1411 => some (z1410, z1411)).bind fun z1413 => some (z1412, z1413)).bind fun a1414 => m__law_piece a1414.1 a1414.2.1 a1414.2.2) z1415).bind fun parts1416 => ((some (2 : Int)).bind fun z1418 => x_range 0 z1418).bind fun xs1421 => forK (fun (bx1419 : Unit) y1420 k1422 k1423 => (((some house1386).bind fun z1424 => (some state_here1390).bind fun z1425 => some (z1424, z1425)).bind fun a1426 => m_lowest_lit a1426.1 a1426.2).bind fun lowest_here1427 => (((some house1386).bind fun z1431 => (some state_here1390).bind fun z1432 => some (z1431, z1432)).bind fun a1433 => (some true).bind fun a1434 => m_allowed_lamps a1433.1 a1433.2 a1434).bind fun allowed1435 => (((some house1386).bind fun z1439 => (some state_here1390).bind fun z1440 => some (z1439, z1440)).bind fun a1441 => m_covered_by a1441.1 a1441.2).bind fun covers1442 => (((some house1386).bind fun z1446 => (some state_here1390).bind fun z1447 => some (z1446, z1447)).bind fun a1448 => m_pieces a1448.1 a1448.2).bind fun found1449 => (((((some lowest_here1427).bind fun z1454 => (some due1394).bind fun z1455 => some (z1454, z1455)).bind fun a1456 => m__law_same a1456.1 a1456.2).bind fun z1457 => some (!z1457)).bind fun z1462 => orM z1462 ((((some allowed1435).bind fun z1458 => (some due1394).bind fun z1459 => some (z1458, z1459)).bind fun a1460 => m__law_same a1460.1 a1460.2).bind fun z1461 => some (!z1461))).bind fun c1453 => if c1453 = true then some false else (((((some covers1442).bind fun z1464 => (some steps1407).bind fun z1465 => some (z1464, z1465)).bind fun a1466 => m__law_same_pairs a1466.1 a1466.2).bind fun z1467 => some (!z1467)).bind fun z1472 => orM z1472 ((((some found1449).bind fun z1468 => (some parts1416).bind fun z1469 => some (z1468, z1469)).bind fun a1470 => m__law_same_states a1470.1 a1470.2).bind fun z1471 => some (!z1471))).bind fun c1463 => if c1463 = true then some false else ((some state_here1390).bind fun z1473 => some (z1473.length : Int)).bind fun y1474 => (x_app lowest_here1427 y1474).bind fun lowest_here1475 => (some ([] : (List Int))).bind fun allowed1477 => (((some state_here1390).bind fun z1479 => some (z1479.length : Int)).bind fun z1480 => (some state_here1390).bind fun z1481 => some (z1480, z1481)).bind fun y1482 => (x_app covers1442 y1482).bind fun covers1483 => (some state_here1390).bind fun y1485 => (x_app found1449 y1485).bind fun found1486 => k1422 ()) (fun bx1419 => ((((some house1386).bind fun z1488 => (some state_here1390).bind fun z1489 => some (z1488, z1489)).bind fun a1490 => m_is_single a1490.1 a1490.2).bind fun z1494 => (((some due1394).bind fun z1491 => some (z1491.length : Int)).bind fun z1492 => (some (1 : Int)).bind fun z1493 => some (decide (z1492 = z1493))).bind fun z1495 => some (z1494, z1495)).bind fun a1496 => m__law_truth a1496.1 a1496.2) xs1421 ()
def m__law_one_lamp (house1497 : HouseD) (below_here1498 : (List (List Int))) (above_here1499 : (List (List Int))) (hues1500 : Int) (state_here1501 : (List Int)) (lamp1502 : Int) : Option Bool :=
  (((some below_here1498).bind fun z1507 => ((some hues1500).bind fun z1505 => ((some state_here1501).bind fun z1503 => (some lamp1502).bind fun z1504 => some (z1503, z1504)).bind fun z1506 => some (z1505, z1506)).bind fun z1508 => some (z1507, z1508)).bind fun a1509 => m__law_after a1509.1 a1509.2.1 a1509.2.2.1 a1509.2.2.2).bind fun other1510 => (((((((some house1497).bind fun z1517 => ((some state_here1501).bind fun z1515 => ((some lamp1502).bind fun z1513 => (some []).bind fun z1514 => some (z1513 :: z1514)).bind fun z1516 => some (z1515, z1516)).bind fun z1518 => some (z1517, z1518)).bind fun a1519 => m_lowered a1519.1 a1519.2.1 a1519.2.2).bind fun z1520 => (some other1510).bind fun z1521 => some (z1520, z1521)).bind fun a1522 => m__law_is a1522.1 a1522.2).bind fun z1523 => some (!z1523)).bind fun z1531 => orM z1531 ((((some house1497).bind fun z1526 => ((some state_here1501).bind fun z1524 => (some other1510).bind fun z1525 => some (z1524, z1525)).bind fun z1527 => some (z1526, z1527)).bind fun a1528 => m_is_cover a1528.1 a1528.2.1 a1528.2.2).bind fun z1529 => (some true).bind fun z1530 => some (!decide (z1529 = z1530)))).bind fun c1512 => if c1512 = true then some false else ((((((some house1497).bind fun z1533 => (some other1510).bind fun z1534 => some (z1533, z1534)).bind fun a1535 => m_covers_of a1535.1 a1535.2).bind fun z1541 => (((some below_here1498).bind fun z1538 => ((some hues1500).bind fun z1536 => (some other1510).bind fun z1537 => some (z1536, z1537)).bind fun z1539 => some (z1538, z1539)).bind fun a1540 => m__law_covers_of a1540.1 a1540.2.1 a1540.2.2).bind fun z1542 => some (z1541, z1542)).bind fun a1543 => m__law_same_pairs a1543.1 a1543.2).bind fun z1544 => some (!z1544)).bind fun c1532 => if c1532 = true then some false else (((some above_here1499).bind fun z1547 => ((some state_here1501).bind fun z1545 => (some lamp1502).bind fun z1546 => some (z1545, z1546)).bind fun z1548 => some (z1547, z1548)).bind fun a1549 => m__law_piece a1549.1 a1549.2.1 a1549.2.2).bind fun piece_here1550 => (((((((some house1497).bind fun z1553 => (some piece_here1550).bind fun z1554 => some (z1553, z1554)).bind fun a1555 => m_lowest_lit a1555.1 a1555.2).bind fun z1558 => ((some lamp1502).bind fun z1556 => (some []).bind fun z1557 => some (z1556 :: z1557)).bind fun z1559 => some (z1558, z1559)).bind fun a1560 => m__law_same a1560.1 a1560.2).bind fun z1561 => some (!z1561)).bind fun z1567 => orM z1567 ((((some house1497).bind fun z1562 => (some piece_here1550).bind fun z1563 => some (z1562, z1563)).bind fun a1564 => m_is_single a1564.1 a1564.2).bind fun z1565 => (some true).bind fun z1566 => some (!decide (z1565 = z1566)))).bind fun c1552 => if c1552 = true then some false else ((((some house1497).bind fun z1568 => (some piece_here1550).bind fun z1569 => some (z1568, z1569)).bind fun a1570 => m_covered_by a1570.1 a1570.2).bind fun z1582 => (((some lamp1502).bind fun z1578 => (((some below_here1498).bind fun z1575 => ((some hues1500).bind fun z1573 => ((some piece_here1550).bind fun z1571 => (some lamp1502).bind fun z1572 => some (z1571, z1572)).bind fun z1574 => some (z1573, z1574)).bind fun z1576 => some (z1575, z1576)).bind fun a1577 => m__law_after a1577.1 a1577.2.1 a1577.2.2.1 a1577.2.2.2).bind fun z1579 => some (z1578, z1579)).bind fun z1580 => (some []).bind fun z1581 => some (z1580 :: z1581)).bind fun z1583 => some (z1582, z1583)).bind fun a1584 => m__law_same_pairs a1584.1 a1584.2
def m__law_other_lamps (house1585 : HouseD) (below_here1586 : (List (List Int))) (hues1587 : Int) (state_here1588 : (List Int)) (due1589 : (List Int)) (pick1590 : Int) : Option Bool :=
  (((some below_here1586).bind fun z1595 => ((some hues1587).bind fun z1593 => ((some state_here1588).bind fun z1591 => (some due1589).bind fun z1592 => some (z1591, z1592)).bind fun z1594 => some (z1593, z1594)).bind fun z1596 => some (z1595, z1596)).bind fun a1597 => m__law_all_lowered a1597.1 a1597.2.1 a1597.2.2.1 a1597.2.2.2).bind fun together1598 => (((some due1589).bind fun z1600 => some z1600.reverse).bind fun z1601 => (some due1589).bind fun z1602 => x_cat z1601 z1602).bind fun lamps1603 => (((((((some house1585).bind fun z1608 => ((some state_here1588).bind fun z1606 => (some lamps1603).bind fun z1607 => some (z1606, z1607)).bind fun z1609 => some (z1608, z1609)).bind fun a1610 => m_lowered a1610.1 a1610.2.1 a1610.2.2).bind fun z1611 => (some together1598).bind fun z1612 => some (z1611, z1612)).bind fun a1613 => m__law_is a1613.1 a1613.2).bind fun z1614 => some (!z1614)).bind fun z1620 => orM z1620 ((some lamps1603).bind fun z1618 => (((some due1589).bind fun z1615 => some z1615.reverse).bind fun z1616 => (some due1589).bind fun z1617 => x_cat z1616 z1617).bind fun z1619 => some (!decide (z1618 = z1619)))).bind fun c1605 => if c1605 = true then some false else ((((((some house1585).bind fun z1624 => ((some state_here1588).bind fun z1622 => (some together1598).bind fun z1623 => some (z1622, z1623)).bind fun z1625 => some (z1624, z1625)).bind fun a1626 => m_is_cover a1626.1 a1626.2.1 a1626.2.2).bind fun z1630 => (((some due1589).bind fun z1627 => some (z1627.length : Int)).bind fun z1628 => (some (1 : Int)).bind fun z1629 => some (decide (z1628 = z1629))).bind fun z1631 => some (z1630, z1631)).bind fun a1632 => m__law_truth a1632.1 a1632.2).bind fun z1633 => some (!z1633)).bind fun c1621 => if c1621 = true then some false else ((((some state_here1588).bind fun z1634 => some (z1634.length : Int)).bind fun z1635 => x_range 0 z1635).bind fun z1644 => x_comp (fun y1636 => (((some state_here1588).bind fun z1637 => (some y1636).bind fun z1638 => x_ix z1637 z1638).bind fun z1639 => (some (0 : Int)).bind fun z1640 => some (decide (z1640 < z1639))).bind fun z1643 => andM z1643 ((some y1636).bind fun z1641 => (some due1589).bind fun z1642 => some (!decide (z1641 ∈ z1642)))) (fun y1636 => some y1636) z1644).bind fun others1645 => ((some others1645).bind fun z1648 => (some ([] : (List Int))).bind fun z1649 => some (decide (z1648 = z1649))).bind fun c1647 => if c1647 = true then some true else ((some others1645).bind fun z1653 => ((some pick1590).bind fun z1651 => ((some others1645).bind fun z1650 => some (z1650.length : Int)).bind fun z1652 => x_mod z1651 z1652).bind fun z1654 => x_ix z1653 z1654).bind fun lamp1655 => ((((some house1585).bind fun z1660 => ((some state_here1588).bind fun z1658 => (some lamp1655).bind fun z1659 => some (z1658, z1659)).bind fun z1661 => some (z1660, z1661)).bind fun a1662 => (some true).bind fun a1663 => m_is_allowed a1662.1 a1662.2.1 a1662.2.2 a1663).bind fun z1664 => (some false).bind fun z1665 => some (!decide (z1664 = z1665))).bind fun c1657 => if c1657 = true then some false else ((((some house1585).bind fun z1676 => ((some state_here1588).bind fun z1674 => (((some below_here1586).bind fun z1671 => ((some hues1587).bind fun z1669 => ((some state_here1588).bind fun z1667 => (some lamp1655).bind fun z1668 => some (z1667, z1668)).bind fun z1670 => some (z1669, z1670)).bind fun z1672 => some (z1671, z1672)).bind fun a1673 => m__law_after a1673.1 a1673.2.1 a1673.2.2.1 a1673.2.2.2).bind fun z1675 => some (z1674, z1675)).bind fun z1677 => some (z1676, z1677)).bind fun a1678 => m_is_cover a1678.1 a1678.2.1 a1678.2.2).bind fun z1679 => (some false).bind fun z1680 => some (!decide (z1679 = z1680))).bind fun c1666 => if c1666 = true then some false else ((some house1585).bind fun z1689 => ((some state_here1588).bind fun z1687 => (((some due1589).bind fun z1683 => ((some lamp1655).bind fun z1681 => (some []).bind fun z1682 => some (z1681 :: z1682)).bind fun z1684 => x_cat z1683 z1684).bind fun z1685 => (some lamp1655).bind fun z1686 => some (z1685, z1686)).bind fun z1688 => some (z1687, z1688)).bind fun z1690 => some (z1689, z1690)).bind fun a1691 => m__law_refuses a1691.1 a1691.2.1 a1691.2.2.1 a1691.2.2.2
def m_law (script1692 : (List Int)) : Option Bool :=
  (((some script1692).bind fun z1693 => (some (0 : Int)).bind fun z1694 => some (z1693, z1694)).bind fun a1695 => m__law_purse a1695.1 a1695.2).bind fun purse_here1696 => (some (1 : Int)).bind fun x1700 => ((some (6 : Int)).bind fun z1708 => ((some (6 : Int)).bind fun z1706 => ((some (6 : Int)).bind fun z1704 => ((some (16 : Int)).bind fun z1702 => (some []).bind fun z1703 => some (z1702 :: z1703)).bind fun z1705 => some (z1704 :: z1705)).bind fun z1707 => some (z1706 :: z1707)).bind fun z1709 => some (z1708 :: z1709)).bind fun x1710 => (some (4 : Int)).bind fun x1712 => (m__law_draw purse_here1696 x1712).bind fun r1714 => ((some x1710).bind fun z1717 => (some r1714.1).bind fun z1718 => x_ix z1717 z1718).bind fun x1719 => (m__law_draw r1714.2 x1719).bind fun r1721 => ((some x1700).bind fun z1724 => (some r1721.1).bind fun z1725 => some (z1724 + z1725)).bind fun x1726 => (some (2 : Int)).bind fun x1728 => ((some (3 : Int)).bind fun z1734 => ((some (3 : Int)).bind fun z1732 => ((some (9 : Int)).bind fun z1730 => (some []).bind fun z1731 => some (z1730 :: z1731)).bind fun z1733 => some (z1732 :: z1733)).bind fun z1735 => some (z1734 :: z1735)).bind fun x1736 => (some (3 : Int)).bind fun x1738 => (m__law_draw r1721.2 x1738).bind fun r1740 => ((some x1736).bind fun z1743 => (some r1740.1).bind fun z1744 => x_ix z1743 z1744).bind fun x1745 => (m__law_draw r1740.2 x1745).bind fun r1747 => ((some x1728).bind fun z1750 => (some r1747.1).bind fun z1751 => some (z1750 + z1751)).bind fun x1752 => (m__law_wires r1747.2 x1726).bind fun r1754 => (((some r1754.1.1).bind fun z1759 => (some r1754.1.2).bind fun z1760 => some (z1759, z1760)).bind fun a1761 => m__law_below a1761.1 a1761.2).bind fun below_here1762 => ((some below_here1762).bind fun a1764 => m__law_above a1764).bind fun above_here1765 => ((((some x1726).bind fun z1772 => ((some x1752).bind fun z1770 => (((some r1754.1.1).bind fun z1767 => (some r1754.1.2).bind fun z1768 => some (z1767, z1768)).bind fun a1769 => m__law_pairs a1769.1 a1769.2).bind fun z1771 => some (z1770, z1771)).bind fun z1773 => some (z1772, z1773)).bind fun a1774 => m_House___init__ a1774.1 a1774.2.1 a1774.2.2).bind fun z1775 => some (toHouse z1775)).bind fun house1776 => (((some script1692).bind fun z1778 => (some (1 : Int)).bind fun z1779 => some (z1778, z1779)).bind fun a1780 => m__law_purse a1780.1 a1780.2).bind fun purse_here1781 => (m__law_state purse_here1781 x1726 x1752).bind fun r1785 => ((some (3 : Int)).bind fun z1788 => x_range 0 z1788).bind fun xs1791 => forK (fun (bx1789 : (List Int) × (List Int)) y1790 k1792 k1793 => (((some below_here1762).bind fun z1794 => (some bx1789.2).bind fun z1795 => some (z1794, z1795)).bind fun a1796 => m__law_lowest a1796.1 a1796.2).bind fun due1797 => ((((some house1776).bind fun z1806 => ((some below_here1762).bind fun z1804 => ((some above_here1765).bind fun z1802 => ((some x1752).bind fun z1800 => (some bx1789.2).bind fun z1801 => some (z1800, z1801)).bind fun z1803 => some (z1802, z1803)).bind fun z1805 => some (z1804, z1805)).bind fun z1807 => some (z1806, z1807)).bind fun a1808 => m__law_agree a1808.1 a1808.2.1 a1808.2.2.1 a1808.2.2.2.1 a1808.2.2.2.2).bind fun z1809 => some (!z1809)).bind fun c1799 => if c1799 = true then some false else (some (16 : Int)).bind fun x1811 => (m__law_draw bx1789.1 x1811).bind fun r1813 => (m__law_other_lamps house1776 below_here1762 x1752 bx1789.2 due1797 r1813.1).bind fun r1816 => if (!r1816) = true then some false else ((some due1797).bind fun z1819 => (some ([] : (List Int))).bind fun z1820 => some (decide (z1819 = z1820))).bind fun c1818 => if c1818 = true then some true else ((some due1797).bind fun z1821 => some (z1821.length : Int)).bind fun x1822 => (m__law_draw r1813.2 x1822).bind fun r1824 => ((some due1797).bind fun z1827 => (some r1824.1).bind fun z1828 => x_ix z1827 z1828).bind fun x1829 => ((((some house1776).bind fun z1840 => ((some below_here1762).bind fun z1838 => ((some above_here1765).bind fun z1836 => ((some x1752).bind fun z1834 => ((some bx1789.2).bind fun z1832 => (some x1829).bind fun z1833 => some (z1832, z1833)).bind fun z1835 => some (z1834, z1835)).bind fun z1837 => some (z1836, z1837)).bind fun z1839 => some (z1838, z1839)).bind fun z1841 => some (z1840, z1841)).bind fun a1842 => m__law_one_lamp a1842.1 a1842.2.1 a1842.2.2.1 a1842.2.2.2.1 a1842.2.2.2.2.1 a1842.2.2.2.2.2).bind fun z1843 => some (!z1843)).bind fun c1831 => if c1831 = true then some false else (((some below_here1762).bind fun z1848 => ((some x1752).bind fun z1846 => ((some bx1789.2).bind fun z1844 => (some x1829).bind fun z1845 => some (z1844, z1845)).bind fun z1847 => some (z1846, z1847)).bind fun z1849 => some (z1848, z1849)).bind fun a1850 => m__law_after a1850.1 a1850.2.1 a1850.2.2.1 a1850.2.2.2).bind fun state_here1851 => k1792 (r1824.2, state_here1851)) (fun bx1789 => ((some house1776).bind fun z1859 => ((some below_here1762).bind fun z1857 => ((some above_here1765).bind fun z1855 => ((some x1752).bind fun z1853 => (some bx1789.2).bind fun z1854 => some (z1853, z1854)).bind fun z1856 => some (z1855, z1856)).bind fun z1858 => some (z1857, z1858)).bind fun z1860 => some (z1859, z1860)).bind fun a1861 => m__law_agree a1861.1 a1861.2.1 a1861.2.2.1 a1861.2.2.2.1 a1861.2.2.2.2) xs1791 (r1785.2, r1785.1)
end HF

set_option Elab.async false
set_option linter.all false
set_option maxRecDepth 100000
set_option maxHeartbeats 4000000
set_option pp.maxSteps 40
set_option pp.oneline true
namespace HF
open PySem PySem.Spec L2 ClX
open PyProof.Rows hiding St
def top (i : Nat) : Stmt := PySem.Challenge.pw_huefall_k82_lowest_lit_lamps_agree.main.body.getD i (.Pass ⟨0, 0, 0, 0⟩)
structure EnvF (P : Program) (K : PySem.W.Frag) (mg : Str → Option Value) : Prop where
  g_abs : mg "abs" = none
  g_all : mg "all" = none
  g_bool : mg "bool" = none
  g_enumerate : mg "enumerate" = none
  g_int : mg "int" = none
  g_isinstance : mg "isinstance" = none
  g_len : mg "len" = none
  g_list : mg "list" = none
  g_min : mg "min" = none
  g_range : mg "range" = none
  g_reversed : mg "reversed" = none
  g_set : mg "set" = none
  g_sorted : mg "sorted" = none
  g_sum : mg "sum" = none
  g_tuple : mg "tuple" = none
  d_is_integer : DefAt K mg "is_integer" (top 7)
  d_is_lamp : DefAt K mg "is_lamp" (top 8)
  d_bits : DefAt K mg "bits" (top 9)
  d_below_masks : DefAt K mg "below_masks" (top 10)
  d_above_masks : DefAt K mg "above_masks" (top 11)
  d__check_lamp : DefAt K mg "_check_lamp" (top 12)
  d__is_wire : DefAt K mg "_is_wire" (top 13)
  d__join_wires : DefAt K mg "_join_wires" (top 14)
  d__turn_round : DefAt K mg "_turn_round" (top 15)
  d__order_list : DefAt K mg "_order_list" (top 16)
  d_House___init__ : IDefAt K mg "House" (He.ga K "House") "House.__init__" (inClass (top 17) 2) 1
  d_House_beneath : MDefAt K (He.ga K "House") "beneath" "House.beneath" (inClass (top 17) 5)
  d_House_order : MDefAt K (He.ga K "House") "order" "House.order" (inClass (top 17) 10)
  d_is_state : DefAt K mg "is_state" (top 19)
  d__check_state : DefAt K mg "_check_state" (top 22)
  d_lit_lamps : DefAt K mg "lit_lamps" (top 20)
  d_turned_down : DefAt K mg "turned_down" (top 21)
  d_need_lamp : DefAt K mg "need_lamp" (top 24)
  d_need_state : DefAt K mg "need_state" (top 25)
  d_lit_beneath : DefAt K mg "lit_beneath" (top 27)
  d_moved : DefAt K mg "moved" (top 28)
  d_can_move : DefAt K mg "can_move" (top 29)
  d_is_allowed : KDefAt K mg "is_allowed" (top 30) [("careful", .bl false)]
  d_allowed_lamps : KDefAt K mg "allowed_lamps" (top 31) [("careful", .bl false)]
  d_before : KDefAt K mg "before" (top 32) [("careful", .bl false)]
  d_covered_by : DefAt K mg "covered_by" (top 34)
  d_covers_of : DefAt K mg "covers_of" (top 35)
  d_is_cover : DefAt K mg "is_cover" (top 36)
  d_lowest_lit : DefAt K mg "lowest_lit" (top 38)
  d__lowered_at : DefAt K mg "_lowered_at" (top 39)
  d_lowered : DefAt K mg "lowered" (top 40)
  d__piece : DefAt K mg "_piece" (top 42)
  d_pieces : DefAt K mg "pieces" (top 43)
  d_is_single : DefAt K mg "is_single" (top 44)
  d__law_purse : DefAt K mg "_law_purse" (top 46)
  d__law_draw : DefAt K mg "_law_draw" (top 47)
  d__law_wires : DefAt K mg "_law_wires" (top 48)
  d__law_pairs : DefAt K mg "_law_pairs" (top 49)
  d__law_below : DefAt K mg "_law_below" (top 50)
  d__law_above : DefAt K mg "_law_above" (top 51)
  d__law_state : DefAt K mg "_law_state" (top 52)
  d__law_after : DefAt K mg "_law_after" (top 53)
  d__law_is_integer : DefAt K mg "_law_is_integer" (top 54)
  d__law_truth : DefAt K mg "_law_truth" (top 55)
  d__law_same : DefAt K mg "_law_same" (top 56)
  d__law_is : DefAt K mg "_law_is" (top 57)
  d__law_same_pairs : DefAt K mg "_law_same_pairs" (top 58)
  d__law_same_states : DefAt K mg "_law_same_states" (top 59)
  d__law_lowest : DefAt K mg "_law_lowest" (top 60)
  d__law_piece : DefAt K mg "_law_piece" (top 61)
  d__law_all_lowered : DefAt K mg "_law_all_lowered" (top 62)
  d__law_covers_of : DefAt K mg "_law_covers_of" (top 63)
  d__law_refuses : DefAt K mg "_law_refuses" (top 64)
  d__law_agree : DefAt K mg "_law_agree" (top 65)
  d__law_one_lamp : DefAt K mg "_law_one_lamp" (top 66)
  d__law_other_lamps : DefAt K mg "_law_other_lamps" (top 67)
  d_law : DefAt K mg "law" (top 68)
  cl_House : Cls K (He.ga K "House")
  gc_House : ∃ u, mg "House" = some u ∧ RelV (.ref (He.ga K "House")) u
  na_House__above : NoAttr K (He.ga K "House") "_above"
  na_House__above_masks : NoAttr K (He.ga K "House") "_above_masks"
  na_House__below : NoAttr K (He.ga K "House") "_below"
  na_House__below_masks : NoAttr K (He.ga K "House") "_below_masks"
  na_House__direct : NoAttr K (He.ga K "House") "_direct"
  na_House__order : NoAttr K (He.ga K "House") "_order"
  na_House_count : NoAttr K (He.ga K "House") "count"
  na_House_hues : NoAttr K (He.ga K "House") "hues"
  na_House_wires : NoAttr K (He.ga K "House") "wires"
  cc_House_MOST_HUES : CCon K (He.ga K "House") "MOST_HUES" 10
  cc_House_MOST_LAMPS : CCon K (He.ga K "House") "MOST_LAMPS" 16
  xd_InvalidLamp : XAt P K mg "InvalidLamp" "InvalidLamp" (inClass (top 4) 0)
  ex_InvalidLamp : PySem.W.exmOne K (.ref (He.ga K "InvalidLamp")) (.ref (He.ga K "InvalidLamp")) = some true
  xf_InvalidLamp : XfC K (He.ga K "InvalidLamp")
  xn_InvalidLamp_lamp : PySem.W.findIn K (.ref (He.ga K "InvalidLamp")) "lamp" = some none
section
variable {P : Program} {w : World} {K : PySem.W.Frag} {mg : Str → Option Value} {base : Heap}

theorem xm_InvalidLamp (E : EnvF P K mg) : XMk P w K mg base 1 "InvalidLamp" ["lamp"] := xmk1 E.xd_InvalidLamp E.xn_InvalidLamp_lamp rfl ⟨rfl, rfl, rfl, by decide +kernel, by decide +kernel, by decide +kernel, rfl, rfl, by intro x h; exact xfree h⟩ ⟨_, rfl, rfl⟩ (fun _ _ _ _ _ _ _ _ us hl => match us, hl with | [_, _], _ => rfl) (by decide) (by decide) (fun _ _ _ _ _ => rfl) (fun _ _ _ _ _ => rfl) (fun _ _ _ _ _ => rfl) (fun _ _ _ _ _ => rfl)
theorem sc_is_integer : FnScope ["value"] ["value"] (defScope (top 7)) := ⟨rfl, rfl, rfl, by decide +kernel, rfl, by decide +kernel, by decide +kernel⟩
theorem ok_is_integer (E : EnvF P K mg) : Cal CX0 P w K mg base 1 "is_integer" (spP (TyA.one tInt) (fun a => m_is_integer a) tBool) := by
  refine cal_mk (k := 0) E.d_is_integer sc_is_integer (fun vs H Q E h => by obtain ⟨S, F, a, r, ⟨_, rfl, _⟩, _⟩ := h; rfl) (fun _ _ _ _ _ _ us hl => match us, hl with | [_], _ => rfl) ?_
  rintro f cdv A outer s H vs Q EX hr ⟨S, F, value1, out, ⟨v0, rfl, h0⟩, W, hm, k⟩
  refine ⟨_, PSs.nox (pss_cons (ps_ret (pe_and (pe_callB (call_isiKK (K := K)) rfl (by exact E.g_isinstance) (by decide +kernel) (pa_cons (pv 0) (pa_cons (pe_bltn (v := .ty "int") (u := .type "int") rfl (by exact E.g_int) (by decide +kernel) rfl) pa_nil))) (pe_one (pe_not (pe_callB (call_isiKK (K := K)) rfl (by exact E.g_isinstance) (by decide +kernel) (pa_cons (pv 0) (pa_cons (pe_bltn (v := .ty "bool") (u := .type "bool") rfl (by exact E.g_bool) (by decide +kernel) rfl) pa_nil))))))) pss_nil), ?_⟩
  have hG : Okc [fS S, tInt.f value1 v0] S := ⟨Same.refl _, h0, True.intro⟩
  have W : Wd S (([] : Ow) ++ F) H := W
  show (_ : TS) _ ([some v0] : L2.St) H
  exact k_ret hG W hm (sim_andV (sim_isi isI_int_int (sim_var 1 rfl rfl)) (sim_notV (sim_isi isI_int_bool (sim_var 1 rfl rfl)))) (fun v S H hG W hr => k v S H (Okc.at 0 rfl hG) (W.pick [] rfl) hr)
theorem sc_is_lamp : FnScope ["house", "value"] ["house", "value"] (defScope (top 8)) := ⟨rfl, rfl, rfl, by decide +kernel, rfl, by decide +kernel, by decide +kernel⟩
theorem ok_is_lamp (E : EnvF P K mg) : Cal CX0 P w K mg base 2 "is_lamp" (spP (TyA.c (tHouse (He.ga K "House")) (TyA.one tInt)) (fun a => m_is_lamp a.1 a.2) tBool) := by
  refine cal_mk (k := 1) E.d_is_lamp sc_is_lamp (fun vs H Q E h => by obtain ⟨S, F, a, r, ⟨_, _, rfl, _, ⟨_, rfl, _⟩⟩, _⟩ := h; rfl) (fun _ _ _ _ _ _ us hl => match us, hl with | [_, _], _ => rfl) ?_
  rintro f cdv A outer s H vs Q EX hr ⟨S, F, ⟨house4, value5⟩, out, ⟨v0, _, rfl, h0, ⟨v1, rfl, h1⟩⟩, W, hm, k⟩
  refine ⟨_, PSs.nox (pss_cons (ps_ret (pe_and (pe_cal (ok_is_integer E) (by exact hr) (by first | decide | omega) (by rfl) pass0 (pa_cons (pv 1) pa_nil)) (pe_one (pe_chain op_le op_lt pe_int (pv 1) (pe_fldK (K := K) (pv 0)))))) pss_nil), ?_⟩
  have hG : Okc [fS S, (tHouse (He.ga K "House")).f house4 v0, tInt.f value5 v1] S := ⟨Same.refl _, h0, h1, True.intro⟩
  have W : Wd S (([] : Ow) ++ F) H := W
  show (_ : TS) _ ([some v0, some v1] : L2.St) H
  exact k_ret hG W hm (sim_andV (sim_call (simA_one (sim_var 2 rfl rfl))) (sim_chain (p := (fun a b => decide (a ≤ b))) (p' := (fun a b => decide (a < b))) sim_int (sim_var 2 rfl rfl) (sim_fld (house_fld E.cl_House (E.na_House_count) (fun _ _ _ h => h.count)) (sim_var 1 rfl rfl)))) (fun v S H hG W hr => k v S H (Okc.at 0 rfl hG) (W.pick [] rfl) hr)
theorem sc_bits : FnScope ["mask", "lamp"] ["mask"] (defScope (top 9)) := ⟨rfl, rfl, rfl, by decide +kernel, rfl, by decide +kernel, by decide +kernel⟩
theorem ok_bits (E : EnvF P K mg) : Cal CX0 P w K mg base 1 "bits" (spP (TyA.one tInt) (fun a => m_bits a) (tL tInt)) := by
  refine cal_mk (k := 0) E.d_bits sc_bits (fun vs H Q E h => by obtain ⟨S, F, a, r, ⟨_, rfl, _⟩, _⟩ := h; rfl) (fun _ _ _ _ _ _ us hl => match us, hl with | [_], _ => rfl) ?_
  rintro f cdv A outer s H vs Q EX hr ⟨S, F, mask12, out, ⟨v0, rfl, h0⟩, W, hm, k⟩
  refine ⟨_, PSs.nox (pss_cons (ps_ret (pe_lc (own := [("lamp", 1)]) rfl sc_bits.nd (pi_range1 rfl (by exact E.g_range) (pa_cons (pe_bits (pv 0)) pa_nil)) (blkOk_by (N := ["mask", "lamp"]) (sc := defScope (top 9)) (by decide +kernel)) (fun _ _ _ _ _ => (pg_name (i := 1) sc_bits.nd rfl (Or.inl rfl))) (fun _ _ _ _ _ => (pts_one (pt_cmpR op_eq (pe_op op_and (pe_op op_shr (pv 0) (pv 1)) pe_int) pe_int (nomark _)))) (fun _ _ _ _ _ => (pv 1)))) pss_nil), ?_⟩
  have hG : Okc [fS S, tInt.f mask12 v0] S := ⟨Same.refl _, h0, True.intro⟩
  have W : Wd S (([] : Ow) ++ F) H := W
  show (_ : TS) _ ([some v0, none] : L2.St) H
  exact k_ret hG W hm (SimF.sim (simF_lc (simI_range1 (sim_bitlen (sim_var 1 rfl rfl))) tg_name (fun _ => rfl) (List.nil_sublist _) (fun a w => (simT_test (sim_eqI (sim_and (sim_shr (sim_var 2 rfl rfl) (sim_var 0 rfl rfl)) sim_int) sim_int))) (fun a w => (sim_var 0 rfl rfl)))) (fun v S H hG W hr => k v S H (Okc.at 0 rfl hG) (W.pick [] rfl) hr)
theorem sc_below_masks : FnScope ["house"] ["house"] (defScope (top 10)) := ⟨rfl, rfl, rfl, by decide +kernel, rfl, by decide +kernel, by decide +kernel⟩
theorem ok_below_masks (E : EnvF P K mg) : Cal CX0 P w K mg base 1 "below_masks" (spP (TyA.one (tHouse (He.ga K "House"))) (fun a => m_below_masks a) (tL tInt)) := by
  refine cal_mk (k := 0) E.d_below_masks sc_below_masks (fun vs H Q E h => by obtain ⟨S, F, a, r, ⟨_, rfl, _⟩, _⟩ := h; rfl) (fun _ _ _ _ _ _ us hl => match us, hl with | [_], _ => rfl) ?_
  rintro f cdv A outer s H vs Q EX hr ⟨S, F, house23, out, ⟨v0, rfl, h0⟩, W, hm, k⟩
  refine ⟨_, PSs.nox (pss_cons (ps_ret (pe_fldK (K := K) (pv 0))) pss_nil), ?_⟩
  have hG : Okc [fS S, (tHouse (He.ga K "House")).f house23 v0] S := ⟨Same.refl _, h0, True.intro⟩
  have W : Wd S (([] : Ow) ++ F) H := W
  show (_ : TS) _ ([some v0] : L2.St) H
  exact k_ret hG W hm (sim_fld (house_fld E.cl_House (E.na_House__below_masks) (fun _ _ _ h => h.belowM)) (sim_var 1 rfl rfl)) (fun v S H hG W hr => k v S H (Okc.at 0 rfl hG) (W.pick [] rfl) hr)
theorem sc_above_masks : FnScope ["house"] ["house"] (defScope (top 11)) := ⟨rfl, rfl, rfl, by decide +kernel, rfl, by decide +kernel, by decide +kernel⟩
theorem ok_above_masks (E : EnvF P K mg) : Cal CX0 P w K mg base 1 "above_masks" (spP (TyA.one (tHouse (He.ga K "House"))) (fun a => m_above_masks a) (tL tInt)) := by
  refine cal_mk (k := 0) E.d_above_masks sc_above_masks (fun vs H Q E h => by obtain ⟨S, F, a, r, ⟨_, rfl, _⟩, _⟩ := h; rfl) (fun _ _ _ _ _ _ us hl => match us, hl with | [_], _ => rfl) ?_
  rintro f cdv A outer s H vs Q EX hr ⟨S, F, house25, out, ⟨v0, rfl, h0⟩, W, hm, k⟩
  refine ⟨_, PSs.nox (pss_cons (ps_ret (pe_fldK (K := K) (pv 0))) pss_nil), ?_⟩
  have hG : Okc [fS S, (tHouse (He.ga K "House")).f house25 v0] S := ⟨Same.refl _, h0, True.intro⟩
  have W : Wd S (([] : Ow) ++ F) H := W
  show (_ : TS) _ ([some v0] : L2.St) H
  exact k_ret hG W hm (sim_fld (house_fld E.cl_House (E.na_House__above_masks) (fun _ _ _ h => h.aboveM)) (sim_var 1 rfl rfl)) (fun v S H hG W hr => k v S H (Okc.at 0 rfl hG) (W.pick [] rfl) hr)
theorem sc__check_lamp : FnScope ["house", "value"] ["house", "value"] (defScope (top 12)) := ⟨rfl, rfl, rfl, by decide +kernel, rfl, by decide +kernel, by decide +kernel⟩
theorem ok__check_lamp (E : EnvF P K mg) : Cal CX0 P w K mg base 3 "_check_lamp" (spP (TyA.c (tHouse (He.ga K "House")) (TyA.one tInt)) (fun a => m__check_lamp a.1 a.2) tUnit) := by
  refine cal_mk (k := 2) E.d__check_lamp sc__check_lamp (fun vs H Q E h => by obtain ⟨S, F, a, r, ⟨_, _, rfl, _, ⟨_, rfl, _⟩⟩, _⟩ := h; rfl) (fun _ _ _ _ _ _ us hl => match us, hl with | [_, _], _ => rfl) ?_
  rintro f cdv A outer s H vs Q EX hr ⟨S, F, ⟨house27, value28⟩, out, ⟨v0, _, rfl, h0, ⟨v1, rfl, h1⟩⟩, W, hm, k⟩
  refine ⟨_, PSs.nox (pss_cons (ps_if (pt_not (pt_val (pe_cal (ok_is_lamp E) (by exact hr) (by first | decide | omega) (by rfl) pass0 (pa_cons (pv 0) (pa_cons (pv 1) pa_nil))))) (pss_cons ps_never pss_nil) pss_nil) pss_nil), ?_⟩
  have hG : Okc [fS S, (tHouse (He.ga K "House")).f house27 v0, tInt.f value28 v1] S := ⟨Same.refl _, h0, h1, True.intro⟩
  have W : Wd S (([] : Ow) ++ F) H := W
  show (_ : TS) _ ([some v0, some v1] : L2.St) H
  refine k_if hG W hm (simT_not (simT_B (sim_call (simA_c (sim_var 1 rfl rfl) (simA_one (sim_var 2 rfl rfl)))))) ?_ ?_
  · clear hG W hm
    intro S H hG W hm
    cases hm
  · clear hG W hm
    intro S H hG W hm
    refine y_next ?_
    cases hm
    exact k _ _ _ (Okc.at 0 rfl hG) (W.pick [] rfl) rfl
theorem sc__is_wire : FnScope ["count", "value", "upper", "lower"] ["count", "value"] (defScope (top 13)) := ⟨rfl, rfl, rfl, by decide +kernel, rfl, by decide +kernel, by decide +kernel⟩
theorem ok__is_wire (E : EnvF P K mg) : Cal CX0 P w K mg base 2 "_is_wire" (spP (TyA.c tInt (TyA.one (tP tInt tInt))) (fun a => m__is_wire a.1 a.2) tBool) := by
  refine cal_mk (k := 1) E.d__is_wire sc__is_wire (fun vs H Q E h => by obtain ⟨S, F, a, r, ⟨_, _, rfl, _, ⟨_, rfl, _⟩⟩, _⟩ := h; rfl) (fun _ _ _ _ _ _ us hl => match us, hl with | [_, _], _ => rfl) ?_
  rintro f cdv A outer s H vs Q EX hr ⟨S, F, ⟨count34, value35⟩, out, ⟨v0, _, rfl, h0, ⟨v1, rfl, h1⟩⟩, W, hm, k⟩
  refine ⟨_, PSs.nox (pss_cons (ps_if (PW.pt (pw_or (pt_not (pt_val (pe_callB (call_isiKK (K := K)) rfl (by exact E.g_isinstance) (by decide +kernel) (pa_cons (pv 1) (pa_cons (pe_bltn (v := .ty "tuple") (u := .type "tuple") rfl (by exact E.g_tuple) (by decide +kernel) rfl) pa_nil))))) (pw_or1 (pt_cmpR op_ne (pe_callB (call_lenK (K := K)) rfl (by exact E.g_len) boot_len (pa_cons (pv 1) pa_nil)) pe_int (nomark _))))) (pss_cons (ps_ret pe_bl) pss_nil) pss_nil) (pss_cons (ps_asg (pv 1) (pg_tupK (K := K) (n := 2) rfl (pgs_cons (pg_name (i := 2) sc__is_wire.nd rfl (Or.inl rfl)) (pgs_cons (pg_name (i := 3) sc__is_wire.nd rfl (Or.inl rfl)) pgs_nil)))) (pss_cons (ps_if (PW.pt (pw_or (pt_not (pt_val (pe_cal (ok_is_integer E) (by exact hr) (by first | decide | omega) (by rfl) pass0 (pa_cons (pv 2) pa_nil)))) (pw_or1 (pt_not (pt_val (pe_cal (ok_is_integer E) (by exact hr) (by first | decide | omega) (by rfl) pass0 (pa_cons (pv 3) pa_nil))))))) (pss_cons (ps_ret pe_bl) pss_nil) pss_nil) (pss_cons (ps_ret (pe_and (pe_chain op_le op_lt pe_int (pv 2) (pv 0)) (pe_and (pe_chain op_le op_lt pe_int (pv 3) (pv 0)) (pe_one (pe_cmpR op_ne (pv 2) (pv 3) (nomark _)))))) pss_nil)))), ?_⟩
  have hG : Okc [fS S, tInt.f count34 v0, (tP tInt tInt).f value35 v1] S := ⟨Same.refl _, h0, h1, True.intro⟩
  have W : Wd S (([] : Ow) ++ F) H := W
  show (_ : TS) _ ([some v0, some v1, none, none] : L2.St) H
  refine k_if hG W hm (simT_or (simT_not (simT_B (sim_isi isI_pair_tuple (sim_var 2 rfl rfl)))) (simT_test (sim_neI (sim_lenP (sim_var 2 rfl rfl)) sim_int))) ?_ ?_
  · clear hG W hm
    intro S H hG W hm
    exact k_ret hG W hm sim_bl (fun v S H hG W hr => k v S H (Okc.at 0 rfl hG) (W.pick [] rfl) hr)
  · clear hG W hm
    intro S H hG W hm
    refine y_next ?_
    refine k_unpair hG W hm (sim_var 2 rfl rfl) ?_
    clear hG W hm
    intro q42 v43 v44 S H hG W hm
    refine k_if hG W hm (simT_or (simT_not (simT_B (sim_call (simA_one (sim_var 0 rfl rfl))))) (simT_not (simT_B (sim_call (simA_one (sim_var 1 rfl rfl)))))) ?_ ?_
    · clear hG W hm
      intro S H hG W hm
      exact k_ret hG W hm sim_bl (fun v S H hG W hr => k v S H (Okc.at 2 rfl hG) (W.pick [] rfl) hr)
    · clear hG W hm
      intro S H hG W hm
      refine y_next ?_
      exact k_ret hG W hm (sim_andV (sim_chain (p := (fun a b => decide (a ≤ b))) (p' := (fun a b => decide (a < b))) sim_int (sim_var 0 rfl rfl) (sim_var 3 rfl rfl)) (sim_andV (sim_chain (p := (fun a b => decide (a ≤ b))) (p' := (fun a b => decide (a < b))) sim_int (sim_var 1 rfl rfl) (sim_var 3 rfl rfl)) (sim_neI (sim_var 0 rfl rfl) (sim_var 1 rfl rfl)))) (fun v S H hG W hr => k v S H (Okc.at 2 rfl hG) (W.pick [] rfl) hr)
theorem sc__join_wires : FnScope ["count", "wires", "wired", "below", "index", "wire", "upper", "lower", "gained", "lamp"] ["count", "wires"] (defScope (top 14)) := ⟨rfl, rfl, rfl, by decide +kernel, rfl, by decide +kernel, by decide +kernel⟩
theorem ok__join_wires (E : EnvF P K mg) : Cal CX0 P w K mg base 3 "_join_wires" (spP (TyA.c tInt (TyA.one (tL (tP tInt tInt)))) (fun a => m__join_wires a.1 a.2) (tL tInt)) := by
  refine cal_mk (k := 2) E.d__join_wires sc__join_wires (fun vs H Q E h => by obtain ⟨S, F, a, r, ⟨_, _, rfl, _, ⟨_, rfl, _⟩⟩, _⟩ := h; rfl) (fun _ _ _ _ _ _ us hl => match us, hl with | [_, _], _ => rfl) ?_
  rintro f cdv A outer s H vs Q EX hr ⟨S, F, ⟨count61, wires62⟩, out, ⟨v0, _, rfl, h0, ⟨v1, rfl, h1⟩⟩, W, hm, k⟩
  refine ⟨_, PSs.nox (pss_cons (ps_set (i := 2) sc__join_wires.nd rfl (Or.inl rfl) (pe_op op_rep (pe_lst (pa_cons pe_int pa_nil)) (pv 0))) (pss_cons (ps_set (i := 3) sc__join_wires.nd rfl (Or.inl rfl) (pe_op op_rep (pe_lst (pa_cons pe_int pa_nil)) (pv 0))) (pss_cons (ps_for PassesOwn.never rfl (pi_enumK (K := K) rfl (by exact E.g_enumerate) (pa_cons (pv 1) pa_nil)) (pg_tupK (K := K) (n := 2) rfl (pgs_cons (pg_name (i := 4) sc__join_wires.nd rfl (Or.inl rfl)) (pgs_cons (pg_name (i := 5) sc__join_wires.nd rfl (Or.inl rfl)) pgs_nil))) (pss_cons (ps_if (pt_not (pt_val (pe_cal (ok__is_wire E) (by exact hr) (by first | decide | omega) (by rfl) pass0 (pa_cons (pv 0) (pa_cons (pv 5) pa_nil))))) (pss_cons ps_never pss_nil) pss_nil) (pss_cons (ps_asg (pv 5) (pg_tupK (K := K) (n := 2) rfl (pgs_cons (pg_name (i := 6) sc__join_wires.nd rfl (Or.inl rfl)) (pgs_cons (pg_name (i := 7) sc__join_wires.nd rfl (Or.inl rfl)) pgs_nil)))) (pss_cons (ps_if (pt_cmpR op_eq (pe_op op_and (pe_op op_shr (pe_ix (ix_listK (K := K)) (pv 2) (pv 6) (by intro _ _; rfl)) (pv 7)) pe_int) pe_int (nomark _)) (pss_cons ps_never pss_nil) pss_nil) (pss_cons (ps_if (pt_cmpR op_eq (pe_op op_and (pe_op op_shr (pe_ix (ix_listK (K := K)) (pv 3) (pv 7) (by intro _ _; rfl)) (pv 6)) pe_int) pe_int (nomark _)) (pss_cons ps_never pss_nil) pss_nil) (pss_cons (ps_asg (pe_op op_or (pe_ix (ix_listK (K := K)) (pv 2) (pv 6) (by intro _ _; rfl)) (pe_op op_shl pe_int (pv 7))) (pg_sub (pv 2) (pv 6) set_list)) (pss_cons (ps_set (i := 8) sc__join_wires.nd rfl (Or.inl rfl) (pe_op op_or (pe_ix (ix_listK (K := K)) (pv 3) (pv 7) (by intro _ _; rfl)) (pe_op op_shl pe_int (pv 7)))) (pss_cons (ps_for PassesOwn.never rfl (pi_range1 rfl (by exact E.g_range) (pa_cons (pv 0) pa_nil)) (pg_name (i := 9) sc__join_wires.nd rfl (Or.inl rfl)) (pss_cons (ps_if (PW.pt (pw_or (pt_cmpR op_eq (pv 9) (pv 6) (nomark _)) (pw_or1 (pt_cmpR op_eq (pe_op op_and (pe_op op_shr (pe_ix (ix_listK (K := K)) (pv 3) (pv 9) (by intro _ _; rfl)) (pv 6)) pe_int) pe_int (nomark _))))) (pss_cons (ps_asg (pe_op op_or (pe_ix (ix_listK (K := K)) (pv 3) (pv 9) (by intro _ _; rfl)) (pv 8)) (pg_sub (pv 3) (pv 9) set_list)) pss_nil) pss_nil) pss_nil)) pss_nil)))))))) (pss_cons (ps_ret (pv 3)) pss_nil)))), ?_⟩
  have hG : Okc [fS S, tInt.f count61 v0, (tL (tP tInt tInt)).f wires62 v1] S := ⟨Same.refl _, h0, h1, True.intro⟩
  have W : Wd S (([] : Ow) ++ F) H := W
  show (_ : TS) _ ([some v0, some v1, none, none, none, none, none, none, none, none] : L2.St) H
  refine k_setO hG W hm (simF_rep (SimF.sim (simF_lst (simA_ln sim_int simA_ln0))) (sim_var 1 rfl rfl)) ?_
  clear hG W hm
  intro wired67 p69 c70 S H hG W hm
  refine k_setO hG W hm (simF_rep (SimF.sim (simF_lst (simA_ln sim_int simA_ln0))) (sim_var 2 rfl rfl)) ?_
  clear hG W hm
  intro below75 p77 c78 S H hG W hm
  refine k_fold (σJ := (fun (bx80 : (List Int) × (List Int)) (wx80 : List Cell × List Cell × Option V × Option V × Option V × Option V × Option V × Option V) => ([some v0, some v1, some (.ref p69), some (.ref p77), wx80.2.2.1, wx80.2.2.2.1, wx80.2.2.2.2.1, wx80.2.2.2.2.2.1, wx80.2.2.2.2.2.2.1, wx80.2.2.2.2.2.2.2] : L2.St))) (OJ := (fun (bx80 : (List Int) × (List Int)) (wx80 : List Cell × List Cell × Option V × Option V × Option V × Option V × Option V × Option V) => ([wx80.2.1, wx80.1] : Ow))) (Fb := (fun (bx80 : (List Int) × (List Int)) (wx80 : List Cell × List Cell × Option V × Option V × Option V × Option V × Option V × Option V) => ([(oL tInt).f bx80.1 p69 (wx80.1), (oL tInt).f bx80.2 p77 (wx80.2.1)] : List Fact))) (σT := (fun b w (tx80 : V × V) => (((fun (bx80 : (List Int) × (List Int)) (wx80 : List Cell × List Cell × Option V × Option V × Option V × Option V × Option V × Option V) => ([some v0, some v1, some (.ref p69), some (.ref p77), wx80.2.2.1, wx80.2.2.2.1, wx80.2.2.2.2.1, wx80.2.2.2.2.2.1, wx80.2.2.2.2.2.2.1, wx80.2.2.2.2.2.2.2] : L2.St)) b w).set 4 (some tx80.1)).set 5 (some tx80.2))) ((c70, c78, (none), (none), (none), (none), (none), (none)) : List Cell × List Cell × Option V × Option V × Option V × Option V × Option V × Option V) hG W hm (simI_enum (sim_var 4 rfl rfl)) (fun b w => tg_pair) (fun b w => List.nil_sublist _) rfl rfl (fun S h => (Okc.cons (Okc.at 1 rfl h) (Okc.cons (Okc.at 0 rfl h) h))) ?_ ?_
  · clear hG W hm
    intro S1 y81 bx80 b' wx80 tx80 S H hm hG W N hN
    refine k_if hG W hm (simT_not (simT_B (sim_call (simA_c (sim_var 8 rfl rfl) (simA_one (sim_var 1 rfl rfl)))))) ?_ ?_
    · clear hG W hm
      intro S H hG W hm
      cases hm
    · clear hG W hm
      intro S H hG W hm
      refine y_next ?_
      refine k_unpair hG W hm (sim_var 1 rfl rfl) ?_
      clear hG W hm
      intro q88 v89 v90 S H hG W hm
      refine k_if hG W hm (simT_test (sim_eqI (sim_and (sim_shr (sim_ix (sim_own 1 4 rfl rfl rfl) (sim_var 0 rfl rfl)) (sim_var 1 rfl rfl)) sim_int) sim_int)) ?_ ?_
      · clear hG W hm
        intro S H hG W hm
        cases hm
      · clear hG W hm
        intro S H hG W hm
        refine y_next ?_
        refine k_if hG W hm (simT_test (sim_eqI (sim_and (sim_shr (sim_ix (sim_own 0 5 rfl rfl rfl) (sim_var 1 rfl rfl)) (sim_var 0 rfl rfl)) sim_int) sim_int)) ?_ ?_
        · clear hG W hm
          intro S H hG W hm
          cases hm
        · clear hG W hm
          intro S H hG W hm
          refine y_next ?_
          refine k_put hG W hm 1 4 rfl rfl rfl (sim_or (sim_ix (sim_own 1 4 rfl rfl rfl) (sim_var 0 rfl rfl)) (sim_shl sim_int (sim_var 1 rfl rfl))) (sim_var 0 rfl rfl) ?_
          clear hG W hm
          intro wired117 c118 S H hG W hm
          refine k_set hG W hm (sim_or (sim_ix (sim_own 0 6 rfl rfl rfl) (sim_var 2 rfl rfl)) (sim_shl sim_int (sim_var 2 rfl rfl))) ?_
          clear hG W hm
          intro gained125 v126 S H hG W hm
          refine k_fold (σJ := (fun (bx128 : (List Int)) (wx128 : List Cell × Option V) => ([some v0, some v1, some (.ref p69), some (.ref p77), some (tx80.1), some (tx80.2), some (v89), some (v90), some (v126), wx128.2] : L2.St))) (OJ := (fun (bx128 : (List Int)) (wx128 : List Cell × Option V) => ([wx128.1, c118] : Ow))) (Fb := (fun (bx128 : (List Int)) (wx128 : List Cell × Option V) => ([(oL tInt).f bx128 p77 (wx128.1)] : List Fact))) (σT := (fun b w (tx128 : V) => ((fun (bx128 : (List Int)) (wx128 : List Cell × Option V) => ([some v0, some v1, some (.ref p69), some (.ref p77), some (tx80.1), some (tx80.2), some (v89), some (v90), some (v126), wx128.2] : L2.St)) b w).set 9 (some tx128))) ((wx80.2.1, (wx80.2.2.2.2.2.2.2)) : List Cell × Option V) hG W hm (simI_range1 (sim_var 12 rfl rfl)) (fun b w => tg_name) (fun b w => List.nil_sublist _) rfl rfl (fun S h => (Okc.cons (Okc.at 7 rfl h) h)) ?_ ?_
          · clear hG W hm
            intro S1 y129 bx128 b' wx128 tx128 S H hm hG W N hN
            refine k_if hG W hm (simT_or (simT_test (sim_eqI (sim_var 0 rfl rfl) (sim_var 5 rfl rfl))) (simT_test (sim_eqI (sim_and (sim_shr (sim_ix (sim_own 0 1 rfl rfl rfl) (sim_var 0 rfl rfl)) (sim_var 5 rfl rfl)) sim_int) sim_int))) ?_ ?_
            · clear hG W hm
              intro S H hG W hm
              refine k_put hG W hm 0 1 rfl rfl rfl (sim_or (sim_ix (sim_own 0 1 rfl rfl rfl) (sim_var 0 rfl rfl)) (sim_var 3 rfl rfl)) (sim_var 0 rfl rfl) ?_
              clear hG W hm
              intro below149 c150 S H hG W hm
              refine y_next ?_
              cases hm
              refine y_next ?_
              exact hN (c150, (some (tx128))) _ _ (Okc.cons (Okc.at 0 rfl hG) (Okc.dr 3 hG)) (W.pick [0, 0] rfl)
            · clear hG W hm
              intro S H hG W hm
              refine y_next ?_
              cases hm
              refine y_next ?_
              exact hN (wx128.1, (some (tx128))) _ _ (Okc.cons (Okc.at 1 rfl hG) (Okc.dr 2 hG)) (W.pick [0, 0] rfl)
          · clear hG W hm
            intro bx128 wx128 S H hm hG W
            cases hm
            refine y_next ?_
            exact hN (c118, wx128.1, (some (tx80.1)), (some (tx80.2)), (some (v89)), (some (v90)), (some (v126)), (wx128.2)) _ _ (Okc.cons (Okc.at 2 rfl hG) (Okc.cons (Okc.at 0 rfl hG) (Okc.dr 9 hG))) (W.pick [0, 0] rfl)
  · clear hG W hm
    intro bx80 wx80 S H hm hG W
    refine k_frz hG W frz_L 0 1 rfl rfl ?_
    clear hG W
    intro S hG W
    exact k_ret hG W hm (sim_var 0 rfl rfl) (fun v S H hG W hr => k v S H (Okc.at 5 rfl hG) (W.pick [] rfl) hr)
theorem sc__turn_round : FnScope ["below", "upper_masks", "upper", "mask", "lower"] ["below"] (defScope (top 15)) := ⟨rfl, rfl, rfl, by decide +kernel, rfl, by decide +kernel, by decide +kernel⟩
theorem ok__turn_round (E : EnvF P K mg) : Cal CX0 P w K mg base 2 "_turn_round" (spP (TyA.one (tL tInt)) (fun a => m__turn_round a) (tL tInt)) := by
  refine cal_mk (k := 1) E.d__turn_round sc__turn_round (fun vs H Q E h => by obtain ⟨S, F, a, r, ⟨_, rfl, _⟩, _⟩ := h; rfl) (fun _ _ _ _ _ _ us hl => match us, hl with | [_], _ => rfl) ?_
  rintro f cdv A outer s H vs Q EX hr ⟨S, F, below151, out, ⟨v0, rfl, h0⟩, W, hm, k⟩
  refine ⟨_, PSs.nox (pss_cons (ps_set (i := 1) sc__turn_round.nd rfl (Or.inl rfl) (pe_op op_rep (pe_lst (pa_cons pe_int pa_nil)) (pe_callB (call_lenK (K := K)) rfl (by exact E.g_len) boot_len (pa_cons (pv 0) pa_nil)))) (pss_cons (ps_for PassesOwn.never rfl (pi_enumK (K := K) rfl (by exact E.g_enumerate) (pa_cons (pv 0) pa_nil)) (pg_tupK (K := K) (n := 2) rfl (pgs_cons (pg_name (i := 2) sc__turn_round.nd rfl (Or.inl rfl)) (pgs_cons (pg_name (i := 3) sc__turn_round.nd rfl (Or.inl rfl)) pgs_nil))) (pss_cons (ps_for PassesOwn.never rfl (pi_listK (K := K) (pe_cal (ok_bits E) (by exact hr) (by first | decide | omega) (by rfl) pass0 (pa_cons (pv 3) pa_nil))) (pg_name (i := 4) sc__turn_round.nd rfl (Or.inl rfl)) (pss_cons (ps_asg (pe_op op_or (pe_ix (ix_listK (K := K)) (pv 1) (pv 4) (by intro _ _; rfl)) (pe_op op_shl pe_int (pv 2))) (pg_sub (pv 1) (pv 4) set_list)) pss_nil)) pss_nil)) (pss_cons (ps_ret (pv 1)) pss_nil))), ?_⟩
  have hG : Okc [fS S, (tL tInt).f below151 v0] S := ⟨Same.refl _, h0, True.intro⟩
  have W : Wd S (([] : Ow) ++ F) H := W
  show (_ : TS) _ ([some v0, none, none, none, none] : L2.St) H
  refine k_setO hG W hm (simF_rep (SimF.sim (simF_lst (simA_ln sim_int simA_ln0))) (sim_len (sim_var 1 rfl rfl))) ?_
  clear hG W hm
  intro upper_masks157 p159 c160 S H hG W hm
  refine k_fold (σJ := (fun (bx162 : (List Int)) (wx162 : List Cell × Option V × Option V × Option V) => ([some v0, some (.ref p159), wx162.2.1, wx162.2.2.1, wx162.2.2.2] : L2.St))) (OJ := (fun (bx162 : (List Int)) (wx162 : List Cell × Option V × Option V × Option V) => ([wx162.1] : Ow))) (Fb := (fun (bx162 : (List Int)) (wx162 : List Cell × Option V × Option V × Option V) => ([(oL tInt).f bx162 p159 (wx162.1)] : List Fact))) (σT := (fun b w (tx162 : V × V) => (((fun (bx162 : (List Int)) (wx162 : List Cell × Option V × Option V × Option V) => ([some v0, some (.ref p159), wx162.2.1, wx162.2.2.1, wx162.2.2.2] : L2.St)) b w).set 2 (some tx162.1)).set 3 (some tx162.2))) ((c160, (none), (none), (none)) : List Cell × Option V × Option V × Option V) hG W hm (simI_enum (sim_var 2 rfl rfl)) (fun b w => tg_pair) (fun b w => List.nil_sublist _) rfl rfl (fun S h => (Okc.cons (Okc.at 0 rfl h) h)) ?_ ?_
  · clear hG W hm
    intro S1 y163 bx162 b' wx162 tx162 S H hm hG W N hN
    refine k_fold (σJ := (fun (bx166 : (List Int)) (wx166 : List Cell × Option V) => ([some v0, some (.ref p159), some (tx162.1), some (tx162.2), wx166.2] : L2.St))) (OJ := (fun (bx166 : (List Int)) (wx166 : List Cell × Option V) => ([wx166.1] : Ow))) (Fb := (fun (bx166 : (List Int)) (wx166 : List Cell × Option V) => ([(oL tInt).f bx166 p159 (wx166.1)] : List Fact))) (σT := (fun b w (tx166 : V) => ((fun (bx166 : (List Int)) (wx166 : List Cell × Option V) => ([some v0, some (.ref p159), some (tx162.1), some (tx162.2), wx166.2] : L2.St)) b w).set 4 (some tx166))) ((wx162.1, (wx162.2.2.2)) : List Cell × Option V) hG W hm (simI_list (sim_call (simA_one (sim_var 1 rfl rfl)))) (fun b w => tg_name) (fun b w => List.nil_sublist _) rfl rfl (fun S h => (Okc.cons (Okc.at 2 rfl h) h)) ?_ ?_
    · clear hG W hm
      intro S1 y167 bx166 b' wx166 tx166 S H hm hG W N hN
      refine k_put hG W hm 0 1 rfl rfl rfl (sim_or (sim_ix (sim_own 0 1 rfl rfl rfl) (sim_var 0 rfl rfl)) (sim_shl sim_int (sim_var 3 rfl rfl))) (sim_var 0 rfl rfl) ?_
      clear hG W hm
      intro upper_masks177 c178 S H hG W hm
      cases hm
      refine y_next ?_
      exact hN (c178, (some (tx166))) _ _ (Okc.cons (Okc.at 0 rfl hG) (Okc.dr 3 hG)) (W.pick [0] rfl)
    · clear hG W hm
      intro bx166 wx166 S H hm hG W
      cases hm
      refine y_next ?_
      exact hN (wx166.1, (some (tx162.1)), (some (tx162.2)), (wx166.2)) _ _ (Okc.cons (Okc.at 0 rfl hG) (Okc.dr 4 hG)) (W.pick [0] rfl)
  · clear hG W hm
    intro bx162 wx162 S H hm hG W
    refine k_frz hG W frz_L 0 0 rfl rfl ?_
    clear hG W
    intro S hG W
    exact k_ret hG W hm (sim_var 0 rfl rfl) (fun v S H hG W hr => k v S H (Okc.at 3 rfl hG) (W.pick [] rfl) hr)
theorem sc__order_list : FnScope ["masks", "lamps", "listed", "ready", "following", "lamp", "mask"] ["masks"] (defScope (top 16)) := ⟨rfl, rfl, rfl, by decide +kernel, rfl, by decide +kernel, by decide +kernel⟩
theorem ok__order_list (E : EnvF P K mg) : Cal CX0 P w K mg base 1 "_order_list" (spP (TyA.one (tL tInt)) (fun a => m__order_list a) (tL tInt)) := by
  refine cal_mk (k := 0) E.d__order_list sc__order_list (fun vs H Q E h => by obtain ⟨S, F, a, r, ⟨_, rfl, _⟩, _⟩ := h; rfl) (fun _ _ _ _ _ _ us hl => match us, hl with | [_], _ => rfl) ?_
  rintro f cdv A outer s H vs Q EX hr ⟨S, F, masks179, out, ⟨v0, rfl, h0⟩, W, hm, k⟩
  refine ⟨_, PSs.nox (pss_cons (ps_set (i := 1) sc__order_list.nd rfl (Or.inl rfl) (pe_lst pa_nil)) (pss_cons (ps_set (i := 2) sc__order_list.nd rfl (Or.inr rfl) pe_int) (pss_cons (ps_while PassesOwn.never (pt_cmpR op_lt (pe_callB (call_lenK (K := K)) rfl (by exact E.g_len) boot_len (pa_cons (pv 1) pa_nil)) (pe_callB (call_lenK (K := K)) rfl (by exact E.g_len) boot_len (pa_cons (pv 0) pa_nil)) (nomark _)) (pss_cons (ps_setLc (i := 3) (own := [("lamp", 5), ("mask", 6)]) rfl sc__order_list.nd rfl rfl (sw_true rfl rfl rfl (by decide +kernel)) (pi_enumK (K := K) rfl (by exact E.g_enumerate) (pa_cons (pv 0) pa_nil)) (blkOk_by (N := ["masks", "lamps", "listed", "ready", "following", "lamp", "mask"]) (sc := defScope (top 16)) (by decide +kernel)) (fun _ _ _ _ _ => (pg_tupK (K := K) (n := 2) rfl (pgs_cons (pg_name (i := 5) sc__order_list.nd rfl (Or.inl rfl)) (pgs_cons (pg_name (i := 6) sc__order_list.nd rfl (Or.inl rfl)) pgs_nil)))) (fun _ _ _ _ _ => (pts_one (pt_cmpR op_eq (pe_op op_and (pv 6) (pv 2)) (pv 6) (nomark _)))) (fun _ _ _ _ _ => (pv 5))) (pss_cons (ps_setLc (i := 4) (own := [("lamp", 5)]) rfl sc__order_list.nd rfl rfl (sw_true rfl rfl rfl (by decide +kernel)) (pi_listK (K := K) (pv 3)) (blkOk_by (N := ["masks", "lamps", "listed", "ready", "following", "lamp", "mask"]) (sc := defScope (top 16)) (by decide +kernel)) (fun _ _ _ _ _ => (pg_name (i := 5) sc__order_list.nd rfl (Or.inl rfl))) (fun _ _ _ _ _ => (pts_one (pt_cmpR op_eq (pe_op op_and (pe_op op_shr (pv 2) (pv 5)) pe_int) pe_int (nomark _)))) (fun _ _ _ _ _ => (pv 5))) (pss_cons (ps_expr (pe_bmK (K := K) PySem.F.plainAttrs_list PySem.F.slot_list_append PySem.F.type_list_append mt_append (pv 1) (pa_cons (pe_ix (ix_listK (K := K)) (pv 4) pe_int (by intro _ _; rfl)) pa_nil))) (pss_cons (ps_set (i := 2) sc__order_list.nd rfl (Or.inr rfl) (pe_op op_or (pv 2) (pe_op op_shl pe_int (pe_ix (ix_listK (K := K)) (pv 4) pe_int (by intro _ _; rfl))))) pss_nil))))) (pss_cons (ps_ret (pv 1)) pss_nil)))), ?_⟩
  have hG : Okc [fS S, (tL tInt).f masks179 v0] S := ⟨Same.refl _, h0, True.intro⟩
  have W : Wd S (([] : Ow) ++ F) H := W
  show (_ : TS) _ ([some v0, none, none, none, none, none, none] : L2.St) H
  refine k_setO hG W hm (simF_lst (T := tInt) simA_ln0) ?_
  clear hG W hm
  intro lamps180 p182 c183 S H hG W hm
  refine k_set hG W hm sim_int ?_
  clear hG W hm
  intro listed184 v185 S H hG W hm
  refine k_while (σJ := (fun (bx186 : (List Int) × Int) (wx186 : List Cell × V × Option V × Option V) => ([some v0, some (.ref p182), some (wx186.2.1), wx186.2.2.1, wx186.2.2.2, none, none] : L2.St))) (OJ := (fun (bx186 : (List Int) × Int) (wx186 : List Cell × V × Option V × Option V) => ([wx186.1] : Ow))) (Fb := (fun (bx186 : (List Int) × Int) (wx186 : List Cell × V × Option V × Option V) => ([(oL tInt).f bx186.1 p182 (wx186.1), tInt.f bx186.2 (wx186.2.1)] : List Fact))) ((c183, v185, (none), (none)) : List Cell × V × Option V × Option V) hG W hm (fun b w => (simT_test (sim_lt (sim_len (sim_own 0 0 rfl rfl rfl)) (sim_len (sim_var 5 rfl rfl))))) rfl rfl (fun S h => (Okc.cons (Okc.at 1 rfl h) (Okc.cons (Okc.at 0 rfl h) h))) ?_ ?_
  · clear hG W hm
    intro bx186 b' wx186 S H hm hG W N hN
    refine k_set hG W hm (SimF.sim (simF_lc (simI_enum (sim_var 5 rfl rfl)) tg_pair (fun _ => rfl) (List.nil_sublist _) (fun a w => (simT_test (sim_eqI (sim_and (sim_var 1 rfl rfl) (sim_var 3 rfl rfl)) (sim_var 1 rfl rfl)))) (fun a w => (sim_var 0 rfl rfl)))) ?_
    clear hG W hm
    intro ready198 v199 S H hG W hm
    refine k_set hG W hm (SimF.sim (simF_lc (simI_list (sim_var 0 rfl rfl)) tg_name (fun _ => rfl) (List.nil_sublist _) (fun a w => (simT_test (sim_eqI (sim_and (sim_shr (sim_var 3 rfl rfl) (sim_var 0 rfl rfl)) sim_int) sim_int))) (fun a w => (sim_var 0 rfl rfl)))) ?_
    clear hG W hm
    intro following208 v209 S H hG W hm
    refine k_app hG W hm 0 2 rfl rfl rfl (sim_ix (sim_var 0 rfl rfl) sim_int) ?_
    clear hG W hm
    intro y212 c214 S H hG W hm
    revert hG hm; generalize (bx186.1 ++ [y212]) = lamps213; intro hG hm
    refine k_set hG W hm (sim_or (sim_var 4 rfl rfl) (sim_shl sim_int (sim_ix (sim_var 1 rfl rfl) sim_int))) ?_
    clear hG W hm
    intro listed221 v222 S H hG W hm
    cases hm
    refine y_next ?_
    exact hN (c214, v222, (some (v199)), (some (v209))) _ _ (Okc.cons (Okc.at 1 rfl hG) (Okc.cons (Okc.at 0 rfl hG) (Okc.dr 6 hG))) (W.pick [0] rfl)
  · clear hG W hm
    intro bx186 wx186 S H hm hG W
    refine k_frz hG W frz_L 0 0 rfl rfl ?_
    clear hG W
    intro S hG W
    exact k_ret hG W hm (sim_var 0 rfl rfl) (fun v S H hG W hr => k v S H (Okc.at 5 rfl hG) (W.pick [] rfl) hr)
theorem sc_House___init__ : FnScope ["self", "count", "hues", "wires", "upper", "lower", "mask", "_"] ["self", "count", "hues", "wires"] (defScope (inClass (top 17) 2)) := ⟨rfl, rfl, rfl, by decide +kernel, rfl, by decide +kernel, by decide +kernel⟩
theorem ok_House___init__ (E : EnvF P K mg) : Mak CX0 P w K mg base 4 "House" (He.ga K "House") (spI (TyA.c tInt (TyA.c tInt (TyA.one (tL (tP tInt tInt))))) (fun a => m_House___init__ a.1 a.2.1 a.2.2) (He.ga K "House") [("_below_masks" : Str), ("_above_masks" : Str), ("_below" : Str), ("_above" : Str), ("_order" : Str), ("count" : Str), ("hues" : Str), ("wires" : Str), ("_direct" : Str)] (TyA.c (tL tInt) (TyA.c (tL tInt) (TyA.c (tL (tL tInt)) (TyA.c (tL (tL tInt)) (TyA.c (tL tInt) (TyA.c tInt (TyA.c tInt (TyA.c (tT (tP tInt tInt)) (TyA.one (tL (tL tInt)))))))))))) := by
  refine mak_mk (k := 3) E.d_House___init__ sc_House___init__ (fun vs H Q E h => by obtain ⟨S, F, a, r, p, dx, ws, rfl, ⟨_, _, rfl, _, ⟨_, _, rfl, _, ⟨_, rfl, _⟩⟩⟩, _⟩ := h; rfl) ⟨fun kV doc pm an cdv ct us h0 hl => absurd h0 (by decide), fun T kV doc pm an cdv ct us its h0 hl hi => match us, its, hl, hi with | [_, _, _, _], [_], _, _ => ⟨_, rfl, rfl⟩⟩ ?_
  rintro f cdv A outer s H vs Q EX hr ⟨S, F, ⟨count224, hues225, wires226⟩, out, p0, dx0, ws, rfl, ⟨v1, _, rfl, h1, ⟨v2, _, rfl, h2, ⟨v3, rfl, h3⟩⟩⟩, W, hm, k⟩
  refine ⟨_, PSs.nox (pss_cons (ps_if (PW.pt (pw_or (pt_not (pt_val (pe_cal (ok_is_integer E) (by exact hr) (by first | decide | omega) (by rfl) pass0 (pa_cons (pv 1) pa_nil)))) (pw_or1 (pt_not (pt_chain op_le op_le pe_int (pv 1) (pe_cvalK (K := K) (C8.pe_gc rfl (by exact E.gc_House)))))))) (pss_cons ps_never pss_nil) pss_nil) (pss_cons (ps_if (PW.pt (pw_or (pt_not (pt_val (pe_cal (ok_is_integer E) (by exact hr) (by first | decide | omega) (by rfl) pass0 (pa_cons (pv 2) pa_nil)))) (pw_or1 (pt_not (pt_chain op_le op_le pe_int (pv 2) (pe_cvalK (K := K) (C8.pe_gc rfl (by exact E.gc_House)))))))) (pss_cons ps_never pss_nil) pss_nil) (pss_cons (ps_fldK (K := K) (pv 0) (pe_cal (ok__join_wires E) (by exact hr) (by first | decide | omega) (by rfl) pass0 (pa_cons (pv 1) (pa_cons (pv 3) pa_nil)))) (pss_cons (ps_fldK (K := K) (pv 0) (pe_cal (ok__turn_round E) (by exact hr) (by first | decide | omega) (by rfl) pass0 (pa_cons (pe_fldK (K := K) (pv 0)) pa_nil))) (pss_cons (ps_fldK (K := K) (pv 0) (pe_lc (own := [("mask", 6)]) rfl sc_House___init__.nd (pi_listK (K := K) (pe_fldK (K := K) (pv 0))) (blkOk_by (N := ["self", "count", "hues", "wires", "upper", "lower", "mask", "_"]) (sc := defScope (inClass (top 17) 2)) (by decide +kernel)) (fun _ _ _ _ _ => (pg_name (i := 6) sc_House___init__.nd rfl (Or.inl rfl))) (fun _ _ _ _ _ => pts_nil) (fun _ _ _ _ _ => (pe_cal (ok_bits E) (by exact hr) (by first | decide | omega) (by rfl) pass0 (pa_cons (pv 6) pa_nil))))) (pss_cons (ps_fldK (K := K) (pv 0) (pe_lc (own := [("mask", 6)]) rfl sc_House___init__.nd (pi_listK (K := K) (pe_fldK (K := K) (pv 0))) (blkOk_by (N := ["self", "count", "hues", "wires", "upper", "lower", "mask", "_"]) (sc := defScope (inClass (top 17) 2)) (by decide +kernel)) (fun _ _ _ _ _ => (pg_name (i := 6) sc_House___init__.nd rfl (Or.inl rfl))) (fun _ _ _ _ _ => pts_nil) (fun _ _ _ _ _ => (pe_cal (ok_bits E) (by exact hr) (by first | decide | omega) (by rfl) pass0 (pa_cons (pv 6) pa_nil))))) (pss_cons (ps_fldK (K := K) (pv 0) (pe_cal (ok__order_list E) (by exact hr) (by first | decide | omega) (by rfl) pass0 (pa_cons (pe_fldK (K := K) (pv 0)) pa_nil))) (pss_cons (ps_fldK (K := K) (pv 0) (pv 1)) (pss_cons (ps_fldK (K := K) (pv 0) (pv 2)) (pss_cons (ps_fldK (K := K) (pv 0) (pe_callTy (call_tupleK (K := K)) rfl (by exact E.g_tuple) (by decide +kernel) (pa_cons (pe_callB (cr_sortedPK (K := K)) rfl (by exact E.g_sorted) (by decide +kernel) (pa_cons (pv 3) pa_nil)) pa_nil))) (pss_cons (ps_fldK (K := K) (pv 0) (pe_lc (own := [("_", 7)]) rfl sc_House___init__.nd (pi_range1 rfl (by exact E.g_range) (pa_cons (pv 1) pa_nil)) (blkOk_by (N := ["self", "count", "hues", "wires", "upper", "lower", "mask", "_"]) (sc := defScope (inClass (top 17) 2)) (by decide +kernel)) (fun _ _ _ _ _ => (pg_name (i := 7) sc_House___init__.nd rfl (Or.inl rfl))) (fun _ _ _ _ _ => pts_nil) (fun _ _ _ _ _ => (pe_lst pa_nil)))) (pss_cons (ps_for PassesOwn.never rfl (pi_tupK (K := K) (pe_fldK (K := K) (pv 0))) (pg_tupK (K := K) (n := 2) rfl (pgs_cons (pg_name (i := 4) sc_House___init__.nd rfl (Or.inl rfl)) (pgs_cons (pg_name (i := 5) sc_House___init__.nd rfl (Or.inl rfl)) pgs_nil))) (pss_cons (ps_expr (pe_bmK (K := K) PySem.F.plainAttrs_list PySem.F.slot_list_append PySem.F.type_list_append mt_append (pe_ix (ix_listK (K := K)) (pe_fldK (K := K) (pv 0)) (pv 4) (by intro _ _; rfl)) (pa_cons (pv 5) pa_nil))) pss_nil)) pss_nil)))))))))))), ?_⟩
  have hG : Okc [fS S, (oIns (He.ga K "House") [] TyA.nil).f () p0 [(p0, .ins (He.ga K "House") dx0 []), (dx0, .own p0)], tInt.f count224 v1, tInt.f hues225 v2, (tL (tP tInt tInt)).f wires226 v3] S := ⟨Same.refl _, ⟨dx0, [], rfl, rfl, List.nodup_nil, rfl⟩, h1, h2, h3, True.intro⟩
  have W : Wd S ([[(p0, .ins (He.ga K "House") dx0 []), (dx0, .own p0)]] ++ F) H := W
  show (_ : TS) _ ([some (.ref p0), some v1, some v2, some v3, none, none, none, none] : L2.St) H
  refine k_if hG W hm (simT_or (simT_not (simT_B (sim_call (simA_one (sim_var 2 rfl rfl))))) (simT_not (simT_test (sim_chain (p := (fun a b => decide (a ≤ b))) (p' := (fun a b => decide (a ≤ b))) sim_int (sim_var 2 rfl rfl) (sim_cval E.cc_House_MOST_LAMPS))))) ?_ ?_
  · clear hG W hm
    intro S H hG W hm
    cases hm
  · clear hG W hm
    intro S H hG W hm
    refine y_next ?_
    refine k_if hG W hm (simT_or (simT_not (simT_B (sim_call (simA_one (sim_var 3 rfl rfl))))) (simT_not (simT_test (sim_chain (p := (fun a b => decide (a ≤ b))) (p' := (fun a b => decide (a ≤ b))) sim_int (sim_var 3 rfl rfl) (sim_cval E.cc_House_MOST_HUES))))) ?_ ?_
    · clear hG W hm
      intro S H hG W hm
      cases hm
    · clear hG W hm
      intro S H hG W hm
      refine y_next ?_
      refine k_fnew [("_below_masks" : Str)] (g := fun a x => x) (a := ()) (A' := (TyA.one (tL tInt))) hG W hm 0 1 rfl rfl rfl E.cl_House E.na_House__below_masks sn_nil rfl (by decide +kernel) (by decide) (sim_call (simA_c (sim_var 2 rfl rfl) (simA_one (sim_var 4 rfl rfl)))) ?_
      clear hG W hm
      intro y243 c245 S H hG W hm
      revert hG hm; generalize ((y243) : ((List Int))) = self244; intro hG hm
      refine k_fnew [("_below_masks" : Str), ("_above_masks" : Str)] (g := fun a x => (a, x)) (a := self244) (A' := (TyA.c (tL tInt) (TyA.one (tL tInt)))) hG W hm 0 0 rfl rfl rfl E.cl_House E.na_House__above_masks sn_one rfl (by decide +kernel) (by decide) (sim_call (simA_one (sim_ofld E.cl_House E.na_House__below_masks pj_one rfl (sim_own 0 0 rfl rfl rfl)))) ?_
      clear hG W hm
      intro y249 c251 S H hG W hm
      revert hG hm; generalize (((self244, y249)) : ((List Int) × (List Int))) = self250; intro hG hm
      refine k_fnew [("_below_masks" : Str), ("_above_masks" : Str), ("_below" : Str)] (g := fun a x => (a.1, (a.2, x))) (a := self250) (A' := (TyA.c (tL tInt) (TyA.c (tL tInt) (TyA.one (tL (tL tInt)))))) hG W hm 0 0 rfl rfl rfl E.cl_House E.na_House__below (sn_c sn_one) rfl (by decide +kernel) (by decide) (SimF.sim (simF_lc (simI_list (sim_ofld E.cl_House E.na_House__below_masks pj_0 rfl (sim_own 0 0 rfl rfl rfl))) tg_name (fun _ => rfl) (List.nil_sublist _) (fun a w => simT_yes) (fun a w => (sim_call (simA_one (sim_var 0 rfl rfl)))))) ?_
      clear hG W hm
      intro y254 c256 S H hG W hm
      revert hG hm; generalize (((self250.1, (self250.2, y254))) : ((List Int) × (List Int) × (List (List Int)))) = self255; intro hG hm
      refine k_fnew [("_below_masks" : Str), ("_above_masks" : Str), ("_below" : Str), ("_above" : Str)] (g := fun a x => (a.1, (a.2.1, (a.2.2, x)))) (a := self255) (A' := (TyA.c (tL tInt) (TyA.c (tL tInt) (TyA.c (tL (tL tInt)) (TyA.one (tL (tL tInt))))))) hG W hm 0 0 rfl rfl rfl E.cl_House E.na_House__above (sn_c (sn_c sn_one)) rfl (by decide +kernel) (by decide) (SimF.sim (simF_lc (simI_list (sim_ofld E.cl_House E.na_House__above_masks (pj_s pj_0) rfl (sim_own 0 0 rfl rfl rfl))) tg_name (fun _ => rfl) (List.nil_sublist _) (fun a w => simT_yes) (fun a w => (sim_call (simA_one (sim_var 0 rfl rfl)))))) ?_
      clear hG W hm
      intro y261 c263 S H hG W hm
      revert hG hm; generalize (((self255.1, (self255.2.1, (self255.2.2, y261)))) : ((List Int) × (List Int) × (List (List Int)) × (List (List Int)))) = self262; intro hG hm
      refine k_fnew [("_below_masks" : Str), ("_above_masks" : Str), ("_below" : Str), ("_above" : Str), ("_order" : Str)] (g := fun a x => (a.1, (a.2.1, (a.2.2.1, (a.2.2.2, x))))) (a := self262) (A' := (TyA.c (tL tInt) (TyA.c (tL tInt) (TyA.c (tL (tL tInt)) (TyA.c (tL (tL tInt)) (TyA.one (tL tInt))))))) hG W hm 0 0 rfl rfl rfl E.cl_House E.na_House__order (sn_c (sn_c (sn_c sn_one))) rfl (by decide +kernel) (by decide) (sim_call (simA_one (sim_ofld E.cl_House E.na_House__above_masks (pj_s pj_0) rfl (sim_own 0 0 rfl rfl rfl)))) ?_
      clear hG W hm
      intro y268 c270 S H hG W hm
      revert hG hm; generalize (((self262.1, (self262.2.1, (self262.2.2.1, (self262.2.2.2, y268))))) : ((List Int) × (List Int) × (List (List Int)) × (List (List Int)) × (List Int))) = self269; intro hG hm
      refine k_fnew [("_below_masks" : Str), ("_above_masks" : Str), ("_below" : Str), ("_above" : Str), ("_order" : Str), ("count" : Str)] (g := fun a x => (a.1, (a.2.1, (a.2.2.1, (a.2.2.2.1, (a.2.2.2.2, x)))))) (a := self269) (A' := (TyA.c (tL tInt) (TyA.c (tL tInt) (TyA.c (tL (tL tInt)) (TyA.c (tL (tL tInt)) (TyA.c (tL tInt) (TyA.one tInt))))))) hG W hm 0 0 rfl rfl rfl E.cl_House E.na_House_count (sn_c (sn_c (sn_c (sn_c sn_one)))) rfl (by decide +kernel) (by decide) (sim_var 7 rfl rfl) ?_
      clear hG W hm
      intro y273 c275 S H hG W hm
      revert hG hm; generalize (((self269.1, (self269.2.1, (self269.2.2.1, (self269.2.2.2.1, (self269.2.2.2.2, y273)))))) : ((List Int) × (List Int) × (List (List Int)) × (List (List Int)) × (List Int) × Int)) = self274; intro hG hm
      refine k_fnew [("_below_masks" : Str), ("_above_masks" : Str), ("_below" : Str), ("_above" : Str), ("_order" : Str), ("count" : Str), ("hues" : Str)] (g := fun a x => (a.1, (a.2.1, (a.2.2.1, (a.2.2.2.1, (a.2.2.2.2.1, (a.2.2.2.2.2, x))))))) (a := self274) (A' := (TyA.c (tL tInt) (TyA.c (tL tInt) (TyA.c (tL (tL tInt)) (TyA.c (tL (tL tInt)) (TyA.c (tL tInt) (TyA.c tInt (TyA.one tInt)))))))) hG W hm 0 0 rfl rfl rfl E.cl_House E.na_House_hues (sn_c (sn_c (sn_c (sn_c (sn_c sn_one))))) rfl (by decide +kernel) (by decide) (sim_var 9 rfl rfl) ?_
      clear hG W hm
      intro y276 c278 S H hG W hm
      revert hG hm; generalize (((self274.1, (self274.2.1, (self274.2.2.1, (self274.2.2.2.1, (self274.2.2.2.2.1, (self274.2.2.2.2.2, y276))))))) : ((List Int) × (List Int) × (List (List Int)) × (List (List Int)) × (List Int) × Int × Int)) = self277; intro hG hm
      refine k_fnew [("_below_masks" : Str), ("_above_masks" : Str), ("_below" : Str), ("_above" : Str), ("_order" : Str), ("count" : Str), ("hues" : Str), ("wires" : Str)] (g := fun a x => (a.1, (a.2.1, (a.2.2.1, (a.2.2.2.1, (a.2.2.2.2.1, (a.2.2.2.2.2.1, (a.2.2.2.2.2.2, x)))))))) (a := self277) (A' := (TyA.c (tL tInt) (TyA.c (tL tInt) (TyA.c (tL (tL tInt)) (TyA.c (tL (tL tInt)) (TyA.c (tL tInt) (TyA.c tInt (TyA.c tInt (TyA.one (tT (tP tInt tInt))))))))))) hG W hm 0 0 rfl rfl rfl E.cl_House E.na_House_wires (sn_c (sn_c (sn_c (sn_c (sn_c (sn_c sn_one)))))) rfl (by decide +kernel) (by decide) (sim_tuple (SimF.sim (simF_sortedP (sim_var 11 rfl rfl)))) ?_
      clear hG W hm
      intro y279 c281 S H hG W hm
      revert hG hm; generalize (((self277.1, (self277.2.1, (self277.2.2.1, (self277.2.2.2.1, (self277.2.2.2.2.1, (self277.2.2.2.2.2.1, (self277.2.2.2.2.2.2, y279)))))))) : ((List Int) × (List Int) × (List (List Int)) × (List (List Int)) × (List Int) × Int × Int × (List (Int × Int)))) = self280; intro hG hm
      refine k_fnewO [("_below_masks" : Str), ("_above_masks" : Str), ("_below" : Str), ("_above" : Str), ("_order" : Str), ("count" : Str), ("hues" : Str), ("wires" : Str), ("_direct" : Str)] (g := fun a x => (a.1, (a.2.1, (a.2.2.1, (a.2.2.2.1, (a.2.2.2.2.1, (a.2.2.2.2.2.1, (a.2.2.2.2.2.2.1, (a.2.2.2.2.2.2.2, x))))))))) (a := self280) (A' := fun q => (TyA.c (tL tInt) (TyA.c (tL tInt) (TyA.c (tL (tL tInt)) (TyA.c (tL (tL tInt)) (TyA.c (tL tInt) (TyA.c tInt (TyA.c tInt (TyA.c (tT (tP tInt tInt)) (TyA.one (tAt q))))))))))) hG W hm 0 0 rfl rfl rfl E.cl_House E.na_House__direct (fun q => (sn_c (sn_c (sn_c (sn_c (sn_c (sn_c (sn_c sn_one)))))))) rfl (by decide +kernel) (by decide) (simF_lcLL (simI_range1 (sim_var 10 rfl rfl)) tg_name (fun _ => rfl) (List.nil_sublist _) (fun a w => simT_yes) (fun a w => (simF_lst (T := tInt) simA_ln0))) ?_
      clear hG W hm
      intro y283 p289 c290 c285 S H hG W hm
      revert hG hm; generalize (((self280.1, (self280.2.1, (self280.2.2.1, (self280.2.2.2.1, (self280.2.2.2.2.1, (self280.2.2.2.2.2.1, (self280.2.2.2.2.2.2.1, (self280.2.2.2.2.2.2.2, ()))))))))) : ((List Int) × (List Int) × (List (List Int)) × (List (List Int)) × (List Int) × Int × Int × (List (Int × Int)) × Unit)) = self284; intro hG hm
      refine k_fold (σJ := (fun (bx292 : (List (List Int))) (wx292 : List Cell × Option V × Option V) => ([some (.ref p0), some v1, some v2, some v3, wx292.2.1, wx292.2.2, none, none] : L2.St))) (OJ := (fun (bx292 : (List (List Int))) (wx292 : List Cell × Option V × Option V) => ([wx292.1, c285] : Ow))) (Fb := (fun (bx292 : (List (List Int))) (wx292 : List Cell × Option V × Option V) => ([(oLL tInt).f bx292 p289 (wx292.1)] : List Fact))) (σT := (fun b w (tx292 : V × V) => (((fun (bx292 : (List (List Int))) (wx292 : List Cell × Option V × Option V) => ([some (.ref p0), some v1, some v2, some v3, wx292.2.1, wx292.2.2, none, none] : L2.St)) b w).set 4 (some tx292.1)).set 5 (some tx292.2))) ((c290, (none), (none)) : List Cell × Option V × Option V) hG W hm (simI_tup (sim_ofld E.cl_House E.na_House_wires (pj_s (pj_s (pj_s (pj_s (pj_s (pj_s (pj_s pj_0))))))) rfl (sim_own 1 1 rfl rfl rfl))) (fun b w => tg_pair) (fun b w => List.nil_sublist _) rfl rfl (fun S h => (Okc.cons (Okc.at 0 rfl h) h)) ?_ ?_
      · clear hG W hm
        intro S1 y293 bx292 b' wx292 tx292 S H hm hG W N hN
        refine k_app2 hG W hm 0 2 rfl rfl (sim_ofld E.cl_House E.na_House__direct (pj_s (pj_s (pj_s (pj_s (pj_s (pj_s (pj_s (pj_s pj_one)))))))) rfl (sim_own 1 5 rfl rfl rfl)) (sim_var 0 rfl rfl) (sim_var 1 rfl rfl) ?_
        clear hG W hm
        intro xss299 c300 S H hG W hm
        cases hm
        refine y_next ?_
        exact hN (c300, (some (tx292.1)), (some (tx292.2))) _ _ (Okc.cons (Okc.at 0 rfl hG) (Okc.dr 4 hG)) (W.pick [0, 0] rfl)
      · clear hG W hm
        intro bx292 wx292 S H hm hG W
        refine k_frz hG W frz_LL 0 0 rfl rfl ?_
        clear hG W
        intro S hG W
        refine k_cast hG 3 0 rfl rfl (ls_c (ls_c (ls_c (ls_c (ls_c (ls_c (ls_c (ls_c ls_one)))))))) ?_
        clear hG
        intro hG
        exact x_endI hm k (Okc.at 13 rfl hG) (W.pick [0] rfl) (Okc.at 0 rfl hG)
theorem sc_House_beneath : FnScope ["self", "lamp"] ["self", "lamp"] (defScope (inClass (top 17) 5)) := ⟨rfl, rfl, rfl, by decide +kernel, rfl, by decide +kernel, by decide +kernel⟩
theorem ok_House_beneath (E : EnvF P K mg) : Mtd CX0 P w K mg base 4 (He.ga K "House") "beneath" (spP (TyA.c (tHouse (He.ga K "House")) (TyA.one tInt)) (fun a => m_House_beneath a.1 a.2) (tL tInt)) := by
  refine mtd_mk (k := 3) E.d_House_beneath sc_House_beneath (fun vs H Q E h => by obtain ⟨S, F, a, r, ⟨_, _, rfl, _, ⟨_, rfl, _⟩⟩, _⟩ := h; rfl) (fun _ _ _ _ _ _ us hl => match us, hl with | [_, _], _ => rfl) ?_
  rintro f cdv A outer s H vs Q EX hr ⟨S, F, ⟨self301, lamp302⟩, out, ⟨v0, _, rfl, h0, ⟨v1, rfl, h1⟩⟩, W, hm, k⟩
  refine ⟨_, PSs.nox (pss_cons (ps_expr (pe_cal (ok__check_lamp E) (by exact hr) (by first | decide | omega) (by rfl) pass0 (pa_cons (pv 0) (pa_cons (pv 1) pa_nil)))) (pss_cons (ps_ret (pe_callTy (call_listK (K := K)) rfl (by exact E.g_list) (by decide +kernel) (pa_cons (pe_ix (ix_listK (K := K)) (pe_fldK (K := K) (pv 0)) (pv 1) (by intro _ _; rfl)) pa_nil))) pss_nil)), ?_⟩
  have hG : Okc [fS S, (tHouse (He.ga K "House")).f self301 v0, tInt.f lamp302 v1] S := ⟨Same.refl _, h0, h1, True.intro⟩
  have W : Wd S (([] : Ow) ++ F) H := W
  show (_ : TS) _ ([some v0, some v1] : L2.St) H
  refine k_drop hG W hm (sim_call (simA_c (sim_var 1 rfl rfl) (simA_one (sim_var 2 rfl rfl)))) ?_
  clear hG W hm
  intro z306 S H hG W hm
  exact k_ret hG W hm (SimF.sim (simF_list (sim_ix (sim_fld (house_fld E.cl_House (E.na_House__below) (fun _ _ _ h => h.below)) (sim_var 1 rfl rfl)) (sim_var 2 rfl rfl)))) (fun v S H hG W hr => k v S H (Okc.at 0 rfl hG) (W.pick [] rfl) hr)
theorem sc_House_order : FnScope ["self"] ["self"] (defScope (inClass (top 17) 10)) := ⟨rfl, rfl, rfl, by decide +kernel, rfl, by decide +kernel, by decide +kernel⟩
theorem ok_House_order (E : EnvF P K mg) : Mtd CX0 P w K mg base 1 (He.ga K "House") "order" (spP (TyA.one (tHouse (He.ga K "House"))) (fun a => m_House_order a) (tL tInt)) := by
  refine mtd_mk (k := 0) E.d_House_order sc_House_order (fun vs H Q E h => by obtain ⟨S, F, a, r, ⟨_, rfl, _⟩, _⟩ := h; rfl) (fun _ _ _ _ _ _ us hl => match us, hl with | [_], _ => rfl) ?_
  rintro f cdv A outer s H vs Q EX hr ⟨S, F, self310, out, ⟨v0, rfl, h0⟩, W, hm, k⟩
  refine ⟨_, PSs.nox (pss_cons (ps_ret (pe_callTy (call_listK (K := K)) rfl (by exact E.g_list) (by decide +kernel) (pa_cons (pe_fldK (K := K) (pv 0)) pa_nil))) pss_nil), ?_⟩
  have hG : Okc [fS S, (tHouse (He.ga K "House")).f self310 v0] S := ⟨Same.refl _, h0, True.intro⟩
  have W : Wd S (([] : Ow) ++ F) H := W
  show (_ : TS) _ ([some v0] : L2.St) H
  exact k_ret hG W hm (SimF.sim (simF_list (sim_fld (house_fld E.cl_House (E.na_House__order) (fun _ _ _ h => h.order)) (sim_var 1 rfl rfl)))) (fun v S H hG W hr => k v S H (Okc.at 0 rfl hG) (W.pick [] rfl) hr)
theorem sc_is_state : FnScope ["house", "value", "hue"] ["house", "value"] (defScope (top 19)) := ⟨rfl, rfl, rfl, by decide +kernel, rfl, by decide +kernel, by decide +kernel⟩
theorem ok_is_state (E : EnvF P K mg) : Cal CX0 P w K mg base 2 "is_state" (spP (TyA.c (tHouse (He.ga K "House")) (TyA.one (tT tInt))) (fun a => m_is_state a.1 a.2) tBool) := by
  refine cal_mk (k := 1) E.d_is_state sc_is_state (fun vs H Q E h => by obtain ⟨S, F, a, r, ⟨_, _, rfl, _, ⟨_, rfl, _⟩⟩, _⟩ := h; rfl) (fun _ _ _ _ _ _ us hl => match us, hl with | [_, _], _ => rfl) ?_
  rintro f cdv A outer s H vs Q EX hr ⟨S, F, ⟨house312, value313⟩, out, ⟨v0, _, rfl, h0, ⟨v1, rfl, h1⟩⟩, W, hm, k⟩
  refine ⟨_, PSs.nox (pss_cons (ps_if (PW.pt (pw_or (pt_not (pt_val (pe_callB (call_isiKK (K := K)) rfl (by exact E.g_isinstance) (by decide +kernel) (pa_cons (pv 1) (pa_cons (pe_bltn (v := .ty "tuple") (u := .type "tuple") rfl (by exact E.g_tuple) (by decide +kernel) rfl) pa_nil))))) (pw_or1 (pt_cmpR op_ne (pe_callB (call_lenK (K := K)) rfl (by exact E.g_len) boot_len (pa_cons (pv 1) pa_nil)) (pe_fldK (K := K) (pv 0)) (nomark _))))) (pss_cons (ps_ret pe_bl) pss_nil) pss_nil) (pss_cons (ps_ret (pe_callB (cr_allK (K := K)) rfl (by exact E.g_all) (by decide +kernel) (pa_cons (pe_lc (own := [("hue", 2)]) rfl sc_is_state.nd (pi_tupK (K := K) (pv 1)) (blkOk_by (N := ["house", "value", "hue"]) (sc := defScope (top 19)) (by decide +kernel)) (fun _ _ _ _ _ => (pg_name (i := 2) sc_is_state.nd rfl (Or.inl rfl))) (fun _ _ _ _ _ => pts_nil) (fun _ _ _ _ _ => (pe_and (pe_cal (ok_is_integer E) (by exact hr) (by first | decide | omega) (by rfl) pass0 (pa_cons (pv 2) pa_nil)) (pe_one (pe_chain op_le op_lt pe_int (pv 2) (pe_fldK (K := K) (pv 0))))))) pa_nil))) pss_nil)), ?_⟩
  have hG : Okc [fS S, (tHouse (He.ga K "House")).f house312 v0, (tT tInt).f value313 v1] S := ⟨Same.refl _, h0, h1, True.intro⟩
  have W : Wd S (([] : Ow) ++ F) H := W
  show (_ : TS) _ ([some v0, some v1, none] : L2.St) H
  refine k_if hG W hm (simT_or (simT_not (simT_B (sim_isi isI_tup_tuple (sim_var 2 rfl rfl)))) (simT_test (sim_neI (sim_lenT (sim_var 2 rfl rfl)) (sim_fld (house_fld E.cl_House (E.na_House_count) (fun _ _ _ h => h.count)) (sim_var 1 rfl rfl))))) ?_ ?_
  · clear hG W hm
    intro S H hG W hm
    exact k_ret hG W hm sim_bl (fun v S H hG W hr => k v S H (Okc.at 0 rfl hG) (W.pick [] rfl) hr)
  · clear hG W hm
    intro S H hG W hm
    refine y_next ?_
    exact k_ret hG W hm (sim_all (SimF.sim (simF_lc (simI_tup (sim_var 2 rfl rfl)) tg_name (fun _ => rfl) (List.nil_sublist _) (fun a w => simT_yes) (fun a w => (sim_andV (sim_call (simA_one (sim_var 0 rfl rfl))) (sim_chain (p := (fun a b => decide (a ≤ b))) (p' := (fun a b => decide (a < b))) sim_int (sim_var 0 rfl rfl) (sim_fld (house_fld E.cl_House (E.na_House_hues) (fun _ _ _ h => h.hues)) (sim_var 2 rfl rfl)))))))) (fun v S H hG W hr => k v S H (Okc.at 0 rfl hG) (W.pick [] rfl) hr)
theorem sc__check_state : FnScope ["house", "value"] ["house", "value"] (defScope (top 22)) := ⟨rfl, rfl, rfl, by decide +kernel, rfl, by decide +kernel, by decide +kernel⟩
theorem ok__check_state (E : EnvF P K mg) : Cal CX0 P w K mg base 3 "_check_state" (spP (TyA.c (tHouse (He.ga K "House")) (TyA.one (tT tInt))) (fun a => m__check_state a.1 a.2) tUnit) := by
  refine cal_mk (k := 2) E.d__check_state sc__check_state (fun vs H Q E h => by obtain ⟨S, F, a, r, ⟨_, _, rfl, _, ⟨_, rfl, _⟩⟩, _⟩ := h; rfl) (fun _ _ _ _ _ _ us hl => match us, hl with | [_, _], _ => rfl) ?_
  rintro f cdv A outer s H vs Q EX hr ⟨S, F, ⟨house330, value331⟩, out, ⟨v0, _, rfl, h0, ⟨v1, rfl, h1⟩⟩, W, hm, k⟩
  refine ⟨_, PSs.nox (pss_cons (ps_if (pt_not (pt_val (pe_cal (ok_is_state E) (by exact hr) (by first | decide | omega) (by rfl) pass0 (pa_cons (pv 0) (pa_cons (pv 1) pa_nil))))) (pss_cons ps_never pss_nil) pss_nil) pss_nil), ?_⟩
  have hG : Okc [fS S, (tHouse (He.ga K "House")).f house330 v0, (tT tInt).f value331 v1] S := ⟨Same.refl _, h0, h1, True.intro⟩
  have W : Wd S (([] : Ow) ++ F) H := W
  show (_ : TS) _ ([some v0, some v1] : L2.St) H
  refine k_if hG W hm (simT_not (simT_B (sim_call (simA_c (sim_var 1 rfl rfl) (simA_one (sim_var 2 rfl rfl)))))) ?_ ?_
  · clear hG W hm
    intro S H hG W hm
    cases hm
  · clear hG W hm
    intro S H hG W hm
    refine y_next ?_
    cases hm
    exact k _ _ _ (Okc.at 0 rfl hG) (W.pick [] rfl) rfl
theorem sc_lit_lamps : FnScope ["house", "state", "lamp", "hue"] ["house", "state"] (defScope (top 20)) := ⟨rfl, rfl, rfl, by decide +kernel, rfl, by decide +kernel, by decide +kernel⟩
theorem ok_lit_lamps (E : EnvF P K mg) : Cal CX0 P w K mg base 4 "lit_lamps" (spP (TyA.c (tHouse (He.ga K "House")) (TyA.one (tT tInt))) (fun a => m_lit_lamps a.1 a.2) (tL tInt)) := by
  refine cal_mk (k := 3) E.d_lit_lamps sc_lit_lamps (fun vs H Q E h => by obtain ⟨S, F, a, r, ⟨_, _, rfl, _, ⟨_, rfl, _⟩⟩, _⟩ := h; rfl) (fun _ _ _ _ _ _ us hl => match us, hl with | [_, _], _ => rfl) ?_
  rintro f cdv A outer s H vs Q EX hr ⟨S, F, ⟨house337, state338⟩, out, ⟨v0, _, rfl, h0, ⟨v1, rfl, h1⟩⟩, W, hm, k⟩
  refine ⟨_, PSs.nox (pss_cons (ps_expr (pe_cal (ok__check_state E) (by exact hr) (by first | decide | omega) (by rfl) pass0 (pa_cons (pv 0) (pa_cons (pv 1) pa_nil)))) (pss_cons (ps_ret (pe_lc (own := [("lamp", 2), ("hue", 3)]) rfl sc_lit_lamps.nd (pi_enumT (K := K) rfl (by exact E.g_enumerate) (pa_cons (pv 1) pa_nil)) (blkOk_by (N := ["house", "state", "lamp", "hue"]) (sc := defScope (top 20)) (by decide +kernel)) (fun _ _ _ _ _ => (pg_tupK (K := K) (n := 2) rfl (pgs_cons (pg_name (i := 2) sc_lit_lamps.nd rfl (Or.inl rfl)) (pgs_cons (pg_name (i := 3) sc_lit_lamps.nd rfl (Or.inl rfl)) pgs_nil)))) (fun _ _ _ _ _ => (pts_one (pt_cmpR op_gt (pv 3) pe_int (nomark _)))) (fun _ _ _ _ _ => (pv 2)))) pss_nil)), ?_⟩
  have hG : Okc [fS S, (tHouse (He.ga K "House")).f house337 v0, (tT tInt).f state338 v1] S := ⟨Same.refl _, h0, h1, True.intro⟩
  have W : Wd S (([] : Ow) ++ F) H := W
  show (_ : TS) _ ([some v0, some v1, none, none] : L2.St) H
  refine k_drop hG W hm (sim_call (simA_c (sim_var 1 rfl rfl) (simA_one (sim_var 2 rfl rfl)))) ?_
  clear hG W hm
  intro z342 S H hG W hm
  exact k_ret hG W hm (SimF.sim (simF_lc (simI_enumT (sim_var 2 rfl rfl)) tg_pair (fun _ => rfl) (List.nil_sublist _) (fun a w => (simT_test (sim_gt (sim_var 1 rfl rfl) sim_int))) (fun a w => (sim_var 0 rfl rfl)))) (fun v S H hG W hr => k v S H (Okc.at 0 rfl hG) (W.pick [] rfl) hr)
theorem sc_turned_down : FnScope ["hue", "hues"] ["hue", "hues"] (defScope (top 21)) := ⟨rfl, rfl, rfl, by decide +kernel, rfl, by decide +kernel, by decide +kernel⟩
theorem ok_turned_down (E : EnvF P K mg) : Cal CX0 P w K mg base 1 "turned_down" (spP (TyA.c tInt (TyA.one tInt)) (fun a => m_turned_down a.1 a.2) tInt) := by
  refine cal_mk (k := 0) E.d_turned_down sc_turned_down (fun vs H Q E h => by obtain ⟨S, F, a, r, ⟨_, _, rfl, _, ⟨_, rfl, _⟩⟩, _⟩ := h; rfl) (fun _ _ _ _ _ _ us hl => match us, hl with | [_, _], _ => rfl) ?_
  rintro f cdv A outer s H vs Q EX hr ⟨S, F, ⟨hue348, hues349⟩, out, ⟨v0, _, rfl, h0, ⟨v1, rfl, h1⟩⟩, W, hm, k⟩
  refine ⟨_, PSs.nox (pss_cons (ps_if (pt_cmpR op_gt (pv 0) pe_int (nomark _)) (pss_cons (ps_ret (pe_op op_sub (pv 0) pe_int)) pss_nil) pss_nil) (pss_cons (ps_ret (pe_op op_sub (pv 1) pe_int)) pss_nil)), ?_⟩
  have hG : Okc [fS S, tInt.f hue348 v0, tInt.f hues349 v1] S := ⟨Same.refl _, h0, h1, True.intro⟩
  have W : Wd S (([] : Ow) ++ F) H := W
  show (_ : TS) _ ([some v0, some v1] : L2.St) H
  refine k_if hG W hm (simT_test (sim_gt (sim_var 1 rfl rfl) sim_int)) ?_ ?_
  · clear hG W hm
    intro S H hG W hm
    exact k_ret hG W hm (sim_sub (sim_var 1 rfl rfl) sim_int) (fun v S H hG W hr => k v S H (Okc.at 0 rfl hG) (W.pick [] rfl) hr)
  · clear hG W hm
    intro S H hG W hm
    refine y_next ?_
    exact k_ret hG W hm (sim_sub (sim_var 2 rfl rfl) sim_int) (fun v S H hG W hr => k v S H (Okc.at 0 rfl hG) (W.pick [] rfl) hr)
theorem sc_need_lamp : FnScope ["house", "value"] ["house", "value"] (defScope (top 24)) := ⟨rfl, rfl, rfl, by decide +kernel, rfl, by decide +kernel, by decide +kernel⟩
theorem ok_need_lamp (E : EnvF P K mg) : Cal CX0 P w K mg base 3 "need_lamp" (spP (TyA.c (tHouse (He.ga K "House")) (TyA.one tInt)) (fun a => m_need_lamp a.1 a.2) tUnit) := by
  refine cal_mk (k := 2) E.d_need_lamp sc_need_lamp (fun vs H Q E h => by obtain ⟨S, F, a, r, ⟨_, _, rfl, _, ⟨_, rfl, _⟩⟩, _⟩ := h; rfl) (fun _ _ _ _ _ _ us hl => match us, hl with | [_, _], _ => rfl) ?_
  rintro f cdv A outer s H vs Q EX hr ⟨S, F, ⟨house357, value358⟩, out, ⟨v0, _, rfl, h0, ⟨v1, rfl, h1⟩⟩, W, hm, k⟩
  refine ⟨_, PSs.nox (pss_cons (ps_if (pt_not (pt_val (pe_cal (ok_is_lamp E) (by exact hr) (by first | decide | omega) (by rfl) pass0 (pa_cons (pv 0) (pa_cons (pv 1) pa_nil))))) (pss_cons ps_never pss_nil) pss_nil) pss_nil), ?_⟩
  have hG : Okc [fS S, (tHouse (He.ga K "House")).f house357 v0, tInt.f value358 v1] S := ⟨Same.refl _, h0, h1, True.intro⟩
  have W : Wd S (([] : Ow) ++ F) H := W
  show (_ : TS) _ ([some v0, some v1] : L2.St) H
  refine k_if hG W hm (simT_not (simT_B (sim_call (simA_c (sim_var 1 rfl rfl) (simA_one (sim_var 2 rfl rfl)))))) ?_ ?_
  · clear hG W hm
    intro S H hG W hm
    cases hm
  · clear hG W hm
    intro S H hG W hm
    refine y_next ?_
    cases hm
    exact k _ _ _ (Okc.at 0 rfl hG) (W.pick [] rfl) rfl
theorem sc_need_state : FnScope ["house", "value"] ["house", "value"] (defScope (top 25)) := ⟨rfl, rfl, rfl, by decide +kernel, rfl, by decide +kernel, by decide +kernel⟩
theorem ok_need_state (E : EnvF P K mg) : Cal CX0 P w K mg base 3 "need_state" (spP (TyA.c (tHouse (He.ga K "House")) (TyA.one (tT tInt))) (fun a => m_need_state a.1 a.2) tUnit) := by
  refine cal_mk (k := 2) E.d_need_state sc_need_state (fun vs H Q E h => by obtain ⟨S, F, a, r, ⟨_, _, rfl, _, ⟨_, rfl, _⟩⟩, _⟩ := h; rfl) (fun _ _ _ _ _ _ us hl => match us, hl with | [_, _], _ => rfl) ?_
  rintro f cdv A outer s H vs Q EX hr ⟨S, F, ⟨house364, value365⟩, out, ⟨v0, _, rfl, h0, ⟨v1, rfl, h1⟩⟩, W, hm, k⟩
  refine ⟨_, PSs.nox (pss_cons (ps_if (pt_not (pt_val (pe_cal (ok_is_state E) (by exact hr) (by first | decide | omega) (by rfl) pass0 (pa_cons (pv 0) (pa_cons (pv 1) pa_nil))))) (pss_cons ps_never pss_nil) pss_nil) pss_nil), ?_⟩
  have hG : Okc [fS S, (tHouse (He.ga K "House")).f house364 v0, (tT tInt).f value365 v1] S := ⟨Same.refl _, h0, h1, True.intro⟩
  have W : Wd S (([] : Ow) ++ F) H := W
  show (_ : TS) _ ([some v0, some v1] : L2.St) H
  refine k_if hG W hm (simT_not (simT_B (sim_call (simA_c (sim_var 1 rfl rfl) (simA_one (sim_var 2 rfl rfl)))))) ?_ ?_
  · clear hG W hm
    intro S H hG W hm
    cases hm
  · clear hG W hm
    intro S H hG W hm
    refine y_next ?_
    cases hm
    exact k _ _ _ (Okc.at 0 rfl hG) (W.pick [] rfl) rfl
theorem sc_lit_beneath : FnScope ["house", "state", "lamp", "lower"] ["house", "state", "lamp"] (defScope (top 27)) := ⟨rfl, rfl, rfl, by decide +kernel, rfl, by decide +kernel, by decide +kernel⟩
theorem ok_lit_beneath (E : EnvF P K mg) : Cal CX0 P w K mg base 2 "lit_beneath" (spP (TyA.c (tHouse (He.ga K "House")) (TyA.c (tT tInt) (TyA.one tInt))) (fun a => m_lit_beneath a.1 a.2.1 a.2.2) (tO tInt)) := by
  refine cal_mk (k := 1) E.d_lit_beneath sc_lit_beneath (fun vs H Q E h => by obtain ⟨S, F, a, r, ⟨_, _, rfl, _, ⟨_, _, rfl, _, ⟨_, rfl, _⟩⟩⟩, _⟩ := h; rfl) (fun _ _ _ _ _ _ us hl => match us, hl with | [_, _, _], _ => rfl) ?_
  rintro f cdv A outer s H vs Q EX hr ⟨S, F, ⟨house371, state372, lamp373⟩, out, ⟨v0, _, rfl, h0, ⟨v1, _, rfl, h1, ⟨v2, rfl, h2⟩⟩⟩, W, hm, k⟩
  refine ⟨_, PSs.nox (pss_cons (ps_for PassesOwn.never rfl (pi_listK (K := K) (pe_cal (ok_bits E) (by exact hr) (by first | decide | omega) (by rfl) pass0 (pa_cons (pe_ix (ix_listK (K := K)) (pe_cal (ok_below_masks E) (by exact hr) (by first | decide | omega) (by rfl) pass0 (pa_cons (pv 0) pa_nil)) (pv 2) (by intro _ _; rfl)) pa_nil))) (pg_name (i := 3) sc_lit_beneath.nd rfl (Or.inl rfl)) (pss_cons (ps_if (pt_cmpR op_gt (pe_ix (ix_tupK (K := K)) (pv 1) (pv 3) (by intro _ _; rfl)) pe_int (nomark _)) (pss_cons (ps_ret (pv 3)) pss_nil) pss_nil) pss_nil)) (pss_cons (ps_ret pe_non) pss_nil)), ?_⟩
  have hG : Okc [fS S, (tHouse (He.ga K "House")).f house371 v0, (tT tInt).f state372 v1, tInt.f lamp373 v2] S := ⟨Same.refl _, h0, h1, h2, True.intro⟩
  have W : Wd S (([] : Ow) ++ F) H := W
  show (_ : TS) _ ([some v0, some v1, some v2, none] : L2.St) H
  refine k_forK (σJ := (fun (bx378 : Unit) (wx378 : Option V) => ([some v0, some v1, some v2, wx378] : L2.St))) (OJ := (fun (bx378 : Unit) (wx378 : Option V) => ([] : Ow))) (Fb := (fun (bx378 : Unit) (wx378 : Option V) => ([] : List Fact))) (σT := (fun b w (tx378 : V) => ((fun (bx378 : Unit) (wx378 : Option V) => ([some v0, some v1, some v2, wx378] : L2.St)) b w).set 3 (some tx378))) ((none) : Option V) hG W hm (simI_list (sim_call (simA_one (sim_ix (sim_call (simA_one (sim_var 1 rfl rfl))) (sim_var 3 rfl rfl))))) (fun b w => tg_name) (fun b w => List.nil_sublist _) rfl rfl (fun S h => h) ?_ ?_
  · clear hG W hm
    intro S1 y379 bx378 wx378 tx378 S H k381 hm hG W Nx378 hNx378 hBx378
    refine k_if hG W hm (simT_test (sim_gt (sim_ixT (sim_var 4 rfl rfl) (sim_var 0 rfl rfl)) sim_int)) ?_ ?_
    · clear hG W hm
      intro S H hG W hm
      exact k_ret hG W hm (sim_some nn_int (sim_var 0 rfl rfl)) (fun v S H hG W hr => k v S H (Okc.at 2 rfl hG) (W.pick [] rfl) hr)
    · clear hG W hm
      intro S H hG W hm
      refine y_next ?_
      refine y_next ?_
      exact hNx378 _ (some (tx378)) _ _ hm (Okc.dr 1 hG) (W.pick [] rfl)
  · clear hG W hm
    intro bx378 wx378 S H hm hG W
    exact k_ret hG W hm sim_nonO (fun v S H hG W hr => k v S H (Okc.at 0 rfl hG) (W.pick [] rfl) hr)
theorem sc_moved : FnScope ["house", "state", "lamp", "hues", "result", "lower"] ["house", "state", "lamp"] (defScope (top 28)) := ⟨rfl, rfl, rfl, by decide +kernel, rfl, by decide +kernel, by decide +kernel⟩
theorem ok_moved (E : EnvF P K mg) : Cal CX0 P w K mg base 2 "moved" (spP (TyA.c (tHouse (He.ga K "House")) (TyA.c (tT tInt) (TyA.one tInt))) (fun a => m_moved a.1 a.2.1 a.2.2) (tT tInt)) := by
  refine cal_mk (k := 1) E.d_moved sc_moved (fun vs H Q E h => by obtain ⟨S, F, a, r, ⟨_, _, rfl, _, ⟨_, _, rfl, _, ⟨_, rfl, _⟩⟩⟩, _⟩ := h; rfl) (fun _ _ _ _ _ _ us hl => match us, hl with | [_, _, _], _ => rfl) ?_
  rintro f cdv A outer s H vs Q EX hr ⟨S, F, ⟨house388, state389, lamp390⟩, out, ⟨v0, _, rfl, h0, ⟨v1, _, rfl, h1, ⟨v2, rfl, h2⟩⟩⟩, W, hm, k⟩
  refine ⟨_, PSs.nox (pss_cons (ps_set (i := 3) sc_moved.nd rfl (Or.inl rfl) (pe_fldK (K := K) (pv 0))) (pss_cons (ps_set (i := 4) sc_moved.nd rfl (Or.inl rfl) (pe_callTy (call_listK (K := K)) rfl (by exact E.g_list) (by decide +kernel) (pa_cons (pv 1) pa_nil))) (pss_cons (ps_asg (pe_op op_sub (pe_ix (ix_tupK (K := K)) (pv 1) (pv 2) (by intro _ _; rfl)) pe_int) (pg_sub (pv 4) (pv 2) set_list)) (pss_cons (ps_for PassesOwn.never rfl (pi_listK (K := K) (pe_cal (ok_bits E) (by exact hr) (by first | decide | omega) (by rfl) pass0 (pa_cons (pe_ix (ix_listK (K := K)) (pe_cal (ok_below_masks E) (by exact hr) (by first | decide | omega) (by rfl) pass0 (pa_cons (pv 0) pa_nil)) (pv 2) (by intro _ _; rfl)) pa_nil))) (pg_name (i := 5) sc_moved.nd rfl (Or.inl rfl)) (pss_cons (ps_asg (pe_cal (ok_turned_down E) (by exact hr) (by first | decide | omega) (by rfl) pass0 (pa_cons (pe_ix (ix_tupK (K := K)) (pv 1) (pv 5) (by intro _ _; rfl)) (pa_cons (pv 3) pa_nil))) (pg_sub (pv 4) (pv 5) set_list)) pss_nil)) (pss_cons (ps_ret (pe_callTy (call_tupleK (K := K)) rfl (by exact E.g_tuple) (by decide +kernel) (pa_cons (pv 4) pa_nil))) pss_nil))))), ?_⟩
  have hG : Okc [fS S, (tHouse (He.ga K "House")).f house388 v0, (tT tInt).f state389 v1, tInt.f lamp390 v2] S := ⟨Same.refl _, h0, h1, h2, True.intro⟩
  have W : Wd S (([] : Ow) ++ F) H := W
  show (_ : TS) _ ([some v0, some v1, some v2, none, none, none] : L2.St) H
  refine k_set hG W hm (sim_fld (house_fld E.cl_House (E.na_House_hues) (fun _ _ _ h => h.hues)) (sim_var 1 rfl rfl)) ?_
  clear hG W hm
  intro hues392 v393 S H hG W hm
  refine k_setO hG W hm (simF_listT (sim_var 3 rfl rfl)) ?_
  clear hG W hm
  intro result394 p396 c397 S H hG W hm
  refine k_put hG W hm 0 0 rfl rfl rfl (sim_sub (sim_ixT (sim_var 4 rfl rfl) (sim_var 5 rfl rfl)) sim_int) (sim_var 5 rfl rfl) ?_
  clear hG W hm
  intro result404 c405 S H hG W hm
  refine k_fold (σJ := (fun (bx410 : (List Int)) (wx410 : List Cell × Option V) => ([some v0, some v1, some v2, some (v393), some (.ref p396), wx410.2] : L2.St))) (OJ := (fun (bx410 : (List Int)) (wx410 : List Cell × Option V) => ([wx410.1] : Ow))) (Fb := (fun (bx410 : (List Int)) (wx410 : List Cell × Option V) => ([(oL tInt).f bx410 p396 (wx410.1)] : List Fact))) (σT := (fun b w (tx410 : V) => ((fun (bx410 : (List Int)) (wx410 : List Cell × Option V) => ([some v0, some v1, some v2, some (v393), some (.ref p396), wx410.2] : L2.St)) b w).set 5 (some tx410))) ((c405, (none)) : List Cell × Option V) hG W hm (simI_list (sim_call (simA_one (sim_ix (sim_call (simA_one (sim_var 4 rfl rfl))) (sim_var 6 rfl rfl))))) (fun b w => tg_name) (fun b w => List.nil_sublist _) rfl rfl (fun S h => (Okc.cons (Okc.at 0 rfl h) h)) ?_ ?_
  · clear hG W hm
    intro S1 y411 bx410 b' wx410 tx410 S H hm hG W N hN
    refine k_put hG W hm 0 1 rfl rfl rfl (sim_call (simA_c (sim_ixT (sim_var 8 rfl rfl) (sim_var 0 rfl rfl)) (simA_one (sim_var 5 rfl rfl)))) (sim_var 0 rfl rfl) ?_
    clear hG W hm
    intro result420 c421 S H hG W hm
    cases hm
    refine y_next ?_
    exact hN (c421, (some (tx410))) _ _ (Okc.cons (Okc.at 0 rfl hG) (Okc.dr 3 hG)) (W.pick [0] rfl)
  · clear hG W hm
    intro bx410 wx410 S H hm hG W
    exact k_ret hG W hm (sim_tuple (sim_own 0 0 rfl rfl rfl)) (fun v S H hG W hr => k v S H (Okc.at 4 rfl hG) (W.pick [] rfl) hr)
theorem sc_can_move : FnScope ["house", "state", "lamp", "careful"] ["house", "state", "lamp", "careful"] (defScope (top 29)) := ⟨rfl, rfl, rfl, by decide +kernel, rfl, by decide +kernel, by decide +kernel⟩
theorem ok_can_move (E : EnvF P K mg) : Cal CX0 P w K mg base 3 "can_move" (spP (TyA.c (tHouse (He.ga K "House")) (TyA.c (tT tInt) (TyA.c tInt (TyA.one tBool)))) (fun a => m_can_move a.1 a.2.1 a.2.2.1 a.2.2.2) tBool) := by
  refine cal_mk (k := 2) E.d_can_move sc_can_move (fun vs H Q E h => by obtain ⟨S, F, a, r, ⟨_, _, rfl, _, ⟨_, _, rfl, _, ⟨_, _, rfl, _, ⟨_, rfl, _⟩⟩⟩⟩, _⟩ := h; rfl) (fun _ _ _ _ _ _ us hl => match us, hl with | [_, _, _, _], _ => rfl) ?_
  rintro f cdv A outer s H vs Q EX hr ⟨S, F, ⟨house422, state423, lamp424, careful425⟩, out, ⟨v0, _, rfl, h0, ⟨v1, _, rfl, h1, ⟨v2, _, rfl, h2, ⟨v3, rfl, h3⟩⟩⟩⟩, W, hm, k⟩
  refine ⟨_, PSs.nox (pss_cons (ps_if (pt_cmpR op_eq (pe_ix (ix_tupK (K := K)) (pv 1) (pv 2) (by intro _ _; rfl)) pe_int (nomark _)) (pss_cons (ps_ret pe_bl) pss_nil) pss_nil) (pss_cons (ps_ret (pe_or (pe_not (pv 3)) (pe_one (pe_cmpR op_isN (pe_cal (ok_lit_beneath E) (by exact hr) (by first | decide | omega) (by rfl) pass0 (pa_cons (pv 0) (pa_cons (pv 1) (pa_cons (pv 2) pa_nil)))) pe_non (nomark _))))) pss_nil)), ?_⟩
  have hG : Okc [fS S, (tHouse (He.ga K "House")).f house422 v0, (tT tInt).f state423 v1, tInt.f lamp424 v2, tBool.f careful425 v3] S := ⟨Same.refl _, h0, h1, h2, h3, True.intro⟩
  have W : Wd S (([] : Ow) ++ F) H := W
  show (_ : TS) _ ([some v0, some v1, some v2, some v3] : L2.St) H
  refine k_if hG W hm (simT_test (sim_eqI (sim_ixT (sim_var 2 rfl rfl) (sim_var 3 rfl rfl)) sim_int)) ?_ ?_
  · clear hG W hm
    intro S H hG W hm
    exact k_ret hG W hm sim_bl (fun v S H hG W hr => k v S H (Okc.at 0 rfl hG) (W.pick [] rfl) hr)
  · clear hG W hm
    intro S H hG W hm
    refine y_next ?_
    exact k_ret hG W hm (sim_orV (sim_notV (sim_var 4 rfl rfl)) (sim_isN (sim_call (simA_c (sim_var 1 rfl rfl) (simA_c (sim_var 2 rfl rfl) (simA_one (sim_var 3 rfl rfl))))) sim_non)) (fun v S H hG W hr => k v S H (Okc.at 0 rfl hG) (W.pick [] rfl) hr)
theorem sc_is_allowed : FnScope ["house", "state", "lamp", "careful"] ["house", "state", "lamp", "careful"] (defScope (top 30)) := ⟨rfl, rfl, rfl, by decide +kernel, rfl, by decide +kernel, by decide +kernel⟩
theorem ok_is_allowed (E : EnvF P K mg) : KCal CX0 P w K mg base 4 "is_allowed" (spP (TyA.c (tHouse (He.ga K "House")) (TyA.c (tT tInt) (TyA.c tInt (TyA.one tBool)))) (fun a => m_is_allowed a.1 a.2.1 a.2.2.1 a.2.2.2) tBool) 3 [("careful", .bl false)] := by
  refine kcal_mk (k := 3) E.d_is_allowed sc_is_allowed (fun vs H Q E h => by obtain ⟨S, F, a, r, ⟨_, _, rfl, _, ⟨_, _, rfl, _, ⟨_, _, rfl, _, ⟨_, rfl, _⟩⟩⟩⟩, _⟩ := h; rfl) (by decide) (by decide) (fun D doc pm an cdv ct us ks h1 h2 => match us, ks, h1, h2 with | [_, _, _], [_], _, _ => ⟨_, _, _, _, _, _, rfl, rfl, rfl⟩) (fun D doc pm an cdv ct us ws h1 h2 => match us, ws, h1, h2 with | [_, _, _], [_], _, _ => rfl) ?_
  rintro f cdv A outer s H vs Q EX hr ⟨S, F, ⟨house440, state441, lamp442, careful443⟩, out, ⟨v0, _, rfl, h0, ⟨v1, _, rfl, h1, ⟨v2, _, rfl, h2, ⟨v3, rfl, h3⟩⟩⟩⟩, W, hm, k⟩
  refine ⟨_, PSs.nox (pss_cons (ps_expr (pe_cal (ok_need_state E) (by exact hr) (by first | decide | omega) (by rfl) pass0 (pa_cons (pv 0) (pa_cons (pv 1) pa_nil)))) (pss_cons (ps_expr (pe_cal (ok_need_lamp E) (by exact hr) (by first | decide | omega) (by rfl) pass0 (pa_cons (pv 0) (pa_cons (pv 2) pa_nil)))) (pss_cons (ps_ret (pe_cal (ok_can_move E) (by exact hr) (by first | decide | omega) (by rfl) pass0 (pa_cons (pv 0) (pa_cons (pv 1) (pa_cons (pv 2) (pa_cons (pv 3) pa_nil)))))) pss_nil))), ?_⟩
  have hG : Okc [fS S, (tHouse (He.ga K "House")).f house440 v0, (tT tInt).f state441 v1, tInt.f lamp442 v2, tBool.f careful443 v3] S := ⟨Same.refl _, h0, h1, h2, h3, True.intro⟩
  have W : Wd S (([] : Ow) ++ F) H := W
  show (_ : TS) _ ([some v0, some v1, some v2, some v3] : L2.St) H
  refine k_drop hG W hm (sim_call (simA_c (sim_var 1 rfl rfl) (simA_one (sim_var 2 rfl rfl)))) ?_
  clear hG W hm
  intro z447 S H hG W hm
  refine k_drop hG W hm (sim_call (simA_c (sim_var 1 rfl rfl) (simA_one (sim_var 3 rfl rfl)))) ?_
  clear hG W hm
  intro z451 S H hG W hm
  exact k_ret hG W hm (sim_call (simA_c (sim_var 1 rfl rfl) (simA_c (sim_var 2 rfl rfl) (simA_c (sim_var 3 rfl rfl) (simA_one (sim_var 4 rfl rfl)))))) (fun v S H hG W hr => k v S H (Okc.at 0 rfl hG) (W.pick [] rfl) hr)
theorem sc_allowed_lamps : FnScope ["house", "state", "careful", "lamp"] ["house", "state", "careful"] (defScope (top 31)) := ⟨rfl, rfl, rfl, by decide +kernel, rfl, by decide +kernel, by decide +kernel⟩
theorem ok_allowed_lamps (E : EnvF P K mg) : KCal CX0 P w K mg base 4 "allowed_lamps" (spF (TyA.c (tHouse (He.ga K "House")) (TyA.c (tT tInt) (TyA.one tBool))) (fun a => m_allowed_lamps a.1 a.2.1 a.2.2) (oL tInt)) 2 [("careful", .bl false)] := by
  refine kcal_mk (k := 3) E.d_allowed_lamps sc_allowed_lamps (fun vs H Q E h => by obtain ⟨S, F, a, r, ⟨_, _, rfl, _, ⟨_, _, rfl, _, ⟨_, rfl, _⟩⟩⟩, _⟩ := h; rfl) (by decide) (by decide) (fun D doc pm an cdv ct us ks h1 h2 => match us, ks, h1, h2 with | [_, _], [_], _, _ => ⟨_, _, _, _, _, _, rfl, rfl, rfl⟩) (fun D doc pm an cdv ct us ws h1 h2 => match us, ws, h1, h2 with | [_, _], [_], _, _ => rfl) ?_
  rintro f cdv A outer s H vs Q EX hr ⟨S, F, ⟨house459, state460, careful461⟩, out, ⟨v0, _, rfl, h0, ⟨v1, _, rfl, h1, ⟨v2, rfl, h2⟩⟩⟩, W, hm, k⟩
  refine ⟨_, PSs.nox (pss_cons (ps_expr (pe_cal (ok_need_state E) (by exact hr) (by first | decide | omega) (by rfl) pass0 (pa_cons (pv 0) (pa_cons (pv 1) pa_nil)))) (pss_cons (ps_ret (pe_lc (own := [("lamp", 3)]) rfl sc_allowed_lamps.nd (pi_range1 rfl (by exact E.g_range) (pa_cons (pe_fldK (K := K) (pv 0)) pa_nil)) (blkOk_by (N := ["house", "state", "careful", "lamp"]) (sc := defScope (top 31)) (by decide +kernel)) (fun _ _ _ _ _ => (pg_name (i := 3) sc_allowed_lamps.nd rfl (Or.inl rfl))) (fun _ _ _ _ _ => (pts_one (pt_val (pe_cal (ok_can_move E) (by exact hr) (by first | decide | omega) (by rfl) pass0 (pa_cons (pv 0) (pa_cons (pv 1) (pa_cons (pv 3) (pa_cons (pv 2) pa_nil)))))))) (fun _ _ _ _ _ => (pv 3)))) pss_nil)), ?_⟩
  have hG : Okc [fS S, (tHouse (He.ga K "House")).f house459 v0, (tT tInt).f state460 v1, tBool.f careful461 v2] S := ⟨Same.refl _, h0, h1, h2, True.intro⟩
  have W : Wd S (([] : Ow) ++ F) H := W
  show (_ : TS) _ ([some v0, some v1, some v2, none] : L2.St) H
  refine k_drop hG W hm (sim_call (simA_c (sim_var 1 rfl rfl) (simA_one (sim_var 2 rfl rfl)))) ?_
  clear hG W hm
  intro z465 S H hG W hm
  exact k_retF hG W hm (simF_lc (simI_range1 (sim_fld (house_fld E.cl_House (E.na_House_count) (fun _ _ _ h => h.count)) (sim_var 1 rfl rfl))) tg_name (fun _ => rfl) (List.nil_sublist _) (fun a w => (simT_B (sim_call (simA_c (sim_var 2 rfl rfl) (simA_c (sim_var 3 rfl rfl) (simA_c (sim_var 0 rfl rfl) (simA_one (sim_var 4 rfl rfl)))))))) (fun a w => (sim_var 0 rfl rfl))) (fun p c S H hG W => k p c S H (Okc.at 1 rfl hG) (W.pick [0] rfl) (Okc.at 0 rfl hG))
theorem sc_before : FnScope ["house", "state", "lamp", "careful", "brightest", "result", "lower"] ["house", "state", "lamp", "careful"] (defScope (top 32)) := ⟨rfl, rfl, rfl, by decide +kernel, rfl, by decide +kernel, by decide +kernel⟩
theorem ok_before (E : EnvF P K mg) : KCal CX0 P w K mg base 4 "before" (spP (TyA.c (tHouse (He.ga K "House")) (TyA.c (tT tInt) (TyA.c tInt (TyA.one tBool)))) (fun a => m_before a.1 a.2.1 a.2.2.1 a.2.2.2) (tO (tT tInt))) 3 [("careful", .bl false)] := by
  refine kcal_mk (k := 3) E.d_before sc_before (fun vs H Q E h => by obtain ⟨S, F, a, r, ⟨_, _, rfl, _, ⟨_, _, rfl, _, ⟨_, _, rfl, _, ⟨_, rfl, _⟩⟩⟩⟩, _⟩ := h; rfl) (by decide) (by decide) (fun D doc pm an cdv ct us ks h1 h2 => match us, ks, h1, h2 with | [_, _, _], [_], _, _ => ⟨_, _, _, _, _, _, rfl, rfl, rfl⟩) (fun D doc pm an cdv ct us ws h1 h2 => match us, ws, h1, h2 with | [_, _, _], [_], _, _ => rfl) ?_
  rintro f cdv A outer s H vs Q EX hr ⟨S, F, ⟨house477, state478, lamp479, careful480⟩, out, ⟨v0, _, rfl, h0, ⟨v1, _, rfl, h1, ⟨v2, _, rfl, h2, ⟨v3, rfl, h3⟩⟩⟩⟩, W, hm, k⟩
  refine ⟨_, PSs.nox (pss_cons (ps_expr (pe_cal (ok_need_state E) (by exact hr) (by first | decide | omega) (by rfl) pass0 (pa_cons (pv 0) (pa_cons (pv 1) pa_nil)))) (pss_cons (ps_expr (pe_cal (ok_need_lamp E) (by exact hr) (by first | decide | omega) (by rfl) pass0 (pa_cons (pv 0) (pa_cons (pv 2) pa_nil)))) (pss_cons (ps_set (i := 4) sc_before.nd rfl (Or.inl rfl) (pe_op op_sub (pe_fldK (K := K) (pv 0)) pe_int)) (pss_cons (ps_if (pt_cmpR op_eq (pe_ix (ix_tupK (K := K)) (pv 1) (pv 2) (by intro _ _; rfl)) (pv 4) (nomark _)) (pss_cons (ps_ret pe_non) pss_nil) pss_nil) (pss_cons (ps_set (i := 5) sc_before.nd rfl (Or.inl rfl) (pe_callTy (call_listK (K := K)) rfl (by exact E.g_list) (by decide +kernel) (pa_cons (pv 1) pa_nil))) (pss_cons (ps_asg (pe_op op_add (pe_ix (ix_tupK (K := K)) (pv 1) (pv 2) (by intro _ _; rfl)) pe_int) (pg_sub (pv 5) (pv 2) set_list)) (pss_cons (ps_for PassesOwn.never rfl (pi_listK (K := K) (pe_cal (ok_bits E) (by exact hr) (by first | decide | omega) (by rfl) pass0 (pa_cons (pe_ix (ix_listK (K := K)) (pe_cal (ok_below_masks E) (by exact hr) (by first | decide | omega) (by rfl) pass0 (pa_cons (pv 0) pa_nil)) (pv 2) (by intro _ _; rfl)) pa_nil))) (pg_name (i := 6) sc_before.nd rfl (Or.inl rfl)) (pss_cons (ps_if (pt_cmpR op_eq (pe_ix (ix_tupK (K := K)) (pv 1) (pv 6) (by intro _ _; rfl)) (pv 4) (nomark _)) (pss_cons (ps_asg pe_int (pg_sub (pv 5) (pv 6) set_list)) pss_nil) (pss_cons (ps_if (pt_val (pv 3)) (pss_cons (ps_ret pe_non) pss_nil) (pss_cons (ps_asg (pe_op op_add (pe_ix (ix_tupK (K := K)) (pv 1) (pv 6) (by intro _ _; rfl)) pe_int) (pg_sub (pv 5) (pv 6) set_list)) pss_nil)) pss_nil)) pss_nil)) (pss_cons (ps_ret (pe_callTy (call_tupleK (K := K)) rfl (by exact E.g_tuple) (by decide +kernel) (pa_cons (pv 5) pa_nil))) pss_nil)))))))), ?_⟩
  have hG : Okc [fS S, (tHouse (He.ga K "House")).f house477 v0, (tT tInt).f state478 v1, tInt.f lamp479 v2, tBool.f careful480 v3] S := ⟨Same.refl _, h0, h1, h2, h3, True.intro⟩
  have W : Wd S (([] : Ow) ++ F) H := W
  show (_ : TS) _ ([some v0, some v1, some v2, some v3, none, none, none] : L2.St) H
  refine k_drop hG W hm (sim_call (simA_c (sim_var 1 rfl rfl) (simA_one (sim_var 2 rfl rfl)))) ?_
  clear hG W hm
  intro z484 S H hG W hm
  refine k_drop hG W hm (sim_call (simA_c (sim_var 1 rfl rfl) (simA_one (sim_var 3 rfl rfl)))) ?_
  clear hG W hm
  intro z488 S H hG W hm
  refine k_set hG W hm (sim_sub (sim_fld (house_fld E.cl_House (E.na_House_hues) (fun _ _ _ h => h.hues)) (sim_var 1 rfl rfl)) sim_int) ?_
  clear hG W hm
  intro brightest492 v493 S H hG W hm
  refine k_if hG W hm (simT_test (sim_eqI (sim_ixT (sim_var 3 rfl rfl) (sim_var 4 rfl rfl)) (sim_var 0 rfl rfl))) ?_ ?_
  · clear hG W hm
    intro S H hG W hm
    exact k_ret hG W hm sim_nonO (fun v S H hG W hr => k v S H (Okc.at 1 rfl hG) (W.pick [] rfl) hr)
  · clear hG W hm
    intro S H hG W hm
    refine y_next ?_
    refine k_setO hG W hm (simF_listT (sim_var 3 rfl rfl)) ?_
    clear hG W hm
    intro result499 p501 c502 S H hG W hm
    refine k_put hG W hm 0 0 rfl rfl rfl (sim_add (sim_ixT (sim_var 4 rfl rfl) (sim_var 5 rfl rfl)) sim_int) (sim_var 5 rfl rfl) ?_
    clear hG W hm
    intro result509 c510 S H hG W hm
    refine k_forK (σJ := (fun (bx515 : (List Int)) (wx515 : List Cell × Option V) => ([some v0, some v1, some v2, some v3, some (v493), some (.ref p501), wx515.2] : L2.St))) (OJ := (fun (bx515 : (List Int)) (wx515 : List Cell × Option V) => ([wx515.1] : Ow))) (Fb := (fun (bx515 : (List Int)) (wx515 : List Cell × Option V) => ([(oL tInt).f bx515 p501 (wx515.1)] : List Fact))) (σT := (fun b w (tx515 : V) => ((fun (bx515 : (List Int)) (wx515 : List Cell × Option V) => ([some v0, some v1, some v2, some v3, some (v493), some (.ref p501), wx515.2] : L2.St)) b w).set 6 (some tx515))) ((c510, (none)) : List Cell × Option V) hG W hm (simI_list (sim_call (simA_one (sim_ix (sim_call (simA_one (sim_var 4 rfl rfl))) (sim_var 6 rfl rfl))))) (fun b w => tg_name) (fun b w => List.nil_sublist _) rfl rfl (fun S h => (Okc.cons (Okc.at 0 rfl h) h)) ?_ ?_
    · clear hG W hm
      intro S1 y516 bx515 wx515 tx515 S H k518 hm hG W Nx515 hNx515 hBx515
      refine k_if hG W hm (simT_test (sim_eqI (sim_ixT (sim_var 8 rfl rfl) (sim_var 0 rfl rfl)) (sim_var 5 rfl rfl))) ?_ ?_
      · clear hG W hm
        intro S H hG W hm
        refine k_put hG W hm 0 1 rfl rfl rfl sim_int (sim_var 0 rfl rfl) ?_
        clear hG W hm
        intro result527 c528 S H hG W hm
        refine y_next ?_
        refine y_next ?_
        exact hNx515 _ (c528, (some (tx515))) _ _ hm (Okc.cons (Okc.at 0 rfl hG) (Okc.dr 3 hG)) (W.pick [0] rfl)
      · clear hG W hm
        intro S H hG W hm
        refine k_if hG W hm (simT_B (sim_var 10 rfl rfl)) ?_ ?_
        · clear hG W hm
          intro S H hG W hm
          exact k_ret hG W hm sim_nonO (fun v S H hG W hr => k v S H (Okc.at 6 rfl hG) (W.pick [] rfl) hr)
        · clear hG W hm
          intro S H hG W hm
          refine k_put hG W hm 0 1 rfl rfl rfl (sim_add (sim_ixT (sim_var 8 rfl rfl) (sim_var 0 rfl rfl)) sim_int) (sim_var 0 rfl rfl) ?_
          clear hG W hm
          intro result536 c537 S H hG W hm
          refine y_next ?_
          refine y_next ?_
          refine y_next ?_
          exact hNx515 _ (c537, (some (tx515))) _ _ hm (Okc.cons (Okc.at 0 rfl hG) (Okc.dr 3 hG)) (W.pick [0] rfl)
    · clear hG W hm
      intro bx515 wx515 S H hm hG W
      exact k_ret hG W hm (sim_some nn_T (sim_tuple (sim_own 0 0 rfl rfl rfl))) (fun v S H hG W hr => k v S H (Okc.at 4 rfl hG) (W.pick [] rfl) hr)
theorem sc_covered_by : FnScope ["house", "state", "lamp"] ["house", "state"] (defScope (top 34)) := ⟨rfl, rfl, rfl, by decide +kernel, rfl, by decide +kernel, by decide +kernel⟩
theorem ok_covered_by (E : EnvF P K mg) : Cal CX0 P w K mg base 5 "covered_by" (spF (TyA.c (tHouse (He.ga K "House")) (TyA.one (tT tInt))) (fun a => m_covered_by a.1 a.2) (oL (tP tInt (tT tInt)))) := by
  refine cal_mk (k := 4) E.d_covered_by sc_covered_by (fun vs H Q E h => by obtain ⟨S, F, a, r, ⟨_, _, rfl, _, ⟨_, rfl, _⟩⟩, _⟩ := h; rfl) (fun _ _ _ _ _ _ us hl => match us, hl with | [_, _], _ => rfl) ?_
  rintro f cdv A outer s H vs Q EX hr ⟨S, F, ⟨house538, state539⟩, out, ⟨v0, _, rfl, h0, ⟨v1, rfl, h1⟩⟩, W, hm, k⟩
  refine ⟨_, PSs.nox (pss_cons (ps_expr (pe_cal (ok_need_state E) (by exact hr) (by first | decide | omega) (by rfl) pass0 (pa_cons (pv 0) (pa_cons (pv 1) pa_nil)))) (pss_cons (ps_ret (pe_lc (own := [("lamp", 2)]) rfl sc_covered_by.nd (pi_listK (K := K) (pe_kcal (ok_allowed_lamps E) (by exact hr) (by first | decide | omega) (by rfl) pass0 (pa_cons (pv 0) (pa_cons (pv 1) pa_nil)) (pk_cons pe_bl pk_nil))) (blkOk_by (N := ["house", "state", "lamp"]) (sc := defScope (top 34)) (by decide +kernel)) (fun _ _ _ _ _ => (pg_name (i := 2) sc_covered_by.nd rfl (Or.inl rfl))) (fun _ _ _ _ _ => pts_nil) (fun _ _ _ _ _ => (pe_tup (pa_cons (pv 2) (pa_cons (pe_cal (ok_moved E) (by exact hr) (by first | decide | omega) (by rfl) pass0 (pa_cons (pv 0) (pa_cons (pv 1) (pa_cons (pv 2) pa_nil)))) pa_nil)))))) pss_nil)), ?_⟩
  have hG : Okc [fS S, (tHouse (He.ga K "House")).f house538 v0, (tT tInt).f state539 v1] S := ⟨Same.refl _, h0, h1, True.intro⟩
  have W : Wd S (([] : Ow) ++ F) H := W
  show (_ : TS) _ ([some v0, some v1, none] : L2.St) H
  refine k_drop hG W hm (sim_call (simA_c (sim_var 1 rfl rfl) (simA_one (sim_var 2 rfl rfl)))) ?_
  clear hG W hm
  intro z543 S H hG W hm
  exact k_retF hG W hm (simF_lc (simI_list (SimF.sim (simF_callK (ext := (fun (a : HouseD × (List Int)) (b : Bool) => (a.1, (a.2, b)))) (f := (fun (a : HouseD × (List Int) × Bool) => m_allowed_lamps a.1 a.2.1 a.2.2)) (fun a vs S h => ln_c h (fun a vs S h => ln_one h)) (fun a vs S h => ln_one h) (fun a b vs zs S h r => (ap_c h fun ws h => (ap_one h r))) (simA_c (sim_var 1 rfl rfl) (simA_one (sim_var 2 rfl rfl))) (simA_one sim_bl)))) tg_name (fun _ => rfl) (List.nil_sublist _) (fun a w => simT_yes) (fun a w => (sim_pair (sim_var 0 rfl rfl) (sim_call (simA_c (sim_var 2 rfl rfl) (simA_c (sim_var 3 rfl rfl) (simA_one (sim_var 0 rfl rfl)))))))) (fun p c S H hG W => k p c S H (Okc.at 1 rfl hG) (W.pick [0] rfl) (Okc.at 0 rfl hG))
theorem sc_covers_of : FnScope ["house", "state", "pairs", "lamp", "other"] ["house", "state"] (defScope (top 35)) := ⟨rfl, rfl, rfl, by decide +kernel, rfl, by decide +kernel, by decide +kernel⟩
theorem ok_covers_of (E : EnvF P K mg) : Cal CX0 P w K mg base 5 "covers_of" (spP (TyA.c (tHouse (He.ga K "House")) (TyA.one (tT tInt))) (fun a => m_covers_of a.1 a.2) (tL (tP tInt (tT tInt)))) := by
  refine cal_mk (k := 4) E.d_covers_of sc_covers_of (fun vs H Q E h => by obtain ⟨S, F, a, r, ⟨_, _, rfl, _, ⟨_, rfl, _⟩⟩, _⟩ := h; rfl) (fun _ _ _ _ _ _ us hl => match us, hl with | [_, _], _ => rfl) ?_
  rintro f cdv A outer s H vs Q EX hr ⟨S, F, ⟨house557, state558⟩, out, ⟨v0, _, rfl, h0, ⟨v1, rfl, h1⟩⟩, W, hm, k⟩
  refine ⟨_, PSs.nox (pss_cons (ps_expr (pe_cal (ok_need_state E) (by exact hr) (by first | decide | omega) (by rfl) pass0 (pa_cons (pv 0) (pa_cons (pv 1) pa_nil)))) (pss_cons (ps_set (i := 2) sc_covers_of.nd rfl (Or.inl rfl) (pe_lst pa_nil)) (pss_cons (ps_for PassesOwn.never rfl (pi_range1 rfl (by exact E.g_range) (pa_cons (pe_fldK (K := K) (pv 0)) pa_nil)) (pg_name (i := 3) sc_covers_of.nd rfl (Or.inl rfl)) (pss_cons (ps_set (i := 4) sc_covers_of.nd rfl (Or.inl rfl) (pe_kcal (ok_before E) (by exact hr) (by first | decide | omega) (by rfl) pass0 (pa_cons (pv 0) (pa_cons (pv 1) (pa_cons (pv 3) pa_nil))) (pk_cons pe_bl pk_nil))) (pss_cons (ps_if (pt_cmpR op_notN (pv 4) pe_non (nomark _)) (pss_cons (ps_expr (pe_bmK (K := K) PySem.F.plainAttrs_list PySem.F.slot_list_append PySem.F.type_list_append mt_append (pv 2) (pa_cons (pe_tup (pa_cons (pv 3) (pa_cons (pv 4) pa_nil))) pa_nil))) pss_nil) pss_nil) pss_nil))) (pss_cons (ps_ret (pv 2)) pss_nil)))), ?_⟩
  have hG : Okc [fS S, (tHouse (He.ga K "House")).f house557 v0, (tT tInt).f state558 v1] S := ⟨Same.refl _, h0, h1, True.intro⟩
  have W : Wd S (([] : Ow) ++ F) H := W
  show (_ : TS) _ ([some v0, some v1, none, none, none] : L2.St) H
  refine k_drop hG W hm (sim_call (simA_c (sim_var 1 rfl rfl) (simA_one (sim_var 2 rfl rfl)))) ?_
  clear hG W hm
  intro z562 S H hG W hm
  refine k_setO hG W hm (simF_lst (T := (tP tInt (tT tInt))) simA_ln0) ?_
  clear hG W hm
  intro pairs563 p565 c566 S H hG W hm
  refine k_fold (σJ := (fun (bx569 : (List (Int × (List Int)))) (wx569 : List Cell × Option V × Option V) => ([some v0, some v1, some (.ref p565), wx569.2.1, wx569.2.2] : L2.St))) (OJ := (fun (bx569 : (List (Int × (List Int)))) (wx569 : List Cell × Option V × Option V) => ([wx569.1] : Ow))) (Fb := (fun (bx569 : (List (Int × (List Int)))) (wx569 : List Cell × Option V × Option V) => ([(oL (tP tInt (tT tInt))).f bx569 p565 (wx569.1)] : List Fact))) (σT := (fun b w (tx569 : V) => ((fun (bx569 : (List (Int × (List Int)))) (wx569 : List Cell × Option V × Option V) => ([some v0, some v1, some (.ref p565), wx569.2.1, wx569.2.2] : L2.St)) b w).set 3 (some tx569))) ((c566, (none), (none)) : List Cell × Option V × Option V) hG W hm (simI_range1 (sim_fld (house_fld E.cl_House (E.na_House_count) (fun _ _ _ h => h.count)) (sim_var 2 rfl rfl))) (fun b w => tg_name) (fun b w => List.nil_sublist _) rfl rfl (fun S h => (Okc.cons (Okc.at 0 rfl h) h)) ?_ ?_
  · clear hG W hm
    intro S1 y570 bx569 b' wx569 tx569 S H hm hG W N hN
    refine k_set hG W hm (sim_callK (ext := (fun (a : HouseD × (List Int) × Int) (b : Bool) => (a.1, (a.2.1, (a.2.2, b))))) (f := (fun (a : HouseD × (List Int) × Int × Bool) => m_before a.1 a.2.1 a.2.2.1 a.2.2.2)) (fun a vs S h => ln_c h (fun a vs S h => ln_c h (fun a vs S h => ln_one h))) (fun a vs S h => ln_one h) (fun a b vs zs S h r => (ap_c h fun ws h => (ap_c h fun ws h => (ap_one h r)))) (simA_c (sim_var 5 rfl rfl) (simA_c (sim_var 6 rfl rfl) (simA_one (sim_var 0 rfl rfl)))) (simA_one sim_bl)) ?_
    clear hG W hm
    intro other578 v579 S H hG W hm
    refine k_if hG W hm (simT_test (sim_notN (sim_var 0 rfl rfl) sim_non)) ?_ ?_
    · clear hG W hm
      intro S H hG W hm
      refine k_app hG W hm 0 2 rfl rfl rfl (sim_pair (sim_var 1 rfl rfl) (sim_unO (sim_var 0 rfl rfl))) ?_
      clear hG W hm
      intro y586 c588 S H hG W hm
      revert hG hm; generalize (bx569 ++ [y586]) = pairs587; intro hG hm
      refine y_next ?_
      cases hm
      refine y_next ?_
      exact hN (c588, (some (tx569)), (some (v579))) _ _ (Okc.cons (Okc.at 0 rfl hG) (Okc.dr 4 hG)) (W.pick [0] rfl)
    · clear hG W hm
      intro S H hG W hm
      refine y_next ?_
      cases hm
      refine y_next ?_
      exact hN (wx569.1, (some (tx569)), (some (v579))) _ _ (Okc.cons (Okc.at 2 rfl hG) (Okc.dr 3 hG)) (W.pick [0] rfl)
  · clear hG W hm
    intro bx569 wx569 S H hm hG W
    refine k_frz hG W frz_L 0 0 rfl rfl ?_
    clear hG W
    intro S hG W
    exact k_ret hG W hm (sim_var 0 rfl rfl) (fun v S H hG W hr => k v S H (Okc.at 3 rfl hG) (W.pick [] rfl) hr)
theorem sc_is_cover : FnScope ["house", "source", "target", "lamp"] ["house", "source", "target"] (defScope (top 36)) := ⟨rfl, rfl, rfl, by decide +kernel, rfl, by decide +kernel, by decide +kernel⟩
theorem ok_is_cover (E : EnvF P K mg) : Cal CX0 P w K mg base 5 "is_cover" (spP (TyA.c (tHouse (He.ga K "House")) (TyA.c (tT tInt) (TyA.one (tT tInt)))) (fun a => m_is_cover a.1 a.2.1 a.2.2) tBool) := by
  refine cal_mk (k := 4) E.d_is_cover sc_is_cover (fun vs H Q E h => by obtain ⟨S, F, a, r, ⟨_, _, rfl, _, ⟨_, _, rfl, _, ⟨_, rfl, _⟩⟩⟩, _⟩ := h; rfl) (fun _ _ _ _ _ _ us hl => match us, hl with | [_, _, _], _ => rfl) ?_
  rintro f cdv A outer s H vs Q EX hr ⟨S, F, ⟨house589, source590, target591⟩, out, ⟨v0, _, rfl, h0, ⟨v1, _, rfl, h1, ⟨v2, rfl, h2⟩⟩⟩, W, hm, k⟩
  refine ⟨_, PSs.nox (pss_cons (ps_expr (pe_cal (ok_need_state E) (by exact hr) (by first | decide | omega) (by rfl) pass0 (pa_cons (pv 0) (pa_cons (pv 1) pa_nil)))) (pss_cons (ps_expr (pe_cal (ok_need_state E) (by exact hr) (by first | decide | omega) (by rfl) pass0 (pa_cons (pv 0) (pa_cons (pv 2) pa_nil)))) (pss_cons (ps_for PassesOwn.never rfl (pi_listK (K := K) (pe_kcal (ok_allowed_lamps E) (by exact hr) (by first | decide | omega) (by rfl) pass0 (pa_cons (pv 0) (pa_cons (pv 1) pa_nil)) (pk_cons pe_bl pk_nil))) (pg_name (i := 3) sc_is_cover.nd rfl (Or.inl rfl)) (pss_cons (ps_if (pt_cmpR (op_eqDK (K := K) (by exact hu64 hr)) (pe_cal (ok_moved E) (by exact hr) (by first | decide | omega) (by rfl) pass0 (pa_cons (pv 0) (pa_cons (pv 1) (pa_cons (pv 3) pa_nil)))) (pv 2) (nomark _)) (pss_cons (ps_ret pe_bl) pss_nil) pss_nil) pss_nil)) (pss_cons (ps_ret pe_bl) pss_nil)))), ?_⟩
  have hG : Okc [fS S, (tHouse (He.ga K "House")).f house589 v0, (tT tInt).f source590 v1, (tT tInt).f target591 v2] S := ⟨Same.refl _, h0, h1, h2, True.intro⟩
  have W : Wd S (([] : Ow) ++ F) H := W
  show (_ : TS) _ ([some v0, some v1, some v2, none] : L2.St) H
  refine k_drop hG W hm (sim_call (simA_c (sim_var 1 rfl rfl) (simA_one (sim_var 2 rfl rfl)))) ?_
  clear hG W hm
  intro z595 S H hG W hm
  refine k_drop hG W hm (sim_call (simA_c (sim_var 1 rfl rfl) (simA_one (sim_var 3 rfl rfl)))) ?_
  clear hG W hm
  intro z599 S H hG W hm
  refine k_forK (σJ := (fun (bx604 : Unit) (wx604 : Option V) => ([some v0, some v1, some v2, wx604] : L2.St))) (OJ := (fun (bx604 : Unit) (wx604 : Option V) => ([] : Ow))) (Fb := (fun (bx604 : Unit) (wx604 : Option V) => ([] : List Fact))) (σT := (fun b w (tx604 : V) => ((fun (bx604 : Unit) (wx604 : Option V) => ([some v0, some v1, some v2, wx604] : L2.St)) b w).set 3 (some tx604))) ((none) : Option V) hG W hm (simI_list (SimF.sim (simF_callK (ext := (fun (a : HouseD × (List Int)) (b : Bool) => (a.1, (a.2, b)))) (f := (fun (a : HouseD × (List Int) × Bool) => m_allowed_lamps a.1 a.2.1 a.2.2)) (fun a vs S h => ln_c h (fun a vs S h => ln_one h)) (fun a vs S h => ln_one h) (fun a b vs zs S h r => (ap_c h fun ws h => (ap_one h r))) (simA_c (sim_var 1 rfl rfl) (simA_one (sim_var 2 rfl rfl))) (simA_one sim_bl)))) (fun b w => tg_name) (fun b w => List.nil_sublist _) rfl rfl (fun S h => h) ?_ ?_
  · clear hG W hm
    intro S1 y605 bx604 wx604 tx604 S H k607 hm hG W Nx604 hNx604 hBx604
    refine k_if hG W hm (simT_test (sim_eqD (sim_call (simA_c (sim_var 3 rfl rfl) (simA_c (sim_var 4 rfl rfl) (simA_one (sim_var 0 rfl rfl))))) (sim_var 5 rfl rfl))) ?_ ?_
    · clear hG W hm
      intro S H hG W hm
      exact k_ret hG W hm sim_bl (fun v S H hG W hr => k v S H (Okc.at 2 rfl hG) (W.pick [] rfl) hr)
    · clear hG W hm
      intro S H hG W hm
      refine y_next ?_
      refine y_next ?_
      exact hNx604 _ (some (tx604)) _ _ hm (Okc.dr 1 hG) (W.pick [] rfl)
  · clear hG W hm
    intro bx604 wx604 S H hm hG W
    exact k_ret hG W hm sim_bl (fun v S H hG W hr => k v S H (Okc.at 0 rfl hG) (W.pick [] rfl) hr)
theorem sc_lowest_lit : FnScope ["house", "state", "lit", "lit_mask", "below", "lamp"] ["house", "state"] (defScope (top 38)) := ⟨rfl, rfl, rfl, by decide +kernel, rfl, by decide +kernel, by decide +kernel⟩
theorem ok_lowest_lit (E : EnvF P K mg) : Cal CX0 P w K mg base 5 "lowest_lit" (spF (TyA.c (tHouse (He.ga K "House")) (TyA.one (tT tInt))) (fun a => m_lowest_lit a.1 a.2) (oL tInt)) := by
  refine cal_mk (k := 4) E.d_lowest_lit sc_lowest_lit (fun vs H Q E h => by obtain ⟨S, F, a, r, ⟨_, _, rfl, _, ⟨_, rfl, _⟩⟩, _⟩ := h; rfl) (fun _ _ _ _ _ _ us hl => match us, hl with | [_, _], _ => rfl) ?_
  rintro f cdv A outer s H vs Q EX hr ⟨S, F, ⟨house617, state618⟩, out, ⟨v0, _, rfl, h0, ⟨v1, rfl, h1⟩⟩, W, hm, k⟩
  refine ⟨_, PSs.nox (pss_cons (ps_expr (pe_cal (ok_need_state E) (by exact hr) (by first | decide | omega) (by rfl) pass0 (pa_cons (pv 0) (pa_cons (pv 1) pa_nil)))) (pss_cons (ps_set (i := 2) sc_lowest_lit.nd rfl (Or.inl rfl) (pe_cal (ok_lit_lamps E) (by exact hr) (by first | decide | omega) (by rfl) pass0 (pa_cons (pv 0) (pa_cons (pv 1) pa_nil)))) (pss_cons (ps_set (i := 3) sc_lowest_lit.nd rfl (Or.inr rfl) (pe_callB (cr_sumK (K := K)) rfl (by exact E.g_sum) (by decide +kernel) (pa_cons (pe_lc (own := [("lamp", 5)]) rfl sc_lowest_lit.nd (pi_listK (K := K) (pv 2)) (blkOk_by (N := ["house", "state", "lit", "lit_mask", "below", "lamp"]) (sc := defScope (top 38)) (by decide +kernel)) (fun _ _ _ _ _ => (pg_name (i := 5) sc_lowest_lit.nd rfl (Or.inl rfl))) (fun _ _ _ _ _ => pts_nil) (fun _ _ _ _ _ => (pe_op op_shl pe_int (pv 5)))) pa_nil))) (pss_cons (ps_set (i := 4) sc_lowest_lit.nd rfl (Or.inr rfl) (pe_cal (ok_below_masks E) (by exact hr) (by first | decide | omega) (by rfl) pass0 (pa_cons (pv 0) pa_nil))) (pss_cons (ps_ret (pe_lc (own := [("lamp", 5)]) rfl sc_lowest_lit.nd (pi_listK (K := K) (pv 2)) (blkOk_by (N := ["house", "state", "lit", "lit_mask", "below", "lamp"]) (sc := defScope (top 38)) (by decide +kernel)) (fun _ _ _ _ _ => (pg_name (i := 5) sc_lowest_lit.nd rfl (Or.inl rfl))) (fun _ _ _ _ _ => (pts_one (pt_cmpR op_eq (pe_op op_and (pe_ix (ix_listK (K := K)) (pv 4) (pv 5) (by intro _ _; rfl)) (pv 3)) pe_int (nomark _)))) (fun _ _ _ _ _ => (pv 5)))) pss_nil))))), ?_⟩
  have hG : Okc [fS S, (tHouse (He.ga K "House")).f house617 v0, (tT tInt).f state618 v1] S := ⟨Same.refl _, h0, h1, True.intro⟩
  have W : Wd S (([] : Ow) ++ F) H := W
  show (_ : TS) _ ([some v0, some v1, none, none, none, none] : L2.St) H
  refine k_drop hG W hm (sim_call (simA_c (sim_var 1 rfl rfl) (simA_one (sim_var 2 rfl rfl)))) ?_
  clear hG W hm
  intro z622 S H hG W hm
  refine k_set hG W hm (sim_call (simA_c (sim_var 1 rfl rfl) (simA_one (sim_var 2 rfl rfl)))) ?_
  clear hG W hm
  intro lit626 v627 S H hG W hm
  refine k_set hG W hm (sim_sum (SimF.sim (simF_lc (simI_list (sim_var 0 rfl rfl)) tg_name (fun _ => rfl) (List.nil_sublist _) (fun a w => simT_yes) (fun a w => (sim_shl sim_int (sim_var 0 rfl rfl)))))) ?_
  clear hG W hm
  intro lit_mask633 v634 S H hG W hm
  refine k_set hG W hm (sim_call (simA_one (sim_var 3 rfl rfl))) ?_
  clear hG W hm
  intro below636 v637 S H hG W hm
  exact k_retF hG W hm (simF_lc (simI_list (sim_var 2 rfl rfl)) tg_name (fun _ => rfl) (List.nil_sublist _) (fun a w => (simT_test (sim_eqI (sim_and (sim_ix (sim_var 1 rfl rfl) (sim_var 0 rfl rfl)) (sim_var 2 rfl rfl)) sim_int))) (fun a w => (sim_var 0 rfl rfl))) (fun p c S H hG W => k p c S H (Okc.at 4 rfl hG) (W.pick [0] rfl) (Okc.at 0 rfl hG))
theorem sc__lowered_at : FnScope ["house", "state", "lamps", "result", "lamp", "other"] ["house", "state", "lamps"] (defScope (top 39)) := ⟨rfl, rfl, rfl, by decide +kernel, rfl, by decide +kernel, by decide +kernel⟩
theorem ok__lowered_at (E : EnvF P K mg) : Cal CX0 P w K mg base 5 "_lowered_at" (spP (TyA.c (tHouse (He.ga K "House")) (TyA.c (tT tInt) (TyA.one (tL tInt)))) (fun a => m__lowered_at a.1 a.2.1 a.2.2) (tT tInt)) := by
  refine cal_mk (k := 4) E.d__lowered_at sc__lowered_at (fun vs H Q E h => by obtain ⟨S, F, a, r, ⟨_, _, rfl, _, ⟨_, _, rfl, _, ⟨_, rfl, _⟩⟩⟩, _⟩ := h; rfl) (fun _ _ _ _ _ _ us hl => match us, hl with | [_, _, _], _ => rfl) ?_
  rintro f cdv A outer s H vs Q EX hr ⟨S, F, ⟨house646, state647, lamps648⟩, out, ⟨v0, _, rfl, h0, ⟨v1, _, rfl, h1, ⟨v2, rfl, h2⟩⟩⟩, W, hm, k⟩
  refine ⟨_, PSs.nox (pss_cons (ps_set (i := 3) sc__lowered_at.nd rfl (Or.inl rfl) (pe_callTy (call_listK (K := K)) rfl (by exact E.g_list) (by decide +kernel) (pa_cons (pv 1) pa_nil))) (pss_cons (ps_for PassesOwn.never rfl (pi_listK (K := K) (pv 2)) (pg_name (i := 4) sc__lowered_at.nd rfl (Or.inl rfl)) (pss_cons (ps_asg (pe_op op_sub (pe_ix (ix_tupK (K := K)) (pv 1) (pv 4) (by intro _ _; rfl)) pe_int) (pg_sub (pv 3) (pv 4) set_list)) (pss_cons (ps_for PassesOwn.never rfl (pi_listK (K := K) (pe_mtd (ok_House_beneath E) (by exact hr) (by first | decide | omega) pass0 (pv 0) (pa_cons (pv 4) pa_nil))) (pg_name (i := 5) sc__lowered_at.nd rfl (Or.inl rfl)) (pss_cons (ps_asg (pe_op op_sub (pe_fldK (K := K) (pv 0)) pe_int) (pg_sub (pv 3) (pv 5) set_list)) pss_nil)) pss_nil))) (pss_cons (ps_ret (pe_callTy (call_tupleK (K := K)) rfl (by exact E.g_tuple) (by decide +kernel) (pa_cons (pv 3) pa_nil))) pss_nil))), ?_⟩
  have hG : Okc [fS S, (tHouse (He.ga K "House")).f house646 v0, (tT tInt).f state647 v1, (tL tInt).f lamps648 v2] S := ⟨Same.refl _, h0, h1, h2, True.intro⟩
  have W : Wd S (([] : Ow) ++ F) H := W
  show (_ : TS) _ ([some v0, some v1, some v2, none, none, none] : L2.St) H
  refine k_setO hG W hm (simF_listT (sim_var 2 rfl rfl)) ?_
  clear hG W hm
  intro result649 p651 c652 S H hG W hm
  refine k_fold (σJ := (fun (bx653 : (List Int)) (wx653 : List Cell × Option V × Option V) => ([some v0, some v1, some v2, some (.ref p651), wx653.2.1, wx653.2.2] : L2.St))) (OJ := (fun (bx653 : (List Int)) (wx653 : List Cell × Option V × Option V) => ([wx653.1] : Ow))) (Fb := (fun (bx653 : (List Int)) (wx653 : List Cell × Option V × Option V) => ([(oL tInt).f bx653 p651 (wx653.1)] : List Fact))) (σT := (fun b w (tx653 : V) => ((fun (bx653 : (List Int)) (wx653 : List Cell × Option V × Option V) => ([some v0, some v1, some v2, some (.ref p651), wx653.2.1, wx653.2.2] : L2.St)) b w).set 4 (some tx653))) ((c652, (none), (none)) : List Cell × Option V × Option V) hG W hm (simI_list (sim_var 4 rfl rfl)) (fun b w => tg_name) (fun b w => List.nil_sublist _) rfl rfl (fun S h => (Okc.cons (Okc.at 0 rfl h) h)) ?_ ?_
  · clear hG W hm
    intro S1 y654 bx653 b' wx653 tx653 S H hm hG W N hN
    refine k_put hG W hm 0 1 rfl rfl rfl (sim_sub (sim_ixT (sim_var 6 rfl rfl) (sim_var 0 rfl rfl)) sim_int) (sim_var 0 rfl rfl) ?_
    clear hG W hm
    intro result662 c663 S H hG W hm
    refine k_fold (σJ := (fun (bx666 : (List Int)) (wx666 : List Cell × Option V) => ([some v0, some v1, some v2, some (.ref p651), some (tx653), wx666.2] : L2.St))) (OJ := (fun (bx666 : (List Int)) (wx666 : List Cell × Option V) => ([wx666.1] : Ow))) (Fb := (fun (bx666 : (List Int)) (wx666 : List Cell × Option V) => ([(oL tInt).f bx666 p651 (wx666.1)] : List Fact))) (σT := (fun b w (tx666 : V) => ((fun (bx666 : (List Int)) (wx666 : List Cell × Option V) => ([some v0, some v1, some v2, some (.ref p651), some (tx653), wx666.2] : L2.St)) b w).set 5 (some tx666))) ((c663, (wx653.2.2)) : List Cell × Option V) hG W hm (simI_list (sim_meth (f := (fun (p : HouseD × Int) => m_House_beneath p.1 p.2)) (house_no "beneath" (by decide +kernel)) (sim_var 6 rfl rfl) (simA_one (sim_var 1 rfl rfl)))) (fun b w => tg_name) (fun b w => List.nil_sublist _) rfl rfl (fun S h => (Okc.cons (Okc.at 0 rfl h) h)) ?_ ?_
    · clear hG W hm
      intro S1 y667 bx666 b' wx666 tx666 S H hm hG W N hN
      refine k_put hG W hm 0 1 rfl rfl rfl (sim_sub (sim_fld (house_fld E.cl_House (E.na_House_hues) (fun _ _ _ h => h.hues)) (sim_var 9 rfl rfl)) sim_int) (sim_var 0 rfl rfl) ?_
      clear hG W hm
      intro result674 c675 S H hG W hm
      cases hm
      refine y_next ?_
      exact hN (c675, (some (tx666))) _ _ (Okc.cons (Okc.at 0 rfl hG) (Okc.dr 3 hG)) (W.pick [0] rfl)
    · clear hG W hm
      intro bx666 wx666 S H hm hG W
      cases hm
      refine y_next ?_
      exact hN (wx666.1, (some (tx653)), (wx666.2)) _ _ (Okc.cons (Okc.at 0 rfl hG) (Okc.dr 4 hG)) (W.pick [0] rfl)
  · clear hG W hm
    intro bx653 wx653 S H hm hG W
    exact k_ret hG W hm (sim_tuple (sim_own 0 0 rfl rfl rfl)) (fun v S H hG W hr => k v S H (Okc.at 2 rfl hG) (W.pick [] rfl) hr)
theorem sc_lowered : FnScope ["house", "state", "lamps", "lowest", "lamp"] ["house", "state", "lamps"] (defScope (top 40)) := ⟨rfl, rfl, rfl, by decide +kernel, rfl, by decide +kernel, by decide +kernel⟩
theorem okX_lowered (E : EnvF P K mg) : Cal (L2N.CX P w) P w K mg base 6 "lowered" (spX K (TyA.c (tHouse (He.ga K "House")) (TyA.c (tT tInt) (TyA.one (tL tInt)))) (fun a => mX_lowered a.1 a.2.1 a.2.2) (tT tInt)) := by
  refine cal_mk (k := 5) E.d_lowered sc_lowered (fun vs H Q E h => by obtain ⟨S, F, a, r, ⟨_, _, rfl, _, ⟨_, _, rfl, _, ⟨_, rfl, _⟩⟩⟩, _⟩ := h; rfl) (fun _ _ _ _ _ _ us hl => match us, hl with | [_, _, _], _ => rfl) ?_
  rintro f cdv A outer s H vs Q EX hr ⟨S, F, ⟨house676, state677, lamps678⟩, out, ⟨v0, _, rfl, h0, ⟨v1, _, rfl, h1, ⟨v2, rfl, h2⟩⟩⟩, W, hm, k⟩
  refine ⟨_, (pss_cons (ps_set (i := 3) sc_lowered.nd rfl (Or.inl rfl) (pe_cal (ok_lowest_lit E) (by exact hr) (by first | decide | omega) (by rfl) pass0 (pa_cons (pv 0) (pa_cons (pv 1) pa_nil)))) (pss_cons (ps_for (passes_of rfl) rfl (pi_listK (K := K) (pv 2)) (pg_name (i := 4) sc_lowered.nd rfl (Or.inl rfl)) (pss_cons (ps_if (PW.pt (pw_or (pt_not (pt_val (pe_cal (ok_is_integer E) (by exact hr) (by first | decide | omega) (by rfl) pass0 (pa_cons (pv 4) pa_nil)))) (pw_or1 (pt_cmpR (op_notInDK (K := K) (by exact hu65 hr)) (pv 4) (pv 3) (by with_unfolding_all rfl))))) (pss_cons (L2N.ps_raise rfl (L2N.takes_of rfl rfl rfl rfl) (pmk_x (xm_InvalidLamp E) (by exact hr) (by first | decide | omega) rfl (pa_cons (pv 4) pa_nil))) pss_nil) pss_nil) pss_nil)) (pss_cons (ps_ret (pe_cal (ok__lowered_at E) (by exact hr) (by first | decide | omega) (by rfl) pass0 (pa_cons (pv 0) (pa_cons (pv 1) (pa_cons (pv 2) pa_nil))))) pss_nil))), ?_⟩
  have hG : Okc [fS S, (tHouse (He.ga K "House")).f house676 v0, (tT tInt).f state677 v1, (tL tInt).f lamps678 v2] S := ⟨Same.refl _, h0, h1, h2, True.intro⟩
  have W : Wd S (([] : Ow) ++ F) H := W
  show (_ : TS) _ ([some v0, some v1, some v2, none, none] : L2.St) H
  refine k_set hG W hm (SimF.sim (simF_call (simA_c (sim_var 1 rfl rfl) (simA_one (sim_var 2 rfl rfl))))) ?_
  clear hG W hm
  intro lowest682 v683 S H hG W hm
  refine k_forK (σJ := (fun (bx684 : Unit) (wx684 : Option V) => ([some v0, some v1, some v2, some (v683), wx684] : L2.St))) (OJ := (fun (bx684 : Unit) (wx684 : Option V) => ([] : Ow))) (Fb := (fun (bx684 : Unit) (wx684 : Option V) => ([] : List Fact))) (σT := (fun b w (tx684 : V) => ((fun (bx684 : Unit) (wx684 : Option V) => ([some v0, some v1, some v2, some (v683), wx684] : L2.St)) b w).set 4 (some tx684))) ((none) : Option V) hG W hm (simI_list (sim_var 4 rfl rfl)) (fun b w => tg_name) (fun b w => List.nil_sublist _) rfl rfl (fun S h => h) ?_ ?_
  · clear hG W hm
    intro S1 y685 bx684 wx684 tx684 S H k687 hm hG W Nx684 hNx684 hBx684
    refine k_if hG W hm (simT_or (simT_not (simT_B (sim_call (simA_one (sim_var 0 rfl rfl))))) (simT_test (sim_notIn (sim_var 0 rfl rfl) (sim_var 2 rfl rfl)))) ?_ ?_
    · clear hG W hm
      intro S H hG W hm
      exact k_raise (c := "InvalidLamp") (keys := ["lamp"]) (xs := fun a => [("lamp", XV.int a)]) hG W hm (simA_one (sim_var 0 rfl rfl)) one_int (by decide) k (fun S hG => Okc.at 3 rfl hG) (fun S H W => W.pick [] rfl)
    · clear hG W hm
      intro S H hG W hm
      refine y_next ?_
      refine y_next ?_
      exact hNx684 _ (some (tx684)) _ _ hm (Okc.dr 1 hG) (W.pick [] rfl)
  · clear hG W hm
    intro bx684 wx684 S H hm hG W
    exact k_retX hG W hm (sim_call (simA_c (sim_var 2 rfl rfl) (simA_c (sim_var 3 rfl rfl) (simA_one (sim_var 4 rfl rfl))))) k (fun S hG => Okc.at 1 rfl hG) (fun S H W => W.pick [] rfl) (fun v H q => q)
theorem ok_lowered (E : EnvF P K mg) : Cal CX0 P w K mg base 6 "lowered" (spP (TyA.c (tHouse (He.ga K "House")) (TyA.c (tT tInt) (TyA.one (tL tInt)))) (fun a => m_lowered a.1 a.2.1 a.2.2) (tT tInt)) := cal_okX (okX_lowered E)
theorem sc__piece : FnScope ["house", "state", "lamp", "mask", "place", "hue"] ["house", "state", "lamp"] (defScope (top 42)) := ⟨rfl, rfl, rfl, by decide +kernel, rfl, by decide +kernel, by decide +kernel⟩
theorem ok__piece (E : EnvF P K mg) : Cal CX0 P w K mg base 2 "_piece" (spP (TyA.c (tHouse (He.ga K "House")) (TyA.c (tT tInt) (TyA.one tInt))) (fun a => m__piece a.1 a.2.1 a.2.2) (tT tInt)) := by
  refine cal_mk (k := 1) E.d__piece sc__piece (fun vs H Q E h => by obtain ⟨S, F, a, r, ⟨_, _, rfl, _, ⟨_, _, rfl, _, ⟨_, rfl, _⟩⟩⟩, _⟩ := h; rfl) (fun _ _ _ _ _ _ us hl => match us, hl with | [_, _, _], _ => rfl) ?_
  rintro f cdv A outer s H vs Q EX hr ⟨S, F, ⟨house702, state703, lamp704⟩, out, ⟨v0, _, rfl, h0, ⟨v1, _, rfl, h1, ⟨v2, rfl, h2⟩⟩⟩, W, hm, k⟩
  refine ⟨_, PSs.nox (pss_cons (ps_set (i := 3) sc__piece.nd rfl (Or.inr rfl) (pe_op op_or (pe_ix (ix_listK (K := K)) (pe_cal (ok_above_masks E) (by exact hr) (by first | decide | omega) (by rfl) pass0 (pa_cons (pv 0) pa_nil)) (pv 2) (by intro _ _; rfl)) (pe_op op_shl pe_int (pv 2)))) (pss_cons (ps_ret (pe_callTy (call_tupleK (K := K)) rfl (by exact E.g_tuple) (by decide +kernel) (pa_cons (pe_lc (own := [("place", 4), ("hue", 5)]) rfl sc__piece.nd (pi_enumT (K := K) rfl (by exact E.g_enumerate) (pa_cons (pv 1) pa_nil)) (blkOk_by (N := ["house", "state", "lamp", "mask", "place", "hue"]) (sc := defScope (top 42)) (by decide +kernel)) (fun _ _ _ _ _ => (pg_tupK (K := K) (n := 2) rfl (pgs_cons (pg_name (i := 4) sc__piece.nd rfl (Or.inl rfl)) (pgs_cons (pg_name (i := 5) sc__piece.nd rfl (Or.inl rfl)) pgs_nil)))) (fun _ _ _ _ _ => pts_nil) (fun _ _ _ _ _ => (pe_ifExp (pt_truthK (K := K) (pe_op op_and (pv 3) (pe_op op_shl pe_int (pv 4))) (by intro _; rfl)) (pv 5) pe_int))) pa_nil))) pss_nil)), ?_⟩
  have hG : Okc [fS S, (tHouse (He.ga K "House")).f house702 v0, (tT tInt).f state703 v1, tInt.f lamp704 v2] S := ⟨Same.refl _, h0, h1, h2, True.intro⟩
  have W : Wd S (([] : Ow) ++ F) H := W
  show (_ : TS) _ ([some v0, some v1, some v2, none, none, none] : L2.St) H
  refine k_set hG W hm (sim_or (sim_ix (sim_call (simA_one (sim_var 1 rfl rfl))) (sim_var 3 rfl rfl)) (sim_shl sim_int (sim_var 3 rfl rfl))) ?_
  clear hG W hm
  intro mask712 v713 S H hG W hm
  exact k_ret hG W hm (sim_tuple (SimF.sim (simF_lc (simI_enumT (sim_var 3 rfl rfl)) tg_pair (fun _ => rfl) (List.nil_sublist _) (fun a w => simT_yes) (fun a w => (sim_if (simT_truI (sim_and (sim_var 2 rfl rfl) (sim_shl sim_int (sim_var 0 rfl rfl)))) (sim_var 1 rfl rfl) sim_int))))) (fun v S H hG W hr => k v S H (Okc.at 1 rfl hG) (W.pick [] rfl) hr)
theorem sc_pieces : FnScope ["house", "state", "lamp"] ["house", "state"] (defScope (top 43)) := ⟨rfl, rfl, rfl, by decide +kernel, rfl, by decide +kernel, by decide +kernel⟩
theorem ok_pieces (E : EnvF P K mg) : Cal CX0 P w K mg base 6 "pieces" (spF (TyA.c (tHouse (He.ga K "House")) (TyA.one (tT tInt))) (fun a => m_pieces a.1 a.2) (oL (tT tInt))) := by
  refine cal_mk (k := 5) E.d_pieces sc_pieces (fun vs H Q E h => by obtain ⟨S, F, a, r, ⟨_, _, rfl, _, ⟨_, rfl, _⟩⟩, _⟩ := h; rfl) (fun _ _ _ _ _ _ us hl => match us, hl with | [_, _], _ => rfl) ?_
  rintro f cdv A outer s H vs Q EX hr ⟨S, F, ⟨house723, state724⟩, out, ⟨v0, _, rfl, h0, ⟨v1, rfl, h1⟩⟩, W, hm, k⟩
  refine ⟨_, PSs.nox (pss_cons (ps_expr (pe_cal (ok_need_state E) (by exact hr) (by first | decide | omega) (by rfl) pass0 (pa_cons (pv 0) (pa_cons (pv 1) pa_nil)))) (pss_cons (ps_ret (pe_lc (own := [("lamp", 2)]) rfl sc_pieces.nd (pi_listK (K := K) (pe_cal (ok_lowest_lit E) (by exact hr) (by first | decide | omega) (by rfl) pass0 (pa_cons (pv 0) (pa_cons (pv 1) pa_nil)))) (blkOk_by (N := ["house", "state", "lamp"]) (sc := defScope (top 43)) (by decide +kernel)) (fun _ _ _ _ _ => (pg_name (i := 2) sc_pieces.nd rfl (Or.inl rfl))) (fun _ _ _ _ _ => pts_nil) (fun _ _ _ _ _ => (pe_cal (ok__piece E) (by exact hr) (by first | decide | omega) (by rfl) pass0 (pa_cons (pv 0) (pa_cons (pv 1) (pa_cons (pv 2) pa_nil))))))) pss_nil)), ?_⟩
  have hG : Okc [fS S, (tHouse (He.ga K "House")).f house723 v0, (tT tInt).f state724 v1] S := ⟨Same.refl _, h0, h1, True.intro⟩
  have W : Wd S (([] : Ow) ++ F) H := W
  show (_ : TS) _ ([some v0, some v1, none] : L2.St) H
  refine k_drop hG W hm (sim_call (simA_c (sim_var 1 rfl rfl) (simA_one (sim_var 2 rfl rfl)))) ?_
  clear hG W hm
  intro z728 S H hG W hm
  exact k_retF hG W hm (simF_lc (simI_list (SimF.sim (simF_call (simA_c (sim_var 1 rfl rfl) (simA_one (sim_var 2 rfl rfl)))))) tg_name (fun _ => rfl) (List.nil_sublist _) (fun a w => simT_yes) (fun a w => (sim_call (simA_c (sim_var 2 rfl rfl) (simA_c (sim_var 3 rfl rfl) (simA_one (sim_var 0 rfl rfl))))))) (fun p c S H hG W => k p c S H (Okc.at 1 rfl hG) (W.pick [0] rfl) (Okc.at 0 rfl hG))
theorem sc_is_single : FnScope ["house", "state"] ["house", "state"] (defScope (top 44)) := ⟨rfl, rfl, rfl, by decide +kernel, rfl, by decide +kernel, by decide +kernel⟩
theorem ok_is_single (E : EnvF P K mg) : Cal CX0 P w K mg base 6 "is_single" (spP (TyA.c (tHouse (He.ga K "House")) (TyA.one (tT tInt))) (fun a => m_is_single a.1 a.2) tBool) := by
  refine cal_mk (k := 5) E.d_is_single sc_is_single (fun vs H Q E h => by obtain ⟨S, F, a, r, ⟨_, _, rfl, _, ⟨_, rfl, _⟩⟩, _⟩ := h; rfl) (fun _ _ _ _ _ _ us hl => match us, hl with | [_, _], _ => rfl) ?_
  rintro f cdv A outer s H vs Q EX hr ⟨S, F, ⟨house739, state740⟩, out, ⟨v0, _, rfl, h0, ⟨v1, rfl, h1⟩⟩, W, hm, k⟩
  refine ⟨_, PSs.nox (pss_cons (ps_expr (pe_cal (ok_need_state E) (by exact hr) (by first | decide | omega) (by rfl) pass0 (pa_cons (pv 0) (pa_cons (pv 1) pa_nil)))) (pss_cons (ps_ret (pe_cmpR op_eq (pe_callB (call_lenK (K := K)) rfl (by exact E.g_len) boot_len (pa_cons (pe_cal (ok_lowest_lit E) (by exact hr) (by first | decide | omega) (by rfl) pass0 (pa_cons (pv 0) (pa_cons (pv 1) pa_nil))) pa_nil)) pe_int (nomark _))) pss_nil)), ?_⟩
  have hG : Okc [fS S, (tHouse (He.ga K "House")).f house739 v0, (tT tInt).f state740 v1] S := ⟨Same.refl _, h0, h1, True.intro⟩
  have W : Wd S (([] : Ow) ++ F) H := W
  show (_ : TS) _ ([some v0, some v1] : L2.St) H
  refine k_drop hG W hm (sim_call (simA_c (sim_var 1 rfl rfl) (simA_one (sim_var 2 rfl rfl)))) ?_
  clear hG W hm
  intro z744 S H hG W hm
  exact k_ret hG W hm (sim_eqI (sim_len (SimF.sim (simF_call (simA_c (sim_var 1 rfl rfl) (simA_one (sim_var 2 rfl rfl)))))) sim_int) (fun v S H hG W hr => k v S H (Okc.at 0 rfl hG) (W.pick [] rfl) hr)
theorem sc__law_purse : FnScope ["_law_script", "_law_place", "_law_seed", "_law_k", "_law_rest"] ["_law_script", "_law_place"] (defScope (top 46)) := ⟨rfl, rfl, rfl, by decide +kernel, rfl, by decide +kernel, by decide +kernel⟩
theorem ok__law_purse (E : EnvF P K mg) : Cal CX0 P w K mg base 1 "_law_purse" (spF (TyA.c (tScr K) (TyA.one tInt)) (fun a => m__law_purse a.1 a.2) (oL tInt)) := by
  refine cal_mk (k := 0) E.d__law_purse sc__law_purse (fun vs H Q E h => by obtain ⟨S, F, a, r, ⟨_, _, rfl, _, ⟨_, rfl, _⟩⟩, _⟩ := h; rfl) (fun _ _ _ _ _ _ us hl => match us, hl with | [_, _], _ => rfl) ?_
  rintro f cdv A outer s H vs Q EX hr ⟨S, F, ⟨script751, place752⟩, out, ⟨v0, _, rfl, h0, ⟨v1, rfl, h1⟩⟩, W, hm, k⟩
  refine ⟨_, PSs.nox (pss_cons (ps_set (i := 2) sc__law_purse.nd rfl (Or.inl rfl) (pe_op op_add (pe_op op_mul pe_int (pe_op op_add (pv 1) pe_int)) (pe_op op_mod (pe_callTy call_int1 rfl (by exact E.g_int) (by decide +kernel) (pa_cons (pe_callB (cr_sumK (K := K)) rfl (by exact E.g_sum) (by decide +kernel) (pa_cons (pe_slice (sl_listK (K := K)) (pv 0) po_none (po_some pe_int)) pa_nil)) pa_nil)) pe_int))) (pss_cons (ps_for PassesOwn.never rfl (pi_range3 rfl (by exact E.g_range) (pa_cons (pv 1) (pa_cons (pe_callB (call_min2 rfl) rfl (by exact E.g_min) (by decide +kernel) (pa_cons pe_int (pa_cons (pe_callB (call_lenK (K := K)) rfl (by exact E.g_len) boot_len (pa_cons (pv 0) pa_nil)) pa_nil))) (pa_cons pe_int pa_nil)))) (pg_name (i := 3) sc__law_purse.nd rfl (Or.inl rfl)) (pss_cons (ps_set (i := 2) sc__law_purse.nd rfl (Or.inl rfl) (pe_op op_mod (pe_callTy call_int1 rfl (by exact E.g_int) (by decide +kernel) (pa_cons (pe_op op_add (pe_op op_mul (pv 2) pe_int) (pe_ix (ix_listK (K := K)) (pv 0) (pv 3) (by intro _ _; rfl))) pa_nil)) pe_int)) pss_nil)) (pss_cons (ps_set (i := 4) sc__law_purse.nd rfl (Or.inl rfl) pe_int) (pss_cons (ps_if (PW.pt (pw_and (pt_cmpR op_lt (pv 1) (pe_callB (call_lenK (K := K)) rfl (by exact E.g_len) boot_len (pa_cons (pv 0) pa_nil)) (nomark _)) (pw_and1 (pt_cmpR op_ge (pe_callB call_abs rfl (by exact E.g_abs) (by decide +kernel) (pa_cons (pe_ix (ix_listK (K := K)) (pv 0) (pv 1) (by intro _ _; rfl)) pa_nil)) (pe_op op_pow pe_int pe_int) (nomark _))))) (pss_cons (ps_set (i := 4) sc__law_purse.nd rfl (Or.inl rfl) (pe_callB call_abs rfl (by exact E.g_abs) (by decide +kernel) (pa_cons (pe_ix (ix_listK (K := K)) (pv 0) (pv 1) (by intro _ _; rfl)) pa_nil))) pss_nil) pss_nil) (pss_cons (ps_ret (pe_lst (pa_cons (pv 4) (pa_cons (pv 2) (pa_cons pe_int pa_nil))))) pss_nil))))), ?_⟩
  have hG : Okc [fS S, (tScr K).f script751 v0, tInt.f place752 v1] S := ⟨Same.refl _, h0, h1, True.intro⟩
  have W : Wd S (([] : Ow) ++ F) H := W
  show (_ : TS) _ ([some v0, some v1, none, none, none] : L2.St) H
  refine k_set hG W hm (sim_add (sim_mulS sim_int (sim_add (sim_var 2 rfl rfl) sim_int)) (sim_mod (sim_intI (sim_sum (SimF.sim (simF_sliceS (sim_var 1 rfl rfl) simO_no (simO_part sim_int))))) sim_int)) ?_
  clear hG W hm
  intro seed766 v767 S H hG W hm
  refine k_fold (σJ := (fun (bx775 : Int) (wx775 : V × Option V) => ([some v0, some v1, some (wx775.1), wx775.2, none] : L2.St))) (OJ := (fun (bx775 : Int) (wx775 : V × Option V) => ([] : Ow))) (Fb := (fun (bx775 : Int) (wx775 : V × Option V) => ([tInt.f bx775 (wx775.1)] : List Fact))) (σT := (fun b w (tx775 : V) => ((fun (bx775 : Int) (wx775 : V × Option V) => ([some v0, some v1, some (wx775.1), wx775.2, none] : L2.St)) b w).set 3 (some tx775))) ((v767, (none)) : V × Option V) hG W hm (simI_range3 (sim_var 3 rfl rfl) (sim_min2 sim_int (sim_lenS (sim_var 2 rfl rfl))) sim_int) (fun b w => tg_name) (fun b w => List.nil_sublist _) rfl rfl (fun S h => (Okc.cons (Okc.at 0 rfl h) h)) ?_ ?_
  · clear hG W hm
    intro S1 y776 bx775 b' wx775 tx775 S H hm hG W N hN
    refine k_set hG W hm (sim_mod (sim_intI (sim_add (sim_mulS (sim_var 1 rfl rfl) sim_int) (sim_ixS (sim_var 5 rfl rfl) (sim_var 0 rfl rfl)))) sim_int) ?_
    clear hG W hm
    intro seed786 v787 S H hG W hm
    cases hm
    refine y_next ?_
    exact hN (v787, (some (tx775))) _ _ (Okc.cons (Okc.at 0 rfl hG) (Okc.dr 3 hG)) (W.pick [] rfl)
  · clear hG W hm
    intro bx775 wx775 S H hm hG W
    refine k_set hG W hm sim_int ?_
    clear hG W hm
    intro rest788 v789 S H hG W hm
    refine k_ifj (σJ := (fun (bx791 : Int) (wx791 : V) => ([some v0, some v1, some (wx775.1), wx775.2, some (wx791)] : L2.St))) (OJ := (fun (bx791 : Int) (wx791 : V) => ([] : Ow))) (Fb := (fun (bx791 : Int) (wx791 : V) => ([tInt.f bx791 (wx791)] : List Fact))) hG W hm (simT_and (simT_test (sim_lt (sim_var 5 rfl rfl) (sim_lenS (sim_var 4 rfl rfl)))) (simT_test (sim_ge (sim_abs (sim_ixS (sim_var 4 rfl rfl) (sim_var 5 rfl rfl))) (sim_pow sim_int sim_int)))) ?_ ?_ ?_
    · clear hG W hm
      intro S H _ hm hG W N hN
      refine k_set hG W hm (sim_abs (sim_ixS (sim_var 4 rfl rfl) (sim_var 5 rfl rfl))) ?_
      clear hG W hm
      intro rest806 v807 S H hG W hm
      refine y_next ?_
      cases hm
      exact hN v807 _ _ (Okc.cons (Okc.at 0 rfl hG) (Okc.dr 1 hG)) (W.pick [] rfl)
    · clear hG W hm
      intro S H _ hm hG W N hN
      refine y_next ?_
      cases hm
      exact hN v789 _ _ (Okc.cons (Okc.at 0 rfl hG) (Okc.dr 0 hG)) (W.pick [] rfl)
    · clear hG W hm
      intro bx791 wx791 S H hG W hm
      exact k_retF hG W hm (simF_lst (simA_ln (sim_var 0 rfl rfl) (simA_ln (sim_var 2 rfl rfl) (simA_ln sim_int simA_ln0)))) (fun p c S H hG W => k p c S H (Okc.at 5 rfl hG) (W.pick [0] rfl) (Okc.at 0 rfl hG))
theorem sc__law_draw : FnScope ["_law_purse_here", "_law_size", "_law_digit", "_law_mixed"] ["_law_purse_here", "_law_size"] (defScope (top 47)) := ⟨rfl, rfl, rfl, by decide +kernel, rfl, by decide +kernel, by decide +kernel⟩
theorem ok__law_draw (E : EnvF P K mg) : Cal CX0 P w K mg base 1 "_law_draw" (spO 0 (oL tInt) (TyA.one tInt) (fun g a => m__law_draw g a) tInt) := by
  refine cal_mk (k := 0) E.d__law_draw sc__law_draw (fun vs H Q E h => by obtain ⟨S, F, p, c, g, a, r, hn, hA, _⟩ := h; obtain ⟨_, rfl, _⟩ := (spO_vs2_0 hn hA); rfl) (fun _ _ _ _ _ _ us hl => match us, hl with | [_, _], _ => rfl) ?_
  rintro f cdv A outer s H vs Q EX hr ⟨S, F, p0, c0, purse_here814, size815, out, hn, hA, hp0, W, hm, k⟩
  obtain ⟨v1, rfl, h1⟩ := (spO_vs2_0 hn hA)
  refine ⟨_, PSs.nox (pss_cons (ps_if (pt_cmpR op_gt (pe_ix (ix_listK (K := K)) (pv 0) pe_int (by intro _ _; rfl)) pe_int (nomark _)) (pss_cons (ps_set (i := 2) sc__law_draw.nd rfl (Or.inl rfl) (pe_op op_mod (pe_callTy call_int1 rfl (by exact E.g_int) (by decide +kernel) (pa_cons (pe_ix (ix_listK (K := K)) (pv 0) pe_int (by intro _ _; rfl)) pa_nil)) (pv 1))) (pss_cons (ps_asg (pe_op op_fdiv (pe_ix (ix_listK (K := K)) (pv 0) pe_int (by intro _ _; rfl)) (pv 1)) (pg_sub (pv 0) pe_int set_list)) (pss_cons (ps_ret (pv 2)) pss_nil))) pss_nil) (pss_cons (ps_asg (pe_op op_add (pe_ix (ix_listK (K := K)) (pv 0) pe_int (by intro _ _; rfl)) pe_int) (pg_sub (pv 0) pe_int set_list)) (pss_cons (ps_set (i := 3) sc__law_draw.nd rfl (Or.inl rfl) (pe_op op_mod (pe_callTy call_int1 rfl (by exact E.g_int) (by decide +kernel) (pa_cons (pe_op op_add (pe_op op_mul (pe_ix (ix_listK (K := K)) (pv 0) pe_int (by intro _ _; rfl)) pe_int) (pe_op op_mul (pe_ix (ix_listK (K := K)) (pv 0) pe_int (by intro _ _; rfl)) pe_int)) pa_nil)) pe_int)) (pss_cons (ps_asg (pe_op op_mod (pe_callTy call_int1 rfl (by exact E.g_int) (by decide +kernel) (pa_cons (pe_op op_add (pe_op op_mul (pv 3) pe_int) (pe_op op_fdiv (pv 3) pe_int)) pa_nil)) pe_int) (pg_sub (pv 0) pe_int set_list)) (pss_cons (ps_ret (pe_op op_mod (pe_callTy call_int1 rfl (by exact E.g_int) (by decide +kernel) (pa_cons (pe_op op_fdiv (pe_ix (ix_listK (K := K)) (pv 0) pe_int (by intro _ _; rfl)) pe_int) pa_nil)) (pv 1))) pss_nil))))), ?_⟩
  have hG : Okc [fS S, (oL tInt).f purse_here814 p0 c0, tInt.f size815 v1] S := ⟨Same.refl _, hp0, h1, True.intro⟩
  have W : Wd S ([c0] ++ F) H := W
  show (_ : TS) _ ([some (.ref p0), some v1, none, none] : L2.St) H
  refine k_if hG W hm (simT_test (sim_gt (sim_ix (sim_own 0 1 rfl rfl rfl) sim_int) sim_int)) ?_ ?_
  · clear hG W hm
    intro S H hG W hm
    refine k_set hG W hm (sim_mod (sim_intI (sim_ix (sim_own 0 1 rfl rfl rfl) sim_int)) (sim_var 2 rfl rfl)) ?_
    clear hG W hm
    intro digit825 v826 S H hG W hm
    refine k_put hG W hm 0 2 rfl rfl rfl (sim_div (sim_ix (sim_own 0 2 rfl rfl rfl) sim_int) (sim_var 3 rfl rfl)) sim_int ?_
    clear hG W hm
    intro purse_here833 c834 S H hG W hm
    refine e_ret ?_
    refine c_pure hG W hm (sim_var 1 rfl rfl) ?_
    clear hG W hm
    intro r835 v S H hG W hm
    cases hm
    exact k _ _ _ _ (Okc.at 3 rfl hG) (W.pick [0] rfl) (Okc.at 1 rfl hG) (Okc.at 0 rfl hG)
  · clear hG W hm
    intro S H hG W hm
    refine y_next ?_
    refine k_put hG W hm 0 1 rfl rfl rfl (sim_add (sim_ix (sim_own 0 1 rfl rfl rfl) sim_int) sim_int) sim_int ?_
    clear hG W hm
    intro purse_here842 c843 S H hG W hm
    refine k_set hG W hm (sim_mod (sim_intI (sim_add (sim_mulS (sim_ix (sim_own 0 0 rfl rfl rfl) sim_int) sim_int) (sim_mulS (sim_ix (sim_own 0 0 rfl rfl rfl) sim_int) sim_int))) sim_int) ?_
    clear hG W hm
    intro mixed856 v857 S H hG W hm
    refine k_put hG W hm 0 1 rfl rfl rfl (sim_mod (sim_intI (sim_add (sim_mulS (sim_var 0 rfl rfl) sim_int) (sim_div (sim_var 0 rfl rfl) sim_int))) sim_int) sim_int ?_
    clear hG W hm
    intro purse_here868 c869 S H hG W hm
    refine e_ret ?_
    refine c_pure hG W hm (sim_mod (sim_intI (sim_div (sim_ix (sim_own 0 0 rfl rfl rfl) sim_int) sim_int)) (sim_var 5 rfl rfl)) ?_
    clear hG W hm
    intro r876 v S H hG W hm
    cases hm
    exact k _ _ _ _ (Okc.at 4 rfl hG) (W.pick [0] rfl) (Okc.at 1 rfl hG) (Okc.at 0 rfl hG)
theorem sc__law_wires : FnScope ["_law_purse_here", "_law_count", "_law_left", "_law_line", "_law_k", "_law_dense", "_law_direct", "_law_later"] ["_law_purse_here", "_law_count"] (defScope (top 48)) := ⟨rfl, rfl, rfl, by decide +kernel, rfl, by decide +kernel, by decide +kernel⟩
theorem ok__law_wires (E : EnvF P K mg) : Cal CX0 P w K mg base 2 "_law_wires" (spO 0 (oL tInt) (TyA.one tInt) (fun g a => m__law_wires g a) (tLstA (TyA.c (tL tInt) (TyA.one (tL (tL tInt)))))) := by
  refine cal_mk (k := 1) E.d__law_wires sc__law_wires (fun vs H Q E h => by obtain ⟨S, F, p, c, g, a, r, hn, hA, _⟩ := h; obtain ⟨_, rfl, _⟩ := (spO_vs2_0 hn hA); rfl) (fun _ _ _ _ _ _ us hl => match us, hl with | [_, _], _ => rfl) ?_
  rintro f cdv A outer s H vs Q EX hr ⟨S, F, p0, c0, purse_here877, count878, out, hn, hA, hp0, W, hm, k⟩
  obtain ⟨v1, rfl, h1⟩ := (spO_vs2_0 hn hA)
  refine ⟨_, PSs.nox (pss_cons (ps_set (i := 2) sc__law_wires.nd rfl (Or.inl rfl) (pe_listRg rfl rfl (by exact E.g_list) (prg_1 rfl (by exact E.g_range) (pv 1)))) (pss_cons (ps_set (i := 3) sc__law_wires.nd rfl (Or.inl rfl) (pe_lst pa_nil)) (pss_cons (ps_for PassesOwn.never rfl (pi_range1 rfl (by exact E.g_range) (pa_cons (pv 1) pa_nil)) (pg_name (i := 4) sc__law_wires.nd rfl (Or.inl rfl)) (pss_cons (ps_expr (pe_bmK (K := K) PySem.F.plainAttrs_list PySem.F.slot_list_append PySem.F.type_list_append mt_append (pv 3) (pa_cons (pe_bmK (K := K) PySem.F.plainAttrs_list PySem.F.slot_list_pop PySem.F.type_list_pop mt_popAt (pv 2) (pa_cons (pe_cal (ok__law_draw E) (by exact hr) (by first | decide | omega) (by rfl) pass0 (pa_cons (pv 0) (pa_cons (pe_callB (call_lenK (K := K)) rfl (by exact E.g_len) boot_len (pa_cons (pv 2) pa_nil)) pa_nil))) pa_nil)) pa_nil))) pss_nil)) (pss_cons (ps_set (i := 5) sc__law_wires.nd rfl (Or.inl rfl) (pe_cal (ok__law_draw E) (by exact hr) (by first | decide | omega) (by rfl) pass0 (pa_cons (pv 0) (pa_cons pe_int pa_nil)))) (pss_cons (ps_setLc (i := 6) (own := [("_law_k", 4)]) rfl sc__law_wires.nd rfl rfl (sw_true rfl rfl rfl (by decide +kernel)) (pi_range1 rfl (by exact E.g_range) (pa_cons (pv 1) pa_nil)) (blkOk_by (N := ["_law_purse_here", "_law_count", "_law_left", "_law_line", "_law_k", "_law_dense", "_law_direct", "_law_later"]) (sc := defScope (top 48)) (by decide +kernel)) (fun _ _ _ _ _ => (pg_name (i := 4) sc__law_wires.nd rfl (Or.inl rfl))) (fun _ _ _ _ _ => pts_nil) (fun _ _ _ _ _ => (pe_lst pa_nil))) (pss_cons (ps_for PassesOwn.never rfl (pi_range1 rfl (by exact E.g_range) (pa_cons (pv 1) pa_nil)) (pg_name (i := 4) sc__law_wires.nd rfl (Or.inl rfl)) (pss_cons (ps_for PassesOwn.never rfl (pi_listK (K := K) (pe_slice (sl_listK (K := K)) (pv 3) (po_some (pe_op op_add (pv 4) pe_int)) po_none)) (pg_name (i := 7) sc__law_wires.nd rfl (Or.inl rfl)) (pss_cons (ps_if (pt_cmpR op_lt (pe_cal (ok__law_draw E) (by exact hr) (by first | decide | omega) (by rfl) pass0 (pa_cons (pv 0) (pa_cons pe_int pa_nil))) (pv 5) (nomark _)) (pss_cons (ps_expr (pe_bmK (K := K) PySem.F.plainAttrs_list PySem.F.slot_list_append PySem.F.type_list_append mt_append (pe_ix (ix_listK (K := K)) (pv 6) (pe_ix (ix_listK (K := K)) (pv 3) (pv 4) (by intro _ _; rfl)) (by intro _ _; rfl)) (pa_cons (pv 7) pa_nil))) pss_nil) pss_nil) pss_nil)) pss_nil)) (pss_cons (ps_ret (pe_lst (pa_cons (pv 3) (pa_cons (pv 6) pa_nil)))) pss_nil))))))), ?_⟩
  have hG : Okc [fS S, (oL tInt).f purse_here877 p0 c0, tInt.f count878 v1] S := ⟨Same.refl _, hp0, h1, True.intro⟩
  have W : Wd S ([c0] ++ F) H := W
  show (_ : TS) _ ([some (.ref p0), some v1, none, none, none, none, none, none] : L2.St) H
  refine k_setO hG W hm (simF_lrange1 (sim_var 2 rfl rfl)) ?_
  clear hG W hm
  intro left880 p882 c883 S H hG W hm
  refine k_setO hG W hm (simF_lst (T := tInt) simA_ln0) ?_
  clear hG W hm
  intro line884 p886 c887 S H hG W hm
  refine k_fold (σJ := (fun (bx889 : (List Int) × (List Int) × (List Int)) (wx889 : List Cell × List Cell × List Cell × Option V) => ([some (.ref p0), some v1, some (.ref p882), some (.ref p886), wx889.2.2.2, none, none, none] : L2.St))) (OJ := (fun (bx889 : (List Int) × (List Int) × (List Int)) (wx889 : List Cell × List Cell × List Cell × Option V) => ([wx889.2.2.1, wx889.2.1, wx889.1] : Ow))) (Fb := (fun (bx889 : (List Int) × (List Int) × (List Int)) (wx889 : List Cell × List Cell × List Cell × Option V) => ([(oL tInt).f bx889.1 p0 (wx889.1), (oL tInt).f bx889.2.1 p882 (wx889.2.1), (oL tInt).f bx889.2.2 p886 (wx889.2.2.1)] : List Fact))) (σT := (fun b w (tx889 : V) => ((fun (bx889 : (List Int) × (List Int) × (List Int)) (wx889 : List Cell × List Cell × List Cell × Option V) => ([some (.ref p0), some v1, some (.ref p882), some (.ref p886), wx889.2.2.2, none, none, none] : L2.St)) b w).set 4 (some tx889))) ((c0, c883, c887, (none)) : List Cell × List Cell × List Cell × Option V) hG W hm (simI_range1 (sim_var 4 rfl rfl)) (fun b w => tg_name) (fun b w => List.nil_sublist _) rfl rfl (fun S h => (Okc.cons (Okc.at 3 rfl h) (Okc.cons (Okc.at 1 rfl h) (Okc.cons (Okc.at 0 rfl h) h)))) ?_ ?_
  · clear hG W hm
    intro S1 y890 bx889 b' wx889 tx889 S H hm hG W N hN
    refine e_drop ?_
    refine e_bm ?_
    refine c_ref rfl ?_
    refine ⟨ty_list hG W 0 3 rfl rfl, ?_⟩
    refine e_cons ?_
    refine e_bm ?_
    refine c_ref rfl ?_
    refine ⟨ty_list hG W 1 2 rfl rfl, ?_⟩
    refine e_cons ?_
    refine e_call ?_
    refine e_cons ?_
    refine c_ref rfl ?_
    refine e_cons ?_
    refine c_pure hG W hm (sim_len (sim_own 1 2 rfl rfl rfl)) ?_
    clear hG W hm
    intro x893 v894 S H hG W hm
    refine e_nil ?_
    refine v_callO (g := bx889.1) (a := x893) hG W hm 2 2 rfl rfl rfl (fun S h => (ra_one (Okc.at 0 rfl h))) ?_
    clear hG W hm
    intro r895 v896 c897 S H hG W hm
    refine e_nil ?_
    refine v_popAt hG W hm 1 5 0 rfl rfl rfl ?_
    clear hG W hm
    intro r898 v899 c900 S H hG W hm
    refine e_nil ?_
    refine v_app hG W hm 0 8 0 rfl rfl rfl ?_
    clear hG W hm
    intro c902 S H hG W hm
    revert hG hm; generalize (bx889.2.2 ++ [r898.1]) = line901; intro hG hm
    cases hm
    refine y_next ?_
    exact hN (c897, c900, c902, (some (tx889))) _ _ (Okc.cons (Okc.at 4 rfl hG) (Okc.cons (Okc.at 2 rfl hG) (Okc.cons (Okc.at 0 rfl hG) (Okc.dr 10 hG)))) (W.pick [0, 0, 0] rfl)
  · clear hG W hm
    intro bx889 wx889 S H hm hG W
    refine e_set ?_
    refine e_call ?_
    refine e_cons ?_
    refine c_ref rfl ?_
    refine e_cons ?_
    refine c_pure hG W hm sim_int ?_
    clear hG W hm
    intro x903 v904 S H hG W hm
    refine e_nil ?_
    refine v_callO (g := bx889.1) (a := x903) hG W hm 2 1 rfl rfl rfl (fun S h => (ra_one (Okc.at 0 rfl h))) ?_
    clear hG W hm
    intro r905 v906 c907 S H hG W hm
    refine k_setO hG W hm (simF_lcLL (simI_range1 (sim_var 10 rfl rfl)) tg_name (fun _ => rfl) (List.nil_sublist _) (fun a w => simT_yes) (fun a w => (simF_lst (T := tInt) simA_ln0))) ?_
    clear hG W hm
    intro direct911 p912 c913 S H hG W hm
    refine k_fold (σJ := (fun (bx915 : (List Int) × (List (List Int))) (wx915 : List Cell × List Cell × Option V × Option V) => ([some (.ref p0), some v1, some (.ref p882), some (.ref p886), wx915.2.2.1, some (v906), some (.ref p912), wx915.2.2.2] : L2.St))) (OJ := (fun (bx915 : (List Int) × (List (List Int))) (wx915 : List Cell × List Cell × Option V × Option V) => ([wx915.2.1, wx889.2.2.1, wx889.2.1, wx915.1] : Ow))) (Fb := (fun (bx915 : (List Int) × (List (List Int))) (wx915 : List Cell × List Cell × Option V × Option V) => ([(oL tInt).f bx915.1 p0 (wx915.1), (oLL tInt).f bx915.2 p912 (wx915.2.1)] : List Fact))) (σT := (fun b w (tx915 : V) => ((fun (bx915 : (List Int) × (List (List Int))) (wx915 : List Cell × List Cell × Option V × Option V) => ([some (.ref p0), some v1, some (.ref p882), some (.ref p886), wx915.2.2.1, some (v906), some (.ref p912), wx915.2.2.2] : L2.St)) b w).set 4 (some tx915))) ((c907, c913, (wx889.2.2.2), (none)) : List Cell × List Cell × Option V × Option V) hG W hm (simI_range1 (sim_var 11 rfl rfl)) (fun b w => tg_name) (fun b w => List.nil_sublist _) rfl rfl (fun S h => (Okc.cons (Okc.at 2 rfl h) (Okc.cons (Okc.at 0 rfl h) h))) ?_ ?_
    · clear hG W hm
      intro S1 y916 bx915 b' wx915 tx915 S H hm hG W N hN
      refine k_fold (σJ := (fun (bx924 : (List Int) × (List (List Int))) (wx924 : List Cell × List Cell × Option V) => ([some (.ref p0), some v1, some (.ref p882), some (.ref p886), some (tx915), some (v906), some (.ref p912), wx924.2.2] : L2.St))) (OJ := (fun (bx924 : (List Int) × (List (List Int))) (wx924 : List Cell × List Cell × Option V) => ([wx924.2.1, wx889.2.2.1, wx889.2.1, wx924.1] : Ow))) (Fb := (fun (bx924 : (List Int) × (List (List Int))) (wx924 : List Cell × List Cell × Option V) => ([(oL tInt).f bx924.1 p0 (wx924.1), (oLL tInt).f bx924.2 p912 (wx924.2.1)] : List Fact))) (σT := (fun b w (tx924 : V) => ((fun (bx924 : (List Int) × (List (List Int))) (wx924 : List Cell × List Cell × Option V) => ([some (.ref p0), some v1, some (.ref p882), some (.ref p886), some (tx915), some (v906), some (.ref p912), wx924.2.2] : L2.St)) b w).set 7 (some tx924))) ((wx915.1, wx915.2.1, (wx915.2.2.2)) : List Cell × List Cell × Option V) hG W hm (simI_list (SimF.sim (simF_slice (sim_own 1 10 rfl rfl rfl) (simO_part (sim_add (sim_var 0 rfl rfl) sim_int)) simO_no))) (fun b w => tg_name) (fun b w => List.nil_sublist _) rfl rfl (fun S h => (Okc.cons (Okc.at 1 rfl h) (Okc.cons (Okc.at 2 rfl h) h))) ?_ ?_
      · clear hG W hm
        intro S1 y925 bx924 b' wx924 tx924 S H hm hG W N hN
        refine e_if ?_
        refine e_test ?_
        refine e_op ?_
        refine e_call ?_
        refine e_cons ?_
        refine c_ref rfl ?_
        refine e_cons ?_
        refine c_pure hG W hm sim_int ?_
        clear hG W hm
        intro x928 v929 S H hG W hm
        refine e_nil ?_
        refine v_callO (g := bx924.1) (a := x928) hG W hm 3 2 rfl rfl rfl (fun S h => (ra_one (Okc.at 0 rfl h))) ?_
        clear hG W hm
        intro r930 v931 c932 S H hG W hm
        refine c_ref rfl ?_
        refine x_op (σ := ([] : L2.St)) ?_
        refine c_pure hG W hm (sim_lt (sim_K 0 rfl) (sim_K 12 rfl)) ?_
        clear hG W hm
        intro x935 v936 S H hG W hm
        refine y_bool hG 0 rfl ?_
        refine c_ite hm ?_ ?_
        · clear hm
          intro _ hm
          refine k_app2 hG W hm 0 6 rfl rfl (sim_slotAt rfl) (sim_ix (sim_own 1 18 rfl rfl rfl) (sim_var 8 rfl rfl)) (sim_var 4 rfl rfl) ?_
          clear hG W hm
          intro xss942 c943 S H hG W hm
          refine y_next ?_
          cases hm
          refine y_next ?_
          exact hN (c932, c943, (some (tx924))) _ _ (Okc.cons (Okc.at 3 rfl hG) (Okc.cons (Okc.at 0 rfl hG) (Okc.dr 8 hG))) (W.pick [0, 0, 0, 0] rfl)
        · clear hm
          intro _ hm
          refine y_next ?_
          cases hm
          refine y_next ?_
          exact hN (c932, wx924.2.1, (some (tx924))) _ _ (Okc.cons (Okc.at 2 rfl hG) (Okc.cons (Okc.at 6 rfl hG) (Okc.dr 7 hG))) (W.pick [0, 0, 0, 0] rfl)
      · clear hG W hm
        intro bx924 wx924 S H hm hG W
        cases hm
        refine y_next ?_
        exact hN (wx924.1, wx924.2.1, (some (tx915)), (wx924.2.2)) _ _ (Okc.cons (Okc.at 0 rfl hG) (Okc.cons (Okc.at 1 rfl hG) (Okc.dr 5 hG))) (W.pick [0, 0, 0, 0] rfl)
    · clear hG W hm
      intro bx915 wx915 S H hm hG W
      refine k_frz hG W frz_L 1 8 rfl rfl ?_
      clear hG W
      intro S hG W
      refine k_frz hG W frz_LL 0 2 rfl rfl ?_
      clear hG W
      intro S hG W
      refine e_ret ?_
      refine c_pure hG W hm (sim_lstA (fun a vs S h => ln_c h (fun a vs S h => ln_one h)) (simA_c (sim_var 1 rfl rfl) (simA_one (sim_var 0 rfl rfl)))) ?_
      clear hG W hm
      intro r946 v S H hG W hm
      cases hm
      exact k _ _ _ _ (Okc.at 14 rfl hG) (W.pick [1] rfl) (Okc.at 3 rfl hG) (Okc.at 0 rfl hG)
theorem sc__law_pairs : FnScope ["_law_line", "_law_direct", "_law_pairs_here", "_law_upper", "_law_lower"] ["_law_line", "_law_direct"] (defScope (top 49)) := ⟨rfl, rfl, rfl, by decide +kernel, rfl, by decide +kernel, by decide +kernel⟩
theorem ok__law_pairs (E : EnvF P K mg) : Cal CX0 P w K mg base 1 "_law_pairs" (spP (TyA.c (tL tInt) (TyA.one (tL (tL tInt)))) (fun a => m__law_pairs a.1 a.2) (tL (tP tInt tInt))) := by
  refine cal_mk (k := 0) E.d__law_pairs sc__law_pairs (fun vs H Q E h => by obtain ⟨S, F, a, r, ⟨_, _, rfl, _, ⟨_, rfl, _⟩⟩, _⟩ := h; rfl) (fun _ _ _ _ _ _ us hl => match us, hl with | [_, _], _ => rfl) ?_
  rintro f cdv A outer s H vs Q EX hr ⟨S, F, ⟨line947, direct948⟩, out, ⟨v0, _, rfl, h0, ⟨v1, rfl, h1⟩⟩, W, hm, k⟩
  refine ⟨_, PSs.nox (pss_cons (ps_set (i := 2) sc__law_pairs.nd rfl (Or.inl rfl) (pe_lst pa_nil)) (pss_cons (ps_for PassesOwn.never rfl (pi_listK (K := K) (pv 0)) (pg_name (i := 3) sc__law_pairs.nd rfl (Or.inl rfl)) (pss_cons (ps_for PassesOwn.never rfl (pi_listK (K := K) (pe_ix (ix_listK (K := K)) (pv 1) (pv 3) (by intro _ _; rfl))) (pg_name (i := 4) sc__law_pairs.nd rfl (Or.inl rfl)) (pss_cons (ps_expr (pe_bmK (K := K) PySem.F.plainAttrs_list PySem.F.slot_list_append PySem.F.type_list_append mt_append (pv 2) (pa_cons (pe_tup (pa_cons (pv 3) (pa_cons (pv 4) pa_nil))) pa_nil))) pss_nil)) pss_nil)) (pss_cons (ps_ret (pv 2)) pss_nil))), ?_⟩
  have hG : Okc [fS S, (tL tInt).f line947 v0, (tL (tL tInt)).f direct948 v1] S := ⟨Same.refl _, h0, h1, True.intro⟩
  have W : Wd S (([] : Ow) ++ F) H := W
  show (_ : TS) _ ([some v0, some v1, none, none, none] : L2.St) H
  refine k_setO hG W hm (simF_lst (T := (tP tInt tInt)) simA_ln0) ?_
  clear hG W hm
  intro pairs_here949 p951 c952 S H hG W hm
  refine k_fold (σJ := (fun (bx953 : (List (Int × Int))) (wx953 : List Cell × Option V × Option V) => ([some v0, some v1, some (.ref p951), wx953.2.1, wx953.2.2] : L2.St))) (OJ := (fun (bx953 : (List (Int × Int))) (wx953 : List Cell × Option V × Option V) => ([wx953.1] : Ow))) (Fb := (fun (bx953 : (List (Int × Int))) (wx953 : List Cell × Option V × Option V) => ([(oL (tP tInt tInt)).f bx953 p951 (wx953.1)] : List Fact))) (σT := (fun b w (tx953 : V) => ((fun (bx953 : (List (Int × Int))) (wx953 : List Cell × Option V × Option V) => ([some v0, some v1, some (.ref p951), wx953.2.1, wx953.2.2] : L2.St)) b w).set 3 (some tx953))) ((c952, (none), (none)) : List Cell × Option V × Option V) hG W hm (simI_list (sim_var 2 rfl rfl)) (fun b w => tg_name) (fun b w => List.nil_sublist _) rfl rfl (fun S h => (Okc.cons (Okc.at 0 rfl h) h)) ?_ ?_
  · clear hG W hm
    intro S1 y954 bx953 b' wx953 tx953 S H hm hG W N hN
    refine k_fold (σJ := (fun (bx958 : (List (Int × Int))) (wx958 : List Cell × Option V) => ([some v0, some v1, some (.ref p951), some (tx953), wx958.2] : L2.St))) (OJ := (fun (bx958 : (List (Int × Int))) (wx958 : List Cell × Option V) => ([wx958.1] : Ow))) (Fb := (fun (bx958 : (List (Int × Int))) (wx958 : List Cell × Option V) => ([(oL (tP tInt tInt)).f bx958 p951 (wx958.1)] : List Fact))) (σT := (fun b w (tx958 : V) => ((fun (bx958 : (List (Int × Int))) (wx958 : List Cell × Option V) => ([some v0, some v1, some (.ref p951), some (tx953), wx958.2] : L2.St)) b w).set 4 (some tx958))) ((wx953.1, (wx953.2.2)) : List Cell × Option V) hG W hm (simI_list (sim_ix (sim_var 6 rfl rfl) (sim_var 0 rfl rfl))) (fun b w => tg_name) (fun b w => List.nil_sublist _) rfl rfl (fun S h => (Okc.cons (Okc.at 1 rfl h) h)) ?_ ?_
    · clear hG W hm
      intro S1 y959 bx958 b' wx958 tx958 S H hm hG W N hN
      refine k_app hG W hm 0 1 rfl rfl rfl (sim_pair (sim_var 3 rfl rfl) (sim_var 0 rfl rfl)) ?_
      clear hG W hm
      intro y963 c965 S H hG W hm
      revert hG hm; generalize (bx958 ++ [y963]) = pairs_here964; intro hG hm
      cases hm
      refine y_next ?_
      exact hN (c965, (some (tx958))) _ _ (Okc.cons (Okc.at 0 rfl hG) (Okc.dr 3 hG)) (W.pick [0] rfl)
    · clear hG W hm
      intro bx958 wx958 S H hm hG W
      cases hm
      refine y_next ?_
      exact hN (wx958.1, (some (tx953)), (wx958.2)) _ _ (Okc.cons (Okc.at 0 rfl hG) (Okc.dr 3 hG)) (W.pick [0] rfl)
  · clear hG W hm
    intro bx953 wx953 S H hm hG W
    refine k_frz hG W frz_L 0 0 rfl rfl ?_
    clear hG W
    intro S hG W
    exact k_ret hG W hm (sim_var 0 rfl rfl) (fun v S H hG W hr => k v S H (Okc.at 3 rfl hG) (W.pick [] rfl) hr)
theorem sc__law_below : FnScope ["_law_line", "_law_direct", "_law_below_here", "_law_upper", "_law_met", "_law_lower", "_law_k"] ["_law_line", "_law_direct"] (defScope (top 50)) := ⟨rfl, rfl, rfl, by decide +kernel, rfl, by decide +kernel, by decide +kernel⟩
theorem ok__law_below (E : EnvF P K mg) : Cal CX0 P w K mg base 1 "_law_below" (spP (TyA.c (tL tInt) (TyA.one (tL (tL tInt)))) (fun a => m__law_below a.1 a.2) (tL (tL tInt))) := by
  refine cal_mk (k := 0) E.d__law_below sc__law_below (fun vs H Q E h => by obtain ⟨S, F, a, r, ⟨_, _, rfl, _, ⟨_, rfl, _⟩⟩, _⟩ := h; rfl) (fun _ _ _ _ _ _ us hl => match us, hl with | [_, _], _ => rfl) ?_
  rintro f cdv A outer s H vs Q EX hr ⟨S, F, ⟨line966, direct967⟩, out, ⟨v0, _, rfl, h0, ⟨v1, rfl, h1⟩⟩, W, hm, k⟩
  refine ⟨_, PSs.nox (pss_cons (ps_setLc (i := 2) (own := [("_law_k", 6)]) rfl sc__law_below.nd rfl rfl (sw_true rfl rfl rfl (by decide +kernel)) (pi_range1 rfl (by exact E.g_range) (pa_cons (pe_callB (call_lenK (K := K)) rfl (by exact E.g_len) boot_len (pa_cons (pv 0) pa_nil)) pa_nil)) (blkOk_by (N := ["_law_line", "_law_direct", "_law_below_here", "_law_upper", "_law_met", "_law_lower", "_law_k"]) (sc := defScope (top 50)) (by decide +kernel)) (fun _ _ _ _ _ => (pg_name (i := 6) sc__law_below.nd rfl (Or.inl rfl))) (fun _ _ _ _ _ => pts_nil) (fun _ _ _ _ _ => (pe_lst pa_nil))) (pss_cons (ps_for PassesOwn.never rfl (pi_reversedK (K := K) rfl (by exact E.g_reversed) (pa_cons (pv 0) pa_nil)) (pg_name (i := 3) sc__law_below.nd rfl (Or.inl rfl)) (pss_cons (ps_set (i := 4) sc__law_below.nd rfl (Or.inl rfl) (pe_callTy (call_listK (K := K)) rfl (by exact E.g_list) (by decide +kernel) (pa_cons (pe_ix (ix_listK (K := K)) (pv 1) (pv 3) (by intro _ _; rfl)) pa_nil))) (pss_cons (ps_for PassesOwn.never rfl (pi_listK (K := K) (pe_ix (ix_listK (K := K)) (pv 1) (pv 3) (by intro _ _; rfl))) (pg_name (i := 5) sc__law_below.nd rfl (Or.inl rfl)) (pss_cons (ps_expr (pe_bmK (K := K) PySem.F.plainAttrs_list PySem.F.slot_list_extend PySem.F.type_list_extend mt_extend (pv 4) (pa_cons (pe_ix (ix_listK (K := K)) (pv 2) (pv 5) (by intro _ _; rfl)) pa_nil))) pss_nil)) (pss_cons (ps_asg (pe_callB (cr_sortedSetK (w := w)) rfl (by exact E.g_sorted) (by decide +kernel) (pa_cons (pe_callTy (cr_setLIK (K := K) (w := w)) rfl (by exact E.g_set) (by decide +kernel) (pa_cons (pv 4) pa_nil)) pa_nil)) (pg_sub (pv 2) (pv 3) set_list)) pss_nil)))) (pss_cons (ps_ret (pv 2)) pss_nil))), ?_⟩
  have hG : Okc [fS S, (tL tInt).f line966 v0, (tL (tL tInt)).f direct967 v1] S := ⟨Same.refl _, h0, h1, True.intro⟩
  have W : Wd S (([] : Ow) ++ F) H := W
  show (_ : TS) _ ([some v0, some v1, none, none, none, none, none] : L2.St) H
  refine k_setO hG W hm (simF_lc (simI_range1 (sim_len (sim_var 1 rfl rfl))) tg_name (fun _ => rfl) (List.nil_sublist _) (fun a w => simT_yes) (fun a w => (SimF.sim (simF_lst (T := tInt) simA_ln0)))) ?_
  clear hG W hm
  intro below_here972 p974 c975 S H hG W hm
  refine k_fold (σJ := (fun (bx977 : (List (List Int))) (wx977 : List Cell × Option V × Option V × Option V) => ([some v0, some v1, some (.ref p974), wx977.2.1, wx977.2.2.1, wx977.2.2.2, none] : L2.St))) (OJ := (fun (bx977 : (List (List Int))) (wx977 : List Cell × Option V × Option V × Option V) => ([wx977.1] : Ow))) (Fb := (fun (bx977 : (List (List Int))) (wx977 : List Cell × Option V × Option V × Option V) => ([(oL (tL tInt)).f bx977 p974 (wx977.1)] : List Fact))) (σT := (fun b w (tx977 : V) => ((fun (bx977 : (List (List Int))) (wx977 : List Cell × Option V × Option V × Option V) => ([some v0, some v1, some (.ref p974), wx977.2.1, wx977.2.2.1, wx977.2.2.2, none] : L2.St)) b w).set 3 (some tx977))) ((c975, (none), (none), (none)) : List Cell × Option V × Option V × Option V) hG W hm (simI_rev (sim_var 2 rfl rfl)) (fun b w => tg_name) (fun b w => List.nil_sublist _) rfl rfl (fun S h => (Okc.cons (Okc.at 0 rfl h) h)) ?_ ?_
  · clear hG W hm
    intro S1 y978 bx977 b' wx977 tx977 S H hm hG W N hN
    refine k_setO hG W hm (simF_list (sim_ix (sim_var 6 rfl rfl) (sim_var 0 rfl rfl))) ?_
    clear hG W hm
    intro met982 p984 c985 S H hG W hm
    refine k_fold (σJ := (fun (bx988 : (List Int)) (wx988 : List Cell × Option V) => ([some v0, some v1, some (.ref p974), some (tx977), some (.ref p984), wx988.2, none] : L2.St))) (OJ := (fun (bx988 : (List Int)) (wx988 : List Cell × Option V) => ([wx988.1, wx977.1] : Ow))) (Fb := (fun (bx988 : (List Int)) (wx988 : List Cell × Option V) => ([(oL tInt).f bx988 p984 (wx988.1)] : List Fact))) (σT := (fun b w (tx988 : V) => ((fun (bx988 : (List Int)) (wx988 : List Cell × Option V) => ([some v0, some v1, some (.ref p974), some (tx977), some (.ref p984), wx988.2, none] : L2.St)) b w).set 5 (some tx988))) ((c985, (wx977.2.2.2)) : List Cell × Option V) hG W hm (simI_list (sim_ix (sim_var 7 rfl rfl) (sim_var 1 rfl rfl))) (fun b w => tg_name) (fun b w => List.nil_sublist _) rfl rfl (fun S h => (Okc.cons (Okc.at 0 rfl h) h)) ?_ ?_
    · clear hG W hm
      intro S1 y989 bx988 b' wx988 tx988 S H hm hG W N hN
      refine k_ext hG W hm 0 1 rfl rfl rfl (sim_ix (sim_own 1 5 rfl rfl rfl) (sim_var 0 rfl rfl)) ?_
      clear hG W hm
      intro y995 c992 S H hG W hm
      revert hG hm; generalize (bx988 ++ y995) = met991; intro hG hm
      cases hm
      refine y_next ?_
      exact hN (c992, (some (tx988))) _ _ (Okc.cons (Okc.at 0 rfl hG) (Okc.dr 3 hG)) (W.pick [0, 0] rfl)
    · clear hG W hm
      intro bx988 wx988 S H hm hG W
      refine k_put hG W hm 1 3 rfl rfl rfl (SimF.sim (simF_sset (sim_own 0 0 rfl rfl rfl))) (sim_var 2 rfl rfl) ?_
      clear hG W hm
      intro below_here999 c1000 S H hG W hm
      cases hm
      refine y_next ?_
      exact hN (c1000, (some (tx977)), (some (.ref p984)), (wx988.2)) _ _ (Okc.cons (Okc.at 0 rfl hG) (Okc.dr 5 hG)) (W.pick [1] rfl)
  · clear hG W hm
    intro bx977 wx977 S H hm hG W
    refine k_frz hG W frz_L 0 0 rfl rfl ?_
    clear hG W
    intro S hG W
    exact k_ret hG W hm (sim_var 0 rfl rfl) (fun v S H hG W hr => k v S H (Okc.at 3 rfl hG) (W.pick [] rfl) hr)
theorem sc__law_above : FnScope ["_law_below_here", "_law_above_here", "_law_lamp", "_law_upper"] ["_law_below_here"] (defScope (top 51)) := ⟨rfl, rfl, rfl, by decide +kernel, rfl, by decide +kernel, by decide +kernel⟩
theorem ok__law_above (E : EnvF P K mg) : Cal CX0 P w K mg base 1 "_law_above" (spP (TyA.one (tL (tL tInt))) (fun a => m__law_above a) (tL (tL tInt))) := by
  refine cal_mk (k := 0) E.d__law_above sc__law_above (fun vs H Q E h => by obtain ⟨S, F, a, r, ⟨_, rfl, _⟩, _⟩ := h; rfl) (fun _ _ _ _ _ _ us hl => match us, hl with | [_], _ => rfl) ?_
  rintro f cdv A outer s H vs Q EX hr ⟨S, F, below_here1001, out, ⟨v0, rfl, h0⟩, W, hm, k⟩
  refine ⟨_, PSs.nox (pss_cons (ps_set (i := 1) sc__law_above.nd rfl (Or.inl rfl) (pe_lst pa_nil)) (pss_cons (ps_for PassesOwn.never rfl (pi_range1 rfl (by exact E.g_range) (pa_cons (pe_callB (call_lenK (K := K)) rfl (by exact E.g_len) boot_len (pa_cons (pv 0) pa_nil)) pa_nil)) (pg_name (i := 2) sc__law_above.nd rfl (Or.inr rfl)) (pss_cons (ps_expr (pe_bmK (K := K) PySem.F.plainAttrs_list PySem.F.slot_list_append PySem.F.type_list_append mt_append (pv 1) (pa_cons (pe_lc (own := [("_law_upper", 3)]) rfl sc__law_above.nd (pi_range1 rfl (by exact E.g_range) (pa_cons (pe_callB (call_lenK (K := K)) rfl (by exact E.g_len) boot_len (pa_cons (pv 0) pa_nil)) pa_nil)) (blkOk_by (N := ["_law_below_here", "_law_above_here", "_law_lamp", "_law_upper"]) (sc := defScope (top 51)) (by decide +kernel)) (fun _ _ _ _ _ => (pg_name (i := 3) sc__law_above.nd rfl (Or.inl rfl))) (fun _ _ _ _ _ => (pts_one (pt_cmpR (op_inDK (K := K) (by exact hu65 hr)) (pv 2) (pe_ix (ix_listK (K := K)) (pv 0) (pv 3) (by intro _ _; rfl)) (by with_unfolding_all rfl)))) (fun _ _ _ _ _ => (pv 3))) pa_nil))) pss_nil)) (pss_cons (ps_ret (pv 1)) pss_nil))), ?_⟩
  have hG : Okc [fS S, (tL (tL tInt)).f below_here1001 v0] S := ⟨Same.refl _, h0, True.intro⟩
  have W : Wd S (([] : Ow) ++ F) H := W
  show (_ : TS) _ ([some v0, none, none, none] : L2.St) H
  refine k_setO hG W hm (simF_lst (T := (tL tInt)) simA_ln0) ?_
  clear hG W hm
  intro above_here1002 p1004 c1005 S H hG W hm
  refine k_fold (σJ := (fun (bx1008 : (List (List Int))) (wx1008 : List Cell × Option V) => ([some v0, some (.ref p1004), wx1008.2, none] : L2.St))) (OJ := (fun (bx1008 : (List (List Int))) (wx1008 : List Cell × Option V) => ([wx1008.1] : Ow))) (Fb := (fun (bx1008 : (List (List Int))) (wx1008 : List Cell × Option V) => ([(oL (tL tInt)).f bx1008 p1004 (wx1008.1)] : List Fact))) (σT := (fun b w (tx1008 : V) => ((fun (bx1008 : (List (List Int))) (wx1008 : List Cell × Option V) => ([some v0, some (.ref p1004), wx1008.2, none] : L2.St)) b w).set 2 (some tx1008))) ((c1005, (none)) : List Cell × Option V) hG W hm (simI_range1 (sim_len (sim_var 2 rfl rfl))) (fun b w => tg_name) (fun b w => List.nil_sublist _) rfl rfl (fun S h => (Okc.cons (Okc.at 0 rfl h) h)) ?_ ?_
  · clear hG W hm
    intro S1 y1009 bx1008 b' wx1008 tx1008 S H hm hG W N hN
    refine k_app hG W hm 0 1 rfl rfl rfl (SimF.sim (simF_lc (simI_range1 (sim_len (sim_var 5 rfl rfl))) tg_name (fun _ => rfl) (List.nil_sublist _) (fun a w => (simT_test (sim_in (sim_var 1 rfl rfl) (sim_ix (sim_var 6 rfl rfl) (sim_var 0 rfl rfl))))) (fun a w => (sim_var 0 rfl rfl)))) ?_
    clear hG W hm
    intro y1019 c1021 S H hG W hm
    revert hG hm; generalize (bx1008 ++ [y1019]) = above_here1020; intro hG hm
    cases hm
    refine y_next ?_
    exact hN (c1021, (some (tx1008))) _ _ (Okc.cons (Okc.at 0 rfl hG) (Okc.dr 3 hG)) (W.pick [0] rfl)
  · clear hG W hm
    intro bx1008 wx1008 S H hm hG W
    refine k_frz hG W frz_L 0 0 rfl rfl ?_
    clear hG W
    intro S hG W
    exact k_ret hG W hm (sim_var 0 rfl rfl) (fun v S H hG W hr => k v S H (Okc.at 3 rfl hG) (W.pick [] rfl) hr)
theorem sc__law_state : FnScope ["_law_purse_here", "_law_count", "_law_hues", "_law_way", "_law_hand", "_law_k", "_law_hue"] ["_law_purse_here", "_law_count", "_law_hues"] (defScope (top 52)) := ⟨rfl, rfl, rfl, by decide +kernel, rfl, by decide +kernel, by decide +kernel⟩
theorem ok__law_state (E : EnvF P K mg) : Cal CX0 P w K mg base 2 "_law_state" (spO 0 (oL tInt) (TyA.c tInt (TyA.one tInt)) (fun g a => m__law_state g a.1 a.2) (tT tInt)) := by
  refine cal_mk (k := 1) E.d__law_state sc__law_state (fun vs H Q E h => by obtain ⟨S, F, p, c, g, a, r, hn, hA, _⟩ := h; obtain ⟨_, _, rfl, _⟩ := (spO_vs3_0 hn hA); rfl) (fun _ _ _ _ _ _ us hl => match us, hl with | [_, _, _], _ => rfl) ?_
  rintro f cdv A outer s H vs Q EX hr ⟨S, F, p0, c0, purse_here1022, ⟨count1023, hues1024⟩, out, hn, hA, hp0, W, hm, k⟩
  obtain ⟨v1, v2, rfl, h1, h2⟩ := (spO_vs3_0 hn hA)
  refine ⟨_, PSs.nox (pss_cons (ps_set (i := 3) sc__law_state.nd rfl (Or.inl rfl) (pe_cal (ok__law_draw E) (by exact hr) (by first | decide | omega) (by rfl) pass0 (pa_cons (pv 0) (pa_cons pe_int pa_nil)))) (pss_cons (ps_set (i := 4) sc__law_state.nd rfl (Or.inl rfl) (pe_lst pa_nil)) (pss_cons (ps_for PassesOwn.never rfl (pi_range1 rfl (by exact E.g_range) (pa_cons (pv 1) pa_nil)) (pg_name (i := 5) sc__law_state.nd rfl (Or.inl rfl)) (pss_cons (ps_set (i := 6) sc__law_state.nd rfl (Or.inl rfl) (pe_cal (ok__law_draw E) (by exact hr) (by first | decide | omega) (by rfl) pass0 (pa_cons (pv 0) (pa_cons (pv 2) pa_nil)))) (pss_cons (ps_if (PW.pt (pw_and (pt_cmpR op_eq (pv 3) pe_int (nomark _)) (pw_and1 (pt_cmpR op_gt (pe_cal (ok__law_draw E) (by exact hr) (by first | decide | omega) (by rfl) pass0 (pa_cons (pv 0) (pa_cons pe_int pa_nil))) pe_int (nomark _))))) (pss_cons (ps_set (i := 6) sc__law_state.nd rfl (Or.inl rfl) pe_int) pss_nil) pss_nil) (pss_cons (ps_if (PW.pt (pw_and (pt_cmpR op_eq (pv 3) pe_int (nomark _)) (pw_and1 (pt_cmpR op_gt (pe_cal (ok__law_draw E) (by exact hr) (by first | decide | omega) (by rfl) pass0 (pa_cons (pv 0) (pa_cons pe_int pa_nil))) pe_int (nomark _))))) (pss_cons (ps_set (i := 6) sc__law_state.nd rfl (Or.inl rfl) (pe_op op_sub (pv 2) pe_int)) pss_nil) pss_nil) (pss_cons (ps_expr (pe_bmK (K := K) PySem.F.plainAttrs_list PySem.F.slot_list_append PySem.F.type_list_append mt_append (pv 4) (pa_cons (pv 6) pa_nil))) pss_nil))))) (pss_cons (ps_ret (pe_callTy (call_tupleK (K := K)) rfl (by exact E.g_tuple) (by decide +kernel) (pa_cons (pv 4) pa_nil))) pss_nil)))), ?_⟩
  have hG : Okc [fS S, (oL tInt).f purse_here1022 p0 c0, tInt.f count1023 v1, tInt.f hues1024 v2] S := ⟨Same.refl _, hp0, h1, h2, True.intro⟩
  have W : Wd S ([c0] ++ F) H := W
  show (_ : TS) _ ([some (.ref p0), some v1, some v2, none, none, none, none] : L2.St) H
  refine e_set ?_
  refine e_call ?_
  refine e_cons ?_
  refine c_ref rfl ?_
  refine e_cons ?_
  refine c_pure hG W hm sim_int ?_
  clear hG W hm
  intro x1025 v1026 S H hG W hm
  refine e_nil ?_
  refine v_callO (g := purse_here1022) (a := x1025) hG W hm 0 2 rfl rfl rfl (fun S h => (ra_one (Okc.at 0 rfl h))) ?_
  clear hG W hm
  intro r1027 v1028 c1029 S H hG W hm
  refine k_setO hG W hm (simF_lst (T := tInt) simA_ln0) ?_
  clear hG W hm
  intro hand1030 p1032 c1033 S H hG W hm
  refine k_fold (σJ := (fun (bx1035 : (List Int) × (List Int)) (wx1035 : List Cell × List Cell × Option V × Option V) => ([some (.ref p0), some v1, some v2, some (v1028), some (.ref p1032), wx1035.2.2.1, wx1035.2.2.2] : L2.St))) (OJ := (fun (bx1035 : (List Int) × (List Int)) (wx1035 : List Cell × List Cell × Option V × Option V) => ([wx1035.2.1, wx1035.1] : Ow))) (Fb := (fun (bx1035 : (List Int) × (List Int)) (wx1035 : List Cell × List Cell × Option V × Option V) => ([(oL tInt).f bx1035.1 p0 (wx1035.1), (oL tInt).f bx1035.2 p1032 (wx1035.2.1)] : List Fact))) (σT := (fun b w (tx1035 : V) => ((fun (bx1035 : (List Int) × (List Int)) (wx1035 : List Cell × List Cell × Option V × Option V) => ([some (.ref p0), some v1, some v2, some (v1028), some (.ref p1032), wx1035.2.2.1, wx1035.2.2.2] : L2.St)) b w).set 5 (some tx1035))) ((c1029, c1033, (none), (none)) : List Cell × List Cell × Option V × Option V) hG W hm (simI_range1 (sim_var 6 rfl rfl)) (fun b w => tg_name) (fun b w => List.nil_sublist _) rfl rfl (fun S h => (Okc.cons (Okc.at 2 rfl h) (Okc.cons (Okc.at 0 rfl h) h))) ?_ ?_
  · clear hG W hm
    intro S1 y1036 bx1035 b' wx1035 tx1035 S H hm hG W N hN
    refine e_set ?_
    refine e_call ?_
    refine e_cons ?_
    refine c_ref rfl ?_
    refine e_cons ?_
    refine c_ref rfl ?_
    refine e_nil ?_
    refine v_callO (g := bx1035.1) (a := hues1024) hG W hm 1 1 rfl rfl rfl (fun S h => (ra_one (Okc.at 11 rfl h))) ?_
    clear hG W hm
    intro r1038 v1039 c1040 S H hG W hm
    refine y_join (σJ := (fun (bx1042 : (List Int) × Int) (wx1042 : List Cell × V) => ([some (.ref p0), some v1, some v2, some (v1028), some (.ref p1032), some (tx1035), some (wx1042.2)] : L2.St))) (OJ := (fun (bx1042 : (List Int) × Int) (wx1042 : List Cell × V) => ([wx1035.2.1, wx1042.1] : Ow))) (Fb := (fun (bx1042 : (List Int) × Int) (wx1042 : List Cell × V) => ([(oL tInt).f bx1042.1 p0 (wx1042.1), tInt.f bx1042.2 (wx1042.2)] : List Fact))) hG W hm ?_ ?_
    · clear hG W hm
      intro bx1042 wx1042 S H hm hG W
      refine y_join (σJ := (fun (bx1046 : (List Int) × Int) (wx1046 : List Cell × V) => ([some (.ref p0), some v1, some v2, some (v1028), some (.ref p1032), some (tx1035), some (wx1046.2)] : L2.St))) (OJ := (fun (bx1046 : (List Int) × Int) (wx1046 : List Cell × V) => ([wx1035.2.1, wx1046.1] : Ow))) (Fb := (fun (bx1046 : (List Int) × Int) (wx1046 : List Cell × V) => ([(oL tInt).f bx1046.1 p0 (wx1046.1), tInt.f bx1046.2 (wx1046.2)] : List Fact))) hG W hm ?_ ?_
      · clear hG W hm
        intro bx1046 wx1046 S H hm hG W
        refine k_app hG W hm 0 8 rfl rfl rfl (sim_var 1 rfl rfl) ?_
        clear hG W hm
        intro y1049 c1051 S H hG W hm
        revert hG hm; generalize (bx1035.2 ++ [y1049]) = hand1050; intro hG hm
        cases hm
        refine y_next ?_
        exact hN (wx1046.1, c1051, (some (tx1035)), (some (wx1046.2))) _ _ (Okc.cons (Okc.at 1 rfl hG) (Okc.cons (Okc.at 0 rfl hG) (Okc.dr 10 hG))) (W.pick [0, 0] rfl)
      · clear hm
        intro nxt1048 hm
        refine e_if ?_
        refine e_and ?_
        refine c_test hG W hm (simT_test (sim_eqI (sim_var 9 rfl rfl) sim_int)) ?_
        clear hG W hm
        intro c1054 S H hG W hm
        refine c_ite hm ?_ ?_
        · clear hm
          intro _ hm
          refine e_test ?_
          refine e_op ?_
          refine e_call ?_
          refine e_cons ?_
          refine c_ref rfl ?_
          refine e_cons ?_
          refine c_pure hG W hm sim_int ?_
          clear hG W hm
          intro x1055 v1056 S H hG W hm
          refine e_nil ?_
          refine v_callO (g := bx1042.1) (a := x1055) hG W hm 1 1 rfl rfl rfl (fun S h => (ra_one (Okc.at 0 rfl h))) ?_
          clear hG W hm
          intro r1057 v1058 c1059 S H hG W hm
          refine c_pure hG W hm sim_int ?_
          clear hG W hm
          intro x1060 v1061 S H hG W hm
          refine x_op (σ := ([] : L2.St)) ?_
          refine c_pure hG W hm (sim_gt (sim_K 1 rfl) (sim_K 0 rfl)) ?_
          clear hG W hm
          intro x1064 v1065 S H hG W hm
          refine y_bool hG 0 rfl ?_
          refine c_ite hm ?_ ?_
          · clear hm
            intro _ hm
            refine k_set hG W hm (sim_sub (sim_var 20 rfl rfl) sim_int) ?_
            clear hG W hm
            intro hue1068 v1069 S H hG W hm
            refine y_next ?_
            exact nxt1048 _ (c1059, v1069) _ _ hm (Okc.cons (Okc.at 4 rfl hG) (Okc.cons (Okc.at 0 rfl hG) (Okc.dr 6 hG))) (W.pick [0, 0] rfl)
          · clear hm
            intro _ hm
            refine y_next ?_
            exact nxt1048 _ (c1059, wx1042.2) _ _ hm (Okc.cons (Okc.at 3 rfl hG) (Okc.cons (Okc.at 6 rfl hG) (Okc.dr 5 hG))) (W.pick [0, 0] rfl)
        · clear hm
          intro _ hm
          rw [if_neg Bool.false_ne_true]
          refine y_next ?_
          exact nxt1048 _ (wx1042.1, wx1042.2) _ _ hm (Okc.cons (Okc.at 0 rfl hG) (Okc.cons (Okc.at 1 rfl hG) (Okc.dr 0 hG))) (W.pick [0, 0] rfl)
    · clear hm
      intro nxt1044 hm
      refine e_if ?_
      refine e_and ?_
      refine c_test hG W hm (simT_test (sim_eqI (sim_var 7 rfl rfl) sim_int)) ?_
      clear hG W hm
      intro c1072 S H hG W hm
      refine c_ite hm ?_ ?_
      · clear hm
        intro _ hm
        refine e_test ?_
        refine e_op ?_
        refine e_call ?_
        refine e_cons ?_
        refine c_ref rfl ?_
        refine e_cons ?_
        refine c_pure hG W hm sim_int ?_
        clear hG W hm
        intro x1073 v1074 S H hG W hm
        refine e_nil ?_
        refine v_callO (g := r1038.2) (a := x1073) hG W hm 1 2 rfl rfl rfl (fun S h => (ra_one (Okc.at 0 rfl h))) ?_
        clear hG W hm
        intro r1075 v1076 c1077 S H hG W hm
        refine c_pure hG W hm sim_int ?_
        clear hG W hm
        intro x1078 v1079 S H hG W hm
        refine x_op (σ := ([] : L2.St)) ?_
        refine c_pure hG W hm (sim_gt (sim_K 1 rfl) (sim_K 0 rfl)) ?_
        clear hG W hm
        intro x1082 v1083 S H hG W hm
        refine y_bool hG 0 rfl ?_
        refine c_ite hm ?_ ?_
        · clear hm
          intro _ hm
          refine k_set hG W hm sim_int ?_
          clear hG W hm
          intro hue1084 v1085 S H hG W hm
          refine y_next ?_
          exact nxt1044 _ (c1077, v1085) _ _ hm (Okc.cons (Okc.at 4 rfl hG) (Okc.cons (Okc.at 0 rfl hG) (Okc.dr 6 hG))) (W.pick [0, 0] rfl)
        · clear hm
          intro _ hm
          refine y_next ?_
          exact nxt1044 _ (c1077, v1039) _ _ hm (Okc.cons (Okc.at 3 rfl hG) (Okc.cons (Okc.at 5 rfl hG) (Okc.dr 5 hG))) (W.pick [0, 0] rfl)
      · clear hm
        intro _ hm
        rw [if_neg Bool.false_ne_true]
        refine y_next ?_
        exact nxt1044 _ (c1040, v1039) _ _ hm (Okc.cons (Okc.at 1 rfl hG) (Okc.cons (Okc.at 0 rfl hG) (Okc.dr 0 hG))) (W.pick [0, 0] rfl)
  · clear hG W hm
    intro bx1035 wx1035 S H hm hG W
    refine e_ret ?_
    refine c_pure hG W hm (sim_tuple (sim_own 0 1 rfl rfl rfl)) ?_
    clear hG W hm
    intro r1086 v S H hG W hm
    cases hm
    exact k _ _ _ _ (Okc.at 7 rfl hG) (W.pick [1] rfl) (Okc.at 1 rfl hG) (Okc.at 0 rfl hG)
theorem sc__law_after : FnScope ["_law_below_here", "_law_hues", "_law_state_here", "_law_lamp", "_law_hand", "_law_lower"] ["_law_below_here", "_law_hues", "_law_state_here", "_law_lamp"] (defScope (top 53)) := ⟨rfl, rfl, rfl, by decide +kernel, rfl, by decide +kernel, by decide +kernel⟩
theorem ok__law_after (E : EnvF P K mg) : Cal CX0 P w K mg base 1 "_law_after" (spP (TyA.c (tL (tL tInt)) (TyA.c tInt (TyA.c (tT tInt) (TyA.one tInt)))) (fun a => m__law_after a.1 a.2.1 a.2.2.1 a.2.2.2) (tT tInt)) := by
  refine cal_mk (k := 0) E.d__law_after sc__law_after (fun vs H Q E h => by obtain ⟨S, F, a, r, ⟨_, _, rfl, _, ⟨_, _, rfl, _, ⟨_, _, rfl, _, ⟨_, rfl, _⟩⟩⟩⟩, _⟩ := h; rfl) (fun _ _ _ _ _ _ us hl => match us, hl with | [_, _, _, _], _ => rfl) ?_
  rintro f cdv A outer s H vs Q EX hr ⟨S, F, ⟨below_here1087, hues1088, state_here1089, lamp1090⟩, out, ⟨v0, _, rfl, h0, ⟨v1, _, rfl, h1, ⟨v2, _, rfl, h2, ⟨v3, rfl, h3⟩⟩⟩⟩, W, hm, k⟩
  refine ⟨_, PSs.nox (pss_cons (ps_set (i := 4) sc__law_after.nd rfl (Or.inl rfl) (pe_callTy (call_listK (K := K)) rfl (by exact E.g_list) (by decide +kernel) (pa_cons (pv 2) pa_nil))) (pss_cons (ps_asg (pe_op op_sub (pe_ix (ix_listK (K := K)) (pv 4) (pv 3) (by intro _ _; rfl)) pe_int) (pg_sub (pv 4) (pv 3) set_list)) (pss_cons (ps_for PassesOwn.never rfl (pi_listK (K := K) (pe_ix (ix_listK (K := K)) (pv 0) (pv 3) (by intro _ _; rfl))) (pg_name (i := 5) sc__law_after.nd rfl (Or.inl rfl)) (pss_cons (ps_asg (pe_op op_mod (pe_callTy call_int1 rfl (by exact E.g_int) (by decide +kernel) (pa_cons (pe_op op_sub (pe_op op_add (pe_ix (ix_listK (K := K)) (pv 4) (pv 5) (by intro _ _; rfl)) (pv 1)) pe_int) pa_nil)) (pv 1)) (pg_sub (pv 4) (pv 5) set_list)) pss_nil)) (pss_cons (ps_ret (pe_callTy (call_tupleK (K := K)) rfl (by exact E.g_tuple) (by decide +kernel) (pa_cons (pv 4) pa_nil))) pss_nil)))), ?_⟩
  have hG : Okc [fS S, (tL (tL tInt)).f below_here1087 v0, tInt.f hues1088 v1, (tT tInt).f state_here1089 v2, tInt.f lamp1090 v3] S := ⟨Same.refl _, h0, h1, h2, h3, True.intro⟩
  have W : Wd S (([] : Ow) ++ F) H := W
  show (_ : TS) _ ([some v0, some v1, some v2, some v3, none, none] : L2.St) H
  refine k_setO hG W hm (simF_listT (sim_var 3 rfl rfl)) ?_
  clear hG W hm
  intro hand1091 p1093 c1094 S H hG W hm
  refine k_put hG W hm 0 0 rfl rfl rfl (sim_sub (sim_ix (sim_own 0 0 rfl rfl rfl) (sim_var 5 rfl rfl)) sim_int) (sim_var 5 rfl rfl) ?_
  clear hG W hm
  intro hand1101 c1102 S H hG W hm
  refine k_fold (σJ := (fun (bx1105 : (List Int)) (wx1105 : List Cell × Option V) => ([some v0, some v1, some v2, some v3, some (.ref p1093), wx1105.2] : L2.St))) (OJ := (fun (bx1105 : (List Int)) (wx1105 : List Cell × Option V) => ([wx1105.1] : Ow))) (Fb := (fun (bx1105 : (List Int)) (wx1105 : List Cell × Option V) => ([(oL tInt).f bx1105 p1093 (wx1105.1)] : List Fact))) (σT := (fun b w (tx1105 : V) => ((fun (bx1105 : (List Int)) (wx1105 : List Cell × Option V) => ([some v0, some v1, some v2, some v3, some (.ref p1093), wx1105.2] : L2.St)) b w).set 5 (some tx1105))) ((c1102, (none)) : List Cell × Option V) hG W hm (simI_list (sim_ix (sim_var 3 rfl rfl) (sim_var 6 rfl rfl))) (fun b w => tg_name) (fun b w => List.nil_sublist _) rfl rfl (fun S h => (Okc.cons (Okc.at 0 rfl h) h)) ?_ ?_
  · clear hG W hm
    intro S1 y1106 bx1105 b' wx1105 tx1105 S H hm hG W N hN
    refine k_put hG W hm 0 1 rfl rfl rfl (sim_mod (sim_intI (sim_sub (sim_add (sim_ix (sim_own 0 1 rfl rfl rfl) (sim_var 0 rfl rfl)) (sim_var 7 rfl rfl)) sim_int)) (sim_var 7 rfl rfl)) (sim_var 0 rfl rfl) ?_
    clear hG W hm
    intro hand1118 c1119 S H hG W hm
    cases hm
    refine y_next ?_
    exact hN (c1119, (some (tx1105))) _ _ (Okc.cons (Okc.at 0 rfl hG) (Okc.dr 3 hG)) (W.pick [0] rfl)
  · clear hG W hm
    intro bx1105 wx1105 S H hm hG W
    exact k_ret hG W hm (sim_tuple (sim_own 0 0 rfl rfl rfl)) (fun v S H hG W hr => k v S H (Okc.at 3 rfl hG) (W.pick [] rfl) hr)
theorem sc__law_is_integer : FnScope ["_law_value"] ["_law_value"] (defScope (top 54)) := ⟨rfl, rfl, rfl, by decide +kernel, rfl, by decide +kernel, by decide +kernel⟩
theorem okH__law_is_integer (E : EnvF P K mg) : CalH CX0 P w K mg base 1 "_law_is_integer" (spP (TyA.one tInt) (fun a => m__law_is_integer a) tBool) := by
  refine calH_mk (k := 0) E.d__law_is_integer sc__law_is_integer (fun vs H Q E h => by obtain ⟨S, F, a, r, ⟨_, rfl, _⟩, _⟩ := h; rfl) (fun _ _ _ _ _ _ us hl => match us, hl with | [_], _ => rfl) ?_
  rintro pp f cdv A outer s H vs Q EX hot hr ⟨S, F, value1120, out, ⟨v0, rfl, h0⟩, W, hm, k⟩
  refine ⟨_, PSs.nox (pss_cons (ps_ret (pe_and (pe_callB (call_isiKK (K := K)) rfl (by exact E.g_isinstance) (by decide +kernel) (pa_cons (pv 0) (pa_cons (pe_bltn (v := .ty "int") (u := .type "int") rfl (by exact E.g_int) (by decide +kernel) rfl) pa_nil))) (pe_one (pe_not (pe_callB (call_isiKK (K := K)) rfl (by exact E.g_isinstance) (by decide +kernel) (pa_cons (pv 0) (pa_cons (pe_bltn (v := .ty "bool") (u := .type "bool") rfl (by exact E.g_bool) (by decide +kernel) rfl) pa_nil))))))) pss_nil), ?_⟩
  have hG : Okc [fS S, tInt.f value1120 v0] S := ⟨Same.refl _, h0, True.intro⟩
  have W : Wd S (([] : Ow) ++ F) H := W
  show (_ : TS) _ ([some v0] : L2.St) H
  exact k_ret hG W hm (sim_andV (sim_isi isI_int_int (sim_var 1 rfl rfl)) (sim_notV (sim_isi isI_int_bool (sim_var 1 rfl rfl)))) (fun v S H hG W hr => k v S H (Okc.at 0 rfl hG) (W.pick [] rfl) hr)
theorem ok__law_is_integer (E : EnvF P K mg) : Cal CX0 P w K mg base 1 "_law_is_integer" (spP (TyA.one tInt) (fun a => m__law_is_integer a) tBool) := by
  refine cal_mk (k := 0) E.d__law_is_integer sc__law_is_integer (fun vs H Q E h => by obtain ⟨S, F, a, r, ⟨_, rfl, _⟩, _⟩ := h; rfl) (fun _ _ _ _ _ _ us hl => match us, hl with | [_], _ => rfl) ?_
  rintro f cdv A outer s H vs Q EX hr ⟨S, F, value1120, out, ⟨v0, rfl, h0⟩, W, hm, k⟩
  refine ⟨_, PSs.nox (pss_cons (ps_ret (pe_and (pe_callB (call_isiKK (K := K)) rfl (by exact E.g_isinstance) (by decide +kernel) (pa_cons (pv 0) (pa_cons (pe_bltn (v := .ty "int") (u := .type "int") rfl (by exact E.g_int) (by decide +kernel) rfl) pa_nil))) (pe_one (pe_not (pe_callB (call_isiKK (K := K)) rfl (by exact E.g_isinstance) (by decide +kernel) (pa_cons (pv 0) (pa_cons (pe_bltn (v := .ty "bool") (u := .type "bool") rfl (by exact E.g_bool) (by decide +kernel) rfl) pa_nil))))))) pss_nil), ?_⟩
  have hG : Okc [fS S, tInt.f value1120 v0] S := ⟨Same.refl _, h0, True.intro⟩
  have W : Wd S (([] : Ow) ++ F) H := W
  show (_ : TS) _ ([some v0] : L2.St) H
  exact k_ret hG W hm (sim_andV (sim_isi isI_int_int (sim_var 1 rfl rfl)) (sim_notV (sim_isi isI_int_bool (sim_var 1 rfl rfl)))) (fun v S H hG W hr => k v S H (Okc.at 0 rfl hG) (W.pick [] rfl) hr)
theorem sc__law_truth : FnScope ["_law_found", "_law_due"] ["_law_found", "_law_due"] (defScope (top 55)) := ⟨rfl, rfl, rfl, by decide +kernel, rfl, by decide +kernel, by decide +kernel⟩
theorem ok__law_truth (E : EnvF P K mg) : Cal CX0 P w K mg base 1 "_law_truth" (spP (TyA.c tBool (TyA.one tBool)) (fun a => m__law_truth a.1 a.2) tBool) := by
  refine cal_mk (k := 0) E.d__law_truth sc__law_truth (fun vs H Q E h => by obtain ⟨S, F, a, r, ⟨_, _, rfl, _, ⟨_, rfl, _⟩⟩, _⟩ := h; rfl) (fun _ _ _ _ _ _ us hl => match us, hl with | [_, _], _ => rfl) ?_
  rintro f cdv A outer s H vs Q EX hr ⟨S, F, ⟨found1123, due1124⟩, out, ⟨v0, _, rfl, h0, ⟨v1, rfl, h1⟩⟩, W, hm, k⟩
  refine ⟨_, PSs.nox (pss_cons (ps_ret (pe_and (pe_callB (call_isiKK (K := K)) rfl (by exact E.g_isinstance) (by decide +kernel) (pa_cons (pv 0) (pa_cons (pe_bltn (v := .ty "bool") (u := .type "bool") rfl (by exact E.g_bool) (by decide +kernel) rfl) pa_nil))) (pe_one (pe_cmpR (op_eqDK (K := K) (by exact hu64 hr)) (pv 0) (pv 1) (nomark _))))) pss_nil), ?_⟩
  have hG : Okc [fS S, tBool.f found1123 v0, tBool.f due1124 v1] S := ⟨Same.refl _, h0, h1, True.intro⟩
  have W : Wd S (([] : Ow) ++ F) H := W
  show (_ : TS) _ ([some v0, some v1] : L2.St) H
  exact k_ret hG W hm (sim_andV (sim_isi isI_bool_bool (sim_var 1 rfl rfl)) (sim_eqD (sim_var 1 rfl rfl) (sim_var 2 rfl rfl))) (fun v S H hG W hr => k v S H (Okc.at 0 rfl hG) (W.pick [] rfl) hr)
theorem sc__law_same : FnScope ["_law_found", "_law_due", "_law_k"] ["_law_found", "_law_due"] (defScope (top 56)) := ⟨rfl, rfl, rfl, by decide +kernel, rfl, by decide +kernel, by decide +kernel⟩
theorem ok__law_same (E : EnvF P K mg) : Cal CX0 P w K mg base 2 "_law_same" (spP (TyA.c (tL tInt) (TyA.one (tL tInt))) (fun a => m__law_same a.1 a.2) tBool) := by
  refine cal_mk (k := 1) E.d__law_same sc__law_same (fun vs H Q E h => by obtain ⟨S, F, a, r, ⟨_, _, rfl, _, ⟨_, rfl, _⟩⟩, _⟩ := h; rfl) (fun _ _ _ _ _ _ us hl => match us, hl with | [_, _], _ => rfl) ?_
  rintro f cdv A outer s H vs Q EX hr ⟨S, F, ⟨found1128, due1129⟩, out, ⟨v0, _, rfl, h0, ⟨v1, rfl, h1⟩⟩, W, hm, k⟩
  refine ⟨_, PSs.nox (pss_cons (ps_if (PW.pt (pw_or (pt_not (pt_val (pe_callB (call_isiKK (K := K)) rfl (by exact E.g_isinstance) (by decide +kernel) (pa_cons (pv 0) (pa_cons (pe_bltn (v := .ty "list") (u := .type "list") rfl (by exact E.g_list) (by decide +kernel) rfl) pa_nil))))) (pw_or1 (pt_cmpR op_ne (pe_callB (call_lenK (K := K)) rfl (by exact E.g_len) boot_len (pa_cons (pv 0) pa_nil)) (pe_callB (call_lenK (K := K)) rfl (by exact E.g_len) boot_len (pa_cons (pv 1) pa_nil)) (nomark _))))) (pss_cons (ps_ret pe_bl) pss_nil) pss_nil) (pss_cons (ps_for PassesOwn.never rfl (pi_range1 rfl (by exact E.g_range) (pa_cons (pe_callB (call_lenK (K := K)) rfl (by exact E.g_len) boot_len (pa_cons (pv 1) pa_nil)) pa_nil)) (pg_name (i := 2) sc__law_same.nd rfl (Or.inl rfl)) (pss_cons (ps_if (PW.pt (pw_or (pt_not (pt_val (pe_cal (ok__law_is_integer E) (by exact hr) (by first | decide | omega) (by rfl) pass0 (pa_cons (pe_ix (ix_listK (K := K)) (pv 0) (pv 2) (by intro _ _; rfl)) pa_nil)))) (pw_or1 (pt_cmpR op_ne (pe_ix (ix_listK (K := K)) (pv 0) (pv 2) (by intro _ _; rfl)) (pe_ix (ix_listK (K := K)) (pv 1) (pv 2) (by intro _ _; rfl)) (nomark _))))) (pss_cons (ps_ret pe_bl) pss_nil) pss_nil) pss_nil)) (pss_cons (ps_ret pe_bl) pss_nil))), ?_⟩
  have hG : Okc [fS S, (tL tInt).f found1128 v0, (tL tInt).f due1129 v1] S := ⟨Same.refl _, h0, h1, True.intro⟩
  have W : Wd S (([] : Ow) ++ F) H := W
  show (_ : TS) _ ([some v0, some v1, none] : L2.St) H
  refine k_if hG W hm (simT_or (simT_not (simT_B (sim_isi isI_list_list (sim_var 1 rfl rfl)))) (simT_test (sim_neI (sim_len (sim_var 1 rfl rfl)) (sim_len (sim_var 2 rfl rfl))))) ?_ ?_
  · clear hG W hm
    intro S H hG W hm
    exact k_ret hG W hm sim_bl (fun v S H hG W hr => k v S H (Okc.at 0 rfl hG) (W.pick [] rfl) hr)
  · clear hG W hm
    intro S H hG W hm
    refine y_next ?_
    refine k_forK (σJ := (fun (bx1139 : Unit) (wx1139 : Option V) => ([some v0, some v1, wx1139] : L2.St))) (OJ := (fun (bx1139 : Unit) (wx1139 : Option V) => ([] : Ow))) (Fb := (fun (bx1139 : Unit) (wx1139 : Option V) => ([] : List Fact))) (σT := (fun b w (tx1139 : V) => ((fun (bx1139 : Unit) (wx1139 : Option V) => ([some v0, some v1, wx1139] : L2.St)) b w).set 2 (some tx1139))) ((none) : Option V) hG W hm (simI_range1 (sim_len (sim_var 2 rfl rfl))) (fun b w => tg_name) (fun b w => List.nil_sublist _) rfl rfl (fun S h => h) ?_ ?_
    · clear hG W hm
      intro S1 y1140 bx1139 wx1139 tx1139 S H k1142 hm hG W Nx1139 hNx1139 hBx1139
      refine k_if hG W hm (simT_or (simT_not (simT_B (sim_call (simA_one (sim_ix (sim_var 3 rfl rfl) (sim_var 0 rfl rfl)))))) (simT_test (sim_neI (sim_ix (sim_var 3 rfl rfl) (sim_var 0 rfl rfl)) (sim_ix (sim_var 4 rfl rfl) (sim_var 0 rfl rfl))))) ?_ ?_
      · clear hG W hm
        intro S H hG W hm
        exact k_ret hG W hm sim_bl (fun v S H hG W hr => k v S H (Okc.at 2 rfl hG) (W.pick [] rfl) hr)
      · clear hG W hm
        intro S H hG W hm
        refine y_next ?_
        refine y_next ?_
        exact hNx1139 _ (some (tx1139)) _ _ hm (Okc.dr 1 hG) (W.pick [] rfl)
    · clear hG W hm
      intro bx1139 wx1139 S H hm hG W
      exact k_ret hG W hm sim_bl (fun v S H hG W hr => k v S H (Okc.at 0 rfl hG) (W.pick [] rfl) hr)
theorem sc__law_is : FnScope ["_law_found", "_law_due"] ["_law_found", "_law_due"] (defScope (top 57)) := ⟨rfl, rfl, rfl, by decide +kernel, rfl, by decide +kernel, by decide +kernel⟩
theorem ok__law_is (E : EnvF P K mg) : Cal CX0 P w K mg base 3 "_law_is" (spP (TyA.c (tT tInt) (TyA.one (tT tInt))) (fun a => m__law_is a.1 a.2) tBool) := by
  refine cal_mk (k := 2) E.d__law_is sc__law_is (fun vs H Q E h => by obtain ⟨S, F, a, r, ⟨_, _, rfl, _, ⟨_, rfl, _⟩⟩, _⟩ := h; rfl) (fun _ _ _ _ _ _ us hl => match us, hl with | [_, _], _ => rfl) ?_
  rintro f cdv A outer s H vs Q EX hr ⟨S, F, ⟨found1156, due1157⟩, out, ⟨v0, _, rfl, h0, ⟨v1, rfl, h1⟩⟩, W, hm, k⟩
  refine ⟨_, PSs.nox (pss_cons (ps_ret (pe_and (pe_callB (call_isiKK (K := K)) rfl (by exact E.g_isinstance) (by decide +kernel) (pa_cons (pv 0) (pa_cons (pe_bltn (v := .ty "tuple") (u := .type "tuple") rfl (by exact E.g_tuple) (by decide +kernel) rfl) pa_nil))) (pe_one (pe_cal (ok__law_same E) (by exact hr) (by first | decide | omega) (by rfl) pass0 (pa_cons (pe_callTy (call_listK (K := K)) rfl (by exact E.g_list) (by decide +kernel) (pa_cons (pv 0) pa_nil)) (pa_cons (pe_callTy (call_listK (K := K)) rfl (by exact E.g_list) (by decide +kernel) (pa_cons (pv 1) pa_nil)) pa_nil)))))) pss_nil), ?_⟩
  have hG : Okc [fS S, (tT tInt).f found1156 v0, (tT tInt).f due1157 v1] S := ⟨Same.refl _, h0, h1, True.intro⟩
  have W : Wd S (([] : Ow) ++ F) H := W
  show (_ : TS) _ ([some v0, some v1] : L2.St) H
  exact k_ret hG W hm (sim_andV (sim_isi isI_tup_tuple (sim_var 1 rfl rfl)) (sim_call (simA_c (SimF.sim (simF_listT (sim_var 1 rfl rfl))) (simA_one (SimF.sim (simF_listT (sim_var 2 rfl rfl))))))) (fun v S H hG W hr => k v S H (Okc.at 0 rfl hG) (W.pick [] rfl) hr)
theorem sc__law_same_pairs : FnScope ["_law_found", "_law_due", "_law_k", "_law_pair"] ["_law_found", "_law_due"] (defScope (top 58)) := ⟨rfl, rfl, rfl, by decide +kernel, rfl, by decide +kernel, by decide +kernel⟩
theorem ok__law_same_pairs (E : EnvF P K mg) : Cal CX0 P w K mg base 4 "_law_same_pairs" (spP (TyA.c (tL (tP tInt (tT tInt))) (TyA.one (tL (tP tInt (tT tInt))))) (fun a => m__law_same_pairs a.1 a.2) tBool) := by
  refine cal_mk (k := 3) E.d__law_same_pairs sc__law_same_pairs (fun vs H Q E h => by obtain ⟨S, F, a, r, ⟨_, _, rfl, _, ⟨_, rfl, _⟩⟩, _⟩ := h; rfl) (fun _ _ _ _ _ _ us hl => match us, hl with | [_, _], _ => rfl) ?_
  rintro f cdv A outer s H vs Q EX hr ⟨S, F, ⟨found1162, due1163⟩, out, ⟨v0, _, rfl, h0, ⟨v1, rfl, h1⟩⟩, W, hm, k⟩
  refine ⟨_, PSs.nox (pss_cons (ps_if (PW.pt (pw_or (pt_not (pt_val (pe_callB (call_isiKK (K := K)) rfl (by exact E.g_isinstance) (by decide +kernel) (pa_cons (pv 0) (pa_cons (pe_bltn (v := .ty "list") (u := .type "list") rfl (by exact E.g_list) (by decide +kernel) rfl) pa_nil))))) (pw_or1 (pt_cmpR op_ne (pe_callB (call_lenK (K := K)) rfl (by exact E.g_len) boot_len (pa_cons (pv 0) pa_nil)) (pe_callB (call_lenK (K := K)) rfl (by exact E.g_len) boot_len (pa_cons (pv 1) pa_nil)) (nomark _))))) (pss_cons (ps_ret pe_bl) pss_nil) pss_nil) (pss_cons (ps_for PassesOwn.never rfl (pi_range1 rfl (by exact E.g_range) (pa_cons (pe_callB (call_lenK (K := K)) rfl (by exact E.g_len) boot_len (pa_cons (pv 1) pa_nil)) pa_nil)) (pg_name (i := 2) sc__law_same_pairs.nd rfl (Or.inl rfl)) (pss_cons (ps_set (i := 3) sc__law_same_pairs.nd rfl (Or.inl rfl) (pe_ix (ix_listK (K := K)) (pv 0) (pv 2) (by intro _ _; rfl))) (pss_cons (ps_if (PW.pt (pw_or (pt_not (pt_val (pe_callB (call_isiKK (K := K)) rfl (by exact E.g_isinstance) (by decide +kernel) (pa_cons (pv 3) (pa_cons (pe_bltn (v := .ty "tuple") (u := .type "tuple") rfl (by exact E.g_tuple) (by decide +kernel) rfl) pa_nil))))) (pw_or (pt_cmpR op_ne (pe_callB (call_lenK (K := K)) rfl (by exact E.g_len) boot_len (pa_cons (pv 3) pa_nil)) pe_int (nomark _)) (pw_or1 (pt_not (pt_val (pe_cal (ok__law_is_integer E) (by exact hr) (by first | decide | omega) (by rfl) pass0 (pa_cons (pe_ix (ix_tupK (K := K)) (pv 3) pe_int (by intro _ _; rfl)) pa_nil)))))))) (pss_cons (ps_ret pe_bl) pss_nil) pss_nil) (pss_cons (ps_if (PW.pt (pw_or (pt_cmpR op_ne (pe_ix (ix_tupK (K := K)) (pv 3) pe_int (by intro _ _; rfl)) (pe_ix (ix_tupK (K := K)) (pe_ix (ix_listK (K := K)) (pv 1) (pv 2) (by intro _ _; rfl)) pe_int (by intro _ _; rfl)) (nomark _)) (pw_or1 (pt_not (pt_val (pe_cal (ok__law_is E) (by exact hr) (by first | decide | omega) (by rfl) pass0 (pa_cons (pe_ix (ix_tupK (K := K)) (pv 3) pe_int (by intro _ _; rfl)) (pa_cons (pe_ix (ix_tupK (K := K)) (pe_ix (ix_listK (K := K)) (pv 1) (pv 2) (by intro _ _; rfl)) pe_int (by intro _ _; rfl)) pa_nil)))))))) (pss_cons (ps_ret pe_bl) pss_nil) pss_nil) pss_nil)))) (pss_cons (ps_ret pe_bl) pss_nil))), ?_⟩
  have hG : Okc [fS S, (tL (tP tInt (tT tInt))).f found1162 v0, (tL (tP tInt (tT tInt))).f due1163 v1] S := ⟨Same.refl _, h0, h1, True.intro⟩
  have W : Wd S (([] : Ow) ++ F) H := W
  show (_ : TS) _ ([some v0, some v1, none, none] : L2.St) H
  refine k_if hG W hm (simT_or (simT_not (simT_B (sim_isi isI_list_list (sim_var 1 rfl rfl)))) (simT_test (sim_neI (sim_len (sim_var 1 rfl rfl)) (sim_len (sim_var 2 rfl rfl))))) ?_ ?_
  · clear hG W hm
    intro S H hG W hm
    exact k_ret hG W hm sim_bl (fun v S H hG W hr => k v S H (Okc.at 0 rfl hG) (W.pick [] rfl) hr)
  · clear hG W hm
    intro S H hG W hm
    refine y_next ?_
    refine k_forK (σJ := (fun (bx1173 : Unit) (wx1173 : Option V × Option V) => ([some v0, some v1, wx1173.1, wx1173.2] : L2.St))) (OJ := (fun (bx1173 : Unit) (wx1173 : Option V × Option V) => ([] : Ow))) (Fb := (fun (bx1173 : Unit) (wx1173 : Option V × Option V) => ([] : List Fact))) (σT := (fun b w (tx1173 : V) => ((fun (bx1173 : Unit) (wx1173 : Option V × Option V) => ([some v0, some v1, wx1173.1, wx1173.2] : L2.St)) b w).set 2 (some tx1173))) (((none), (none)) : Option V × Option V) hG W hm (simI_range1 (sim_len (sim_var 2 rfl rfl))) (fun b w => tg_name) (fun b w => List.nil_sublist _) rfl rfl (fun S h => h) ?_ ?_
    · clear hG W hm
      intro S1 y1174 bx1173 wx1173 tx1173 S H k1176 hm hG W Nx1173 hNx1173 hBx1173
      refine k_set hG W hm (sim_ix (sim_var 3 rfl rfl) (sim_var 0 rfl rfl)) ?_
      clear hG W hm
      intro pair1180 v1181 S H hG W hm
      refine k_if hG W hm (simT_or (simT_not (simT_B (sim_isi isI_pair_tuple (sim_var 0 rfl rfl)))) (simT_or (simT_test (sim_neI (sim_lenP (sim_var 0 rfl rfl)) sim_int)) (simT_not (simT_B (sim_call (simA_one (sim_fst (sim_var 0 rfl rfl)))))))) ?_ ?_
      · clear hG W hm
        intro S H hG W hm
        exact k_ret hG W hm sim_bl (fun v S H hG W hr => k v S H (Okc.at 3 rfl hG) (W.pick [] rfl) hr)
      · clear hG W hm
        intro S H hG W hm
        refine y_next ?_
        refine k_if hG W hm (simT_or (simT_test (sim_neI (sim_fst (sim_var 0 rfl rfl)) (sim_fst (sim_ix (sim_var 5 rfl rfl) (sim_var 1 rfl rfl))))) (simT_not (simT_B (sim_call (simA_c (sim_snd (sim_var 0 rfl rfl)) (simA_one (sim_snd (sim_ix (sim_var 5 rfl rfl) (sim_var 1 rfl rfl))))))))) ?_ ?_
        · clear hG W hm
          intro S H hG W hm
          exact k_ret hG W hm sim_bl (fun v S H hG W hr => k v S H (Okc.at 3 rfl hG) (W.pick [] rfl) hr)
        · clear hG W hm
          intro S H hG W hm
          refine y_next ?_
          refine y_next ?_
          exact hNx1173 _ ((some (tx1173)), (some (v1181))) _ _ hm (Okc.dr 2 hG) (W.pick [] rfl)
    · clear hG W hm
      intro bx1173 wx1173 S H hm hG W
      exact k_ret hG W hm sim_bl (fun v S H hG W hr => k v S H (Okc.at 0 rfl hG) (W.pick [] rfl) hr)
theorem sc__law_same_states : FnScope ["_law_found", "_law_due", "_law_k"] ["_law_found", "_law_due"] (defScope (top 59)) := ⟨rfl, rfl, rfl, by decide +kernel, rfl, by decide +kernel, by decide +kernel⟩
theorem ok__law_same_states (E : EnvF P K mg) : Cal CX0 P w K mg base 4 "_law_same_states" (spP (TyA.c (tL (tT tInt)) (TyA.one (tL (tT tInt)))) (fun a => m__law_same_states a.1 a.2) tBool) := by
  refine cal_mk (k := 3) E.d__law_same_states sc__law_same_states (fun vs H Q E h => by obtain ⟨S, F, a, r, ⟨_, _, rfl, _, ⟨_, rfl, _⟩⟩, _⟩ := h; rfl) (fun _ _ _ _ _ _ us hl => match us, hl with | [_, _], _ => rfl) ?_
  rintro f cdv A outer s H vs Q EX hr ⟨S, F, ⟨found1208, due1209⟩, out, ⟨v0, _, rfl, h0, ⟨v1, rfl, h1⟩⟩, W, hm, k⟩
  refine ⟨_, PSs.nox (pss_cons (ps_if (PW.pt (pw_or (pt_not (pt_val (pe_callB (call_isiKK (K := K)) rfl (by exact E.g_isinstance) (by decide +kernel) (pa_cons (pv 0) (pa_cons (pe_bltn (v := .ty "list") (u := .type "list") rfl (by exact E.g_list) (by decide +kernel) rfl) pa_nil))))) (pw_or1 (pt_cmpR op_ne (pe_callB (call_lenK (K := K)) rfl (by exact E.g_len) boot_len (pa_cons (pv 0) pa_nil)) (pe_callB (call_lenK (K := K)) rfl (by exact E.g_len) boot_len (pa_cons (pv 1) pa_nil)) (nomark _))))) (pss_cons (ps_ret pe_bl) pss_nil) pss_nil) (pss_cons (ps_for PassesOwn.never rfl (pi_range1 rfl (by exact E.g_range) (pa_cons (pe_callB (call_lenK (K := K)) rfl (by exact E.g_len) boot_len (pa_cons (pv 1) pa_nil)) pa_nil)) (pg_name (i := 2) sc__law_same_states.nd rfl (Or.inl rfl)) (pss_cons (ps_if (pt_not (pt_val (pe_cal (ok__law_is E) (by exact hr) (by first | decide | omega) (by rfl) pass0 (pa_cons (pe_ix (ix_listK (K := K)) (pv 0) (pv 2) (by intro _ _; rfl)) (pa_cons (pe_ix (ix_listK (K := K)) (pv 1) (pv 2) (by intro _ _; rfl)) pa_nil))))) (pss_cons (ps_ret pe_bl) pss_nil) pss_nil) pss_nil)) (pss_cons (ps_ret pe_bl) pss_nil))), ?_⟩
  have hG : Okc [fS S, (tL (tT tInt)).f found1208 v0, (tL (tT tInt)).f due1209 v1] S := ⟨Same.refl _, h0, h1, True.intro⟩
  have W : Wd S (([] : Ow) ++ F) H := W
  show (_ : TS) _ ([some v0, some v1, none] : L2.St) H
  refine k_if hG W hm (simT_or (simT_not (simT_B (sim_isi isI_list_list (sim_var 1 rfl rfl)))) (simT_test (sim_neI (sim_len (sim_var 1 rfl rfl)) (sim_len (sim_var 2 rfl rfl))))) ?_ ?_
  · clear hG W hm
    intro S H hG W hm
    exact k_ret hG W hm sim_bl (fun v S H hG W hr => k v S H (Okc.at 0 rfl hG) (W.pick [] rfl) hr)
  · clear hG W hm
    intro S H hG W hm
    refine y_next ?_
    refine k_forK (σJ := (fun (bx1219 : Unit) (wx1219 : Option V) => ([some v0, some v1, wx1219] : L2.St))) (OJ := (fun (bx1219 : Unit) (wx1219 : Option V) => ([] : Ow))) (Fb := (fun (bx1219 : Unit) (wx1219 : Option V) => ([] : List Fact))) (σT := (fun b w (tx1219 : V) => ((fun (bx1219 : Unit) (wx1219 : Option V) => ([some v0, some v1, wx1219] : L2.St)) b w).set 2 (some tx1219))) ((none) : Option V) hG W hm (simI_range1 (sim_len (sim_var 2 rfl rfl))) (fun b w => tg_name) (fun b w => List.nil_sublist _) rfl rfl (fun S h => h) ?_ ?_
    · clear hG W hm
      intro S1 y1220 bx1219 wx1219 tx1219 S H k1222 hm hG W Nx1219 hNx1219 hBx1219
      refine k_if hG W hm (simT_not (simT_B (sim_call (simA_c (sim_ix (sim_var 3 rfl rfl) (sim_var 0 rfl rfl)) (simA_one (sim_ix (sim_var 4 rfl rfl) (sim_var 0 rfl rfl))))))) ?_ ?_
      · clear hG W hm
        intro S H hG W hm
        exact k_ret hG W hm sim_bl (fun v S H hG W hr => k v S H (Okc.at 2 rfl hG) (W.pick [] rfl) hr)
      · clear hG W hm
        intro S H hG W hm
        refine y_next ?_
        refine y_next ?_
        exact hNx1219 _ (some (tx1219)) _ _ hm (Okc.dr 1 hG) (W.pick [] rfl)
    · clear hG W hm
      intro bx1219 wx1219 S H hm hG W
      exact k_ret hG W hm sim_bl (fun v S H hG W hr => k v S H (Okc.at 0 rfl hG) (W.pick [] rfl) hr)
theorem sc__law_lowest : FnScope ["_law_below_here", "_law_state_here", "_law_lamps", "_law_lamp", "_law_lower"] ["_law_below_here", "_law_state_here"] (defScope (top 60)) := ⟨rfl, rfl, rfl, by decide +kernel, rfl, by decide +kernel, by decide +kernel⟩
theorem ok__law_lowest (E : EnvF P K mg) : Cal CX0 P w K mg base 1 "_law_lowest" (spP (TyA.c (tL (tL tInt)) (TyA.one (tT tInt))) (fun a => m__law_lowest a.1 a.2) (tL tInt)) := by
  refine cal_mk (k := 0) E.d__law_lowest sc__law_lowest (fun vs H Q E h => by obtain ⟨S, F, a, r, ⟨_, _, rfl, _, ⟨_, rfl, _⟩⟩, _⟩ := h; rfl) (fun _ _ _ _ _ _ us hl => match us, hl with | [_, _], _ => rfl) ?_
  rintro f cdv A outer s H vs Q EX hr ⟨S, F, ⟨below_here1233, state_here1234⟩, out, ⟨v0, _, rfl, h0, ⟨v1, rfl, h1⟩⟩, W, hm, k⟩
  refine ⟨_, PSs.nox (pss_cons (ps_set (i := 2) sc__law_lowest.nd rfl (Or.inl rfl) (pe_lst pa_nil)) (pss_cons (ps_for PassesOwn.never rfl (pi_range1 rfl (by exact E.g_range) (pa_cons (pe_callB (call_lenK (K := K)) rfl (by exact E.g_len) boot_len (pa_cons (pv 1) pa_nil)) pa_nil)) (pg_name (i := 3) sc__law_lowest.nd rfl (Or.inl rfl)) (pss_cons (ps_if (PW.pt (pw_and (pt_cmpR op_gt (pe_ix (ix_tupK (K := K)) (pv 1) (pv 3) (by intro _ _; rfl)) pe_int (nomark _)) (pw_and1 (pt_cmpR op_eq (pe_callB (cr_sumK (K := K)) rfl (by exact E.g_sum) (by decide +kernel) (pa_cons (pe_lc (own := [("_law_lower", 4)]) rfl sc__law_lowest.nd (pi_listK (K := K) (pe_ix (ix_listK (K := K)) (pv 0) (pv 3) (by intro _ _; rfl))) (blkOk_by (N := ["_law_below_here", "_law_state_here", "_law_lamps", "_law_lamp", "_law_lower"]) (sc := defScope (top 60)) (by decide +kernel)) (fun _ _ _ _ _ => (pg_name (i := 4) sc__law_lowest.nd rfl (Or.inl rfl))) (fun _ _ _ _ _ => pts_nil) (fun _ _ _ _ _ => (pe_ix (ix_tupK (K := K)) (pv 1) (pv 4) (by intro _ _; rfl)))) pa_nil)) pe_int (nomark _))))) (pss_cons (ps_expr (pe_bmK (K := K) PySem.F.plainAttrs_list PySem.F.slot_list_append PySem.F.type_list_append mt_append (pv 2) (pa_cons (pv 3) pa_nil))) pss_nil) pss_nil) pss_nil)) (pss_cons (ps_ret (pv 2)) pss_nil))), ?_⟩
  have hG : Okc [fS S, (tL (tL tInt)).f below_here1233 v0, (tT tInt).f state_here1234 v1] S := ⟨Same.refl _, h0, h1, True.intro⟩
  have W : Wd S (([] : Ow) ++ F) H := W
  show (_ : TS) _ ([some v0, some v1, none, none, none] : L2.St) H
  refine k_setO hG W hm (simF_lst (T := tInt) simA_ln0) ?_
  clear hG W hm
  intro lamps1235 p1237 c1238 S H hG W hm
  refine k_fold (σJ := (fun (bx1241 : (List Int)) (wx1241 : List Cell × Option V) => ([some v0, some v1, some (.ref p1237), wx1241.2, none] : L2.St))) (OJ := (fun (bx1241 : (List Int)) (wx1241 : List Cell × Option V) => ([wx1241.1] : Ow))) (Fb := (fun (bx1241 : (List Int)) (wx1241 : List Cell × Option V) => ([(oL tInt).f bx1241 p1237 (wx1241.1)] : List Fact))) (σT := (fun b w (tx1241 : V) => ((fun (bx1241 : (List Int)) (wx1241 : List Cell × Option V) => ([some v0, some v1, some (.ref p1237), wx1241.2, none] : L2.St)) b w).set 3 (some tx1241))) ((c1238, (none)) : List Cell × Option V) hG W hm (simI_range1 (sim_lenT (sim_var 3 rfl rfl))) (fun b w => tg_name) (fun b w => List.nil_sublist _) rfl rfl (fun S h => (Okc.cons (Okc.at 0 rfl h) h)) ?_ ?_
  · clear hG W hm
    intro S1 y1242 bx1241 b' wx1241 tx1241 S H hm hG W N hN
    refine k_if hG W hm (simT_and (simT_test (sim_gt (sim_ixT (sim_var 6 rfl rfl) (sim_var 0 rfl rfl)) sim_int)) (simT_test (sim_eqI (sim_sum (SimF.sim (simF_lc (simI_list (sim_ix (sim_var 5 rfl rfl) (sim_var 0 rfl rfl))) tg_name (fun _ => rfl) (List.nil_sublist _) (fun a w => simT_yes) (fun a w => (sim_ixT (sim_var 7 rfl rfl) (sim_var 0 rfl rfl)))))) sim_int))) ?_ ?_
    · clear hG W hm
      intro S H hG W hm
      refine k_app hG W hm 0 1 rfl rfl rfl (sim_var 0 rfl rfl) ?_
      clear hG W hm
      intro y1259 c1261 S H hG W hm
      revert hG hm; generalize (bx1241 ++ [y1259]) = lamps1260; intro hG hm
      refine y_next ?_
      cases hm
      refine y_next ?_
      exact hN (c1261, (some (tx1241))) _ _ (Okc.cons (Okc.at 0 rfl hG) (Okc.dr 3 hG)) (W.pick [0] rfl)
    · clear hG W hm
      intro S H hG W hm
      refine y_next ?_
      cases hm
      refine y_next ?_
      exact hN (wx1241.1, (some (tx1241))) _ _ (Okc.cons (Okc.at 1 rfl hG) (Okc.dr 2 hG)) (W.pick [0] rfl)
  · clear hG W hm
    intro bx1241 wx1241 S H hm hG W
    refine k_frz hG W frz_L 0 0 rfl rfl ?_
    clear hG W
    intro S hG W
    exact k_ret hG W hm (sim_var 0 rfl rfl) (fun v S H hG W hr => k v S H (Okc.at 3 rfl hG) (W.pick [] rfl) hr)
theorem sc__law_piece : FnScope ["_law_above_here", "_law_state_here", "_law_lamp", "_law_k"] ["_law_above_here", "_law_state_here", "_law_lamp"] (defScope (top 61)) := ⟨rfl, rfl, rfl, by decide +kernel, rfl, by decide +kernel, by decide +kernel⟩
theorem ok__law_piece (E : EnvF P K mg) : Cal CX0 P w K mg base 1 "_law_piece" (spP (TyA.c (tL (tL tInt)) (TyA.c (tT tInt) (TyA.one tInt))) (fun a => m__law_piece a.1 a.2.1 a.2.2) (tT tInt)) := by
  refine cal_mk (k := 0) E.d__law_piece sc__law_piece (fun vs H Q E h => by obtain ⟨S, F, a, r, ⟨_, _, rfl, _, ⟨_, _, rfl, _, ⟨_, rfl, _⟩⟩⟩, _⟩ := h; rfl) (fun _ _ _ _ _ _ us hl => match us, hl with | [_, _, _], _ => rfl) ?_
  rintro f cdv A outer s H vs Q EX hr ⟨S, F, ⟨above_here1262, state_here1263, lamp1264⟩, out, ⟨v0, _, rfl, h0, ⟨v1, _, rfl, h1, ⟨v2, rfl, h2⟩⟩⟩, W, hm, k⟩
  refine ⟨_, PSs.nox (pss_cons (ps_ret (pe_callTy (call_tupleK (K := K)) rfl (by exact E.g_tuple) (by decide +kernel) (pa_cons (pe_lc (own := [("_law_k", 3)]) rfl sc__law_piece.nd (pi_range1 rfl (by exact E.g_range) (pa_cons (pe_callB (call_lenK (K := K)) rfl (by exact E.g_len) boot_len (pa_cons (pv 1) pa_nil)) pa_nil)) (blkOk_by (N := ["_law_above_here", "_law_state_here", "_law_lamp", "_law_k"]) (sc := defScope (top 61)) (by decide +kernel)) (fun _ _ _ _ _ => (pg_name (i := 3) sc__law_piece.nd rfl (Or.inl rfl))) (fun _ _ _ _ _ => pts_nil) (fun _ _ _ _ _ => (pe_op op_mulW (pe_ix (ix_tupK (K := K)) (pv 1) (pv 3) (by intro _ _; rfl)) (pe_callTy call_int1 rfl (by exact E.g_int) (by decide +kernel) (pa_cons (pe_or (pe_cmpR op_eq (pv 3) (pv 2) (nomark _)) (pe_one (pe_cmpR (op_inDK (K := K) (by exact hu65 hr)) (pv 3) (pe_ix (ix_listK (K := K)) (pv 0) (pv 2) (by intro _ _; rfl)) (by with_unfolding_all rfl)))) pa_nil))))) pa_nil))) pss_nil), ?_⟩
  have hG : Okc [fS S, (tL (tL tInt)).f above_here1262 v0, (tT tInt).f state_here1263 v1, tInt.f lamp1264 v2] S := ⟨Same.refl _, h0, h1, h2, True.intro⟩
  have W : Wd S (([] : Ow) ++ F) H := W
  show (_ : TS) _ ([some v0, some v1, some v2, none] : L2.St) H
  exact k_ret hG W hm (sim_tuple (SimF.sim (simF_lc (simI_range1 (sim_lenT (sim_var 2 rfl rfl))) tg_name (fun _ => rfl) (List.nil_sublist _) (fun a w => simT_yes) (fun a w => (sim_mul (sim_ixT (sim_var 3 rfl rfl) (sim_var 0 rfl rfl)) (sim_intB (sim_orV (sim_eqI (sim_var 0 rfl rfl) (sim_var 4 rfl rfl)) (sim_in (sim_var 0 rfl rfl) (sim_ix (sim_var 2 rfl rfl) (sim_var 4 rfl rfl)))))))))) (fun v S H hG W hr => k v S H (Okc.at 0 rfl hG) (W.pick [] rfl) hr)
theorem sc__law_all_lowered : FnScope ["_law_below_here", "_law_hues", "_law_state_here", "_law_lamps", "_law_hand", "_law_lamp", "_law_lower"] ["_law_below_here", "_law_hues", "_law_state_here", "_law_lamps"] (defScope (top 62)) := ⟨rfl, rfl, rfl, by decide +kernel, rfl, by decide +kernel, by decide +kernel⟩
theorem ok__law_all_lowered (E : EnvF P K mg) : Cal CX0 P w K mg base 1 "_law_all_lowered" (spP (TyA.c (tL (tL tInt)) (TyA.c tInt (TyA.c (tT tInt) (TyA.one (tL tInt))))) (fun a => m__law_all_lowered a.1 a.2.1 a.2.2.1 a.2.2.2) (tT tInt)) := by
  refine cal_mk (k := 0) E.d__law_all_lowered sc__law_all_lowered (fun vs H Q E h => by obtain ⟨S, F, a, r, ⟨_, _, rfl, _, ⟨_, _, rfl, _, ⟨_, _, rfl, _, ⟨_, rfl, _⟩⟩⟩⟩, _⟩ := h; rfl) (fun _ _ _ _ _ _ us hl => match us, hl with | [_, _, _, _], _ => rfl) ?_
  rintro f cdv A outer s H vs Q EX hr ⟨S, F, ⟨below_here1281, hues1282, state_here1283, lamps1284⟩, out, ⟨v0, _, rfl, h0, ⟨v1, _, rfl, h1, ⟨v2, _, rfl, h2, ⟨v3, rfl, h3⟩⟩⟩⟩, W, hm, k⟩
  refine ⟨_, PSs.nox (pss_cons (ps_set (i := 4) sc__law_all_lowered.nd rfl (Or.inl rfl) (pe_callTy (call_listK (K := K)) rfl (by exact E.g_list) (by decide +kernel) (pa_cons (pv 2) pa_nil))) (pss_cons (ps_for PassesOwn.never rfl (pi_listK (K := K) (pv 3)) (pg_name (i := 5) sc__law_all_lowered.nd rfl (Or.inl rfl)) (pss_cons (ps_asg (pe_op op_sub (pe_ix (ix_listK (K := K)) (pv 4) (pv 5) (by intro _ _; rfl)) pe_int) (pg_sub (pv 4) (pv 5) set_list)) (pss_cons (ps_for PassesOwn.never rfl (pi_listK (K := K) (pe_ix (ix_listK (K := K)) (pv 0) (pv 5) (by intro _ _; rfl))) (pg_name (i := 6) sc__law_all_lowered.nd rfl (Or.inl rfl)) (pss_cons (ps_asg (pe_op op_sub (pv 1) pe_int) (pg_sub (pv 4) (pv 6) set_list)) pss_nil)) pss_nil))) (pss_cons (ps_ret (pe_callTy (call_tupleK (K := K)) rfl (by exact E.g_tuple) (by decide +kernel) (pa_cons (pv 4) pa_nil))) pss_nil))), ?_⟩
  have hG : Okc [fS S, (tL (tL tInt)).f below_here1281 v0, tInt.f hues1282 v1, (tT tInt).f state_here1283 v2, (tL tInt).f lamps1284 v3] S := ⟨Same.refl _, h0, h1, h2, h3, True.intro⟩
  have W : Wd S (([] : Ow) ++ F) H := W
  show (_ : TS) _ ([some v0, some v1, some v2, some v3, none, none, none] : L2.St) H
  refine k_setO hG W hm (simF_listT (sim_var 3 rfl rfl)) ?_
  clear hG W hm
  intro hand1285 p1287 c1288 S H hG W hm
  refine k_fold (σJ := (fun (bx1289 : (List Int)) (wx1289 : List Cell × Option V × Option V) => ([some v0, some v1, some v2, some v3, some (.ref p1287), wx1289.2.1, wx1289.2.2] : L2.St))) (OJ := (fun (bx1289 : (List Int)) (wx1289 : List Cell × Option V × Option V) => ([wx1289.1] : Ow))) (Fb := (fun (bx1289 : (List Int)) (wx1289 : List Cell × Option V × Option V) => ([(oL tInt).f bx1289 p1287 (wx1289.1)] : List Fact))) (σT := (fun b w (tx1289 : V) => ((fun (bx1289 : (List Int)) (wx1289 : List Cell × Option V × Option V) => ([some v0, some v1, some v2, some v3, some (.ref p1287), wx1289.2.1, wx1289.2.2] : L2.St)) b w).set 5 (some tx1289))) ((c1288, (none), (none)) : List Cell × Option V × Option V) hG W hm (simI_list (sim_var 5 rfl rfl)) (fun b w => tg_name) (fun b w => List.nil_sublist _) rfl rfl (fun S h => (Okc.cons (Okc.at 0 rfl h) h)) ?_ ?_
  · clear hG W hm
    intro S1 y1290 bx1289 b' wx1289 tx1289 S H hm hG W N hN
    refine k_put hG W hm 0 1 rfl rfl rfl (sim_sub (sim_ix (sim_own 0 1 rfl rfl rfl) (sim_var 0 rfl rfl)) sim_int) (sim_var 0 rfl rfl) ?_
    clear hG W hm
    intro hand1298 c1299 S H hG W hm
    refine k_fold (σJ := (fun (bx1302 : (List Int)) (wx1302 : List Cell × Option V) => ([some v0, some v1, some v2, some v3, some (.ref p1287), some (tx1289), wx1302.2] : L2.St))) (OJ := (fun (bx1302 : (List Int)) (wx1302 : List Cell × Option V) => ([wx1302.1] : Ow))) (Fb := (fun (bx1302 : (List Int)) (wx1302 : List Cell × Option V) => ([(oL tInt).f bx1302 p1287 (wx1302.1)] : List Fact))) (σT := (fun b w (tx1302 : V) => ((fun (bx1302 : (List Int)) (wx1302 : List Cell × Option V) => ([some v0, some v1, some v2, some v3, some (.ref p1287), some (tx1289), wx1302.2] : L2.St)) b w).set 6 (some tx1302))) ((c1299, (wx1289.2.2)) : List Cell × Option V) hG W hm (simI_list (sim_ix (sim_var 6 rfl rfl) (sim_var 1 rfl rfl))) (fun b w => tg_name) (fun b w => List.nil_sublist _) rfl rfl (fun S h => (Okc.cons (Okc.at 0 rfl h) h)) ?_ ?_
    · clear hG W hm
      intro S1 y1303 bx1302 b' wx1302 tx1302 S H hm hG W N hN
      refine k_put hG W hm 0 1 rfl rfl rfl (sim_sub (sim_var 10 rfl rfl) sim_int) (sim_var 0 rfl rfl) ?_
      clear hG W hm
      intro hand1309 c1310 S H hG W hm
      cases hm
      refine y_next ?_
      exact hN (c1310, (some (tx1302))) _ _ (Okc.cons (Okc.at 0 rfl hG) (Okc.dr 3 hG)) (W.pick [0] rfl)
    · clear hG W hm
      intro bx1302 wx1302 S H hm hG W
      cases hm
      refine y_next ?_
      exact hN (wx1302.1, (some (tx1289)), (wx1302.2)) _ _ (Okc.cons (Okc.at 0 rfl hG) (Okc.dr 4 hG)) (W.pick [0] rfl)
  · clear hG W hm
    intro bx1289 wx1289 S H hm hG W
    exact k_ret hG W hm (sim_tuple (sim_own 0 0 rfl rfl rfl)) (fun v S H hG W hr => k v S H (Okc.at 2 rfl hG) (W.pick [] rfl) hr)
theorem sc__law_covers_of : FnScope ["_law_below_here", "_law_hues", "_law_state_here", "_law_found", "_law_lamp", "_law_hand", "_law_lower"] ["_law_below_here", "_law_hues", "_law_state_here"] (defScope (top 63)) := ⟨rfl, rfl, rfl, by decide +kernel, rfl, by decide +kernel, by decide +kernel⟩
theorem ok__law_covers_of (E : EnvF P K mg) : Cal CX0 P w K mg base 1 "_law_covers_of" (spP (TyA.c (tL (tL tInt)) (TyA.c tInt (TyA.one (tT tInt)))) (fun a => m__law_covers_of a.1 a.2.1 a.2.2) (tL (tP tInt (tT tInt)))) := by
  refine cal_mk (k := 0) E.d__law_covers_of sc__law_covers_of (fun vs H Q E h => by obtain ⟨S, F, a, r, ⟨_, _, rfl, _, ⟨_, _, rfl, _, ⟨_, rfl, _⟩⟩⟩, _⟩ := h; rfl) (fun _ _ _ _ _ _ us hl => match us, hl with | [_, _, _], _ => rfl) ?_
  rintro f cdv A outer s H vs Q EX hr ⟨S, F, ⟨below_here1311, hues1312, state_here1313⟩, out, ⟨v0, _, rfl, h0, ⟨v1, _, rfl, h1, ⟨v2, rfl, h2⟩⟩⟩, W, hm, k⟩
  refine ⟨_, PSs.nox (pss_cons (ps_set (i := 3) sc__law_covers_of.nd rfl (Or.inl rfl) (pe_lst pa_nil)) (pss_cons (ps_for PassesOwn.never rfl (pi_range1 rfl (by exact E.g_range) (pa_cons (pe_callB (call_lenK (K := K)) rfl (by exact E.g_len) boot_len (pa_cons (pv 2) pa_nil)) pa_nil)) (pg_name (i := 4) sc__law_covers_of.nd rfl (Or.inl rfl)) (pss_cons (ps_if (PW.pt (pw_and (pt_cmpR op_lt (pe_ix (ix_tupK (K := K)) (pv 2) (pv 4) (by intro _ _; rfl)) (pe_op op_sub (pv 1) pe_int) (nomark _)) (pw_and1 (pt_val (pe_callB (cr_allK (K := K)) rfl (by exact E.g_all) (by decide +kernel) (pa_cons (pe_lc (own := [("_law_lower", 6)]) rfl sc__law_covers_of.nd (pi_listK (K := K) (pe_ix (ix_listK (K := K)) (pv 0) (pv 4) (by intro _ _; rfl))) (blkOk_by (N := ["_law_below_here", "_law_hues", "_law_state_here", "_law_found", "_law_lamp", "_law_hand", "_law_lower"]) (sc := defScope (top 63)) (by decide +kernel)) (fun _ _ _ _ _ => (pg_name (i := 6) sc__law_covers_of.nd rfl (Or.inl rfl))) (fun _ _ _ _ _ => pts_nil) (fun _ _ _ _ _ => (pe_cmpR op_eq (pe_ix (ix_tupK (K := K)) (pv 2) (pv 6) (by intro _ _; rfl)) (pe_op op_sub (pv 1) pe_int) (nomark _)))) pa_nil)))))) (pss_cons (ps_set (i := 5) sc__law_covers_of.nd rfl (Or.inl rfl) (pe_callTy (call_listK (K := K)) rfl (by exact E.g_list) (by decide +kernel) (pa_cons (pv 2) pa_nil))) (pss_cons (ps_asg (pe_op op_add (pe_ix (ix_listK (K := K)) (pv 5) (pv 4) (by intro _ _; rfl)) pe_int) (pg_sub (pv 5) (pv 4) set_list)) (pss_cons (ps_for PassesOwn.never rfl (pi_listK (K := K) (pe_ix (ix_listK (K := K)) (pv 0) (pv 4) (by intro _ _; rfl))) (pg_name (i := 6) sc__law_covers_of.nd rfl (Or.inl rfl)) (pss_cons (ps_asg pe_int (pg_sub (pv 5) (pv 6) set_list)) pss_nil)) (pss_cons (ps_expr (pe_bmK (K := K) PySem.F.plainAttrs_list PySem.F.slot_list_append PySem.F.type_list_append mt_append (pv 3) (pa_cons (pe_tup (pa_cons (pv 4) (pa_cons (pe_callTy (call_tupleK (K := K)) rfl (by exact E.g_tuple) (by decide +kernel) (pa_cons (pv 5) pa_nil)) pa_nil))) pa_nil))) pss_nil)))) pss_nil) pss_nil)) (pss_cons (ps_ret (pv 3)) pss_nil))), ?_⟩
  have hG : Okc [fS S, (tL (tL tInt)).f below_here1311 v0, tInt.f hues1312 v1, (tT tInt).f state_here1313 v2] S := ⟨Same.refl _, h0, h1, h2, True.intro⟩
  have W : Wd S (([] : Ow) ++ F) H := W
  show (_ : TS) _ ([some v0, some v1, some v2, none, none, none, none] : L2.St) H
  refine k_setO hG W hm (simF_lst (T := (tP tInt (tT tInt))) simA_ln0) ?_
  clear hG W hm
  intro found1314 p1316 c1317 S H hG W hm
  refine k_fold (σJ := (fun (bx1320 : (List (Int × (List Int)))) (wx1320 : List Cell × Option V × Option V × Option V) => ([some v0, some v1, some v2, some (.ref p1316), wx1320.2.1, wx1320.2.2.1, wx1320.2.2.2] : L2.St))) (OJ := (fun (bx1320 : (List (Int × (List Int)))) (wx1320 : List Cell × Option V × Option V × Option V) => ([wx1320.1] : Ow))) (Fb := (fun (bx1320 : (List (Int × (List Int)))) (wx1320 : List Cell × Option V × Option V × Option V) => ([(oL (tP tInt (tT tInt))).f bx1320 p1316 (wx1320.1)] : List Fact))) (σT := (fun b w (tx1320 : V) => ((fun (bx1320 : (List (Int × (List Int)))) (wx1320 : List Cell × Option V × Option V × Option V) => ([some v0, some v1, some v2, some (.ref p1316), wx1320.2.1, wx1320.2.2.1, wx1320.2.2.2] : L2.St)) b w).set 4 (some tx1320))) ((c1317, (none), (none), (none)) : List Cell × Option V × Option V × Option V) hG W hm (simI_range1 (sim_lenT (sim_var 4 rfl rfl))) (fun b w => tg_name) (fun b w => List.nil_sublist _) rfl rfl (fun S h => (Okc.cons (Okc.at 0 rfl h) h)) ?_ ?_
  · clear hG W hm
    intro S1 y1321 bx1320 b' wx1320 tx1320 S H hm hG W N hN
    refine k_if hG W hm (simT_and (simT_test (sim_lt (sim_ixT (sim_var 7 rfl rfl) (sim_var 0 rfl rfl)) (sim_sub (sim_var 6 rfl rfl) sim_int))) (simT_B (sim_all (SimF.sim (simF_lc (simI_list (sim_ix (sim_var 5 rfl rfl) (sim_var 0 rfl rfl))) tg_name (fun _ => rfl) (List.nil_sublist _) (fun a w => simT_yes) (fun a w => (sim_eqI (sim_ixT (sim_var 8 rfl rfl) (sim_var 0 rfl rfl)) (sim_sub (sim_var 7 rfl rfl) sim_int)))))))) ?_ ?_
    · clear hG W hm
      intro S H hG W hm
      refine k_setO hG W hm (simF_listT (sim_var 7 rfl rfl)) ?_
      clear hG W hm
      intro hand1342 p1344 c1345 S H hG W hm
      refine k_put hG W hm 0 0 rfl rfl rfl (sim_add (sim_ix (sim_own 0 0 rfl rfl rfl) (sim_var 1 rfl rfl)) sim_int) (sim_var 1 rfl rfl) ?_
      clear hG W hm
      intro hand1352 c1353 S H hG W hm
      refine k_fold (σJ := (fun (bx1356 : (List Int)) (wx1356 : List Cell × Option V) => ([some v0, some v1, some v2, some (.ref p1316), some (tx1320), some (.ref p1344), wx1356.2] : L2.St))) (OJ := (fun (bx1356 : (List Int)) (wx1356 : List Cell × Option V) => ([wx1356.1, wx1320.1] : Ow))) (Fb := (fun (bx1356 : (List Int)) (wx1356 : List Cell × Option V) => ([(oL tInt).f bx1356 p1344 (wx1356.1)] : List Fact))) (σT := (fun b w (tx1356 : V) => ((fun (bx1356 : (List Int)) (wx1356 : List Cell × Option V) => ([some v0, some v1, some v2, some (.ref p1316), some (tx1320), some (.ref p1344), wx1356.2] : L2.St)) b w).set 6 (some tx1356))) ((c1353, (wx1320.2.2.2)) : List Cell × Option V) hG W hm (simI_list (sim_ix (sim_var 7 rfl rfl) (sim_var 2 rfl rfl))) (fun b w => tg_name) (fun b w => List.nil_sublist _) rfl rfl (fun S h => (Okc.cons (Okc.at 0 rfl h) h)) ?_ ?_
      · clear hG W hm
        intro S1 y1357 bx1356 b' wx1356 tx1356 S H hm hG W N hN
        refine k_put hG W hm 0 1 rfl rfl rfl sim_int (sim_var 0 rfl rfl) ?_
        clear hG W hm
        intro hand1361 c1362 S H hG W hm
        cases hm
        refine y_next ?_
        exact hN (c1362, (some (tx1356))) _ _ (Okc.cons (Okc.at 0 rfl hG) (Okc.dr 3 hG)) (W.pick [0, 0] rfl)
      · clear hG W hm
        intro bx1356 wx1356 S H hm hG W
        refine k_app hG W hm 1 4 rfl rfl rfl (sim_pair (sim_var 3 rfl rfl) (sim_tuple (sim_own 0 0 rfl rfl rfl))) ?_
        clear hG W hm
        intro y1365 c1367 S H hG W hm
        revert hG hm; generalize (bx1320 ++ [y1365]) = found1366; intro hG hm
        refine y_next ?_
        cases hm
        refine y_next ?_
        exact hN (c1367, (some (tx1320)), (some (.ref p1344)), (wx1356.2)) _ _ (Okc.cons (Okc.at 0 rfl hG) (Okc.dr 6 hG)) (W.pick [1] rfl)
    · clear hG W hm
      intro S H hG W hm
      refine y_next ?_
      cases hm
      refine y_next ?_
      exact hN (wx1320.1, (some (tx1320)), (wx1320.2.2.1), (wx1320.2.2.2)) _ _ (Okc.cons (Okc.at 1 rfl hG) (Okc.dr 2 hG)) (W.pick [0] rfl)
  · clear hG W hm
    intro bx1320 wx1320 S H hm hG W
    refine k_frz hG W frz_L 0 0 rfl rfl ?_
    clear hG W
    intro S hG W
    exact k_ret hG W hm (sim_var 0 rfl rfl) (fun v S H hG W hr => k v S H (Okc.at 3 rfl hG) (W.pick [] rfl) hr)
theorem sc__law_refuses : FnScope ["_law_house", "_law_state_here", "_law_lamps", "_law_lamp", "raised"] ["_law_house", "_law_state_here", "_law_lamps", "_law_lamp"] (defScope (top 64)) := ⟨rfl, rfl, rfl, by decide +kernel, rfl, by decide +kernel, by decide +kernel⟩
theorem ok__law_refuses (E : EnvF P K mg) : Cal CX0 P w K mg base 7 "_law_refuses" (spP (TyA.c (tHouse (He.ga K "House")) (TyA.c (tT tInt) (TyA.c (tL tInt) (TyA.one tInt)))) (fun a => m__law_refuses a.1 a.2.1 a.2.2.1 a.2.2.2) tBool) := by
  refine cal_mk (k := 6) E.d__law_refuses sc__law_refuses (fun vs H Q E h => by obtain ⟨S, F, a, r, ⟨_, _, rfl, _, ⟨_, _, rfl, _, ⟨_, _, rfl, _, ⟨_, rfl, _⟩⟩⟩⟩, _⟩ := h; rfl) (fun _ _ _ _ _ _ us hl => match us, hl with | [_, _, _, _], _ => rfl) ?_
  rintro f cdv A outer s H vs Q EX hr ⟨S, F, ⟨house1368, state_here1369, lamps1370, lamp1371⟩, out, ⟨v0, _, rfl, h0, ⟨v1, _, rfl, h1, ⟨v2, _, rfl, h2, ⟨v3, rfl, h3⟩⟩⟩⟩, W, hm, k⟩
  refine ⟨_, PSs.nox (pss_cons (L2N.ps_try_as (i := 4) rfl rfl sc__law_refuses.nd rfl rfl ⟨rfl, by decide, .inl E.xd_InvalidLamp.hm⟩ takesF (fun W pn xe tk _ => (pss_cons (ps_expr (pe_calE (okX_lowered E) (by exact hr) (by first | decide | omega) (by rfl) tk (pa_cons (pv 0) (pa_cons (pv 1) (pa_cons (pv 2) pa_nil))))) pss_nil)) (fun a oe cls d pn hz hf => (pss_cons (ps_ret (pe_and (pe_calH (E := fun _ _ _ _ => False) (okH__law_is_integer E) (by exact L2H.roomH_mark hr _) (by first | decide | omega) (hotc hz hf) (by rfl) (pa_cons (pe_xf E.xf_InvalidLamp E.xn_InvalidLamp_lamp (L2N.Zn.zc hz) hf (pv 4)) pa_nil)) (pe_one (pe_cmpR op_eq (pe_xf E.xf_InvalidLamp E.xn_InvalidLamp_lamp (L2N.Zn.zc hz) hf (pv 4)) (pv 3) (nomark _))))) pss_nil))) (pss_cons (ps_ret pe_bl) pss_nil)), ?_⟩
  have hG : Okc [fS S, (tHouse (He.ga K "House")).f house1368 v0, (tT tInt).f state_here1369 v1, (tL tInt).f lamps1370 v2, tInt.f lamp1371 v3] S := ⟨Same.refl _, h0, h1, h2, h3, True.intro⟩
  have W : Wd S (([] : Ow) ++ F) H := W
  show (_ : TS) _ ([some v0, some v1, some v2, some v3, none] : L2.St) H
  refine k_try1 (f := (fun (a : HouseD × (List Int) × (List Int)) => mX_lowered a.1 a.2.1 a.2.2)) (c := "InvalidLamp") hG W hm (simA_c (sim_var 1 rfl rfl) (simA_c (sim_var 2 rfl rfl) (simA_one (sim_var 3 rfl rfl)))) selI_ok E.ex_InvalidLamp ?_ ?_
  · clear hG W hm
    intro b1385 S H hG W hm
    exact k_ret hG W hm sim_bl (fun v S H hG W hr => k v S H (Okc.at 0 rfl hG) (W.pick [] rfl) hr)
  · clear hG W hm
    intro y1376 dd1377 S H hG W hm e1378 he1378
    exact k_ret hG W hm (sim_andV (sim_callS (simA_one (sim_xf (g := fun a => a) rfl 0 rfl pj_one rfl (by decide)))) (sim_eqI (sim_xf (g := fun a => a) rfl 0 rfl pj_one rfl (by decide)) (sim_var 5 rfl rfl))) (fun v S H hG W hr => k v S H (Okc.at 1 rfl hG) (W.pick [] rfl) hr)
theorem sc__law_agree : FnScope ["_law_house", "_law_below_here", "_law_above_here", "_law_hues", "_law_state_here", "_law_due", "_law_steps", "_law_parts", "_law_turn", "_law_lowest_here", "_law_allowed", "_law_covers", "_law_found", "_law_lamp"] ["_law_house", "_law_below_here", "_law_above_here", "_law_hues", "_law_state_here"] (defScope (top 65)) := ⟨rfl, rfl, rfl, by decide +kernel, rfl, by decide +kernel, by decide +kernel⟩
theorem ok__law_agree (E : EnvF P K mg) : Cal CX0 P w K mg base 7 "_law_agree" (spP (TyA.c (tHouse (He.ga K "House")) (TyA.c (tL (tL tInt)) (TyA.c (tL (tL tInt)) (TyA.c tInt (TyA.one (tT tInt)))))) (fun a => m__law_agree a.1 a.2.1 a.2.2.1 a.2.2.2.1 a.2.2.2.2) tBool) := by
  refine cal_mk (k := 6) E.d__law_agree sc__law_agree (fun vs H Q E h => by obtain ⟨S, F, a, r, ⟨_, _, rfl, _, ⟨_, _, rfl, _, ⟨_, _, rfl, _, ⟨_, _, rfl, _, ⟨_, rfl, _⟩⟩⟩⟩⟩, _⟩ := h; rfl) (fun _ _ _ _ _ _ us hl => match us, hl with | [_, _, _, _, _], _ => rfl) ?_
  rintro f cdv A outer s H vs Q EX hr ⟨S, F, ⟨house1386, below_here1387, above_here1388, hues1389, state_here1390⟩, out, ⟨v0, _, rfl, h0, ⟨v1, _, rfl, h1, ⟨v2, _, rfl, h2, ⟨v3, _, rfl, h3, ⟨v4, rfl, h4⟩⟩⟩⟩⟩, W, hm, k⟩
  refine ⟨_, PSs.nox (pss_cons (ps_set (i := 5) sc__law_agree.nd rfl (Or.inl rfl) (pe_cal (ok__law_lowest E) (by exact hr) (by first | decide | omega) (by rfl) pass0 (pa_cons (pv 1) (pa_cons (pv 4) pa_nil)))) (pss_cons (ps_setLc (i := 6) (own := [("_law_lamp", 13)]) rfl sc__law_agree.nd rfl rfl (sw_true rfl rfl rfl (by decide +kernel)) (pi_listK (K := K) (pv 5)) (blkOk_by (N := ["_law_house", "_law_below_here", "_law_above_here", "_law_hues", "_law_state_here", "_law_due", "_law_steps", "_law_parts", "_law_turn", "_law_lowest_here", "_law_allowed", "_law_covers", "_law_found", "_law_lamp"]) (sc := defScope (top 65)) (by decide +kernel)) (fun _ _ _ _ _ => (pg_name (i := 13) sc__law_agree.nd rfl (Or.inl rfl))) (fun _ _ _ _ _ => pts_nil) (fun _ _ _ _ _ => (pe_tup (pa_cons (pv 13) (pa_cons (pe_cal (ok__law_after E) (by exact hr) (by first | decide | omega) (by rfl) pass0 (pa_cons (pv 1) (pa_cons (pv 3) (pa_cons (pv 4) (pa_cons (pv 13) pa_nil))))) pa_nil))))) (pss_cons (ps_setLc (i := 7) (own := [("_law_lamp", 13)]) rfl sc__law_agree.nd rfl rfl (sw_true rfl rfl rfl (by decide +kernel)) (pi_listK (K := K) (pv 5)) (blkOk_by (N := ["_law_house", "_law_below_here", "_law_above_here", "_law_hues", "_law_state_here", "_law_due", "_law_steps", "_law_parts", "_law_turn", "_law_lowest_here", "_law_allowed", "_law_covers", "_law_found", "_law_lamp"]) (sc := defScope (top 65)) (by decide +kernel)) (fun _ _ _ _ _ => (pg_name (i := 13) sc__law_agree.nd rfl (Or.inl rfl))) (fun _ _ _ _ _ => pts_nil) (fun _ _ _ _ _ => (pe_cal (ok__law_piece E) (by exact hr) (by first | decide | omega) (by rfl) pass0 (pa_cons (pv 2) (pa_cons (pv 4) (pa_cons (pv 13) pa_nil)))))) (pss_cons (ps_for PassesOwn.never rfl (pi_range1 rfl (by exact E.g_range) (pa_cons pe_int pa_nil)) (pg_name (i := 8) sc__law_agree.nd rfl (Or.inl rfl)) (pss_cons (ps_set (i := 9) sc__law_agree.nd rfl (Or.inl rfl) (pe_cal (ok_lowest_lit E) (by exact hr) (by first | decide | omega) (by rfl) pass0 (pa_cons (pv 0) (pa_cons (pv 4) pa_nil)))) (pss_cons (ps_set (i := 10) sc__law_agree.nd rfl (Or.inl rfl) (pe_kcal (ok_allowed_lamps E) (by exact hr) (by first | decide | omega) (by rfl) pass0 (pa_cons (pv 0) (pa_cons (pv 4) pa_nil)) (pk_cons pe_bl pk_nil))) (pss_cons (ps_set (i := 11) sc__law_agree.nd rfl (Or.inl rfl) (pe_cal (ok_covered_by E) (by exact hr) (by first | decide | omega) (by rfl) pass0 (pa_cons (pv 0) (pa_cons (pv 4) pa_nil)))) (pss_cons (ps_set (i := 12) sc__law_agree.nd rfl (Or.inl rfl) (pe_cal (ok_pieces E) (by exact hr) (by first | decide | omega) (by rfl) pass0 (pa_cons (pv 0) (pa_cons (pv 4) pa_nil)))) (pss_cons (ps_if (PW.pt (pw_or (pt_not (pt_val (pe_cal (ok__law_same E) (by exact hr) (by first | decide | omega) (by rfl) pass0 (pa_cons (pv 9) (pa_cons (pv 5) pa_nil))))) (pw_or1 (pt_not (pt_val (pe_cal (ok__law_same E) (by exact hr) (by first | decide | omega) (by rfl) pass0 (pa_cons (pv 10) (pa_cons (pv 5) pa_nil)))))))) (pss_cons (ps_ret pe_bl) pss_nil) pss_nil) (pss_cons (ps_if (PW.pt (pw_or (pt_not (pt_val (pe_cal (ok__law_same_pairs E) (by exact hr) (by first | decide | omega) (by rfl) pass0 (pa_cons (pv 11) (pa_cons (pv 6) pa_nil))))) (pw_or1 (pt_not (pt_val (pe_cal (ok__law_same_states E) (by exact hr) (by first | decide | omega) (by rfl) pass0 (pa_cons (pv 12) (pa_cons (pv 7) pa_nil)))))))) (pss_cons (ps_ret pe_bl) pss_nil) pss_nil) (pss_cons (ps_expr (pe_bmK (K := K) PySem.F.plainAttrs_list PySem.F.slot_list_append PySem.F.type_list_append mt_append (pv 9) (pa_cons (pe_callB (call_lenK (K := K)) rfl (by exact E.g_len) boot_len (pa_cons (pv 4) pa_nil)) pa_nil))) (pss_cons (ps_expr (pe_bm0K2 (K := K) PySem.F.plainAttrs_list PySem.F.slot_list_clear PySem.F.type_list_clear mt_clear (pv 10))) (pss_cons (ps_expr (pe_bmK (K := K) PySem.F.plainAttrs_list PySem.F.slot_list_append PySem.F.type_list_append mt_append (pv 11) (pa_cons (pe_tup (pa_cons (pe_callB (call_lenK (K := K)) rfl (by exact E.g_len) boot_len (pa_cons (pv 4) pa_nil)) (pa_cons (pv 4) pa_nil))) pa_nil))) (pss_cons (ps_expr (pe_bmK (K := K) PySem.F.plainAttrs_list PySem.F.slot_list_append PySem.F.type_list_append mt_append (pv 12) (pa_cons (pv 4) pa_nil))) pss_nil))))))))))) (pss_cons (ps_ret (pe_cal (ok__law_truth E) (by exact hr) (by first | decide | omega) (by rfl) pass0 (pa_cons (pe_cal (ok_is_single E) (by exact hr) (by first | decide | omega) (by rfl) pass0 (pa_cons (pv 0) (pa_cons (pv 4) pa_nil))) (pa_cons (pe_cmpR op_eq (pe_callB (call_lenK (K := K)) rfl (by exact E.g_len) boot_len (pa_cons (pv 5) pa_nil)) pe_int (nomark _)) pa_nil)))) pss_nil))))), ?_⟩
  have hG : Okc [fS S, (tHouse (He.ga K "House")).f house1386 v0, (tL (tL tInt)).f below_here1387 v1, (tL (tL tInt)).f above_here1388 v2, tInt.f hues1389 v3, (tT tInt).f state_here1390 v4] S := ⟨Same.refl _, h0, h1, h2, h3, h4, True.intro⟩
  have W : Wd S (([] : Ow) ++ F) H := W
  show (_ : TS) _ ([some v0, some v1, some v2, some v3, some v4, none, none, none, none, none, none, none, none, none] : L2.St) H
  refine k_set hG W hm (sim_call (simA_c (sim_var 2 rfl rfl) (simA_one (sim_var 5 rfl rfl)))) ?_
  clear hG W hm
  intro due1394 v1395 S H hG W hm
  refine k_set hG W hm (SimF.sim (simF_lc (simI_list (sim_var 0 rfl rfl)) tg_name (fun _ => rfl) (List.nil_sublist _) (fun a w => simT_yes) (fun a w => (sim_pair (sim_var 0 rfl rfl) (sim_call (simA_c (sim_var 4 rfl rfl) (simA_c (sim_var 6 rfl rfl) (simA_c (sim_var 7 rfl rfl) (simA_one (sim_var 0 rfl rfl)))))))))) ?_
  clear hG W hm
  intro steps1407 v1408 S H hG W hm
  refine k_set hG W hm (SimF.sim (simF_lc (simI_list (sim_var 1 rfl rfl)) tg_name (fun _ => rfl) (List.nil_sublist _) (fun a w => simT_yes) (fun a w => (sim_call (simA_c (sim_var 6 rfl rfl) (simA_c (sim_var 8 rfl rfl) (simA_one (sim_var 0 rfl rfl)))))))) ?_
  clear hG W hm
  intro parts1416 v1417 S H hG W hm
  refine k_forK (σJ := (fun (bx1419 : Unit) (wx1419 : Option V × Option V × Option V × Option V × Option V) => ([some v0, some v1, some v2, some v3, some v4, some (v1395), some (v1408), some (v1417), wx1419.1, wx1419.2.1, wx1419.2.2.1, wx1419.2.2.2.1, wx1419.2.2.2.2, none] : L2.St))) (OJ := (fun (bx1419 : Unit) (wx1419 : Option V × Option V × Option V × Option V × Option V) => ([] : Ow))) (Fb := (fun (bx1419 : Unit) (wx1419 : Option V × Option V × Option V × Option V × Option V) => ([] : List Fact))) (σT := (fun b w (tx1419 : V) => ((fun (bx1419 : Unit) (wx1419 : Option V × Option V × Option V × Option V × Option V) => ([some v0, some v1, some v2, some v3, some v4, some (v1395), some (v1408), some (v1417), wx1419.1, wx1419.2.1, wx1419.2.2.1, wx1419.2.2.2.1, wx1419.2.2.2.2, none] : L2.St)) b w).set 8 (some tx1419))) (((none), (none), (none), (none), (none)) : Option V × Option V × Option V × Option V × Option V) hG W hm (simI_range1 sim_int) (fun b w => tg_name) (fun b w => List.nil_sublist _) rfl rfl (fun S h => h) ?_ ?_
  · clear hG W hm
    intro S1 y1420 bx1419 wx1419 tx1419 S H k1422 hm hG W Nx1419 hNx1419 hBx1419
    refine k_setO hG W hm (simF_call (simA_c (sim_var 6 rfl rfl) (simA_one (sim_var 10 rfl rfl)))) ?_
    clear hG W hm
    intro lowest_here1427 p1429 c1430 S H hG W hm
    refine k_setO hG W hm (simF_callK (ext := (fun (a : HouseD × (List Int)) (b : Bool) => (a.1, (a.2, b)))) (f := (fun (a : HouseD × (List Int) × Bool) => m_allowed_lamps a.1 a.2.1 a.2.2)) (fun a vs S h => ln_c h (fun a vs S h => ln_one h)) (fun a vs S h => ln_one h) (fun a b vs zs S h r => (ap_c h fun ws h => (ap_one h r))) (simA_c (sim_var 7 rfl rfl) (simA_one (sim_var 11 rfl rfl))) (simA_one sim_bl)) ?_
    clear hG W hm
    intro allowed1435 p1437 c1438 S H hG W hm
    refine k_setO hG W hm (simF_call (simA_c (sim_var 8 rfl rfl) (simA_one (sim_var 12 rfl rfl)))) ?_
    clear hG W hm
    intro covers1442 p1444 c1445 S H hG W hm
    refine k_setO hG W hm (simF_call (simA_c (sim_var 9 rfl rfl) (simA_one (sim_var 13 rfl rfl)))) ?_
    clear hG W hm
    intro found1449 p1451 c1452 S H hG W hm
    refine k_if hG W hm (simT_or (simT_not (simT_B (sim_peek 3 3 rfl rfl frz_L sc_bool (sim_call (simA_c (sim_var 0 rfl rfl) (simA_one (sim_var 9 rfl rfl))))))) (simT_not (simT_B (sim_peek 2 2 rfl rfl frz_L sc_bool (sim_call (simA_c (sim_var 0 rfl rfl) (simA_one (sim_var 9 rfl rfl)))))))) ?_ ?_
    · clear hG W hm
      intro S H hG W hm
      exact k_ret hG W hm sim_bl (fun v S H hG W hr => k v S H (Okc.at 9 rfl hG) (W.pick [] rfl) hr)
    · clear hG W hm
      intro S H hG W hm
      refine y_next ?_
      refine k_if hG W hm (simT_or (simT_not (simT_B (sim_peek 1 1 rfl rfl frz_L sc_bool (sim_call (simA_c (sim_var 0 rfl rfl) (simA_one (sim_var 8 rfl rfl))))))) (simT_not (simT_B (sim_peek 0 0 rfl rfl frz_L sc_bool (sim_call (simA_c (sim_var 0 rfl rfl) (simA_one (sim_var 7 rfl rfl)))))))) ?_ ?_
      · clear hG W hm
        intro S H hG W hm
        exact k_ret hG W hm sim_bl (fun v S H hG W hr => k v S H (Okc.at 9 rfl hG) (W.pick [] rfl) hr)
      · clear hG W hm
        intro S H hG W hm
        refine y_next ?_
        refine k_app hG W hm 3 3 rfl rfl rfl (sim_lenT (sim_var 14 rfl rfl)) ?_
        clear hG W hm
        intro y1474 c1476 S H hG W hm
        revert hG hm; generalize (lowest_here1427 ++ [y1474]) = lowest_here1475; intro hG hm
        refine k_clear hG W hm 2 3 rfl rfl rfl ?_
        clear hG W hm
        intro c1478 H hG W hm
        revert hG hm; generalize ([] : (List Int)) = allowed1477; intro hG hm
        refine k_app hG W hm 1 3 rfl rfl rfl (sim_pair (sim_lenT (sim_var 16 rfl rfl)) (sim_var 16 rfl rfl)) ?_
        clear hG W hm
        intro y1482 c1484 S H hG W hm
        revert hG hm; generalize (covers1442 ++ [y1482]) = covers1483; intro hG hm
        refine k_app hG W hm 0 3 rfl rfl rfl (sim_var 17 rfl rfl) ?_
        clear hG W hm
        intro y1485 c1487 S H hG W hm
        revert hG hm; generalize (found1449 ++ [y1485]) = found1486; intro hG hm
        refine y_next ?_
        exact hNx1419 _ ((some (tx1419)), (some (.ref p1429)), (some (.ref p1437)), (some (.ref p1444)), (some (.ref p1451))) _ _ hm (Okc.dr 9 hG) (W.pick [] rfl)
  · clear hG W hm
    intro bx1419 wx1419 S H hm hG W
    exact k_ret hG W hm (sim_call (simA_c (sim_call (simA_c (sim_var 4 rfl rfl) (simA_one (sim_var 8 rfl rfl)))) (simA_one (sim_eqI (sim_len (sim_var 2 rfl rfl)) sim_int)))) (fun v S H hG W hr => k v S H (Okc.at 3 rfl hG) (W.pick [] rfl) hr)
theorem sc__law_one_lamp : FnScope ["_law_house", "_law_below_here", "_law_above_here", "_law_hues", "_law_state_here", "_law_lamp", "_law_other", "_law_piece_here"] ["_law_house", "_law_below_here", "_law_above_here", "_law_hues", "_law_state_here", "_law_lamp"] (defScope (top 66)) := ⟨rfl, rfl, rfl, by decide +kernel, rfl, by decide +kernel, by decide +kernel⟩
theorem ok__law_one_lamp (E : EnvF P K mg) : Cal CX0 P w K mg base 7 "_law_one_lamp" (spP (TyA.c (tHouse (He.ga K "House")) (TyA.c (tL (tL tInt)) (TyA.c (tL (tL tInt)) (TyA.c tInt (TyA.c (tT tInt) (TyA.one tInt)))))) (fun a => m__law_one_lamp a.1 a.2.1 a.2.2.1 a.2.2.2.1 a.2.2.2.2.1 a.2.2.2.2.2) tBool) := by
  refine cal_mk (k := 6) E.d__law_one_lamp sc__law_one_lamp (fun vs H Q E h => by obtain ⟨S, F, a, r, ⟨_, _, rfl, _, ⟨_, _, rfl, _, ⟨_, _, rfl, _, ⟨_, _, rfl, _, ⟨_, _, rfl, _, ⟨_, rfl, _⟩⟩⟩⟩⟩⟩, _⟩ := h; rfl) (fun _ _ _ _ _ _ us hl => match us, hl with | [_, _, _, _, _, _], _ => rfl) ?_
  rintro f cdv A outer s H vs Q EX hr ⟨S, F, ⟨house1497, below_here1498, above_here1499, hues1500, state_here1501, lamp1502⟩, out, ⟨v0, _, rfl, h0, ⟨v1, _, rfl, h1, ⟨v2, _, rfl, h2, ⟨v3, _, rfl, h3, ⟨v4, _, rfl, h4, ⟨v5, rfl, h5⟩⟩⟩⟩⟩⟩, W, hm, k⟩
  refine ⟨_, PSs.nox (pss_cons (ps_set (i := 6) sc__law_one_lamp.nd rfl (Or.inl rfl) (pe_cal (ok__law_after E) (by exact hr) (by first | decide | omega) (by rfl) pass0 (pa_cons (pv 1) (pa_cons (pv 3) (pa_cons (pv 4) (pa_cons (pv 5) pa_nil)))))) (pss_cons (ps_if (PW.pt (pw_or (pt_not (pt_val (pe_cal (ok__law_is E) (by exact hr) (by first | decide | omega) (by rfl) pass0 (pa_cons (pe_cal (ok_lowered E) (by exact hr) (by first | decide | omega) (by rfl) pass0 (pa_cons (pv 0) (pa_cons (pv 4) (pa_cons (pe_lst (pa_cons (pv 5) pa_nil)) pa_nil)))) (pa_cons (pv 6) pa_nil))))) (pw_or1 (pt_cmpR op_notBl (pe_cal (ok_is_cover E) (by exact hr) (by first | decide | omega) (by rfl) pass0 (pa_cons (pv 0) (pa_cons (pv 4) (pa_cons (pv 6) pa_nil)))) pe_bl (nomark _))))) (pss_cons (ps_ret pe_bl) pss_nil) pss_nil) (pss_cons (ps_if (pt_not (pt_val (pe_cal (ok__law_same_pairs E) (by exact hr) (by first | decide | omega) (by rfl) pass0 (pa_cons (pe_cal (ok_covers_of E) (by exact hr) (by first | decide | omega) (by rfl) pass0 (pa_cons (pv 0) (pa_cons (pv 6) pa_nil))) (pa_cons (pe_cal (ok__law_covers_of E) (by exact hr) (by first | decide | omega) (by rfl) pass0 (pa_cons (pv 1) (pa_cons (pv 3) (pa_cons (pv 6) pa_nil)))) pa_nil))))) (pss_cons (ps_ret pe_bl) pss_nil) pss_nil) (pss_cons (ps_set (i := 7) sc__law_one_lamp.nd rfl (Or.inl rfl) (pe_cal (ok__law_piece E) (by exact hr) (by first | decide | omega) (by rfl) pass0 (pa_cons (pv 2) (pa_cons (pv 4) (pa_cons (pv 5) pa_nil))))) (pss_cons (ps_if (PW.pt (pw_or (pt_not (pt_val (pe_cal (ok__law_same E) (by exact hr) (by first | decide | omega) (by rfl) pass0 (pa_cons (pe_cal (ok_lowest_lit E) (by exact hr) (by first | decide | omega) (by rfl) pass0 (pa_cons (pv 0) (pa_cons (pv 7) pa_nil))) (pa_cons (pe_lst (pa_cons (pv 5) pa_nil)) pa_nil))))) (pw_or1 (pt_cmpR op_notBl (pe_cal (ok_is_single E) (by exact hr) (by first | decide | omega) (by rfl) pass0 (pa_cons (pv 0) (pa_cons (pv 7) pa_nil))) pe_bl (nomark _))))) (pss_cons (ps_ret pe_bl) pss_nil) pss_nil) (pss_cons (ps_ret (pe_cal (ok__law_same_pairs E) (by exact hr) (by first | decide | omega) (by rfl) pass0 (pa_cons (pe_cal (ok_covered_by E) (by exact hr) (by first | decide | omega) (by rfl) pass0 (pa_cons (pv 0) (pa_cons (pv 7) pa_nil))) (pa_cons (pe_lst (pa_cons (pe_tup (pa_cons (pv 5) (pa_cons (pe_cal (ok__law_after E) (by exact hr) (by first | decide | omega) (by rfl) pass0 (pa_cons (pv 1) (pa_cons (pv 3) (pa_cons (pv 7) (pa_cons (pv 5) pa_nil))))) pa_nil))) pa_nil)) pa_nil)))) pss_nil)))))), ?_⟩
  have hG : Okc [fS S, (tHouse (He.ga K "House")).f house1497 v0, (tL (tL tInt)).f below_here1498 v1, (tL (tL tInt)).f above_here1499 v2, tInt.f hues1500 v3, (tT tInt).f state_here1501 v4, tInt.f lamp1502 v5] S := ⟨Same.refl _, h0, h1, h2, h3, h4, h5, True.intro⟩
  have W : Wd S (([] : Ow) ++ F) H := W
  show (_ : TS) _ ([some v0, some v1, some v2, some v3, some v4, some v5, none, none] : L2.St) H
  refine k_set hG W hm (sim_call (simA_c (sim_var 2 rfl rfl) (simA_c (sim_var 4 rfl rfl) (simA_c (sim_var 5 rfl rfl) (simA_one (sim_var 6 rfl rfl)))))) ?_
  clear hG W hm
  intro other1510 v1511 S H hG W hm
  refine k_if hG W hm (simT_or (simT_not (simT_B (sim_call (simA_c (sim_call (simA_c (sim_var 2 rfl rfl) (simA_c (sim_var 6 rfl rfl) (simA_one (SimF.sim (simF_lst (simA_ln (sim_var 7 rfl rfl) simA_ln0))))))) (simA_one (sim_var 0 rfl rfl)))))) (simT_test (sim_notB (sim_call (simA_c (sim_var 2 rfl rfl) (simA_c (sim_var 6 rfl rfl) (simA_one (sim_var 0 rfl rfl))))) sim_bl))) ?_ ?_
  · clear hG W hm
    intro S H hG W hm
    exact k_ret hG W hm sim_bl (fun v S H hG W hr => k v S H (Okc.at 1 rfl hG) (W.pick [] rfl) hr)
  · clear hG W hm
    intro S H hG W hm
    refine y_next ?_
    refine k_if hG W hm (simT_not (simT_B (sim_call (simA_c (sim_call (simA_c (sim_var 2 rfl rfl) (simA_one (sim_var 0 rfl rfl)))) (simA_one (sim_call (simA_c (sim_var 3 rfl rfl) (simA_c (sim_var 5 rfl rfl) (simA_one (sim_var 0 rfl rfl)))))))))) ?_ ?_
    · clear hG W hm
      intro S H hG W hm
      exact k_ret hG W hm sim_bl (fun v S H hG W hr => k v S H (Okc.at 1 rfl hG) (W.pick [] rfl) hr)
    · clear hG W hm
      intro S H hG W hm
      refine y_next ?_
      refine k_set hG W hm (sim_call (simA_c (sim_var 4 rfl rfl) (simA_c (sim_var 6 rfl rfl) (simA_one (sim_var 7 rfl rfl))))) ?_
      clear hG W hm
      intro piece_here1550 v1551 S H hG W hm
      refine k_if hG W hm (simT_or (simT_not (simT_B (sim_call (simA_c (SimF.sim (simF_call (simA_c (sim_var 3 rfl rfl) (simA_one (sim_var 0 rfl rfl))))) (simA_one (SimF.sim (simF_lst (simA_ln (sim_var 8 rfl rfl) simA_ln0)))))))) (simT_test (sim_notB (sim_call (simA_c (sim_var 3 rfl rfl) (simA_one (sim_var 0 rfl rfl)))) sim_bl))) ?_ ?_
      · clear hG W hm
        intro S H hG W hm
        exact k_ret hG W hm sim_bl (fun v S H hG W hr => k v S H (Okc.at 2 rfl hG) (W.pick [] rfl) hr)
      · clear hG W hm
        intro S H hG W hm
        refine y_next ?_
        exact k_ret hG W hm (sim_call (simA_c (SimF.sim (simF_call (simA_c (sim_var 3 rfl rfl) (simA_one (sim_var 0 rfl rfl))))) (simA_one (SimF.sim (simF_lst (simA_ln (sim_pair (sim_var 8 rfl rfl) (sim_call (simA_c (sim_var 4 rfl rfl) (simA_c (sim_var 6 rfl rfl) (simA_c (sim_var 0 rfl rfl) (simA_one (sim_var 8 rfl rfl))))))) simA_ln0)))))) (fun v S H hG W hr => k v S H (Okc.at 2 rfl hG) (W.pick [] rfl) hr)
theorem sc__law_other_lamps : FnScope ["_law_house", "_law_below_here", "_law_hues", "_law_state_here", "_law_due", "_law_pick", "_law_together", "_law_lamps", "_law_others", "_law_lamp"] ["_law_house", "_law_below_here", "_law_hues", "_law_state_here", "_law_due", "_law_pick"] (defScope (top 67)) := ⟨rfl, rfl, rfl, by decide +kernel, rfl, by decide +kernel, by decide +kernel⟩
theorem ok__law_other_lamps (E : EnvF P K mg) : Cal CX0 P w K mg base 8 "_law_other_lamps" (spP (TyA.c (tHouse (He.ga K "House")) (TyA.c (tL (tL tInt)) (TyA.c tInt (TyA.c (tT tInt) (TyA.c (tL tInt) (TyA.one tInt)))))) (fun a => m__law_other_lamps a.1 a.2.1 a.2.2.1 a.2.2.2.1 a.2.2.2.2.1 a.2.2.2.2.2) tBool) := by
  refine cal_mk (k := 7) E.d__law_other_lamps sc__law_other_lamps (fun vs H Q E h => by obtain ⟨S, F, a, r, ⟨_, _, rfl, _, ⟨_, _, rfl, _, ⟨_, _, rfl, _, ⟨_, _, rfl, _, ⟨_, _, rfl, _, ⟨_, rfl, _⟩⟩⟩⟩⟩⟩, _⟩ := h; rfl) (fun _ _ _ _ _ _ us hl => match us, hl with | [_, _, _, _, _, _], _ => rfl) ?_
  rintro f cdv A outer s H vs Q EX hr ⟨S, F, ⟨house1585, below_here1586, hues1587, state_here1588, due1589, pick1590⟩, out, ⟨v0, _, rfl, h0, ⟨v1, _, rfl, h1, ⟨v2, _, rfl, h2, ⟨v3, _, rfl, h3, ⟨v4, _, rfl, h4, ⟨v5, rfl, h5⟩⟩⟩⟩⟩⟩, W, hm, k⟩
  refine ⟨_, PSs.nox (pss_cons (ps_set (i := 6) sc__law_other_lamps.nd rfl (Or.inl rfl) (pe_cal (ok__law_all_lowered E) (by exact hr) (by first | decide | omega) (by rfl) pass0 (pa_cons (pv 1) (pa_cons (pv 2) (pa_cons (pv 3) (pa_cons (pv 4) pa_nil)))))) (pss_cons (ps_set (i := 7) sc__law_other_lamps.nd rfl (Or.inl rfl) (pe_op op_cat (pe_revLK (K := K) (pv 4)) (pv 4))) (pss_cons (ps_if (PW.pt (pw_or (pt_not (pt_val (pe_cal (ok__law_is E) (by exact hr) (by first | decide | omega) (by rfl) pass0 (pa_cons (pe_cal (ok_lowered E) (by exact hr) (by first | decide | omega) (by rfl) pass0 (pa_cons (pv 0) (pa_cons (pv 3) (pa_cons (pv 7) pa_nil)))) (pa_cons (pv 6) pa_nil))))) (pw_or1 (pt_cmpR (op_neDK (K := K) (by exact hu64 hr)) (pv 7) (pe_op op_cat (pe_revLK (K := K) (pv 4)) (pv 4)) (nomark _))))) (pss_cons (ps_ret pe_bl) pss_nil) pss_nil) (pss_cons (ps_if (pt_not (pt_val (pe_cal (ok__law_truth E) (by exact hr) (by first | decide | omega) (by rfl) pass0 (pa_cons (pe_cal (ok_is_cover E) (by exact hr) (by first | decide | omega) (by rfl) pass0 (pa_cons (pv 0) (pa_cons (pv 3) (pa_cons (pv 6) pa_nil)))) (pa_cons (pe_cmpR op_eq (pe_callB (call_lenK (K := K)) rfl (by exact E.g_len) boot_len (pa_cons (pv 4) pa_nil)) pe_int (nomark _)) pa_nil))))) (pss_cons (ps_ret pe_bl) pss_nil) pss_nil) (pss_cons (ps_setLc (i := 8) (own := [("_law_lamp", 9)]) rfl sc__law_other_lamps.nd rfl rfl (sw_true rfl rfl rfl (by decide +kernel)) (pi_range1 rfl (by exact E.g_range) (pa_cons (pe_callB (call_lenK (K := K)) rfl (by exact E.g_len) boot_len (pa_cons (pv 3) pa_nil)) pa_nil)) (blkOk_by (N := ["_law_house", "_law_below_here", "_law_hues", "_law_state_here", "_law_due", "_law_pick", "_law_together", "_law_lamps", "_law_others", "_law_lamp"]) (sc := defScope (top 67)) (by decide +kernel)) (fun _ _ _ _ _ => (pg_name (i := 9) sc__law_other_lamps.nd rfl (Or.inl rfl))) (fun _ _ _ _ _ => (pts_one (PW.pt (pw_and (pt_cmpR op_gt (pe_ix (ix_tupK (K := K)) (pv 3) (pv 9) (by intro _ _; rfl)) pe_int (nomark _)) (pw_and1 (pt_cmpR (op_notInDK (K := K) (by exact hu65 hr)) (pv 9) (pv 4) (by with_unfolding_all rfl))))))) (fun _ _ _ _ _ => (pv 9))) (pss_cons (ps_if (pt_cmpR (op_eqDK (K := K) (by exact hu64 hr)) (pv 8) (pe_lst pa_nil) (nomark _)) (pss_cons (ps_ret pe_bl) pss_nil) pss_nil) (pss_cons (ps_set (i := 9) sc__law_other_lamps.nd rfl (Or.inl rfl) (pe_ix (ix_listK (K := K)) (pv 8) (pe_op op_mod (pe_callTy call_int1 rfl (by exact E.g_int) (by decide +kernel) (pa_cons (pv 5) pa_nil)) (pe_callB (call_lenK (K := K)) rfl (by exact E.g_len) boot_len (pa_cons (pv 8) pa_nil))) (by intro _ _; rfl))) (pss_cons (ps_if (pt_cmpR op_notBl (pe_kcal (ok_is_allowed E) (by exact hr) (by first | decide | omega) (by rfl) pass0 (pa_cons (pv 0) (pa_cons (pv 3) (pa_cons (pv 9) pa_nil))) (pk_cons pe_bl pk_nil)) pe_bl (nomark _)) (pss_cons (ps_ret pe_bl) pss_nil) pss_nil) (pss_cons (ps_if (pt_cmpR op_notBl (pe_cal (ok_is_cover E) (by exact hr) (by first | decide | omega) (by rfl) pass0 (pa_cons (pv 0) (pa_cons (pv 3) (pa_cons (pe_cal (ok__law_after E) (by exact hr) (by first | decide | omega) (by rfl) pass0 (pa_cons (pv 1) (pa_cons (pv 2) (pa_cons (pv 3) (pa_cons (pv 9) pa_nil))))) pa_nil)))) pe_bl (nomark _)) (pss_cons (ps_ret pe_bl) pss_nil) pss_nil) (pss_cons (ps_ret (pe_cal (ok__law_refuses E) (by exact hr) (by first | decide | omega) (by rfl) pass0 (pa_cons (pv 0) (pa_cons (pv 3) (pa_cons (pe_op op_cat (pv 4) (pe_lst (pa_cons (pv 9) pa_nil))) (pa_cons (pv 9) pa_nil)))))) pss_nil)))))))))), ?_⟩
  have hG : Okc [fS S, (tHouse (He.ga K "House")).f house1585 v0, (tL (tL tInt)).f below_here1586 v1, tInt.f hues1587 v2, (tT tInt).f state_here1588 v3, (tL tInt).f due1589 v4, tInt.f pick1590 v5] S := ⟨Same.refl _, h0, h1, h2, h3, h4, h5, True.intro⟩
  have W : Wd S (([] : Ow) ++ F) H := W
  show (_ : TS) _ ([some v0, some v1, some v2, some v3, some v4, some v5, none, none, none, none] : L2.St) H
  refine k_set hG W hm (sim_call (simA_c (sim_var 2 rfl rfl) (simA_c (sim_var 3 rfl rfl) (simA_c (sim_var 4 rfl rfl) (simA_one (sim_var 5 rfl rfl)))))) ?_
  clear hG W hm
  intro together1598 v1599 S H hG W hm
  refine k_set hG W hm (SimF.sim (simF_cat (SimF.sim (simF_rev (sim_var 6 rfl rfl))) (sim_var 6 rfl rfl))) ?_
  clear hG W hm
  intro lamps1603 v1604 S H hG W hm
  refine k_if hG W hm (simT_or (simT_not (simT_B (sim_call (simA_c (sim_call (simA_c (sim_var 3 rfl rfl) (simA_c (sim_var 6 rfl rfl) (simA_one (sim_var 0 rfl rfl))))) (simA_one (sim_var 1 rfl rfl)))))) (simT_test (sim_neD (sim_var 0 rfl rfl) (SimF.sim (simF_cat (SimF.sim (simF_rev (sim_var 7 rfl rfl))) (sim_var 7 rfl rfl)))))) ?_ ?_
  · clear hG W hm
    intro S H hG W hm
    exact k_ret hG W hm sim_bl (fun v S H hG W hr => k v S H (Okc.at 2 rfl hG) (W.pick [] rfl) hr)
  · clear hG W hm
    intro S H hG W hm
    refine y_next ?_
    refine k_if hG W hm (simT_not (simT_B (sim_call (simA_c (sim_call (simA_c (sim_var 3 rfl rfl) (simA_c (sim_var 6 rfl rfl) (simA_one (sim_var 1 rfl rfl))))) (simA_one (sim_eqI (sim_len (sim_var 7 rfl rfl)) sim_int)))))) ?_ ?_
    · clear hG W hm
      intro S H hG W hm
      exact k_ret hG W hm sim_bl (fun v S H hG W hr => k v S H (Okc.at 2 rfl hG) (W.pick [] rfl) hr)
    · clear hG W hm
      intro S H hG W hm
      refine y_next ?_
      refine k_set hG W hm (SimF.sim (simF_lc (simI_range1 (sim_lenT (sim_var 6 rfl rfl))) tg_name (fun _ => rfl) (List.nil_sublist _) (fun a w => (simT_and (simT_test (sim_gt (sim_ixT (sim_var 7 rfl rfl) (sim_var 0 rfl rfl)) sim_int)) (simT_test (sim_notIn (sim_var 0 rfl rfl) (sim_var 8 rfl rfl))))) (fun a w => (sim_var 0 rfl rfl)))) ?_
      clear hG W hm
      intro others1645 v1646 S H hG W hm
      refine k_if hG W hm (simT_test (sim_eqD (sim_var 0 rfl rfl) (SimF.sim (simF_lst (T := tInt) simA_ln0)))) ?_ ?_
      · clear hG W hm
        intro S H hG W hm
        exact k_ret hG W hm sim_bl (fun v S H hG W hr => k v S H (Okc.at 3 rfl hG) (W.pick [] rfl) hr)
      · clear hG W hm
        intro S H hG W hm
        refine y_next ?_
        refine k_set hG W hm (sim_ix (sim_var 0 rfl rfl) (sim_mod (sim_intI (sim_var 9 rfl rfl)) (sim_len (sim_var 0 rfl rfl)))) ?_
        clear hG W hm
        intro lamp1655 v1656 S H hG W hm
        refine k_if hG W hm (simT_test (sim_notB (sim_callK (ext := (fun (a : HouseD × (List Int) × Int) (b : Bool) => (a.1, (a.2.1, (a.2.2, b))))) (f := (fun (a : HouseD × (List Int) × Int × Bool) => m_is_allowed a.1 a.2.1 a.2.2.1 a.2.2.2)) (fun a vs S h => ln_c h (fun a vs S h => ln_c h (fun a vs S h => ln_one h))) (fun a vs S h => ln_one h) (fun a b vs zs S h r => (ap_c h fun ws h => (ap_c h fun ws h => (ap_one h r)))) (simA_c (sim_var 5 rfl rfl) (simA_c (sim_var 8 rfl rfl) (simA_one (sim_var 0 rfl rfl)))) (simA_one sim_bl)) sim_bl)) ?_ ?_
        · clear hG W hm
          intro S H hG W hm
          exact k_ret hG W hm sim_bl (fun v S H hG W hr => k v S H (Okc.at 4 rfl hG) (W.pick [] rfl) hr)
        · clear hG W hm
          intro S H hG W hm
          refine y_next ?_
          refine k_if hG W hm (simT_test (sim_notB (sim_call (simA_c (sim_var 5 rfl rfl) (simA_c (sim_var 8 rfl rfl) (simA_one (sim_call (simA_c (sim_var 6 rfl rfl) (simA_c (sim_var 7 rfl rfl) (simA_c (sim_var 8 rfl rfl) (simA_one (sim_var 0 rfl rfl)))))))))) sim_bl)) ?_ ?_
          · clear hG W hm
            intro S H hG W hm
            exact k_ret hG W hm sim_bl (fun v S H hG W hr => k v S H (Okc.at 4 rfl hG) (W.pick [] rfl) hr)
          · clear hG W hm
            intro S H hG W hm
            refine y_next ?_
            exact k_ret hG W hm (sim_call (simA_c (sim_var 5 rfl rfl) (simA_c (sim_var 8 rfl rfl) (simA_c (SimF.sim (simF_cat (sim_var 9 rfl rfl) (SimF.sim (simF_lst (simA_ln (sim_var 0 rfl rfl) simA_ln0))))) (simA_one (sim_var 0 rfl rfl)))))) (fun v S H hG W hr => k v S H (Okc.at 4 rfl hG) (W.pick [] rfl) hr)
theorem sc_law : FnScope ["_law_script", "_law_purse_here", "_law_count", "_law_hues", "_law_line", "_law_direct", "_law_below_here", "_law_above_here", "_law_house", "_law_state_here", "_law_turn", "_law_due", "_law_lamp"] ["_law_script"] (defScope (top 68)) := ⟨rfl, rfl, rfl, by decide +kernel, rfl, by decide +kernel, by decide +kernel⟩
theorem fn_law (E : EnvF P K mg) {f : Addr} {fd : FuncData} (D : FunD K "law" "law" (defArgs (top 68)) (defBody (top 68)) (defScope (top 68)) [] [] f fd) : FnOk P w K mg base CX0 9 f fd ["_law_script"] (spP (TyA.one (tScr K)) (fun a => m_law a) tBool) := by
  refine D.ok (k := 8) sc_law (fun vs H Q E h => by obtain ⟨S, F, a, r, ⟨_, rfl, _⟩, _⟩ := h; rfl) ?_
  rintro cdv A outer s H vs Q EX hr ⟨S, F, script1692, out, ⟨v0, rfl, h0⟩, W, hm, k⟩
  refine ⟨_, PSs.nox (pss_cons (ps_set (i := 1) sc_law.nd rfl (Or.inl rfl) (pe_cal (ok__law_purse E) (by exact hr) (by first | decide | omega) (by rfl) pass0 (pa_cons (pv 0) (pa_cons pe_int pa_nil)))) (pss_cons (ps_set (i := 2) sc_law.nd rfl (Or.inl rfl) (pe_op op_add pe_int (pe_cal (ok__law_draw E) (by exact hr) (by first | decide | omega) (by rfl) pass0 (pa_cons (pv 1) (pa_cons (pe_ix (ix_listK (K := K)) (pe_lst (pa_cons pe_int (pa_cons pe_int (pa_cons pe_int (pa_cons pe_int pa_nil))))) (pe_cal (ok__law_draw E) (by exact hr) (by first | decide | omega) (by rfl) pass0 (pa_cons (pv 1) (pa_cons pe_int pa_nil))) (by intro _ _; rfl)) pa_nil))))) (pss_cons (ps_set (i := 3) sc_law.nd rfl (Or.inl rfl) (pe_op op_add pe_int (pe_cal (ok__law_draw E) (by exact hr) (by first | decide | omega) (by rfl) pass0 (pa_cons (pv 1) (pa_cons (pe_ix (ix_listK (K := K)) (pe_lst (pa_cons pe_int (pa_cons pe_int (pa_cons pe_int pa_nil)))) (pe_cal (ok__law_draw E) (by exact hr) (by first | decide | omega) (by rfl) pass0 (pa_cons (pv 1) (pa_cons pe_int pa_nil))) (by intro _ _; rfl)) pa_nil))))) (pss_cons (ps_asg (pe_cal (ok__law_wires E) (by exact hr) (by first | decide | omega) (by rfl) pass0 (pa_cons (pv 1) (pa_cons (pv 2) pa_nil))) (pg_lstK (K := K) (n := 2) rfl (pgs_cons (pg_name (i := 4) sc_law.nd rfl (Or.inl rfl)) (pgs_cons (pg_name (i := 5) sc_law.nd rfl (Or.inl rfl)) pgs_nil)))) (pss_cons (ps_set (i := 6) sc_law.nd rfl (Or.inl rfl) (pe_cal (ok__law_below E) (by exact hr) (by first | decide | omega) (by rfl) pass0 (pa_cons (pv 4) (pa_cons (pv 5) pa_nil)))) (pss_cons (ps_set (i := 7) sc_law.nd rfl (Or.inl rfl) (pe_cal (ok__law_above E) (by exact hr) (by first | decide | omega) (by rfl) pass0 (pa_cons (pv 6) pa_nil))) (pss_cons (ps_set (i := 8) sc_law.nd rfl (Or.inl rfl) (pe_mak (ok_House___init__ E) (by exact hr) (by first | decide | omega) (by rfl) pass0 (pa_cons (pv 2) (pa_cons (pv 3) (pa_cons (pe_cal (ok__law_pairs E) (by exact hr) (by first | decide | omega) (by rfl) pass0 (pa_cons (pv 4) (pa_cons (pv 5) pa_nil))) pa_nil))))) (pss_cons (ps_set (i := 1) sc_law.nd rfl (Or.inl rfl) (pe_cal (ok__law_purse E) (by exact hr) (by first | decide | omega) (by rfl) pass0 (pa_cons (pv 0) (pa_cons pe_int pa_nil)))) (pss_cons (ps_set (i := 9) sc_law.nd rfl (Or.inl rfl) (pe_cal (ok__law_state E) (by exact hr) (by first | decide | omega) (by rfl) pass0 (pa_cons (pv 1) (pa_cons (pv 2) (pa_cons (pv 3) pa_nil))))) (pss_cons (ps_for PassesOwn.never rfl (pi_range1 rfl (by exact E.g_range) (pa_cons pe_int pa_nil)) (pg_name (i := 10) sc_law.nd rfl (Or.inl rfl)) (pss_cons (ps_set (i := 11) sc_law.nd rfl (Or.inl rfl) (pe_cal (ok__law_lowest E) (by exact hr) (by first | decide | omega) (by rfl) pass0 (pa_cons (pv 6) (pa_cons (pv 9) pa_nil)))) (pss_cons (ps_if (pt_not (pt_val (pe_cal (ok__law_agree E) (by exact hr) (by first | decide | omega) (by rfl) pass0 (pa_cons (pv 8) (pa_cons (pv 6) (pa_cons (pv 7) (pa_cons (pv 3) (pa_cons (pv 9) pa_nil)))))))) (pss_cons (ps_ret pe_bl) pss_nil) pss_nil) (pss_cons (ps_if (pt_not (pt_val (pe_cal (ok__law_other_lamps E) (by exact hr) (by first | decide | omega) (by rfl) pass0 (pa_cons (pv 8) (pa_cons (pv 6) (pa_cons (pv 3) (pa_cons (pv 9) (pa_cons (pv 11) (pa_cons (pe_cal (ok__law_draw E) (by exact hr) (by first | decide | omega) (by rfl) pass0 (pa_cons (pv 1) (pa_cons pe_int pa_nil))) pa_nil))))))))) (pss_cons (ps_ret pe_bl) pss_nil) pss_nil) (pss_cons (ps_if (pt_cmpR (op_eqDK (K := K) (by exact hu64 hr)) (pv 11) (pe_lst pa_nil) (nomark _)) (pss_cons (ps_ret pe_bl) pss_nil) pss_nil) (pss_cons (ps_set (i := 12) sc_law.nd rfl (Or.inl rfl) (pe_ix (ix_listK (K := K)) (pv 11) (pe_cal (ok__law_draw E) (by exact hr) (by first | decide | omega) (by rfl) pass0 (pa_cons (pv 1) (pa_cons (pe_callB (call_lenK (K := K)) rfl (by exact E.g_len) boot_len (pa_cons (pv 11) pa_nil)) pa_nil))) (by intro _ _; rfl))) (pss_cons (ps_if (pt_not (pt_val (pe_cal (ok__law_one_lamp E) (by exact hr) (by first | decide | omega) (by rfl) pass0 (pa_cons (pv 8) (pa_cons (pv 6) (pa_cons (pv 7) (pa_cons (pv 3) (pa_cons (pv 9) (pa_cons (pv 12) pa_nil))))))))) (pss_cons (ps_ret pe_bl) pss_nil) pss_nil) (pss_cons (ps_set (i := 9) sc_law.nd rfl (Or.inl rfl) (pe_cal (ok__law_after E) (by exact hr) (by first | decide | omega) (by rfl) pass0 (pa_cons (pv 6) (pa_cons (pv 3) (pa_cons (pv 9) (pa_cons (pv 12) pa_nil)))))) pss_nil)))))))) (pss_cons (ps_ret (pe_cal (ok__law_agree E) (by exact hr) (by first | decide | omega) (by rfl) pass0 (pa_cons (pv 8) (pa_cons (pv 6) (pa_cons (pv 7) (pa_cons (pv 3) (pa_cons (pv 9) pa_nil))))))) pss_nil))))))))))), ?_⟩
  have hG : Okc [fS S, (tScr K).f script1692 v0] S := ⟨Same.refl _, h0, True.intro⟩
  have W : Wd S (([] : Ow) ++ F) H := W
  show (_ : TS) _ ([some v0, none, none, none, none, none, none, none, none, none, none, none, none] : L2.St) H
  refine k_setO hG W hm (simF_call (simA_c (sim_var 1 rfl rfl) (simA_one sim_int))) ?_
  clear hG W hm
  intro purse_here1696 p1698 c1699 S H hG W hm
  refine e_set ?_
  refine e_op ?_
  refine c_pure hG W hm sim_int ?_
  clear hG W hm
  intro x1700 v1701 S H hG W hm
  refine e_call ?_
  refine e_cons ?_
  refine c_ref rfl ?_
  refine e_cons ?_
  refine e_op ?_
  refine c_pure hG W hm (SimF.sim (simF_lst (simA_ln sim_int (simA_ln sim_int (simA_ln sim_int (simA_ln sim_int simA_ln0)))))) ?_
  clear hG W hm
  intro x1710 v1711 S H hG W hm
  refine e_call ?_
  refine e_cons ?_
  refine c_ref rfl ?_
  refine e_cons ?_
  refine c_pure hG W hm sim_int ?_
  clear hG W hm
  intro x1712 v1713 S H hG W hm
  refine e_nil ?_
  refine v_callO (g := purse_here1696) (a := x1712) hG W hm 0 3 rfl rfl rfl (fun S h => (ra_one (Okc.at 0 rfl h))) ?_
  clear hG W hm
  intro r1714 v1715 c1716 S H hG W hm
  refine x_op (σ := ([] : L2.St)) ?_
  refine c_pure hG W hm (sim_ix (sim_K 3 rfl) (sim_K 0 rfl)) ?_
  clear hG W hm
  intro x1719 v1720 S H hG W hm
  refine e_nil ?_
  refine v_callO (g := r1714.2) (a := x1719) hG W hm 0 2 rfl rfl rfl (fun S h => (ra_one (Okc.at 0 rfl h))) ?_
  clear hG W hm
  intro r1721 v1722 c1723 S H hG W hm
  refine x_op (σ := ([] : L2.St)) ?_
  refine c_pure hG W hm (sim_add (sim_K 7 rfl) (sim_K 0 rfl)) ?_
  clear hG W hm
  intro x1726 v1727 S H hG W hm
  refine e_set ?_
  refine e_op ?_
  refine c_pure hG W hm sim_int ?_
  clear hG W hm
  intro x1728 v1729 S H hG W hm
  refine e_call ?_
  refine e_cons ?_
  refine c_ref rfl ?_
  refine e_cons ?_
  refine e_op ?_
  refine c_pure hG W hm (SimF.sim (simF_lst (simA_ln sim_int (simA_ln sim_int (simA_ln sim_int simA_ln0))))) ?_
  clear hG W hm
  intro x1736 v1737 S H hG W hm
  refine e_call ?_
  refine e_cons ?_
  refine c_ref rfl ?_
  refine e_cons ?_
  refine c_pure hG W hm sim_int ?_
  clear hG W hm
  intro x1738 v1739 S H hG W hm
  refine e_nil ?_
  refine v_callO (g := r1721.2) (a := x1738) hG W hm 0 5 rfl rfl rfl (fun S h => (ra_one (Okc.at 0 rfl h))) ?_
  clear hG W hm
  intro r1740 v1741 c1742 S H hG W hm
  refine x_op (σ := ([] : L2.St)) ?_
  refine c_pure hG W hm (sim_ix (sim_K 3 rfl) (sim_K 0 rfl)) ?_
  clear hG W hm
  intro x1745 v1746 S H hG W hm
  refine e_nil ?_
  refine v_callO (g := r1740.2) (a := x1745) hG W hm 0 2 rfl rfl rfl (fun S h => (ra_one (Okc.at 0 rfl h))) ?_
  clear hG W hm
  intro r1747 v1748 c1749 S H hG W hm
  refine x_op (σ := ([] : L2.St)) ?_
  refine c_pure hG W hm (sim_add (sim_K 7 rfl) (sim_K 0 rfl)) ?_
  clear hG W hm
  intro x1752 v1753 S H hG W hm
  refine e_asg ?_
  refine e_call ?_
  refine e_cons ?_
  refine c_ref rfl ?_
  refine e_cons ?_
  refine c_ref rfl ?_
  refine e_nil ?_
  refine v_callO (g := r1747.2) (a := x1726) hG W hm 0 2 rfl rfl rfl (fun S h => (ra_one (Okc.at 9 rfl h))) ?_
  clear hG W hm
  intro r1754 v1755 c1756 S H hG W hm
  refine v_unlst (l := 0) hG W rfl ?_
  clear hG
  intro v1757 v1758 hG
  refine k_set hG W hm (sim_call (simA_c (sim_var 0 rfl rfl) (simA_one (sim_var 1 rfl rfl)))) ?_
  clear hG W hm
  intro below_here1762 v1763 S H hG W hm
  refine k_set hG W hm (sim_call (simA_one (sim_var 0 rfl rfl))) ?_
  clear hG W hm
  intro above_here1765 v1766 S H hG W hm
  refine k_set hG W hm (sim_house (simF_make (simA_c (sim_var 15 rfl rfl) (simA_c (sim_var 6 rfl rfl) (simA_one (sim_call (simA_c (sim_var 2 rfl rfl) (simA_one (sim_var 3 rfl rfl))))))))) ?_
  clear hG W hm
  intro house1776 v1777 S H hG W hm
  refine k_setO hG W hm (simF_call (simA_c (sim_var 27 rfl rfl) (simA_one sim_int))) ?_
  clear hG W hm
  intro purse_here1781 p1783 c1784 S H hG W hm
  refine e_set ?_
  refine e_call ?_
  refine e_cons ?_
  refine c_ref rfl ?_
  refine e_cons ?_
  refine c_ref rfl ?_
  refine e_cons ?_
  refine c_ref rfl ?_
  refine e_nil ?_
  refine v_callO (g := purse_here1781) (a := (x1726, x1752)) hG W hm 0 0 rfl rfl rfl (fun S h => (ra_c (Okc.at 17 rfl h) (ra_one (Okc.at 8 rfl h)))) ?_
  clear hG W hm
  intro r1785 v1786 c1787 S H hG W hm
  refine k_forK (σJ := (fun (bx1789 : (List Int) × (List Int)) (wx1789 : List Cell × V × Option V × Option V × Option V) => ([some v0, some (.ref p1783), some (v1727), some (v1753), some (v1757), some (v1758), some (v1763), some (v1766), some (v1777), some (wx1789.2.1), wx1789.2.2.1, wx1789.2.2.2.1, wx1789.2.2.2.2] : L2.St))) (OJ := (fun (bx1789 : (List Int) × (List Int)) (wx1789 : List Cell × V × Option V × Option V × Option V) => ([wx1789.1, c1756] : Ow))) (Fb := (fun (bx1789 : (List Int) × (List Int)) (wx1789 : List Cell × V × Option V × Option V × Option V) => ([(oL tInt).f bx1789.1 p1783 (wx1789.1), (tT tInt).f bx1789.2 (wx1789.2.1)] : List Fact))) (σT := (fun b w (tx1789 : V) => ((fun (bx1789 : (List Int) × (List Int)) (wx1789 : List Cell × V × Option V × Option V × Option V) => ([some v0, some (.ref p1783), some (v1727), some (v1753), some (v1757), some (v1758), some (v1763), some (v1766), some (v1777), some (wx1789.2.1), wx1789.2.2.1, wx1789.2.2.2.1, wx1789.2.2.2.2] : L2.St)) b w).set 10 (some tx1789))) ((c1787, v1786, (none), (none), (none)) : List Cell × V × Option V × Option V × Option V) hG W hm (simI_range1 sim_int) (fun b w => tg_name) (fun b w => List.nil_sublist _) rfl rfl (fun S h => (Okc.cons (Okc.at 1 rfl h) (Okc.cons (Okc.at 0 rfl h) h))) ?_ ?_
  · clear hG W hm
    intro S1 y1790 bx1789 wx1789 tx1789 S H k1792 hm hG W Nx1789 hNx1789 hBx1789
    refine k_set hG W hm (sim_call (simA_c (sim_var 9 rfl rfl) (simA_one (sim_var 2 rfl rfl)))) ?_
    clear hG W hm
    intro due1797 v1798 S H hG W hm
    refine k_if hG W hm (simT_not (simT_B (sim_call (simA_c (sim_var 8 rfl rfl) (simA_c (sim_var 10 rfl rfl) (simA_c (sim_var 9 rfl rfl) (simA_c (sim_var 15 rfl rfl) (simA_one (sim_var 3 rfl rfl))))))))) ?_ ?_
    · clear hG W hm
      intro S H hG W hm
      exact k_ret hG W hm sim_bl (fun v S H hG W hr => k v S H (Okc.at 34 rfl hG) (W.pick [] rfl) hr)
    · clear hG W hm
      intro S H hG W hm
      refine y_next ?_
      refine e_if ?_
      refine e_notT ?_
      refine e_tB ?_
      refine e_call ?_
      refine e_cons ?_
      refine c_ref rfl ?_
      refine e_cons ?_
      refine c_ref rfl ?_
      refine e_cons ?_
      refine c_ref rfl ?_
      refine e_cons ?_
      refine c_ref rfl ?_
      refine e_cons ?_
      refine c_ref rfl ?_
      refine e_cons ?_
      refine e_call ?_
      refine e_cons ?_
      refine c_ref rfl ?_
      refine e_cons ?_
      refine c_pure hG W hm sim_int ?_
      clear hG W hm
      intro x1811 v1812 S H hG W hm
      refine e_nil ?_
      refine v_callO (g := bx1789.1) (a := x1811) hG W hm 0 3 rfl rfl rfl (fun S h => (ra_one (Okc.at 0 rfl h))) ?_
      clear hG W hm
      intro r1813 v1814 c1815 S H hG W hm
      refine e_nil ?_
      refine v_callP (a := (house1776, below_here1762, x1752, bx1789.2, due1797, r1813.1)) hG W hm (fun S h => (ra_c (Okc.at 11 rfl h) (ra_c (Okc.at 13 rfl h) (ra_c (Okc.at 18 rfl h) (ra_c (Okc.at 6 rfl h) (ra_c (Okc.at 3 rfl h) (ra_one (Okc.at 0 rfl h)))))))) ?_
      clear hG W hm
      intro r1816 v1817 S H hG W hm
      refine y_bool hG 0 rfl ?_
      refine c_ite hm ?_ ?_
      · clear hm
        intro _ hm
        exact k_ret hG W hm sim_bl (fun v S H hG W hr => k v S H (Okc.at 38 rfl hG) (W.pick [] rfl) hr)
      · clear hm
        intro _ hm
        refine y_next ?_
        refine k_if hG W hm (simT_test (sim_eqD (sim_var 4 rfl rfl) (SimF.sim (simF_lst (T := tInt) simA_ln0)))) ?_ ?_
        · clear hG W hm
          intro S H hG W hm
          exact k_ret hG W hm sim_bl (fun v S H hG W hr => k v S H (Okc.at 38 rfl hG) (W.pick [] rfl) hr)
        · clear hG W hm
          intro S H hG W hm
          refine y_next ?_
          refine e_set ?_
          refine e_op ?_
          refine c_ref rfl ?_
          refine e_call ?_
          refine e_cons ?_
          refine c_ref rfl ?_
          refine e_cons ?_
          refine c_pure hG W hm (sim_len (sim_var 4 rfl rfl)) ?_
          clear hG W hm
          intro x1822 v1823 S H hG W hm
          refine e_nil ?_
          refine v_callO (g := r1813.2) (a := x1822) hG W hm 0 3 rfl rfl rfl (fun S h => (ra_one (Okc.at 0 rfl h))) ?_
          clear hG W hm
          intro r1824 v1825 c1826 S H hG W hm
          refine x_op (σ := ([] : L2.St)) ?_
          refine c_pure hG W hm (sim_ix (sim_K 7 rfl) (sim_K 0 rfl)) ?_
          clear hG W hm
          intro x1829 v1830 S H hG W hm
          refine k_if hG W hm (simT_not (simT_B (sim_call (simA_c (sim_var 16 rfl rfl) (simA_c (sim_var 18 rfl rfl) (simA_c (sim_var 17 rfl rfl) (simA_c (sim_var 23 rfl rfl) (simA_c (sim_var 11 rfl rfl) (simA_one (sim_var 0 rfl rfl)))))))))) ?_ ?_
          · clear hG W hm
            intro S H hG W hm
            exact k_ret hG W hm sim_bl (fun v S H hG W hr => k v S H (Okc.at 42 rfl hG) (W.pick [] rfl) hr)
          · clear hG W hm
            intro S H hG W hm
            refine y_next ?_
            refine k_set hG W hm (sim_call (simA_c (sim_var 18 rfl rfl) (simA_c (sim_var 23 rfl rfl) (simA_c (sim_var 11 rfl rfl) (simA_one (sim_var 0 rfl rfl)))))) ?_
            clear hG W hm
            intro state_here1851 v1852 S H hG W hm
            refine y_next ?_
            exact hNx1789 _ (c1826, v1852, (some (tx1789)), (some (v1798)), (some (v1830))) _ _ hm (Okc.cons (Okc.at 3 rfl hG) (Okc.cons (Okc.at 0 rfl hG) (Okc.dr 13 hG))) (W.pick [0, 0] rfl)
  · clear hG W hm
    intro bx1789 wx1789 S H hm hG W
    exact k_ret hG W hm (sim_call (simA_c (sim_var 5 rfl rfl) (simA_c (sim_var 7 rfl rfl) (simA_c (sim_var 6 rfl rfl) (simA_c (sim_var 12 rfl rfl) (simA_one (sim_var 1 rfl rfl))))))) (fun v S H hG W hr => k v S H (Okc.at 31 rfl hG) (W.pick [] rfl) hr)
end
end HF

set_option Elab.async false
set_option linter.all false
set_option maxRecDepth 100000
set_option maxHeartbeats 1000000
/-! MathA: the mirrors' loops in plain Lean. -/
namespace HF
open PySem PySem.Spec L2
open PyProof.Rows hiding St
section
variable {α β γ ρ : Type}
/-- not by rfl: the kernel shall not compute -/
theorem bs {a : α} {f : α → Option β} : (some a).bind f = f a := Option.ext fun x => Iff.rfl
theorem foldO_inv {f : β → α → Option β} (P : List α → β → Prop) : ∀ (xs pre : List α) (b : β), P pre b → (∀ p x q b, pre ++ xs = p ++ x :: q → pre.length ≤ p.length → P p b → ∃ b', f b x = some b' ∧ P (p ++ [x]) b') →
    ∃ b', foldO f b xs = some b' ∧ P (pre ++ xs) b'
  | [], pre, b, h, _ => ⟨b, rfl, by simpa using h⟩
  | x :: xs, pre, b, h, st => by
    obtain ⟨b', h1, h2⟩ := st pre x xs b rfl (Nat.le_refl _) h
    obtain ⟨b'', h3, h4⟩ := foldO_inv P xs (pre ++ [x]) b' h2 fun p y q b e l hp => st p y q b (by simpa using e) (by simp at l; omega) hp
    exact ⟨b'', by show (f b x).bind _ = _; rw [h1]; exact h3, by simpa using h4⟩
theorem foldO_spec {f : β → α → Option β} (P : List α → β → Prop) {xs : List α} {b : β} (h0 : P [] b) (st : ∀ p x q b, xs = p ++ x :: q → P p b → ∃ b', f b x = some b' ∧ P (p ++ [x]) b') : ∃ b', foldO f b xs = some b' ∧ P xs b' := by
  have := foldO_inv P xs [] b h0 fun p x q b e _ hp => st p x q b (by simpa using e) hp
  simpa using this
theorem foldO_all {f : β → α → Option β} (I : β → Prop) {xs : List α} {b : β} (h0 : I b) (st : ∀ x b, x ∈ xs → I b → ∃ b', f b x = some b' ∧ I b') : ∃ b', foldO f b xs = some b' ∧ I b' := by
  obtain ⟨b', h1, h2⟩ := foldO_spec (f := f) (fun _ b => I b) (xs := xs) h0 fun p x q b e hp => st x b (by rw [e]; simp) hp
  exact ⟨b', h1, h2⟩
/-- the loop in plain Lean -/
theorem foldO_eq {f : β → α → Option β} {g : β → α → β} {I : β → Prop} : ∀ {xs : List α} {b : β}, I b → (∀ b x, x ∈ xs → I b → f b x = some (g b x) ∧ I (g b x)) → foldO f b xs = some (xs.foldl g b) ∧ I (xs.foldl g b)
  | [], b, h, _ => ⟨rfl, h⟩
  | x :: xs, b, h, st => by
    obtain ⟨h1, h2⟩ := st b x (List.mem_cons_self ..) h
    obtain ⟨h3, h4⟩ := foldO_eq (f := f) (g := g) (I := I) (xs := xs) h2 fun b y m hb => st b y (List.mem_cons_of_mem _ m) hb
    exact ⟨by show (f b x).bind _ = _; rw [h1]; exact h3, h4⟩
theorem foldO_map {f : β → α → Option β} (g : β → α → β) {xs : List α} {b : β} (st : ∀ b x, x ∈ xs → f b x = some (g b x)) : foldO f b xs = some (xs.foldl g b) := (foldO_eq (I := fun _ => True) True.intro fun b x m _ => ⟨st b x m, True.intro⟩).1
theorem rangeL_succ (n : Nat) : rangeL 0 (n + 1) = rangeL 0 n ++ [(n : Int)] := by
  unfold rangeL
  rw [List.range_succ, List.map_append]
  simp
theorem mem_rangeL {n : Nat} {x : Int} : x ∈ rangeL 0 n ↔ 0 ≤ x ∧ x < n := by
  unfold rangeL
  simp only [List.mem_map, List.mem_range, Int.zero_add]
  constructor
  · rintro ⟨a, h, rfl⟩
    omega
  · intro h
    exact ⟨x.toNat, by omega, by omega⟩
theorem length_rangeL {a : Int} {n : Nat} : (rangeL a n).length = n := by simp [rangeL]
theorem nodup_rangeL {n : Nat} : (rangeL 0 n).Nodup := by
  unfold rangeL
  rw [List.nodup_iff_pairwise_ne, List.pairwise_map]
  exact List.nodup_range.imp fun h e => h (by omega)
theorem x_range_eq {n : Int} (h : n < 2 ^ 62) : x_range 0 n = some (rangeL 0 n.toNat) ∨ n < -(2 ^ 62) := by
  unfold x_range
  by_cases h1 : -(2 ^ 62) ≤ n
  · left
    rw [if_pos ⟨by decide, by decide, h1, h⟩, Int.sub_zero]
  · right
    omega
theorem x_range_nat {n : Nat} (h : n ≤ 1000000) : x_range 0 (n : Int) = some (rangeL 0 n) := by
  unfold x_range
  rw [if_pos ⟨by decide, by decide, by omega, by omega⟩, Int.sub_zero, Int.toNat_natCast]
theorem x_range_int {n : Int} (h : 0 ≤ n) (h2 : n ≤ 1000000) : x_range 0 n = some (rangeL 0 n.toNat) := by
  unfold x_range
  rw [if_pos ⟨by decide, by decide, by omega, by omega⟩, Int.sub_zero]
/-- a loop over a range -/
theorem foldO_rangeN {f : β → Int → Option β} (P : Nat → β → Prop) {n : Nat} {b : β} (h0 : P 0 b) (st : ∀ k b, k < n → P k b → ∃ b', f b (k : Int) = some b' ∧ P (k + 1) b') : ∃ b', foldO f b (rangeL 0 n) = some b' ∧ P n b' := by
  obtain ⟨b', h1, h2⟩ := foldO_spec (f := f) (fun p b => P p.length b) (xs := rangeL 0 n) h0 fun p x q b e hp => by
    have hx : x = (p.length : Int) ∧ p.length < n := by
      have h := congrArg (fun l => l[p.length]?) e
      simp only [List.getElem?_append_right (Nat.le_refl _), Nat.sub_self, List.getElem?_cons_zero] at h
      obtain ⟨h1, h2⟩ := rangeL_get h
      exact ⟨by omega, h1⟩
    obtain ⟨b', h1, h2⟩ := st p.length b hx.2 hp
    exact ⟨b', by rw [hx.1]; exact h1, by simpa using h2⟩
  rw [length_rangeL] at h2
  exact ⟨b', h1, h2⟩
theorem compM_eq {t : α → Option Bool} {e : α → Option β} {t' : α → Bool} {e' : α → β} : ∀ {xs : List α}, (∀ x ∈ xs, t x = some (t' x)) → (∀ x ∈ xs, t' x = true → e x = some (e' x)) → compM t e xs = some ((xs.filter t').map e')
  | [], _, _ => rfl
  | x :: xs, h1, h2 => by
    have ih := compM_eq (t := t) (e := e) (t' := t') (e' := e') (xs := xs) (fun y m => h1 y (List.mem_cons_of_mem _ m)) fun y m => h2 y (List.mem_cons_of_mem _ m)
    show (t x).bind _ = _
    rw [h1 x (List.mem_cons_self ..), Option.bind_some, ih]
    cases hx : t' x with
    | true =>
      rw [if_pos rfl, h2 x (List.mem_cons_self ..) hx, Option.bind_some, List.filter_cons_of_pos hx]
      rfl
    | false =>
      rw [if_neg Bool.false_ne_true, List.filter_cons_of_neg (by rw [hx]; exact Bool.false_ne_true)]
theorem x_comp_eq {t : α → Option Bool} {e : α → Option β} (t' : α → Bool) (e' : α → β) {xs : List α} (hl : xs.length ≤ 16777216) (h1 : ∀ x ∈ xs, t x = some (t' x)) (h2 : ∀ x ∈ xs, t' x = true → e x = some (e' x)) : x_comp t e xs = some ((xs.filter t').map e') := by
  unfold x_comp
  rw [if_pos (show xs.length ≤ sizeLine from hl)]
  exact compM_eq h1 h2
theorem x_comp_map {e : α → Option β} (e' : α → β) {xs : List α} (hl : xs.length ≤ 16777216) (h2 : ∀ x ∈ xs, e x = some (e' x)) : x_comp (fun _ => some true) e xs = some (xs.map e') := by
  rw [x_comp_eq (fun _ => true) e' hl (fun _ _ => rfl) fun x m _ => h2 x m, List.filter_eq_self.mpr fun _ _ => rfl]
theorem x_comp_filter {t : α → Option Bool} (t' : α → Bool) {xs : List α} (hl : xs.length ≤ 16777216) (h1 : ∀ x ∈ xs, t x = some (t' x)) : x_comp t (fun x => some x) xs = some (xs.filter t') := by
  rw [x_comp_eq t' (fun x => x) hl h1 fun _ _ _ => rfl]
  simp
theorem x_ix_nat {xs : List α} {i : Nat} (h : i < xs.length) : x_ix xs (i : Int) = some xs[i] := by
  unfold x_ix atI ixN
  rw [if_pos (by omega), if_pos (by omega), Option.bind_some, Int.toNat_natCast]
  exact List.getElem?_eq_getElem h
theorem x_ix_get {xs : List α} {i : Int} {a : α} (h0 : 0 ≤ i) (h : xs[i.toNat]? = some a) : x_ix xs i = some a := by
  have hl := (List.getElem?_eq_some_iff.mp h).1
  unfold x_ix atI ixN
  rw [if_pos h0, if_pos (by omega), Option.bind_some]
  exact h
theorem x_set_nat {xs : List α} {i : Int} {y : α} (h0 : 0 ≤ i) (h : i < xs.length) : x_set xs i y = some (xs.set i.toNat y) := by
  unfold x_set ixN
  rw [if_pos h0, if_pos h, Option.bind_some]
theorem x_app_eq {xs : List α} {y : α} (h : xs.length < 16777216) : x_app xs y = some (xs ++ [y]) := by
  unfold x_app
  rw [if_pos (show xs.length < sizeLine from h)]
theorem x_cat_eq {xs ys : List α} (h : xs.length + ys.length ≤ 16777216) : x_cat xs ys = some (xs ++ ys) := by
  unfold x_cat
  rw [if_pos (show xs.length + ys.length ≤ sizeLine from h)]
theorem x_rep1 {x : α} {n : Int} (h0 : 0 ≤ n) (h : n ≤ 1000000) : x_rep [x] n = some (List.replicate n.toNat x) := by
  unfold x_rep
  rw [if_pos ⟨by omega, by omega, by show _ ≤ 16777216; simp; omega⟩]
  congr 1
  generalize n.toNat = k
  induction k with
  | zero => rfl
  | succ k ih => rw [List.replicate_succ, List.flatten_cons, ih, List.replicate_succ]; rfl
theorem forK_go {f : β → α → (β → Option γ) → (β → Option γ) → Option γ} {k : β → Option γ} {g : β → α → β} {I : β → Prop} : ∀ {xs : List α} {b : β}, I b → (∀ b x kn kb, x ∈ xs → I b → f b x kn kb = kn (g b x) ∧ I (g b x)) → forK f k xs b = k (xs.foldl g b) ∧ I (xs.foldl g b)
  | [], b, h, _ => ⟨rfl, h⟩
  | x :: xs, b, h, st => by
    obtain ⟨_, h2⟩ := st b x k k (List.mem_cons_self ..) h
    obtain ⟨h3, h4⟩ := forK_go (f := f) (k := k) (g := g) (I := I) (xs := xs) h2 fun b y kn kb m hb => st b y kn kb (List.mem_cons_of_mem _ m) hb
    exact ⟨by show f b x _ k = _; rw [(st b x _ k (List.mem_cons_self ..) h).1]; exact h3, h4⟩
/-- a loop that looks for the first one -/
theorem forK_find {f : Unit → α → (Unit → Option γ) → (Unit → Option γ) → Option γ} {k : Unit → Option γ} (c : α → Bool) (r : α → Option γ) : ∀ {xs : List α}, (∀ x kn kb, x ∈ xs → f () x kn kb = if c x = true then r x else kn ()) → forK f k xs () = match xs.find? c with | some x => r x | none => k ()
  | [], _ => rfl
  | x :: xs, h => by
    show f () x _ _ = _
    rw [h x _ _ (List.mem_cons_self ..)]
    cases hc : c x with
    | true => rw [if_pos rfl, List.find?_cons_of_pos hc]
    | false =>
      rw [if_neg Bool.false_ne_true, List.find?_cons_of_neg (by rw [hc]; exact Bool.false_ne_true)]
      exact forK_find c r fun y kn kb m => h y kn kb (List.mem_cons_of_mem _ m)
theorem whileO_inv {c : β → Option Bool} {f : β → Option β} (P : Nat → β → Prop) : ∀ (n : Nat) (b : β) (m : Nat), m < n → P m b → (∀ m b, P (m + 1) b → c b = some true ∧ ∃ b', f b = some b' ∧ P m b') → (∀ b, P 0 b → c b = some false) → ∃ b', whileO c f n b = some b' ∧ P 0 b'
  | 0, _, _, h, _, _, _ => by omega
  | n + 1, b, 0, _, hp, _, h0 => ⟨b, by show (c b).bind _ = _; rw [h0 b hp]; rfl, hp⟩
  | n + 1, b, m + 1, h, hp, st, h0 => by
    obtain ⟨h1, b', h2, h3⟩ := st m b hp
    obtain ⟨b'', h4, h5⟩ := whileO_inv P n b' m (by omega) h3 st h0
    exact ⟨b'', by show (c b).bind _ = _; rw [h1, Option.bind_some, if_pos rfl, h2, Option.bind_some]; exact h4, h5⟩
/-! ### it comes to a value with Q -/
def Ok (m : Option α) (Q : α → Prop) : Prop := ∃ r, m = some r ∧ Q r
theorem Ok.pure {a : α} {Q : α → Prop} (h : Q a) : Ok (some a) Q := ⟨a, rfl, h⟩
theorem Ok.bind {m : Option α} {k : α → Option β} {P : α → Prop} {Q : β → Prop} (h : Ok m P) (n : ∀ a, P a → Ok (k a) Q) : Ok (m.bind k) Q := by
  obtain ⟨a, rfl, h⟩ := h
  exact n a h
theorem Ok.bindE {m : Option α} {k : α → Option β} {a : α} {Q : β → Prop} (h : m = some a) (n : Ok (k a) Q) : Ok (m.bind k) Q := by
  rw [h]
  exact n
theorem Ok.mono {m : Option α} {P Q : α → Prop} (h : Ok m P) (n : ∀ a, P a → Q a) : Ok m Q := by
  obtain ⟨a, e, h⟩ := h
  exact ⟨a, e, n a h⟩
theorem Ok.eq {m : Option α} {a : α} (h : m = some a) : Ok m (fun b => b = a) := ⟨a, h, rfl⟩
theorem Ok.of {m : Option α} {a : α} (h : Ok m (fun b => b = a)) : m = some a := by
  obtain ⟨b, e, rfl⟩ := h
  exact e
theorem Ok.ite {c : Bool} {A B : Option α} {Q : α → Prop} (h1 : c = true → Ok A Q) (h2 : c = false → Ok B Q) : Ok (if c = true then A else B) Q := by
  cases c with
  | true => exact h1 rfl
  | false => exact h2 rfl
theorem Ok.fold {f : β → α → Option β} {k : β → Option γ} {b : β} {xs : List α} {Q : γ → Prop} (P : List α → β → Prop) (h0 : P [] b) (st : ∀ p x q b, xs = p ++ x :: q → P p b → Ok (f b x) (P (p ++ [x]))) (n : ∀ b, P xs b → Ok (k b) Q) : Ok ((foldO f b xs).bind k) Q :=
  Ok.bind (foldO_spec P h0 st) n
theorem Ok.foldI {f : β → α → Option β} {k : β → Option γ} {b : β} {xs : List α} {Q : γ → Prop} (I : β → Prop) (h0 : I b) (st : ∀ x b, x ∈ xs → I b → Ok (f b x) I) (n : ∀ b, I b → Ok (k b) Q) : Ok ((foldO f b xs).bind k) Q :=
  Ok.bind (foldO_all I h0 st) n
theorem Ok.foldN {f : β → Int → Option β} {k : β → Option γ} {b : β} {n : Nat} {Q : γ → Prop} (P : Nat → β → Prop) (h0 : P 0 b) (st : ∀ k b, k < n → P k b → Ok (f b (k : Int)) (P (k + 1))) (m : ∀ b, P n b → Ok (k b) Q) : Ok ((foldO f b (rangeL 0 n)).bind k) Q :=
  Ok.bind (foldO_rangeN P h0 st) m
theorem Ok.while {c : β → Option Bool} {f : β → Option β} {k : β → Option γ} {b : β} {n : Nat} {Q : γ → Prop} (P : Nat → β → Prop) (m : Nat) (hm : m < n) (h0 : P m b) (st : ∀ m b, P (m + 1) b → c b = some true ∧ Ok (f b) (P m)) (e : ∀ b, P 0 b → c b = some false) (nx : ∀ b, P 0 b → Ok (k b) Q) : Ok ((whileO c f n b).bind k) Q :=
  Ok.bind (whileO_inv P n b m hm h0 st e) nx
end
end HF

set_option Elab.async false
set_option linter.all false
set_option maxRecDepth 100000
set_option maxHeartbeats 1000000
/-! MathB: masks. -/
namespace HF
open PySem PySem.Spec L2
open PyProof.Rows hiding St
theorem and_nat (a b : Nat) : Builtin.bitAnd (a : Int) (b : Int) = ((a &&& b : Nat) : Int) := by
  unfold Builtin.bitAnd
  simp
theorem or_nat (a b : Nat) : Builtin.bitOr (a : Int) (b : Int) = ((a ||| b : Nat) : Int) := by
  unfold Builtin.bitOr Builtin.bitAnd
  have h1 : decide (0 ≤ Builtin.bitNot (a : Int)) = false := by unfold Builtin.bitNot; simp; omega
  have h2 : decide (0 ≤ Builtin.bitNot (b : Int)) = false := by unfold Builtin.bitNot; simp; omega
  have h3 : ∀ x : Int, Builtin.bitNot (Builtin.bitNot x) = x := fun x => by unfold Builtin.bitNot; omega
  rw [h1, h2]
  simp only [h3, Int.toNat_natCast]
theorem x_shr_nat (m i : Nat) : x_shr (m : Int) (i : Int) = some ((m >>> i : Nat) : Int) := by
  unfold x_shr
  rw [if_pos (by omega), Int.toNat_natCast, Nat.shiftRight_eq_div_pow]
  simp
theorem x_shl1 (i : Nat) (h : i ≤ 1000000) : x_shl 1 (i : Int) = some ((2 ^ i : Nat) : Int) := by
  unfold x_shl
  rw [if_pos ⟨by omega, by omega, by decide⟩, Int.toNat_natCast]
  simp
theorem bit1 (m i : Nat) : (((m >>> i : Nat) &&& 1 : Nat) = 1) = (m.testBit i = true) := by
  have h := Nat.and_one_is_mod (m >>> i)
  rw [Nat.testBit_eq_decide_div_mod_eq, h, Nat.shiftRight_eq_div_pow]
  simp
theorem bit0 (m i : Nat) : (((m >>> i : Nat) &&& 1 : Nat) = 0) = (m.testBit i = false) := by
  have h := Nat.and_one_is_mod (m >>> i)
  rw [Nat.testBit_eq_decide_div_mod_eq, h, Nat.shiftRight_eq_div_pow]
  simp
/-- mask >> lamp & 1 == 1 -/
theorem tst1 (m i : Nat) : ((x_shr (m : Int) (i : Int)).bind fun a => some (Builtin.bitAnd a 1)) = some (if m.testBit i = true then 1 else 0) := by
  rw [x_shr_nat, Option.bind_some]
  congr 1
  have := and_nat (m >>> i) 1
  rw [show ((1 : Nat) : Int) = 1 from rfl] at this
  rw [this]
  have h1 := bit1 m i
  have h0 := bit0 m i
  cases hb : m.testBit i with
  | true =>
    rw [hb] at h1
    simp only [eq_self, eq_iff_iff, iff_true] at h1
    rw [h1]
    rfl
  | false =>
    rw [hb] at h0
    simp only [eq_self, eq_iff_iff, iff_true] at h0
    rw [h0]
    rfl
theorem lt_intBits (m : Nat) : m < 2 ^ (Builtin.Int.intBits (m : Int)) := by
  unfold Builtin.Int.intBits
  by_cases h : m = 0
  · subst h
    decide
  · rw [if_neg (by simp [h])]
    exact Nat.lt_log2_self
theorem intBits_le {m n : Nat} (h : m < 2 ^ n) : Builtin.Int.intBits (m : Int) ≤ n := by
  unfold Builtin.Int.intBits
  by_cases h0 : m = 0
  · subst h0
    simp
  · rw [if_neg (by simp [h0])]
    have h1 := (Nat.log2_lt h0).mpr h
    show (m : Int).natAbs.log2 + 1 ≤ n
    rw [Int.natAbs_natCast]
    omega
/-- a list of masks that says a relation -/
structure ML (n : Nat) (B : List Int) (R : Int → Int → Prop) : Prop where
  len : B.length = n
  ent : ∀ u : Nat, u < n → ∃ m : Nat, B[u]? = some (m : Int) ∧ m < 2 ^ n ∧ ∀ v : Nat, m.testBit v = true ↔ R u v
  dom : ∀ u v, R u v → 0 ≤ v ∧ v < n
theorem ML.ix {n : Nat} {B : List Int} {R : Int → Int → Prop} (h : ML n B R) {u : Int} (h0 : 0 ≤ u) (h1 : u < n) : ∃ m : Nat, x_ix B u = some (m : Int) ∧ m < 2 ^ n ∧ ∀ v : Nat, m.testBit v = true ↔ R u v := by
  obtain ⟨k, rfl⟩ := Int.eq_ofNat_of_zero_le h0
  obtain ⟨m, e1, e2, e3⟩ := h.ent k (by omega)
  exact ⟨m, x_ix_get h0 (by simpa using e1), e2, e3⟩
theorem ML.set {n : Nat} {B : List Int} {R R' : Int → Int → Prop} (h : ML n B R) {u : Int} (h0 : 0 ≤ u) (h1 : u < n) {m : Nat} (hm : m < 2 ^ n) (e : ∀ v : Nat, m.testBit v = true ↔ R' u v) (o : ∀ x y, x ≠ u → (R' x y ↔ R x y)) (d : ∀ v, R' u v → 0 ≤ v ∧ v < n) :
    ∃ B', x_set B u (m : Int) = some B' ∧ ML n B' R' := by
  obtain ⟨k, rfl⟩ := Int.eq_ofNat_of_zero_le h0
  have hk : k < n := by omega
  refine ⟨B.set k (m : Int), x_set_nat h0 (by rw [h.len]; omega), by rw [List.length_set]; exact h.len, fun x hx => ?_, fun x y q => ?_⟩
  · by_cases q : x = k
    · subst q
      exact ⟨m, by rw [List.getElem?_set_self (by rw [h.len]; exact hx)], hm, e⟩
    · obtain ⟨m', e1, e2, e3⟩ := h.ent x hx
      exact ⟨m', by rw [List.getElem?_set_ne (by omega)]; exact e1, e2, fun v => (e3 v).trans (o _ _ (by omega)).symm⟩
  · by_cases q' : x = (k : Int)
    · subst q'
      exact d y q
    · exact h.dom x y ((o x y q').mp q)
theorem ML.congr {n : Nat} {B : List Int} {R R' : Int → Int → Prop} (h : ML n B R) (e : ∀ u v, 0 ≤ u → u < n → (R u v ↔ R' u v)) (d : ∀ u v, R' u v → 0 ≤ v ∧ v < n) : ML n B R' :=
  ⟨h.len, fun u hu => by
    obtain ⟨m, e1, e2, e3⟩ := h.ent u hu
    exact ⟨m, e1, e2, fun v => (e3 v).trans (e u v (by omega) (by omega))⟩, d⟩
theorem testBit_lt {m n : Nat} (h : ∀ v, m.testBit v = true → v < n) : m < 2 ^ n := Nat.lt_pow_two_of_testBit m fun i hi => by
  cases hb : m.testBit i with
  | false => rfl
  | true => have := h i hb; omega
theorem ML.zero (n : Nat) : ML n (List.replicate n 0) (fun _ _ => False) := ⟨by simp, fun u hu => ⟨0, by simp [hu], Nat.two_pow_pos _, fun v => by simp⟩, fun _ _ h => h.elim⟩
end HF

set_option Elab.async false
set_option linter.all false
set_option maxRecDepth 100000
set_option maxHeartbeats 1000000
/-! MathC: the house's wires. -/
namespace HF
open PySem PySem.Spec L2
open PyProof.Rows hiding St
theorem is_integer_eq (x : Int) : m_is_integer x = some true := rfl
abbrev Wr (P : List (Int × Int)) (u v : Int) : Prop := (u, v) ∈ P
/-- v lies beneath u -/
abbrev Dn (P : List (Int × Int)) : Int → Int → Prop := Relation.TransGen (Wr P)
theorem Dn.mono {P Q : List (Int × Int)} (h : ∀ x ∈ P, x ∈ Q) {u v : Int} (d : Dn P u v) : Dn Q u v := by
  induction d with
  | single e => exact .single (h _ e)
  | tail _ e ih => exact .tail ih (h _ e)
theorem Dn.trans {P : List (Int × Int)} {a b c : Int} (h1 : Dn P a b) (h2 : Dn P b c) : Dn P a c := by
  induction h2 with
  | single e => exact .tail h1 e
  | tail _ e ih => exact .tail ih e
theorem dn_snoc {P : List (Int × Int)} {u l x y : Int} : Dn (P ++ [(u, l)]) x y ↔ Dn P x y ∨ ((x = u ∨ Dn P x u) ∧ (y = l ∨ Dn P l y)) := by
  constructor
  · intro d
    induction d with
    | @single b e =>
      rcases List.mem_append.mp e with e | e
      · exact .inl (.single e)
      · simp at e
        exact .inr ⟨.inl e.1, .inl e.2⟩
    | @tail b c _ e ih =>
      rcases List.mem_append.mp e with e' | e'
      · rcases ih with ih | ⟨h1, h2⟩
        · exact .inl (.tail ih e')
        · refine .inr ⟨h1, .inr ?_⟩
          rcases h2 with h2 | h2
          · rw [h2] at e'
            exact .single e'
          · exact .tail h2 e'
      · have e1 : b = u ∧ c = l := by simpa using e'
        obtain ⟨rfl, rfl⟩ := e1
        rcases ih with ih | ⟨h1, h2⟩
        · exact .inr ⟨.inr ih, .inl rfl⟩
        · exact .inr ⟨h1, .inl rfl⟩
  · have up : ∀ {a b}, Dn P a b → Dn (P ++ [(u, l)]) a b := fun d => d.mono fun _ m => List.mem_append_left _ m
    have e : Dn (P ++ [(u, l)]) u l := .single (List.mem_append_right _ (List.mem_singleton.mpr rfl))
    rintro (h | ⟨h1, h2⟩)
    · exact up h
    · have a : Dn (P ++ [(u, l)]) x l := by
        rcases h1 with rfl | h1
        · exact e
        · exact (up h1).trans e
      rcases h2 with rfl | h2
      · exact a
      · exact a.trans (up h2)
/-- wires that a house takes: along an order of the lamps -/
structure GoodW (n : Nat) (rk : Int → Nat) (P : List (Int × Int)) : Prop where
  nd : P.Nodup
  dom : ∀ u v, (u, v) ∈ P → 0 ≤ u ∧ u < n ∧ 0 ≤ v ∧ v < n
  up : ∀ u v, (u, v) ∈ P → rk u < rk v
theorem GoodW.dn {n : Nat} {rk : Int → Nat} {P Q : List (Int × Int)} (h : GoodW n rk P) (hq : ∀ x ∈ Q, x ∈ P) {u v : Int} (d : Dn Q u v) : rk u < rk v ∧ 0 ≤ u ∧ u < n ∧ 0 ≤ v ∧ v < n := by
  induction d with
  | single e =>
    have := h.dom _ _ (hq _ e)
    exact ⟨h.up _ _ (hq _ e), this⟩
  | tail _ e ih =>
    have := h.dom _ _ (hq _ e)
    have := h.up _ _ (hq _ e)
    omega
theorem is_wire_eq (n u v : Int) : m__is_wire n (u, v) = some (decide (0 ≤ u ∧ u < n ∧ 0 ≤ v ∧ v < n ∧ u ≠ v)) := by
  unfold m__is_wire
  simp only [Option.bind_some, is_integer_eq, orM, andM]
  by_cases h1 : 0 ≤ u <;> by_cases h2 : u < n <;> by_cases h3 : 0 ≤ v <;> by_cases h4 : v < n <;> by_cases h5 : u = v <;> simp [h1, h2, h3, h4, h5] <;> omega
theorem enumL_mem {α : Type} {xs : List α} {p : Int × α} (h : p ∈ enumL xs) : ∃ i : Nat, p.1 = (i : Int) ∧ xs[i]? = some p.2 := by
  obtain ⟨i, hi⟩ := List.getElem?_of_mem h
  obtain ⟨a, h1, h2⟩ := enumL_get hi
  exact ⟨i, by rw [h2], by rw [h2]; exact h1⟩
theorem enumL_snd {α : Type} (xs : List α) : (enumL xs).map (·.2) = xs := by
  unfold enumL
  rw [List.map_map]
  show (xs.zipIdx.map fun p => p.1) = xs
  simp
/-- the test of one bit of a mask in a list -/
theorem ML.bit {n : Nat} {B : List Int} {R : Int → Int → Prop} (h : ML n B R) {u v : Int} (h0 : 0 ≤ u) (h1 : u < n) (h2 : 0 ≤ v) : ∃ b : Bool, (b = true ↔ R u v) ∧ (((x_ix B u).bind fun a => x_shr a v).bind fun a => some (Builtin.bitAnd a 1)) = some (if b = true then 1 else 0) := by
  obtain ⟨m, e1, _, e3⟩ := h.ix h0 h1
  obtain ⟨k, rfl⟩ := Int.eq_ofNat_of_zero_le h2
  refine ⟨m.testBit k, e3 k, ?_⟩
  rw [e1, Option.bind_some]
  exact tst1 m k
theorem ML.orBit {n : Nat} {B : List Int} {R : Int → Int → Prop} (hn : n ≤ 1000) (h : ML n B R) {u l : Int} (h0 : 0 ≤ u) (h1 : u < n) (h2 : 0 ≤ l) (h3 : l < n) :
    ∃ m : Nat, ((x_ix B u).bind fun a => (x_shl 1 l).bind fun b => some (Builtin.bitOr a b)) = some (m : Int) ∧ m < 2 ^ n ∧ ∀ v : Nat, m.testBit v = true ↔ R u v ∨ (v : Int) = l := by
  obtain ⟨m, e1, e2, e3⟩ := h.ix h0 h1
  obtain ⟨k, rfl⟩ := Int.eq_ofNat_of_zero_le h2
  have hb : ∀ v : Nat, (m ||| 2 ^ k).testBit v = true ↔ R u v ∨ (v : Int) = (k : Int) := fun v => by
    rw [Nat.testBit_or, Nat.testBit_two_pow, Bool.or_eq_true, e3 v, decide_eq_true_eq]
    constructor
    · rintro (h | h)
      · exact .inl h
      · exact .inr (by omega)
    · rintro (h | h)
      · exact .inl h
      · exact .inr (by omega)
  refine ⟨m ||| 2 ^ k, ?_, testBit_lt fun v hv => ?_, hb⟩
  · rw [e1, x_shl1 k (by omega), bs, bs, or_nat]
  · rcases (hb v).mp hv with q | q
    · have := h.dom _ _ q
      omega
    · omega
theorem test1 {m : Option Int} {b : Bool} (h : m = some (if b = true then 1 else 0)) : (m.bind fun z => some (decide (z = 1))) = some b := by
  rw [h]
  cases b <;> rfl
theorem test0 {m : Option Int} {b : Bool} (h : m = some (if b = true then 1 else 0)) : (m.bind fun z => some (decide (z = 0))) = some (!b) := by
  rw [h]
  cases b <;> rfl
theorem join_wires_eq {n : Nat} {rk : Int → Nat} {P : List (Int × Int)} (hn : n ≤ 1000) (h : GoodW n rk P) : Ok (m__join_wires n P) fun B => ML n B (Dn P) := by
  unfold m__join_wires
  simp only [bs]
  refine Ok.bindE (x_rep1 (by omega) (by omega)) ?_
  refine Ok.bindE (x_rep1 (by omega) (by omega)) ?_
  rw [Int.toNat_natCast]
  refine Ok.fold (fun (p : List (Int × (Int × Int))) (b : List Int × List Int) => ML n b.1 (Wr (p.map (·.2))) ∧ ML n b.2 (Dn (p.map (·.2)))) ?_ ?_ ?_
  · refine ⟨(ML.zero n).congr (fun u v _ _ => by simp) (fun u v h => by simp at h), (ML.zero n).congr (fun u v _ _ => ?_) (fun u v h => ?_)⟩
    · constructor
      · exact False.elim
      · intro d
        induction d with
        | single e => simp at e
        | tail _ e => simp at e
    · induction h with
      | single e => simp at e
      | tail _ e => simp at e
  · rintro p ⟨i, u, l⟩ q ⟨wd, bl⟩ e ⟨h1, h2⟩
    have eP : P = p.map (·.2) ++ (u, l) :: q.map (·.2) := by
      have := congrArg (List.map (·.2)) e
      rw [enumL_snd] at this
      simpa using this
    have hm : (u, l) ∈ P := by rw [eP]; simp
    obtain ⟨d1, d2, d3, d4⟩ := h.dom u l hm
    have hr := h.up u l hm
    have ne : u ≠ l := fun e => by subst e; omega
    have sub : ∀ x ∈ p.map (·.2), x ∈ P := fun x m => by rw [eP]; exact List.mem_append_left _ m
    dsimp only at h1 h2 ⊢
    rw [is_wire_eq, decide_eq_true (p := _) ⟨d1, d2, d3, d4, ne⟩]
    simp only [Option.bind_some, Bool.not_true, Bool.false_eq_true, if_false]
    obtain ⟨b, hb, eb⟩ := h1.bit d1 d2 d3
    have hbf : b = false := by
      cases b with
      | false => rfl
      | true =>
        have : (u, l) ∈ p.map (·.2) := hb.mp rfl
        have nd := h.nd
        rw [eP] at nd
        exact absurd rfl ((List.nodup_append.mp nd).2.2 _ this _ (List.mem_cons_self ..))
    subst hbf
    refine Ok.bindE (test1 eb) ?_
    simp only [Bool.false_eq_true, if_false]
    obtain ⟨b, hb, eb⟩ := h2.bit d3 d4 d1
    have hbf : b = false := by
      cases b with
      | false => rfl
      | true =>
        have := (h.dn sub (hb.mp rfl)).1
        omega
    subst hbf
    refine Ok.bindE (test1 eb) ?_
    simp only [Bool.false_eq_true, if_false]
    obtain ⟨m, em, lm, bm⟩ := h1.orBit hn d1 d2 d3 d4
    refine Ok.bindE em ?_
    obtain ⟨wd', ew, hw⟩ := h1.set (R' := Wr ((p ++ [(i, (u, l))]).map (·.2))) d1 d2 lm (fun v => by
      rw [bm v]
      simp [Wr]) (fun x y hx => by simp [Wr]; exact fun e _ => absurd e hx) (fun v hv => by
      have := h.dom u v (by
        rw [eP]
        simp [Wr] at hv ⊢
        rcases hv with hv | hv
        · exact .inl hv
        · exact .inr (.inl hv))
      omega)
    refine Ok.bindE ew ?_
    obtain ⟨g, eg, lg, bg⟩ := h2.orBit hn d3 d4 d3 d4
    refine Ok.bindE eg ?_
    refine Ok.bindE (x_range_nat (by omega)) ?_
    have hsn : ∀ x y, Dn ((p ++ [(i, (u, l))]).map (·.2)) x y ↔ Dn (p.map (·.2)) x y ∨ ((x = u ∨ Dn (p.map (·.2)) x u) ∧ (y = l ∨ Dn (p.map (·.2)) l y)) := fun x y => by
      rw [List.map_append]
      exact dn_snoc
    refine Ok.foldN (fun k b => ML n b (fun x y => Dn (p.map (·.2)) x y ∨ (x < k ∧ (x = u ∨ Dn (p.map (·.2)) x u) ∧ (y = l ∨ Dn (p.map (·.2)) l y)))) ?_ ?_ ?_
    · refine h2.congr (fun x y hx _ => ⟨.inl, fun q => ?_⟩) (fun x y q => ?_)
      · rcases q with q | q
        · exact q
        · omega
      · rcases q with q | ⟨_, _, q⟩
        · exact h2.dom _ _ q
        · rcases q with rfl | q
          · exact ⟨d3, d4⟩
          · exact h2.dom _ _ q
    · intro k b hk hb
      have k0 : (0 : Int) ≤ k := by omega
      have k1 : (k : Int) < n := by omega
      obtain ⟨t, ht, et⟩ := hb.bit k0 k1 d1
      rw [test1 et]
      have ho : orM (decide ((k : Int) = u)) (some t) = some (decide ((k : Int) = u) || t) := orM_some _ _
      rw [ho, bs]
      have hc : (decide ((k : Int) = u) || t) = true ↔ ((k : Int) = u ∨ Dn (p.map (·.2)) k u) := by
        rw [Bool.or_eq_true, decide_eq_true_eq, ht]
        constructor
        · rintro (q | q | q)
          · exact .inl q
          · exact .inr q
          · omega
        · rintro (q | q)
          · exact .inl q
          · exact .inr (.inl q)
      refine Ok.ite (fun ct => ?_) (fun cf => ?_)
      · have ct' := hc.mp ct
        obtain ⟨mk, e1, e2, e3⟩ := hb.ix k0 k1
        rw [e1, bs, or_nat, bs]
        have hbit : ∀ v : Nat, (mk ||| g).testBit v = true ↔ (Dn (p.map (·.2)) k v ∨ ((v : Int) = l ∨ Dn (p.map (·.2)) l v)) := fun v => by
          rw [Nat.testBit_or, Bool.or_eq_true, e3 v, bg v]
          constructor
          · rintro ((q | q) | (q | q))
            · exact .inl q
            · omega
            · exact .inr (.inr q)
            · exact .inr (.inl q)
          · rintro (q | q | q)
            · exact .inl (.inl q)
            · exact .inr (.inr q)
            · exact .inr (.inl q)
        have dm : ∀ y, (Dn (p.map (·.2)) k y ∨ (y = l ∨ Dn (p.map (·.2)) l y)) → 0 ≤ y ∧ y < n := fun y q => by
          rcases q with q | rfl | q
          · exact h2.dom _ _ q
          · exact ⟨d3, d4⟩
          · exact h2.dom _ _ q
        obtain ⟨b', eb', hb'⟩ := hb.set (R' := fun x y => Dn (p.map (·.2)) x y ∨ (x < ((k + 1 : Nat) : Int) ∧ (x = u ∨ Dn (p.map (·.2)) x u) ∧ (y = l ∨ Dn (p.map (·.2)) l y))) k0 k1 (m := mk ||| g) (testBit_lt fun v hv => by
            have := dm v ((hbit v).mp hv)
            omega) (fun v => by
            rw [hbit v]
            constructor
            · rintro (q | q)
              · exact .inl q
              · exact .inr ⟨by omega, ct', q⟩
            · rintro (q | ⟨_, _, q⟩)
              · exact .inl q
              · exact .inr q) (fun x y hx => by
            constructor
            · rintro (q | ⟨q1, q2⟩)
              · exact .inl q
              · exact .inr ⟨by omega, q2⟩
            · rintro (q | ⟨q1, q2⟩)
              · exact .inl q
              · exact .inr ⟨by omega, q2⟩) (fun y q => by
            rcases q with q | ⟨_, _, q⟩
            · exact dm y (.inl q)
            · exact dm y (.inr q))
        rw [eb', bs]
        exact Ok.pure hb'
      · have cf' : ¬ ((k : Int) = u ∨ Dn (p.map (·.2)) k u) := fun q => by
          rw [hc.mpr q] at cf
          cases cf
        refine Ok.pure (hb.congr (fun x y _ _ => ?_) (fun x y q => ?_))
        · constructor
          · rintro (q | ⟨q1, q2⟩)
            · exact .inl q
            · exact .inr ⟨by omega, q2⟩
          · rintro (q | ⟨q1, q2⟩)
            · exact .inl q
            · by_cases hx : x = k
              · subst hx
                exact absurd q2.1 cf'
              · exact .inr ⟨by omega, q2⟩
        · rcases q with q | ⟨_, _, q⟩
          · exact h2.dom _ _ q
          · rcases q with rfl | q
            · exact ⟨d3, d4⟩
            · exact h2.dom _ _ q
    · intro b hb
      refine Ok.pure ⟨hw, hb.congr (fun x y _ hx => ?_) (fun x y q => ?_)⟩
      · rw [hsn]
        constructor
        · rintro (q | ⟨_, q⟩)
          · exact .inl q
          · exact .inr q
        · rintro (q | q)
          · exact .inl q
          · exact .inr ⟨by omega, q⟩
      · have := h.dn (Q := (p ++ [(i, (u, l))]).map (·.2)) (fun x m => by
          rw [eP]
          simp at m ⊢
          rcases m with m | m
          · exact .inl m
          · exact .inr (.inl m)) q
        omega
  · rintro ⟨wd, bl⟩ ⟨_, h2⟩
    rw [enumL_snd] at h2
    exact Ok.pure h2
end HF

set_option Elab.async false
set_option linter.all false
set_option maxRecDepth 100000
set_option maxHeartbeats 1000000
/-! MathD: bits, turning round, the order list. -/
namespace HF
open PySem PySem.Spec L2
open PyProof.Rows hiding St
theorem enumL_at {α : Type} {xs : List α} {p q : List (Int × α)} {x : Int × α} (e : enumL xs = p ++ x :: q) : x.1 = (p.length : Int) ∧ xs[p.length]? = some x.2 := by
  have h : (enumL xs)[p.length]? = some x := by rw [e]; simp
  obtain ⟨a, h1, h2⟩ := enumL_get h
  rw [h2]
  exact ⟨rfl, h1⟩
theorem enumL_len {α : Type} (xs : List α) : (enumL xs).length = xs.length := by simp [enumL]
/-- the lamps of a mask -/
theorem bits_eq {n m : Nat} (hn : n ≤ 1000) (hm : m < 2 ^ n) : m_bits (m : Int) = some ((rangeL 0 n).filter fun v => m.testBit v.toNat) := by
  unfold m_bits
  simp only [bs]
  have hk := intBits_le hm
  rw [x_range_nat (by omega), bs]
  rw [x_comp_filter (fun v => m.testBit v.toNat) (by rw [length_rangeL]; omega) (fun x hx => ?_)]
  · congr 1
    obtain ⟨d, hd⟩ := Nat.exists_eq_add_of_le hk
    rw [hd]
    unfold rangeL
    rw [List.range_add, List.map_append, List.filter_append]
    have : (List.filter (fun v : Int => m.testBit v.toNat) (List.map (fun i : Nat => 0 + (i : Int)) (List.map (fun x => Builtin.Int.intBits (m : Int) + x) (List.range d)))) = [] := by
      rw [List.filter_eq_nil_iff]
      intro v hv
      simp only [List.mem_map, List.mem_range] at hv
      obtain ⟨a, ⟨b, _, rfl⟩, rfl⟩ := hv
      have h1 := lt_intBits m
      have h2 : m < 2 ^ (Builtin.Int.intBits (m : Int) + b) := Nat.lt_of_lt_of_le h1 (Nat.pow_le_pow_right (by decide) (by omega))
      have e : (0 + ((Builtin.Int.intBits (m : Int) + b : Nat) : Int)).toNat = Builtin.Int.intBits (m : Int) + b := by omega
      rw [e, Nat.testBit_lt_two_pow h2]
      decide
    rw [this, List.append_nil]
  · obtain ⟨h0, h1⟩ := mem_rangeL.mp hx
    obtain ⟨k, rfl⟩ := Int.eq_ofNat_of_zero_le h0
    rw [test1 (tst1 m k)]
    rfl
noncomputable def dnB (P : List (Int × Int)) (u v : Int) : Bool := @decide (Dn P u v) (Classical.propDecidable _)
theorem dnB_iff {P : List (Int × Int)} {u v : Int} : dnB P u v = true ↔ Dn P u v := by unfold dnB; exact @decide_eq_true_iff _ (Classical.propDecidable _)
theorem nodup_len {α : Type} [DecidableEq α] : ∀ {l m : List α}, l.Nodup → l ⊆ m → l.length ≤ m.length
  | [], _, _, _ => Nat.zero_le _
  | a :: l, m, h, s => by
    obtain ⟨h1, h2⟩ := List.nodup_cons.mp h
    have ha : a ∈ m := s (List.mem_cons_self ..)
    have ih := nodup_len (l := l) (m := m.erase a) h2 fun x hx => (List.mem_erase_of_ne (fun e => h1 (by rw [← e]; exact hx))).mpr (s (List.mem_cons_of_mem _ hx))
    rw [List.length_erase_of_mem ha] at ih
    have := List.length_pos_of_mem ha
    simp only [List.length_cons]
    omega
noncomputable def belowL (n : Nat) (P : List (Int × Int)) (u : Int) : List Int := (rangeL 0 n).filter fun v => dnB P u v
noncomputable def aboveL (n : Nat) (P : List (Int × Int)) (v : Int) : List Int := (rangeL 0 n).filter fun u => dnB P u v
theorem mask_list {n m : Nat} {R : Int → Prop} {p : Int → Bool} (h : ∀ v : Nat, m.testBit v = true ↔ R v) (hp : ∀ v, p v = true ↔ R v) : (rangeL 0 n).filter (fun v => m.testBit v.toNat) = (rangeL 0 n).filter p := by
  refine List.filter_congr fun v hv => ?_
  obtain ⟨h0, _⟩ := mem_rangeL.mp hv
  obtain ⟨k, rfl⟩ := Int.eq_ofNat_of_zero_le h0
  have h1 := h k
  have h2 := hp k
  rw [Int.toNat_natCast]
  cases e1 : m.testBit k <;> cases e2 : p (k : Int) <;> simp_all
/-- turned round -/
theorem turn_round_eq {n : Nat} (hn : n ≤ 1000) {B : List Int} {R : Int → Int → Prop} (h : ML n B R) (hd : ∀ u v, R u v → 0 ≤ u ∧ u < n) : Ok (m__turn_round B) fun U => ML n U (fun x y => R y x) := by
  unfold m__turn_round
  simp only [bs]
  rw [h.len]
  refine Ok.bindE (x_rep1 (by omega) (by omega)) ?_
  rw [Int.toNat_natCast]
  refine Ok.fold (fun (p : List (Int × Int)) (b : List Int) => ML n b (fun x y => R y x ∧ y < (p.length : Int))) ?_ ?_ ?_
  · exact (ML.zero n).congr (fun u v _ _ => ⟨False.elim, fun q => by have := hd _ _ q.1; simp at q; omega⟩) (fun u v q => by have := hd _ _ q.1; simp at q; omega)
  · rintro p ⟨i, mk⟩ q b e hb
    obtain ⟨e1, e2⟩ := enumL_at e
    dsimp only at e1 e2 ⊢
    subst e1
    have hp : p.length < n := by rw [← h.len]; exact (List.getElem?_eq_some_iff.mp e2).1
    obtain ⟨m, e3, lm, bm⟩ := h.ent p.length hp
    rw [e2] at e3
    cases e3
    rw [bits_eq hn lm, bs, List.length_append, List.length_singleton]
    have hmem : ∀ x, x ∈ (rangeL 0 n).filter (fun v => m.testBit v.toNat) ↔ R (p.length : Int) x := fun x => by
      rw [List.mem_filter, mem_rangeL]
      constructor
      · rintro ⟨⟨q1, q2⟩, q3⟩
        obtain ⟨k, rfl⟩ := Int.eq_ofNat_of_zero_le q1
        exact (bm k).mp (by simpa using q3)
      · intro q
        have d := h.dom _ _ q
        obtain ⟨k, rfl⟩ := Int.eq_ofNat_of_zero_le d.1
        exact ⟨d, by simpa using (bm k).mpr q⟩
    refine Ok.fold (fun (p' : List Int) (b : List Int) => ML n b (fun x y => (R y x ∧ y < (p.length : Int)) ∨ (y = (p.length : Int) ∧ x ∈ p'))) ?_ ?_ ?_
    · exact hb.congr (fun u v _ _ => by simp) (fun u v q => by simp at q; exact hb.dom u v q)
    · intro p' x q' b e' hb'
      have hx : R (p.length : Int) x := (hmem x).mp (by rw [e']; simp)
      have dx := h.dom _ _ hx
      obtain ⟨m', em, lm', bm'⟩ := hb'.orBit hn dx.1 dx.2 (l := (p.length : Int)) (by omega) (by omega)
      refine Ok.bindE em ?_
      obtain ⟨b', eb, hb''⟩ := hb'.set (R' := fun x' y => (R y x' ∧ y < (p.length : Int)) ∨ (y = (p.length : Int) ∧ x' ∈ p' ++ [x])) dx.1 dx.2 lm' (fun v => by
        rw [bm' v]
        simp only [List.mem_append, List.mem_singleton, or_true, and_true]
        constructor
        · rintro ((q | q) | q)
          · exact .inl q
          · exact .inr q.1
          · exact .inr q
        · rintro (q | q)
          · exact .inl (.inl q)
          · exact .inr q) (fun x' y hx' => by simp [hx']) (fun v q => by
        rcases q with q | q
        · have := hd _ _ q.1
          omega
        · omega)
      rw [eb, bs]
      exact Ok.pure hb''
    · intro b hb'
      refine Ok.pure (hb'.congr (fun x y _ _ => ?_) (fun x y q => ?_))
      · rw [hmem]
        constructor
        · rintro (q | ⟨rfl, q⟩)
          · exact ⟨q.1, by omega⟩
          · exact ⟨q, by omega⟩
        · rintro ⟨q1, q2⟩
          by_cases hy : y = (p.length : Int)
          · exact .inr ⟨hy, hy ▸ q1⟩
          · exact .inl ⟨q1, by omega⟩
      · exact hd _ _ q.1
  · intro b hb
    rw [enumL_len, h.len] at hb
    exact Ok.pure (hb.congr (fun x y _ _ => ⟨fun q => q.1, fun q => ⟨q, (hd _ _ q).2⟩⟩) (fun x y q => hd _ _ q))
/-- the greedy order -/
def gr (n : Nat) (up : Int → List Int) : Nat → List Int
  | 0 => []
  | k + 1 => gr n up k ++ (((rangeL 0 n).filter fun x => !decide (x ∈ gr n up k) && (up x).all fun y => decide (y ∈ gr n up k)).take 1)
/-- there is always a next one -/
theorem gr_next {n : Nat} {up : Int → List Int} {rk : Int → Nat} (hup : ∀ x y, y ∈ up x → (0 ≤ y ∧ y < n) ∧ rk y < rk x) {ls : List Int} (hl : ls.length < n) : ∃ x r, ((rangeL 0 n).filter fun x => !decide (x ∈ ls) && (up x).all fun y => decide (y ∈ ls)) = x :: r := by
  have hex : ∃ x, (0 ≤ x ∧ x < (n : Int)) ∧ x ∉ ls := by
    refine Classical.byContradiction fun hno => ?_
    have hsub : rangeL 0 n ⊆ ls := fun x hx => Classical.byContradiction fun q => hno ⟨x, mem_rangeL.mp hx, q⟩
    have := nodup_len nodup_rangeL hsub
    rw [length_rangeL] at this
    omega
  have hmin : ∀ (k : Nat) (x : Int), rk x < k → (0 ≤ x ∧ x < (n : Int)) → x ∉ ls → ∃ x, (0 ≤ x ∧ x < (n : Int)) ∧ x ∉ ls ∧ ∀ y ∈ up x, y ∈ ls := fun k => by
    induction k with
    | zero => intro x h; omega
    | succ k ih =>
      intro x hk hx hn
      by_cases hall : ∀ y ∈ up x, y ∈ ls
      · exact ⟨x, hx, hn, hall⟩
      · simp only [Classical.not_forall] at hall
        obtain ⟨y, hy, hny⟩ := hall
        obtain ⟨d, r⟩ := hup x y hy
        exact ih y (by omega) d hny
  obtain ⟨x, hx, hn⟩ := hex
  obtain ⟨x, hx, hn, ha⟩ := hmin (rk x + 1) x (by omega) hx hn
  have hm : x ∈ (rangeL 0 n).filter fun x => !decide (x ∈ ls) && (up x).all fun y => decide (y ∈ ls) := by
    rw [List.mem_filter, mem_rangeL]
    refine ⟨hx, ?_⟩
    rw [Bool.and_eq_true, List.all_eq_true]
    exact ⟨by simp [hn], fun y hy => decide_eq_true (ha y hy)⟩
  cases h : (rangeL 0 n).filter fun x => !decide (x ∈ ls) && (up x).all fun y => decide (y ∈ ls) with
  | nil => rw [h] at hm; cases hm
  | cons a r => exact ⟨a, r, rfl⟩
theorem gr_len {n : Nat} {up : Int → List Int} {rk : Int → Nat} (hup : ∀ x y, y ∈ up x → (0 ≤ y ∧ y < n) ∧ rk y < rk x) : ∀ k, k ≤ n → (gr n up k).length = k
  | 0, _ => rfl
  | k + 1, h => by
    have ih := gr_len hup k (by omega)
    obtain ⟨x, r, e⟩ := gr_next hup (ls := gr n up k) (by omega)
    show (gr n up k ++ _).length = _
    rw [e, List.length_append, ih]
    rfl
theorem gr_mem {n : Nat} {up : Int → List Int} : ∀ k x, x ∈ gr n up k → 0 ≤ x ∧ x < (n : Int)
  | 0, x, h => by cases h
  | k + 1, x, h => by
    rcases List.mem_append.mp h with h | h
    · exact gr_mem k x h
    · exact mem_rangeL.mp (List.mem_filter.mp (List.mem_of_mem_take h)).1
theorem gr_nodup {n : Nat} {up : Int → List Int} : ∀ k, (gr n up k).Nodup
  | 0 => List.nodup_nil
  | k + 1 => by
    refine List.nodup_append.mpr ⟨gr_nodup k, (nodup_rangeL.filter _).sublist (List.take_sublist _ _), fun a ha b hb e => ?_⟩
    have := (List.mem_filter.mp (List.mem_of_mem_take hb)).2
    rw [Bool.and_eq_true] at this
    subst e
    simp [ha] at this
end HF

set_option Elab.async false
set_option linter.all false
set_option maxRecDepth 100000
set_option maxHeartbeats 1000000
/-! MathE: the order list; the house. -/
namespace HF
open PySem PySem.Spec L2
open PyProof.Rows hiding St
theorem enumL_fst {α : Type} (xs : List α) : (enumL xs).map (·.1) = rangeL 0 xs.length := by
  have h : xs.zipIdx.map (fun p => p.2) = List.range xs.length := by
    rw [List.range_eq_range']
    exact List.zipIdx_map_snd 0 xs
  unfold enumL rangeL
  rw [List.map_map, ← h, List.map_map]
  refine List.map_congr_left fun p _ => ?_
  simp
theorem x_ix0 {α : Type} {x : α} {r : List α} : x_ix (x :: r) 0 = some x := x_ix_get (by decide) rfl
theorem enum_filter {α : Type} {xs : List α} {t : Int × α → Bool} {s : Int → Bool} (h : ∀ (i : Nat) a, xs[i]? = some a → t ((i : Int), a) = s i) : ((enumL xs).filter t).map (·.1) = (rangeL 0 xs.length).filter s := by
  rw [← enumL_fst, List.filter_map]
  congr 1
  refine List.filter_congr fun p hp => ?_
  obtain ⟨i, h1, h2⟩ := enumL_mem hp
  obtain ⟨a, b⟩ := p
  dsimp only at h1 h2 ⊢
  subst h1
  exact h i b h2
theorem and_sub {m L : Nat} : m &&& L = m ↔ ∀ v, m.testBit v = true → L.testBit v = true := by
  constructor
  · intro h v hv
    rw [← h, Nat.testBit_and] at hv
    simp at hv
    exact hv.2
  · intro h
    refine Nat.eq_of_testBit_eq fun v => ?_
    rw [Nat.testBit_and]
    have := h v
    cases hm : m.testBit v <;> simp_all
theorem order_list_eq {n : Nat} (hn : n ≤ 1000) {A : List Int} {up : Int → List Int} {rk : Int → Nat} (h : ML n A (fun x y => y ∈ up x)) (hup : ∀ x y, y ∈ up x → (0 ≤ y ∧ y < n) ∧ rk y < rk x) : m__order_list A = some (gr n up n) := by
  refine Ok.of ?_
  unfold m__order_list
  simp only [bs]
  refine Ok.while (fun m b => m ≤ n ∧ b.1 = gr n up (n - m) ∧ ∃ L : Nat, b.2 = (L : Int) ∧ ∀ v : Nat, L.testBit v = true ↔ (v : Int) ∈ b.1) n (by rw [h.len]; omega) ⟨Nat.le_refl _, by simp [gr], 0, rfl, fun v => by simp⟩ ?_ ?_ ?_
  · rintro m ⟨ls, li⟩ ⟨hm, e1, L, e2, hL⟩
    dsimp only at e1 e2 hL ⊢
    subst e2
    have hlen : ls.length = n - (m + 1) := by rw [e1]; exact gr_len hup _ (by omega)
    refine ⟨by rw [decide_eq_true (by rw [hlen, h.len]; omega)], ?_⟩
    have hr : x_comp (fun y : Int × Int => some (decide (Builtin.bitAnd y.2 (L : Int) = y.2))) (fun y => some y.1) (enumL A) = some ((rangeL 0 n).filter fun x => (up x).all fun y => decide (y ∈ ls)) := by
      rw [x_comp_eq (fun y : Int × Int => decide (Builtin.bitAnd y.2 (L : Int) = y.2)) (fun y => y.1) (by rw [enumL_len, h.len]; omega) (fun _ _ => rfl) fun _ _ _ => rfl]
      congr 1
      have := enum_filter (xs := A) (t := fun y : Int × Int => decide (Builtin.bitAnd y.2 (L : Int) = y.2)) (s := fun x => (up x).all fun y => decide (y ∈ ls)) fun i a hi => ?_
      · rw [h.len] at this
        exact this
      · have hin : i < n := by rw [← h.len]; exact (List.getElem?_eq_some_iff.mp hi).1
        obtain ⟨m, em, _, bm⟩ := h.ent i hin
        rw [hi] at em
        cases em
        dsimp only
        rw [Bool.eq_iff_iff, decide_eq_true_eq, and_nat, List.all_eq_true]
        rw [show (((m &&& L : Nat) : Int) = (m : Int)) ↔ m &&& L = m from by omega, and_sub]
        constructor
        · intro q y hy
          have d := (hup _ _ hy).1
          obtain ⟨k, rfl⟩ := Int.eq_ofNat_of_zero_le d.1
          exact decide_eq_true ((hL k).mp (q k ((bm k).mpr hy)))
        · intro q v hv
          exact (hL v).mpr (of_decide_eq_true (q v ((bm v).mp hv)))
    rw [hr, bs]
    rw [x_comp_filter (fun x => !decide (x ∈ ls)) (Nat.le_trans (List.length_filter_le _ _) (by rw [length_rangeL]; omega)) fun x hx => ?_, bs, List.filter_filter]
    · obtain ⟨x, r, e⟩ := gr_next hup (ls := ls) (by omega)
      rw [e]
      rw [x_ix0]
      have hxm : 0 ≤ x ∧ x < (n : Int) := by
        have : x ∈ (rangeL 0 n).filter fun x => !decide (x ∈ ls) && (up x).all fun y => decide (y ∈ ls) := by rw [e]; exact List.mem_cons_self ..
        exact mem_rangeL.mp (List.mem_filter.mp this).1
      obtain ⟨k, rfl⟩ := Int.eq_ofNat_of_zero_le hxm.1
      simp only [bs]
      rw [x_app_eq (by omega), bs, x_shl1 k (by omega), bs, or_nat]
      refine Ok.pure ⟨by omega, ?_, L ||| 2 ^ k, rfl, fun v => ?_⟩
      · have e3 : n - m = (n - (m + 1)) + 1 := by omega
        dsimp only
        rw [e3]
        show _ = gr n up (n - (m + 1)) ++ _
        rw [← e1, e]
        rfl
      · dsimp only
        rw [Nat.testBit_or, Nat.testBit_two_pow, Bool.or_eq_true, hL, decide_eq_true_eq, List.mem_append, List.mem_singleton, show (k = v) ↔ ((v : Int) = (k : Int)) from by omega]
    · obtain ⟨hx1, _⟩ := List.mem_filter.mp hx
      obtain ⟨h0, _⟩ := mem_rangeL.mp hx1
      obtain ⟨k, rfl⟩ := Int.eq_ofNat_of_zero_le h0
      rw [test0 (tst1 L k)]
      congr 1
      rw [Bool.eq_iff_iff]
      have := hL k
      cases hb : L.testBit k <;> simp_all
  · rintro ⟨ls, li⟩ ⟨_, e1, _⟩
    dsimp only at e1 ⊢
    rw [e1, gr_len hup _ (by omega), h.len]
    simp
  · rintro ⟨ls, li⟩ ⟨_, e1, _⟩
    exact Ok.pure (by simpa using e1)
/-- a house of n lamps, q hues, wires P -/
structure HouseOk (n q : Nat) (P : List (Int × Int)) (h : HouseD) : Prop where
  belowM : ML n h.belowM (Dn P)
  aboveM : ML n h.aboveM (fun x y => Dn P y x)
  below : h.below = (rangeL 0 n).map (belowL n P)
  above : h.above = (rangeL 0 n).map (aboveL n P)
  order : h.order = gr n (aboveL n P) n
  count : h.count = n
  hues : h.hues = q
  wires : h.wires = sortP P
theorem mem_aboveL {n : Nat} {rk : Int → Nat} {P : List (Int × Int)} (h : GoodW n rk P) {x y : Int} : y ∈ aboveL n P x ↔ Dn P y x := by
  unfold aboveL
  rw [List.mem_filter, mem_rangeL, dnB_iff]
  exact ⟨fun q => q.2, fun q => ⟨by have := h.dn (fun _ m => m) q; omega, q⟩⟩
theorem mem_belowL {n : Nat} {rk : Int → Nat} {P : List (Int × Int)} (h : GoodW n rk P) {x y : Int} : y ∈ belowL n P x ↔ Dn P x y := by
  unfold belowL
  rw [List.mem_filter, mem_rangeL, dnB_iff]
  exact ⟨fun q => q.2, fun q => ⟨by have := h.dn (fun _ m => m) q; omega, q⟩⟩
/-- the lists of the masks -/
theorem masks_lists {n : Nat} (hn : n ≤ 1000) {B : List Int} {R : Int → Int → Prop} (h : ML n B R) {f : Int → List Int} (hf : ∀ u : Nat, u < n → ∃ p : Int → Bool, f u = (rangeL 0 n).filter p ∧ ∀ v, p v = true ↔ R u v) : x_comp (fun _ => some true) (fun y => m_bits y) B = some ((rangeL 0 n).map f) := by
  have e : ∀ (i : Nat) (y : Int), B[i]? = some y → m_bits y = some (f i) := fun i y hi => by
    have hin : i < n := by rw [← h.len]; exact (List.getElem?_eq_some_iff.mp hi).1
    obtain ⟨m, em, lm, bm⟩ := h.ent i hin
    rw [hi] at em
    cases em
    obtain ⟨p, e1, e2⟩ := hf i hin
    rw [bits_eq hn lm, e1, mask_list bm e2]
  have hg : ∀ y ∈ B, m_bits y = some ((m_bits y).getD []) := fun y hy => by
    obtain ⟨i, hi⟩ := List.getElem?_of_mem hy
    rw [e i y hi]
    rfl
  have hl : B.length ≤ 16777216 := by
    rw [h.len]
    omega
  have h2 : (B.map fun y => (m_bits y).getD []) = (rangeL 0 n).map f := by
    refine List.ext_getElem? fun i => ?_
    rw [List.getElem?_map, List.getElem?_map]
    by_cases hi : i < n
    · have hB : i < B.length := by rw [h.len]; exact hi
      rw [List.getElem?_eq_getElem hB, List.getElem?_eq_getElem (by rw [length_rangeL]; exact hi)]
      rw [Option.map_some, Option.map_some, e i _ (List.getElem?_eq_getElem hB)]
      simp [rangeL]
    · rw [List.getElem?_eq_none (by rw [h.len]; omega), List.getElem?_eq_none (by rw [length_rangeL]; omega), Option.map_none, Option.map_none]
  rw [← h2]
  exact x_comp_map (fun y => (m_bits y).getD []) hl hg
theorem app2_ok {xss : List (List Int)} {u v : Int} {n : Nat} (hl : xss.length = n) (h0 : 0 ≤ u) (h1 : u < n) {c : Nat} (hc : ∀ xs ∈ xss, xs.length ≤ c) (hc2 : c < 1000000) : Ok (x_app2 xss u v) fun r => r.length = n ∧ ∀ xs ∈ r, xs.length ≤ c + 1 := by
  unfold x_app2 ixN
  rw [if_pos h0, if_pos (by omega), bs]
  have hu : u.toNat < xss.length := by omega
  rw [List.getElem?_eq_getElem hu, bs, if_pos (show _ < sizeLine from by have := hc _ (List.getElem_mem hu); show _ < 16777216; omega)]
  refine Ok.pure ⟨by rw [List.length_set]; exact hl, fun xs hx => ?_⟩
  rcases List.mem_or_eq_of_mem_set hx with hx | rfl
  · have := hc xs hx
    omega
  · have := hc _ (List.getElem_mem hu)
    simp
    omega
theorem house_eq {n q : Nat} {rk : Int → Nat} {P : List (Int × Int)} (hn : 1 ≤ n ∧ n ≤ 16) (hq : 2 ≤ q ∧ q ≤ 10) (h : GoodW n rk P) (hP : P.length ≤ 1000) : Ok (m_House___init__ n q P) fun r => HouseOk n q P (toHouse r) := by
  have hd : ∀ u v, Dn P u v → 0 ≤ u ∧ u < (n : Int) := fun u v d => by have := h.dn (fun _ m => m) d; omega
  unfold m_House___init__
  simp only [bs, is_integer_eq, orM, andM]
  have c1 : decide ((1 : Int) ≤ (n : Int)) = true := decide_eq_true (by omega)
  have c2 : decide ((n : Int) ≤ 16) = true := decide_eq_true (by omega)
  have c3 : decide ((2 : Int) ≤ (q : Int)) = true := decide_eq_true (by omega)
  have c4 : decide ((q : Int) ≤ 10) = true := decide_eq_true (by omega)
  simp only [c1, c2, c3, c4, bs, Bool.not_true, Bool.false_eq_true, if_false, if_true]
  refine Ok.bind (join_wires_eq (by omega) h) fun B hB => ?_
  refine Ok.bind (turn_round_eq (by omega) hB hd) fun A hA => ?_
  refine Ok.bindE (masks_lists (by omega) hB (f := belowL n P) fun u _ => ⟨fun v => dnB P u v, rfl, fun v => dnB_iff⟩) ?_
  refine Ok.bindE (masks_lists (by omega) hA (f := aboveL n P) fun u _ => ⟨fun v => dnB P v u, rfl, fun v => dnB_iff⟩) ?_
  have hup : ∀ x y, y ∈ aboveL n P x → (0 ≤ y ∧ y < (n : Int)) ∧ rk y < rk x := fun x y hy => by
    have := h.dn (fun _ m => m) ((mem_aboveL h).mp hy)
    omega
  refine Ok.bindE (order_list_eq (by omega) (up := aboveL n P) (rk := rk) (hA.congr (fun u v _ _ => (mem_aboveL h).symm) fun u v q => by have := (hup u v q).1; exact this) hup) ?_
  rw [x_range_nat (by omega), bs]
  refine Ok.bindE (x_comp_map (fun _ => ([] : List Int)) (by rw [length_rangeL]; omega) fun _ _ => rfl) ?_
  refine Ok.fold (fun p b => b.length = n ∧ ∀ xs ∈ b, xs.length ≤ p.length) ?_ ?_ ?_
  · refine ⟨by simp [length_rangeL], fun xs hx => ?_⟩
    obtain ⟨_, _, rfl⟩ := List.mem_map.mp hx
    simp
  · rintro p ⟨u, v⟩ r b e ⟨h1, h2⟩
    have hperm : (sortP P).Perm P := List.mergeSort_perm P lexP
    have hm : (u, v) ∈ P := hperm.mem_iff.mp (by rw [e]; simp)
    have hl : p.length < 1000 := by
      have := hperm.length_eq
      rw [e] at this
      simp at this
      omega
    obtain ⟨d1, d2, _⟩ := h.dom u v hm
    refine Ok.bind (app2_ok h1 d1 d2 h2 (by omega)) fun r hr => Ok.pure ⟨hr.1, fun xs hx => ?_⟩
    have := hr.2 xs hx
    simp
    omega
  · intro b hb
    exact Ok.pure ⟨hB, hA, rfl, rfl, rfl, rfl, rfl, rfl⟩
end HF

set_option Elab.async false
set_option linter.all false
set_option maxRecDepth 100000
set_option maxHeartbeats 1000000
/-! MathF: the law's own world. -/
namespace HF
open PySem PySem.Spec L2
open PyProof.Rows hiding St
theorem dn_head {P : List (Int × Int)} {u y : Int} : Dn P u y ↔ ∃ l, (u, l) ∈ P ∧ (y = l ∨ Dn P l y) := by
  constructor
  · intro d
    induction d with
    | single e => exact ⟨_, e, .inl rfl⟩
    | @tail b c _ e ih =>
      obtain ⟨l, h1, h2⟩ := ih
      refine ⟨l, h1, .inr ?_⟩
      rcases h2 with rfl | h2
      · exact .single e
      · exact .tail h2 e
  · rintro ⟨l, h1, rfl | h2⟩
    · exact .single h1
    · exact (Relation.TransGen.single h1 : Dn P u l).trans h2
/-- the order of a line -/
theorem map_range_ix {n : Nat} {f : Int → List Int} {x : Int} (h0 : 0 ≤ x) (h1 : x < n) : x_ix ((rangeL 0 n).map f) x = some (f x) := by
  refine x_ix_get h0 ?_
  rw [List.getElem?_map]
  unfold rangeL
  rw [List.getElem?_map, List.getElem?_range (by omega)]
  simp
  congr 1
  omega
abbrev rkL (line : List Int) (x : Int) : Nat := line.idxOf x
end HF

set_option Elab.async false
set_option linter.all false
set_option maxRecDepth 100000
set_option maxHeartbeats 1000000
/-! MathG: what is drawn. -/
namespace HF
open PySem PySem.Spec L2
open PyProof.Rows hiding St
theorem Ok.foldA {β γ : Type} {a : Int} {f : β → Int → Option β} {k : β → Option γ} {b : β} {n : Nat} {Q : γ → Prop} (P : Nat → β → Prop) (h0 : P 0 b) (st : ∀ k b, k < n → P k b → Ok (f b (a + (k : Int))) (P (k + 1))) (m : ∀ b, P n b → Ok (k b) Q) : Ok ((foldO f b (rangeL a n)).bind k) Q := by
  refine Ok.fold (fun p b => P p.length b) h0 (fun p x q b e hp => ?_) fun b hb => m b (by rw [length_rangeL] at hb; exact hb)
  have h : (rangeL a n)[p.length]? = some x := by rw [e]; simp
  obtain ⟨h1, h2⟩ := rangeL_get h
  rw [h2]
  exact (st p.length b h1 hp).mono fun b hb => by simpa using hb
theorem x_mulS_r {i c : Int} (h : -(2 ^ 64) < c ∧ c < 2 ^ 64) : x_mulS i c = some (i * c) := by
  unfold x_mulS
  rw [if_pos (.inr h)]
theorem x_mulS_l {i c : Int} (h : -(2 ^ 64) < c ∧ c < 2 ^ 64) : x_mulS c i = some (c * i) := by
  unfold x_mulS
  rw [if_pos (.inl h)]
theorem x_mod_pos {i j : Int} (h : 0 < j) : x_mod i j = some (i % j) := by
  unfold x_mod
  rw [if_pos h]
theorem x_div_pos {i j : Int} (h : 0 < j) (h2 : j < 1073741824) : x_div i j = some (i / j) := by
  unfold x_div
  rw [if_pos ⟨h, h2⟩]
theorem ml1 (i : Int) : x_mulS i 48271 = some (i * 48271) := x_mulS_r (by decide)
theorem ml2 (i : Int) : x_mulS i 7919 = some (i * 7919) := x_mulS_r (by decide)
theorem ml3 (i : Int) : x_mulS i 69621 = some (i * 69621) := x_mulS_r (by decide)
theorem ml4 (i : Int) : x_mulS i 40692 = some (i * 40692) := x_mulS_r (by decide)
theorem md1 (i : Int) : x_mod i 2147483647 = some (i % 2147483647) := x_mod_pos (by decide)
theorem md2 (i : Int) : x_mod i 2147483399 = some (i % 2147483399) := x_mod_pos (by decide)
theorem dv1 (i : Int) : x_div i 31 = some (i / 31) := x_div_pos (by decide) (by decide)
theorem pw1 : x_pow 10 18 = some (10 ^ 18) := by decide
theorem x_popAt_eq {α : Type} {xs : List α} {k : Nat} (h : k < xs.length) (h2 : xs.length ≤ 1000) : x_popAt xs (k : Int) = some (xs[k], xs.eraseIdx k) := by
  unfold x_popAt seqIndex?
  rw [if_pos ⟨by omega, by omega⟩]
  have e1 : ¬ ((k : Int) < 0) := by omega
  simp only [e1, if_false]
  have e2 : (decide (0 ≤ (k : Int)) && decide ((k : Int) < (xs.length : Int))) = true := by simp; omega
  simp only [e2, if_true, bs, Int.toNat_natCast]
  rw [List.getElem?_eq_getElem h, bs]
end HF

set_option Elab.async false
set_option linter.all false
set_option maxRecDepth 100000
set_option maxHeartbeats 1000000
/-! MathH: wires, hues, counts, worlds that are drawn. -/
namespace HF
open PySem PySem.Spec L2
open PyProof.Rows hiding St
theorem x_range_a {a b : Int} (h0 : -1000000 ≤ a) (h1 : a ≤ 1000000) (h2 : -1000000 ≤ b) (h3 : b ≤ 1000000) : x_range a b = some (rangeL a (b - a).toNat) := by
  unfold x_range
  rw [if_pos ⟨by omega, by omega, by omega, by omega⟩]
/-- wires from earlier to later in the line -/
def Fw (line : List Int) (P : List (Int × Int)) (low h : Nat) : Prop := ∀ u v, (u, v) ∈ P → ∃ i j : Nat, i < j ∧ line[i]? = some u ∧ line[j]? = some v ∧ (j < low ∨ (j = low ∧ i < h))
theorem fw_good {n : Nat} {line : List Int} {P : List (Int × Int)} {low h : Nat} (hl : line.Perm (rangeL 0 n)) (nd : P.Nodup) (f : Fw line P low h) : GoodW n (rkL line) P := by
  have hnd : line.Nodup := hl.nodup_iff.mpr nodup_rangeL
  refine ⟨nd, fun u v m => ?_, fun u v m => ?_⟩
  · obtain ⟨i, j, _, e1, e2, _⟩ := f u v m
    have m1 := mem_rangeL.mp (hl.mem_iff.mp (List.mem_of_getElem? e1))
    have m2 := mem_rangeL.mp (hl.mem_iff.mp (List.mem_of_getElem? e2))
    omega
  · obtain ⟨i, j, hij, e1, e2, _⟩ := f u v m
    obtain ⟨b1, q1⟩ := List.getElem?_eq_some_iff.mp e1
    obtain ⟨b2, q2⟩ := List.getElem?_eq_some_iff.mp e2
    have r1 : rkL line u = i := by rw [← q1]; exact hnd.idxOf_getElem _ b1
    have r2 : rkL line v = j := by rw [← q2]; exact hnd.idxOf_getElem _ b2
    omega
theorem wide_of {i : Int} {k : Nat} (h : i.natAbs ≤ 2 ^ k) (hk : k < 4000) : wide i := Nat.lt_of_le_of_lt h (Nat.pow_lt_pow_right (by decide) hk)
theorem x_mul_wide {i j : Int} {a b : Nat} (h1 : i.natAbs ≤ 2 ^ a) (h2 : j.natAbs ≤ 2 ^ b) (ha : a < 4000) (hb : b < 4000) : x_mul i j = some (i * j) := by
  unfold x_mul
  rw [if_pos ⟨wide_of h1 ha, wide_of h2 hb⟩]
theorem pow_abs {h : Int} (hh : h.natAbs ≤ 2 ^ 10) : ∀ k : Nat, (h ^ k).natAbs ≤ 2 ^ (10 * k)
  | 0 => by simp
  | k + 1 => by
    rw [Int.pow_succ, Int.natAbs_mul, Nat.mul_succ, Nat.pow_add]
    exact Nat.mul_le_mul (pow_abs hh k) hh
end HF

set_option Elab.async false
set_option linter.all false
set_option maxRecDepth 100000
set_option maxHeartbeats 1000000
/-! MathK0: states. -/
namespace HF
open PySem PySem.Spec L2
open PyProof.Rows hiding St
/-- a state -/
structure StOk (n q : Nat) (s : List Int) : Prop where
  len : s.length = n
  hue : ∀ x ∈ s, 0 ≤ x ∧ x < (q : Int)
section
variable {n q : Nat} {P : List (Int × Int)} {h : HouseD} {s : List Int}
theorem is_state_ok (hn : n ≤ 1000) (hh : HouseOk n q P h) (hs : StOk n q s) : m_is_state h s = some true := by
  have hz : x_comp (fun _ => some true) (fun y : Int => andM true (andM (decide (0 ≤ y)) (some (decide (y < h.hues))))) s = some (s.map fun y => decide (0 ≤ y) && decide (y < h.hues)) :=
    x_comp_map _ (by rw [hs.len]; omega) fun y _ => by rw [andM_some, andM_some]; rfl
  unfold m_is_state
  simp only [bs, is_integer_eq, hz]
  rw [hh.count, hs.len]
  have e : orM (!true) (some (!decide ((n : Int) = (n : Int)))) = some false := by simp [orM]
  rw [e, bs, if_neg Bool.false_ne_true]
  congr 1
  rw [List.all_eq_true]
  intro b hb
  obtain ⟨x, hx, rfl⟩ := List.mem_map.mp hb
  have := hs.hue x hx
  rw [hh.hues]
  simp
  omega
theorem need_ok (hn : n ≤ 1000) (hh : HouseOk n q P h) (hs : StOk n q s) : m_need_state h s = some () := by
  unfold m_need_state
  simp only [bs]
  rw [is_state_ok hn hh hs]
  simp only [bs]
  rfl
theorem st_ix {s : List Int} (hs : StOk n q s) {l : Int} (h0 : 0 ≤ l) (h1 : l < n) : x_ix s l = some (s.getD l.toNat 0) := by
  refine x_ix_get h0 ?_
  have := hs.len
  rw [List.getD_eq_getElem?_getD, List.getElem?_eq_getElem (by omega), Option.getD_some]
theorem getD_ok {s : List Int} (hs : StOk n q s) {l : Int} (h0 : 0 ≤ l) (h1 : l < n) : 0 ≤ s.getD l.toNat 0 ∧ s.getD l.toNat 0 < (q : Int) := by
  have := hs.len
  rw [List.getD_eq_getElem?_getD, List.getElem?_eq_getElem (by omega), Option.getD_some]
  exact hs.hue _ (List.getElem_mem _)
theorem getD_nn {s : List Int} (hs : StOk n q s) (l : Int) : 0 ≤ s.getD l.toNat 0 := by
  rw [List.getD_eq_getElem?_getD]
  cases e : s[l.toNat]? with
  | none => simp
  | some v => exact (hs.hue v (List.mem_of_getElem? e)).1
theorem getD_bound {b : Nat} (hs : ∀ x ∈ s, x.natAbs ≤ b) (x : Int) : (s.getD x.toNat 0).natAbs ≤ b := by
  rw [List.getD_eq_getElem?_getD]
  cases e : s[x.toNat]? with
  | none => simp
  | some v => exact hs v (List.mem_of_getElem? e)
end
end HF

set_option Elab.async false
set_option linter.all false
set_option maxRecDepth 100000
set_option maxHeartbeats 1000000
/-! MathK1: the order list. -/
namespace HF
open PySem PySem.Spec L2
open PyProof.Rows hiding St
section
variable {n : Nat} {P : List (Int × Int)}
theorem gr_perm {n : Nat} {up : Int → List Int} {rk : Int → Nat} (hup : ∀ x y, y ∈ up x → (0 ≤ y ∧ y < n) ∧ rk y < rk x) : (gr n up n).Perm (rangeL 0 n) := by
  refine (List.perm_ext_iff_of_nodup (gr_nodup n) nodup_rangeL).mpr fun x => ⟨fun hx => mem_rangeL.mpr (gr_mem n x hx), fun hx => Classical.byContradiction fun hn => ?_⟩
  have := nodup_len (l := x :: gr n up n) (m := rangeL 0 n) (List.nodup_cons.mpr ⟨hn, gr_nodup n⟩) fun y hy => by
    rcases List.mem_cons.mp hy with rfl | hy
    · exact hx
    · exact mem_rangeL.mpr (gr_mem n y hy)
  rw [List.length_cons, gr_len hup n (Nat.le_refl _), length_rangeL] at this
  omega
theorem up_ok {rk : Int → Nat} (hP : GoodW n rk P) : ∀ x y, y ∈ aboveL n P x → (0 ≤ y ∧ y < (n : Int)) ∧ rk y < rk x := fun x y hy => by
  have := hP.dn (fun _ m => m) ((mem_aboveL hP).mp hy)
  omega
end
/-- an order list: nothing later lies above, and it is transitive -/
structure Lin (lt : Int → Int → Bool) (L : List Int) : Prop where
  later : L.Pairwise fun x y => lt y x = false
  irr : ∀ x, lt x x = false
  tr : ∀ x y z, lt x y = true → lt y z = true → lt x z = true
theorem Lin.tail {lt : Int → Int → Bool} {x : Int} {L : List Int} (h : Lin lt (x :: L)) : Lin lt L := ⟨(List.pairwise_cons.mp h.later).2, h.irr, h.tr⟩
section
variable {n q : Nat} {P : List (Int × Int)} {rk : Int → Nat}
theorem ord_lin (hP : GoodW n rk P) : Lin (dnB P) (gr n (aboveL n P) n) := by
  have hup := up_ok hP
  refine ⟨?_, fun x => ?_, fun x y z h1 h2 => dnB_iff.mpr ((dnB_iff.mp h1).trans (dnB_iff.mp h2))⟩
  · have key : ∀ k, k ≤ n → (gr n (aboveL n P) k).Pairwise (fun x y => dnB P y x = false) ∧ ∀ x ∈ gr n (aboveL n P) k, ∀ y, Dn P y x → y ∈ gr n (aboveL n P) k := fun k => by
      induction k with
      | zero => intro _; exact ⟨List.Pairwise.nil, fun x hx => by cases hx⟩
      | succ k ih =>
        intro hk
        obtain ⟨h1, h2⟩ := ih (by omega)
        obtain ⟨x, r, e⟩ := gr_next hup (ls := gr n (aboveL n P) k) (by rw [gr_len hup k (by omega)]; omega)
        have hxm : x ∈ (rangeL 0 n).filter fun x => !decide (x ∈ gr n (aboveL n P) k) && (aboveL n P x).all fun y => decide (y ∈ gr n (aboveL n P) k) := by rw [e]; exact List.mem_cons_self ..
        obtain ⟨_, hb⟩ := List.mem_filter.mp hxm
        rw [Bool.and_eq_true, List.all_eq_true] at hb
        have hnx : x ∉ gr n (aboveL n P) k := by simpa using hb.1
        have hab : ∀ y, Dn P y x → y ∈ gr n (aboveL n P) k := fun y hy => of_decide_eq_true (hb.2 y ((mem_aboveL hP).mpr hy))
        have eg : gr n (aboveL n P) (k + 1) = gr n (aboveL n P) k ++ [x] := by
          show gr n (aboveL n P) k ++ _ = _
          rw [e]
          rfl
        rw [eg]
        refine ⟨List.pairwise_append.mpr ⟨h1, List.pairwise_singleton _ _, fun a ha b hb => ?_⟩, fun a ha y hy => ?_⟩
        · have : b = x := by simpa using hb
          subst this
          cases hd : dnB P b a with
          | false => rfl
          | true => exact absurd (h2 a ha b (dnB_iff.mp hd)) hnx
        · rcases List.mem_append.mp ha with ha | ha
          · exact List.mem_append_left _ (h2 a ha y hy)
          · have : a = x := by simpa using ha
            subst this
            exact List.mem_append_left _ (hab y hy)
    exact (key n (Nat.le_refl _)).1
  · cases hd : dnB P x x with
    | false => rfl
    | true => have := (hP.dn (fun _ m => m) (dnB_iff.mp hd)).1; omega
theorem gr_length (hP : GoodW n rk P) : (gr n (aboveL n P) n).length = n := gr_len (up_ok hP) n (Nat.le_refl _)
end
end HF

set_option Elab.async false
set_option linter.all false
set_option maxRecDepth 100000
set_option maxHeartbeats 1000000
/-! MathS: moves, greatest counts, worths; plain. -/
namespace HF
open PySem PySem.Spec L2
open PyProof.Rows hiding St
abbrev ht (s : List Int) (l : Int) : Int := s.getD l.toNat 0
/-! ### sums -/
theorem ss_filter {α : Type} (p : α → Bool) (g : α → Int) (xs : List α) : ((xs.filter p).map g).sum = (xs.map fun x => if p x = true then g x else 0).sum := by
  induction xs with
  | nil => rfl
  | cons x xs ih =>
    rw [List.filter_cons, List.map_cons, List.sum_cons]
    cases h : p x with
    | true => rw [if_pos rfl, if_pos rfl, List.map_cons, List.sum_cons, ih]
    | false => rw [if_neg Bool.false_ne_true, if_neg Bool.false_ne_true, ih]; omega
theorem ss_mul {α : Type} (c : Int) (g : α → Int) (xs : List α) : (xs.map fun x => c * g x).sum = c * (xs.map g).sum := by
  induction xs with
  | nil => simp
  | cons x xs ih => rw [List.map_cons, List.sum_cons, ih, List.map_cons, List.sum_cons]; grind
theorem ss_add {α : Type} (f g : α → Int) (xs : List α) : (xs.map fun x => f x + g x).sum = (xs.map f).sum + (xs.map g).sum := by
  induction xs with
  | nil => simp
  | cons x xs ih => rw [List.map_cons, List.sum_cons, ih, List.map_cons, List.sum_cons, List.map_cons, List.sum_cons]; omega
theorem ss_zero {α : Type} {g : α → Int} {xs : List α} (h : ∀ x ∈ xs, g x = 0) : (xs.map g).sum = 0 := by
  induction xs with
  | nil => rfl
  | cons x xs ih => rw [List.map_cons, List.sum_cons, h x (List.mem_cons_self ..), ih fun y m => h y (List.mem_cons_of_mem _ m)]; rfl
theorem ss_nn {α : Type} {g : α → Int} {xs : List α} (h : ∀ x ∈ xs, 0 ≤ g x) : 0 ≤ (xs.map g).sum := by
  induction xs with
  | nil => exact Int.le_refl 0
  | cons x xs ih =>
    rw [List.map_cons, List.sum_cons]
    have h1 := h x (List.mem_cons_self ..)
    have h2 := ih fun y m => h y (List.mem_cons_of_mem _ m)
    omega
theorem ss_ge {α : Type} {g : α → Int} {xs : List α} (h : ∀ x ∈ xs, 0 ≤ g x) {a : α} (ha : a ∈ xs) : g a ≤ (xs.map g).sum := by
  induction xs with
  | nil => cases ha
  | cons x xs ih =>
    rw [List.map_cons, List.sum_cons]
    have h1 := h x (List.mem_cons_self ..)
    have h2 : ∀ y ∈ xs, 0 ≤ g y := fun y m => h y (List.mem_cons_of_mem _ m)
    rcases List.mem_cons.mp ha with rfl | ha
    · have := ss_nn h2
      omega
    · have := ih h2 ha
      omega
theorem ss_one {a : Int} {xs : List Int} (nd : xs.Nodup) : (xs.map fun x => if x = a then (1 : Int) else 0).sum = if a ∈ xs then 1 else 0 := by
  induction xs with
  | nil => simp
  | cons x xs ih =>
    obtain ⟨h1, h2⟩ := List.nodup_cons.mp nd
    rw [List.map_cons, List.sum_cons, ih h2]
    by_cases e : x = a
    · subst e
      simp [h1]
    · have e' : ¬ a = x := fun q => e q.symm
      simp [e, e']
theorem ss_sub1 {a : Int} {g : Int → Int} {xs : List Int} (nd : xs.Nodup) : (xs.map fun x => g x - if x = a then 1 else 0).sum = (xs.map g).sum - if a ∈ xs then 1 else 0 := by
  have h := ss_add (fun x => g x - if x = a then (1 : Int) else 0) (fun x => if x = a then (1 : Int) else 0) xs
  rw [ss_one nd] at h
  have e : (xs.map fun x => (g x - if x = a then (1 : Int) else 0) + if x = a then (1 : Int) else 0) = xs.map g := List.map_congr_left fun x _ => by omega
  rw [e] at h
  omega
theorem min_of (f : Int → Nat) (p : Int → Prop) : ∀ n : Nat, (∃ l : Int, (0 ≤ l ∧ l < n) ∧ p l) → ∃ l : Int, ((0 ≤ l ∧ l < n) ∧ p l) ∧ ∀ m : Int, 0 ≤ m → m < n → p m → f l ≤ f m
  | 0, ⟨l, h, _⟩ => by omega
  | n + 1, ⟨l, h, hp⟩ => by
    by_cases hex : ∃ l : Int, (0 ≤ l ∧ l < n) ∧ p l
    · obtain ⟨a, ha, hm⟩ := min_of f p n hex
      by_cases hn : p (n : Int) ∧ f (n : Int) < f a
      · refine ⟨(n : Int), ⟨by omega, hn.1⟩, fun m m0 m1 pm => ?_⟩
        by_cases e : m = (n : Int)
        · rw [e]; omega
        · have := hm m m0 (by omega) pm
          omega
      · refine ⟨a, ⟨by omega, ha.2⟩, fun m m0 m1 pm => ?_⟩
        by_cases e : m = (n : Int)
        · subst e
          have : ¬ f (n : Int) < f a := fun q => hn ⟨pm, q⟩
          omega
        · exact hm m m0 (by omega) pm
    · have e : l = (n : Int) := Classical.byContradiction fun ne => hex ⟨l, by omega, hp⟩
      refine ⟨l, ⟨h, hp⟩, fun m m0 m1 pm => ?_⟩
      have : m = (n : Int) := Classical.byContradiction fun ne => hex ⟨m, by omega, pm⟩
      rw [e, this]
      exact Nat.le_refl _
theorem max_of (f : Int → Nat) (p : Int → Prop) : ∀ n : Nat, (∃ l : Int, (0 ≤ l ∧ l < n) ∧ p l) → ∃ l : Int, ((0 ≤ l ∧ l < n) ∧ p l) ∧ ∀ m : Int, 0 ≤ m → m < n → p m → f m ≤ f l
  | 0, ⟨l, h, _⟩ => by omega
  | n + 1, ⟨l, h, hp⟩ => by
    by_cases hex : ∃ l : Int, (0 ≤ l ∧ l < n) ∧ p l
    · obtain ⟨a, ha, hm⟩ := max_of f p n hex
      by_cases hn : p (n : Int) ∧ f a < f (n : Int)
      · refine ⟨(n : Int), ⟨by omega, hn.1⟩, fun m m0 m1 pm => ?_⟩
        by_cases e : m = (n : Int)
        · rw [e]; omega
        · have := hm m m0 (by omega) pm
          omega
      · refine ⟨a, ⟨by omega, ha.2⟩, fun m m0 m1 pm => ?_⟩
        by_cases e : m = (n : Int)
        · subst e
          have : ¬ f a < f (n : Int) := fun q => hn ⟨pm, q⟩
          omega
        · exact hm m m0 (by omega) pm
    · have e : l = (n : Int) := Classical.byContradiction fun ne => hex ⟨l, by omega, hp⟩
      refine ⟨l, ⟨h, hp⟩, fun m m0 m1 pm => ?_⟩
      have : m = (n : Int) := Classical.byContradiction fun ne => hex ⟨m, by omega, pm⟩
      rw [e, this]
      exact Nat.le_refl _
section
variable {n q : Nat} {P : List (Int × Int)} {rk : Int → Nat}
theorem ht_map {f : Int → Int} {l : Int} (h0 : 0 ≤ l) (h1 : l < n) : ht ((rangeL 0 n).map f) l = f l := by
  unfold ht rangeL
  rw [List.getD_eq_getElem?_getD, List.getElem?_map, List.getElem?_map, List.getElem?_range (by omega)]
  simp
  congr 1
  omega
theorem st_ext {s t : List Int} (hs : s.length = n) (hr : t.length = n) (h : ∀ l : Int, 0 ≤ l → l < n → ht s l = ht t l) : s = t := by
  refine List.ext_getElem (by rw [hs, hr]) fun i h1 h2 => ?_
  have := h (i : Int) (by omega) (by omega)
  rw [ht, ht, Int.toNat_natCast, List.getD_eq_getElem?_getD, List.getD_eq_getElem?_getD, List.getElem?_eq_getElem h1, List.getElem?_eq_getElem h2] at this
  exact this
theorem ht_eq_map {s : List Int} (hs : s.length = n) : (rangeL 0 n).map (ht s) = s := st_ext (by rw [List.length_map, length_rangeL]) hs fun l h0 h1 => ht_map h0 h1
theorem dnB_irr (hP : GoodW n rk P) (l : Int) : dnB P l l = false := by
  cases hd : dnB P l l with
  | false => rfl
  | true => have := (hP.dn (fun _ m => m) (dnB_iff.mp hd)).1; omega
theorem above_nd (l : Int) : (aboveL n P l).Nodup := nodup_rangeL.filter _
theorem below_nd (l : Int) : (belowL n P l).Nodup := nodup_rangeL.filter _
def td (q : Nat) (v : Int) : Int := if 0 < v then v - 1 else (q : Int) - 1
/-- the state after a move -/
noncomputable def mv (n q : Nat) (P : List (Int × Int)) (s : List Int) (l : Int) : List Int := (rangeL 0 n).map fun x => if x = l then ht s x - 1 else if dnB P l x = true then td q (ht s x) else ht s x
theorem ht_mv {s : List Int} {l x : Int} (h0 : 0 ≤ x) (h1 : x < n) : ht (mv n q P s l) x = if x = l then ht s x - 1 else if dnB P l x = true then td q (ht s x) else ht s x := ht_map h0 h1
theorem mv_len {s : List Int} {l : Int} : (mv n q P s l).length = n := by simp [mv, length_rangeL]
theorem mv_ok {s : List Int} {l : Int} (hs : StOk n q s) (hl : 0 < ht s l) (hq : 1 ≤ q) : StOk n q (mv n q P s l) := by
  refine ⟨mv_len, fun v hv => ?_⟩
  obtain ⟨x, hx, rfl⟩ := List.mem_map.mp hv
  obtain ⟨h0, h1⟩ := mem_rangeL.mp hx
  have b := getD_ok hs h0 h1
  by_cases e : x = l
  · subst e
    rw [if_pos rfl]
    show 0 ≤ ht s x - 1 ∧ ht s x - 1 < _
    have : ht s x < (q : Int) := b.2
    omega
  · rw [if_neg e]
    split
    · unfold td
      split
      · have : ht s x < (q : Int) := b.2
        omega
      · omega
    · exact b
/-- a careful move may be made -/
noncomputable def cfB (n : Nat) (P : List (Int × Int)) (s : List Int) (l : Int) : Bool := decide (0 < ht s l) && (belowL n P l).all fun m => !decide (0 < ht s m)
theorem cfB_iff (hP : GoodW n rk P) {s : List Int} (hs : StOk n q s) {l : Int} : cfB n P s l = true ↔ 0 < ht s l ∧ ∀ m, Dn P l m → ht s m = 0 := by
  unfold cfB
  rw [Bool.and_eq_true, decide_eq_true_eq, List.all_eq_true]
  constructor
  · rintro ⟨h1, h2⟩
    refine ⟨h1, fun m d => ?_⟩
    have := h2 m ((mem_belowL hP).mpr d)
    have nn : 0 ≤ ht s m := getD_nn hs m
    simp only [Bool.not_eq_true', decide_eq_false_iff_not] at this
    omega
  · rintro ⟨h1, h2⟩
    refine ⟨h1, fun m hm => ?_⟩
    rw [h2 m ((mem_belowL hP).mp hm)]
    rfl
/-- the greatest counts -/
def IsG (n q : Nat) (P : List (Int × Int)) (s t : List Int) (g : Int → Int) : Prop := ∀ l : Int, 0 ≤ l → l < n → g l = ht s l - ht t l + ((q : Int) - 1) * ((aboveL n P l).map g).sum
theorem isG_uniq (hP : GoodW n rk P) {s t : List Int} {g g' : Int → Int} (h : IsG n q P s t g) (h' : IsG n q P s t g') : ∀ l : Int, 0 ≤ l → l < n → g l = g' l := by
  have key : ∀ (k : Nat) (l : Int), rk l < k → 0 ≤ l → l < n → g l = g' l := fun k => by
    induction k with
    | zero => intro l h; omega
    | succ k ih =>
      intro l hk h0 h1
      rw [h l h0 h1, h' l h0 h1]
      congr 3
      refine List.map_congr_left fun u hu => ?_
      have := hP.dn (fun _ m => m) ((mem_aboveL hP).mp hu)
      exact ih u (by omega) this.2.1 this.2.2.1
  exact fun l => key (rk l + 1) l (by omega)
theorem isG_move (hP : GoodW n rk P) {s t : List Int} {g : Int → Int} (hs : StOk n q s) (h : IsG n q P s t g) {l : Int} (hc : cfB n P s l = true) : IsG n q P (mv n q P s l) t (fun x => g x - if x = l then 1 else 0) := fun x h0 h1 => by
  obtain ⟨hl, hd⟩ := (cfB_iff hP hs).mp hc
  show g x - _ = _
  rw [ht_mv h0 h1, ss_sub1 (above_nd x), h x h0 h1]
  by_cases e : x = l
  · subst e
    have : x ∉ aboveL n P x := fun m => by
      have := (mem_aboveL hP).mp m
      rw [← dnB_iff, dnB_irr hP] at this
      cases this
    rw [if_pos rfl, if_pos rfl, if_neg this]
    grind
  · rw [if_neg e, if_neg e]
    by_cases d : dnB P l x = true
    · have m : l ∈ aboveL n P x := (mem_aboveL hP).mpr (dnB_iff.mp d)
      have z : ht s x = 0 := hd x (dnB_iff.mp d)
      rw [if_pos d, if_pos m, z]
      unfold td
      rw [if_neg (by decide)]
      grind
    · have m : l ∉ aboveL n P x := fun m => d (dnB_iff.mpr ((mem_aboveL hP).mp m))
      rw [if_neg d, if_neg m]
      grind
/-- the same, backwards -/
theorem isG_back (hP : GoodW n rk P) {s t : List Int} {g : Int → Int} (hs : StOk n q s) {l : Int} (hc : cfB n P s l = true) (h : IsG n q P (mv n q P s l) t g) : IsG n q P s t (fun x => g x + if x = l then 1 else 0) := fun x h0 h1 => by
  obtain ⟨hl, hd⟩ := (cfB_iff hP hs).mp hc
  have e1 : ((aboveL n P x).map fun y => g y + if y = l then (1 : Int) else 0).sum = ((aboveL n P x).map g).sum + if l ∈ aboveL n P x then 1 else 0 := by
    rw [ss_add, ss_one (above_nd x)]
  have hx := h x h0 h1
  rw [ht_mv h0 h1] at hx
  show g x + _ = _
  rw [e1, hx]
  by_cases e : x = l
  · subst e
    have : x ∉ aboveL n P x := fun m => by
      have := (mem_aboveL hP).mp m
      rw [← dnB_iff, dnB_irr hP] at this
      cases this
    rw [if_pos rfl, if_pos rfl, if_neg this]
    grind
  · rw [if_neg e, if_neg e]
    by_cases d : dnB P l x = true
    · have m : l ∈ aboveL n P x := (mem_aboveL hP).mpr (dnB_iff.mp d)
      have z : ht s x = 0 := hd x (dnB_iff.mp d)
      rw [if_pos d, if_pos m, z]
      unfold td
      rw [if_neg (by decide)]
      grind
    · have m : l ∉ aboveL n P x := fun m => d (dnB_iff.mpr ((mem_aboveL hP).mp m))
      rw [if_neg d, if_neg m]
      grind
theorem isG_self {s : List Int} : IsG n q P s s (fun _ => 0) := fun l _ _ => by
  rw [ss_zero fun _ _ => rfl]
  grind
theorem isG_zero {s t : List Int} {g : Int → Int} (hP : GoodW n rk P) (h : IsG n q P s t g) (z : ∀ l : Int, 0 ≤ l → l < n → g l = 0) : ∀ l : Int, 0 ≤ l → l < n → ht s l = ht t l := fun l h0 h1 => by
  have := h l h0 h1
  rw [z l h0 h1, ss_zero fun u hu => by
    have := hP.dn (fun _ m => m) ((mem_aboveL hP).mp hu)
    exact z u this.2.1 this.2.2.1] at this
  grind
/-- while moves are left one of them may be made -/
theorem ready_ex (hP : GoodW n rk P) {s t : List Int} {g : Int → Int} (hs : StOk n q s) (hr : StOk n q t) (h : IsG n q P s t g) (nn : ∀ l : Int, 0 ≤ l → l < n → 0 ≤ g l) (ex : ∃ l : Int, (0 ≤ l ∧ l < n) ∧ 0 < g l) : ∃ l : Int, (0 ≤ l ∧ l < n) ∧ 0 < g l ∧ cfB n P s l = true := by
  have up : ∀ {l u : Int}, u ∈ aboveL n P l → rk u < rk l ∧ 0 ≤ u ∧ u < n := fun hu => by
    have := hP.dn (fun _ m => m) ((mem_aboveL hP).mp hu)
    exact ⟨this.1, this.2.1, this.2.2.1⟩
  obtain ⟨a, ⟨ha, ga⟩, amin⟩ := min_of rk (fun l => 0 < g l) n ex
  have la : 0 < ht s a := by
    have := h a ha.1 ha.2
    rw [ss_zero fun u hu => by
      obtain ⟨r, u0, u1⟩ := up hu
      have n0 := nn u u0 u1
      by_cases z : 0 < g u
      · have := amin u u0 u1 z
        omega
      · omega] at this
    have t0 : 0 ≤ ht t a := getD_nn hr a
    grind
  obtain ⟨b, ⟨hb, gb, lb⟩, bmax⟩ := max_of rk (fun l => 0 < g l ∧ 0 < ht s l) n ⟨a, ha, ga, la⟩
  refine ⟨b, hb, gb, (cfB_iff hP hs).mpr ⟨lb, fun m d => ?_⟩⟩
  have dm := hP.dn (fun _ m => m) d
  have m0 : 0 ≤ ht s m := getD_nn hs m
  refine Classical.byContradiction fun ne => ?_
  have lm : 0 < ht s m := by omega
  have gm : g m = 0 := by
    have n0 := nn m dm.2.2.2.1 dm.2.2.2.2
    by_cases z : 0 < g m
    · have := bmax m dm.2.2.2.1 dm.2.2.2.2 ⟨z, lm⟩
      omega
    · omega
  have e := h m dm.2.2.2.1 dm.2.2.2.2
  have hS : g b ≤ ((aboveL n P m).map g).sum := ss_ge (fun u hu => by
    obtain ⟨_, u0, u1⟩ := up hu
    exact nn u u0 u1) ((mem_aboveL hP).mpr d)
  have tm : ht t m < (q : Int) := (getD_ok hr dm.2.2.2.1 dm.2.2.2.2).2
  have q1 : (1 : Int) ≤ (q : Int) := by
    have : ht s m < (q : Int) := (getD_ok hs dm.2.2.2.1 dm.2.2.2.2).2
    omega
  have hm : ((q : Int) - 1) * 1 ≤ ((q : Int) - 1) * ((aboveL n P m).map g).sum := Int.mul_le_mul_of_nonneg_left (by omega) (by omega)
  rw [gm] at e
  omega
/-! ### worths -/
def IsW (n q : Nat) (P : List (Int × Int)) (w : Int → Int) : Prop := ∀ l : Int, 0 ≤ l → l < n → w l = 1 + ((q : Int) - 1) * ((belowL n P l).map w).sum
theorem isW_uniq (hP : GoodW n rk P) {w w' : Int → Int} (h : IsW n q P w) (h' : IsW n q P w') : ∀ l : Int, 0 ≤ l → l < n → w l = w' l := by
  obtain ⟨B, hB⟩ : ∃ B : Nat, ∀ l : Int, 0 ≤ l → l < n → rk l ≤ B := by
    by_cases hn : n = 0
    · exact ⟨0, fun l h0 h1 => by omega⟩
    · obtain ⟨b, _, hb⟩ := max_of rk (fun _ => True) n ⟨0, by omega, True.intro⟩
      exact ⟨rk b, fun l h0 h1 => hb l h0 h1 True.intro⟩
  have key : ∀ (k : Nat) (l : Int), B - rk l < k → 0 ≤ l → l < n → w l = w' l := fun k => by
    induction k with
    | zero => intro l h; omega
    | succ k ih =>
      intro l hk h0 h1
      rw [h l h0 h1, h' l h0 h1]
      congr 3
      refine List.map_congr_left fun u hu => ?_
      have := hP.dn (fun _ m => m) ((mem_belowL hP).mp hu)
      have := hB u this.2.2.2.1 this.2.2.2.2
      exact ih u (by omega) (by omega) (by omega)
  exact fun l h0 h1 => key (B - rk l + 1) l (by omega) h0 h1
def wo (n : Nat) (w : Int → Int) (s : List Int) : Int := ((rangeL 0 n).map fun x => ht s x * w x).sum
theorem worth_move (hP : GoodW n rk P) {w : Int → Int} (hw : IsW n q P w) {s : List Int} (hs : StOk n q s) {l : Int} (h0 : 0 ≤ l) (h1 : l < n) (hc : cfB n P s l = true) : wo n w (mv n q P s l) = wo n w s - 1 := by
  obtain ⟨hl, hd⟩ := (cfB_iff hP hs).mp hc
  have e : ((rangeL 0 n).map fun x => ht (mv n q P s l) x * w x) = (rangeL 0 n).map fun x => ht s x * w x + ((if dnB P l x = true then ((q : Int) - 1) * w x else 0) + (- w l) * (if x = l then 1 else 0)) := List.map_congr_left fun x hx => by
    obtain ⟨x0, x1⟩ := mem_rangeL.mp hx
    rw [ht_mv x0 x1]
    by_cases e : x = l
    · subst e
      rw [if_pos rfl, if_pos rfl, dnB_irr hP, if_neg Bool.false_ne_true]
      grind
    · rw [if_neg e, if_neg e]
      by_cases d : dnB P l x = true
      · have z : ht s x = 0 := hd x (dnB_iff.mp d)
        rw [if_pos d, if_pos d, z]
        unfold td
        rw [if_neg (by decide)]
        grind
      · rw [if_neg d, if_neg d]
        grind
  unfold wo
  rw [e, ss_add, ss_add, ss_mul, ss_one nodup_rangeL, if_pos (mem_rangeL.mpr ⟨h0, h1⟩), ← ss_filter (fun x => dnB P l x) (fun x => ((q : Int) - 1) * w x), ss_mul]
  have := hw l h0 h1
  show _ + (((q : Int) - 1) * ((belowL n P l).map w).sum + _) = _
  omega
/-- different lamps lead to different states -/
theorem mv_inj (hP : GoodW n rk P) {s : List Int} {l m : Int} (hl : (0 ≤ l ∧ l < n) ∧ 0 < ht s l) (hm : (0 ≤ m ∧ m < n) ∧ 0 < ht s m) (e : mv n q P s l = mv n q P s m) : l = m := by
  refine Classical.byContradiction fun ne => ?_
  have ne' : ¬ m = l := fun q => ne q.symm
  have a1 := congrArg (fun z => ht z l) e
  have a2 := congrArg (fun z => ht z m) e
  rw [ht_mv hl.1.1 hl.1.2, ht_mv hl.1.1 hl.1.2, if_pos rfl, if_neg ne] at a1
  rw [ht_mv hm.1.1 hm.1.2, ht_mv hm.1.1 hm.1.2, if_pos rfl, if_neg ne'] at a2
  by_cases d : dnB P m l = true
  · have d2 : ¬ dnB P l m = true := fun d2 => by
      have := (hP.dn (fun _ m => m) (dnB_iff.mp d)).1
      have := (hP.dn (fun _ m => m) (dnB_iff.mp d2)).1
      omega
    rw [if_neg d2] at a2
    omega
  · rw [if_neg d] at a1
    omega
end
end HF

set_option Elab.async false
set_option linter.all false
set_option maxRecDepth 100000
set_option maxHeartbeats 1000000
/-! MathT: the program's moves. -/
namespace HF
open PySem PySem.Spec L2
open PyProof.Rows hiding St
theorem set_map {n : Nat} {f : Int → Int} {a y : Int} (h0 : 0 ≤ a) (h1 : a < n) : x_set ((rangeL 0 n).map f) a y = some ((rangeL 0 n).map fun x => if x = a then y else f x) := by
  have hl : ((rangeL 0 n).map f).length = n := by rw [List.length_map, length_rangeL]
  rw [x_set_nat h0 (by rw [hl]; exact h1)]
  congr 1
  refine st_ext (n := n) (by rw [List.length_set, hl]) (by rw [List.length_map, length_rangeL]) fun l l0 l1 => ?_
  rw [ht_map l0 l1]
  unfold ht
  rw [List.getD_eq_getElem?_getD]
  by_cases e : l = a
  · subst e
    rw [List.getElem?_set_self (by omega), if_pos rfl]
    rfl
  · rw [List.getElem?_set_ne (by omega), if_neg e]
    have := ht_map (n := n) (f := f) l0 l1
    unfold ht at this
    rw [List.getD_eq_getElem?_getD] at this
    exact this
theorem set_ht {n : Nat} {c : List Int} {a y : Int} (hc : c.length = n) (h0 : 0 ≤ a) (h1 : a < n) : ∃ c', x_set c a y = some c' ∧ c'.length = n ∧ ∀ l : Int, 0 ≤ l → ht c' l = if l = a then y else ht c l := by
  refine ⟨c.set a.toNat y, x_set_nat h0 (by rw [hc]; exact h1), by rw [List.length_set]; exact hc, fun l l0 => ?_⟩
  unfold ht
  rw [List.getD_eq_getElem?_getD, List.getD_eq_getElem?_getD]
  by_cases e : l = a
  · subst e
    rw [List.getElem?_set_self (by omega), if_pos rfl]
    rfl
  · rw [List.getElem?_set_ne (by omega), if_neg e]
theorem ix_ht {n : Nat} {c : List Int} (hc : c.length = n) {l : Int} (h0 : 0 ≤ l) (h1 : l < n) : x_ix c l = some (ht c l) := by
  refine x_ix_get h0 ?_
  rw [ht, List.getD_eq_getElem?_getD, List.getElem?_eq_getElem (by omega), Option.getD_some]
section
variable {n q : Nat} {P : List (Int × Int)} {h : HouseD} {rk : Int → Nat} {s : List Int} {l : Int}
theorem mem_below (hP : GoodW n rk P) {m : Int} (hm : m ∈ belowL n P l) : (0 ≤ m ∧ m < n) ∧ Dn P l m := by
  have d := (mem_belowL hP).mp hm
  have := hP.dn (fun _ m => m) d
  exact ⟨⟨this.2.2.2.1, this.2.2.2.2⟩, d⟩
theorem mem_above (hP : GoodW n rk P) {m : Int} (hm : m ∈ aboveL n P l) : (0 ≤ m ∧ m < n) ∧ Dn P m l := by
  have d := (mem_aboveL hP).mp hm
  have := hP.dn (fun _ m => m) d
  exact ⟨⟨this.2.1, this.2.2.1⟩, d⟩
theorem below_le : (belowL n P l).length ≤ n := by
  unfold belowL
  exact Nat.le_trans (List.length_filter_le _ _) (by rw [length_rangeL]; omega)
theorem above_le : (aboveL n P l).length ≤ n := by
  unfold aboveL
  exact Nat.le_trans (List.length_filter_le _ _) (by rw [length_rangeL]; omega)
theorem below_bits (hn : n ≤ 1000) (hh : HouseOk n q P h) (h0 : 0 ≤ l) (h1 : l < n) : (((m_below_masks h).bind fun z => x_ix z l).bind fun a => m_bits a) = some (belowL n P l) := by
  obtain ⟨m, e, lm, bm⟩ := hh.belowM.ix h0 h1
  unfold m_below_masks
  simp only [bs]
  rw [e, bs, bits_eq hn lm, mask_list bm (p := fun v => dnB P l v) fun v => dnB_iff]
  rfl
theorem above_bits (hn : n ≤ 1000) (hh : HouseOk n q P h) (h0 : 0 ≤ l) (h1 : l < n) : (((m_above_masks h).bind fun z => x_ix z l).bind fun a => m_bits a) = some (aboveL n P l) := by
  obtain ⟨m, e, lm, bm⟩ := hh.aboveM.ix h0 h1
  unfold m_above_masks
  simp only [bs]
  rw [e, bs, bits_eq hn lm, mask_list bm (p := fun v => dnB P v l) fun v => dnB_iff]
  rfl
theorem lit_ok (hn : n ≤ 1000) (hP : GoodW n rk P) (hh : HouseOk n q P h) (hs : StOk n q s) (h0 : 0 ≤ l) (h1 : l < n) : m_lit_beneath h s l = some ((belowL n P l).find? fun m => decide (0 < ht s m)) := by
  unfold m_lit_beneath
  simp only [bs]
  rw [below_bits hn hh h0 h1, bs, forK_find (fun m => decide (0 < ht s m)) (fun m => some (some m)) fun m kn kb hm => ?_]
  · cases (belowL n P l).find? fun m => decide (0 < ht s m) <;> rfl
  · have := (mem_below hP hm).1
    rw [st_ix hs this.1 this.2, bs, bs]
theorem find_all {α : Type} (p : α → Bool) (xs : List α) : (xs.find? p).isNone = xs.all fun x => !p x := by
  induction xs with
  | nil => rfl
  | cons x xs ih =>
    rw [List.find?_cons, List.all_cons]
    cases p x with
    | true => rfl
    | false => simpa using ih
theorem moved_ok (hn : n ≤ 1000) (hP : GoodW n rk P) (hh : HouseOk n q P h) (hs : StOk n q s) (h0 : 0 ≤ l) (h1 : l < n) : m_moved h s l = some (mv n q P s l) := by
  refine Ok.of ?_
  unfold m_moved
  simp only [bs]
  rw [st_ix hs h0 h1, bs, bs]
  have es : s = (rangeL 0 n).map (ht s) := (ht_eq_map hs.len).symm
  have e1 : x_set s l (s.getD l.toNat 0 - 1) = some ((rangeL 0 n).map fun x => if x = l then ht s l - 1 else ht s x) := by
    conv => lhs; rw [es]
    rw [set_map h0 h1, ← es]
  rw [e1, bs, below_bits hn hh h0 h1, bs]
  refine Ok.fold (fun p r => r = (rangeL 0 n).map fun x => if x = l then ht s x - 1 else if x ∈ p then td q (ht s x) else ht s x) ?_ ?_ ?_
  · refine List.map_congr_left fun x _ => ?_
    by_cases e : x = l
    · rw [if_pos e, if_pos e, e]
    · rw [if_neg e, if_neg e, if_neg (by simp)]
  · rintro p x r b e rfl
    have hx : x ∈ belowL n P l := by rw [e]; simp
    obtain ⟨⟨x0, x1⟩, d⟩ := mem_below hP hx
    have ne : x ≠ l := fun q => by
      subst q
      have := dnB_irr hP x
      rw [dnB_iff.mpr d] at this
      cases this
    rw [st_ix hs x0 x1, bs, bs]
    have ht1 : m_turned_down (s.getD x.toNat 0) h.hues = some (td q (ht s x)) := by
      unfold m_turned_down td
      simp only [bs, hh.hues]
      by_cases c : 0 < s.getD x.toNat 0
      · rw [if_pos (decide_eq_true c), if_pos c]
      · rw [if_neg (fun q => c (of_decide_eq_true q)), if_neg c]
    rw [ht1, bs, set_map x0 x1, bs]
    refine Ok.pure (List.map_congr_left fun y _ => ?_)
    by_cases e1 : y = x
    · subst e1
      rw [if_pos rfl, if_neg ne, if_pos (by simp)]
    · rw [if_neg e1]
      have : (y ∈ p ++ [x]) ↔ y ∈ p := by simp [e1]
      simp only [this]
  · rintro b rfl
    refine Ok.pure (List.map_congr_left fun x hx => ?_)
    simp only [mem_belowL hP, ← dnB_iff]
theorem can_ok (hn : n ≤ 1000) (hP : GoodW n rk P) (hh : HouseOk n q P h) (hs : StOk n q s) (h0 : 0 ≤ l) (h1 : l < n) (c : Bool) : m_can_move h s l c = some (decide (0 < ht s l) && (!c || (belowL n P l).all fun m => !decide (0 < ht s m))) := by
  unfold m_can_move
  simp only [bs]
  rw [st_ix hs h0 h1, bs, bs, lit_ok hn hP hh hs h0 h1, bs, find_all]
  have nn := getD_nn hs l
  by_cases e : s.getD l.toNat 0 = 0
  · have : ¬ 0 < ht s l := by show ¬ 0 < s.getD l.toNat 0; omega
    rw [decide_eq_true e, if_pos rfl, decide_eq_false this]
    rfl
  · have : 0 < ht s l := by show 0 < s.getD l.toNat 0; omega
    rw [decide_eq_false e, if_neg Bool.false_ne_true, orM_some, decide_eq_true this]
    rfl
theorem allowed_ok (hn : n ≤ 1000) (hP : GoodW n rk P) (hh : HouseOk n q P h) (hs : StOk n q s) : m_allowed_lamps h s true = some ((rangeL 0 n).filter (cfB n P s)) := by
  unfold m_allowed_lamps
  simp only [bs]
  rw [need_ok hn hh hs, bs, hh.count, x_range_nat (by omega), bs]
  exact x_comp_filter (cfB n P s) (by rw [length_rangeL]; omega) fun x hx => by
    obtain ⟨x0, x1⟩ := mem_rangeL.mp hx
    rw [can_ok hn hP hh hs x0 x1]
    rfl
theorem lamp_ok (hh : HouseOk n q P h) (h0 : 0 ≤ l) (h1 : l < n) : m_need_lamp h l = some () := by
  unfold m_need_lamp m_is_lamp
  simp only [bs, is_integer_eq, andM]
  rw [hh.count, decide_eq_true h0, decide_eq_true h1]
  rfl
/-- each of its moves is careful -/
theorem cf_lit (hc : cfB n P s l = true) : 0 < ht s l := by
  unfold cfB at hc
  rw [Bool.and_eq_true, decide_eq_true_eq] at hc
  exact hc.1
end
end HF

set_option Elab.async false
set_option linter.all false
set_option maxRecDepth 100000
set_option maxHeartbeats 1000000
/-! MathU: careful runs. -/
namespace HF
open PySem PySem.Spec L2
open PyProof.Rows hiding St
theorem Ok.forK {α β γ : Type} {f : β → α → (β → Option γ) → (β → Option γ) → Option γ} {k : β → Option γ} {Q : γ → Prop} (I : Nat → β → Prop) : ∀ {xs : List α} {b : β} {i : Nat}, I i b →
    (∀ j b x kn kb, x ∈ xs → i ≤ j → j < i + xs.length → I j b → (∀ b', I (j + 1) b' → Ok (kn b') Q) → (∀ j b', I j b' → Ok (kb b') Q) → Ok (f b x kn kb) Q) → (∀ j b, I j b → Ok (k b) Q) → Ok (forK f k xs b) Q
  | [], b, i, h, _, n => n i b h
  | x :: xs, b, i, h, st, n => by
    show Ok (f b x _ k) Q
    refine st i b x _ k (List.mem_cons_self ..) (Nat.le_refl _) (by simp) h (fun b' h' => ?_) n
    exact Ok.forK (i := i + 1) I h' (fun j b y kn kb m l1 l2 => st j b y kn kb (List.mem_cons_of_mem _ m) (by omega) (by simp at l2 ⊢; omega)) n
theorem ht_set {n : Nat} {c : List Int} {a y : Int} (hc : c.length = n) (h0 : 0 ≤ a) (h1 : a < n) {l : Int} (l0 : 0 ≤ l) : ht (c.set a.toNat y) l = if l = a then y else ht c l := by
  unfold ht
  rw [List.getD_eq_getElem?_getD, List.getD_eq_getElem?_getD]
  by_cases e : l = a
  · subst e
    rw [List.getElem?_set_self (by omega), if_pos rfl]
    rfl
  · rw [List.getElem?_set_ne (by omega), if_neg e]
section
variable {n q : Nat} {P : List (Int × Int)} {h : HouseD} {rk : Int → Nat} {s t c : List Int} {l : Int}
/-- the state at the end -/
noncomputable def downs (n q : Nat) (P : List (Int × Int)) (s : List Int) : List (Int × List Int) := ((rangeL 0 n).filter (cfB n P s)).map fun l => (l, mv n q P s l)
theorem covered_by_ok (hn : n ≤ 1000) (hP : GoodW n rk P) (hh : HouseOk n q P h) (hs : StOk n q s) : m_covered_by h s = some (downs n q P s) := by
  unfold m_covered_by
  simp only [bs]
  rw [need_ok hn hh hs, bs, allowed_ok hn hP hh hs, bs]
  refine x_comp_map (fun l => (l, mv n q P s l)) (Nat.le_trans (List.length_filter_le _ _) (by rw [length_rangeL]; omega)) fun x hx => ?_
  obtain ⟨x0, x1⟩ := mem_rangeL.mp (List.mem_filter.mp hx).1
  rw [moved_ok hn hP hh hs x0 x1, bs]
theorem is_cover_ok (hn : n ≤ 1000) (hP : GoodW n rk P) (hh : HouseOk n q P h) (hs : StOk n q s) (hr : StOk n q t) : m_is_cover h s t = some (((rangeL 0 n).filter (cfB n P s)).any fun l => decide (mv n q P s l = t)) := by
  unfold m_is_cover
  simp only [bs]
  rw [need_ok hn hh hs, bs, need_ok hn hh hr, bs, allowed_ok hn hP hh hs, bs, forK_find (fun l => decide (mv n q P s l = t)) (fun _ => some true) fun l kn kb hl => ?_]
  · cases e : List.find? (fun l => decide (mv n q P s l = t)) ((rangeL 0 n).filter (cfB n P s)) with
    | none =>
      have := find_all (fun l => decide (mv n q P s l = t)) ((rangeL 0 n).filter (cfB n P s))
      rw [e] at this
      rw [show ((rangeL 0 n).filter (cfB n P s)).any (fun l => decide (mv n q P s l = t)) = false from Bool.eq_false_iff.mpr fun ha => by
        obtain ⟨x, hx, hd⟩ := List.any_eq_true.mp ha
        have := List.all_eq_true.mp this.symm x hx
        rw [hd] at this
        cases this]
    | some x =>
      have hx : decide (mv n q P s x = t) = true := List.find?_some (p := fun l => decide (mv n q P s l = t)) e
      rw [show ((rangeL 0 n).filter (cfB n P s)).any (fun l => decide (mv n q P s l = t)) = true from List.any_eq_true.mpr ⟨x, List.mem_of_find?_eq_some e, hx⟩]
  · obtain ⟨x0, x1⟩ := mem_rangeL.mp (List.mem_filter.mp hl).1
    rw [moved_ok hn hP hh hs x0 x1, bs, bs]
/-- the states from which a careful move leads to s -/
noncomputable def rsd (n : Nat) (P : List (Int × Int)) (s : List Int) (l : Int) : List Int := (rangeL 0 n).map fun x => if x = l then ht s x + 1 else if dnB P l x = true then 0 else ht s x
noncomputable def upB (n q : Nat) (P : List (Int × Int)) (s : List Int) (l : Int) : Bool := decide (ht s l < (q : Int) - 1) && (belowL n P l).all fun m => !decide (ht s m < (q : Int) - 1)
noncomputable def ups (n q : Nat) (P : List (Int × Int)) (s : List Int) : List (Int × List Int) := ((rangeL 0 n).filter (upB n q P s)).map fun l => (l, rsd n P s l)
theorem rsd_go {p : List Int} {x : Int} (x0 : 0 ≤ x) (x1 : x < n) (ne : x ≠ l) : x_set ((rangeL 0 n).map fun y => if y = l then ht s y + 1 else if y ∈ p then 0 else ht s y) x 0 = some ((rangeL 0 n).map fun y => if y = l then ht s y + 1 else if y ∈ p ++ [x] then 0 else ht s y) := by
  rw [set_map x0 x1]
  congr 1
  refine List.map_congr_left fun y _ => ?_
  by_cases e1 : y = x
  · subst e1
    rw [if_pos rfl, if_neg ne, if_pos (by simp)]
  · rw [if_neg e1]
    have : (y ∈ p ++ [x]) ↔ y ∈ p := by simp [e1]
    simp only [this]
theorem rsd_start (hs : StOk n q s) (h0 : 0 ≤ l) (h1 : l < n) : x_set s l (s.getD l.toNat 0 + 1) = some ((rangeL 0 n).map fun x => if x = l then ht s x + 1 else if x ∈ ([] : List Int) then 0 else ht s x) := by
  have es : s = (rangeL 0 n).map (ht s) := (ht_eq_map hs.len).symm
  conv => lhs; arg 1; rw [es]
  rw [set_map h0 h1]
  congr 1
  refine List.map_congr_left fun x _ => ?_
  by_cases e : x = l
  · rw [if_pos e, if_pos e, e]
  · rw [if_neg e, if_neg e, if_neg (by simp)]
theorem rsd_end (hP : GoodW n rk P) : ((rangeL 0 n).map fun y => if y = l then ht s y + 1 else if y ∈ belowL n P l then 0 else ht s y) = rsd n P s l := List.map_congr_left fun y _ => by simp only [mem_belowL hP, ← dnB_iff]
theorem forK_put {β γ : Type} {f : β → Int → (β → Option γ) → (β → Option γ) → Option γ} {k : β → Option γ} {g : β → Int → β} {ok : Int → Bool} {z : Option γ} : ∀ (xs pre : List Int) (b : β) (I : List Int → β → Prop), I pre b → (∀ p b x kn kb, I p b → x ∈ xs → f b x kn kb = if ok x = true then kn (g b x) else z) → (∀ p b x, I p b → x ∈ xs → ok x = true → I (p ++ [x]) (g b x)) →
    (xs.all ok = true ∧ ∃ b', I (pre ++ xs) b' ∧ forK f k xs b = k b') ∨ (xs.all ok = false ∧ forK f k xs b = z)
  | [], pre, b, I, h, _, _ => .inl ⟨rfl, b, by simpa using h, rfl⟩
  | x :: xs, pre, b, I, h, st, nx => by
    have e : forK f k (x :: xs) b = if ok x = true then forK f k xs (g b x) else z := st pre b x _ _ h (List.mem_cons_self ..)
    rw [e]
    cases ho : ok x with
    | false => exact .inr ⟨by rw [List.all_cons, ho]; rfl, rfl⟩
    | true =>
      rcases forK_put xs (pre ++ [x]) (g b x) I (nx pre b x h (List.mem_cons_self ..) ho) (fun p b y kn kb i m => st p b y kn kb i (List.mem_cons_of_mem _ m)) (fun p b y i m => nx p b y i (List.mem_cons_of_mem _ m)) with ⟨h1, b', h2, h3⟩ | ⟨h1, h2⟩
      · exact .inl ⟨by rw [List.all_cons, ho, h1]; rfl, b', by simpa using h2, h3⟩
      · exact .inr ⟨by rw [List.all_cons, h1]; simp, h2⟩
theorem before_ok (hn : n ≤ 1000) (hP : GoodW n rk P) (hh : HouseOk n q P h) (hs : StOk n q s) (h0 : 0 ≤ l) (h1 : l < n) : m_before h s l true = some (if upB n q P s l = true then some (rsd n P s l) else none) := by
  have hb := getD_ok hs h0 h1
  unfold m_before
  simp only [bs]
  rw [need_ok hn hh hs, bs, lamp_ok hh h0 h1, bs, st_ix hs h0 h1, bs, bs, hh.hues]
  by_cases e : s.getD l.toNat 0 = (q : Int) - 1
  · rw [decide_eq_true e, if_pos rfl]
    have : upB n q P s l = false := by
      unfold upB
      rw [decide_eq_false (show ¬ ht s l < (q : Int) - 1 from by show ¬ s.getD l.toNat 0 < _; omega)]
      rfl
    rw [this]
    rfl
  · rw [decide_eq_false e, if_neg Bool.false_ne_true, bs, bs, rsd_start hs h0 h1, bs, below_bits hn hh h0 h1, bs]
    have hlt : decide (ht s l < (q : Int) - 1) = true := decide_eq_true (by show s.getD l.toNat 0 < _; omega)
    rcases forK_put (z := some none) (k := fun a => some (some a)) (g := fun b x => b.set x.toNat 0) (ok := fun m => !decide (ht s m < (q : Int) - 1)) (belowL n P l) [] ((rangeL 0 n).map fun x => if x = l then ht s x + 1 else if x ∈ ([] : List Int) then 0 else ht s x) (fun p b => b = (rangeL 0 n).map fun x => if x = l then ht s x + 1 else if x ∈ p then 0 else ht s x) rfl (f := fun bx577 y578 k580 k581 => ((x_ix s y578).bind fun z559 => some (decide (z559 = (q : Int) - 1))).bind fun c582 => if c582 = true then (x_set bx577 y578 0).bind fun result589 => k580 result589 else if True then some none else ((x_ix s y578).bind fun z567 => some (z567 + 1)).bind fun y587 => (x_set bx577 y578 y587).bind fun result589 => k580 result589) (fun p b x kn kb i hx => by
        obtain ⟨⟨x0, x1⟩, d⟩ := mem_below hP hx
        have hbx := getD_ok hs x0 x1
        have bl : b.length = n := by rw [i, List.length_map, length_rangeL]
        rw [st_ix hs x0 x1, bs, bs]
        by_cases e : s.getD x.toNat 0 = (q : Int) - 1
        · rw [decide_eq_true e, if_pos rfl, x_set_nat x0 (by rw [bl]; exact x1), bs, decide_eq_false (show ¬ ht s x < (q : Int) - 1 from by show ¬ s.getD x.toNat 0 < _; omega)]
          rfl
        · rw [decide_eq_false e, if_neg Bool.false_ne_true, if_pos True.intro, decide_eq_true (show ht s x < (q : Int) - 1 from by show s.getD x.toNat 0 < _; omega)]
          rfl) (fun p b x i hx _ => by
        obtain ⟨⟨x0, x1⟩, d⟩ := mem_below hP hx
        have ne : x ≠ l := fun q => by
          subst q
          have := dnB_irr hP x
          rw [dnB_iff.mpr d] at this
          cases this
        have bl : b.length = n := by rw [i, List.length_map, length_rangeL]
        have e1 := rsd_go (s := s) (p := p) x0 x1 ne
        rw [← i, x_set_nat x0 (by rw [bl]; exact x1)] at e1
        exact Option.some.inj e1) with ⟨a1, b', i, e2⟩ | ⟨a1, e2⟩
    · have : upB n q P s l = true := by
        unfold upB
        rw [hlt, a1]
        rfl
      rw [this, if_pos rfl, e2]
      rw [List.nil_append] at i
      rw [i, rsd_end hP]
    · have : upB n q P s l = false := by
        unfold upB
        rw [a1]
        simp
      rw [this, if_neg Bool.false_ne_true, e2]
theorem covers_of_ok (hn : n ≤ 1000) (hP : GoodW n rk P) (hh : HouseOk n q P h) (hs : StOk n q s) : m_covers_of h s = some (ups n q P s) := by
  refine Ok.of ?_
  unfold m_covers_of
  simp only [bs]
  rw [need_ok hn hh hs, bs, hh.count, x_range_nat (by omega), bs]
  refine Ok.fold (fun p b => b = (p.filter (upB n q P s)).map (fun l => (l, rsd n P s l)) ∧ b.length ≤ p.length) ⟨rfl, by simp⟩ ?_ ?_
  · rintro p x r b e ⟨h1, h2⟩
    have hx : x ∈ rangeL 0 n := by rw [e]; simp
    have hp : p.length < 1000 := by
      have := congrArg List.length e
      rw [length_rangeL] at this
      simp at this
      omega
    obtain ⟨x0, x1⟩ := mem_rangeL.mp hx
    rw [before_ok hn hP hh hs x0 x1, bs]
    cases hu : upB n q P s x with
    | true =>
      rw [if_pos rfl, Option.isSome_some, if_pos rfl, bs, bs, x_app_eq (by omega), bs]
      refine Ok.pure ⟨?_, by simp; omega⟩
      rw [List.filter_append, List.map_append, ← h1]
      simp [hu]
    | false =>
      rw [if_neg Bool.false_ne_true, Option.isSome_none, if_neg Bool.false_ne_true]
      refine Ok.pure ⟨?_, by simp; omega⟩
      rw [List.filter_append, List.map_append, ← h1]
      simp [hu]
  · rintro b ⟨h1, _⟩
    exact Ok.pure h1
end
end HF

set_option Elab.async false
set_option linter.all false
set_option maxRecDepth 100000
set_option maxHeartbeats 1000000
/-! MathAA: the purse. -/
namespace HF
open PySem PySem.Spec L2
open PyProof.Rows hiding St
structure PurOk (b : List Int) : Prop where
  ex : ∃ r s k : Int, b = [r, s, k] ∧ 0 ≤ r ∧ 0 ≤ s ∧ 0 ≤ k
theorem md3 (i : Int) : x_mod i 1000003 = some (i % 1000003) := x_mod_pos (by decide)
theorem ml5 (i : Int) : x_mulS i 1009 = some (i * 1009) := x_mulS_r (by decide)
theorem dv2 (i : Int) : x_div i 1024 = some (i / 1024) := x_div_pos (by decide) (by decide)
theorem dv3 (i : Int) : x_div i 8 = some (i / 8) := x_div_pos (by decide) (by decide)
theorem range3_ok {a b : Nat} (ha : a ≤ 100) (hb : b ≤ 63) : ∃ xs, x_range3 (a : Int) (b : Int) 4 = some xs ∧ ∀ x ∈ xs, 0 ≤ x ∧ x < (b : Int) := by
  have h0 : 0 ≤ Builtin.Range.rangeSize (a : Int) (b : Int) 4 ∧ Builtin.Range.rangeSize (a : Int) (b : Int) 4 ≤ 100 := by
    unfold Builtin.Range.rangeSize
    rw [if_pos (by decide)]
    split <;> constructor <;> omega
  have fit : ∀ i : Int, 0 ≤ i → i ≤ 1000 → Builtin.Range.rangeFitsLong i = true := fun i x y => by
    unfold Builtin.Range.rangeFitsLong
    simp only [Bool.and_eq_true, decide_eq_true_eq]
    constructor <;> omega
  have h2 := h0.1
  have h1 : Builtin.Range.small (a : Int) (b : Int) 4 = true := by
    unfold Builtin.Range.small
    simp
    exact ⟨⟨⟨⟨fit _ (by omega) (by omega), fit _ (by omega) (by omega)⟩, fit _ (by omega) (by omega)⟩, fit _ h2 (by omega)⟩, .inr (fit _ (by omega) (by omega))⟩
  unfold x_range3
  rw [if_pos ⟨by decide, by decide, h1, h2⟩]
  refine ⟨_, rfl, fun x hx => ?_⟩
  obtain ⟨i, hi, rfl⟩ := List.mem_map.mp hx
  have h1 := List.mem_range.mp hi
  unfold Builtin.Range.rangeSize at h1
  rw [if_pos (by decide)] at h1
  split at h1
  · refine ⟨by omega, ?_⟩
    omega
  · simp at h1
theorem p_get0 {r s k : Int} : x_ix [r, s, k] 0 = some r := rfl
theorem p_get1 {r s k : Int} : x_ix [r, s, k] 1 = some s := rfl
theorem p_get2 {r s k : Int} : x_ix [r, s, k] 2 = some k := rfl
theorem p_set0 {r s k y : Int} : x_set [r, s, k] 0 y = some [y, s, k] := rfl
theorem p_set1 {r s k y : Int} : x_set [r, s, k] 1 y = some [r, y, k] := rfl
theorem p_set2 {r s k y : Int} : x_set [r, s, k] 2 y = some [r, s, y] := rfl
theorem draw_ok {b : List Int} {s : Int} (hb : PurOk b) (h0 : 0 < s) (h1 : s < 1073741824) : Ok (m__law_draw b s) fun r => (0 ≤ r.1 ∧ r.1 < s) ∧ PurOk r.2 := by
  obtain ⟨r, t, k, rfl, r0, t0, k0⟩ := hb.ex
  unfold m__law_draw
  simp only [bs, joinK, p_get0, p_get1, p_get2, p_set0, p_set1, p_set2, ml1, ml3, ml4, md1, md2, dv2, dv3, x_mod_pos h0, x_div_pos h0 h1]
  refine Ok.ite (fun hc => ?_) fun hc => ?_
  · exact Ok.pure ⟨⟨Int.emod_nonneg _ (by omega), Int.emod_lt_of_pos _ h0⟩, ⟨_, _, _, rfl, Int.ediv_nonneg r0 (by omega), t0, k0⟩⟩
  · exact Ok.pure ⟨⟨Int.emod_nonneg _ (by omega), Int.emod_lt_of_pos _ h0⟩, ⟨_, _, _, rfl, r0, Int.emod_nonneg _ (by decide), by omega⟩⟩
theorem purse_ok {script : List Int} {p : Nat} (hp : p ≤ 10) : Ok (m__law_purse script p) PurOk := by
  unfold m__law_purse
  have e1 : x_mulS 1795 ((p : Int) + 1) = some (1795 * ((p : Int) + 1)) := x_mulS_l (by decide)
  obtain ⟨xs, e2, h2⟩ := range3_ok (a := p) (b := min 63 script.length) (by omega) (by omega)
  have e3 : (min 63 (script.length : Int)) = ((min 63 script.length : Nat) : Int) := by omega
  simp only [bs, joinK, e1, md3, e3, e2, ml5, md1, pw1]
  refine Ok.foldI (fun b : Int => 0 ≤ b) ?_ (fun x b hx hb => ?_) fun b hb => ?_
  · have := Int.emod_nonneg ((cutL script none (some 1)).sum) (show (1000003 : Int) ≠ 0 by decide)
    omega
  · obtain ⟨x0, x1⟩ := h2 x hx
    obtain ⟨i, rfl⟩ := Int.eq_ofNat_of_zero_le x0
    rw [x_ix_nat (show i < script.length by omega)]
    exact Ok.pure (Int.emod_nonneg _ (by decide))
  · refine Ok.bind (P := fun z : Int => 0 ≤ z) ?_ fun z hz => Ok.pure ⟨z, b, 0, rfl, hz, hb, Int.le_refl _⟩
    by_cases h : p < script.length
    · rw [x_ix_nat h]
      simp only [bs]
      have e : (decide ((p : Int) < (script.length : Int))) = true := decide_eq_true (by omega)
      rw [e]
      unfold andM
      rw [if_pos rfl, bs]
      refine Ok.ite (fun _ => Ok.pure ?_) fun _ => Ok.pure (Int.le_refl _)
      split <;> omega
    · have e : (decide ((p : Int) < (script.length : Int))) = false := decide_eq_false (by omega)
      rw [e]
      exact Ok.pure (Int.le_refl _)
end HF

set_option Elab.async false
set_option linter.all false
set_option maxRecDepth 100000
set_option maxHeartbeats 1000000
/-! MathAB: the drawn wires of the second kind of world. -/
namespace HF
open PySem PySem.Spec L2
open PyProof.Rows hiding St
theorem cut_fr {α : Type} {xs : List α} {i : Nat} (h : i ≤ xs.length) : cutL xs (some (i : Int)) none = xs.drop i := by
  unfold cutL
  rw [HT.sIx_nat, HT.sIx_none, Nat.min_eq_left h]
  exact List.take_of_length_le (by rw [List.length_drop]; omega)
theorem app2_eq {xss : List (List Int)} {u y : Int} {xs : List Int} (h0 : 0 ≤ u) (h : xss[u.toNat]? = some xs) (hl : xs.length < 1000000) : x_app2 xss u y = some (xss.set u.toNat (xs ++ [y])) := by
  have hu := (List.getElem?_eq_some_iff.mp h).1
  unfold x_app2 ixN
  rw [if_pos h0, if_pos (by omega), bs, h, bs, if_pos (show _ < sizeLine from by show _ < 16777216; omega)]
/-- each lamp's direct lamps come behind it in the line -/
structure Dir (n : Nat) (line : List Int) (d : List (List Int)) : Prop where
  len : d.length = n
  at_ : ∀ (i : Nat) (u : Int), line[i]? = some u → ∃ ds : List Int, d[u.toNat]? = some ds ∧ ds.Sublist (line.drop (i + 1))
theorem wires_ok {b : List Int} {n : Nat} (hb : PurOk b) (hn : 1 ≤ n ∧ n ≤ 16) : Ok (m__law_wires b n) fun r => (r.1.1.Perm (rangeL 0 n) ∧ Dir n r.1.1 r.1.2) ∧ PurOk r.2 := by
  have hlr : x_lrange 0 (n : Int) = some (rangeL 0 n) := by
    unfold x_lrange
    rw [if_pos ⟨by decide, by decide, by omega, by omega, by omega⟩, Int.sub_zero, Int.toNat_natCast]
    rfl
  unfold m__law_wires
  simp only [bs, joinK]
  rw [hlr, bs, x_range_nat (by omega), bs]
  refine Ok.foldN (fun k s => PurOk s.1 ∧ s.2.1.length + k = n ∧ s.2.2.length = k ∧ (s.2.1 ++ s.2.2).Perm (rangeL 0 n)) ⟨hb, by simp [length_rangeL], rfl, by simp⟩ ?_ ?_
  · rintro k ⟨s, ls, li⟩ hk ⟨h1, h2, h3, h4⟩
    dsimp only at h1 h2 h3 h4 ⊢
    refine Ok.bind (draw_ok h1 (by omega) (by omega)) fun r hr => ?_
    obtain ⟨⟨r0, r1⟩, rb⟩ := hr
    obtain ⟨i, hi⟩ := Int.eq_ofNat_of_zero_le r0
    have hil : i < ls.length := by omega
    rw [hi, x_popAt_eq hil (by omega), bs, x_app_eq (by omega), bs]
    refine Ok.pure ⟨rb, ?_, by simp [h3], ?_⟩
    · dsimp only
      rw [List.length_eraseIdx_of_lt hil]
      omega
    · dsimp only
      refine List.Perm.trans ?_ h4
      have p1 : ls.Perm (ls[i] :: ls.eraseIdx i) := perm_erase (List.getElem?_eq_getElem hil)
      refine List.Perm.trans ?_ (p1.symm.append_right li)
      rw [← List.append_assoc]
      exact List.perm_append_comm.trans (by simp)
  · rintro ⟨b1, ls, line⟩ ⟨h1, h2, h3, h4⟩
    dsimp only at h1 h2 h3 h4 ⊢
    obtain rfl : ls = [] := List.length_eq_zero_iff.mp (by omega)
    rw [List.nil_append] at h4
    have nd : line.Nodup := h4.nodup_iff.mpr nodup_rangeL
    have mem : ∀ {i : Nat} {u : Int}, line[i]? = some u → 0 ≤ u ∧ u < (n : Int) := fun e => mem_rangeL.mp (h4.mem_iff.mp (List.mem_of_getElem? e))
    refine Ok.bind (draw_ok h1 (by decide) (by decide)) fun r hr => ?_
    rw [bs, x_comp_map (xs := rangeL 0 n) (fun _ => ([] : List Int)) (by rw [length_rangeL]; omega) fun _ _ => rfl, bs, bs]
    refine Ok.foldN (fun k s => PurOk s.1 ∧ s.2.length = n ∧ ∀ (i : Nat) (u : Int), line[i]? = some u → ∃ ds : List Int, s.2[u.toNat]? = some ds ∧ (i < k → ds.Sublist (line.drop (i + 1))) ∧ (k ≤ i → ds = [])) ⟨hr.2, by simp [length_rangeL], fun i u e => ?_⟩ ?_ ?_
    · obtain ⟨u0, u1⟩ := mem e
      refine ⟨[], ?_, fun z => absurd z (by omega), fun _ => rfl⟩
      rw [List.getElem?_map, List.getElem?_eq_getElem (by rw [length_rangeL]; omega)]
      rfl
    · rintro k ⟨b2, d⟩ hk ⟨j1, j2, j3⟩
      dsimp only at j1 j2 j3 ⊢
      have hkl : k < line.length := by omega
      have ek : line[k]? = some line[k] := List.getElem?_eq_getElem hkl
      obtain ⟨k0, k1⟩ := mem ek
      rw [show ((k : Int) + 1) = ((k + 1 : Nat) : Int) by omega, cut_fr (by omega), x_ix_nat hkl]
      refine Ok.fold (fun pre s => PurOk s.1 ∧ s.2.length = n ∧ (∀ (i : Nat) (u : Int), line[i]? = some u → i ≠ k → s.2[u.toNat]? = d[u.toNat]?) ∧ ∃ ds : List Int, s.2[line[k].toNat]? = some ds ∧ ds.Sublist pre) ⟨j1, j2, fun _ _ _ _ => rfl, ?_⟩ ?_ ?_
      · obtain ⟨ds, e1, _, e2⟩ := j3 k _ ek
        exact ⟨ds, e1, by rw [e2 (Nat.le_refl _)]; exact List.Sublist.refl _⟩
      · rintro pre x q ⟨b3, s⟩ ex ⟨i1, i2, i3, ds, e1, e2⟩
        dsimp only at i1 i2 i3 e1 ⊢
        refine Ok.bind (draw_ok i1 (by decide) (by decide)) fun r2 hr2 => ?_
        have hpl : pre.length ≤ n := by
          have := congrArg List.length ex
          rw [List.length_drop, List.length_append] at this
          omega
        have := e2.length_le
        refine Ok.ite (fun _ => ?_) fun _ => Ok.pure ⟨hr2.2, i2, i3, ds, e1, e2.trans (List.sublist_append_left _ _)⟩
        rw [bs, app2_eq k0 e1 (by omega), bs]
        refine Ok.pure ⟨hr2.2, by rw [List.length_set]; exact i2, fun i u eu ne => ?_, ds ++ [x], ?_, List.Sublist.append e2 (List.Sublist.refl _)⟩
        · have nu : line[k].toNat ≠ u.toNat := fun z => by
            obtain ⟨u0, u1⟩ := mem eu
            have : line[k] = u := by omega
            have hi := (List.getElem?_eq_some_iff.mp eu)
            obtain ⟨hi1, hi2⟩ := hi
            rw [← this] at hi2
            rcases Nat.lt_trichotomy i k with z | z | z
            · exact absurd hi2 (List.pairwise_iff_getElem.mp nd i k hi1 hkl z)
            · exact ne z
            · exact absurd hi2.symm (List.pairwise_iff_getElem.mp nd k i hkl hi1 z)
          rw [List.getElem?_set_ne nu]
          exact i3 i u eu ne
        · rw [List.getElem?_set_self (by omega)]
      · rintro ⟨b3, s⟩ ⟨i1, i2, i3, ds, e1, e2⟩
        dsimp only at i1 i2 i3 e1 ⊢
        refine Ok.pure ⟨i1, i2, fun i u eu => ?_⟩
        by_cases hik : i = k
        · subst hik
          rw [ek] at eu
          cases eu
          exact ⟨ds, e1, fun _ => e2, fun z => absurd z (by omega)⟩
        · obtain ⟨ds', f1, f2, f3⟩ := j3 i u eu
          exact ⟨ds', by rw [i3 i u eu hik]; exact f1, fun z => f2 (by omega), fun z => f3 (by omega)⟩
    · rintro ⟨b2, d⟩ ⟨j1, j2, j3⟩
      dsimp only at j1 j2 j3 ⊢
      refine Ok.pure ⟨⟨h4, j2, fun i u e => ?_⟩, j1⟩
      obtain ⟨ds, e1, e2, _⟩ := j3 i u e
      have hi := (List.getElem?_eq_some_iff.mp e).1
      exact ⟨ds, e1, e2 (by have := h4.length_eq; rw [length_rangeL] at this; show i < n; dsimp only at hi; omega)⟩
end HF

set_option Elab.async false
set_option linter.all false
set_option maxRecDepth 100000
set_option maxHeartbeats 1000000
/-! MathAC: the pairs of the second kind of world. -/
namespace HF
open PySem PySem.Spec L2
open PyProof.Rows hiding St
theorem nd_mid {α : Type} {p q : List α} {x : α} (h : (p ++ x :: q).Nodup) : x ∉ p := fun m => (List.nodup_append.mp h).2.2 x m x (List.mem_cons_self ..) rfl
theorem nd_snoc {α : Type} {p : List α} {x : α} (h : p.Nodup) (h2 : x ∉ p) : (p ++ [x]).Nodup := List.nodup_append.mpr ⟨h, by simp, fun a ha b hb e => by
  rw [List.mem_singleton] at hb
  subst e
  subst hb
  exact h2 ha⟩
section
variable {n : Nat} {line : List Int} {d : List (List Int)} {P : List (Int × Int)}
theorem dir_at (hl : line.Perm (rangeL 0 n)) (hd : Dir n line d) {u : Int} (hu : u ∈ line) : ∃ (i : Nat) (ds : List Int), line[i]? = some u ∧ x_ix d u = some ds ∧ d[u.toNat]? = some ds ∧ ds.Sublist (line.drop (i + 1)) := by
  obtain ⟨i, e⟩ := List.mem_iff_getElem?.mp hu
  obtain ⟨ds, e1, e2⟩ := hd.at_ i u e
  have h0 := (mem_rangeL.mp (hl.mem_iff.mp hu)).1
  exact ⟨i, ds, e, x_ix_get h0 e1, e1, e2⟩
theorem pairs_ok (hn : n ≤ 16) (hl : line.Perm (rangeL 0 n)) (hd : Dir n line d) : Ok (m__law_pairs line d) fun P => (GoodW n (rkL line) P ∧ P.length ≤ 1000) ∧ ∀ u v, (u, v) ∈ P ↔ u ∈ line ∧ ∃ ds : List Int, d[u.toNat]? = some ds ∧ v ∈ ds := by
  have nd : line.Nodup := hl.nodup_iff.mpr nodup_rangeL
  have ln : line.length = n := by rw [hl.length_eq, length_rangeL]
  unfold m__law_pairs
  simp only [bs, joinK]
  refine Ok.fold (fun p b => b.Nodup ∧ b.length ≤ 16 * p.length ∧ ∀ u v, (u, v) ∈ b ↔ u ∈ p ∧ ∃ ds : List Int, d[u.toNat]? = some ds ∧ v ∈ ds) ⟨List.nodup_nil, by simp, by simp⟩ ?_ ?_
  · rintro p x q b e ⟨h1, h2, h3⟩
    have hx : x ∈ line := by rw [e]; simp
    have hxp : x ∉ p := nd_mid (e ▸ nd)
    obtain ⟨i, ds, ei, e1, e2, e3⟩ := dir_at hl hd hx
    have nds : ds.Nodup := (nd.sublist (List.drop_sublist _ _)).sublist e3
    have lds : ds.length ≤ 16 := by
      have := e3.length_le
      rw [List.length_drop] at this
      omega
    have lp : p.length ≤ 16 := by
      have := congrArg List.length e
      rw [List.length_append] at this
      omega
    rw [e1, bs]
    refine Ok.fold (fun p' b' => b'.Nodup ∧ b'.length = b.length + p'.length ∧ ∀ u v, (u, v) ∈ b' ↔ (u, v) ∈ b ∨ (u = x ∧ v ∈ p')) ⟨h1, rfl, by simp⟩ ?_ ?_
    · rintro p' y q' b' e' ⟨j1, j2, j3⟩
      have lp' : p'.length ≤ 16 := by
        have := congrArg List.length e'
        rw [List.length_append] at this
        omega
      rw [x_app_eq (by omega), bs]
      refine Ok.pure ⟨nd_snoc j1 fun m => ?_, by simp [j2]; omega, fun u v => ?_⟩
      · rcases (j3 x y).mp m with m | ⟨_, m⟩
        · exact hxp ((h3 x y).mp m).1
        · exact nd_mid (e' ▸ nds) m
      · rw [List.mem_append, j3, List.mem_singleton, List.mem_append, List.mem_singleton, Prod.mk.injEq]
        constructor
        · rintro ((m | m) | m)
          · exact .inl m
          · exact .inr ⟨m.1, .inl m.2⟩
          · exact .inr ⟨m.1, .inr m.2⟩
        · rintro (m | ⟨m, m' | m'⟩)
          · exact .inl (.inl m)
          · exact .inl (.inr ⟨m, m'⟩)
          · exact .inr ⟨m, m'⟩
    · rintro b' ⟨j1, j2, j3⟩
      refine Ok.pure ⟨j1, by rw [List.length_append, List.length_singleton]; omega, fun u v => ?_⟩
      rw [j3, h3, List.mem_append, List.mem_singleton]
      constructor
      · rintro (⟨m1, m2⟩ | ⟨rfl, m⟩)
        · exact ⟨.inl m1, m2⟩
        · exact ⟨.inr rfl, ds, e2, m⟩
      · rintro ⟨m1 | rfl, ds', m2, m3⟩
        · exact .inl ⟨m1, ds', m2, m3⟩
        · rw [e2] at m2
          cases m2
          exact .inr ⟨rfl, m3⟩
  · rintro b ⟨h1, h2, h3⟩
    refine Ok.pure ⟨⟨fw_good (low := 1000) (h := 0) hl h1 fun u v m => ?_, by omega⟩, h3⟩
    obtain ⟨m1, ds, m2, m3⟩ := (h3 u v).mp m
    obtain ⟨i, ds', ei, _, e2, e3⟩ := dir_at hl hd m1
    rw [m2] at e2
    cases e2
    obtain ⟨k, ek⟩ := List.mem_iff_getElem?.mp (e3.subset m3)
    rw [List.getElem?_drop] at ek
    have := (List.getElem?_eq_some_iff.mp ek).1
    exact ⟨i, i + 1 + k, by omega, ei, ek, .inl (by omega)⟩
end
end HF

set_option Elab.async false
set_option linter.all false
set_option maxRecDepth 100000
set_option maxHeartbeats 1000000
/-! MathAD: below and above, second kind of world. -/
namespace HF
open PySem PySem.Spec L2
open PyProof.Rows hiding St
theorem sset_below {n : Nat} {P : List (Int × Int)} {rk : Int → Nat} (hn : n ≤ 16) (hP : GoodW n rk P) {x : Int} {ms : List Int} (hl : ms.length ≤ 1000) (h : ∀ y, y ∈ ms ↔ Dn P x y) : x_sset ms = some (belowL n P x) := by
  unfold x_sset
  have hd : ∀ y, y ∈ ms → 0 ≤ y ∧ y < (n : Int) := fun y hy => (hP.dn (fun _ m => m) ((h y).mp hy)).2.2.2
  rw [if_pos ⟨hl, fun y hy => by have := hd y hy; omega⟩]
  congr 1
  refine sorted_uniq ((rangeL_lt _ _).sublist List.filter_sublist) ((rangeL_lt _ _).sublist List.filter_sublist) fun y => ?_
  rw [mem_belowL hP, List.mem_filter, mem_rangeL, decide_eq_true_eq, h]
  constructor
  · exact fun q => q.2
  · exact fun q => ⟨by have := hd y ((h y).mpr q); omega, q⟩
theorem below_len {n : Nat} {P : List (Int × Int)} {x : Int} : (belowL n P x).length ≤ n := Nat.le_trans (List.length_filter_le _ _) (by rw [length_rangeL]; exact Nat.le_refl _)
section
variable {n : Nat} {line : List Int} {d : List (List Int)} {P : List (Int × Int)} {rk : Int → Nat}
theorem below_eq (hn : n ≤ 16) (hl : line.Perm (rangeL 0 n)) (hd : Dir n line d) (hP : GoodW n rk P) (hm : ∀ u v, (u, v) ∈ P ↔ u ∈ line ∧ ∃ ds : List Int, d[u.toNat]? = some ds ∧ v ∈ ds) : m__law_below line d = some ((rangeL 0 n).map (belowL n P)) := by
  have nd : line.Nodup := hl.nodup_iff.mpr nodup_rangeL
  have ln : line.length = n := by rw [hl.length_eq, length_rangeL]
  refine Ok.of ?_
  unfold m__law_below
  simp only [bs, joinK]
  rw [ln, x_range_nat (by omega), bs, x_comp_map (xs := rangeL 0 n) (fun _ => ([] : List Int)) (by rw [length_rangeL]; omega) fun _ _ => rfl, bs]
  refine Ok.fold (fun p b => b.length = n ∧ ∀ u, u ∈ p → b[u.toNat]? = some (belowL n P u)) ⟨by simp [length_rangeL], by simp⟩ ?_ ?_
  · rintro p x q b e ⟨h1, h2⟩
    have el : line = q.reverse ++ x :: p.reverse := by
      have := congrArg List.reverse e
      simpa using this
    have hx : x ∈ line := by rw [el]; simp
    have dx := mem_rangeL.mp (hl.mem_iff.mp hx)
    have hxp : x ∉ p := fun m => by
      have h3 := nd
      rw [el] at h3
      have := (List.nodup_cons.mp (List.nodup_append.mp h3).2.1).1
      exact this (List.mem_reverse.mpr m)
    obtain ⟨i, ds, ei, e1, e2, e3⟩ := dir_at hl hd hx
    have hi : i = q.length := by
      have e4 : line[q.length]? = some x := by rw [el]; simp
      obtain ⟨b1, q1⟩ := List.getElem?_eq_some_iff.mp ei
      obtain ⟨b2, q2⟩ := List.getElem?_eq_some_iff.mp e4
      have := q1.trans q2.symm
      rcases Nat.lt_trichotomy i q.length with z | z | z
      · exact absurd this (List.pairwise_iff_getElem.mp nd _ _ b1 b2 z)
      · exact z
      · exact absurd this.symm (List.pairwise_iff_getElem.mp nd _ _ b2 b1 z)
    have hdp : ∀ y, y ∈ ds → y ∈ p := fun y hy => by
      have := e3.subset hy
      rw [hi, el, show q.reverse ++ x :: p.reverse = (q.reverse ++ [x]) ++ p.reverse by simp, List.drop_left' (by simp)] at this
      exact List.mem_reverse.mp this
    have lds : ds.length ≤ 16 := by
      have := e3.length_le
      rw [List.length_drop] at this
      omega
    rw [e1, bs, bs]
    refine Ok.fold (fun p' ms => ms.length ≤ 16 + 16 * p'.length ∧ ∀ y, y ∈ ms ↔ y ∈ ds ∨ ∃ l, l ∈ p' ∧ y ∈ belowL n P l) ⟨by simpa using lds, by simp⟩ ?_ ?_
    · rintro p' l q' ms e' ⟨j1, j2⟩
      have lp' : p'.length ≤ 16 := by
        have := congrArg List.length e'
        rw [List.length_append] at this
        omega
      have hlm : l ∈ ds := by rw [e']; simp
      have l0 := (mem_rangeL.mp (hl.mem_iff.mp (List.mem_of_mem_drop (e3.subset hlm)))).1
      have := below_len (n := n) (P := P) (x := l)
      rw [x_ix_get l0 (h2 l (hdp l hlm)), bs, x_cat_eq (by omega), bs]
      refine Ok.pure ⟨by rw [List.length_append, List.length_append, List.length_singleton]; omega, fun y => ?_⟩
      rw [List.mem_append, j2]
      constructor
      · rintro ((m | ⟨a, m1, m2⟩) | m)
        · exact .inl m
        · exact .inr ⟨a, List.mem_append_left _ m1, m2⟩
        · exact .inr ⟨l, by simp, m⟩
      · rintro (m | ⟨a, m1, m2⟩)
        · exact .inl (.inl m)
        · rcases List.mem_append.mp m1 with m1 | m1
          · exact .inl (.inr ⟨a, m1, m2⟩)
          · rw [List.mem_singleton] at m1
            subst m1
            exact .inr m2
    · rintro ms ⟨j1, j2⟩
      rw [sset_below hn hP (x := x) (by omega) fun y => ?_, bs, x_set_nat dx.1 (by omega), bs]
      · refine Ok.pure ⟨by rw [List.length_set]; exact h1, fun u hu => ?_⟩
        rcases List.mem_append.mp hu with hu | hu
        · have um : u ∈ line := by rw [el]; simp [hu]
          have u0 := (mem_rangeL.mp (hl.mem_iff.mp um)).1
          have ne : x.toNat ≠ u.toNat := fun z => hxp (by rw [show x = u by omega]; exact hu)
          rw [List.getElem?_set_ne ne]
          exact h2 u hu
        · rw [List.mem_singleton] at hu
          subst hu
          rw [List.getElem?_set_self (by omega)]
      · rw [j2, dn_head]
        constructor
        · rintro (m | ⟨l, m1, m2⟩)
          · exact ⟨y, (hm _ _).mpr ⟨hx, ds, e2, m⟩, .inl rfl⟩
          · exact ⟨l, (hm _ _).mpr ⟨hx, ds, e2, m1⟩, .inr ((mem_belowL hP).mp m2)⟩
        · rintro ⟨l, m1, m2⟩
          obtain ⟨_, ds', m3, m4⟩ := (hm _ _).mp m1
          rw [e2] at m3
          cases m3
          rcases m2 with rfl | m2
          · exact .inl m4
          · exact .inr ⟨l, m4, (mem_belowL hP).mpr m2⟩
  · rintro b ⟨h1, h2⟩
    refine Ok.eq ?_
    congr 1
    refine List.ext_getElem? fun i => ?_
    by_cases hi : i < n
    · have m : ((i : Int)) ∈ line := hl.mem_iff.mpr (mem_rangeL.mpr (by omega))
      have := h2 (i : Int) (List.mem_reverse.mpr m)
      rw [Int.toNat_natCast] at this
      rw [this, List.getElem?_map]
      unfold rangeL
      rw [List.getElem?_map, List.getElem?_range hi]
      simp
    · rw [List.getElem?_eq_none (by omega), List.getElem?_eq_none (by rw [List.length_map, length_rangeL]; omega)]
theorem above_eq (hn : n ≤ 16) : m__law_above ((rangeL 0 n).map (belowL n P)) = some ((rangeL 0 n).map (aboveL n P)) := by
  refine Ok.of ?_
  unfold m__law_above
  simp only [bs, joinK]
  rw [List.length_map, length_rangeL, x_range_nat (by omega), bs]
  refine Ok.fold (fun p b => b = p.map (aboveL n P)) rfl ?_ ?_
  · rintro p x q b e rfl
    have lp : p.length ≤ 16 := by
      have := congrArg List.length e
      rw [length_rangeL, List.length_append] at this
      omega
    have hx := mem_rangeL.mp (show x ∈ rangeL 0 n by rw [e]; simp)
    rw [bs, x_comp_filter (fun u => dnB P u x) (by rw [length_rangeL]; omega) fun u hu => ?_, bs, x_app_eq (by rw [List.length_map]; omega), bs]
    · refine Ok.pure ?_
      rw [List.map_append]
      rfl
    · obtain ⟨u0, u1⟩ := mem_rangeL.mp hu
      rw [map_range_ix u0 u1, bs]
      congr 1
      unfold belowL
      rw [Bool.eq_iff_iff, decide_eq_true_eq, List.mem_filter]
      exact ⟨fun z => z.2, fun z => ⟨mem_rangeL.mpr hx, z⟩⟩
  · rintro b rfl
    exact Ok.eq rfl
end
end HF

set_option Elab.async false
set_option linter.all false
set_option maxRecDepth 100000
set_option maxHeartbeats 1000000
/-! MathAE: state, after, lowest, second kind of world. -/
namespace HF
open PySem PySem.Spec L2
open PyProof.Rows hiding St
theorem state_ok {b : List Int} {n q : Nat} (hb : PurOk b) (hn : n ≤ 16) (hq : 2 ≤ q ∧ q ≤ 10) : Ok (m__law_state b n q) fun r => StOk n q r.1 ∧ PurOk r.2 := by
  unfold m__law_state
  simp only [bs, joinK]
  refine Ok.bind (draw_ok hb (by decide) (by decide)) fun r hr => ?_
  rw [x_range_nat (by omega), bs]
  refine Ok.foldN (fun k s => PurOk s.1 ∧ s.2.length = k ∧ ∀ x ∈ s.2, 0 ≤ x ∧ x < (q : Int)) ⟨hr.2, rfl, by simp⟩ ?_ ?_
  · rintro k ⟨p, s⟩ hk ⟨h1, h2, h3⟩
    dsimp only at h1 h2 h3 ⊢
    have leaf : ∀ {p : List Int} {v : Int}, PurOk p → 0 ≤ v → v < (q : Int) → Ok ((x_app s v).bind fun hand => some (p, hand)) fun s => PurOk s.1 ∧ s.2.length = k + 1 ∧ ∀ x ∈ s.2, 0 ≤ x ∧ x < (q : Int) := fun hp v0 v1 => by
      rw [x_app_eq (by omega), bs]
      refine Ok.pure ⟨hp, by simp [h2], fun x hx => ?_⟩
      rcases List.mem_append.mp hx with hx | hx
      · exact h3 x hx
      · rw [List.mem_singleton] at hx
        subst hx
        exact ⟨v0, v1⟩
    have d3 : ∀ {p : List Int}, PurOk p → Ok (m__law_draw p 3) fun r => (0 ≤ r.1 ∧ r.1 < 3) ∧ PurOk r.2 := fun hp => draw_ok hp (by decide) (by decide)
    refine Ok.bind (draw_ok h1 (by omega) (by omega)) fun r1 hr1 => ?_
    refine Ok.ite (fun _ => ?_) fun _ => ?_
    · refine Ok.bind (d3 hr1.2) fun r2 hr2 => ?_
      refine Ok.ite (fun _ => ?_) fun _ => ?_
      · refine Ok.ite (fun _ => ?_) fun _ => leaf hr2.2 (by omega) (by omega)
        refine Ok.bind (d3 hr2.2) fun r3 hr3 => ?_
        exact Ok.ite (fun _ => leaf hr3.2 (by omega) (by omega)) fun _ => leaf hr3.2 (by omega) (by omega)
      · refine Ok.ite (fun _ => ?_) fun _ => leaf hr2.2 hr1.1.1 hr1.1.2
        refine Ok.bind (d3 hr2.2) fun r3 hr3 => ?_
        exact Ok.ite (fun _ => leaf hr3.2 (by omega) (by omega)) fun _ => leaf hr3.2 hr1.1.1 hr1.1.2
    · refine Ok.ite (fun _ => ?_) fun _ => leaf hr1.2 hr1.1.1 hr1.1.2
      refine Ok.bind (d3 hr1.2) fun r3 hr3 => ?_
      exact Ok.ite (fun _ => leaf hr3.2 (by omega) (by omega)) fun _ => leaf hr3.2 hr1.1.1 hr1.1.2
  · rintro ⟨p, s⟩ ⟨h1, h2, h3⟩
    exact Ok.pure ⟨⟨h2, h3⟩, h1⟩
section
variable {n q : Nat} {P : List (Int × Int)} {rk : Int → Nat} {s : List Int} {l : Int}
theorem td_mod {q : Nat} {v : Int} (hq : 1 ≤ q) (h0 : 0 ≤ v) (h1 : v < (q : Int)) : (v + q - 1) % (q : Int) = td q v := by
  unfold td
  split
  · rw [show v + (q : Int) - 1 = (v - 1) + (q : Int) by omega, Int.add_emod_right]
    exact Int.emod_eq_of_lt (by omega) (by omega)
  · have : v = 0 := by omega
    subst this
    rw [Int.zero_add]
    exact Int.emod_eq_of_lt (by omega) (by omega)
/-- the law's own move -/
theorem after_eq (hn : n ≤ 16) (hq : 1 ≤ q) (hP : GoodW n rk P) (hs : StOk n q s) (hl : 0 ≤ l ∧ l < n) : m__law_after ((rangeL 0 n).map (belowL n P)) q s l = some (mv n q P s l) := by
  refine Ok.of ?_
  unfold m__law_after
  simp only [bs, joinK]
  rw [ix_ht hs.len hl.1 hl.2, bs, bs]
  obtain ⟨c, e1, c1, c2⟩ := set_ht (a := l) (y := ht s l - 1) hs.len hl.1 hl.2
  rw [e1, bs, map_range_ix hl.1 hl.2, bs]
  refine Ok.fold (fun p b => b.length = n ∧ ∀ x : Int, 0 ≤ x → x < n → ht b x = if x = l then ht s x - 1 else if x ∈ p then td q (ht s x) else ht s x) ⟨c1, fun x x0 x1 => ?_⟩ ?_ ?_
  · rw [c2 x x0]
    by_cases e : x = l
    · subst e; simp
    · simp [e]
  · rintro p m q' b e ⟨h1, h2⟩
    have hm := mem_below hP (show m ∈ belowL n P l by rw [e]; simp)
    have ne : m ≠ l := fun z => by
      have := (hP.dn (fun _ m => m) hm.2).1
      rw [z] at this
      omega
    have nmp : m ∉ p := nd_mid (e ▸ below_nd l)
    have g := getD_ok hs hm.1.1 hm.1.2
    have hv : ht b m = ht s m := by rw [h2 m hm.1.1 hm.1.2, if_neg ne, if_neg nmp]
    rw [ix_ht h1 hm.1.1 hm.1.2, bs, bs, bs, x_mod_pos (by omega), bs, hv, td_mod hq g.1 g.2]
    obtain ⟨c', f1, f2, f3⟩ := set_ht (a := m) (y := td q (ht s m)) h1 hm.1.1 hm.1.2
    rw [f1, bs]
    refine Ok.pure ⟨f2, fun x x0 x1 => ?_⟩
    rw [f3 x x0, h2 x x0 x1]
    by_cases e1 : x = m
    · subst e1
      rw [if_pos rfl, if_neg ne, if_pos (by simp)]
    · rw [if_neg e1]
      by_cases e2 : x = l
      · rw [if_pos e2, if_pos e2]
      · rw [if_neg e2, if_neg e2]
        by_cases e3 : x ∈ p
        · rw [if_pos e3, if_pos (List.mem_append_left _ e3)]
        · rw [if_neg e3, if_neg (by simp [e3, e1])]
  · rintro b ⟨h1, h2⟩
    refine Ok.eq ?_
    congr 1
    refine st_ext h1 mv_len fun x x0 x1 => ?_
    rw [ht_mv x0 x1, h2 x x0 x1]
    by_cases e : x = l
    · rw [if_pos e, if_pos e]
    · rw [if_neg e, if_neg e]
      have : x ∈ belowL n P l ↔ dnB P l x = true := by rw [mem_belowL hP, dnB_iff]
      by_cases d : dnB P l x = true
      · rw [if_pos d, if_pos (this.mpr d)]
      · rw [if_neg d, if_neg fun z => d (this.mp z)]
/-- the law's own lowest lit lamps -/
theorem lowest_eq (hn : n ≤ 16) (hP : GoodW n rk P) (hs : StOk n q s) : m__law_lowest ((rangeL 0 n).map (belowL n P)) s = some ((rangeL 0 n).filter (cfB n P s)) := by
  refine Ok.of ?_
  unfold m__law_lowest
  simp only [bs, joinK]
  rw [hs.len, x_range_nat (by omega), bs]
  refine Ok.fold (fun p b => b = p.filter (cfB n P s)) rfl ?_ ?_
  · rintro p x q' b e rfl
    have lp : p.length ≤ 16 := by
      have := congrArg List.length e
      rw [length_rangeL, List.length_append] at this
      omega
    have lf := List.length_filter_le (cfB n P s) p
    have hx := mem_rangeL.mp (show x ∈ rangeL 0 n by rw [e]; simp)
    have hmap : x_comp (fun _ => some true) (fun y => x_ix s y) (belowL n P x) = some ((belowL n P x).map (ht s)) := x_comp_map (ht s) (by have := below_len (n := n) (P := P) (x := x); omega) fun y hy => by
      have := (mem_below hP hy).1
      exact ix_ht hs.len this.1 this.2
    have hz : decide (((belowL n P x).map (ht s)).sum = 0) = (belowL n P x).all fun m => !decide (0 < ht s m) := by
      have nn : ∀ m, 0 ≤ ht s m := getD_nn hs
      generalize belowL n P x = L
      induction L with
      | nil => rfl
      | cons a L ih =>
        have h0 := nn a
        have h1 : 0 ≤ (L.map (ht s)).sum := by
          clear ih
          induction L with
          | nil => exact Int.le_refl _
          | cons a L ih => have := nn a; simp only [List.map_cons, List.sum_cons]; omega
        rw [List.map_cons, List.sum_cons, List.all_cons, ← ih]
        by_cases z : 0 < ht s a
        · rw [decide_eq_true z, decide_eq_false (by omega)]; rfl
        · rw [decide_eq_false z, show ht s a = 0 by omega, Int.zero_add]; rfl
    rw [ix_ht hs.len hx.1 hx.2, bs, bs, map_range_ix hx.1 hx.2, bs, hmap, bs, bs, hz]
    have hc : (andM (decide (0 < ht s x)) (some ((belowL n P x).all fun m => !decide (0 < ht s m)))) = some (cfB n P s x) := by
      unfold andM cfB
      cases decide (0 < ht s x) <;> rfl
    rw [hc, bs, List.filter_append]
    cases hcf : cfB n P s x with
    | true =>
      rw [if_pos rfl, x_app_eq (by omega), bs]
      refine Ok.pure ?_
      simp [hcf]
    | false =>
      rw [if_neg Bool.false_ne_true]
      refine Ok.pure ?_
      simp [hcf]
  · rintro b rfl
    exact Ok.eq rfl
end
end HF

set_option Elab.async false
set_option linter.all false
set_option maxRecDepth 100000
set_option maxHeartbeats 1000000
/-! MathAF: the program's lowest lit lamps. -/
namespace HF
open PySem PySem.Spec L2
open PyProof.Rows hiding St
theorem sum_mask (p : Int → Bool) : ∀ n : Nat, ∃ m : Nat, (((rangeL 0 n).filter p).map fun y => ((2 ^ y.toNat : Nat) : Int)).sum = (m : Int) ∧ m < 2 ^ n ∧ ∀ v : Nat, m.testBit v = true ↔ v < n ∧ p (v : Int) = true
  | 0 => ⟨0, rfl, by decide, fun v => by simp⟩
  | n + 1 => by
    obtain ⟨m, h1, h2, h3⟩ := sum_mask p n
    rw [rangeL_succ, List.filter_append, List.map_append]
    cases hp : p (n : Int) with
    | true =>
      refine ⟨2 ^ n + m, ?_, by rw [Nat.pow_succ]; omega, fun v => ?_⟩
      · have e : ([(n : Int)].filter p).map (fun y => ((2 ^ y.toNat : Nat) : Int)) = [((2 ^ n : Nat) : Int)] := by simp [hp]
        rw [e, List.sum_append, h1]
        simp
        omega
      · by_cases hv : v < n
        · rw [Nat.testBit_two_pow_add_gt hv, h3]
          constructor
          · exact fun z => ⟨by omega, z.2⟩
          · exact fun z => ⟨hv, z.2⟩
        · by_cases e : v = n
          · subst e
            rw [Nat.testBit_two_pow_add_eq, Nat.testBit_lt_two_pow h2]
            simp [hp]
          · have : 2 ^ n + m < 2 ^ v := Nat.lt_of_lt_of_le (by rw [show 2 ^ (n + 1) = 2 ^ n + 2 ^ n by rw [Nat.pow_succ]; omega]; omega) (Nat.pow_le_pow_right (n := 2) (by decide) (show n + 1 ≤ v by omega))
            rw [Nat.testBit_lt_two_pow this]
            simp
            omega
    | false =>
      refine ⟨m, ?_, by rw [Nat.pow_succ]; omega, fun v => ?_⟩
      · have e : ([(n : Int)].filter p) = [] := by simp [hp]
        rw [e, List.map_nil, List.append_nil, h1]
      · rw [h3]
        constructor
        · exact fun z => ⟨by omega, z.2⟩
        · rintro ⟨z1, z2⟩
          refine ⟨?_, z2⟩
          by_cases e : v = n
          · subst e
            rw [hp] at z2
            cases z2
          · omega
section
variable {n q : Nat} {P : List (Int × Int)} {h : HouseD} {rk : Int → Nat} {s t : List Int} {l : Int}
theorem check_ok (hn : n ≤ 1000) (hh : HouseOk n q P h) (hs : StOk n q s) : m__check_state h s = some () := by
  unfold m__check_state
  simp only [bs]
  rw [is_state_ok hn hh hs]
  simp only [bs]
  rfl
theorem lit_lamps_ok (hn : n ≤ 1000) (hh : HouseOk n q P h) (hs : StOk n q s) : m_lit_lamps h s = some ((rangeL 0 n).filter fun l => decide (0 < ht s l)) := by
  unfold m_lit_lamps
  simp only [bs]
  rw [check_ok hn hh hs, bs, x_comp_eq (fun y : Int × Int => decide (0 < y.2)) (fun y => y.1) (by rw [enumL_len, hs.len]; omega) (fun _ _ => rfl) fun _ _ _ => rfl]
  congr 1
  rw [enum_filter (s := fun l => decide (0 < ht s l)) fun i a hi => ?_, hs.len]
  show decide (0 < a) = decide (0 < ht s (i : Int))
  rw [ht, Int.toNat_natCast, List.getD_eq_getElem?_getD, hi, Option.getD_some]
theorem lowest_lit_ok (hn : n ≤ 1000) (hP : GoodW n rk P) (hh : HouseOk n q P h) (hs : StOk n q s) : m_lowest_lit h s = some ((rangeL 0 n).filter (cfB n P s)) := by
  unfold m_lowest_lit m_below_masks
  simp only [bs]
  have len : ((rangeL 0 n).filter fun l => decide (0 < ht s l)).length ≤ 16777216 := Nat.le_trans (List.length_filter_le _ _) (by rw [length_rangeL]; omega)
  obtain ⟨m, h1, h2, h3⟩ := sum_mask (fun l => decide (0 < ht s l)) n
  rw [need_ok hn hh hs, bs, lit_lamps_ok hn hh hs, bs, x_comp_map (fun y => ((2 ^ y.toNat : Nat) : Int)) len fun y hy => ?_, bs, bs, h1]
  · rw [x_comp_filter (fun l => (belowL n P l).all fun m => !decide (0 < ht s m)) len fun y hy => ?_]
    · rw [List.filter_filter]
      congr 1
      refine List.filter_congr fun y _ => ?_
      unfold cfB
      rw [Bool.and_comm]
    · obtain ⟨y0, y1⟩ := mem_rangeL.mp (List.mem_filter.mp hy).1
      obtain ⟨b, e1, e2, e3⟩ := hh.belowM.ix y0 y1
      rw [e1, bs, bs, and_nat]
      congr 1
      rw [Bool.eq_iff_iff, decide_eq_true_eq, List.all_eq_true]
      constructor
      · intro z x hx
        obtain ⟨⟨x0, x1⟩, d⟩ := mem_below hP hx
        obtain ⟨k, rfl⟩ := Int.eq_ofNat_of_zero_le x0
        have z' : b &&& m = 0 := by omega
        have := congrArg (fun w => w.testBit k) z'
        simp only [Nat.testBit_and, Nat.zero_testBit, (e3 k).mpr d, Bool.true_and] at this
        cases hd : decide (0 < ht s (k : Int)) with
        | false => rfl
        | true => rw [(h3 k).mpr ⟨by omega, hd⟩] at this; cases this
      · intro z
        have : b &&& m = 0 := Nat.eq_of_testBit_eq fun k => by
          rw [Nat.testBit_and, Nat.zero_testBit]
          cases hb : b.testBit k with
          | false => rfl
          | true =>
            cases hm : m.testBit k with
            | false => rfl
            | true =>
              have := z (k : Int) ((mem_belowL hP).mpr ((e3 k).mp hb))
              rw [((h3 k).mp hm).2] at this
              cases this
        rw [this]
        rfl
  · obtain ⟨y0, y1⟩ := mem_rangeL.mp (List.mem_filter.mp hy).1
    obtain ⟨k, rfl⟩ := Int.eq_ofNat_of_zero_le y0
    rw [x_shl1 k (by omega)]
    rfl
theorem is_allowed_ok (hn : n ≤ 1000) (hP : GoodW n rk P) (hh : HouseOk n q P h) (hs : StOk n q s) (h0 : 0 ≤ l) (h1 : l < n) : m_is_allowed h s l true = some (cfB n P s l) := by
  unfold m_is_allowed
  simp only [bs]
  rw [need_ok hn hh hs, bs, lamp_ok hh h0 h1, bs, can_ok hn hP hh hs h0 h1]
  rfl
theorem is_single_ok (hn : n ≤ 1000) (hP : GoodW n rk P) (hh : HouseOk n q P h) (hs : StOk n q s) : m_is_single h s = some (decide ((((rangeL 0 n).filter (cfB n P s)).length : Int) = 1)) := by
  unfold m_is_single
  simp only [bs]
  rw [need_ok hn hh hs, bs, lowest_lit_ok hn hP hh hs, bs, bs]
end
end HF

set_option Elab.async false
set_option linter.all false
set_option maxRecDepth 100000
set_option maxHeartbeats 1000000
/-! MathAG: pieces. -/
namespace HF
open PySem PySem.Spec L2
open PyProof.Rows hiding St
theorem and_pow_ne (m i : Nat) : ((((m &&& 2 ^ i : Nat) : Int)) != 0) = m.testBit i := by
  cases hm : m.testBit i with
  | true =>
    have : (m &&& 2 ^ i) ≠ 0 := fun z => by
      have := congrArg (fun w => w.testBit i) z
      simp [hm, Nat.testBit_and, Nat.testBit_two_pow] at this
    rw [bne_iff_ne]
    omega
  | false =>
    have : m &&& 2 ^ i = 0 := Nat.eq_of_testBit_eq fun k => by
      rw [Nat.testBit_and, Nat.testBit_two_pow, Nat.zero_testBit]
      by_cases e : i = k
      · subst e; rw [hm]; rfl
      · simp [e]
    rw [this]
    rfl
noncomputable def pcB (P : List (Int × Int)) (l x : Int) : Bool := decide (x = l) || dnB P x l
/-- a state with only what is at or above one lamp -/
noncomputable def pc (n : Nat) (P : List (Int × Int)) (s : List Int) (l : Int) : List Int := (rangeL 0 n).map fun x => if pcB P l x = true then ht s x else 0
section
variable {n q : Nat} {P : List (Int × Int)} {h : HouseD} {rk : Int → Nat} {s t : List Int} {l : Int}
theorem pc_len : (pc n P s l).length = n := by simp [pc, length_rangeL]
theorem pc_ok (hq : 1 ≤ q) (hs : StOk n q s) : StOk n q (pc n P s l) := ⟨pc_len, fun v hv => by
  obtain ⟨x, hx, rfl⟩ := List.mem_map.mp hv
  obtain ⟨x0, x1⟩ := mem_rangeL.mp hx
  have : 0 ≤ ht s x ∧ ht s x < (q : Int) := getD_ok hs x0 x1
  split
  · exact this
  · omega⟩
theorem ht_pc {x : Int} (x0 : 0 ≤ x) (x1 : x < n) : ht (pc n P s l) x = if pcB P l x = true then ht s x else 0 := ht_map x0 x1
theorem law_piece_ok (hn : n ≤ 16) (hq : q ≤ 10) (hP : GoodW n rk P) (hs : StOk n q s) (hl : 0 ≤ l ∧ l < n) : m__law_piece ((rangeL 0 n).map (aboveL n P)) s l = some (pc n P s l) := by
  unfold m__law_piece
  simp only [bs]
  rw [hs.len, x_range_nat (by omega), bs]
  refine x_comp_map (fun x => if pcB P l x = true then ht s x else 0) (by rw [length_rangeL]; omega) fun x hx => ?_
  obtain ⟨x0, x1⟩ := mem_rangeL.mp hx
  have g : 0 ≤ ht s x ∧ ht s x < (q : Int) := getD_ok hs x0 x1
  have e : decide (x ∈ aboveL n P l) = dnB P x l := by
    rw [Bool.eq_iff_iff, decide_eq_true_eq, mem_aboveL hP, dnB_iff]
  rw [ix_ht hs.len x0 x1, bs, map_range_ix hl.1 hl.2, bs, e, orM_some, bs, bs]
  have g2 : (ht s x).natAbs ≤ 2 ^ 4 := by have : (2 : Nat) ^ 4 = 16 := rfl; omega
  show x_mul (ht s x) (if pcB P l x = true then 1 else 0) = _
  cases pcB P l x with
  | true => rw [if_pos rfl, if_pos rfl, x_mul_wide (a := 4) (b := 1) g2 (by decide) (by decide) (by decide), Int.mul_one]
  | false => rw [if_neg Bool.false_ne_true, if_neg Bool.false_ne_true, x_mul_wide (a := 4) (b := 1) g2 (by decide) (by decide) (by decide), Int.mul_zero]
theorem piece_ok (hn : n ≤ 1000) (hP : GoodW n rk P) (hh : HouseOk n q P h) (hs : StOk n q s) (hl : 0 ≤ l ∧ l < n) : m__piece h s l = some (pc n P s l) := by
  unfold m__piece m_above_masks
  simp only [bs]
  obtain ⟨b, e1, e2, e3⟩ := hh.aboveM.ix hl.1 hl.2
  obtain ⟨k, hk⟩ := Int.eq_ofNat_of_zero_le hl.1
  rw [e1, bs, hk, x_shl1 k (by omega), bs, bs, or_nat]
  rw [x_comp_map (fun y : Int × Int => if pcB P l y.1 = true then y.2 else 0) (by rw [enumL_len, hs.len]; omega) fun y hy => ?_]
  · have e4 : (enumL s).map (fun y : Int × Int => if pcB P l y.1 = true then y.2 else 0) = ((enumL s).map (·.1)).map fun x => if pcB P l x = true then ht s x else 0 := by
      rw [List.map_map]
      refine List.map_congr_left fun y hy => ?_
      obtain ⟨i, f2, f1⟩ := enumL_mem hy
      show _ = if pcB P l y.1 = true then ht s y.1 else 0
      rw [f2, ht, Int.toNat_natCast, List.getD_eq_getElem?_getD, f1, Option.getD_some]
    rw [e4, enumL_fst, hs.len, hk]
    rfl
  · obtain ⟨i, f2, f1⟩ := enumL_mem hy
    have hi := (List.getElem?_eq_some_iff.mp f1).1
    rw [hs.len] at hi
    rw [f2, x_shl1 i (by omega), bs, bs, bs, and_nat, and_pow_ne]
    have e5 : (b ||| 2 ^ k).testBit i = pcB P l (i : Int) := by
      rw [Nat.testBit_or, Nat.testBit_two_pow]
      unfold pcB
      rw [Bool.or_comm]
      congr 1
      · rw [hk]
        by_cases e : k = i
        · subst e; simp
        · rw [decide_eq_false e, decide_eq_false (by omega)]
      · rw [Bool.eq_iff_iff, dnB_iff]
        exact e3 i
    rw [e5]
    cases pcB P l (i : Int) <;> rfl
theorem pieces_ok (hn : n ≤ 1000) (hP : GoodW n rk P) (hh : HouseOk n q P h) (hs : StOk n q s) : m_pieces h s = some (((rangeL 0 n).filter (cfB n P s)).map (pc n P s)) := by
  unfold m_pieces
  simp only [bs]
  rw [need_ok hn hh hs, bs, lowest_lit_ok hn hP hh hs, bs]
  refine x_comp_map (pc n P s) (Nat.le_trans (List.length_filter_le _ _) (by rw [length_rangeL]; omega)) fun x hx => ?_
  exact piece_ok hn hP hh hs (mem_rangeL.mp (List.mem_filter.mp hx).1)
/-- a piece has only its own lamp -/
theorem pc_single (hP : GoodW n rk P) (hq : 1 ≤ q) (hs : StOk n q s) (hl : 0 ≤ l ∧ l < n) (hc : cfB n P s l = true) : (rangeL 0 n).filter (cfB n P (pc n P s l)) = [l] := by
  obtain ⟨c1, c2⟩ := (cfB_iff hP hs).mp hc
  have key : ∀ x ∈ rangeL 0 n, cfB n P (pc n P s l) x = decide (x = l) := fun x hx => by
    obtain ⟨x0, x1⟩ := mem_rangeL.mp hx
    rw [Bool.eq_iff_iff, decide_eq_true_eq, cfB_iff hP (pc_ok hq hs), ht_pc x0 x1]
    constructor
    · rintro ⟨z1, z2⟩
      refine Classical.byContradiction fun ne => ?_
      by_cases hb : pcB P l x = true
      · have d : Dn P x l := by
          unfold pcB at hb
          rw [decide_eq_false ne, Bool.false_or, dnB_iff] at hb
          exact hb
        have := z2 l d
        rw [ht_pc hl.1 hl.2, if_pos (by simp [pcB])] at this
        omega
      · rw [if_neg hb] at z1
        omega
    · rintro rfl
      refine ⟨by rw [if_pos (by simp [pcB])]; exact c1, fun m d => ?_⟩
      have dm := (hP.dn (fun _ m => m) d).2.2.2
      rw [ht_pc dm.1 dm.2, c2 m d]
      split <;> rfl
  rw [List.filter_congr key]
  refine sorted_uniq ((rangeL_lt _ _).sublist List.filter_sublist) (List.pairwise_singleton _ _) fun x => ?_
  rw [List.mem_filter, decide_eq_true_eq, List.mem_singleton]
  exact ⟨fun z => z.2, fun z => ⟨mem_rangeL.mpr (by omega), z⟩⟩
end
end HF

set_option Elab.async false
set_option linter.all false
set_option maxRecDepth 100000
set_option maxHeartbeats 1000000
/-! MathAH: several lamps lowered at once. -/
namespace HF
open PySem PySem.Spec L2
open PyProof.Rows hiding St
noncomputable def mlow (n q : Nat) (P : List (Int × Int)) (s L : List Int) : List Int := (rangeL 0 n).map fun x => if x ∈ L then ht s x - 1 else if (L.any fun l => dnB P l x) = true then (q : Int) - 1 else ht s x
section
variable {n q : Nat} {P : List (Int × Int)} {h : HouseD} {rk : Int → Nat} {s t L : List Int} {l : Int}
theorem ht_mlow {x : Int} (x0 : 0 ≤ x) (x1 : x < n) : ht (mlow n q P s L) x = if x ∈ L then ht s x - 1 else if (L.any fun l => dnB P l x) = true then (q : Int) - 1 else ht s x := ht_map x0 x1
theorem mlow_len : (mlow n q P s L).length = n := by simp [mlow, length_rangeL]
theorem mlow_congr {L' : List Int} (e : ∀ x, x ∈ L ↔ x ∈ L') : mlow n q P s L = mlow n q P s L' := List.map_congr_left fun x _ => by
  have : (L.any fun l => dnB P l x) = (L'.any fun l => dnB P l x) := by
    rw [Bool.eq_iff_iff, List.any_eq_true, List.any_eq_true]
    exact ⟨fun ⟨a, h1, h2⟩ => ⟨a, (e a).mp h1, h2⟩, fun ⟨a, h1, h2⟩ => ⟨a, (e a).mpr h1, h2⟩⟩
  rw [this]
  simp only [e]
theorem mlow_ok (hq : 1 ≤ q) (hs : StOk n q s) (hL : ∀ l ∈ L, cfB n P s l = true) : StOk n q (mlow n q P s L) := ⟨mlow_len, fun v hv => by
  obtain ⟨x, hx, rfl⟩ := List.mem_map.mp hv
  obtain ⟨x0, x1⟩ := mem_rangeL.mp hx
  have g : 0 ≤ ht s x ∧ ht s x < (q : Int) := getD_ok hs x0 x1
  by_cases e : x ∈ L
  · have := cf_lit (hL x e)
    rw [if_pos e]
    omega
  · rw [if_neg e]
    split
    · omega
    · exact g⟩
theorem mlow_one (hP : GoodW n rk P) (hs : StOk n q s) (hc : cfB n P s l = true) : mlow n q P s [l] = mv n q P s l := List.map_congr_left fun x _ => by
  by_cases e : x = l
  · rw [if_pos e, if_pos (by simp [e])]
  · rw [if_neg e, if_neg (by simp [e])]
    by_cases d : dnB P l x = true
    · have z : ht s x = 0 := ((cfB_iff hP hs).mp hc).2 x (dnB_iff.mp d)
      rw [if_pos d, if_pos (by simp [d]), z]
      rfl
    · rw [if_neg d, if_neg (by simpa using d)]
/-- one step of the fold -/
theorem low_step (hP : GoodW n rk P) (hs : StOk n q s) {p : List Int} {b b1 : List Int} (hp : ∀ l ∈ p, cfB n P s l = true) (hl : 0 ≤ l ∧ l < n) (hc : cfB n P s l = true) (h1 : b.length = n) (h2 : ∀ x : Int, 0 ≤ x → x < n → ht b x = if x ∈ p then ht s x - 1 else if (p.any fun l => dnB P l x) = true then (q : Int) - 1 else ht s x)
    (e1 : b1.length = n) (e2 : ∀ x : Int, 0 ≤ x → ht b1 x = if x = l then ht s l - 1 else ht b x) {f : List Int → Int → Option (List Int)} (hf : ∀ b x, f b x = (x_set b x ((q : Int) - 1)).bind fun r => some r) :
    Ok (foldO f b1 (belowL n P l)) fun b => b.length = n ∧ ∀ x : Int, 0 ≤ x → x < n → ht b x = if x ∈ p ++ [l] then ht s x - 1 else if ((p ++ [l]).any fun l => dnB P l x) = true then (q : Int) - 1 else ht s x := by
  have hz := ((cfB_iff hP hs).mp hc).2
  obtain ⟨r, hr, g1, g2⟩ := foldO_spec (f := f) (xs := belowL n P l) (b := b1) (fun p' b' => b'.length = n ∧ ∀ x : Int, 0 ≤ x → x < n → ht b' x = if x ∈ p' then (q : Int) - 1 else ht b1 x) ⟨e1, fun x _ _ => by simp⟩ fun p' x q' b' e' ⟨j1, j2⟩ => by
    obtain ⟨⟨x0, x1⟩, d⟩ := mem_below hP (show x ∈ belowL n P l by rw [e']; simp)
    obtain ⟨c, k1, k2, k3⟩ := set_ht (a := x) (y := (q : Int) - 1) j1 x0 x1
    refine ⟨c, by rw [hf, k1, bs], k2, fun y y0 y1 => ?_⟩
    rw [k3 y y0, j2 y y0 y1]
    by_cases e : y = x
    · rw [if_pos e, if_pos (by simp [e])]
    · rw [if_neg e]
      by_cases m : y ∈ p'
      · rw [if_pos m, if_pos (List.mem_append_left _ m)]
      · rw [if_neg m, if_neg (by simp [m, e])]
  refine ⟨r, hr, g1, fun x x0 x1 => ?_⟩
  rw [g2 x x0 x1, e2 x x0, h2 x x0 x1]
  have hb : x ∈ belowL n P l ↔ dnB P l x = true := by rw [mem_belowL hP, dnB_iff]
  by_cases d : dnB P l x = true
  · have z := hz x (dnB_iff.mp d)
    have nx : x ∉ p ++ [l] := fun m => by
      have : 0 < ht s x := by
        rcases List.mem_append.mp m with m | m
        · exact cf_lit (hp x m)
        · rw [List.mem_singleton] at m
          rw [m]
          exact cf_lit hc
      omega
    rw [if_pos (hb.mpr d), if_neg nx, if_pos (by simp [d])]
  · rw [if_neg fun m => d (hb.mp m)]
    by_cases e : x = l
    · subst e
      rw [if_pos rfl, if_pos (by simp)]
    · rw [if_neg e]
      have e3 : ((p ++ [l]).any fun l => dnB P l x) = (p.any fun l => dnB P l x) := by simp [d]
      have e4 : (x ∈ p ++ [l]) ↔ x ∈ p := by simp [e]
      rw [e3]
      simp only [e4]
theorem beneath_ok (hh : HouseOk n q P h) (hl : 0 ≤ l ∧ l < n) : m_House_beneath h l = some (belowL n P l) := by
  unfold m_House_beneath m__check_lamp m_is_lamp
  simp only [bs, is_integer_eq, andM]
  rw [hh.count, decide_eq_true hl.1, decide_eq_true hl.2, hh.below]
  exact map_range_ix hl.1 hl.2
theorem lowered_at_ok (hP : GoodW n rk P) (hh : HouseOk n q P h) (hs : StOk n q s) (hL : ∀ l ∈ L, (0 ≤ l ∧ l < n) ∧ cfB n P s l = true) : m__lowered_at h s L = some (mlow n q P s L) := by
  refine Ok.of ?_
  unfold m__lowered_at
  simp only [bs, joinK]
  rw [hh.hues]
  refine Ok.fold (fun p b => b.length = n ∧ ∀ x : Int, 0 ≤ x → x < n → ht b x = if x ∈ p then ht s x - 1 else if (p.any fun l => dnB P l x) = true then (q : Int) - 1 else ht s x) ⟨hs.len, fun x _ _ => by simp⟩ ?_ ?_
  · rintro p l q' b e ⟨h1, h2⟩
    obtain ⟨hl, hc⟩ := hL l (by rw [e]; simp)
    obtain ⟨c, k1, k2, k3⟩ := set_ht (a := l) (y := ht s l - 1) h1 hl.1 hl.2
    rw [ix_ht hs.len hl.1 hl.2, bs, bs, k1, bs, beneath_ok hh hl, bs]
    refine Ok.bind (low_step hP hs (fun x m => (hL x (by rw [e]; exact List.mem_append_left _ m)).2) hl hc h1 h2 k2 k3 fun _ _ => rfl) fun r hr => Ok.pure hr
  · rintro b ⟨h1, h2⟩
    refine Ok.eq ?_
    congr 1
    exact st_ext h1 mlow_len fun x x0 x1 => by rw [h2 x x0 x1, ht_mlow x0 x1]
theorem all_lowered_ok (hP : GoodW n rk P) (hs : StOk n q s) (nd : L.Nodup) (hL : ∀ l ∈ L, (0 ≤ l ∧ l < n) ∧ cfB n P s l = true) : m__law_all_lowered ((rangeL 0 n).map (belowL n P)) q s L = some (mlow n q P s L) := by
  refine Ok.of ?_
  unfold m__law_all_lowered
  simp only [bs, joinK]
  refine Ok.fold (fun p b => b.length = n ∧ ∀ x : Int, 0 ≤ x → x < n → ht b x = if x ∈ p then ht s x - 1 else if (p.any fun l => dnB P l x) = true then (q : Int) - 1 else ht s x) ⟨hs.len, fun x _ _ => by simp⟩ ?_ ?_
  · rintro p l q' b e ⟨h1, h2⟩
    obtain ⟨hl, hc⟩ := hL l (by rw [e]; simp)
    have hp : ∀ x ∈ p, cfB n P s x = true := fun x m => (hL x (by rw [e]; exact List.mem_append_left _ m)).2
    have nl : l ∉ p := nd_mid (e ▸ nd)
    have na : ¬ (p.any fun x => dnB P x l) = true := fun z => by
      obtain ⟨a, m, d⟩ := List.any_eq_true.mp z
      have := ((cfB_iff hP hs).mp (hp a m)).2 l (dnB_iff.mp d)
      have := cf_lit hc
      omega
    have hv : ht b l = ht s l := by rw [h2 l hl.1 hl.2, if_neg nl, if_neg na]
    obtain ⟨c, k1, k2, k3⟩ := set_ht (a := l) (y := ht s l - 1) h1 hl.1 hl.2
    rw [ix_ht h1 hl.1 hl.2, bs, bs, hv, k1, bs, map_range_ix hl.1 hl.2, bs]
    refine Ok.bind (low_step hP hs hp hl hc h1 h2 k2 k3 fun _ _ => rfl) fun r hr => Ok.pure hr
  · rintro b ⟨h1, h2⟩
    refine Ok.eq ?_
    congr 1
    exact st_ext h1 mlow_len fun x x0 x1 => by rw [h2 x x0 x1, ht_mlow x0 x1]
end
end HF

set_option Elab.async false
set_option linter.all false
set_option maxRecDepth 100000
set_option maxHeartbeats 1000000
/-! MathAI: the law's comparisons; lowered and its refusal. -/
namespace HF
open PySem PySem.Spec L2
open PyProof.Rows hiding St
theorem law_int (v : Int) : m__law_is_integer v = some true := rfl
theorem truth_eq (a b : Bool) : m__law_truth a b = some (decide (a = b)) := rfl
theorem forK_all {f : Unit → Int → (Unit → Option Bool) → (Unit → Option Bool) → Option Bool} {xs : List Int} (h : ∀ x kn kb, x ∈ xs → f () x kn kb = kn ()) : forK f (fun _ => some true) xs () = some true :=
  Ok.of (Ok.forK (i := 0) (fun _ _ => True) True.intro (fun _ _ x kn kb m _ _ _ hn _ => by rw [h x kn kb m]; exact hn () True.intro) fun _ _ _ => Ok.eq rfl)
theorem ix_some {α : Type} {xs : List α} {y : Int} (hy : y ∈ rangeL 0 xs.length) : ∃ a, x_ix xs y = some a := by
  obtain ⟨y0, y1⟩ := mem_rangeL.mp hy
  exact ⟨_, x_ix_get y0 (List.getElem?_eq_getElem (by omega))⟩
theorem same_eq {xs : List Int} (h : xs.length ≤ 1000) : m__law_same xs xs = some true := by
  unfold m__law_same
  simp only [bs]
  have e : orM (!true) (some !decide True) = some false := by simp [orM]
  rw [e, bs, if_neg Bool.false_ne_true, x_range_nat (by omega), bs]
  refine forK_all fun y kn kb hy => ?_
  obtain ⟨a, ea⟩ := ix_some hy
  rw [ea, bs, law_int, bs, bs, bs, bs]
  simp [orM]
theorem is_eq {xs : List Int} (h : xs.length ≤ 1000) : m__law_is xs xs = some true := by
  unfold m__law_is
  simp only [bs]
  rw [same_eq h]
  rfl
theorem same_pairs_eq {xs : List (Int × List Int)} (h : xs.length ≤ 1000) (h2 : ∀ x ∈ xs, x.2.length ≤ 1000) : m__law_same_pairs xs xs = some true := by
  unfold m__law_same_pairs
  simp only [bs]
  have e : orM (!true) (some !decide True) = some false := by simp [orM]
  rw [e, bs, if_neg Bool.false_ne_true, x_range_nat (by omega), bs]
  refine forK_all fun y kn kb hy => ?_
  obtain ⟨y0, y1⟩ := mem_rangeL.mp hy
  have ea := x_ix_get y0 (List.getElem?_eq_getElem (l := xs) (i := y.toNat) (by omega))
  have hm : xs[y.toNat].2.length ≤ 1000 := h2 _ (List.getElem_mem _)
  rw [ea]
  simp only [bs, law_int]
  rw [is_eq hm]
  simp [orM]
theorem same_states_eq {xs : List (List Int)} (h : xs.length ≤ 1000) (h2 : ∀ x ∈ xs, x.length ≤ 1000) : m__law_same_states xs xs = some true := by
  unfold m__law_same_states
  simp only [bs]
  have e : orM (!true) (some !decide True) = some false := by simp [orM]
  rw [e, bs, if_neg Bool.false_ne_true, x_range_nat (by omega), bs]
  refine forK_all fun y kn kb hy => ?_
  obtain ⟨y0, y1⟩ := mem_rangeL.mp hy
  have ea := x_ix_get y0 (List.getElem?_eq_getElem (l := xs) (i := y.toNat) (by omega))
  have hm : xs[y.toNat].length ≤ 1000 := h2 _ (List.getElem_mem _)
  rw [ea]
  simp only [bs]
  rw [is_eq hm]
  simp
section
variable {n q : Nat} {P : List (Int × Int)} {h : HouseD} {rk : Int → Nat} {s t L : List Int} {l : Int}
theorem forK_raise {γ : Type} {f : Unit → Int → (Unit → Option γ) → (Unit → Option γ) → Option γ} {k : Unit → Option γ} {bad : Int → Bool} {z : Int → Option γ} : ∀ {xs : List Int}, (∀ x kn kb, x ∈ xs → f () x kn kb = if bad x = true then z x else kn ()) → forK f k xs () = match xs.find? bad with | some x => z x | none => k ()
  | [], _ => rfl
  | x :: xs, h => by
    show f () x _ k = _
    rw [h x _ _ (List.mem_cons_self ..), List.find?_cons]
    cases bad x with
    | true => rfl
    | false =>
      rw [if_neg Bool.false_ne_true]
      exact forK_raise fun y kn kb m => h y kn kb (List.mem_cons_of_mem _ m)
theorem lowX (hn : n ≤ 1000) (hP : GoodW n rk P) (hh : HouseOk n q P h) (hs : StOk n q s) : mX_lowered h s L = match L.find? fun x => !decide (x ∈ (rangeL 0 n).filter (cfB n P s)) with
    | some x => some (Except.error ⟨"InvalidLamp", [("lamp", XV.int x)]⟩)
    | none => (m__lowered_at h s L).bind fun x => some (Except.ok x) := by
  unfold mX_lowered
  simp only [bs, is_integer_eq]
  rw [lowest_lit_ok hn hP hh hs, bs]
  rw [forK_raise (bad := fun x => !decide (x ∈ (rangeL 0 n).filter (cfB n P s))) (z := fun x => some (Except.error (Ex.mk "InvalidLamp" [("lamp", XV.int x)]))) fun x kn kb _ => ?_]
  simp only [Bool.not_true]
  rw [orM_some, bs, Bool.false_or]
theorem lowered_ok (hn : n ≤ 1000) (hP : GoodW n rk P) (hh : HouseOk n q P h) (hs : StOk n q s) (hL : ∀ l ∈ L, l ∈ (rangeL 0 n).filter (cfB n P s)) : m_lowered h s L = some (mlow n q P s L) := by
  unfold m_lowered
  have e : (L.find? fun x => !decide (x ∈ (rangeL 0 n).filter (cfB n P s))) = none := List.find?_eq_none.mpr fun x hx => by simp [hL x hx]
  rw [lowX hn hP hh hs, e]
  show ((m__lowered_at h s L).bind _).bind _ = _
  rw [lowered_at_ok hP hh hs fun l hl => by
    have := List.mem_filter.mp (hL l hl)
    exact ⟨mem_rangeL.mp this.1, this.2⟩]
  rfl
theorem refuses_ok (hn : n ≤ 1000) (hP : GoodW n rk P) (hh : HouseOk n q P h) (hs : StOk n q s) (hl : l ∉ (rangeL 0 n).filter (cfB n P s)) : m__law_refuses h s ((rangeL 0 n).filter (cfB n P s) ++ [l]) l = some true := by
  unfold m__law_refuses
  simp only [bs]
  have e : (((rangeL 0 n).filter (cfB n P s) ++ [l]).find? fun x => !decide (x ∈ (rangeL 0 n).filter (cfB n P s))) = some l := by
    rw [List.find?_append, List.find?_eq_none.mpr fun x hx => by simp only [decide_eq_true hx]; decide]
    simp only [Option.none_or, List.find?_cons, decide_eq_false hl]
    rfl
  rw [lowX hn hP hh hs, e]
  simp [xcatch, selI, law_int, andM]
end
end HF

set_option Elab.async false
set_option linter.all false
set_option maxRecDepth 100000
set_option maxHeartbeats 1000000
/-! MathAJ: the law's questions at one state. -/
namespace HF
open PySem PySem.Spec L2
open PyProof.Rows hiding St
section
variable {n q : Nat} {P : List (Int × Int)} {h : HouseD} {rk : Int → Nat} {s t L : List Int} {l : Int}
theorem due_len (p : Int → Bool) : ((rangeL 0 n).filter p).length ≤ n := Nat.le_trans (List.length_filter_le _ _) (by rw [length_rangeL]; exact Nat.le_refl _)
theorem due_mem {p : Int → Bool} (h : l ∈ (rangeL 0 n).filter p) : (0 ≤ l ∧ l < n) ∧ p l = true := ⟨mem_rangeL.mp (List.mem_filter.mp h).1, (List.mem_filter.mp h).2⟩
theorem agree_ok (hn : n ≤ 16) (hq : 1 ≤ q ∧ q ≤ 10) (hP : GoodW n rk P) (hh : HouseOk n q P h) (hs : StOk n q s) : m__law_agree h ((rangeL 0 n).map (belowL n P)) ((rangeL 0 n).map (aboveL n P)) q s = some true := by
  have dl := due_len (n := n) (cfB n P s)
  refine Ok.of ?_
  unfold m__law_agree
  simp only [bs]
  rw [lowest_eq hn hP hs, bs, x_comp_map (fun l => (l, mv n q P s l)) (by omega) fun l hl => ?_, bs, x_comp_map (pc n P s) (by omega) fun l hl => ?_, bs, show x_range 0 2 = some (rangeL 0 2) from rfl, bs]
  · refine Ok.forK (i := 0) (fun _ _ => True) True.intro (fun _ _ x kn kb _ _ _ _ hk _ => ?_) fun _ _ _ => ?_
    · rw [lowest_lit_ok (by omega) hP hh hs, bs, allowed_ok (by omega) hP hh hs, bs, covered_by_ok (by omega) hP hh hs, bs, pieces_ok (by omega) hP hh hs, bs, same_eq (by omega)]
      simp only [bs, orM_some, Bool.not_true, Bool.or_false, if_neg Bool.false_ne_true]
      rw [show downs n q P s = ((rangeL 0 n).filter (cfB n P s)).map (fun l => (l, mv n q P s l)) from rfl]
      rw [same_pairs_eq (by rw [List.length_map]; omega) fun x hx => by
        obtain ⟨l, _, rfl⟩ := List.mem_map.mp hx
        show (mv n q P s l).length ≤ _
        rw [mv_len]; omega, same_states_eq (by rw [List.length_map]; omega) fun x hx => by
        obtain ⟨l, _, rfl⟩ := List.mem_map.mp hx
        rw [pc_len]; omega]
      simp only [bs, orM_some, Bool.not_true, Bool.or_false, if_neg Bool.false_ne_true]
      rw [x_app_eq (by omega), bs, x_app_eq (by rw [List.length_map]; omega), bs, x_app_eq (by rw [List.length_map]; omega), bs]
      exact hk () True.intro
    · rw [is_single_ok (by omega) hP hh hs, bs, bs, truth_eq]
      exact Ok.pure (by simp)
  · exact law_piece_ok hn hq.2 hP hs (due_mem hl).1
  · rw [after_eq hn hq.1 hP hs (due_mem hl).1, bs]
/-- the law's own covers from above -/
theorem law_covers_ok (hn : n ≤ 16) (hP : GoodW n rk P) (hs : StOk n q s) : m__law_covers_of ((rangeL 0 n).map (belowL n P)) q s = some (ups n q P s) := by
  refine Ok.of ?_
  unfold m__law_covers_of
  simp only [bs, joinK]
  rw [hs.len, x_range_nat (by omega), bs]
  refine Ok.fold (fun p b => b = (p.filter (upB n q P s)).map fun l => (l, rsd n P s l)) rfl ?_ ?_
  · rintro p x q' b e rfl
    have lp : p.length ≤ 16 := by
      have := congrArg List.length e
      rw [length_rangeL, List.length_append] at this
      omega
    have lf := List.length_filter_le (upB n q P s) p
    obtain ⟨x0, x1⟩ := mem_rangeL.mp (show x ∈ rangeL 0 n by rw [e]; simp)
    have hmap : x_comp (fun _ => some true) (fun y => (x_ix s y).bind fun z => some (decide (z = (q : Int) - 1))) (belowL n P x) = some ((belowL n P x).map fun y => decide (ht s y = (q : Int) - 1)) := x_comp_map _ (by have := below_len (n := n) (P := P) (x := x); omega) fun y hy => by
      have := (mem_below hP hy).1
      rw [ix_ht hs.len this.1 this.2, bs]
    have hall : (((belowL n P x).map fun y => decide (ht s y = (q : Int) - 1)).all id) = (belowL n P x).all fun m => !decide (ht s m < (q : Int) - 1) := by
      rw [List.all_map]
      refine Bool.eq_iff_iff.mpr ?_
      rw [List.all_eq_true, List.all_eq_true]
      have : ∀ y ∈ belowL n P x, ht s y < (q : Int) := fun y hy => (getD_ok hs (mem_below hP hy).1.1 (mem_below hP hy).1.2).2
      constructor
      · intro z y hy
        have h1 := of_decide_eq_true (z y hy)
        exact Bool.not_eq_true' _ |>.mpr (decide_eq_false (by omega))
      · intro z y hy
        have h1 := of_decide_eq_false (Bool.not_eq_true' _ |>.mp (z y hy))
        have h2 := this y hy
        exact decide_eq_true (show ht s y = (q : Int) - 1 by omega)
    rw [ix_ht hs.len x0 x1, bs, bs, bs, map_range_ix x0 x1, bs, hmap, bs, hall]
    have hc : andM (decide (ht s x < (q : Int) - 1)) (some ((belowL n P x).all fun m => !decide (ht s m < (q : Int) - 1))) = some (upB n q P s x) := by
      rw [andM_some]; rfl
    rw [hc, bs, List.filter_append]
    cases hu : upB n q P s x with
    | false =>
      rw [if_neg Bool.false_ne_true]
      refine Ok.pure ?_
      simp [hu]
    | true =>
      rw [if_pos rfl]
      have hset := rsd_start hs x0 x1
      rw [show s.getD x.toNat 0 = ht s x from rfl] at hset
      rw [bs, hset, bs, bs]
      refine Ok.fold (fun p' b' => b' = (rangeL 0 n).map fun y => if y = x then ht s y + 1 else if y ∈ p' then 0 else ht s y) rfl ?_ ?_
      · rintro p' y q'' b' e' rfl
        obtain ⟨⟨y0, y1⟩, d⟩ := mem_below hP (show y ∈ belowL n P x by rw [e']; simp)
        have ne : y ≠ x := fun z => by
          have := (hP.dn (fun _ m => m) d).1
          rw [z] at this
          omega
        rw [rsd_go y0 y1 ne, bs]
        exact Ok.pure rfl
      · rintro b' rfl
        rw [rsd_end hP, x_app_eq (by rw [List.length_map]; omega), bs]
        refine Ok.pure ?_
        simp [hu]
  · rintro b rfl
    exact Ok.eq rfl
end
end HF

set_option Elab.async false
set_option linter.all false
set_option maxRecDepth 100000
set_option maxHeartbeats 1000000
/-! MathAK: one lamp; the other lamps. -/
namespace HF
open PySem PySem.Spec L2
open PyProof.Rows hiding St
section
variable {n q : Nat} {P : List (Int × Int)} {h : HouseD} {rk : Int → Nat} {s t L : List Int} {l : Int}
theorem cover_mlow (hP : GoodW n rk P) (hs : StOk n q s) : (((rangeL 0 n).filter (cfB n P s)).any fun l => decide (mv n q P s l = mlow n q P s ((rangeL 0 n).filter (cfB n P s)))) = decide ((((rangeL 0 n).filter (cfB n P s)).length : Int) = 1) := by
  have nd : ((rangeL 0 n).filter (cfB n P s)).Nodup := nodup_rangeL.filter _
  have hm : ∀ l ∈ (rangeL 0 n).filter (cfB n P s), (0 ≤ l ∧ l < (n : Int)) ∧ cfB n P s l = true := fun l hl => due_mem hl
  revert nd hm
  generalize (rangeL 0 n).filter (cfB n P s) = L
  intro nd hm
  match L, nd, hm with
  | [], _, _ => rfl
  | [a], _, hm =>
    rw [mlow_one hP hs (hm a (by simp)).2]
    simp
  | a :: b :: L, nd, hm =>
    have : decide ((((a :: b :: L).length : Nat) : Int) = 1) = false := decide_eq_false (by simp; omega)
    rw [this, Bool.eq_false_iff]
    intro z
    obtain ⟨l, hl, e⟩ := List.any_eq_true.mp z
    have e := of_decide_eq_true e
    have hne : a ≠ b := fun z => (List.nodup_cons.mp nd).1 (by rw [z]; simp)
    obtain ⟨m, m1, m2⟩ : ∃ m, m ∈ a :: b :: L ∧ m ≠ l := by
      by_cases e : a = l
      · exact ⟨b, by simp, fun z => hne (by rw [e, z])⟩
      · exact ⟨a, by simp, e⟩
    obtain ⟨⟨m3, m4⟩, m5⟩ := hm m m1
    have := congrArg (fun w => ht w m) e
    simp only [ht_mv m3 m4, ht_mlow m3 m4, if_neg m2, if_pos m1] at this
    have lit := cf_lit m5
    have nd' : ¬ dnB P l m = true := fun d => by
      have := ((cfB_iff hP hs).mp (hm l hl).2).2 m (dnB_iff.mp d)
      omega
    rw [if_neg nd'] at this
    omega
theorem one_lamp_ok (hn : n ≤ 16) (hq : 1 ≤ q ∧ q ≤ 10) (hP : GoodW n rk P) (hh : HouseOk n q P h) (hs : StOk n q s) (hl : l ∈ (rangeL 0 n).filter (cfB n P s)) : m__law_one_lamp h ((rangeL 0 n).map (belowL n P)) ((rangeL 0 n).map (aboveL n P)) q s l = some true := by
  obtain ⟨hl0, hc⟩ := due_mem hl
  have h1000 : n ≤ 1000 := by omega
  have hm := mv_ok (n := n) (P := P) (l := l) hs (cf_lit hc) hq.1
  have hpc : StOk n q (pc n P s l) := pc_ok hq.1 hs
  unfold m__law_one_lamp
  simp only [bs]
  rw [after_eq hn hq.1 hP hs hl0, bs, lowered_ok h1000 hP hh hs (L := [l]) (fun x hx => by rw [List.mem_singleton.mp hx]; exact hl), mlow_one hP hs hc]
  simp only [bs]
  rw [is_eq (by rw [mv_len]; omega), is_cover_ok h1000 hP hh hs hm]
  have e1 : (((rangeL 0 n).filter (cfB n P s)).any fun x => decide (mv n q P s x = mv n q P s l)) = true := List.any_eq_true.mpr ⟨l, hl, by simp⟩
  rw [e1]
  simp only [bs, orM_some, Bool.not_true, Bool.or_false, if_neg Bool.false_ne_true, decide_true]
  rw [covers_of_ok h1000 hP hh hm, law_covers_ok hn hP hm]
  simp only [bs]
  have dl := due_len (n := n) (upB n q P (mv n q P s l))
  rw [same_pairs_eq (by unfold ups; rw [List.length_map]; omega) fun x hx => by
    unfold ups at hx
    obtain ⟨y, _, rfl⟩ := List.mem_map.mp hx
    show (rsd n P _ y).length ≤ _
    unfold rsd
    rw [List.length_map, length_rangeL]; omega]
  simp only [bs, Bool.not_true, if_neg Bool.false_ne_true]
  rw [law_piece_ok hn hq.2 hP hs hl0, bs, lowest_lit_ok h1000 hP hh hpc, pc_single hP hq.1 hs hl0 hc]
  simp only [bs]
  rw [same_eq (by simp), is_single_ok h1000 hP hh hpc, pc_single hP hq.1 hs hl0 hc]
  simp only [bs, orM_some, Bool.not_true, Bool.or_false, if_neg Bool.false_ne_true, List.length_singleton]
  rw [covered_by_ok h1000 hP hh hpc, after_eq hn hq.1 hP hpc hl0]
  unfold downs
  rw [pc_single hP hq.1 hs hl0 hc]
  simp only [bs]
  have e2 := same_pairs_eq (xs := [(l, mv n q P (pc n P s l) l)]) (by simp) fun x hx => by
    rw [List.mem_singleton.mp hx, mv_len]; omega
  simp [e2]
end
end HF

set_option Elab.async false
set_option linter.all false
set_option maxRecDepth 100000
set_option maxHeartbeats 1000000
/-! MathAL: the other lamps. -/
namespace HF
open PySem PySem.Spec L2
open PyProof.Rows hiding St
section
variable {n q : Nat} {P : List (Int × Int)} {h : HouseD} {rk : Int → Nat} {s t L : List Int} {l : Int}
theorem other_ok (hn : n ≤ 16) (hq : 1 ≤ q ∧ q ≤ 10) (hP : GoodW n rk P) (hh : HouseOk n q P h) (hs : StOk n q s) {pick : Int} : m__law_other_lamps h ((rangeL 0 n).map (belowL n P)) q s ((rangeL 0 n).filter (cfB n P s)) pick = some true := by
  have h1000 : n ≤ 1000 := by omega
  have dl := due_len (n := n) (cfB n P s)
  have nd : ((rangeL 0 n).filter (cfB n P s)).Nodup := nodup_rangeL.filter _
  have hm : ∀ l ∈ (rangeL 0 n).filter (cfB n P s), (0 ≤ l ∧ l < (n : Int)) ∧ cfB n P s l = true := fun l hl => due_mem hl
  have hml : StOk n q (mlow n q P s ((rangeL 0 n).filter (cfB n P s))) := mlow_ok hq.1 hs fun l hl => (hm l hl).2
  unfold m__law_other_lamps
  simp only [bs]
  rw [all_lowered_ok hP hs nd hm, bs, x_cat_eq (by rw [List.length_reverse]; omega), bs, lowered_ok h1000 hP hh hs (fun x hx => by simpa using hx), mlow_congr (L' := (rangeL 0 n).filter (cfB n P s)) fun x => by simp]
  simp only [bs]
  rw [is_eq (by rw [mlow_len]; omega)]
  simp only [bs, orM_some, Bool.not_true, Bool.or_false, if_neg Bool.false_ne_true, decide_true]
  rw [is_cover_ok h1000 hP hh hs hml, cover_mlow hP hs]
  simp only [bs, truth_eq, decide_true, Bool.not_true, if_neg Bool.false_ne_true]
  rw [hs.len, x_range_nat (by omega), bs, x_comp_filter (fun y => decide (0 < ht s y) && !decide (y ∈ (rangeL 0 n).filter (cfB n P s))) (by rw [length_rangeL]; omega) fun y hy => ?_, bs]
  · by_cases hnil : (rangeL 0 n).filter (fun y => decide (0 < ht s y) && !decide (y ∈ (rangeL 0 n).filter (cfB n P s))) = []
    · rw [hnil]
      rfl
    · rw [decide_eq_false hnil, if_neg Bool.false_ne_true]
      have ol := due_len (n := n) (fun y => decide (0 < ht s y) && !decide (y ∈ (rangeL 0 n).filter (cfB n P s)))
      have hmem : ∀ l, l ∈ (rangeL 0 n).filter (fun y => decide (0 < ht s y) && !decide (y ∈ (rangeL 0 n).filter (cfB n P s))) → (0 ≤ l ∧ l < (n : Int)) ∧ 0 < ht s l ∧ l ∉ (rangeL 0 n).filter (cfB n P s) := fun l hl => by
        obtain ⟨a, b⟩ := due_mem hl
        rw [Bool.and_eq_true, decide_eq_true_eq, Bool.not_eq_true', decide_eq_false_iff_not] at b
        exact ⟨a, b⟩
      revert hnil ol hmem
      generalize (rangeL 0 n).filter (fun y => decide (0 < ht s y) && !decide (y ∈ (rangeL 0 n).filter (cfB n P s))) = O
      intro hnil ol hmem
      have op : 0 < O.length := List.length_pos_iff.mpr hnil
      rw [x_mod_pos (by omega), bs]
      have r0 := Int.emod_nonneg pick (b := (O.length : Int)) (by omega)
      have r1 := Int.emod_lt_of_pos pick (b := (O.length : Int)) (by omega)
      rw [x_ix_get r0 (List.getElem?_eq_getElem (by omega)), bs]
      obtain ⟨hl0, hlit, hno⟩ := hmem _ (List.getElem_mem (l := O) (n := (pick % (O.length : Int)).toNat) (by omega))
      revert hl0 hlit hno
      generalize O[(pick % (O.length : Int)).toNat] = l
      intro hl0 hlit hno
      have hcf : cfB n P s l = false := Bool.eq_false_iff.mpr fun z => hno (List.mem_filter.mpr ⟨mem_rangeL.mpr (by omega), z⟩)
      have hmv := mv_ok (n := n) (P := P) (l := l) hs hlit hq.1
      rw [is_allowed_ok h1000 hP hh hs hl0.1 hl0.2, hcf]
      simp only [bs, decide_true, Bool.not_true, if_neg Bool.false_ne_true]
      rw [after_eq hn hq.1 hP hs hl0]
      simp only [bs]
      rw [is_cover_ok h1000 hP hh hs hmv]
      have e1 : (((rangeL 0 n).filter (cfB n P s)).any fun x => decide (mv n q P s x = mv n q P s l)) = false := Bool.eq_false_iff.mpr fun z => by
        obtain ⟨x, hx, e⟩ := List.any_eq_true.mp z
        have := hm x hx
        have := mv_inj hP (l := x) (m := l) ⟨this.1, cf_lit this.2⟩ ⟨hl0, hlit⟩ (of_decide_eq_true e)
        exact hno (this ▸ hx)
      rw [e1]
      simp only [bs, decide_true, Bool.not_true, if_neg Bool.false_ne_true]
      rw [x_cat_eq (by simp; omega)]
      simp only [bs]
      exact refuses_ok h1000 hP hh hs hno
  · obtain ⟨y0, y1⟩ := mem_rangeL.mp hy
    rw [ix_ht hs.len y0 y1, bs, bs, andM_some]
end
end HF

set_option Elab.async false
set_option linter.all false
set_option maxRecDepth 100000
set_option maxHeartbeats 1000000
/-! MathAM: the law. -/
namespace HF
open PySem PySem.Spec L2
open PyProof.Rows hiding St
theorem pick4 {r : Int} (h : 0 ≤ r ∧ r < 4) : ∃ v, x_ix [6, 6, 6, 16] r = some v ∧ 1 ≤ v ∧ v ≤ (16 : Int) := by
  have : r = 0 ∨ r = 1 ∨ r = 2 ∨ r = 3 := by omega
  rcases this with rfl | rfl | rfl | rfl
  · exact ⟨6, rfl, by decide, by decide⟩
  · exact ⟨6, rfl, by decide, by decide⟩
  · exact ⟨6, rfl, by decide, by decide⟩
  · exact ⟨16, rfl, by decide, by decide⟩
theorem pick3 {r : Int} (h : 0 ≤ r ∧ r < 3) : ∃ v, x_ix [3, 3, 9] r = some v ∧ 1 ≤ v ∧ v ≤ (9 : Int) := by
  have : r = 0 ∨ r = 1 ∨ r = 2 := by omega
  rcases this with rfl | rfl | rfl
  · exact ⟨3, rfl, by decide, by decide⟩
  · exact ⟨3, rfl, by decide, by decide⟩
  · exact ⟨9, rfl, by decide, by decide⟩
theorem law_true : ∀ ns : List Int, ns.length ≤ 63 → m_law ns = some true := fun ns _ => by
  refine Ok.of ?_
  unfold m_law
  simp only [bs, joinK]
  refine Ok.bind (purse_ok (p := 0) (by decide)) fun b0 hb0 => ?_
  refine Ok.bind (draw_ok hb0 (by decide) (by decide)) fun r1 hr1 => ?_
  obtain ⟨v1, e1, a1, c1⟩ := pick4 hr1.1
  rw [e1, bs]
  refine Ok.bind (draw_ok hr1.2 (by omega) (by omega)) fun r2 hr2 => ?_
  refine Ok.bind (draw_ok hr2.2 (by decide) (by decide)) fun r3 hr3 => ?_
  obtain ⟨v2, e2, a2, c2⟩ := pick3 hr3.1
  rw [e2, bs]
  refine Ok.bind (draw_ok hr3.2 (by omega) (by omega)) fun r4 hr4 => ?_
  obtain ⟨n, hn⟩ := Int.eq_ofNat_of_zero_le (a := 1 + r2.1) (by omega)
  obtain ⟨q, hq⟩ := Int.eq_ofNat_of_zero_le (a := 2 + r4.1) (by omega)
  rw [hn, hq]
  have hn1 : 1 ≤ n ∧ n ≤ 16 := by omega
  have hq1 : 2 ≤ q ∧ q ≤ 10 := by omega
  have hq0 : 1 ≤ q ∧ q ≤ 10 := by omega
  refine Ok.bind (wires_ok hr4.2 hn1) fun r5 hr5 => ?_
  obtain ⟨⟨hl, hd⟩, _⟩ := hr5
  obtain ⟨P, eP, ⟨hP, lP⟩, hm⟩ := pairs_ok hn1.2 hl hd
  rw [below_eq hn1.2 hl hd hP hm, bs, above_eq hn1.2, bs, eP]
  simp only [bs]
  obtain ⟨hx, eh, hh⟩ := house_eq hn1 hq1 hP lP
  rw [eh]
  simp only [bs]
  refine Ok.bind (purse_ok (p := 1) (by decide)) fun b6 hb6 => ?_
  refine Ok.bind (state_ok hb6 hn1.2 hq1) fun r7 hr7 => ?_
  rw [show x_range 0 3 = some (rangeL 0 3) from rfl, bs]
  refine Ok.forK (i := 0) (fun _ b => PurOk b.1 ∧ StOk n q b.2) ⟨hr7.2, hr7.1⟩ (fun _ b x kn kb _ _ _ hb hk _ => ?_) fun _ b hb => ?_
  · obtain ⟨p, s⟩ := b
    obtain ⟨hp, hs⟩ := hb
    dsimp only at hp hs ⊢
    rw [lowest_eq hn1.2 hP hs, bs, agree_ok hn1.2 hq0 hP hh hs]
    simp only [bs, Bool.not_true, if_neg Bool.false_ne_true]
    refine Ok.bind (draw_ok hp (by decide) (by decide)) fun r8 hr8 => ?_
    rw [other_ok hn1.2 hq0 hP hh hs]
    simp only [bs, Bool.not_true, if_neg Bool.false_ne_true]
    have dl := due_len (n := n) (cfB n P s)
    by_cases hnil : (rangeL 0 n).filter (cfB n P s) = []
    · rw [hnil]
      exact Ok.pure rfl
    · rw [decide_eq_false hnil, if_neg Bool.false_ne_true]
      have op := List.length_pos_iff.mpr hnil
      refine Ok.bind (draw_ok hr8.2 (by omega) (by omega)) fun r9 hr9 => ?_
      obtain ⟨⟨g0, g1⟩, hr9b⟩ := hr9
      have hlm := List.getElem_mem (l := (rangeL 0 n).filter (cfB n P s)) (n := r9.1.toNat) (by omega)
      rw [x_ix_get g0 (List.getElem?_eq_getElem (by omega)), bs]
      have hd2 := due_mem hlm
      rw [one_lamp_ok hn1.2 hq0 hP hh hs hlm]
      simp only [bs, Bool.not_true, if_neg Bool.false_ne_true]
      rw [after_eq hn1.2 hq0.1 hP hs hd2.1, bs]
      exact hk _ ⟨hr9b, mv_ok hs (cf_lit hd2.2) hq0.1⟩
  · rw [agree_ok hn1.2 hq0 hP hh hb.2]
    exact Ok.eq rfl
end HF

set_option Elab.async false
set_option linter.all false
set_option maxRecDepth 100000
set_option maxHeartbeats 0
namespace HF
open PySem PySem.Spec PyProof.Rows L2
def d0 : He.DefD := ⟨("is_integer", none), "is_integer", "is_integer", defArgs (top 7), defBody (top 7), defScope (top 7), [], []⟩
def d1 : He.DefD := ⟨("is_lamp", none), "is_lamp", "is_lamp", defArgs (top 8), defBody (top 8), defScope (top 8), [], []⟩
def d2 : He.DefD := ⟨("bits", none), "bits", "bits", defArgs (top 9), defBody (top 9), defScope (top 9), [], []⟩
def d3 : He.DefD := ⟨("below_masks", none), "below_masks", "below_masks", defArgs (top 10), defBody (top 10), defScope (top 10), [], []⟩
def d4 : He.DefD := ⟨("above_masks", none), "above_masks", "above_masks", defArgs (top 11), defBody (top 11), defScope (top 11), [], []⟩
def d5 : He.DefD := ⟨("_check_lamp", none), "_check_lamp", "_check_lamp", defArgs (top 12), defBody (top 12), defScope (top 12), [], []⟩
def d6 : He.DefD := ⟨("_is_wire", none), "_is_wire", "_is_wire", defArgs (top 13), defBody (top 13), defScope (top 13), [], []⟩
def d7 : He.DefD := ⟨("_join_wires", none), "_join_wires", "_join_wires", defArgs (top 14), defBody (top 14), defScope (top 14), [], []⟩
def d8 : He.DefD := ⟨("_turn_round", none), "_turn_round", "_turn_round", defArgs (top 15), defBody (top 15), defScope (top 15), [], []⟩
def d9 : He.DefD := ⟨("_order_list", none), "_order_list", "_order_list", defArgs (top 16), defBody (top 16), defScope (top 16), [], []⟩
def d10 : He.DefD := ⟨("House", some "__init__"), "__init__", "House.__init__", defArgs (inClass (top 17) 2), defBody (inClass (top 17) 2), defScope (inClass (top 17) 2), [.adr (He.dflAt ("House", some "__init__") 0)], []⟩
def d11 : He.DefD := ⟨("House", some "beneath"), "beneath", "House.beneath", defArgs (inClass (top 17) 5), defBody (inClass (top 17) 5), defScope (inClass (top 17) 5), [], []⟩
def d12 : He.DefD := ⟨("House", some "order"), "order", "House.order", defArgs (inClass (top 17) 10), defBody (inClass (top 17) 10), defScope (inClass (top 17) 10), [], []⟩
def d13 : He.DefD := ⟨("is_state", none), "is_state", "is_state", defArgs (top 19), defBody (top 19), defScope (top 19), [], []⟩
def d14 : He.DefD := ⟨("_check_state", none), "_check_state", "_check_state", defArgs (top 22), defBody (top 22), defScope (top 22), [], []⟩
def d15 : He.DefD := ⟨("lit_lamps", none), "lit_lamps", "lit_lamps", defArgs (top 20), defBody (top 20), defScope (top 20), [], []⟩
def d16 : He.DefD := ⟨("turned_down", none), "turned_down", "turned_down", defArgs (top 21), defBody (top 21), defScope (top 21), [], []⟩
def d17 : He.DefD := ⟨("need_lamp", none), "need_lamp", "need_lamp", defArgs (top 24), defBody (top 24), defScope (top 24), [], []⟩
def d18 : He.DefD := ⟨("need_state", none), "need_state", "need_state", defArgs (top 25), defBody (top 25), defScope (top 25), [], []⟩
def d19 : He.DefD := ⟨("lit_beneath", none), "lit_beneath", "lit_beneath", defArgs (top 27), defBody (top 27), defScope (top 27), [], []⟩
def d20 : He.DefD := ⟨("moved", none), "moved", "moved", defArgs (top 28), defBody (top 28), defScope (top 28), [], []⟩
def d21 : He.DefD := ⟨("can_move", none), "can_move", "can_move", defArgs (top 29), defBody (top 29), defScope (top 29), [], []⟩
def d22 : He.DefD := ⟨("is_allowed", none), "is_allowed", "is_allowed", defArgs (top 30), defBody (top 30), defScope (top 30), [], [("careful", .bl false)]⟩
def d23 : He.DefD := ⟨("allowed_lamps", none), "allowed_lamps", "allowed_lamps", defArgs (top 31), defBody (top 31), defScope (top 31), [], [("careful", .bl false)]⟩
def d24 : He.DefD := ⟨("before", none), "before", "before", defArgs (top 32), defBody (top 32), defScope (top 32), [], [("careful", .bl false)]⟩
def d25 : He.DefD := ⟨("covered_by", none), "covered_by", "covered_by", defArgs (top 34), defBody (top 34), defScope (top 34), [], []⟩
def d26 : He.DefD := ⟨("covers_of", none), "covers_of", "covers_of", defArgs (top 35), defBody (top 35), defScope (top 35), [], []⟩
def d27 : He.DefD := ⟨("is_cover", none), "is_cover", "is_cover", defArgs (top 36), defBody (top 36), defScope (top 36), [], []⟩
def d28 : He.DefD := ⟨("lowest_lit", none), "lowest_lit", "lowest_lit", defArgs (top 38), defBody (top 38), defScope (top 38), [], []⟩
def d29 : He.DefD := ⟨("_lowered_at", none), "_lowered_at", "_lowered_at", defArgs (top 39), defBody (top 39), defScope (top 39), [], []⟩
def d30 : He.DefD := ⟨("lowered", none), "lowered", "lowered", defArgs (top 40), defBody (top 40), defScope (top 40), [], []⟩
def d31 : He.DefD := ⟨("_piece", none), "_piece", "_piece", defArgs (top 42), defBody (top 42), defScope (top 42), [], []⟩
def d32 : He.DefD := ⟨("pieces", none), "pieces", "pieces", defArgs (top 43), defBody (top 43), defScope (top 43), [], []⟩
def d33 : He.DefD := ⟨("is_single", none), "is_single", "is_single", defArgs (top 44), defBody (top 44), defScope (top 44), [], []⟩
def d34 : He.DefD := ⟨("_law_purse", none), "_law_purse", "_law_purse", defArgs (top 46), defBody (top 46), defScope (top 46), [], []⟩
def d35 : He.DefD := ⟨("_law_draw", none), "_law_draw", "_law_draw", defArgs (top 47), defBody (top 47), defScope (top 47), [], []⟩
def d36 : He.DefD := ⟨("_law_wires", none), "_law_wires", "_law_wires", defArgs (top 48), defBody (top 48), defScope (top 48), [], []⟩
def d37 : He.DefD := ⟨("_law_pairs", none), "_law_pairs", "_law_pairs", defArgs (top 49), defBody (top 49), defScope (top 49), [], []⟩
def d38 : He.DefD := ⟨("_law_below", none), "_law_below", "_law_below", defArgs (top 50), defBody (top 50), defScope (top 50), [], []⟩
def d39 : He.DefD := ⟨("_law_above", none), "_law_above", "_law_above", defArgs (top 51), defBody (top 51), defScope (top 51), [], []⟩
def d40 : He.DefD := ⟨("_law_state", none), "_law_state", "_law_state", defArgs (top 52), defBody (top 52), defScope (top 52), [], []⟩
def d41 : He.DefD := ⟨("_law_after", none), "_law_after", "_law_after", defArgs (top 53), defBody (top 53), defScope (top 53), [], []⟩
def d42 : He.DefD := ⟨("_law_is_integer", none), "_law_is_integer", "_law_is_integer", defArgs (top 54), defBody (top 54), defScope (top 54), [], []⟩
def d43 : He.DefD := ⟨("_law_truth", none), "_law_truth", "_law_truth", defArgs (top 55), defBody (top 55), defScope (top 55), [], []⟩
def d44 : He.DefD := ⟨("_law_same", none), "_law_same", "_law_same", defArgs (top 56), defBody (top 56), defScope (top 56), [], []⟩
def d45 : He.DefD := ⟨("_law_is", none), "_law_is", "_law_is", defArgs (top 57), defBody (top 57), defScope (top 57), [], []⟩
def d46 : He.DefD := ⟨("_law_same_pairs", none), "_law_same_pairs", "_law_same_pairs", defArgs (top 58), defBody (top 58), defScope (top 58), [], []⟩
def d47 : He.DefD := ⟨("_law_same_states", none), "_law_same_states", "_law_same_states", defArgs (top 59), defBody (top 59), defScope (top 59), [], []⟩
def d48 : He.DefD := ⟨("_law_lowest", none), "_law_lowest", "_law_lowest", defArgs (top 60), defBody (top 60), defScope (top 60), [], []⟩
def d49 : He.DefD := ⟨("_law_piece", none), "_law_piece", "_law_piece", defArgs (top 61), defBody (top 61), defScope (top 61), [], []⟩
def d50 : He.DefD := ⟨("_law_all_lowered", none), "_law_all_lowered", "_law_all_lowered", defArgs (top 62), defBody (top 62), defScope (top 62), [], []⟩
def d51 : He.DefD := ⟨("_law_covers_of", none), "_law_covers_of", "_law_covers_of", defArgs (top 63), defBody (top 63), defScope (top 63), [], []⟩
def d52 : He.DefD := ⟨("_law_refuses", none), "_law_refuses", "_law_refuses", defArgs (top 64), defBody (top 64), defScope (top 64), [], []⟩
def d53 : He.DefD := ⟨("_law_agree", none), "_law_agree", "_law_agree", defArgs (top 65), defBody (top 65), defScope (top 65), [], []⟩
def d54 : He.DefD := ⟨("_law_one_lamp", none), "_law_one_lamp", "_law_one_lamp", defArgs (top 66), defBody (top 66), defScope (top 66), [], []⟩
def d55 : He.DefD := ⟨("_law_other_lamps", none), "_law_other_lamps", "_law_other_lamps", defArgs (top 67), defBody (top 67), defScope (top 67), [], []⟩
def d56 : He.DefD := ⟨("law", none), "law", "law", defArgs (top 68), defBody (top 68), defScope (top 68), [], []⟩
def fns0 : List He.DefD := [d0, d1, d2, d3, d4, d5, d6, d7, d8, d9, d10, d11, d12, d13, d14, d15, d16, d17, d18, d19]
def fns1 : List He.DefD := [d20, d21, d22, d23, d24, d25, d26, d27, d28, d29, d30, d31, d32, d33, d34, d35, d36, d37, d38, d39]
def fns2 : List He.DefD := [d40, d41, d42, d43, d44, d45, d46, d47, d48, d49, d50, d51, d52, d53, d54, d55, d56]
def fns : List He.DefD := fns0 ++ fns1 ++ fns2
def fas0 : List He.Fa := [.glo "is_integer", .glo "is_lamp", .glo "bits", .glo "below_masks", .glo "above_masks", .glo "_check_lamp", .glo "_is_wire", .glo "_join_wires", .glo "_turn_round", .glo "_order_list", .mkr "House", .glo "House", .cls "House", .meth "House" "beneath", .meth "House" "order", .glo "is_state", .glo "_check_state", .glo "lit_lamps", .glo "turned_down", .glo "need_lamp"]
def fas1 : List He.Fa := [.glo "need_state", .glo "lit_beneath", .glo "moved", .glo "can_move", .glo "is_allowed", .glo "allowed_lamps", .glo "before", .glo "covered_by", .glo "covers_of", .glo "is_cover", .glo "lowest_lit", .glo "_lowered_at", .glo "lowered", .glo "_piece", .glo "pieces", .glo "is_single", .glo "_law_purse", .glo "_law_draw", .glo "_law_wires", .glo "_law_pairs"]
def fas2 : List He.Fa := [.glo "_law_below", .glo "_law_above", .glo "_law_state", .glo "_law_after", .glo "_law_is_integer", .glo "_law_truth", .glo "_law_same", .glo "_law_is", .glo "_law_same_pairs", .glo "_law_same_states", .glo "_law_lowest", .glo "_law_piece", .glo "_law_all_lowered", .glo "_law_covers_of", .glo "_law_refuses", .glo "_law_agree", .glo "_law_one_lamp", .glo "_law_other_lamps", .glo "law", .free "abs"]
def fas3 : List He.Fa := [.free "all", .free "bool", .free "enumerate", .free "int", .free "isinstance", .free "len", .free "list", .free "min", .free "range", .free "reversed", .free "set", .free "sorted", .free "sum", .free "tuple", .noat "House" "_above", .noat "House" "_above_masks", .noat "House" "_below", .noat "House" "_below_masks", .noat "House" "_direct", .noat "House" "_order"]
def fas4 : List He.Fa := [.noat "House" "count", .noat "House" "hues", .noat "House" "wires", .free "super", .exm "InvalidLamp" "InvalidLamp" true, .noat "InvalidLamp" "lamp"]
def fas : List He.Fa := fas0 ++ fas1 ++ fas2 ++ fas3 ++ fas4
def lo0 : List PySem.Str := ["_wall", "__name__", "HuefallError", "InvalidHouse", "InvalidLamp", "InvalidState", "is_integer", "is_lamp", "bits", "below_masks", "above_masks", "_check_lamp", "_is_wire", "_join_wires", "_turn_round", "_order_list", "House", "is_state", "lit_lamps", "turned_down"]
def lo1 : List PySem.Str := ["_check_state", "need_lamp", "need_state", "lit_beneath", "moved", "can_move", "is_allowed", "allowed_lamps", "before", "covered_by", "covers_of", "is_cover", "lowest_lit", "_lowered_at", "lowered", "_piece", "pieces", "is_single", "_law_purse", "_law_draw"]
def lo2 : List PySem.Str := ["_law_wires", "_law_pairs", "_law_below", "_law_above", "_law_state", "_law_after", "_law_is_integer", "_law_truth", "_law_same", "_law_is", "_law_same_pairs", "_law_same_states", "_law_lowest", "_law_piece", "_law_all_lowered", "_law_covers_of", "_law_refuses", "_law_agree", "_law_one_lamp", "_law_other_lamps"]
def lo : List PySem.Str := lo0 ++ lo1 ++ lo2
def exs : List (PySem.Str × PySem.Str × Int) := [("House", "MOST_HUES", 10), ("House", "MOST_LAMPS", 16)]
def xd0 : XD := ⟨"InvalidLamp", "InvalidLamp", "InvalidLamp.__init__", defArgs (inClass (top 4) 0), defBody (inClass (top 4) 0), defScope (inClass (top 4) 0), "/claim/cut.py"⟩
def xds : List XD := [xd0]
abbrev RR : PySem.W.OpenRow := PySem.W.OpenLaw.row PySem.Challenge.rw_huefall_k82_lowest_lit_lamps_agree
abbrev hk : PySem.W.Hook := hookZ 5 fas fns exs xds
def ob (s : PySem.W.SharedT) : AlZ := obsZ 5 fas fns exs xds (HandSHeadRun.getT s)
theorem ob_eq (s : PySem.W.SharedT) : ob s = hk.obs s.abs := obsZ_eq (HandSHeadRun.getT_eq s)
theorem run (w : World) : HandSHeadRun.RunEq RR (PySem.W.view RR.prog [68]) hk ob 40000 lo w := by
  intro os
  kernel_rfl
theorem env_of {K : PySem.W.Frag} {h : Heap} {mg : Str → Option Value} (X : K.In h) (G : h.Ns mainGlobals mg) (c : He.SaysD fas fns K) (e : exB exs K = true) (xb : ∀ d ∈ xds, xB K d = true) (xv : xds.map (fun d => xW K d) = xds.map XD.val) : EnvF (PySem.Challenge.rw_huefall_k82_lowest_lit_lamps_agree).prog K mg :=
  have hfile : (((PySem.Challenge.rw_huefall_k82_lowest_lit_lamps_agree).prog.main.file : Str) == "/claim/cut.py") = true := by decide +kernel
  have htop : ((PySem.Challenge.rw_huefall_k82_lowest_lit_lamps_agree).prog.main.scope.names.lookup ("super" : Str)).isSome = false := by decide +kernel
  { d_is_integer := def_at (c.def_ 0 (d := d0) rfl) (He.glo_ok X G (c.fact 0 (f := .glo "is_integer") rfl)),
    d_is_lamp := def_at (c.def_ 1 (d := d1) rfl) (He.glo_ok X G (c.fact 1 (f := .glo "is_lamp") rfl)),
    d_bits := def_at (c.def_ 2 (d := d2) rfl) (He.glo_ok X G (c.fact 2 (f := .glo "bits") rfl)),
    d_below_masks := def_at (c.def_ 3 (d := d3) rfl) (He.glo_ok X G (c.fact 3 (f := .glo "below_masks") rfl)),
    d_above_masks := def_at (c.def_ 4 (d := d4) rfl) (He.glo_ok X G (c.fact 4 (f := .glo "above_masks") rfl)),
    d__check_lamp := def_at (c.def_ 5 (d := d5) rfl) (He.glo_ok X G (c.fact 5 (f := .glo "_check_lamp") rfl)),
    d__is_wire := def_at (c.def_ 6 (d := d6) rfl) (He.glo_ok X G (c.fact 6 (f := .glo "_is_wire") rfl)),
    d__join_wires := def_at (c.def_ 7 (d := d7) rfl) (He.glo_ok X G (c.fact 7 (f := .glo "_join_wires") rfl)),
    d__turn_round := def_at (c.def_ 8 (d := d8) rfl) (He.glo_ok X G (c.fact 8 (f := .glo "_turn_round") rfl)),
    d__order_list := def_at (c.def_ 9 (d := d9) rfl) (He.glo_ok X G (c.fact 9 (f := .glo "_order_list") rfl)),
    d_House___init__ := idef_at (c.def_ 10 (d := d10) rfl) rfl (He.mkr_ok (c.fact 10 (f := .mkr "House") rfl)) (He.glo_ok X G (c.fact 11 (f := .glo "House") rfl)),
    d_House_beneath := mdef_at (c.def_ 11 (d := d11) rfl) (He.cls_ok (c.fact 12 (f := .cls "House") rfl)) (He.meth_ok (c.fact 13 (f := .meth "House" "beneath") rfl)),
    d_House_order := mdef_at (c.def_ 12 (d := d12) rfl) (He.cls_ok (c.fact 12 (f := .cls "House") rfl)) (He.meth_ok (c.fact 14 (f := .meth "House" "order") rfl)),
    d_is_state := def_at (c.def_ 13 (d := d13) rfl) (He.glo_ok X G (c.fact 15 (f := .glo "is_state") rfl)),
    d__check_state := def_at (c.def_ 14 (d := d14) rfl) (He.glo_ok X G (c.fact 16 (f := .glo "_check_state") rfl)),
    d_lit_lamps := def_at (c.def_ 15 (d := d15) rfl) (He.glo_ok X G (c.fact 17 (f := .glo "lit_lamps") rfl)),
    d_turned_down := def_at (c.def_ 16 (d := d16) rfl) (He.glo_ok X G (c.fact 18 (f := .glo "turned_down") rfl)),
    d_need_lamp := def_at (c.def_ 17 (d := d17) rfl) (He.glo_ok X G (c.fact 19 (f := .glo "need_lamp") rfl)),
    d_need_state := def_at (c.def_ 18 (d := d18) rfl) (He.glo_ok X G (c.fact 20 (f := .glo "need_state") rfl)),
    d_lit_beneath := def_at (c.def_ 19 (d := d19) rfl) (He.glo_ok X G (c.fact 21 (f := .glo "lit_beneath") rfl)),
    d_moved := def_at (c.def_ 20 (d := d20) rfl) (He.glo_ok X G (c.fact 22 (f := .glo "moved") rfl)),
    d_can_move := def_at (c.def_ 21 (d := d21) rfl) (He.glo_ok X G (c.fact 23 (f := .glo "can_move") rfl)),
    d_is_allowed := kdef_at (c.def_ 22 (d := d22) rfl) (He.glo_ok X G (c.fact 24 (f := .glo "is_allowed") rfl)),
    d_allowed_lamps := kdef_at (c.def_ 23 (d := d23) rfl) (He.glo_ok X G (c.fact 25 (f := .glo "allowed_lamps") rfl)),
    d_before := kdef_at (c.def_ 24 (d := d24) rfl) (He.glo_ok X G (c.fact 26 (f := .glo "before") rfl)),
    d_covered_by := def_at (c.def_ 25 (d := d25) rfl) (He.glo_ok X G (c.fact 27 (f := .glo "covered_by") rfl)),
    d_covers_of := def_at (c.def_ 26 (d := d26) rfl) (He.glo_ok X G (c.fact 28 (f := .glo "covers_of") rfl)),
    d_is_cover := def_at (c.def_ 27 (d := d27) rfl) (He.glo_ok X G (c.fact 29 (f := .glo "is_cover") rfl)),
    d_lowest_lit := def_at (c.def_ 28 (d := d28) rfl) (He.glo_ok X G (c.fact 30 (f := .glo "lowest_lit") rfl)),
    d__lowered_at := def_at (c.def_ 29 (d := d29) rfl) (He.glo_ok X G (c.fact 31 (f := .glo "_lowered_at") rfl)),
    d_lowered := def_at (c.def_ 30 (d := d30) rfl) (He.glo_ok X G (c.fact 32 (f := .glo "lowered") rfl)),
    d__piece := def_at (c.def_ 31 (d := d31) rfl) (He.glo_ok X G (c.fact 33 (f := .glo "_piece") rfl)),
    d_pieces := def_at (c.def_ 32 (d := d32) rfl) (He.glo_ok X G (c.fact 34 (f := .glo "pieces") rfl)),
    d_is_single := def_at (c.def_ 33 (d := d33) rfl) (He.glo_ok X G (c.fact 35 (f := .glo "is_single") rfl)),
    d__law_purse := def_at (c.def_ 34 (d := d34) rfl) (He.glo_ok X G (c.fact 36 (f := .glo "_law_purse") rfl)),
    d__law_draw := def_at (c.def_ 35 (d := d35) rfl) (He.glo_ok X G (c.fact 37 (f := .glo "_law_draw") rfl)),
    d__law_wires := def_at (c.def_ 36 (d := d36) rfl) (He.glo_ok X G (c.fact 38 (f := .glo "_law_wires") rfl)),
    d__law_pairs := def_at (c.def_ 37 (d := d37) rfl) (He.glo_ok X G (c.fact 39 (f := .glo "_law_pairs") rfl)),
    d__law_below := def_at (c.def_ 38 (d := d38) rfl) (He.glo_ok X G (c.fact 40 (f := .glo "_law_below") rfl)),
    d__law_above := def_at (c.def_ 39 (d := d39) rfl) (He.glo_ok X G (c.fact 41 (f := .glo "_law_above") rfl)),
    d__law_state := def_at (c.def_ 40 (d := d40) rfl) (He.glo_ok X G (c.fact 42 (f := .glo "_law_state") rfl)),
    d__law_after := def_at (c.def_ 41 (d := d41) rfl) (He.glo_ok X G (c.fact 43 (f := .glo "_law_after") rfl)),
    d__law_is_integer := def_at (c.def_ 42 (d := d42) rfl) (He.glo_ok X G (c.fact 44 (f := .glo "_law_is_integer") rfl)),
    d__law_truth := def_at (c.def_ 43 (d := d43) rfl) (He.glo_ok X G (c.fact 45 (f := .glo "_law_truth") rfl)),
    d__law_same := def_at (c.def_ 44 (d := d44) rfl) (He.glo_ok X G (c.fact 46 (f := .glo "_law_same") rfl)),
    d__law_is := def_at (c.def_ 45 (d := d45) rfl) (He.glo_ok X G (c.fact 47 (f := .glo "_law_is") rfl)),
    d__law_same_pairs := def_at (c.def_ 46 (d := d46) rfl) (He.glo_ok X G (c.fact 48 (f := .glo "_law_same_pairs") rfl)),
    d__law_same_states := def_at (c.def_ 47 (d := d47) rfl) (He.glo_ok X G (c.fact 49 (f := .glo "_law_same_states") rfl)),
    d__law_lowest := def_at (c.def_ 48 (d := d48) rfl) (He.glo_ok X G (c.fact 50 (f := .glo "_law_lowest") rfl)),
    d__law_piece := def_at (c.def_ 49 (d := d49) rfl) (He.glo_ok X G (c.fact 51 (f := .glo "_law_piece") rfl)),
    d__law_all_lowered := def_at (c.def_ 50 (d := d50) rfl) (He.glo_ok X G (c.fact 52 (f := .glo "_law_all_lowered") rfl)),
    d__law_covers_of := def_at (c.def_ 51 (d := d51) rfl) (He.glo_ok X G (c.fact 53 (f := .glo "_law_covers_of") rfl)),
    d__law_refuses := def_at (c.def_ 52 (d := d52) rfl) (He.glo_ok X G (c.fact 54 (f := .glo "_law_refuses") rfl)),
    d__law_agree := def_at (c.def_ 53 (d := d53) rfl) (He.glo_ok X G (c.fact 55 (f := .glo "_law_agree") rfl)),
    d__law_one_lamp := def_at (c.def_ 54 (d := d54) rfl) (He.glo_ok X G (c.fact 56 (f := .glo "_law_one_lamp") rfl)),
    d__law_other_lamps := def_at (c.def_ 55 (d := d55) rfl) (He.glo_ok X G (c.fact 57 (f := .glo "_law_other_lamps") rfl)),
    d_law := def_at (c.def_ 56 (d := d56) rfl) (He.glo_ok X G (c.fact 58 (f := .glo "law") rfl)),
    g_abs := He.free_ok X G (c.fact 59 (f := .free "abs") rfl),
    g_all := He.free_ok X G (c.fact 60 (f := .free "all") rfl),
    g_bool := He.free_ok X G (c.fact 61 (f := .free "bool") rfl),
    g_enumerate := He.free_ok X G (c.fact 62 (f := .free "enumerate") rfl),
    g_int := He.free_ok X G (c.fact 63 (f := .free "int") rfl),
    g_isinstance := He.free_ok X G (c.fact 64 (f := .free "isinstance") rfl),
    g_len := He.free_ok X G (c.fact 65 (f := .free "len") rfl),
    g_list := He.free_ok X G (c.fact 66 (f := .free "list") rfl),
    g_min := He.free_ok X G (c.fact 67 (f := .free "min") rfl),
    g_range := He.free_ok X G (c.fact 68 (f := .free "range") rfl),
    g_reversed := He.free_ok X G (c.fact 69 (f := .free "reversed") rfl),
    g_set := He.free_ok X G (c.fact 70 (f := .free "set") rfl),
    g_sorted := He.free_ok X G (c.fact 71 (f := .free "sorted") rfl),
    g_sum := He.free_ok X G (c.fact 72 (f := .free "sum") rfl),
    g_tuple := He.free_ok X G (c.fact 73 (f := .free "tuple") rfl),
    cl_House := He.cls_ok (c.fact 12 (f := .cls "House") rfl),
    gc_House := glo_okR X G (c.fact 11 (f := .glo "House") rfl),
    na_House__above := He.noat_ok (c.fact 74 (f := .noat "House" "_above") rfl),
    na_House__above_masks := He.noat_ok (c.fact 75 (f := .noat "House" "_above_masks") rfl),
    na_House__below := He.noat_ok (c.fact 76 (f := .noat "House" "_below") rfl),
    na_House__below_masks := He.noat_ok (c.fact 77 (f := .noat "House" "_below_masks") rfl),
    na_House__direct := He.noat_ok (c.fact 78 (f := .noat "House" "_direct") rfl),
    na_House__order := He.noat_ok (c.fact 79 (f := .noat "House" "_order") rfl),
    na_House_count := He.noat_ok (c.fact 80 (f := .noat "House" "count") rfl),
    na_House_hues := He.noat_ok (c.fact 81 (f := .noat "House" "hues") rfl),
    na_House_wires := He.noat_ok (c.fact 82 (f := .noat "House" "wires") rfl),
    cc_House_MOST_HUES := exB_ok e 0 (q := ("House", "MOST_HUES", 10)) rfl,
    cc_House_MOST_LAMPS := exB_ok e 1 (q := ("House", "MOST_LAMPS", 16)) rfl,
    xd_InvalidLamp := xB_ok (d := xd0) (st := inClass (top 4) 0) X G (xs_at xv 0 rfl) (xb _ (List.mem_of_getElem? (i := 0) rfl)) rfl rfl rfl hfile (He.free_ok X G (c.fact 83 (f := .free "super") rfl)) htop,
    ex_InvalidLamp := He.exm_ok (c.fact 84 (f := .exm "InvalidLamp" "InvalidLamp" true) rfl),
    xf_InvalidLamp := xB_xf (d := xd0) (xb _ (List.mem_of_getElem? (i := 0) rfl)),
    xn_InvalidLamp_lamp := He.noat_ok (c.fact 85 (f := .noat "InvalidLamp" "lamp") rfl) }
theorem facts {w : World} {K : PySem.W.Frag} {h : Heap} {mg : Str → Option Value} {f : Addr} (X : K.In h) (G : h.Ns mainGlobals mg) (hfa : mg ("law" : Str) = some (.ref f)) (c : He.SaysD fas fns K) (e : exB exs K = true) (xb : ∀ d ∈ xds, xB K d = true) (xv : xds.map (fun d => xW K d) = xds.map XD.val) :
    ∃ fd : FuncData, (∀ (s : Shared) (v : Value), BindsTo s fd ⟨[v], []⟩ [("_law_script", v)]) ∧ ∀ base : Heap, K.In base → base.Ns mainGlobals mg → FnOk (PySem.Challenge.rw_huefall_k82_lowest_lit_lamps_agree).prog w K mg base CX0 9 f fd ["_law_script"] (spP (TyA.one (tScr K)) (fun a => m_law a) tBool) := by
  obtain ⟨fd, F⟩ := c.def_ 56 (d := d56) rfl
  have e0 := hfa.symm.trans (He.glo_ok X G (c.fact 58 (f := .glo "law") rfl))
  cases e0
  have b := FunD.bindsA (ps := ["_law_script"]) F fun _ _ _ _ _ _ us hl => match us, hl with | [_], _ => rfl
  exact ⟨fd, fun s v => b s [v] rfl, fun base KB GB => fn_law (env_of KB GB c e xb xv) F⟩
end HF
open PySem PySem.W PySem.Calls PyProof.Rows
theorem cw_main (LAW : ∀ ns : List Int, ns.length ≤ 63 → HF.m_law ns = some true) : PySem.Challenge.rw_huefall_k82_lowest_lit_lamps_agree.Holds := by
  w_on; o_law
  refine HandSHeadRun.head_any (r := OpenLaw.row PySem.Challenge.rw_huefall_k82_lowest_lit_lamps_agree) (q := view (OpenLaw.row PySem.Challenge.rw_huefall_k82_lowest_lit_lamps_agree).prog [68]) (H := HF.hk) (ob := HF.ob) (M := 40000) (loose := HF.lo) (d := HandSHeadRun.topDef (OpenLaw.row PySem.Challenge.rw_huefall_k82_lowest_lit_lamps_agree).prog 68) (kwd := []) HF.ob_eq
    (by kernel_rfl) (fun s => by kernel_rfl) HF.run (by kernel_rfl) (by kernel_rfl) (by kernel_rfl) (by rfl) (by first | assumption | decide +kernel) (by decide +kernel) ⟨rfl, rfl, rfl, rfl, rfl, by decide +kernel⟩ ?hw ?hc
  case hw => w_witness2
  case hc =>
    refine L2.walk_ofE (l := PySem.Challenge.rw_huefall_k82_lowest_lit_lamps_agree) (n := 63) (k := 9) (x := "_law_script") (CX := L2.CX0) rfl (by decide) (by kernel_rfl) ⟨rfl, by decide, by decide⟩ ?F (fun _ _ _ _ z => z)
    intro w mg fa h Y G hmg0
    obtain ⟨K, KX, c, e, xb, xv⟩ := Y
    have hmg : mg ("law" : PySem.Str) = some (.ref fa) := by
      have e : (HandSHeadRun.topDef (OpenLaw.row PySem.Challenge.rw_huefall_k82_lowest_lit_lamps_agree).prog 68).name = ("law" : PySem.Str) := by kernel_rfl
      rw [← e]
      exact hmg0
    obtain ⟨fd, hb, hF⟩ := HF.facts (w := w) KX G hmg c e xb xv
    exact ⟨K, fd, _, KX, hb, fun H a ns hl _ hS => HF.law_end hS (LAW ns hl), hF⟩

set_option maxRecDepth 100000 in
theorem PySem.Challenge.cw_huefall_k82_lowest_lit_lamps_agree_holds : PySem.Challenge.rw_huefall_k82_lowest_lit_lamps_agree.Holds := by
  exact cw_main HF.law_true
