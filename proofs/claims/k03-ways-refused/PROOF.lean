import PyProof.Rows.All
import Wide.All
import OpenK.AllK
import Wide.FinOn
import HandS.ForMost
import HandS.TupAny
import HandS.Flow
import HandS.Star
import HandS.FStr
import HandS.RaiseMore
import HandS.SortInts
import HandS.DictComp
import HandS.Style
import HandS.IsInst
import HandS.WordsDict
import KE.GoesEnum
import HandS.Zip
import HandS.Text
import HandS.OwnEq
import PyProof.InstNe
import PyProof.StrOps2
import HandS.Conv
import HandS.Codes
import HandS.TryOnly
import HandS.Deep
import HandS.Exc
import HandS.ExcOwn
import HandS.ExcInit
import HandS.ExcField
import HandS.ExcIs
import HandS.CallSlots
import HandS.WordsExc
import HandS.ClsMeth
import KE.KExcIs
import PySem.Challenge.RW_notchsafe_k03_ways_refused
set_option Elab.async false
set_option linter.all false
set_option maxRecDepth 100000
set_option maxHeartbeats 4000000
namespace Dl
open PySem L2

/-! ### data -/
inductive D where
  | non | bl (b : Bool) | int (i : Int) | str (s : Str)
  | tup (xs : List D) | lst (xs : List D) | scr (xs : List D) | dct (kvs : List (Key × D)) | obj (C : Addr) (fs : List (Str × D)) | ref (a : Addr) | ty (n : String)
  | exc (a : Addr) (d : Option Addr) (C : Addr) (fs : List (Str × D))

/-- a cell that may change -/
inductive Cell where
  | lst (xs : List D) | dct (kvs : List (Key × D)) | ins (C : Addr) (fs : List (Str × D))
abbrev Store := Addr → Option Cell
def setS (μ : Store) (a : Addr) (c : Cell) : Store := fun b => if b = a then some c else μ b
def delS (μ : Store) (a : Addr) : Store := fun b => if b = a then none else μ b
theorem setS_same {μ : Store} {a : Addr} {c : Cell} : setS μ a c a = some c := by unfold setS; rw [if_pos rfl]
theorem setS_ne {μ : Store} {a b : Addr} {c : Cell} (h : b ≠ a) : setS μ a c b = μ b := by unfold setS; rw [if_neg h]
theorem delS_same {μ : Store} {a : Addr} : delS μ a a = none := by unfold delS; rw [if_pos rfl]
theorem delS_ne {μ : Store} {a b : Addr} (h : b ≠ a) : delS μ a b = μ b := by unfold delS; rw [if_neg h]
theorem setS_setS {μ : Store} {a : Addr} {c d : Cell} : setS (setS μ a c) a d = setS μ a d := by
  funext b; unfold setS; split <;> rfl
theorem delS_setS {μ : Store} {a : Addr} {c : Cell} (h : μ a = none) : delS (setS μ a c) a = μ := by
  funext b; unfold delS setS
  by_cases e : b = a
  · rw [if_pos e, e, h]
  · rw [if_neg e, if_neg e]
/-- fewer cells are known -/
def Sub (μ' μ : Store) : Prop := ∀ a c, μ' a = some c → μ a = some c
theorem Sub.refl (μ : Store) : Sub μ μ := fun _ _ h => h
theorem Sub.trans {a b c : Store} (h : Sub a b) (k : Sub b c) : Sub a c := fun x y z => k x y (h x y z)
theorem Sub.set {μ : Store} {a : Addr} {c : Cell} (h : μ a = none) : Sub μ (setS μ a c) := fun b d e => by
  rw [setS_ne (by rintro rfl; rw [h] at e; cases e)]; exact e
theorem Sub.set' {μ μ' : Store} {a : Addr} {c : Cell} (s : Sub μ μ') (h : μ a = none) : Sub μ (setS μ' a c) := fun b d e => by
  rw [setS_ne (by rintro rfl; rw [h] at e; cases e)]; exact s b d e
theorem Sub.del {μ : Store} {a : Addr} : Sub (delS μ a) μ := fun b d e => by
  unfold delS at e; split at e
  · cases e
  · exact e
theorem Sub.del' {μ μ' : Store} {a : Addr} (s : Sub μ μ') (h : μ a = none) : Sub μ (delS μ' a) := fun b d e => by
  rw [delS_ne (by rintro rfl; rw [h] at e; cases e)]; exact s b d e

/-! ### what stands for what -/
/-- a tuple of the ghost heap, or of the written part -/
def TupAt (K : PySem.W.Frag) (G : Hp) (a : Addr) (xs : List V) : Prop :=
  G a = some (.tup xs) ∨ ∃ (o : Obj) (its : Array Value) (n : Nat), K.lookup a = some o ∧ o.cls = .type "tuple" ∧ o.data = .seq its n ∧ its.size ≤ sizeLine ∧ Vals xs its.toList
/-- a list that is only read: locked, or of the written part -/
def ScrAt (K : PySem.W.Frag) (G : Hp) (a : Addr) (xs : List V) : Prop :=
  (∃ o, G a = some (.frz o (.lst xs))) ∨ ∃ (o : Obj) (its : Array Value) (n : Nat), K.lookup a = some o ∧ o.cls = .type "list" ∧ o.dict = none ∧ o.data = .seq its n ∧ its.size ≤ sizeLine ∧ Vals xs its.toList
mutual
inductive Rp (K : PySem.W.Frag) (G : Hp) : D → V → Prop where
  | non : Rp K G .non .non
  | bl (b : Bool) : Rp K G (.bl b) (.bl b)
  | int (i : Int) : Rp K G (.int i) (.int i)
  | str (s : Str) : Rp K G (.str s) (.str s)
  | ty (n : String) : Rp K G (.ty n) (.ty n)
  | ref (a : Addr) : Rp K G (.ref a) (.ref a)
  | tup {a : Addr} {ds : List D} {xs : List V} (h : TupAt K G a xs) (r : Rps K G ds xs) : Rp K G (.tup ds) (.ref a)
  | lst {a : Addr} {ds : List D} {xs : List V} (h : G a = some (.lst xs)) (r : Rps K G ds xs) : Rp K G (.lst ds) (.ref a)
  | scr {a : Addr} {ds : List D} {xs : List V} (h : ScrAt K G a xs) (r : Rps K G ds xs) : Rp K G (.scr ds) (.ref a)
  | dct {a : Addr} {ds : List (Key × D)} {kvs : List (Key × V)} (h : G a = some (.dK kvs)) (e : kvs.map (·.1) = ds.map (·.1)) (r : Rps K G (ds.map (·.2)) (kvs.map (·.2))) : Rp K G (.dct ds) (.ref a)
  | excN (a C : Addr) : Rp K G (.exc a none C []) (.ref a)
  | excD {a C dd : Addr} {ds : List (Str × D)} {fs : List (Str × V)} (h : G dd = some (.xd fs)) (e : fs.map (·.1) = ds.map (·.1)) (r : Rps K G (ds.map (·.2)) (fs.map (·.2))) : Rp K G (.exc a (some dd) C ds) (.ref a)
  | obj {a C dx : Addr} {ds : List (Str × D)} {fs : List (Str × V)} (h : G a = some (.ins C dx fs)) (e : fs.map (·.1) = ds.map (·.1)) (r : Rps K G (ds.map (·.2)) (fs.map (·.2))) : Rp K G (.obj C ds) (.ref a)
inductive Rps (K : PySem.W.Frag) (G : Hp) : List D → List V → Prop where
  | nil : Rps K G [] []
  | cons {d : D} {v : V} {ds : List D} {vs : List V} (h : Rp K G d v) (r : Rps K G ds vs) : Rps K G (d :: ds) (v :: vs)
end
/-- what is known of the ghost heap stays -/
def Ex (G H : Hp) : Prop := ∀ a o, G a = some o → H a = some o
theorem Ex.refl (H : Hp) : Ex H H := fun _ _ h => h
theorem Ex.trans {H H1 H2 : Hp} (a : Ex H H1) (b : Ex H1 H2) : Ex H H2 := fun x o h => b x o (a x o h)
theorem Ex.new {H : Hp} {p : Addr} {o : HO} (h : H p = none) : Ex H (upd H p o) := fun a u e => by
  rw [upd_ne (ne_of_none e h)]
  exact e
theorem Ex.mut {H H' : Hp} {p : Addr} {o : HO} (e : Ex H H') (h : H p = none) : Ex H (upd H' p o) := fun a u ha => by
  rw [upd_ne (ne_of_none ha h)]
  exact e a u ha
theorem Ex.nn {G H : Hp} (e : Ex G H) {p : Addr} (h : H p = none) : G p = none := by
  cases q : G p with
  | none => rfl
  | some o => rw [e p o q] at h; cases h
theorem Ex.upd2 {G H : Hp} (e : Ex G H) (p : Addr) (o : HO) : Ex (upd G p o) (upd H p o) := fun a u h => by
  by_cases q : a = p
  · subst q; rw [upd_same] at h ⊢; exact h
  · rw [upd_ne q] at h ⊢; exact e a u h
theorem TupAt.mono {K : PySem.W.Frag} {G G' : Hp} {a : Addr} {xs : List V} (e : Ex G G') (h : TupAt K G a xs) : TupAt K G' a xs := by
  rcases h with h | h
  · exact .inl (e _ _ h)
  · exact .inr h
theorem ScrAt.mono {K : PySem.W.Frag} {G G' : Hp} {a : Addr} {xs : List V} (e : Ex G G') (h : ScrAt K G a xs) : ScrAt K G' a xs := by
  rcases h with ⟨o, h⟩ | h
  · exact .inl ⟨o, e _ _ h⟩
  · exact .inr h
mutual
theorem Rp.mono {K : PySem.W.Frag} {G G' : Hp} (e : Ex G G') : ∀ {d : D} {v : V}, Rp K G d v → Rp K G' d v
  | _, _, .non => .non
  | _, _, .bl b => .bl b
  | _, _, .int i => .int i
  | _, _, .str s => .str s
  | _, _, .ty n => .ty n
  | _, _, .ref a => .ref a
  | _, _, .tup h r => .tup (h.mono e) (Rps.mono e r)
  | _, _, .lst h r => .lst (e _ _ h) (Rps.mono e r)
  | _, _, .scr h r => .scr (h.mono e) (Rps.mono e r)
  | _, _, .dct h k r => .dct (e _ _ h) k (Rps.mono e r)
  | _, _, .obj h k r => .obj (e _ _ h) k (Rps.mono e r)
  | _, _, .excN a C => .excN a C
  | _, _, .excD h k r => .excD (e _ _ h) k (Rps.mono e r)
theorem Rps.mono {K : PySem.W.Frag} {G G' : Hp} (e : Ex G G') : ∀ {d : List D} {v : List V}, Rps K G d v → Rps K G' d v
  | _, _, .nil => .nil
  | _, _, .cons h r => .cons (Rp.mono e h) (Rps.mono e r)
end
theorem TupAt.sq {K : PySem.W.Frag} {G H : Hp} {a : Addr} {xs : List V} (e : Ex G H) (h : TupAt K G a xs) : SqT K H a xs := by
  rcases h with h | h
  · exact .inl (.inl (e _ _ h))
  · exact .inr h
theorem ScrAt.sq {K : PySem.W.Frag} {G H : Hp} {a : Addr} {xs : List V} (e : Ex G H) (h : ScrAt K G a xs) : SqL K H a xs := by
  rcases h with ⟨o, h⟩ | h
  · exact .inl (.inr ⟨o, e _ _ h⟩)
  · exact .inr h
theorem lst_sq {K : PySem.W.Frag} {G H : Hp} {a : Addr} {xs : List V} (e : Ex G H) (h : G a = some (.lst xs)) : SqL K H a xs := .inl (.inl (e _ _ h))

theorem Rps.length {K : PySem.W.Frag} {G : Hp} : ∀ {ds : List D} {vs : List V}, Rps K G ds vs → ds.length = vs.length
  | _, _, .nil => rfl
  | _, _, .cons _ r => by rw [List.length_cons, List.length_cons, Rps.length r]
theorem Rps.append {K : PySem.W.Frag} {G : Hp} : ∀ {ds es : List D} {vs ws : List V}, Rps K G ds vs → Rps K G es ws → Rps K G (ds ++ es) (vs ++ ws)
  | _, _, _, _, .nil, r => r
  | _, _, _, _, .cons h t, r => .cons h (Rps.append t r)
theorem Rps.getL {K : PySem.W.Frag} {G : Hp} : ∀ {ds : List D} {vs : List V} {i : Nat} {d : D}, Rps K G ds vs → ds[i]? = some d → ∃ v, vs[i]? = some v ∧ Rp K G d v
  | _, _, _, _, .nil, e => by simp at e
  | _, _, 0, _, .cons h _, e => by
    have e : _ = _ := Option.some.inj e
    subst e
    exact ⟨_, rfl, h⟩
  | _, _, i + 1, d, .cons _ t, e => by
    obtain ⟨v, h1, h2⟩ := Rps.getL (i := i) (d := d) t (by simpa using e)
    exact ⟨v, by simpa using h1, h2⟩
theorem Rps.getR {K : PySem.W.Frag} {G : Hp} : ∀ {ds : List D} {vs : List V} {i : Nat} {v : V}, Rps K G ds vs → vs[i]? = some v → ∃ d, ds[i]? = some d ∧ Rp K G d v
  | _, _, _, _, .nil, e => by simp at e
  | _, _, 0, _, .cons h _, e => by
    have e : _ = _ := Option.some.inj e
    subst e
    exact ⟨_, rfl, h⟩
  | _, _, i + 1, v, .cons _ t, e => by
    obtain ⟨d, h1, h2⟩ := Rps.getR (i := i) (v := v) t (by simpa using e)
    exact ⟨d, by simpa using h1, h2⟩
theorem Rps.take {K : PySem.W.Frag} {G : Hp} : ∀ {ds : List D} {vs : List V} (n : Nat), Rps K G ds vs → Rps K G (ds.take n) (vs.take n)
  | _, _, 0, _ => .nil
  | _, _, _ + 1, .nil => .nil
  | _, _, n + 1, .cons h r => .cons h (Rps.take n r)
theorem Rps.drop {K : PySem.W.Frag} {G : Hp} : ∀ {ds : List D} {vs : List V} (n : Nat), Rps K G ds vs → Rps K G (ds.drop n) (vs.drop n)
  | _, _, 0, r => r
  | _, _, _ + 1, .nil => .nil
  | _, _, n + 1, .cons _ r => Rps.drop n r
theorem Rps.set {K : PySem.W.Frag} {G : Hp} {d : D} {v : V} (h : Rp K G d v) : ∀ {ds : List D} {vs : List V} (n : Nat), Rps K G ds vs → Rps K G (ds.set n d) (vs.set n v)
  | _, _, _, .nil => .nil
  | _, _, 0, .cons _ r => .cons h r
  | _, _, n + 1, .cons q r => .cons q (Rps.set h n r)
theorem Rps.eraseIdx {K : PySem.W.Frag} {G : Hp} : ∀ {ds : List D} {vs : List V} (n : Nat), Rps K G ds vs → Rps K G (ds.eraseIdx n) (vs.eraseIdx n)
  | _, _, _, .nil => .nil
  | _, _, 0, .cons _ r => r
  | _, _, n + 1, .cons q r => .cons q (Rps.eraseIdx n r)
theorem Rps.dropLast {K : PySem.W.Frag} {G : Hp} {ds : List D} {vs : List V} (r : Rps K G ds vs) : Rps K G ds.dropLast vs.dropLast := by
  rw [List.dropLast_eq_take, List.dropLast_eq_take, r.length]
  exact r.take _
theorem Rps.cut {K : PySem.W.Frag} {G : Hp} {ds : List D} {vs : List V} (r : Rps K G ds vs) (lo hi : Option Int) :
    Rps K G ((ds.drop (HT.sIx ds.length 0 lo)).take (HT.sIx ds.length ds.length hi - HT.sIx ds.length 0 lo)) (cutV vs lo hi) := by
  unfold cutV
  rw [r.length]
  exact (r.drop _).take _

/-- the cell at a -/
def CellOk (K : PySem.W.Frag) (G H : Hp) (a : Addr) : Cell → Prop
  | .lst ds => ∃ xs, H a = some (.lst xs) ∧ Rps K G ds xs
  | .dct ds => ∃ kvs : List (Key × V), H a = some (.dK kvs) ∧ kvs.map (·.1) = ds.map (·.1) ∧ Rps K G (ds.map (·.2)) (kvs.map (·.2))
  | .ins C ds => ∃ (dx : Addr) (fs : List (Str × V)), H a = some (.ins C dx fs) ∧ fs.map (·.1) = ds.map (·.1) ∧ Rps K G (ds.map (·.2)) (fs.map (·.2))
structure Sm (K : PySem.W.Frag) (μ : Store) (G H : Hp) : Prop where
  ex : Ex G H
  st : ∀ a c, μ a = some c → G a = none ∧ CellOk K G H a c
theorem CellOk.mono {K : PySem.W.Frag} {G G' H H' : Hp} {a : Addr} {c : Cell} (e : Ex G G') (h : H' a = H a) (x : CellOk K G H a c) : CellOk K G' H' a c := by
  cases c with
  | lst ds => obtain ⟨xs, h1, r⟩ := x; exact ⟨xs, h.trans h1, r.mono e⟩
  | dct ds => obtain ⟨kvs, h1, k, r⟩ := x; exact ⟨kvs, h.trans h1, k, r.mono e⟩
  | ins C ds => obtain ⟨dx, fs, h1, k, r⟩ := x; exact ⟨dx, fs, h.trans h1, k, r.mono e⟩
theorem CellOk.there {K : PySem.W.Frag} {G H : Hp} {a : Addr} {c : Cell} (x : CellOk K G H a c) : ∃ o, H a = some o := by
  cases c with
  | lst ds => obtain ⟨xs, h1, r⟩ := x; exact ⟨_, h1⟩
  | dct ds => obtain ⟨kvs, h1, k, r⟩ := x; exact ⟨_, h1⟩
  | ins C ds => obtain ⟨dx, fs, h1, k, r⟩ := x; exact ⟨_, h1⟩
section
variable {K : PySem.W.Frag} {μ μ' : Store} {G H : Hp} {a p : Addr}
theorem Sm.nn (S : Sm K μ G H) (h : H p = none) : μ p = none := by
  cases q : μ p with
  | none => rfl
  | some c => obtain ⟨o, e⟩ := (S.st p c q).2.there; rw [e] at h; cases h
theorem Sm.sub (S : Sm K μ G H) (h : Sub μ' μ) : Sm K μ' G H := ⟨S.ex, fun a c e => S.st a c (h a c e)⟩
/-- a new frozen object -/
theorem Sm.frozen (S : Sm K μ G H) (h : H p = none) (o : HO) : Sm K μ (upd G p o) (upd H p o) ∧ Ex G (upd G p o) := by
  refine ⟨⟨S.ex.upd2 p o, fun a c e => ?_⟩, Ex.new (S.ex.nn h)⟩
  obtain ⟨h1, h2⟩ := S.st a c e
  have ne : a ≠ p := by rintro rfl; rw [S.nn h] at e; cases e
  exact ⟨by rw [upd_ne ne]; exact h1, h2.mono (Ex.new (S.ex.nn h)) (upd_ne ne)⟩
/-- a new object that nobody tells of -/
theorem Sm.hidden (S : Sm K μ G H) (h : H p = none) (o : HO) : Sm K μ G (upd H p o) := by
  refine ⟨S.ex.mut (S.ex.nn h), fun a c e => ?_⟩
  obtain ⟨h1, h2⟩ := S.st a c e
  have ne : a ≠ p := by rintro rfl; rw [S.nn h] at e; cases e
  exact ⟨h1, h2.mono (Ex.refl _) (upd_ne ne)⟩
/-- a cell written, or made -/
theorem Sm.write (S : Sm K μ G H) (h : G p = none) {o : HO} {c : Cell} (k : CellOk K G (upd H p o) p c) : Sm K (setS μ p c) G (upd H p o) := by
  refine ⟨S.ex.mut h, fun a d e => ?_⟩
  by_cases q : a = p
  · subst q
    rw [setS_same] at e
    cases e
    exact ⟨h, k⟩
  · rw [setS_ne q] at e
    obtain ⟨h1, h2⟩ := S.st a d e
    exact ⟨h1, h2.mono (Ex.refl _) (upd_ne q)⟩
theorem Sm.freezeL (S : Sm K μ G H) {ds : List D} (h : μ p = some (.lst ds)) : ∃ G', Sm K (delS μ p) G' H ∧ Ex G G' ∧ Rp K G' (.lst ds) (.ref p) := by
  obtain ⟨h0, xs, h1, r⟩ := S.st p _ h
  refine ⟨upd G p (.lst xs), ⟨fun b o e => ?_, fun b c e => ?_⟩, Ex.new h0, .lst upd_same (r.mono (Ex.new h0))⟩
  · by_cases q : b = p
    · subst q; rw [upd_same] at e; rw [h1]; exact e
    · rw [upd_ne q] at e; exact S.ex b o e
  · by_cases q : b = p
    · subst q; rw [delS_same] at e; cases e
    · rw [delS_ne q] at e
      obtain ⟨k1, k2⟩ := S.st b c e
      exact ⟨by rw [upd_ne q]; exact k1, k2.mono (Ex.new h0) rfl⟩
theorem Sm.freezeD (S : Sm K μ G H) {ds : List (Key × D)} (h : μ p = some (.dct ds)) : ∃ G', Sm K (delS μ p) G' H ∧ Ex G G' ∧ Rp K G' (.dct ds) (.ref p) := by
  obtain ⟨h0, kvs, h1, k, r⟩ := S.st p _ h
  refine ⟨upd G p (.dK kvs), ⟨fun b o e => ?_, fun b c e => ?_⟩, Ex.new h0, .dct upd_same k (r.mono (Ex.new h0))⟩
  · by_cases q : b = p
    · subst q; rw [upd_same] at e; rw [h1]; exact e
    · rw [upd_ne q] at e; exact S.ex b o e
  · by_cases q : b = p
    · subst q; rw [delS_same] at e; cases e
    · rw [delS_ne q] at e
      obtain ⟨k1, k2⟩ := S.st b c e
      exact ⟨by rw [upd_ne q]; exact k1, k2.mono (Ex.new h0) rfl⟩
theorem Sm.freezeI (S : Sm K μ G H) {C : Addr} {ds : List (Str × D)} (h : μ p = some (.ins C ds)) : ∃ G', Sm K (delS μ p) G' H ∧ Ex G G' ∧ Rp K G' (.obj C ds) (.ref p) := by
  obtain ⟨h0, dx, fs, h1, k, r⟩ := S.st p _ h
  refine ⟨upd G p (.ins C dx fs), ⟨fun b o e => ?_, fun b c e => ?_⟩, Ex.new h0, .obj upd_same k (r.mono (Ex.new h0))⟩
  · by_cases q : b = p
    · subst q; rw [upd_same] at e; rw [h1]; exact e
    · rw [upd_ne q] at e; exact S.ex b o e
  · by_cases q : b = p
    · subst q; rw [delS_same] at e; cases e
    · rw [delS_ne q] at e
      obtain ⟨k1, k2⟩ := S.st b c e
      exact ⟨by rw [upd_ne q]; exact k1, k2.mono (Ex.new h0) rfl⟩
end

/-! ### the frame -/
abbrev Env := List (Option D)
def Rpo (K : PySem.W.Frag) (G : Hp) : Option D → Option V → Prop
  | some d, some v => Rp K G d v
  | some _, none => False
  | none, _ => True
def EnvR (K : PySem.W.Frag) (G : Hp) (ρ : Env) (σ : L2.St) : Prop := ρ.length ≤ σ.length ∧ ∀ (i : Nat) d, ρ[i]? = some (some d) → ∃ v, σ[i]? = some (some v) ∧ Rp K G d v
section
variable {K : PySem.W.Frag} {G G' : Hp} {ρ : Env} {σ : L2.St}
theorem EnvR.mono (e : Ex G G') (h : EnvR K G ρ σ) : EnvR K G' ρ σ := ⟨h.1, fun i d q => by
  obtain ⟨v, h1, h2⟩ := h.2 i d q
  exact ⟨v, h1, h2.mono e⟩⟩
theorem EnvR.set (h : EnvR K G ρ σ) (i : Nat) {d : D} {v : V} (r : Rp K G d v) : EnvR K G (ρ.set i (some d)) (σ.set i (some v)) := by
  refine ⟨by rw [List.length_set, List.length_set]; exact h.1, fun j e q => ?_⟩
  by_cases hj : i = j
  · subst hj
    by_cases hl : i < ρ.length
    · rw [List.getElem?_set_self hl] at q
      cases q
      exact ⟨v, by rw [List.getElem?_set_self (Nat.lt_of_lt_of_le hl h.1)], r⟩
    · rw [List.getElem?_eq_none (by rw [List.length_set]; omega)] at q
      cases q
  · rw [List.getElem?_set_ne hj] at q ⊢
    exact h.2 j e q
end

/-! ### keys and what they lead to -/
section
variable {κ : Type} [DecidableEq κ]
def look {β : Type} : List (κ × β) → κ → Option β
  | [], _ => none
  | p :: r, k => if p.1 = k then some p.2 else look r k
def put {β : Type} : List (κ × β) → κ → β → List (κ × β)
  | [], k, v => [(k, v)]
  | p :: r, k, v => if p.1 = k then (p.1, v) :: r else p :: put r k v
theorem look_keys {K : PySem.W.Frag} {G : Hp} {k : κ} : ∀ {ds : List (κ × D)} {kvs : List (κ × V)}, kvs.map (·.1) = ds.map (·.1) → Rps K G (ds.map (·.2)) (kvs.map (·.2)) →
    (∀ d, look ds k = some d → ∃ v, look kvs k = some v ∧ Rp K G d v) ∧ (look ds k = none → look kvs k = none)
  | [], [], _, _ => ⟨fun _ h => (by cases h), fun _ => rfl⟩
  | [], _ :: _, e, _ => by simp at e
  | _ :: _, [], e, _ => by simp at e
  | (a, d) :: ds, (b, v) :: kvs, e, r => by
    have e1 : b = a ∧ kvs.map (·.1) = ds.map (·.1) := by simpa using e
    obtain ⟨rfl, e2⟩ := e1
    cases r with
    | cons h r =>
      have ih := look_keys (k := k) e2 r
      unfold look
      by_cases q : b = k
      · rw [if_pos q, if_pos q]
        exact ⟨fun d' h' => by cases h'; exact ⟨v, rfl, h⟩, fun h' => by cases h'⟩
      · rw [if_neg q, if_neg q]
        exact ih
theorem put_keys {K : PySem.W.Frag} {G : Hp} {k : κ} {d : D} {v : V} (hd : Rp K G d v) : ∀ {ds : List (κ × D)} {kvs : List (κ × V)}, kvs.map (·.1) = ds.map (·.1) → Rps K G (ds.map (·.2)) (kvs.map (·.2)) →
    (put kvs k v).map (·.1) = (put ds k d).map (·.1) ∧ Rps K G ((put ds k d).map (·.2)) ((put kvs k v).map (·.2))
  | [], [], _, _ => ⟨rfl, .cons hd .nil⟩
  | [], _ :: _, e, _ => by simp at e
  | _ :: _, [], e, _ => by simp at e
  | (a, d1) :: ds, (b, v1) :: kvs, e, r => by
    have e1 : b = a ∧ kvs.map (·.1) = ds.map (·.1) := by simpa using e
    obtain ⟨rfl, e2⟩ := e1
    cases r with
    | cons h r =>
      obtain ⟨i1, i2⟩ := put_keys (k := k) hd e2 r
      unfold put
      by_cases q : b = k
      · rw [if_pos q, if_pos q]
        exact ⟨by simp [e2], .cons hd r⟩
      · rw [if_neg q, if_neg q]
        exact ⟨by simp [i1], .cons h i2⟩
end
theorem valV_look {κ : Type} [DecidableEq κ] {k : κ} : ∀ kvs : List (κ × V), valV kvs k = look kvs k
  | [] => rfl
  | p :: r => by
    by_cases e : p.1 = k
    · rw [valV_pos e]; unfold look; rw [if_pos e]
    · rw [valV_neg e]; unfold look; rw [if_neg e]; exact valV_look r
end Dl

namespace Dl
open PySem L2
/-! ### readings over data -/
abbrev WE := Env → Store → (D → Store → Prop) → Prop
abbrev WT := Env → Store → (Bool → Store → Prop) → Prop
abbrev WA := Env → Store → (List D → Store → Prop) → Prop
structure WEnds where
  nx : Env → Store → Prop
  rt : D → Store → Prop
  bk : Env → Store → Prop := fun _ _ => False
  ct : Env → Store → Prop := fun _ _ => False
abbrev WS := WEnds → Env → Store → Prop
def Tells (K : PySem.W.Frag) (G : Hp) (P : D → Store → Prop) (Q : VK) : Prop := ∀ d μ' v H' G', P d μ' → Ex G G' → Sm K μ' G' H' → Rp K G' d v → Q v H'
def TellsT (K : PySem.W.Frag) (G : Hp) (P : Bool → Store → Prop) (Q : Bool → Hp → Prop) : Prop := ∀ b μ' H' G', P b μ' → Ex G G' → Sm K μ' G' H' → Q b H'
def TellsA (K : PySem.W.Frag) (G : Hp) (P : List D → Store → Prop) (Q : List V → Hp → Prop) : Prop := ∀ ds μ' vs H' G', P ds μ' → Ex G G' → Sm K μ' G' H' → Rps K G' ds vs → Q vs H'
structure TellsS (K : PySem.W.Frag) (G : Hp) (W : WEnds) (D : Ends) : Prop where
  nx : ∀ ρ' μ' σ' H' G', W.nx ρ' μ' → Ex G G' → EnvR K G' ρ' σ' → Sm K μ' G' H' → D.nx σ' H'
  rt : ∀ d μ' v H' G', W.rt d μ' → Ex G G' → Sm K μ' G' H' → Rp K G' d v → D.rt v H'
  bk : ∀ ρ' μ' σ' H' G', W.bk ρ' μ' → Ex G G' → EnvR K G' ρ' σ' → Sm K μ' G' H' → D.bk σ' H'
  ct : ∀ ρ' μ' σ' H' G', W.ct ρ' μ' → Ex G G' → EnvR K G' ρ' σ' → Sm K μ' G' H' → D.ct σ' H'
theorem Tells.mono {K : PySem.W.Frag} {G G' : Hp} {P : D → Store → Prop} {Q : VK} (e : Ex G G') (h : Tells K G P Q) : Tells K G' P Q := fun d μ v H G2 p e2 m r => h d μ v H G2 p (e.trans e2) m r
theorem TellsT.mono {K : PySem.W.Frag} {G G' : Hp} {P : Bool → Store → Prop} {Q : Bool → Hp → Prop} (e : Ex G G') (h : TellsT K G P Q) : TellsT K G' P Q := fun d μ H G2 p e2 m => h d μ H G2 p (e.trans e2) m
theorem TellsA.mono {K : PySem.W.Frag} {G G' : Hp} {P : List D → Store → Prop} {Q : List V → Hp → Prop} (e : Ex G G') (h : TellsA K G P Q) : TellsA K G' P Q := fun d μ v H G2 p e2 m r => h d μ v H G2 p (e.trans e2) m r
theorem TellsS.mono {K : PySem.W.Frag} {G G' : Hp} {W : WEnds} {D : Ends} (e : Ex G G') (h : TellsS K G W D) : TellsS K G' W D :=
  ⟨fun a b c d f g x => h.nx a b c d f g (e.trans x), fun a b c d f g x => h.rt a b c d f g (e.trans x), fun a b c d f g x => h.bk a b c d f g (e.trans x), fun a b c d f g x => h.ct a b c d f g (e.trans x)⟩
def LE (K : PySem.W.Frag) (w : WE) : TE := fun σ H Q => ∃ ρ μ G P, EnvR K G ρ σ ∧ Sm K μ G H ∧ w ρ μ P ∧ Tells K G P Q
def LT (K : PySem.W.Frag) (w : WT) : TT := fun σ H Q => ∃ ρ μ G P, EnvR K G ρ σ ∧ Sm K μ G H ∧ w ρ μ P ∧ TellsT K G P Q
def LA (K : PySem.W.Frag) (w : WA) : TA := fun σ H Q => ∃ ρ μ G P, EnvR K G ρ σ ∧ Sm K μ G H ∧ w ρ μ P ∧ TellsA K G P Q
def LS (K : PySem.W.Frag) (w : WS) : TS := fun D σ H => ∃ ρ μ G W, EnvR K G ρ σ ∧ Sm K μ G H ∧ w W ρ μ ∧ TellsS K G W D
structure DE (X : Cx) (e : Expr) (w : WE) : Prop where
  p : PE X e (LE X.K w)
structure DT (X : Cx) (e : Expr) (w : WT) : Prop where
  p : PT X e (LT X.K w)
structure DW (X : Cx) (e : Expr) (w : WT) : Prop where
  p : PW X e (LT X.K w)
structure DA (X : Cx) (es : List Expr) (w : WA) : Prop where
  p : PA X es (LA X.K w)
structure DS (X : Cx) (st : Stmt) (w : WS) : Prop where
  p : PS X st (LS X.K w)
structure DSs (X : Cx) (st : List Stmt) (w : WS) : Prop where
  p : PSs X st (LS X.K w)
section
variable {X : Cx}
theorem wkE {e : Expr} {t t' : TE} (h : PE X e t) (k : ∀ σ H Q, t' σ H Q → t σ H Q) : PE X e t' := ⟨fun pins s σ H Q I q => h.run pins s σ H Q I (k σ H Q q)⟩
theorem wkT {e : Expr} {t t' : TT} (h : PT X e t) (k : ∀ σ H Q, t' σ H Q → t σ H Q) : PT X e t' := ⟨fun pins s σ H Q I q => h.run pins s σ H Q I (k σ H Q q)⟩
theorem wkW {e : Expr} {t t' : TT} (h : PW X e t) (k : ∀ σ H Q, t' σ H Q → t σ H Q) : PW X e t' := ⟨fun wh pins s σ H Q I q => h.run wh pins s σ H Q I (k σ H Q q)⟩
theorem wkA {e : List Expr} {t t' : TA} (h : PA X e t) (k : ∀ σ H Q, t' σ H Q → t σ H Q) : PA X e t' := ⟨fun pos pins s σ H Q I q => h.run pos pins s σ H Q I (k σ H Q q)⟩
theorem wkS {e : Stmt} {t t' : TS} (h : PS X e t) (k : ∀ D σ H, t' D σ H → t D σ H) : PS X e t' := ⟨fun pins s σ H D I q => h.run pins s σ H D I (k D σ H q)⟩
theorem wkSs {e : List Stmt} {t t' : TS} (h : PSs X e t) (k : ∀ D σ H, t' D σ H → t D σ H) : PSs X e t' := ⟨fun pins s σ H D I q => h.run pins s σ H D I (k D σ H q)⟩

/-! ### names and constants -/
def wVar (i : Nat) : WE := fun ρ μ P => match ρ.getD i none with | some d => P d μ | none => False
def wC (d : D) : WE := fun _ μ P => P d μ
theorem getD_some {ρ : Env} {i : Nat} {d : D} (h : ρ.getD i none = some d) : ρ[i]? = some (some d) := by
  rw [List.getD_eq_getElem?_getD] at h
  cases q : ρ[i]? with
  | none => rw [q] at h; cases h
  | some x => rw [q] at h; exact congrArg some h
theorem de_var {i : Nat} {x : Str} {pos : Pos} (h : PE X (.Name x pos) (tVar i)) : DE X (.Name x pos) (wVar i) := ⟨wkE h fun σ H Q ⟨ρ, μ, G, P, he, hm, hw, ht⟩ => by
  unfold wVar at hw
  cases q : ρ.getD i none with
  | none => rw [q] at hw; exact hw.elim
  | some d =>
    rw [q] at hw
    obtain ⟨v, h1, h2⟩ := he.2 i d (getD_some q)
    exact ⟨v, h1, ht d μ v H G hw (Ex.refl _) hm h2⟩⟩
theorem de_c {e : Expr} {v : V} {d : D} (h : PE X e (tC v)) (r : ∀ G, Rp X.K G d v) : DE X e (wC d) := ⟨wkE h fun σ H Q ⟨ρ, μ, G, P, he, hm, hw, ht⟩ => ht d μ v H G hw (Ex.refl _) hm (r G)⟩
theorem de_int {i j pos} : DE X (.Constant (.int i) j pos) (wC (.int i)) := de_c pe_int fun _ => .int i
theorem de_bl {i j pos} : DE X (.Constant (.bool i) j pos) (wC (.bl i)) := de_c pe_bl fun _ => .bl i
theorem de_str {i j pos} : DE X (.Constant (.str i) j pos) (wC (.str i)) := de_c pe_str fun _ => .str i
theorem de_non {j pos} : DE X (.Constant .none j pos) (wC .non) := de_c pe_non fun _ => .non

/-! ### operators -/
abbrev OD := D → D → Store → (D → Store → Prop) → Prop
def OpS (X : Cx) (f : Value → Value → Sem Value) (o : OD) : Prop :=
  ∃ r, OpR X f r ∧ ∀ {x y : D} {μ : Store} {P : D → Store → Prop} {G H : Hp} {v u : V} {Q : VK}, o x y μ P → Sm X.K μ G H → Rp X.K G x v → Rp X.K G y u → Tells X.K G P Q → r v u H Q
def wOp (o : OD) (wa wb : WE) : WE := fun ρ μ P => wa ρ μ fun x μ1 => wb ρ μ1 fun y μ2 => o x y μ2 P
variable {a b c : Expr} {wa wb wc : WE} {pos : Pos}
theorem lop {r : R2} {o : OD} (hs : ∀ {x y : D} {μ : Store} {P : D → Store → Prop} {G H : Hp} {v u : V} {Q : VK}, o x y μ P → Sm X.K μ G H → Rp X.K G x v → Rp X.K G y u → Tells X.K G P Q → r v u H Q) :
    ∀ σ H Q, LE X.K (wOp o wa wb) σ H Q → tOp r (LE X.K wa) (LE X.K wb) σ H Q := fun σ H Q ⟨ρ, μ, G, P, he, hm, hw, ht⟩ =>
  ⟨ρ, μ, G, _, he, hm, hw, fun x μ1 v1 H1 G1 p1 e1 m1 r1 => ⟨ρ, μ1, G1, _, he.mono e1, m1, p1, fun y μ2 v2 H2 G2 p2 e2 m2 r2 => hs p2 m2 (r1.mono e2) r2 (ht.mono (e1.trans e2))⟩⟩
theorem de_op {op : Operator} {o : OD} (ho : OpS X (binaryOp op) o) (ha : DE X a wa) (hb : DE X b wb) : DE X (.BinOp a op b pos) (wOp o wa wb) := by
  obtain ⟨r, hr, hs⟩ := ho
  exact ⟨wkE (pe_op hr ha.p hb.p) (lop hs)⟩
theorem de_cmp {op : CmpOp} {o : OD} (ho : OpS X (compareOp op) o) (ha : DE X a wa) (hb : DE X b wb) (hm : behindInMarks op b = false) : DE X (.Compare a [op] [b] pos) (wOp o wa wb) := by
  obtain ⟨r, hr, hs⟩ := ho
  exact ⟨wkE (pe_cmpR hr ha.p hb.p hm) (lop hs)⟩
/-- a value that is a truth value, as a test -/
def wB (w : WE) : WT := fun ρ μ P => w ρ μ fun d μ1 => match d with | .bl k => P k μ1 | _ => False
theorem dt_cmp {op : CmpOp} {o : OD} (ho : OpS X (compareOp op) o) (ha : DE X a wa) (hb : DE X b wb) (hm : behindInMarks op b = false) : DT X (.Compare a [op] [b] pos) (wB (wOp o wa wb)) := by
  obtain ⟨r, hr, hs⟩ := ho
  refine ⟨wkT (pt_cmpR hr ha.p hb.p hm) fun σ H Q ⟨ρ, μ, G, P, he, hm, hw, ht⟩ => lop hs σ H _ ⟨ρ, μ, G, _, he, hm, hw, fun d μ' v H' G' p e m r => ?_⟩⟩
  cases d with
  | bl k => cases r; exact ⟨k, rfl, ht k μ' H' G' p e m⟩
  | _ => exact p.elim
/-- two comparisons in a row -/
def wChain (o o' : OD) (wa wb wc : WE) : WE := fun ρ μ P => wa ρ μ fun x μ1 => wb ρ μ1 fun y μ2 => o x y μ2 fun z μ3 => match z with
  | .bl true => wc ρ μ3 fun u μ4 => o' y u μ4 P
  | .bl false => P (.bl false) μ3
  | _ => False
theorem lchain {r r' : R2} {o o' : OD} (hs : ∀ {x y : D} {μ : Store} {P : D → Store → Prop} {G H : Hp} {v u : V} {Q : VK}, o x y μ P → Sm X.K μ G H → Rp X.K G x v → Rp X.K G y u → Tells X.K G P Q → r v u H Q)
    (hs' : ∀ {x y : D} {μ : Store} {P : D → Store → Prop} {G H : Hp} {v u : V} {Q : VK}, o' x y μ P → Sm X.K μ G H → Rp X.K G x v → Rp X.K G y u → Tells X.K G P Q → r' v u H Q) :
    ∀ σ H Q, LE X.K (wChain o o' wa wb wc) σ H Q → tChain r r' (LE X.K wa) (LE X.K wb) (LE X.K wc) σ H Q := fun σ H Q ⟨ρ, μ, G, P, he, hm, hw, ht⟩ =>
  ⟨ρ, μ, G, _, he, hm, hw, fun x μ1 v1 H1 G1 p1 e1 m1 r1 => ⟨ρ, μ1, G1, _, he.mono e1, m1, p1, fun y μ2 v2 H2 G2 p2 e2 m2 r2 => hs p2 m2 (r1.mono e2) r2 fun z μ3 v3 H3 G3 p3 e3 m3 r3 => by
    cases z with
    | bl k =>
      cases r3
      refine ⟨k, rfl, ?_⟩
      cases k with
      | true =>
        rw [if_pos rfl]
        exact ⟨ρ, μ3, G3, _, ((he.mono e1).mono e2).mono e3, m3, p3, fun u μ4 v4 H4 G4 p4 e4 m4 r4 => hs' p4 m4 ((r2.mono e3).mono e4) r4 (ht.mono (((e1.trans e2).trans e3).trans e4))⟩
      | false =>
        rw [if_neg Bool.false_ne_true]
        exact ht _ _ _ _ _ p3 ((e1.trans e2).trans e3) m3 (.bl false)
    | _ => exact p3.elim⟩⟩
theorem de_chain {op op' : CmpOp} {o o' : OD} (ho : OpS X (compareOp op) o) (ho' : OpS X (compareOp op') o') (ha : DE X a wa) (hb : DE X b wb) (hc : DE X c wc) (hm : lastMarks [op, op'] [b, c] = false) : DE X (.Compare a [op, op'] [b, c] pos) (wChain o o' wa wb wc) := by
  obtain ⟨r, hr, hs⟩ := ho
  obtain ⟨r', hr', hs'⟩ := ho'
  exact ⟨wkE (pe_chain hr hr' ha.p hb.p hc.p hm) (lchain hs hs')⟩
theorem dt_chain {op op' : CmpOp} {o o' : OD} (ho : OpS X (compareOp op) o) (ho' : OpS X (compareOp op') o') (ha : DE X a wa) (hb : DE X b wb) (hc : DE X c wc) (hm : lastMarks [op, op'] [b, c] = false) : DT X (.Compare a [op, op'] [b, c] pos) (wB (wChain o o' wa wb wc)) := by
  obtain ⟨r, hr, hs⟩ := ho
  obtain ⟨r', hr', hs'⟩ := ho'
  refine ⟨wkT (pt_chain hr hr' ha.p hb.p hc.p hm) fun σ H Q ⟨ρ, μ, G, P, he, hm, hw, ht⟩ => lchain hs hs' σ H _ ⟨ρ, μ, G, _, he, hm, hw, fun d μ' v H' G' p e m r => ?_⟩⟩
  cases d with
  | bl k => cases r; exact ⟨k, rfl, ht k μ' H' G' p e m⟩
  | _ => exact p.elim

/-! ### truth -/
theorem dt_val {e : Expr} {w : WE} (h : DE X e w) (hp : ∀ t, PE X e t → PT X e (tB t)) : DT X e (wB w) := by
  refine ⟨wkT (hp _ h.p) fun σ H Q ⟨ρ, μ, G, P, he, hm, hw, ht⟩ => ⟨ρ, μ, G, _, he, hm, hw, fun d μ' v H' G' p e m r => ?_⟩⟩
  cases d with
  | bl k => cases r; exact ⟨k, rfl, ht k μ' H' G' p e m⟩
  | _ => exact p.elim
def wAnd (t u : WT) : WT := fun ρ μ P => t ρ μ fun b μ1 => if b = true then u ρ μ1 P else P false μ1
def wOr (t u : WT) : WT := fun ρ μ P => t ρ μ fun b μ1 => if b = true then P true μ1 else u ρ μ1 P
def wNt (t : WT) : WT := fun ρ μ P => t ρ μ fun b μ1 => P (!b) μ1

theorem dt_val' {e : Expr} {w : WE} (h : DE X e w) (he : ∀ whole, isTrue e X.env whole = (do let v ← whole; standAt e.pos; holding [v] (truthy v))) : DT X e (wB w) := by
  refine ⟨wkT (pt_val h.p he) fun σ H Q ⟨ρ, μ, G, P, hr, hm, hw, ht⟩ => ⟨ρ, μ, G, _, hr, hm, hw, fun d μ' v H' G' p e m r => ?_⟩⟩
  cases d with
  | bl k => cases r; exact ⟨k, rfl, ht k μ' H' G' p e m⟩
  | _ => exact p.elim
/-- the items of what may be appended, joined, .. -/
def seqL (μ : Store) : D → Option (List D)
  | .lst xs => some xs
  | .ref a => match μ a with | some (.lst xs) => some xs | _ => none
  | _ => none
/-- .. of what is only read -/
def seqR (μ : Store) : D → Option (List D)
  | .scr xs => some xs
  | d => seqL μ d
/-- .. of a list or a tuple -/
def seqA (μ : Store) : D → Option (List D)
  | .tup xs => some xs
  | d => seqR μ d
theorem seqL_ok {K : PySem.W.Frag} {μ : Store} {G H : Hp} {d : D} {v : V} {ds : List D} (h : seqL μ d = some ds) (m : Sm K μ G H) (r : Rp K G d v) : ∃ a xs, v = .ref a ∧ H a = some (.lst xs) ∧ Rps K G ds xs := by
  cases r with
  | lst h1 r1 => cases h; exact ⟨_, _, rfl, m.ex _ _ h1, r1⟩
  | ref a =>
    unfold seqL at h
    dsimp only at h
    cases q : μ a with
    | none => rw [q] at h; cases h
    | some c =>
      rw [q] at h
      cases c with
      | lst xs => cases h; obtain ⟨_, xs, h1, r1⟩ := m.st a _ q; exact ⟨a, xs, rfl, h1, r1⟩
      | _ => cases h
  | _ => cases h
theorem seqR_ok {K : PySem.W.Frag} {μ : Store} {G H : Hp} {d : D} {v : V} {ds : List D} (h : seqR μ d = some ds) (m : Sm K μ G H) (r : Rp K G d v) : ∃ a xs, v = .ref a ∧ SqL K H a xs ∧ Rps K G ds xs := by
  by_cases q : ∃ es, d = .scr es
  · obtain ⟨es, rfl⟩ := q
    cases h
    cases r with
    | scr h1 r1 => exact ⟨_, _, rfl, h1.sq m.ex, r1⟩
  · have h' : seqL μ d = some ds := by
      cases d with
      | scr es => exact (q ⟨es, rfl⟩).elim
      | _ => exact h
    obtain ⟨a, xs, e, h1, r1⟩ := seqL_ok h' m r
    exact ⟨a, xs, e, SqL.of h1, r1⟩
theorem seqA_ok {K : PySem.W.Frag} {μ : Store} {G H : Hp} {d : D} {v : V} {ds : List D} (h : seqA μ d = some ds) (m : Sm K μ G H) (r : Rp K G d v) : ∃ a xs, v = .ref a ∧ (SqL K H a xs ∨ SqT K H a xs) ∧ Rps K G ds xs := by
  by_cases q : ∃ es, d = .tup es
  · obtain ⟨es, rfl⟩ := q
    cases h
    cases r with
    | tup h1 r1 => exact ⟨_, _, rfl, .inr (h1.sq m.ex), r1⟩
  · have h' : seqR μ d = some ds := by
      cases d with
      | tup es => exact (q ⟨es, rfl⟩).elim
      | _ => exact h
    obtain ⟨a, xs, e, h1, r1⟩ := seqR_ok h' m r
    exact ⟨a, xs, e, .inl h1, r1⟩
/-- a value's truth -/
def truD (μ : Store) : D → Option Bool
  | .non => some false
  | .bl b => some b
  | .int i => some (i != 0)
  | .str s => some ((s.length : Int) != 0)
  | .tup xs => some (!xs.isEmpty)
  | .lst xs => some (!xs.isEmpty)
  | .scr xs => some (!xs.isEmpty)
  | .dct xs => some (!xs.isEmpty)
  | .ref a => match μ a with | some (.lst xs) => some (!xs.isEmpty) | some (.dct xs) => some (!xs.isEmpty) | _ => none
  | _ => none
def okLen : D → Prop
  | .str s => s.length ≤ sizeLine
  | _ => True
theorem Rps.emp {K : PySem.W.Frag} {G : Hp} {ds : List D} {vs : List V} (r : Rps K G ds vs) : vs.isEmpty = ds.isEmpty := by cases r <;> rfl
theorem map_emp {α β : Type} (f : α → β) (l : List α) : (l.map f).isEmpty = l.isEmpty := by cases l <;> rfl
theorem emp_keys {κ α β : Type} {l : List (κ × α)} {m : List (κ × β)} (h : l.map (·.1) = m.map (·.1)) : l.isEmpty = m.isEmpty := by
  have e := congrArg List.isEmpty h
  rw [map_emp, map_emp] at e
  exact e
theorem tru_of {K : PySem.W.Frag} {μ : Store} {G H : Hp} {d : D} {v : V} {k : Bool} (h : truD μ d = some k) (hl : okLen d) (m : Sm K μ G H) (r : Rp K G d v) : TruV K v H k := by
  cases r with
  | non => cases h; rfl
  | bl b => cases h; rfl
  | int i => cases h; rfl
  | str s => cases h; exact ⟨hl, rfl⟩
  | ty n => cases h
  | tup h1 r1 => cases h; exact .inr (.inl ⟨_, h1.sq m.ex, by rw [r1.emp]⟩)
  | lst h1 r1 => cases h; exact .inl ⟨_, lst_sq m.ex h1, by rw [r1.emp]⟩
  | scr h1 r1 => cases h; exact .inl ⟨_, h1.sq m.ex, by rw [r1.emp]⟩
  | dct h1 e r1 => cases h; exact .inr (.inr ⟨_, m.ex _ _ h1, congrArg (!·) (emp_keys e).symm⟩)
  | obj h1 e r1 => cases h
  | excN => cases h
  | excD h1 e r1 => cases h
  | ref a =>
    unfold truD at h
    dsimp only at h
    cases q : μ a with
    | none => rw [q] at h; cases h
    | some c =>
      rw [q] at h
      cases c with
      | lst xs => cases h; obtain ⟨_, xs, h1, r1⟩ := m.st a _ q; exact .inl ⟨xs, SqL.of h1, by rw [r1.emp]⟩
      | dct xs => cases h; obtain ⟨_, kvs, h1, e1, r1⟩ := m.st a _ q; exact .inr (.inr ⟨kvs, h1, congrArg (!·) (emp_keys e1).symm⟩)
      | ins C xs => cases h
def wTrv (w : WE) : WT := fun ρ μ P => w ρ μ fun d μ1 => match truD μ1 d with | some k => okLen d ∧ P k μ1 | none => False
theorem dt_tru {e : Expr} {w : WE} (h : DE X e w) (he : ∀ whole, isTrue e X.env whole = (do let v ← whole; standAt e.pos; holding [v] (truthy v))) : DT X e (wTrv w) := by
  refine ⟨wkT (pt_truth h.p he) fun σ H Q ⟨ρ, μ, G, P, hr, hm, hw, ht⟩ => ⟨ρ, μ, G, _, hr, hm, hw, fun d μ' v H' G' p e m r => ?_⟩⟩
  cases q : truD μ' d with
  | none => rw [q] at p; exact p.elim
  | some k =>
    rw [q] at p
    exact ⟨k, tru_of q p.1 m r, ht k μ' H' G' p.2 e m⟩
theorem dw_and1 {t : WT} (h : DT X a t) : DW X (.BoolOp .And [a] pos) t := ⟨pw_and1 h.p⟩
theorem dw_or1 {t : WT} (h : DT X a t) : DW X (.BoolOp .Or [a] pos) t := ⟨pw_or1 h.p⟩
theorem dw_and {t u : WT} {rest : List Expr} (h : DT X a t) (k : DW X (.BoolOp .And (b :: rest) pos) u) : DW X (.BoolOp .And (a :: b :: rest) pos) (wAnd t u) :=
  ⟨wkW (pw_and h.p k.p) fun σ H Q ⟨ρ, μ, G, P, he, hm, hw, ht⟩ => ⟨ρ, μ, G, _, he, hm, hw, fun b μ1 H1 G1 p e m => by
    cases b with
    | true => rw [if_pos rfl] at p ⊢; exact ⟨ρ, μ1, G1, P, he.mono e, m, p, ht.mono e⟩
    | false => rw [if_neg Bool.false_ne_true] at p ⊢; exact ht _ _ _ _ p e m⟩⟩
theorem dw_or {t u : WT} {rest : List Expr} (h : DT X a t) (k : DW X (.BoolOp .Or (b :: rest) pos) u) : DW X (.BoolOp .Or (a :: b :: rest) pos) (wOr t u) :=
  ⟨wkW (pw_or h.p k.p) fun σ H Q ⟨ρ, μ, G, P, he, hm, hw, ht⟩ => ⟨ρ, μ, G, _, he, hm, hw, fun b μ1 H1 G1 p e m => by
    cases b with
    | false => rw [if_neg Bool.false_ne_true] at p ⊢; exact ⟨ρ, μ1, G1, P, he.mono e, m, p, ht.mono e⟩
    | true => rw [if_pos rfl] at p ⊢; exact ht _ _ _ _ p e m⟩⟩
theorem dt_w {t : WT} (h : DW X a t) : DT X a t := ⟨h.p.pt⟩
theorem dt_not {t : WT} (h : DT X a t) : DT X (.UnaryOp .Not a pos) (wNt t) :=
  ⟨wkT (pt_not h.p) fun σ H Q ⟨ρ, μ, G, P, he, hm, hw, ht⟩ => ⟨ρ, μ, G, _, he, hm, hw, fun b μ1 H1 G1 p e m => ht _ _ _ _ p e m⟩⟩
/-- and, or, not as values -/
def wAndV (wa wb : WE) : WE := fun ρ μ P => wa ρ μ fun d μ1 => match d with | .bl true => wb ρ μ1 P | .bl false => P (.bl false) μ1 | _ => False
def wOrV (wa wb : WE) : WE := fun ρ μ P => wa ρ μ fun d μ1 => match d with | .bl false => wb ρ μ1 P | .bl true => P (.bl true) μ1 | _ => False
def wNotV (wa : WE) : WE := fun ρ μ P => wa ρ μ fun d μ1 => match d with | .bl b => P (.bl (!b)) μ1 | _ => False
theorem de_one {op} (h : DE X a wa) : DE X (.BoolOp op [a] pos) wa := ⟨pe_one h.p⟩
theorem de_and {rest : List Expr} (h : DE X a wa) (k : DE X (.BoolOp .And (b :: rest) pos) wb) : DE X (.BoolOp .And (a :: b :: rest) pos) (wAndV wa wb) :=
  ⟨wkE (pe_and h.p k.p) fun σ H Q ⟨ρ, μ, G, P, he, hm, hw, ht⟩ => ⟨ρ, μ, G, _, he, hm, hw, fun d μ1 v H1 G1 p e m r => by
    cases d with
    | bl k =>
      cases r
      refine ⟨k, rfl, ?_⟩
      cases k with
      | true => rw [if_pos rfl]; exact ⟨ρ, μ1, G1, P, he.mono e, m, p, ht.mono e⟩
      | false => rw [if_neg Bool.false_ne_true]; exact ht _ _ _ _ _ p e m (.bl _)
    | _ => exact p.elim⟩⟩
theorem de_or {rest : List Expr} (h : DE X a wa) (k : DE X (.BoolOp .Or (b :: rest) pos) wb) : DE X (.BoolOp .Or (a :: b :: rest) pos) (wOrV wa wb) :=
  ⟨wkE (pe_or h.p k.p) fun σ H Q ⟨ρ, μ, G, P, he, hm, hw, ht⟩ => ⟨ρ, μ, G, _, he, hm, hw, fun d μ1 v H1 G1 p e m r => by
    cases d with
    | bl k =>
      cases r
      refine ⟨k, rfl, ?_⟩
      cases k with
      | false => rw [if_neg Bool.false_ne_true]; exact ⟨ρ, μ1, G1, P, he.mono e, m, p, ht.mono e⟩
      | true => rw [if_pos rfl]; exact ht _ _ _ _ _ p e m (.bl _)
    | _ => exact p.elim⟩⟩
theorem de_not (h : DE X a wa) : DE X (.UnaryOp .Not a pos) (wNotV wa) :=
  ⟨wkE (pe_not h.p) fun σ H Q ⟨ρ, μ, G, P, he, hm, hw, ht⟩ => ⟨ρ, μ, G, _, he, hm, hw, fun d μ1 v H1 G1 p e m r => by
    cases d with
    | bl k => cases r; exact ⟨k, rfl, ht _ _ _ _ _ p e m (.bl _)⟩
    | _ => exact p.elim⟩⟩
def wIf (t : WT) (wa wb : WE) : WE := fun ρ μ P => t ρ μ fun b μ1 => if b = true then wa ρ μ1 P else wb ρ μ1 P
theorem de_if {t : WT} (h : DT X c t) (ha : DE X a wa) (hb : DE X b wb) : DE X (.IfExp c a b pos) (wIf t wa wb) :=
  ⟨wkE (pe_ifExp h.p ha.p hb.p) fun σ H Q ⟨ρ, μ, G, P, he, hm, hw, ht⟩ => ⟨ρ, μ, G, _, he, hm, hw, fun b μ1 H1 G1 p e m => by
    cases b with
    | true => rw [if_pos rfl] at p ⊢; exact ⟨ρ, μ1, G1, P, he.mono e, m, p, ht.mono e⟩
    | false => rw [if_neg Bool.false_ne_true] at p ⊢; exact ⟨ρ, μ1, G1, P, he.mono e, m, p, ht.mono e⟩⟩⟩

/-! ### argument lists, displays -/
def wANil : WA := fun _ μ P => P [] μ
def wACons (w : WE) (r : WA) : WA := fun ρ μ P => w ρ μ fun x μ1 => r ρ μ1 fun xs μ2 => P (x :: xs) μ2
variable {es : List Expr} {wr : WA}
theorem da_nil : DA X [] wANil := ⟨wkA pa_nil fun σ H Q ⟨ρ, μ, G, P, he, hm, hw, ht⟩ => ht _ _ _ _ _ hw (Ex.refl _) hm .nil⟩
theorem da_cons (h : DE X a wa) (k : DA X es wr) (hs : starEach (a :: es) X.env = (false, eval a X.env) :: starEach es X.env := by rfl) : DA X (a :: es) (wACons wa wr) :=
  ⟨wkA (pa_cons h.p k.p hs) fun σ H Q ⟨ρ, μ, G, P, he, hm, hw, ht⟩ => ⟨ρ, μ, G, _, he, hm, hw, fun x μ1 v1 H1 G1 p1 e1 m1 r1 =>
    ⟨ρ, μ1, G1, _, he.mono e1, m1, p1, fun xs μ2 vs H2 G2 p2 e2 m2 r2 => ht _ _ _ _ _ p2 (e1.trans e2) m2 (.cons (r1.mono e2) r2)⟩⟩⟩
def wTup (w : WA) : WE := fun ρ μ P => w ρ μ fun xs μ1 => xs.length ≤ sizeLine ∧ P (.tup xs) μ1
/-- a list that stays as it is -/
def wLst (w : WA) : WE := fun ρ μ P => w ρ μ fun xs μ1 => xs.length ≤ sizeLine ∧ P (.lst xs) μ1
/-- a list that may change -/
def wLstM (w : WA) : WE := fun ρ μ P => w ρ μ fun xs μ1 => xs.length ≤ sizeLine ∧ ∀ p, μ1 p = none → P (.ref p) (setS μ1 p (.lst xs))
theorem new_tup {K : PySem.W.Frag} {μ : Store} {G H : Hp} {ds : List D} {xs : List V} {P : D → Store → Prop} {Q : VK} (m : Sm K μ G H) (r : Rps K G ds xs) (h : P (.tup ds) μ) (t : Tells K G P Q) : ∀ p, H p = none → Q (.ref p) (upd H p (.tup xs)) := fun p hp => by
  obtain ⟨m2, e2⟩ := m.frozen hp (.tup xs)
  exact t _ _ _ _ _ h e2 m2 (.tup (.inl upd_same) (r.mono e2))
theorem new_lst {K : PySem.W.Frag} {μ : Store} {G H : Hp} {ds : List D} {xs : List V} {P : D → Store → Prop} {Q : VK} (m : Sm K μ G H) (r : Rps K G ds xs) (h : P (.lst ds) μ) (t : Tells K G P Q) : ∀ p, H p = none → Q (.ref p) (upd H p (.lst xs)) := fun p hp => by
  obtain ⟨m2, e2⟩ := m.frozen hp (.lst xs)
  exact t _ _ _ _ _ h e2 m2 (.lst upd_same (r.mono e2))
theorem new_lstM {K : PySem.W.Frag} {μ : Store} {G H : Hp} {ds : List D} {xs : List V} {P : D → Store → Prop} {Q : VK} (m : Sm K μ G H) (r : Rps K G ds xs) (h : ∀ p, μ p = none → P (.ref p) (setS μ p (.lst ds))) (t : Tells K G P Q) : ∀ p, H p = none → Q (.ref p) (upd H p (.lst xs)) := fun p hp =>
  t _ _ _ _ _ (h p (m.nn hp)) (Ex.refl _) (m.write (m.ex.nn hp) ⟨xs, upd_same, r⟩) (.ref p)
theorem de_tup {x1} (h : DA X es wr) : DE X (.Tuple es x1 pos) (wTup wr) :=
  ⟨wkE (pe_tup h.p) fun σ H Q ⟨ρ, μ, G, P, he, hm, hw, ht⟩ => ⟨ρ, μ, G, _, he, hm, hw, fun xs μ1 vs H1 G1 p1 e1 m1 r1 => ⟨by rw [← r1.length]; exact p1.1, new_tup m1 r1 p1.2 (ht.mono e1)⟩⟩⟩
theorem de_lst (h : DA X es wr) : DE X (.List es pos) (wLst wr) :=
  ⟨wkE (pe_lst h.p) fun σ H Q ⟨ρ, μ, G, P, he, hm, hw, ht⟩ => ⟨ρ, μ, G, _, he, hm, hw, fun xs μ1 vs H1 G1 p1 e1 m1 r1 => ⟨by rw [← r1.length]; exact p1.1, new_lst m1 r1 p1.2 (ht.mono e1)⟩⟩⟩
theorem de_lstM (h : DA X es wr) : DE X (.List es pos) (wLstM wr) :=
  ⟨wkE (pe_lst h.p) fun σ H Q ⟨ρ, μ, G, P, he, hm, hw, ht⟩ => ⟨ρ, μ, G, _, he, hm, hw, fun xs μ1 vs H1 G1 p1 e1 m1 r1 => ⟨by rw [← r1.length]; exact p1.1, new_lstM m1 r1 p1.2 (ht.mono e1)⟩⟩⟩
end
end Dl

namespace Dl
open PySem L2
section
variable {X : Cx}
theorem OpR3 {f : Value → Value → Sem Value} {r r' : R2} (h : OpR X f r) (h' : OpR X f r') : OpR X f (fun x y H Q => r x y H Q ∨ r' x y H Q) := h.or h'
/-! ### + -/
def oAdd : OD := fun x y μ P => match x, y with
  | .int i, .int j => P (.int (i + j)) μ
  | .str i, .str j => i.length + j.length ≤ sizeLine ∧ P (.str (i ++ j)) μ
  | .tup xs, .tup ys => xs.length + ys.length ≤ sizeLine ∧ P (.tup (xs ++ ys)) μ
  | x, y => match seqL μ x, seqL μ y with
    | some xs, some ys => xs.length + ys.length ≤ sizeLine ∧ P (.lst (xs ++ ys)) μ
    | _, _ => False
/-- .. of lists, the sum may change -/
def oAddM : OD := fun x y μ P => match seqL μ x, seqL μ y with
    | some xs, some ys => xs.length + ys.length ≤ sizeLine ∧ ∀ p, μ p = none → P (.ref p) (setS μ p (.lst (xs ++ ys)))
    | _, _ => False
theorem os_add : OpS X (binaryOp .Add) oAdd := by
  refine ⟨_, op_add.or (op_add_str.or (op_catA.or op_cat)), ?_⟩
  intro x y μ P G H v u Q h m rx ry t
  unfold oAdd at h
  split at h
  · cases rx
    cases ry
    exact .inl ⟨_, _, rfl, rfl, t _ _ _ _ _ h (Ex.refl _) m (.int _)⟩
  · cases rx
    cases ry
    exact .inr (.inl ⟨_, _, rfl, rfl, h.1, t _ _ _ _ _ h.2 (Ex.refl _) m (.str _)⟩)
  · cases rx with
    | tup hx r1 =>
      cases ry with
      | tup hy r2 =>
        refine .inr (.inr (.inl ⟨_, _, _, _, rfl, rfl, hx.sq m.ex, hy.sq m.ex, by rw [← r1.length, ← r2.length]; exact h.1, fun e => ?_, fun _ e => ?_, fun _ _ => new_tup m (r1.append r2) h.2 t⟩))
        · subst e
          cases r1
          exact t _ _ _ _ _ h.2 (Ex.refl _) m (.tup hy r2)
        · subst e
          cases r2
          refine t _ _ _ _ _ h.2 (Ex.refl _) m (.tup hx ?_)
          rw [List.append_nil]
          exact r1
  · split at h
    · rename_i xs ys e1 e2
      obtain ⟨a, vs, rfl, h1, r1⟩ := seqL_ok e1 m rx
      obtain ⟨b, us, rfl, h2, r2⟩ := seqL_ok e2 m ry
      exact .inr (.inr (.inr ⟨_, _, _, _, rfl, rfl, h1, h2, by rw [← r1.length, ← r2.length]; exact h.1, new_lst m (r1.append r2) h.2 t⟩))
    · exact h.elim
theorem os_addM : OpS X (binaryOp .Add) oAddM := by
  refine ⟨_, op_cat, ?_⟩
  intro x y μ P G H v u Q h m rx ry t
  unfold oAddM at h
  split at h
  · rename_i xs ys e1 e2
    obtain ⟨a, vs, rfl, h1, r1⟩ := seqL_ok e1 m rx
    obtain ⟨b, us, rfl, h2, r2⟩ := seqL_ok e2 m ry
    exact ⟨_, _, _, _, rfl, rfl, h1, h2, by rw [← r1.length, ← r2.length]; exact h.1, new_lstM m (r1.append r2) h.2 t⟩
  · exact h.elim
/-! ### ints -/
def oI (C : Int → Int → Prop) (g : Int → Int → D) : OD := fun x y μ P => match x, y with
  | .int i, .int j => C i j ∧ P (g i j) μ
  | _, _ => False
theorem osI {f : Value → Value → Sem Value} {C : Int → Int → Prop} {g : Int → Int → V} {gd : Int → Int → D} (h : OpR X f (rI C g)) (hg : ∀ G i j, Rp X.K G (gd i j) (g i j)) : OpS X f (oI C gd) := by
  refine ⟨_, h, ?_⟩
  intro x y μ P G H v u Q h m rx ry t
  unfold oI at h
  split at h
  · cases rx
    cases ry
    exact ⟨_, _, rfl, rfl, h.1, t _ _ _ _ _ h.2 (Ex.refl _) m (hg _ _ _)⟩
  · exact h.elim
def oI0 (g : Int → Int → D) : OD := fun x y μ P => match x, y with
  | .int i, .int j => P (g i j) μ
  | _, _ => False
theorem osI0 {f : Value → Value → Sem Value} {g : Int → Int → V} {gd : Int → Int → D} (h : OpR X f (rI0 g)) (hg : ∀ G i j, Rp X.K G (gd i j) (g i j)) : OpS X f (oI0 gd) := by
  refine ⟨_, h, ?_⟩
  intro x y μ P G H v u Q h m rx ry t
  unfold oI0 at h
  split at h
  · cases rx
    cases ry
    exact ⟨_, _, rfl, rfl, t _ _ _ _ _ h (Ex.refl _) m (hg _ _ _)⟩
  · exact h.elim
def oSub : OD := oI0 fun i j => .int (i - j)
def oFdiv : OD := oI (fun _ j => 0 < j ∧ j < 1073741824) fun i j => .int (i / j)
def oMod : OD := oI (fun _ j => 0 < j) fun i j => .int (i % j)
def oPow : OD := oI (fun i j => 0 ≤ j ∧ j ≤ 1000000 ∧ i.natAbs < 2 ^ 64) fun i j => .int (i ^ j.toNat)
theorem os_sub : OpS X (binaryOp .Sub) oSub := osI0 op_sub fun _ _ _ => .int _
theorem os_fdiv : OpS X (binaryOp .FloorDiv) oFdiv := osI op_fdiv fun _ _ _ => .int _
theorem os_mod : OpS X (binaryOp .Mod) oMod := osI op_mod fun _ _ _ => .int _
theorem os_pow : OpS X (binaryOp .Pow) oPow := osI op_pow fun _ _ _ => .int _
/-- * of ints, of a list and an int -/
def oMul : OD := fun x y μ P => match x, y with
  | .int i, .int j => ((-(2 ^ 64) < i ∧ i < 2 ^ 64) ∨ (-(2 ^ 64) < j ∧ j < 2 ^ 64)) ∧ P (.int (i * j)) μ
  | x, .int k => match seqL μ x with
    | some xs => (-(2 ^ 63) ≤ k ∧ k < 2 ^ 63 ∧ xs.length * k.toNat ≤ sizeLine) ∧ P (.lst (List.replicate k.toNat xs).flatten) μ
    | none => False
  | _, _ => False
def oMulM : OD := fun x y μ P => match seqL μ x, y with
  | some xs, .int k => (-(2 ^ 63) ≤ k ∧ k < 2 ^ 63 ∧ xs.length * k.toNat ≤ sizeLine) ∧ ∀ p, μ p = none → P (.ref p) (setS μ p (.lst (List.replicate k.toNat xs).flatten))
  | _, _ => False
theorem Rps.rep {K : PySem.W.Frag} {G : Hp} {ds : List D} {vs : List V} (r : Rps K G ds vs) : ∀ k : Nat, Rps K G (List.replicate k ds).flatten (List.replicate k vs).flatten
  | 0 => .nil
  | k + 1 => by
    rw [List.replicate_succ, List.replicate_succ, List.flatten_cons, List.flatten_cons]
    exact r.append (Rps.rep r k)
theorem os_mul : OpS X (binaryOp .Mult) oMul := by
  refine ⟨_, op_mul.or op_rep, ?_⟩
  intro x y μ P G H v u Q h m rx ry t
  unfold oMul at h
  split at h
  · cases rx
    cases ry
    exact .inl ⟨_, _, rfl, rfl, h.1, t _ _ _ _ _ h.2 (Ex.refl _) m (.int _)⟩
  · split at h
    · rename_i xs e
      cases ry
      obtain ⟨a, vs, rfl, h1, r1⟩ := seqL_ok e m rx
      refine .inr ⟨_, _, _, rfl, rfl, h1, h.1.1, h.1.2.1, by rw [← r1.length]; exact h.1.2.2, ?_⟩
      exact new_lst m (r1.rep _) h.2 t
    · exact h.elim
  · exact h.elim
theorem os_mulM : OpS X (binaryOp .Mult) oMulM := by
  refine ⟨_, op_rep, ?_⟩
  intro x y μ P G H v u Q h m rx ry t
  unfold oMulM at h
  split at h
  · rename_i xs k e
    cases ry
    obtain ⟨a, vs, rfl, h1, r1⟩ := seqL_ok e m rx
    exact ⟨_, _, _, rfl, rfl, h1, h.1.1, h.1.2.1, by rw [← r1.length]; exact h.1.2.2, new_lstM m (r1.rep _) h.2 t⟩
  · exact h.elim
/-! ### comparisons -/
def oLt : OD := oI0 fun i j => .bl (decide (i < j))
def oLe : OD := oI0 fun i j => .bl (decide (i ≤ j))
def oGt : OD := oI0 fun i j => .bl (decide (j < i))
def oGe : OD := oI0 fun i j => .bl (decide (j ≤ i))
theorem os_lt : OpS X (compareOp .Lt) oLt := osI0 op_lt fun _ _ _ => .bl _
theorem os_le : OpS X (compareOp .LtE) oLe := osI0 op_le fun _ _ _ => .bl _
theorem os_gt : OpS X (compareOp .Gt) oGt := osI0 op_gt fun _ _ _ => .bl _
theorem os_ge : OpS X (compareOp .GtE) oGe := osI0 op_ge fun _ _ _ => .bl _
/- data as PyData -/
mutual
def pyD : D → Option PyData
  | .non => some .none
  | .bl b => some (.bool b)
  | .int i => some (.int i)
  | .str s => some (.str s)
  | .tup xs => (pyDs xs).map .tuple
  | .lst xs => (pyDs xs).map .list
  | .scr xs => (pyDs xs).map .list
  | _ => none
def pyDs : List D → Option (List PyData)
  | [] => some []
  | x :: xs => match pyD x, pyDs xs with | some a, some b => some (a :: b) | _, _ => none
end
def pyS (μ : Store) : D → Option PyData
  | .ref a => match μ a with | some (.lst xs) => (pyDs xs).map .list | _ => none
  | d => pyD d
mutual
theorem pyD_ok {K : PySem.W.Frag} {G H : Hp} (e : Ex G H) : ∀ {d : D} {v : V} {p : PyData}, Rp K G d v → pyD d = some p → Dp K H v p
  | _, _, _, .non, h => by cases h; exact .non
  | _, _, _, .bl b, h => by cases h; exact .bl b
  | _, _, _, .int i, h => by cases h; exact .int i
  | _, _, _, .str s, h => by cases h; exact .str s
  | _, _, _, .ty n, h => by cases h
  | _, _, _, .ref a, h => by cases h
  | _, _, p, .tup (ds := ds) h1 r, h => by
    have h' : (pyDs ds).map PyData.tuple = some p := h
    cases q : pyDs ds with
    | none => rw [q] at h'; cases h'
    | some ps => rw [q] at h'; cases h'; exact .tup (h1.sq e) (pyDs_ok e r q)
  | _, _, p, .lst (ds := ds) h1 r, h => by
    have h' : (pyDs ds).map PyData.list = some p := h
    cases q : pyDs ds with
    | none => rw [q] at h'; cases h'
    | some ps => rw [q] at h'; cases h'; exact .lst (lst_sq e h1) (pyDs_ok e r q)
  | _, _, p, .scr (ds := ds) h1 r, h => by
    have h' : (pyDs ds).map PyData.list = some p := h
    cases q : pyDs ds with
    | none => rw [q] at h'; cases h'
    | some ps => rw [q] at h'; cases h'; exact .lst (h1.sq e) (pyDs_ok e r q)
  | _, _, _, .dct h1 k r, h => by cases h
  | _, _, _, .obj h1 k r, h => by cases h
  | _, _, _, .excN _ _, h => by cases h
  | _, _, _, .excD _ _ _, h => by cases h
theorem pyDs_ok {K : PySem.W.Frag} {G H : Hp} (e : Ex G H) : ∀ {ds : List D} {vs : List V} {ps : List PyData}, Rps K G ds vs → pyDs ds = some ps → DpAll K H vs ps
  | _, _, _, .nil, h => by cases h; exact .nil
  | _, _, ps, .cons (d := d) (ds := ds) h1 r, h => by
    have h' : (match pyD d, pyDs ds with | some a, some b => some (a :: b) | _, _ => none) = some ps := h
    cases q : pyD d with
    | none => rw [q] at h'; cases h'
    | some a =>
      cases q2 : pyDs ds with
      | none => rw [q, q2] at h'; cases h'
      | some b => rw [q, q2] at h'; cases h'; exact .cons (pyD_ok e h1 q) (pyDs_ok e r q2)
end
theorem pyS_ok {K : PySem.W.Frag} {μ : Store} {G H : Hp} (m : Sm K μ G H) {d : D} {v : V} {p : PyData} (r : Rp K G d v) (h : pyS μ d = some p) : Dp K H v p := by
  by_cases q : ∃ a, d = .ref a
  · obtain ⟨a, rfl⟩ := q
    cases r
    unfold pyS at h
    dsimp only at h
    split at h
    · rename_i xs e
      obtain ⟨_, vs, h1, r1⟩ := m.st a _ e
      cases q : pyDs xs with
      | none => rw [q] at h; cases h
      | some ps => rw [q] at h; cases h; exact .lst (SqL.of h1) (pyDs_ok m.ex r1 q)
    · cases h
  · have h' : pyD d = some p := by
      cases d with
      | ref a => exact (q ⟨a, rfl⟩).elim
      | _ => exact h
    exact pyD_ok m.ex r h'
/-- equality of plain values -/
def scD : D → D → Option Bool
  | .str i, .str j => some (i == j)
  | .int i, .int j => some (i == j)
  | .bl i, .bl j => some (i == j)
  | .non, .non => some true
  | .non, .str _ => some false | .str _, .non => some false | .non, .int _ => some false | .int _, .non => some false
  | .int _, .str _ => some false | .str _, .int _ => some false
  | _, _ => none
theorem scD_ok {K : PySem.W.Frag} {G : Hp} {x y : D} {v u : V} {b : Bool} (h : scD x y = some b) (rx : Rp K G x v) (ry : Rp K G y u) : scal v u = true ∧ decide (v = u) = b := by
  unfold scD at h
  split at h <;> first | (cases h; cases rx; cases ry; first | exact ⟨rfl, dec_str⟩ | exact ⟨rfl, dec_int⟩ | exact ⟨rfl, dec_bl⟩ | exact ⟨rfl, by simp⟩) | cases h
def oEq : OD := fun x y μ P => match scD x y with
  | some b => P (.bl b) μ
  | none => match pyS μ x, pyS μ y with
    | some d, some e => SeqAt.shaped d = true ∧ SeqAt.shaped e = true ∧ P (.bl (PyData.eqv d e)) μ
    | _, _ => False
def oNe : OD := fun x y μ P => match scD x y with
  | some b => P (.bl (!b)) μ
  | none => match pyS μ x, pyS μ y with
    | some d, some e => SeqAt.shaped d = true ∧ SeqAt.shaped e = true ∧ P (.bl (!PyData.eqv d e)) μ
    | _, _ => False
theorem os_eq (hu : X.A.units + 64 < cLine) : OpS X (compareOp .Eq) oEq := by
  refine ⟨_, op_eq.or (op_eqD hu), ?_⟩
  intro x y μ P G H v u Q h m rx ry t
  unfold oEq at h
  split at h
  · rename_i b hb
    obtain ⟨h1, h2⟩ := scD_ok hb rx ry
    exact .inl ⟨h1, t _ _ _ _ _ h (Ex.refl _) m (by rw [h2]; exact .bl _)⟩
  · split at h
    · rename_i d e h1 h2
      exact .inr ⟨d, e, pyS_ok m rx h1, pyS_ok m ry h2, h.1, h.2.1, t _ _ _ _ _ h.2.2 (Ex.refl _) m (.bl _)⟩
    · exact h.elim
theorem os_ne (hu : X.A.units + 64 < cLine) : OpS X (compareOp .NotEq) oNe := by
  refine ⟨_, op_ne.or (op_neD hu), ?_⟩
  intro x y μ P G H v u Q h m rx ry t
  unfold oNe at h
  split at h
  · rename_i b hb
    obtain ⟨h1, h2⟩ := scD_ok hb rx ry
    exact .inl ⟨h1, t _ _ _ _ _ h (Ex.refl _) m (by rw [h2]; exact .bl _)⟩
  · split at h
    · rename_i d e h1 h2
      exact .inr ⟨d, e, pyS_ok m rx h1, pyS_ok m ry h2, h.1, h.2.1, t _ _ _ _ _ h.2.2 (Ex.refl _) m (.bl _)⟩
    · exact h.elim
end
end Dl

namespace Dl
open PySem L2
/-! ### targets -/
abbrev WG := D → Env → Store → (Env → Store → Prop) → Prop
abbrev WGs := List D → Env → Store → (Env → Store → Prop) → Prop
def TellsN (K : PySem.W.Frag) (G : Hp) (P : Env → Store → Prop) (Q : L2.St → Hp → Prop) : Prop := ∀ ρ' μ' σ' H' G', P ρ' μ' → Ex G G' → EnvR K G' ρ' σ' → Sm K μ' G' H' → Q σ' H'
theorem TellsN.mono {K : PySem.W.Frag} {G G' : Hp} {P : Env → Store → Prop} {Q : L2.St → Hp → Prop} (e : Ex G G') (h : TellsN K G P Q) : TellsN K G' P Q := fun a b c d f g x => h a b c d f g (e.trans x)
/-- what a target does, told of data; vs: the places that it stores -/
def GPat (K : PySem.W.Frag) (vs : List Nat) (g : TG) (wg : WG) : Prop := ∀ {v : V} {σ : L2.St} {H : Hp} {Q : L2.St → Hp → Prop} {ρ : Env} {μ : Store} {G : Hp} {d : D} {P : Env → Store → Prop},
  EnvR K G ρ σ → Sm K μ G H → Rp K G d v → wg d ρ μ P → (∀ ρ' μ' σ' H' G', P ρ' μ' → Ex G G' → EnvR K G' ρ' σ' → Sm K μ' G' H' → wipe σ' vs = wipe σ vs → Q σ' H') → g v σ H Q
def GPats (K : PySem.W.Frag) (vs : List Nat) (g : TGs) (wg : WGs) : Prop := ∀ {v : List V} {σ : L2.St} {H : Hp} {Q : L2.St → Hp → Prop} {ρ : Env} {μ : Store} {G : Hp} {d : List D} {P : Env → Store → Prop},
  EnvR K G ρ σ → Sm K μ G H → Rps K G d v → wg d ρ μ P → (∀ ρ' μ' σ' H' G', P ρ' μ' → Ex G G' → EnvR K G' ρ' σ' → Sm K μ' G' H' → wipe σ' vs = wipe σ vs → Q σ' H') → g v σ H Q
def wgName (i : Nat) : WG := fun d ρ μ P => P (ρ.set i (some d)) μ
theorem wipe_set {i : Nat} {x : Option V} : ∀ {vs : List Nat} {σ : L2.St}, i ∈ vs → wipe (σ.set i x) vs = wipe σ vs
  | v :: vs, σ, h => by
    unfold wipe
    by_cases e : i = v
    · subst e
      by_cases hm : i ∈ vs
      · rw [wipe_set hm]
      · have key : ∀ (ws : List Nat), wipe (σ.set i x) ws = if i ∈ ws then wipe σ ws else (wipe σ ws).set i x := by
          intro ws
          induction ws with
          | nil => rw [if_neg (by simp)]; rfl
          | cons w ws ih =>
            unfold wipe
            rw [ih]
            by_cases h1 : i ∈ ws
            · rw [if_pos h1, if_pos (List.mem_cons_of_mem _ h1)]
            · rw [if_neg h1]
              by_cases h2 : i = w
              · subst h2
                rw [if_pos List.mem_cons_self, List.set_set]
              · rw [if_neg (by simp [h1, h2]), List.set_comm _ _ h2]
        rw [key vs, if_neg hm, List.set_set]
    · rcases List.mem_cons.mp h with h | h
      · exact absurd h e
      · rw [wipe_set h]
theorem wipe_wipe {σ : L2.St} : ∀ {ws vs : List Nat}, (∀ i ∈ ws, i ∈ vs) → wipe (wipe σ ws) vs = wipe σ vs
  | [], _, _ => rfl
  | w :: ws, vs, h => by
    show wipe ((wipe σ ws).set w none) vs = wipe σ vs
    rw [wipe_set (h w List.mem_cons_self), wipe_wipe fun i hi => h i (List.mem_cons_of_mem _ hi)]
theorem gp_name {K : PySem.W.Frag} {vs : List Nat} {i : Nat} (h : i ∈ vs) : GPat K vs (gName i) (wgName i) := fun he hm r hw k => k _ _ _ _ _ hw (Ex.refl _) (he.set i r) hm (wipe_set h)
def wgNil : WGs := fun ds ρ μ P => ds = [] ∧ P ρ μ
def wgCons (g : WG) (r : WGs) : WGs := fun ds ρ μ P => match ds with | d :: ds => g d ρ μ fun ρ1 μ1 => r ds ρ1 μ1 P | [] => False
def wgTup (n : Nat) (g : WGs) : WG := fun d ρ μ P => match d with | .tup ds => ds.length = n ∧ g ds ρ μ P | _ => False
theorem gp_nil {K : PySem.W.Frag} {vs : List Nat} : GPats K vs gNil wgNil := fun he hm r hw k => by
  obtain ⟨rfl, hw⟩ := hw
  cases r
  exact ⟨rfl, k _ _ _ _ _ hw (Ex.refl _) he hm rfl⟩
theorem gp_cons {K : PySem.W.Frag} {vs : List Nat} {g : TG} {wg : WG} {gs : TGs} {wgs : WGs} (h : GPat K vs g wg) (hs : GPats K vs gs wgs) : GPats K vs (gCons g gs) (wgCons wg wgs) := fun he hm r hw k => by
  cases r with
  | nil => exact hw.elim
  | cons r1 r2 => exact ⟨_, _, rfl, h he hm r1 hw fun ρ' μ' σ' H' G' p e he' hm' q => hs he' hm' (r2.mono e) p fun ρ2 μ2 σ2 H2 G2 p2 e2 he2 hm2 q2 => k _ _ _ _ _ p2 (e.trans e2) he2 hm2 (q2.trans q)⟩
theorem gp_tup {K : PySem.W.Frag} {vs : List Nat} {n : Nat} {gs : TGs} {wgs : WGs} (hs : GPats K vs gs wgs) : GPat K vs (gTup K n gs) (wgTup n wgs) := fun {v σ H Q ρ μ G d P} he hm r hw k => by
  cases r with
  | tup h1 r1 => exact ⟨_, _, rfl, h1.sq hm.ex, by rw [← r1.length]; exact hw.1, hs he hm r1 hw.2 k⟩
  | _ => exact hw.elim
/-- a target by its reading -/
def LG (K : PySem.W.Frag) (wg : WG) : TG := fun v σ H Q => ∃ ρ μ G d P, EnvR K G ρ σ ∧ Sm K μ G H ∧ Rp K G d v ∧ wg d ρ μ P ∧ TellsN K G P Q
structure DG (X : Cx) (tg : Expr) (wg : WG) : Prop where
  p : PG X tg (LG X.K wg)
section
variable {X : Cx}
theorem wkG {tg : Expr} {t t' : TG} (h : PG X tg t) (k : ∀ v σ H Q, t' v σ H Q → t v σ H Q) : PG X tg t' := ⟨fun pins s σ H v u Q I r q => h.run pins s σ H v u Q I r (k v σ H Q q)⟩
theorem dg_pat {tg : Expr} {vs : List Nat} {g : TG} {wg : WG} (h : PG X tg g) (k : GPat X.K vs g wg) : DG X tg wg := ⟨wkG h fun v σ H Q ⟨ρ, μ, G, d, P, he, hm, r, hw, ht⟩ => k he hm r hw fun ρ' μ' σ' H' G' p e he' hm' _ => ht _ _ _ _ _ p e he' hm'⟩

/-! ### o[i] = v -/
def putD {κ β : Type} [DecidableEq κ] (kvs : List (κ × β)) (k : κ) (v : β) : List (κ × β) :=
  if (kvs.any fun kv => decide (kv.1 = k)) = true then kvs.map (fun kv => if kv.1 = k then (kv.1, v) else kv) else kvs ++ [(k, v)]
theorem any_keys {κ α β : Type} [DecidableEq κ] (k : κ) : ∀ {l : List (κ × α)} {m : List (κ × β)}, l.map (·.1) = m.map (·.1) → (l.any fun kv => decide (kv.1 = k)) = m.any fun kv => decide (kv.1 = k)
  | [], [], _ => rfl
  | [], _ :: _, e => by simp at e
  | _ :: _, [], e => by simp at e
  | a :: l, b :: m, e => by
    have e1 : a.1 = b.1 ∧ l.map (·.1) = m.map (·.1) := by simpa using e
    rw [List.any_cons, List.any_cons, e1.1, any_keys k e1.2]
theorem mapput_keys {κ : Type} [DecidableEq κ] {K : PySem.W.Frag} {G : Hp} {k : κ} {d : D} {v : V} (hd : Rp K G d v) : ∀ {ds : List (κ × D)} {kvs : List (κ × V)}, kvs.map (·.1) = ds.map (·.1) → Rps K G (ds.map (·.2)) (kvs.map (·.2)) →
    (kvs.map fun kv => if kv.1 = k then (kv.1, v) else kv).map (·.1) = (ds.map fun kv => if kv.1 = k then (kv.1, d) else kv).map (·.1) ∧
      Rps K G ((ds.map fun kv => if kv.1 = k then (kv.1, d) else kv).map (·.2)) ((kvs.map fun kv => if kv.1 = k then (kv.1, v) else kv).map (·.2))
  | [], [], _, _ => ⟨rfl, .nil⟩
  | [], _ :: _, e, _ => by simp at e
  | _ :: _, [], e, _ => by simp at e
  | (a, d1) :: ds, (b, v1) :: kvs, e, r => by
    have e1 : b = a ∧ kvs.map (·.1) = ds.map (·.1) := by simpa using e
    obtain ⟨rfl, e2⟩ := e1
    cases r with
    | cons h r =>
      obtain ⟨i1, i2⟩ := mapput_keys (k := k) hd e2 r
      simp only [List.map_cons]
      by_cases q : b = k
      · rw [if_pos q, if_pos q]
        exact ⟨congrArg (b :: ·) i1, .cons hd i2⟩
      · rw [if_neg q, if_neg q]
        exact ⟨congrArg (b :: ·) i1, .cons h i2⟩
theorem putD_keys {κ : Type} [DecidableEq κ] {K : PySem.W.Frag} {G : Hp} {k : κ} {d : D} {v : V} (hd : Rp K G d v) {ds : List (κ × D)} {kvs : List (κ × V)} (e : kvs.map (·.1) = ds.map (·.1)) (r : Rps K G (ds.map (·.2)) (kvs.map (·.2))) :
    (putK kvs k v).map (·.1) = (putD ds k d).map (·.1) ∧ Rps K G ((putD ds k d).map (·.2)) ((putK kvs k v).map (·.2)) := by
  unfold putK putD
  rw [any_keys k e]
  split
  · exact mapput_keys hd e r
  · rw [List.map_append, List.map_append, List.map_append, List.map_append, e]
    exact ⟨rfl, r.append (.cons hd .nil)⟩
abbrev SD := D → D → D → Store → (Store → Prop) → Prop
def SetS (X : Cx) (o : SD) : Prop :=
  ∃ t, PSet X t ∧ ∀ {x i d : D} {μ : Store} {P : Store → Prop} {G H : Hp} {v u w : V} {Q : Hp → Prop}, o x i d μ P → Sm X.K μ G H → Rp X.K G x v → Rp X.K G i u → Rp X.K G d w → (∀ μ' H' G', P μ' → Ex G G' → Sm X.K μ' G' H' → Q H') → t v u w H Q
def rSetD : V → V → V → Hp → (Hp → Prop) → Prop := fun o i v H Q => ∃ a H', o = .ref a ∧ DPut H a i v H' ∧ Q H'
theorem set_dict (hu : X.A.units + 1 < cLine) : PSet X rSetD := by
  intro pins s σ H o i v ov iv u Q I ro ri rv h
  obtain ⟨a, H', rfl, g, q⟩ := h
  cases ro
  exact d_setItem hu I g ri rv fun s4 I4 => ⟨H', I4, q⟩
theorem PSet.or {t t' : TSet} (h : PSet X t) (h' : PSet X t') : PSet X (fun o i v H Q => t o i v H Q ∨ t' o i v H Q) := by
  intro pins s σ H o i v ov iv u Q I ro ri rv q
  rcases q with q | q
  · exact h pins s σ H o i v ov iv u Q I ro ri rv q
  · exact h' pins s σ H o i v ov iv u Q I ro ri rv q
def keyD : D → Option Key
  | .int i => some (.inl i)
  | .str s => some (.inr s)
  | _ => none
theorem keyD_ok {K : PySem.W.Frag} {G : Hp} {d : D} {v : V} {k : Key} (h : keyD d = some k) (r : Rp K G d v) : v = kV k := by
  cases r <;> cases h <;> rfl
def oSet : SD := fun x i d μ P => match x with
  | .ref a => match μ a, i with
    | some (.lst xs), .int k => match ixN xs.length k with | some j => P (setS μ a (.lst (xs.set j d))) | none => False
    | some (.dct kvs), i => match keyD i with | some k => kvs.length < sizeLine ∧ P (setS μ a (.dct (putD kvs k d))) | none => False
    | _, _ => False
  | _ => False
theorem len_keys {κ α β : Type} {l : List (κ × α)} {m : List (κ × β)} (h : l.map (·.1) = m.map (·.1)) : l.length = m.length := by
  have e := congrArg List.length h
  rw [List.length_map, List.length_map] at e
  exact e
theorem os_set (hu : X.A.units + 1 < cLine) : SetS X oSet := by
  refine ⟨_, PSet.or set_list (set_dict hu), ?_⟩
  intro x i d μ P G H v u w Q h m rx ri rd t
  unfold oSet at h
  split at h
  · cases rx
    rename_i a
    split at h
    · rename_i xs k e
      cases ri
      obtain ⟨h0, vs, h1, r1⟩ := m.st a _ e
      split at h
      · rename_i j hj
        exact .inl ⟨a, vs, k, j, rfl, rfl, h1, by rw [← r1.length]; exact hj, t _ _ _ h (Ex.refl _) (m.write h0 ⟨_, upd_same, r1.set rd j⟩)⟩
      · exact h.elim
    · rename_i kvs _ e
      obtain ⟨h0, kv, h1, k1, r1⟩ := m.st a _ e
      split at h
      · rename_i k hk
        have ek := keyD_ok hk ri
        subst ek
        obtain ⟨i1, i2⟩ := putD_keys (k := k) rd k1 r1
        exact .inr ⟨a, _, rfl, DPut.k h1 (by rw [len_keys k1]; exact h.1), t _ _ _ h.2 (Ex.refl _) (m.write h0 ⟨_, upd_same, i1, i2⟩)⟩
      · exact h.elim
    · exact h.elim
  · exact h.elim
def wgSub (o : SD) (wo wi : WE) : WG := fun d ρ μ P => wo ρ μ fun x μ1 => wi ρ μ1 fun i μ2 => o x i d μ2 fun μ3 => P ρ μ3
theorem dg_sub {o i : Expr} {wo wi : WE} {s : SD} {pos : Pos} (hs : SetS X s) (ho : DE X o wo) (hi : DE X i wi)
    (ha : ∀ v, assign (.Subscript o i pos) X.env v = (do
      let ov ← holding [v] (eval o X.env)
      let iv ← holding [v, ov] (eval i X.env)
      standAt pos
      holding [v, ov, iv] (setItem ov iv v)
      release [v, ov, iv] []) := by intro _; rfl) : DG X (.Subscript o i pos) (wgSub s wo wi) := by
  obtain ⟨t, ht, hk⟩ := hs
  refine ⟨wkG (pg_sub ho.p hi.p ht ha) fun v σ H Q ⟨ρ, μ, G, d, P, he, hm, r, hw, htl⟩ => ?_⟩
  exact ⟨ρ, μ, G, _, he, hm, hw, fun x μ1 v1 H1 G1 p1 e1 m1 r1 => ⟨ρ, μ1, G1, _, he.mono e1, m1, p1, fun y μ2 v2 H2 G2 p2 e2 m2 r2 =>
    hk p2 m2 (r1.mono e2) r2 ((r.mono e1).mono e2) fun μ3 H3 G3 p3 e3 m3 => htl _ _ _ _ _ p3 ((e1.trans e2).trans e3) (((he.mono e1).mono e2).mono e3) m3⟩⟩

/-! ### statements -/
variable {st : Stmt} {rest : List Stmt} {e : Expr} {pos : Pos} {w u : WS} {we : WE}
def wNext : WS := fun W ρ μ => W.nx ρ μ
def wSeq (w u : WS) : WS := fun W ρ μ => w { W with nx := u W } ρ μ
theorem dss_nil : DSs X [] wNext := ⟨wkSs pss_nil fun D σ H ⟨ρ, μ, G, W, he, hm, hw, ht⟩ => ht.nx _ _ _ _ _ hw (Ex.refl _) he hm⟩
theorem dss_cons (h : DS X st w) (k : DSs X rest u) : DSs X (st :: rest) (wSeq w u) := ⟨wkSs (pss_cons h.p k.p) fun D σ H ⟨ρ, μ, G, W, he, hm, hw, ht⟩ =>
  ⟨ρ, μ, G, { W with nx := u W }, he, hm, hw, ⟨fun ρ' μ' σ' H' G' p e r m => ⟨ρ', μ', G', W, r, m, p, ht.mono e⟩, ht.rt, ht.bk, ht.ct⟩⟩⟩
theorem dss_one (h : DS X st w) : DSs X [st] w := ⟨pss_one h.p⟩
theorem ds_pass : DS X (.Pass pos) wNext := ⟨wkS ps_pass fun D σ H ⟨ρ, μ, G, W, he, hm, hw, ht⟩ => ht.nx _ _ _ _ _ hw (Ex.refl _) he hm⟩
def wBreak : WS := fun W ρ μ => W.bk ρ μ
def wCont : WS := fun W ρ μ => W.ct ρ μ
theorem ds_break : DS X (.Break pos) wBreak := ⟨wkS ps_break fun D σ H ⟨ρ, μ, G, W, he, hm, hw, ht⟩ => ht.bk _ _ _ _ _ hw (Ex.refl _) he hm⟩
theorem ds_cont : DS X (.Continue pos) wCont := ⟨wkS ps_continue fun D σ H ⟨ρ, μ, G, W, he, hm, hw, ht⟩ => ht.ct _ _ _ _ _ hw (Ex.refl _) he hm⟩
def wNever : WS := fun _ _ _ => False
theorem ds_never : DS X st wNever := ⟨wkS ps_never fun D σ H ⟨ρ, μ, G, W, he, hm, hw, ht⟩ => hw⟩
def wDrop (we : WE) : WS := fun W ρ μ => we ρ μ fun _ μ1 => W.nx ρ μ1
theorem ds_expr (h : DE X e we) (hs : swapsWith e none pos.line X.env = pure false := by rfl) : DS X (.Expr e pos) (wDrop we) := ⟨wkS (ps_expr h.p hs) fun D σ H ⟨ρ, μ, G, W, he, hm, hw, ht⟩ =>
  ⟨ρ, μ, G, _, he, hm, hw, fun d μ' v H' G' p e m r => ht.nx _ _ _ _ _ p e (he.mono e) m⟩⟩
/-- cells are forgotten, or frozen, at the end -/
inductive Fz : D → Store → D → Store → Prop where
  | sub {d : D} {μ μ' : Store} (h : Sub μ' μ) : Fz d μ d μ'
  | lst {a : Addr} {ds : List D} {μ μ' : Store} (h : μ a = some (.lst ds)) (s : Sub μ' (delS μ a)) : Fz (.ref a) μ (.lst ds) μ'
  | dct {a : Addr} {ds : List (Key × D)} {μ μ' : Store} (h : μ a = some (.dct ds)) (s : Sub μ' (delS μ a)) : Fz (.ref a) μ (.dct ds) μ'
  | obj {a C : Addr} {ds : List (Str × D)} {μ μ' : Store} (h : μ a = some (.ins C ds)) (s : Sub μ' (delS μ a)) : Fz (.ref a) μ (.obj C ds) μ'
theorem Fz.ok {K : PySem.W.Frag} {d d' : D} {μ μ' : Store} {G H : Hp} {v : V} (h : Fz d μ d' μ') (m : Sm K μ G H) (r : Rp K G d v) : ∃ G', Ex G G' ∧ Sm K μ' G' H ∧ Rp K G' d' v := by
  cases h with
  | sub h => exact ⟨G, Ex.refl _, m.sub h, r⟩
  | lst h s => cases r; obtain ⟨G', m', e', r'⟩ := m.freezeL h; exact ⟨G', e', m'.sub s, r'⟩
  | dct h s => cases r; obtain ⟨G', m', e', r'⟩ := m.freezeD h; exact ⟨G', e', m'.sub s, r'⟩
  | obj h s => cases r; obtain ⟨G', m', e', r'⟩ := m.freezeI h; exact ⟨G', e', m'.sub s, r'⟩
def wRet (we : WE) : WS := fun W ρ μ => we ρ μ fun d μ1 => ∃ d' μ', Fz d μ1 d' μ' ∧ W.rt d' μ'
theorem ds_ret (h : DE X e we) : DS X (.Return (some e) pos) (wRet we) := ⟨wkS (ps_ret h.p) fun D σ H ⟨ρ, μ, G, W, he, hm, hw, ht⟩ =>
  ⟨ρ, μ, G, _, he, hm, hw, fun d μ' v H' G' ⟨d', μ2, fz, p⟩ e m r => by
    obtain ⟨G2, e2, m2, r2⟩ := fz.ok m r
    exact ht.rt _ _ _ _ _ p (e.trans e2) m2 r2⟩⟩
def wRetN : WS := fun W ρ μ => ∃ μ', Sub μ' μ ∧ W.rt .non μ'
theorem ds_retN : DS X (.Return none pos) wRetN := ⟨wkS ps_retN fun D σ H ⟨ρ, μ, G, W, he, hm, ⟨μ', s, hw⟩, ht⟩ => ht.rt _ _ _ _ _ hw (Ex.refl _) (hm.sub s) .non⟩
def wIfS (t : WT) (w u : WS) : WS := fun W ρ μ => t ρ μ fun b μ1 => if b = true then w W ρ μ1 else u W ρ μ1
theorem ds_if {c : Expr} {a b : List Stmt} {t : WT} (hc : DT X c t) (ha : DSs X a w) (hb : DSs X b u) : DS X (.If c a b pos) (wIfS t w u) := ⟨wkS (ps_if hc.p ha.p hb.p) fun D σ H ⟨ρ, μ, G, W, he, hm, hw, ht⟩ =>
  ⟨ρ, μ, G, _, he, hm, hw, fun k μ1 H1 G1 p e m => by
    cases k with
    | true => rw [if_pos rfl] at p ⊢; exact ⟨ρ, μ1, G1, W, he.mono e, m, p, ht.mono e⟩
    | false => rw [if_neg Bool.false_ne_true] at p ⊢; exact ⟨ρ, μ1, G1, W, he.mono e, m, p, ht.mono e⟩⟩⟩
def wAsg (we : WE) (g : WG) : WS := fun W ρ μ => we ρ μ fun d μ1 => g d ρ μ1 W.nx
theorem ds_asg {tg : Expr} {g : WG} (h : DE X e we) (k : DG X tg g) (hs : swapsWithSole [tg] e pos.line X.env = pure false := by rfl) (hw : swappedStores [tg] e X.env = pure none := by rfl)
    (h1 : (assignEach [tg] X.env).map (·.2) = [assign tg X.env] := by rfl) : DS X (.Assign [tg] e pos) (wAsg we g) := ⟨wkS (ps_asg h.p k.p hs hw h1) fun D σ H ⟨ρ, μ, G, W, he, hm, hw, ht⟩ =>
  ⟨ρ, μ, G, _, he, hm, hw, fun d μ1 v H1 G1 p e m r => ⟨ρ, μ1, G1, d, _, he.mono e, m, r, p, (show TellsN X.K G1 W.nx D.nx from fun a b c d f g x => ht.nx a b c d f g (e.trans x))⟩⟩⟩
/-- x = e -/
theorem ds_set {i : Nat} {x : Str} {pos' : Pos} (hN : X.N.Nodup) (hi : X.N[i]? = some x) (hx : Loc X.env.scope x) (h : DE X e we) (hs : swapsWithSole [.Name x pos'] e pos.line X.env = pure false := by rfl) (hw : swappedStores [.Name x pos'] e X.env = pure none := by rfl)
    (h1 : (assignEach [.Name x pos'] X.env).map (·.2) = [assign (.Name x pos') X.env] := by rfl) (hf : X.fn x = true ∨ X.env.scope.names.lookup x = some .local := by first | exact .inl rfl | exact .inr rfl | assumption) :
    DS X (.Assign [.Name x pos'] e pos) (wAsg we (wgName i)) := ds_asg h (dg_pat (pg_name hN hi hx hf) (gp_name (vs := [i]) (by simp))) hs hw h1
/-- a, b = e, f of plain local names -/
def wPar (i j : Nat) (wa : WA) : WS := fun W ρ μ => wa ρ μ fun ds μ1 => match ds with | [x, y] => W.nx ((ρ.set i (some x)).set j (some y)) μ1 | _ => False
theorem ds_par {i j : Nat} {x y : Str} {a b : Expr} {wa : WA} {px py pt : Pos} {kt k2 pt2} (hc : X.calm = true) (hN : X.N.Nodup) (hi : X.N[i]? = some x) (hj : X.N[j]? = some y) (hij : i ≠ j)
    (hx : X.env.scope.names.lookup x = some .local) (hy : X.env.scope.names.lookup y = some .local) (ha : DA X [a, b] wa)
    (hw : swappedStores [.Tuple [.Name x px, .Name y py] kt pt] (.Tuple [a, b] k2 pt2) X.env = pure (some [x, y]))
    (hs : swapsWithSole [.Tuple [.Name x px, .Name y py] kt pt] (.Tuple [a, b] k2 pt2) pos.line X.env = pure false := by rfl) :
    DS X (.Assign [.Tuple [.Name x px, .Name y py] kt pt] (.Tuple [a, b] k2 pt2) pos) (wPar i j wa) := ⟨wkS (ps_par hc hN hi hj hij hx hy ha.p hw hs) fun D σ H ⟨ρ, μ, G, W, he, hm, hw, ht⟩ =>
  ⟨ρ, μ, G, _, he, hm, hw, fun ds μ1 vs H1 G1 p e m r => by

    match ds, r, p with
    | [x, y], .cons r1 (.cons r2 .nil), p => exact ⟨_, _, rfl, ht.nx _ _ _ _ _ p e (((he.mono e).set i r1).set j r2) m⟩⟩⟩
def wPar3 (i j l : Nat) (wa : WA) : WS := fun W ρ μ => wa ρ μ fun ds μ1 => match ds with | [x, y, z] => W.nx (((ρ.set i (some x)).set j (some y)).set l (some z)) μ1 | _ => False
theorem ds_par3 {i j l : Nat} {x y z : Str} {a b c : Expr} {wa : WA} {px py pz pt : Pos} {kt k2 pt2} (hc : X.calm = true) (hN : X.N.Nodup) (hi : X.N[i]? = some x) (hj : X.N[j]? = some y) (hl : X.N[l]? = some z) (hij : i ≠ j) (hil : i ≠ l) (hjl : j ≠ l)
    (hx : X.env.scope.names.lookup x = some .local) (hy : X.env.scope.names.lookup y = some .local) (hz : X.env.scope.names.lookup z = some .local) (ha : DA X [a, b, c] wa)
    (hw : swappedStores [.Tuple [.Name x px, .Name y py, .Name z pz] kt pt] (.Tuple [a, b, c] k2 pt2) X.env = pure (some [x, y, z]))
    (hs : swapsWithSole [.Tuple [.Name x px, .Name y py, .Name z pz] kt pt] (.Tuple [a, b, c] k2 pt2) pos.line X.env = pure false := by rfl) :
    DS X (.Assign [.Tuple [.Name x px, .Name y py, .Name z pz] kt pt] (.Tuple [a, b, c] k2 pt2) pos) (wPar3 i j l wa) := ⟨wkS (ps_par3 hc hN hi hj hl hij hil hjl hx hy hz ha.p hw hs) fun D σ H ⟨ρ, μ, G, W, he, hm, hw, ht⟩ =>
  ⟨ρ, μ, G, _, he, hm, hw, fun ds μ1 vs H1 G1 p e m r => by

    match ds, r, p with
    | [x, y, z], .cons r1 (.cons r2 (.cons r3 .nil)), p => exact ⟨_, _, _, rfl, ht.nx _ _ _ _ _ p e ((((he.mono e).set i r1).set j r2).set l r3) m⟩⟩⟩

/-! ### attributes -/
def FldOk (K : PySem.W.Frag) (C : Addr) (f : Str) : Prop := Cls K C ∧ NoAttr K C f
theorem lookup_look {β : Type} (f : Str) : ∀ fs : List (Str × β), fs.lookup f = look fs f
  | [] => rfl
  | p :: r => by
    unfold look
    rw [List.lookup_cons]
    by_cases e : p.1 = f
    · rw [if_pos e, e]; simp
    · rw [if_neg e]
      have : (f == p.1) = false := by simpa using fun h => e h.symm
      rw [this]
      exact lookup_look f r
theorem putF_put (f : Str) (v : V) : ∀ fs : List (Str × V), putF f v fs = put fs f v
  | [] => rfl
  | (g, x) :: r => by
    unfold putF put
    by_cases e : g = f
    · rw [if_pos e, if_pos e]
    · rw [if_neg e, if_neg e, putF_put f v r]
/-- an instance's class and fields -/
def insD (μ : Store) : D → Option (Addr × List (Str × D))
  | .obj C fs => some (C, fs)
  | .ref a => match μ a with | some (.ins C fs) => some (C, fs) | _ => none
  | _ => none
theorem insD_ok {K : PySem.W.Frag} {μ : Store} {G H : Hp} {d : D} {v : V} {C : Addr} {ds : List (Str × D)} (h : insD μ d = some (C, ds)) (m : Sm K μ G H) (r : Rp K G d v) :
    ∃ a dx fs, v = .ref a ∧ H a = some (.ins C dx fs) ∧ fs.map (·.1) = ds.map (·.1) ∧ Rps K G (ds.map (·.2)) (fs.map (·.2)) := by
  cases r with
  | obj h1 k r1 => cases h; exact ⟨_, _, _, rfl, m.ex _ _ h1, k, r1⟩
  | ref a =>
    unfold insD at h
    dsimp only at h
    split at h
    · rename_i C' fs e
      cases h
      obtain ⟨_, dx, fs, h1, k, r1⟩ := m.st a _ e
      exact ⟨a, dx, fs, rfl, h1, k, r1⟩
    · cases h
  | _ => cases h
def wFld (K : PySem.W.Frag) (f : Str) (we : WE) : WE := fun ρ μ P => we ρ μ fun x μ1 => match insD μ1 x with
  | some (C, fs) => FldOk K C f ∧ (match look fs f with | some d => P d μ1 | none => False)
  | none => False
theorem de_fld {f : Str} (h : DE X e we) (hb : attributeBase e f X.env (eval e X.env) = eval e X.env) : DE X (.Attribute e f pos) (wFld X.K f we) := ⟨wkE (pe_fld h.p hb) fun σ H Q ⟨ρ, μ, G, P, he, hm, hw, ht⟩ =>
  ⟨ρ, μ, G, _, he, hm, hw, fun x μ1 v H1 G1 p e m r => by
    split at p
    · rename_i C fs q
      obtain ⟨a, dx, vs, rfl, h1, k, r1⟩ := insD_ok q m r
      obtain ⟨⟨c, n⟩, p⟩ := p
      split at p
      · rename_i d hd
        obtain ⟨v, h2, r2⟩ := (look_keys (k := f) k r1).1 d hd
        exact ⟨a, C, dx, vs, v, rfl, h1, c, n, by rw [lookup_look]; exact h2, ht _ _ _ _ _ p e m r2⟩
      · exact p.elim
    · exact p.elim⟩⟩
def wSetF (K : PySem.W.Frag) (f : Str) (wo wv : WE) : WS := fun W ρ μ => wv ρ μ fun y μ1 => wo ρ μ1 fun x μ2 => match x with
  | .ref a => match μ2 a with | some (.ins C fs) => FldOk K C f ∧ fs.length < 1000 ∧ W.nx ρ (setS μ2 a (.ins C (put fs f y))) | _ => False
  | _ => False
theorem ds_fld {o value : Expr} {f : Str} {pos' : Pos} {wo wv : WE} (ho : DE X o wo) (hv : DE X value wv) (hs : swapsWith value (some (.Attribute o f pos')) pos.line X.env = pure false := by rfl) :
    DS X (.Assign [.Attribute o f pos'] value pos) (wSetF X.K f wo wv) := ⟨wkS (ps_fld ho.p hv.p hs) fun D σ H ⟨ρ, μ, G, W, he, hm, hw, ht⟩ =>
  ⟨ρ, μ, G, _, he, hm, hw, fun y μ1 v1 H1 G1 p1 e1 m1 r1 => ⟨ρ, μ1, G1, _, he.mono e1, m1, p1, fun x μ2 v2 H2 G2 p2 e2 m2 r2 => by
    split at p2
    · rename_i a
      cases r2
      split at p2
      · rename_i C fs q
        obtain ⟨⟨c, n⟩, hl, p⟩ := p2
        obtain ⟨h0, dx, vs, h1, k, r3⟩ := m2.st a _ q
        obtain ⟨i1, i2⟩ := put_keys (k := f) (r1.mono e2) k r3
        refine ⟨a, C, dx, vs, rfl, h1, c, n, by rw [len_keys k]; exact hl, ?_⟩
        refine ht.nx _ _ _ _ _ p (e1.trans e2) ((he.mono e1).mono e2) (m2.write h0 ⟨dx, put vs f v1, ?_, i1, i2⟩)
        rw [upd_same, putF_put]
      · exact p2.elim
    · exact p2.elim⟩⟩⟩
end
end Dl

namespace Dl
open PySem L2
/-! ### what is walked -/
abbrev WI := Env → Store → (List D → Store → Prop) → Prop
def Walk (K : PySem.W.Frag) (G : Hp) (J : It) (its : List D) : Prop := ∀ (i : Nat) (H G2 : Hp) (μ : Store), Ex G G2 → Sm K μ G2 H →
  (i < its.length → J.go i H ∧ ∀ x H', J.yld i H x H' → ∃ G3 d, its[i]? = some d ∧ Ex G2 G3 ∧ Sm K μ G3 H' ∧ Rp K G3 d x) ∧ (its.length ≤ i → J.stop i H)
def LI (K : PySem.W.Frag) (wi : WI) : TI := fun σ H R => ∃ ρ μ G P, EnvR K G ρ σ ∧ Sm K μ G H ∧ wi ρ μ P ∧ ∀ its μ' H' G' J, P its μ' → Ex G G' → Sm K μ' G' H' → Walk K G' J its → R J H'
structure DI (X : Cx) (tg iter : Expr) (wi : WI) : Prop where
  p : PI X tg iter (LI X.K wi)
section
variable {X : Cx}
theorem wkI {tg iter : Expr} {t t' : TI} (h : PI X tg iter t) (k : ∀ σ H R, t' σ H R → t σ H R) : PI X tg iter t' := ⟨fun pins s σ H R I q => h.run pins s σ H R I (k σ H R q)⟩
theorem walk_l {K : PySem.W.Frag} {G : Hp} {a : Addr} {xs : List V} {ds : List D} (h : ∀ H, Ex G H → SqL K H a xs) (r : Rps K G ds xs) : Walk K G (Itl K a) ds := fun i H G2 μ e m => by
  have sq := h H (e.trans m.ex)
  refine ⟨fun hi => ⟨⟨xs, xs[i]'(by rw [← r.length]; exact hi), sq, by simp [← r.length, hi]⟩, fun x H' y => ?_⟩, fun hi => ⟨xs, sq, by rw [← r.length]; exact hi⟩⟩
  obtain ⟨rfl, y⟩ := y
  obtain ⟨d, hd, rd⟩ := r.getR (y xs sq)
  exact ⟨G2, d, hd, Ex.refl _, m, rd.mono e⟩
theorem walk_t {K : PySem.W.Frag} {G : Hp} {a : Addr} {xs : List V} {ds : List D} (h : TupAt K G a xs) (r : Rps K G ds xs) : Walk K G (Itt K a) ds := fun i H G2 μ e m => by
  have sq := h.sq (e.trans m.ex)
  refine ⟨fun hi => ⟨⟨xs, xs[i]'(by rw [← r.length]; exact hi), sq, by simp [← r.length, hi]⟩, fun x H' y => ?_⟩, fun hi => ⟨xs, sq, by rw [← r.length]; exact hi⟩⟩
  obtain ⟨rfl, y⟩ := y
  obtain ⟨d, hd, rd⟩ := r.getR (y xs sq)
  exact ⟨G2, d, hd, Ex.refl _, m, rd.mono e⟩
def rng (lo : Int) (n : Nat) : List D := (List.range n).map fun i => .int (lo + (i : Nat))
theorem rng_length {lo : Int} {n : Nat} : (rng lo n).length = n := by simp [rng]
theorem rng_get {lo : Int} {n i : Nat} (h : i < n) : (rng lo n)[i]? = some (.int (lo + (i : Nat))) := by simp [rng, h]
theorem walk_r {K : PySem.W.Frag} {G : Hp} {lo : Int} {n : Nat} : Walk K G (Itr lo n) (rng lo n) := fun i H G2 μ e m => by
  rw [rng_length]
  refine ⟨fun hi => ⟨hi, fun x H' y => ?_⟩, fun hi => hi⟩
  obtain ⟨rfl, rfl⟩ := y
  exact ⟨G2, _, rng_get hi, Ex.refl _, m, .int _⟩
def chars (s : Str) : List D := s.cps.toList.map fun c => .str ⟨#[c]⟩
theorem walk_s {K : PySem.W.Frag} {G : Hp} {s : Str} : Walk K G (Its s) (chars s) := fun i H G2 μ e m => by
  have hl : (chars s).length = s.cps.size := by simp [chars]
  rw [hl]
  refine ⟨fun hi => ⟨hi, fun x H' y => ?_⟩, fun hi => hi⟩
  obtain ⟨rfl, c, hc, rfl⟩ := y
  exact ⟨G2, .str ⟨#[c]⟩, by simp [chars, hc], Ex.refl _, m, .str _⟩
def iSeq (K : PySem.W.Frag) (te : TE) : TI := fun σ H R => te σ H fun x H1 => (∃ a, x = .ref a ∧ (∃ xs, SqL K H1 a xs) ∧ R (Itl K a) H1) ∨ (∃ a, x = .ref a ∧ (∃ xs, SqT K H1 a xs) ∧ R (Itt K a) H1) ∨ ∃ s, x = .str s ∧ R (Its s) H1
theorem pi_seq {tg e : Expr} {te : TE} (he : PE X e te) : PI X tg e (iSeq X.K te) := by
  refine ⟨fun pins s σ H R I h => ?_⟩
  refine thn (he.run pins s σ H _ I h) fun v s1 ⟨x, H1, I1, r1, q1⟩ => ?_
  rcases q1 with ⟨a, rfl, ⟨xs, hq⟩, q⟩ | ⟨a, rfl, ⟨xs, hq⟩, q⟩ | ⟨x, rfl, q⟩
  · cases r1
    obtain ⟨its, rv, p, hz⟩ := I1.list hq
    refine wpAny_pyIter_list p.isList ?_
    refine ⟨s1.heap.objs.size, [s1.heap.objs.size], _, _, H1, rfl, I1.kept (t' := s1.toks) fun b o e => PySem.Heap.get?_push_of_some _ e, turn_list a _, ⟨_, PySem.Heap.get?_push_size _ rfl, rfl, rfl⟩, fun b hb => ?_, q⟩
    have e : b = s1.heap.objs.size := by simpa using hb
    subst e
    exact I1.fpOk (Nat.le_refl _) (I1.hok.fresh (Nat.le_refl _))
  · cases r1
    obtain ⟨its, rv, p, hz⟩ := I1.tuple hq
    refine wpAny_pyIter_tuple (show s1.heap.IsTuple a its.toArray from p) ?_
    refine ⟨s1.heap.objs.size, [s1.heap.objs.size], _, _, H1, rfl, I1.kept (t' := s1.toks) fun b o e => PySem.Heap.get?_push_of_some _ e, turn_tuple a _, ⟨_, PySem.Heap.get?_push_size _ rfl, rfl, rfl⟩, fun b hb => ?_, q⟩
    have e : b = s1.heap.objs.size := by simpa using hb
    subst e
    exact I1.fpOk (Nat.le_refl _) (I1.hok.fresh (Nat.le_refl _))
  · obtain ⟨t, rfl⟩ := r1
    cases ha : x.cps.all (· < 128)
    · exact wpAny_pyIter_wide ha (pi_one (tk := s1.toks) I1 _ (turn_str _ x t "str_iterator" (.inr rfl)) ⟨_, PySem.Heap.get?_push_size _ rfl, rfl, rfl⟩ q)
    · exact wpAny_pyIter_ascii ha (pi_one (tk := s1.toks) I1 _ (turn_str _ x t "str_ascii_iterator" (.inl rfl)) ⟨_, PySem.Heap.get?_push_size _ rfl, rfl, rfl⟩ q)
/-- what a plain for walks: a list that stays, a tuple, a text -/
def itemsD : D → Option (List D)
  | .lst xs => some xs
  | .scr xs => some xs
  | .tup xs => some xs
  | .str s => some (chars s)
  | _ => none
def wiSeq (we : WE) : WI := fun ρ μ P => we ρ μ fun d μ1 => match itemsD d with | some xs => P xs μ1 | none => False
theorem di_seq {tg e : Expr} {we : WE} (h : DE X e we) : DI X tg e (wiSeq we) := ⟨wkI (pi_seq h.p) fun σ H R ⟨ρ, μ, G, P, he, hm, hw, ht⟩ =>
  ⟨ρ, μ, G, _, he, hm, hw, fun d μ1 v H1 G1 p e m r => by
    cases r with
    | lst h1 r1 => exact .inl ⟨_, rfl, ⟨_, lst_sq m.ex h1⟩, ht _ _ _ _ _ p e m (walk_l (fun H' e' => lst_sq e' h1) r1)⟩
    | scr h1 r1 => exact .inl ⟨_, rfl, ⟨_, h1.sq m.ex⟩, ht _ _ _ _ _ p e m (walk_l (fun H' e' => h1.sq e') r1)⟩
    | tup h1 r1 => exact .inr (.inl ⟨_, rfl, ⟨_, h1.sq m.ex⟩, ht _ _ _ _ _ p e m (walk_t h1 r1)⟩)
    | str s => exact .inr (.inr ⟨s, rfl, ht _ _ _ _ _ p e m walk_s⟩)
    | _ => exact p.elim⟩⟩
def wiRng1 (wa : WA) : WI := fun ρ μ P => wa ρ μ fun ds μ1 => match ds with | [.int j] => (-(2 ^ 62) ≤ j ∧ j < 2 ^ 62) ∧ P (rng 0 j.toNat) μ1 | _ => False
def wiRng2 (wa : WA) : WI := fun ρ μ P => wa ρ μ fun ds μ1 => match ds with | [.int i, .int j] => (-(2 ^ 62) ≤ i ∧ i < 2 ^ 62 ∧ -(2 ^ 62) ≤ j ∧ j < 2 ^ 62) ∧ P (rng i (j - i).toNat) μ1 | _ => False
theorem di_range1 {tg a : Expr} {wa : WA} {p pos : Pos} (hg : Gl X "range") (hm : X.mg "range" = none) (ha : DA X [a] wa) (hs : starEach [a] X.env = [(false, eval a X.env)] := by rfl) : DI X tg (.Call (.Name "range" p) [a] [] pos) (wiRng1 wa) :=
  ⟨wkI (pi_range1 hg hm ha.p hs) fun σ H R ⟨ρ, μ, G, P, he, hm, hw, ht⟩ => ⟨ρ, μ, G, _, he, hm, hw, fun ds μ1 vs H1 G1 p e m r => by
    match ds, r, p with
    | [.int j], .cons (.int _) .nil, p => exact ⟨j, rfl, p.1.1, p.1.2, ht _ _ _ _ _ p.2 e m walk_r⟩⟩⟩
theorem di_range2 {tg a b : Expr} {wa : WA} {p pos : Pos} (hg : Gl X "range") (hm : X.mg "range" = none) (ha : DA X [a, b] wa) (hs : starEach [a, b] X.env = [(false, eval a X.env), (false, eval b X.env)] := by rfl) (hs2 : starEach [b] X.env = [(false, eval b X.env)] := by rfl) :
    DI X tg (.Call (.Name "range" p) [a, b] [] pos) (wiRng2 wa) :=
  ⟨wkI (pi_range2 hg hm ha.p hs hs2) fun σ H R ⟨ρ, μ, G, P, he, hm, hw, ht⟩ => ⟨ρ, μ, G, _, he, hm, hw, fun ds μ1 vs H1 G1 p e m r => by
    match ds, r, p with
    | [.int i, .int j], .cons (.int _) (.cons (.int _) .nil), p => exact ⟨i, j, rfl, p.1, ht _ _ _ _ _ p.2 e m walk_r⟩⟩⟩

/-! ### for, while -/
def forBody (its : List D) (g : WG) (wb : WS) (W : WEnds) (ρ : Env) (μ1 : Store) : Prop := ∃ I : Nat → Env → Store → Prop, I 0 ρ μ1 ∧
  (∀ i d ρ' μ', its[i]? = some d → I i ρ' μ' → g d ρ' μ' fun ρ2 μ2 => wb { W with nx := I (i + 1), ct := I (i + 1), bk := W.nx } ρ2 μ2) ∧ ∀ ρ' μ', I its.length ρ' μ' → W.nx ρ' μ'
def wFor (wi : WI) (g : WG) (wb : WS) : WS := fun W ρ μ => wi ρ μ fun its μ1 => forBody its g wb W ρ μ1
theorem ds_for {tg iter : Expr} {body : List Stmt} {wi : WI} {g : WG} {wb : WS} {pos : Pos} (hp : PassesOwn (model X.prog X.w) X.A X.env X.xe) (hc : X.calm = true) (hi : DI X tg iter wi) (hg : DG X tg g) (hb : DSs X body wb)
    (hs : ∀ x, foldedSetIterable iter X.env x = pure x := by intro _; rfl) : DS X (.For tg iter body [] pos) (wFor wi g wb) := by
  refine ⟨wkS (ps_for hp hc hi.p hg.p hb.p hs) fun D σ H ⟨ρ, μ, G, W, he, hm, hw, ht⟩ => ⟨ρ, μ, G, _, he, hm, hw, ?_⟩⟩
  rintro its μ1 H1 G1 J ⟨I, h0, hturn, hend⟩ e1 m1 hJ
  refine ⟨fun i m σ' H' => m = its.length - i ∧ i ≤ its.length ∧ ∃ ρ' μ' G', Ex G1 G' ∧ EnvR X.K G' ρ' σ' ∧ Sm X.K μ' G' H' ∧ I i ρ' μ', ⟨its.length, by simp, Nat.zero_le _, ρ, μ1, G1, Ex.refl _, he.mono e1, m1, h0⟩, ?_⟩
  rintro i m σ' H' ⟨rfl, hi, ρ', μ', G', e', he', hm', hI⟩
  obtain ⟨wgo, wstop⟩ := hJ i H' G' μ' e' hm'
  by_cases hlt : i < its.length
  · obtain ⟨go, yl⟩ := wgo hlt
    refine .inr ⟨go, fun σ2 H2 => ∃ ρ2 μ2 G2, Ex G1 G2 ∧ EnvR X.K G2 ρ2 σ2 ∧ Sm X.K μ2 G2 H2 ∧ I (i + 1) ρ2 μ2, fun σ2 H2 ⟨ρ2, μ2, G2, a, b, c, d⟩ => ⟨its.length - (i + 1), by omega, rfl, hlt, ρ2, μ2, G2, a, b, c, d⟩, fun x H2 hy => ?_⟩
    obtain ⟨G3, d, hd, e3, m3, r3⟩ := yl x H2 hy
    refine ⟨ρ', μ', G3, d, _, he'.mono e3, m3, r3, hturn i d ρ' μ' hd hI, fun ρ4 μ4 σ4 H4 G4 p4 e4 he4 hm4 => ?_⟩
    have eG : Ex G1 G4 := (e'.trans e3).trans e4
    refine ⟨ρ4, μ4, G4, _, he4, hm4, p4, ⟨fun ρ5 μ5 σ5 H5 G5 p5 e5 he5 hm5 => ⟨ρ5, μ5, G5, eG.trans e5, he5, hm5, p5⟩, fun d5 μ5 v5 H5 G5 p5 e5 hm5 r5 => ht.rt _ _ _ _ _ p5 ((e1.trans eG).trans e5) hm5 r5,
      fun ρ5 μ5 σ5 H5 G5 p5 e5 he5 hm5 => ht.nx _ _ _ _ _ p5 ((e1.trans eG).trans e5) he5 hm5, fun ρ5 μ5 σ5 H5 G5 p5 e5 he5 hm5 => ⟨ρ5, μ5, G5, eG.trans e5, he5, hm5, p5⟩⟩⟩
  · have ei : i = its.length := by omega
    subst ei
    exact .inl ⟨wstop (Nat.le_refl _), ht.nx _ _ _ _ _ (hend ρ' μ' hI) (e1.trans e') he' hm'⟩
def wWhile (c : WT) (wb : WS) : WS := fun W ρ μ => ∃ I : Nat → Env → Store → Prop, (∃ m, I m ρ μ) ∧ ∀ m ρ' μ', I m ρ' μ' → c ρ' μ' fun b μ1 => if b = true then
  wb { W with nx := fun ρ2 μ2 => ∃ m', m' < m ∧ I m' ρ2 μ2, ct := fun ρ2 μ2 => ∃ m', m' < m ∧ I m' ρ2 μ2, bk := W.nx } ρ' μ1 else W.nx ρ' μ1
theorem ds_while {c : Expr} {body : List Stmt} {t : WT} {wb : WS} {pos : Pos} (hp : PassesOwn (model X.prog X.w) X.A X.env X.xe) (hc : DT X c t) (hb : DSs X body wb) : DS X (.While c body [] pos) (wWhile t wb) := by
  refine ⟨wkS (ps_while hp hc.p hb.p) fun D σ H ⟨ρ, μ, G, W, he, hm, ⟨I, ⟨m0, h0⟩, hturn⟩, ht⟩ => ?_⟩
  refine ⟨fun m σ' H' => ∃ ρ' μ' G', Ex G G' ∧ EnvR X.K G' ρ' σ' ∧ Sm X.K μ' G' H' ∧ I m ρ' μ', ⟨m0, ρ, μ, G, Ex.refl _, he, hm, h0⟩, ?_⟩
  rintro m σ' H' ⟨ρ', μ', G', e', he', hm', hI⟩
  refine ⟨ρ', μ', G', _, he', hm', hturn m ρ' μ' hI, fun b μ1 H1 G1 p e m1 => ?_⟩
  have eG : Ex G G1 := e'.trans e
  cases b with
  | true =>
    rw [if_pos rfl] at p
    refine iteT ?_
    refine ⟨fun σ2 H2 => ∃ m', m' < m ∧ ∃ ρ2 μ2 G2, Ex G G2 ∧ EnvR X.K G2 ρ2 σ2 ∧ Sm X.K μ2 G2 H2 ∧ I m' ρ2 μ2, fun σ2 H2 ⟨m', h1, h2⟩ => ⟨m', h1, h2⟩, ρ', μ1, G1, _, he'.mono e, m1, p, ?_⟩
    exact ⟨fun ρ5 μ5 σ5 H5 G5 ⟨m', h1, h2⟩ e5 he5 hm5 => ⟨m', h1, ρ5, μ5, G5, eG.trans e5, he5, hm5, h2⟩, fun d5 μ5 v5 H5 G5 p5 e5 hm5 r5 => ht.rt _ _ _ _ _ p5 (eG.trans e5) hm5 r5,
      fun ρ5 μ5 σ5 H5 G5 p5 e5 he5 hm5 => ht.nx _ _ _ _ _ p5 (eG.trans e5) he5 hm5, fun ρ5 μ5 σ5 H5 G5 ⟨m', h1, h2⟩ e5 he5 hm5 => ⟨m', h1, ρ5, μ5, G5, eG.trans e5, he5, hm5, h2⟩⟩
  | false =>
    rw [if_neg Bool.false_ne_true] at p
    refine iteF ?_
    exact ht.nx _ _ _ _ _ p eG (he'.mono e) m1

/-! ### comprehensions -/
def wipeE (ρ : Env) : List Nat → Env
  | [] => ρ
  | v :: vs => (wipeE ρ vs).set v none
theorem EnvR.unset {K : PySem.W.Frag} {G : Hp} {ρ : Env} {σ : L2.St} (h : EnvR K G ρ σ) (i : Nat) : EnvR K G (ρ.set i none) (σ.set i none) := by
  refine ⟨by rw [List.length_set, List.length_set]; exact h.1, fun j e q => ?_⟩
  by_cases hj : i = j
  · subst hj
    by_cases hl : i < ρ.length
    · rw [List.getElem?_set_self hl] at q; cases q
    · rw [List.getElem?_eq_none (by rw [List.length_set]; omega)] at q; cases q
  · rw [List.getElem?_set_ne hj] at q ⊢
    exact h.2 j e q
theorem EnvR.wipe {K : PySem.W.Frag} {G : Hp} {ρ : Env} {σ : L2.St} (h : EnvR K G ρ σ) : ∀ vs : List Nat, EnvR K G (wipeE ρ vs) (L2.wipe σ vs)
  | [] => h
  | v :: vs => (EnvR.wipe h vs).unset v
structure DTs (X : Cx) (ifs : List Expr) (w : WT) : Prop where
  p : PTs X ifs (LT X.K w)
def wYes : WT := fun _ μ P => P true μ
theorem dts_nil : DTs X [] wYes := ⟨⟨fun pins s σ H Q I ⟨ρ, μ, G, P, he, hm, hw, ht⟩ => pts_nil.run pins s σ H Q I (ht _ _ _ _ hw (Ex.refl _) hm)⟩⟩
theorem dts_one {c : Expr} {w : WT} (h : DT X c w) : DTs X [c] w := ⟨pts_one h.p⟩
/-- the items made one after another; L: the new list; I: by the turn, the list so far, the cells -/
def lcBody (its : List D) (g : WG) (tt : WT) (te : WE) (vs : List Nat) (fin : Addr → List D → Store → Prop) (ρ : Env) (μ1 : Store) : Prop := its.length ≤ sizeLine ∧ ∀ L, μ1 L = none → ∃ I : Nat → List D → Store → Prop, I 0 [] (setS μ1 L (.lst [])) ∧
  (∀ i d acc μ', its[i]? = some d → μ' L = some (.lst acc) → I i acc μ' → g d (wipeE ρ vs) μ' fun ρ2 μ2 => tt ρ2 μ2 fun b μ3 => if b = true then te ρ2 μ3 fun y μ4 => μ4 L = some (.lst acc) ∧ I (i + 1) (acc ++ [y]) (setS μ4 L (.lst (acc ++ [y]))) else μ3 L = some (.lst acc) ∧ I (i + 1) acc μ3) ∧
  ∀ acc μ', acc.length ≤ its.length → μ' L = some (.lst acc) → I its.length acc μ' → fin L acc μ'
def wLcG (wi : WI) (g : WG) (tt : WT) (te : WE) (vs : List Nat) (fin : Addr → List D → Store → Prop) : Env → Store → Prop := fun ρ μ => wi ρ μ fun its μ1 => lcBody its g tt te vs fin ρ μ1
def wLc (wi : WI) (g : WG) (tt : WT) (te : WE) (vs : List Nat) : WE := fun ρ μ P => wLcG wi g tt te vs (fun L acc μ' => P (.lst acc) (delS μ' L)) ρ μ
def wLcM (wi : WI) (g : WG) (tt : WT) (te : WE) (vs : List Nat) : WE := fun ρ μ P => wLcG wi g tt te vs (fun L acc μ' => P (.ref L) μ') ρ μ
theorem llc {K : PySem.W.Frag} {wi : WI} {g : TG} {wg : WG} {tt : WT} {te : WE} {vs : List Nat} {fin : Addr → List D → Store → Prop} {σ : L2.St} {H : Hp} {Q : VK} {ρ : Env} {μ : Store} {G : Hp} (hg : GPat K vs g wg) (he : EnvR K G ρ σ) (hm : Sm K μ G H) (hw : wLcG wi wg tt te vs fin ρ μ)
    (hf : ∀ L acc μ' H' G', fin L acc μ' → μ' L = some (.lst acc) → Ex G G' → Sm K μ' G' H' → Q (.ref L) H') : tLc (LI K wi) g (LT K tt) (LE K te) vs σ H Q := by
  refine ⟨ρ, μ, G, _, he, hm, hw, ?_⟩
  rintro its μ1 H1 G1 J ⟨hz, hI⟩ e1 m1 hJ L hL
  obtain ⟨I, h0, hturn, hend⟩ := hI L (m1.nn hL)
  refine ⟨fun i m H' => m = its.length - i ∧ i ≤ its.length ∧ ∃ acc μ' G', Ex G1 G' ∧ Sm K μ' G' H' ∧ μ' L = some (.lst acc) ∧ acc.length ≤ i ∧ I i acc μ',
    ⟨its.length, by simp, Nat.zero_le _, [], _, G1, Ex.refl _, m1.write (c := .lst []) (m1.ex.nn hL) ⟨[], upd_same, .nil⟩, setS_same, Nat.le_refl _, h0⟩, ?_⟩
  rintro i m H' ⟨rfl, hi, acc, μ', G', e', hm', uD, hl, hI⟩
  obtain ⟨wgo, wstop⟩ := hJ i H' G' μ' e' hm'
  by_cases hlt : i < its.length
  · obtain ⟨go, yl⟩ := wgo hlt
    refine .inr ⟨go, fun H2 => ∃ acc2 μ2 G2, Ex G1 G2 ∧ Sm K μ2 G2 H2 ∧ μ2 L = some (.lst acc2) ∧ acc2.length ≤ i + 1 ∧ I (i + 1) acc2 μ2, fun H2 ⟨a, b, c, x1, x2, x3, x4, x5⟩ => ⟨its.length - (i + 1), by omega, rfl, hlt, a, b, c, x1, x2, x3, x4, x5⟩, fun x H2 hy => ?_⟩
    obtain ⟨G3, d, hd, e3, m3, r3⟩ := yl x H2 hy
    have heW : EnvR K G3 (wipeE ρ vs) (L2.wipe σ vs) := ((((he.mono e1).mono e').mono e3)).wipe vs
    refine hg heW m3 r3 (hturn i d acc μ' hd uD hI) fun ρ4 μ4 σ4 H4 G4 p4 e4 he4 hm4 q4 => ⟨q4.trans (wipe_wipe fun _ h => h), ρ4, μ4, G4, _, he4, hm4, p4, fun b μ5 H5 G5 p5 e5 m5 => ?_⟩
    have eG : Ex G1 G5 := ((e'.trans e3).trans e4).trans e5
    cases b with
    | true =>
      rw [if_pos rfl] at p5
      refine iteT ?_
      refine ⟨ρ4, μ5, G5, _, he4.mono e5, m5, p5, fun y μ6 v6 H6 G6 p6 e6 m6 r6 => ?_⟩
      obtain ⟨h0, xs, h1, rr⟩ := m6.st L _ p6.1
      exact ⟨xs, h1, by rw [← rr.length]; omega, acc ++ [y], _, G6, eG.trans e6, m6.write (c := .lst (acc ++ [y])) h0 ⟨_, upd_same, rr.append (.cons r6 .nil)⟩, setS_same, by rw [List.length_append]; simp; omega, p6.2⟩
    | false =>
      rw [if_neg Bool.false_ne_true] at p5
      refine iteF ?_
      exact ⟨acc, μ5, G5, eG, m5, p5.1, by omega, p5.2⟩
  · have ei : i = its.length := by omega
    subst ei
    exact .inl ⟨wstop (Nat.le_refl _), hf _ _ _ _ _ (hend acc μ' hl uD hI) uD (e1.trans e') hm'⟩
section
variable {elt tg iter : Expr} {ifs : List Expr} {scope : Scope} {own : List (Str × Nat)} {pos : Pos} {wi : WI} {g : TG} {wg : WG} {tt : WT} {te : WE}
theorem de_lc (hc : X.calm = true) (hN : X.N.Nodup) (hi : DI X tg iter wi) (ok : BlkOk X.N X.env.scope scope own) (hp : GPat X.K (own.map (·.2)) g wg)
    (hg : ∀ (s : Shared) (H : Hp) (C : Addr) (cl : List (Str × Addr)) (fp : List Addr), PG (X.blk s H scope (compEnvC scope cl C X.env) fp) tg g) (ht : ∀ (s : Shared) (H : Hp) (C : Addr) (cl : List (Str × Addr)) (fp : List Addr), DTs (X.blk s H scope (compEnvC scope cl C X.env) fp) ifs tt)
    (he : ∀ (s : Shared) (H : Hp) (C : Addr) (cl : List (Str × Addr)) (fp : List Addr), DE (X.blk s H scope (compEnvC scope cl C X.env) fp) elt te) (hs : ∀ x, foldedSetIterable iter X.env x = pure x := by intro _; rfl) :
    DE X (.ListComp elt [⟨tg, iter, ifs, 0⟩] scope pos) (wLc wi wg tt te (own.map (·.2))) :=
  ⟨wkE (pe_lc hc hN hi.p ok hg (fun s H C cl fp => (ht s H C cl fp).p) (fun s H C cl fp => (he s H C cl fp).p) hs) fun σ H Q ⟨ρ, μ, G, P, hr, hm, hw, htl⟩ => llc hp hr hm hw fun L acc μ' H' G' f u e m => by
    obtain ⟨G2, m2, e2, r2⟩ := m.freezeL u
    exact htl _ _ _ _ _ f (e.trans e2) m2 r2⟩
theorem de_lcM (hc : X.calm = true) (hN : X.N.Nodup) (hi : DI X tg iter wi) (ok : BlkOk X.N X.env.scope scope own) (hp : GPat X.K (own.map (·.2)) g wg)
    (hg : ∀ (s : Shared) (H : Hp) (C : Addr) (cl : List (Str × Addr)) (fp : List Addr), PG (X.blk s H scope (compEnvC scope cl C X.env) fp) tg g) (ht : ∀ (s : Shared) (H : Hp) (C : Addr) (cl : List (Str × Addr)) (fp : List Addr), DTs (X.blk s H scope (compEnvC scope cl C X.env) fp) ifs tt)
    (he : ∀ (s : Shared) (H : Hp) (C : Addr) (cl : List (Str × Addr)) (fp : List Addr), DE (X.blk s H scope (compEnvC scope cl C X.env) fp) elt te) (hs : ∀ x, foldedSetIterable iter X.env x = pure x := by intro _; rfl) :
    DE X (.ListComp elt [⟨tg, iter, ifs, 0⟩] scope pos) (wLcM wi wg tt te (own.map (·.2))) :=
  ⟨wkE (pe_lc hc hN hi.p ok hg (fun s H C cl fp => (ht s H C cl fp).p) (fun s H C cl fp => (he s H C cl fp).p) hs) fun σ H Q ⟨ρ, μ, G, P, hr, hm, hw, htl⟩ => llc hp hr hm hw fun L acc μ' H' G' f u e m => htl _ _ _ _ _ f e m (.ref L)⟩
/-- y = [..] -/
theorem ds_setLcG {fin : Addr → List D → Store → Prop} {i : Nat} {y : Str} {py spos : Pos} {w : WE} (hc : X.calm = true) (hN : X.N.Nodup) (hy : X.N[i]? = some y) (hyl : X.env.scope.names.lookup y = some .local)
    (hsw : swapsWith (.ListComp elt [⟨tg, iter, ifs, 0⟩] scope pos) (some (.Name y py)) spos.line X.env = pure true) (hi : DI X tg iter wi) (ok : BlkOk X.N X.env.scope scope own) (hp : GPat X.K (own.map (·.2)) g wg)
    (hg : ∀ (s : Shared) (H : Hp) (C : Addr) (cl : List (Str × Addr)) (fp : List Addr), PG (X.blk s H scope (compEnvC scope cl C X.env) fp) tg g) (ht : ∀ (s : Shared) (H : Hp) (C : Addr) (cl : List (Str × Addr)) (fp : List Addr), DTs (X.blk s H scope (compEnvC scope cl C X.env) fp) ifs tt)
    (he : ∀ (s : Shared) (H : Hp) (C : Addr) (cl : List (Str × Addr)) (fp : List Addr), DE (X.blk s H scope (compEnvC scope cl C X.env) fp) elt te) (hs : ∀ x, foldedSetIterable iter X.env x = pure x)
    (hq : ∀ σ H Q, LE X.K w σ H Q → tLc (LI X.K wi) g (LT X.K tt) (LE X.K te) (own.map (·.2)) σ H Q) :
    DS X (.Assign [.Name y py] (.ListComp elt [⟨tg, iter, ifs, 0⟩] scope pos) spos) (wAsg w (wgName i)) :=
  ⟨wkS (ps_setLc hc hN hy hyl hsw hi.p ok hg (fun s H C cl fp => (ht s H C cl fp).p) (fun s H C cl fp => (he s H C cl fp).p) hs) fun D σ H ⟨ρ, μ, G, W, hr, hm, hw, htl⟩ => hq σ H _ ⟨ρ, μ, G, _, hr, hm, hw, fun d μ1 v H1 G1 p e m r => htl.nx _ _ _ _ _ p e ((hr.mono e).set i r) m⟩⟩
theorem ds_setLc {i : Nat} {y : Str} {py spos : Pos} (hc : X.calm = true) (hN : X.N.Nodup) (hy : X.N[i]? = some y) (hyl : X.env.scope.names.lookup y = some .local)
    (hsw : swapsWith (.ListComp elt [⟨tg, iter, ifs, 0⟩] scope pos) (some (.Name y py)) spos.line X.env = pure true) (hi : DI X tg iter wi) (ok : BlkOk X.N X.env.scope scope own) (hp : GPat X.K (own.map (·.2)) g wg)
    (hg : ∀ (s : Shared) (H : Hp) (C : Addr) (cl : List (Str × Addr)) (fp : List Addr), PG (X.blk s H scope (compEnvC scope cl C X.env) fp) tg g) (ht : ∀ (s : Shared) (H : Hp) (C : Addr) (cl : List (Str × Addr)) (fp : List Addr), DTs (X.blk s H scope (compEnvC scope cl C X.env) fp) ifs tt)
    (he : ∀ (s : Shared) (H : Hp) (C : Addr) (cl : List (Str × Addr)) (fp : List Addr), DE (X.blk s H scope (compEnvC scope cl C X.env) fp) elt te) (hs : ∀ x, foldedSetIterable iter X.env x = pure x := by intro _; rfl) :
    DS X (.Assign [.Name y py] (.ListComp elt [⟨tg, iter, ifs, 0⟩] scope pos) spos) (wAsg (wLc wi wg tt te (own.map (·.2))) (wgName i)) :=
  ds_setLcG (fin := fun _ _ _ => True) hc hN hy hyl hsw hi ok hp hg ht he hs fun σ H Q ⟨ρ, μ, G, P, hr, hm, hw, htl⟩ => llc hp hr hm hw fun L acc μ' H' G' f u e m => by
    obtain ⟨G2, m2, e2, r2⟩ := m.freezeL u
    exact htl _ _ _ _ _ f (e.trans e2) m2 r2
theorem ds_setLcM {i : Nat} {y : Str} {py spos : Pos} (hc : X.calm = true) (hN : X.N.Nodup) (hy : X.N[i]? = some y) (hyl : X.env.scope.names.lookup y = some .local)
    (hsw : swapsWith (.ListComp elt [⟨tg, iter, ifs, 0⟩] scope pos) (some (.Name y py)) spos.line X.env = pure true) (hi : DI X tg iter wi) (ok : BlkOk X.N X.env.scope scope own) (hp : GPat X.K (own.map (·.2)) g wg)
    (hg : ∀ (s : Shared) (H : Hp) (C : Addr) (cl : List (Str × Addr)) (fp : List Addr), PG (X.blk s H scope (compEnvC scope cl C X.env) fp) tg g) (ht : ∀ (s : Shared) (H : Hp) (C : Addr) (cl : List (Str × Addr)) (fp : List Addr), DTs (X.blk s H scope (compEnvC scope cl C X.env) fp) ifs tt)
    (he : ∀ (s : Shared) (H : Hp) (C : Addr) (cl : List (Str × Addr)) (fp : List Addr), DE (X.blk s H scope (compEnvC scope cl C X.env) fp) elt te) (hs : ∀ x, foldedSetIterable iter X.env x = pure x := by intro _; rfl) :
    DS X (.Assign [.Name y py] (.ListComp elt [⟨tg, iter, ifs, 0⟩] scope pos) spos) (wAsg (wLcM wi wg tt te (own.map (·.2))) (wgName i)) :=
  ds_setLcG (fin := fun _ _ _ => True) hc hN hy hyl hsw hi ok hp hg ht he hs fun σ H Q ⟨ρ, μ, G, P, hr, hm, hw, htl⟩ => llc hp hr hm hw fun L acc μ' H' G' f u e m => htl _ _ _ _ _ f e m (.ref L)
end
end

/-! ### the usual loops -/
/-- a comprehension whose elements change nothing: f tells each, or that it is left out -/
theorem lc_fm {its : List D} {g : WG} {tt : WT} {te : WE} {vs : List Nat} {fin : Addr → List D → Store → Prop} {ρ : Env} {μ : Store} (f : Nat → D → Option D) (hz : its.length ≤ sizeLine)
    (h : ∀ (i : Nat) (d : D) (μ' : Store) (R : D → Store → Prop) (R' : Store → Prop), its[i]? = some d → Sub μ μ' → (∀ y, f i d = some y → R y μ') → (f i d = none → R' μ') → g d (wipeE ρ vs) μ' fun ρ2 μ2 => tt ρ2 μ2 fun b μ3 => if b = true then te ρ2 μ3 R else R' μ3)
    (q : ∀ L, μ L = none → fin L ((its.zipIdx).filterMap fun p => f p.2 p.1) (setS μ L (.lst ((its.zipIdx).filterMap fun p => f p.2 p.1)))) : lcBody its g tt te vs fin ρ μ := by
  refine ⟨hz, fun L hL => ⟨fun i acc μ' => acc = ((its.zipIdx).take i).filterMap (fun p => f p.2 p.1) ∧ μ' = setS μ L (.lst acc), ⟨rfl, rfl⟩, ?_, ?_⟩⟩
  · rintro i d acc μ' hd hu ⟨rfl, rfl⟩
    have hz2 : (its.zipIdx)[i]? = some (d, i) := by rw [List.getElem?_zipIdx, hd]; simp
    have ht : (its.zipIdx).take (i + 1) = (its.zipIdx).take i ++ [(d, i)] := by rw [List.take_add_one, hz2]; rfl
    refine h i d _ _ _ hd (Sub.set hL) (fun y e => ⟨hu, ?_, ?_⟩) (fun e => ⟨hu, ?_, rfl⟩)
    · rw [ht, List.filterMap_append]; simp [e]
    · rw [setS_setS]
    · rw [ht, List.filterMap_append]; simp [e]
  · rintro acc μ' _ _ ⟨rfl, rfl⟩
    have e : (its.zipIdx).take its.length = its.zipIdx := by
      rw [List.take_of_length_le]; simp
    rw [e]
    exact q L hL
/-- .. with a test, every element told by its item -/
theorem lc_fmap {its : List D} {g : WG} {tt : WT} {te : WE} {vs : List Nat} {fin : Addr → List D → Store → Prop} {ρ : Env} {μ : Store} (f : D → Option D) (hz : its.length ≤ sizeLine)
    (h : ∀ (i : Nat) (d : D) (μ' : Store) (R : D → Store → Prop) (R' : Store → Prop), its[i]? = some d → Sub μ μ' → (∀ y, f d = some y → R y μ') → (f d = none → R' μ') → g d (wipeE ρ vs) μ' fun ρ2 μ2 => tt ρ2 μ2 fun b μ3 => if b = true then te ρ2 μ3 R else R' μ3)
    (q : ∀ L, μ L = none → fin L (its.filterMap f) (setS μ L (.lst (its.filterMap f)))) : lcBody its g tt te vs fin ρ μ := by
  have e : (its.zipIdx).filterMap (fun p => (fun (_ : Nat) (d : D) => f d) p.2 p.1) = its.filterMap f := by
    have e2 := List.filterMap_map (f := Prod.fst) (g := f) (l := its.zipIdx)
    rw [List.zipIdx_map_fst] at e2
    rw [e2]
    rfl
  exact lc_fm (fun _ d => f d) hz (fun i d μ' R R' hd s hr hr' => h i d μ' R R' hd s hr hr') (by rw [e]; exact q)
/-- .. without a test, every element told by its item -/
theorem lc_map {its : List D} {g : WG} {te : WE} {vs : List Nat} {fin : Addr → List D → Store → Prop} {ρ : Env} {μ : Store} (f : D → D) (hz : its.length ≤ sizeLine)
    (h : ∀ (i : Nat) (d : D) (μ' : Store) (R : D → Store → Prop), its[i]? = some d → Sub μ μ' → R (f d) μ' → g d (wipeE ρ vs) μ' fun ρ2 μ2 => te ρ2 μ2 R)
    (q : ∀ L, μ L = none → fin L (its.map f) (setS μ L (.lst (its.map f)))) : lcBody its g wYes te vs fin ρ μ := by
  have e : its.filterMap (fun d => some (f d)) = its.map f := by rw [show (fun d => some (f d)) = some ∘ f from rfl, List.filterMap_eq_map]
  refine lc_fmap (fun d => some (f d)) hz (fun i d μ' R R' hd s hr _ => ?_) (by rw [e]; exact q)
  exact h i d μ' R hd s (hr _ rfl)
theorem fin_lst {μ : Store} {P : D → Store → Prop} {xs : List D} (h : P (.lst xs) μ) : ∀ L, μ L = none → P (.lst xs) (delS (setS μ L (.lst xs)) L) := fun L hL => by rw [delS_setS hL]; exact h
end Dl


namespace Dl
open PySem L2
section
variable {X : Cx} {e : Expr} {es : List Expr} {x : Str} {p pos : Pos} {wa : WA}
/-! ### built-ins called -/
abbrev OC := List D → Store → (D → Store → Prop) → Prop
def CallS (X : Cx) (f : Value) (o : OC) : Prop :=
  ∃ r, CallR X f r ∧ ∀ {ds : List D} {μ : Store} {P : D → Store → Prop} {G H : Hp} {vs : List V} {Q : VK}, o ds μ P → Sm X.K μ G H → Rps X.K G ds vs → Tells X.K G P Q → r vs H Q
def wCB (o : OC) (wa : WA) : WE := fun ρ μ P => wa ρ μ fun ds μ1 => o ds μ1 P
theorem lcb {r : List V → Hp → VK → Prop} {o : OC} (hs : ∀ {ds : List D} {μ : Store} {P : D → Store → Prop} {G H : Hp} {vs : List V} {Q : VK}, o ds μ P → Sm X.K μ G H → Rps X.K G ds vs → Tells X.K G P Q → r vs H Q) :
    ∀ σ H Q, LE X.K (wCB o wa) σ H Q → tCB r (LA X.K wa) σ H Q := fun σ H Q ⟨ρ, μ, G, P, he, hm, hw, ht⟩ => ⟨ρ, μ, G, _, he, hm, hw, fun ds μ1 vs H1 G1 p1 e1 m1 r1 => hs p1 m1 r1 (ht.mono e1)⟩
theorem de_callB {id : String} {o : OC} (hc : CallS X (.builtin id) o) (hg : Gl X x) (hm : X.mg x = none) (hv : bootBuiltins x = some (.builtin id)) (ha : DA X (e :: es) wa) (hn : x ≠ "__name__" := by decide) (hdb : (x == ("__debug__" : Str)) = false := by decide)
    (he : starEach (e :: es) X.env = (false, eval e X.env) :: starEach es X.env := by rfl) (hpl : (backTo pos (starEach es X.env)).any (·.1) = false := by rfl) : DE X (.Call (.Name x p) (e :: es) [] pos) (wCB o wa) := by
  obtain ⟨r, hr, hs⟩ := hc
  exact ⟨wkE (pe_callB hr hg hm hv ha.p hn hdb he hpl) (lcb hs)⟩
theorem de_callTy {T : String} {o : OC} (hc : CallS X (.type T) o) (hg : Gl X x) (hm : X.mg x = none) (hv : bootBuiltins x = some (.type T)) (ha : DA X (e :: es) wa) (hn : x ≠ "__name__" := by decide) (hdb : (x == ("__debug__" : Str)) = false := by decide)
    (he : starEach (e :: es) X.env = (false, eval e X.env) :: starEach es X.env := by rfl) (hpl : (backTo pos (starEach es X.env)).any (·.1) = false := by rfl) : DE X (.Call (.Name x p) (e :: es) [] pos) (wCB o wa) := by
  obtain ⟨r, hr, hs⟩ := hc
  exact ⟨wkE (pe_callTy hr hg hm hv ha.p hn hdb he hpl) (lcb hs)⟩

/-- lengths -/
def lenD (μ : Store) : D → Option Nat
  | .str s => some s.length
  | .tup xs => some xs.length
  | .lst xs => some xs.length
  | .scr xs => some xs.length
  | .dct xs => some xs.length
  | .ref a => match μ a with | some (.lst xs) => some xs.length | some (.dct xs) => some xs.length | _ => none
  | _ => none
def oLen : OC := fun ds μ P => match ds with
  | [d] => match lenD μ d with | some n => okLen d ∧ P (.int n) μ | none => False
  | _ => False
theorem cs_len : CallS X (.builtin "len") oLen := by
  refine ⟨_, call_len.or call_lenD, ?_⟩
  intro ds μ P G H vs Q h m r t
  match ds, r, h with
  | [d], .cons (v := v) r1 .nil, h =>
    have h' : (match lenD μ d with | some n => okLen d ∧ P (.int n) μ | none => False) := h
    have tl : ∀ n : Nat, P (.int n) μ → Q (.int n) H := fun n q => t _ _ _ _ _ q (Ex.refl _) m (.int _)
    cases r1 with
    | str s => exact .inl ⟨_, _, rfl, ⟨h'.1, rfl⟩, tl _ h'.2⟩
    | tup h1 r1 => exact .inl ⟨_, _, rfl, .inr ⟨_, h1.sq m.ex, rfl⟩, by rw [← r1.length]; exact tl _ h'.2⟩
    | lst h1 r1 => exact .inl ⟨_, _, rfl, .inl ⟨_, lst_sq m.ex h1, rfl⟩, by rw [← r1.length]; exact tl _ h'.2⟩
    | scr h1 r1 => exact .inl ⟨_, _, rfl, .inl ⟨_, h1.sq m.ex, rfl⟩, by rw [← r1.length]; exact tl _ h'.2⟩
    | dct h1 k r1 => exact .inr ⟨_, _, rfl, m.ex _ _ h1, by rw [len_keys k]; exact tl _ h'.2⟩
    | ref a =>
      unfold lenD at h'
      dsimp only at h'
      cases q : μ a with
      | none => rw [q] at h'; exact h'.elim
      | some c =>
        rw [q] at h'
        cases c with
        | lst xs => obtain ⟨_, ws, h1, r1⟩ := m.st a _ q; exact .inl ⟨_, _, rfl, .inl ⟨ws, SqL.of h1, rfl⟩, by rw [← r1.length]; exact tl _ h'.2⟩
        | dct xs => obtain ⟨_, ws, h1, k, r1⟩ := m.st a _ q; exact .inr ⟨a, ws, rfl, h1, by rw [len_keys k]; exact tl _ h'.2⟩
        | ins C xs => exact h'.elim
    | _ => exact h'.elim
def oAbs : OC := fun ds μ P => match ds with | [.int i] => P (.int (if i < 0 then -i else i)) μ | _ => False
theorem cs_abs : CallS X (.builtin "abs") oAbs := by
  refine ⟨_, call_abs, ?_⟩
  intro ds μ P G H vs Q h m r t
  match ds, r, h with
  | [.int i], .cons (.int _) .nil, h => exact ⟨i, rfl, t _ _ _ _ _ h (Ex.refl _) m (.int _)⟩
/-- int(..) of an int, a bool, a text -/
def oInt : OC := fun ds μ P => match ds with
  | [.int i] => P (.int i) μ
  | [.bl b] => P (.int (if b then 1 else 0)) μ
  | [.str s] => match PySem.intText? s with | some n => s.length ≤ 640 ∧ P (.int n) μ | none => False
  | _ => False
theorem cs_int : CallS X (.type "int") oInt := by
  refine ⟨_, call_int1.or call_int_str, ?_⟩
  intro ds μ P G H vs Q h m r t
  match ds, r, h with
  | [.int i], .cons (.int _) .nil, h => exact .inl (.inl ⟨i, rfl, t _ _ _ _ _ h (Ex.refl _) m (.int _)⟩)
  | [.bl b], .cons (.bl _) .nil, h => exact .inl (.inr ⟨b, rfl, t _ _ _ _ _ h (Ex.refl _) m (.int _)⟩)
  | [.str s], .cons (.str _) .nil, h =>
    unfold oInt at h
    dsimp only at h
    split at h
    · rename_i n e
      exact .inr ⟨s, n, rfl, e, h.1, t _ _ _ _ _ h.2 (Ex.refl _) m (.int _)⟩
    · exact h.elim
/-- str(..) of an int, a text -/
def oStr : OC := fun ds μ P => match ds with
  | [.int i] => i.natAbs.log2 < 1920 ∧ P (.str (Str.ofString (toString i))) μ
  | [.str s] => P (.str s) μ
  | _ => False
theorem cs_str : CallS X (.type "str") oStr := by
  refine ⟨_, call_str_int.or SkE.call_str_str, ?_⟩
  intro ds μ P G H vs Q h m r t
  match ds, r, h with
  | [.int i], .cons (.int _) .nil, h => exact .inl ⟨i, rfl, h.1, t _ _ _ _ _ h.2 (Ex.refl _) m (.str _)⟩
  | [.str s], .cons (.str _) .nil, h => exact .inr ⟨s, rfl, t _ _ _ _ _ h (Ex.refl _) m (.str _)⟩
def oRepr : OC := fun ds μ P => match ds with
  | [.int i] => i.natAbs.log2 < 1920 ∧ P (.str (Str.ofString (toString i))) μ
  | [.str x] => (reprText x).length ≤ sizeLine ∧ P (.str (reprText x)) μ
  | [.bl b] => P (.str (if b then ("True" : Str) else "False")) μ
  | [.non] => P (.str "None") μ
  | _ => False
theorem call_repr_str : CallR X (.builtin "repr") (fun xs H Q => ∃ x, xs = [.str x] ∧ (reprText x).length ≤ sizeLine ∧ Q (.str (reprText x)) H) := by
  intro pins s σ H xs us Q I r h
  obtain ⟨x, rfl, hz, q⟩ := h
  obtain ⟨u, rfl, t, rfl⟩ := vals1 r
  exact PySem.P.repr_of_str ⟨.str _, H, I.tok _, ⟨_, rfl⟩, q⟩ hz
theorem call_repr_bl : CallR X (.builtin "repr") (fun xs H Q => ∃ b : Bool, xs = [.bl b] ∧ Q (.str (if b then ("True" : Str) else "False")) H) := by
  intro pins s σ H xs us Q I r h
  obtain ⟨b, rfl, q⟩ := h
  obtain ⟨u, rfl, r1⟩ := vals1 r
  cases (show u = Value.bool b from r1)
  exact PySem.P.repr_of_bool ⟨.str _, H, I.tok _, ⟨_, rfl⟩, q⟩
theorem call_repr_non : CallR X (.builtin "repr") (fun xs H Q => xs = [.non] ∧ Q (.str "None") H) := by
  intro pins s σ H xs us Q I r h
  obtain ⟨rfl, q⟩ := h
  obtain ⟨u, rfl, r1⟩ := vals1 r
  cases (show u = Value.none from r1)
  exact PySem.P.repr_of_none ⟨.str _, H, I.tok _, ⟨_, rfl⟩, q⟩
theorem CallR_or {f : Value} {r r' : List V → Hp → VK → Prop} (h : CallR X f r) (h' : CallR X f r') : CallR X f (fun xs H Q => r xs H Q ∨ r' xs H Q) := by
  intro pins s σ H xs us Q I rv q
  rcases q with q | q
  · exact h pins s σ H xs us Q I rv q
  · exact h' pins s σ H xs us Q I rv q
theorem cs_repr : CallS X (.builtin "repr") oRepr := by
  refine ⟨_, CallR_or SkE.call_repr_int (CallR_or call_repr_str (CallR_or call_repr_bl call_repr_non)), ?_⟩
  intro ds μ P G H vs Q h m r t
  match ds, r, h with
  | [.int i], .cons (.int _) .nil, h => exact .inl ⟨i, rfl, h.1, t _ _ _ _ _ h.2 (Ex.refl _) m (.str _)⟩
  | [.str i], .cons (.str _) .nil, h => exact .inr (.inl ⟨i, rfl, h.1, t _ _ _ _ _ h.2 (Ex.refl _) m (.str _)⟩)
  | [.bl i], .cons (.bl _) .nil, h => exact .inr (.inr (.inl ⟨i, rfl, t _ _ _ _ _ h (Ex.refl _) m (.str _)⟩))
  | [.non], .cons .non .nil, h => exact .inr (.inr (.inr ⟨rfl, t _ _ _ _ _ h (Ex.refl _) m (.str _)⟩))
/-- lists of ints, of texts, of truth values -/
def intsD : List D → Option (List Int)
  | [] => some []
  | .int i :: r => (intsD r).map (i :: ·)
  | _ :: _ => none
def strsD : List D → Option (List Str)
  | [] => some []
  | .str i :: r => (strsD r).map (i :: ·)
  | _ :: _ => none
def blsD : List D → Option (List Bool)
  | [] => some []
  | .bl i :: r => (blsD r).map (i :: ·)
  | _ :: _ => none
theorem intsD_map : ∀ ns : List Int, intsD (ns.map .int) = some ns
  | [] => rfl
  | n :: ns => by rw [List.map_cons, intsD, intsD_map ns]; rfl
theorem strsD_map : ∀ ns : List Str, strsD (ns.map .str) = some ns
  | [] => rfl
  | n :: ns => by rw [List.map_cons, strsD, strsD_map ns]; rfl
theorem blsD_map : ∀ ns : List Bool, blsD (ns.map .bl) = some ns
  | [] => rfl
  | n :: ns => by rw [List.map_cons, blsD, blsD_map ns]; rfl
theorem intsD_ok {K : PySem.W.Frag} {G : Hp} : ∀ {ds : List D} {vs : List V} {ns : List Int}, intsD ds = some ns → Rps K G ds vs → vs = ns.map V.int
  | _, _, _, h, .nil => by cases h; rfl
  | d :: ds, _ :: _, ns, h, .cons h1 r => by
    cases h1 with
    | int i =>
      have h' : (intsD ds).map (i :: ·) = some ns := h
      cases q : intsD ds with
      | none => rw [q] at h'; cases h'
      | some ms => rw [q] at h'; cases h'; rw [intsD_ok q r]; rfl
    | _ => cases h
theorem strsD_ok {K : PySem.W.Frag} {G : Hp} : ∀ {ds : List D} {vs : List V} {ns : List Str}, strsD ds = some ns → Rps K G ds vs → vs = ns.map V.str
  | _, _, _, h, .nil => by cases h; rfl
  | d :: ds, _ :: _, ns, h, .cons h1 r => by
    cases h1 with
    | str i =>
      have h' : (strsD ds).map (i :: ·) = some ns := h
      cases q : strsD ds with
      | none => rw [q] at h'; cases h'
      | some ms => rw [q] at h'; cases h'; rw [strsD_ok q r]; rfl
    | _ => cases h
theorem blsD_ok {K : PySem.W.Frag} {G : Hp} : ∀ {ds : List D} {vs : List V} {ns : List Bool}, blsD ds = some ns → Rps K G ds vs → vs = ns.map V.bl
  | _, _, _, h, .nil => by cases h; rfl
  | d :: ds, _ :: _, ns, h, .cons h1 r => by
    cases h1 with
    | bl i =>
      have h' : (blsD ds).map (i :: ·) = some ns := h
      cases q : blsD ds with
      | none => rw [q] at h'; cases h'
      | some ms => rw [q] at h'; cases h'; rw [blsD_ok q r]; rfl
    | _ => cases h
theorem rps_ints {K : PySem.W.Frag} {G : Hp} : ∀ ns : List Int, Rps K G (ns.map .int) (ns.map V.int)
  | [] => .nil
  | n :: ns => .cons (.int n) (rps_ints ns)
theorem rps_strs {K : PySem.W.Frag} {G : Hp} : ∀ ns : List Str, Rps K G (ns.map .str) (ns.map V.str)
  | [] => .nil
  | n :: ns => .cons (.str n) (rps_strs ns)
/-- min, max of two ints; of a list of ints -/
def oMin : OC := fun ds μ P => match ds with
  | [.int i, .int j] => P (.int (if j < i then j else i)) μ
  | [d] => match (seqR μ d).bind intsD with | some ns => 0 < ns.length ∧ ∀ m, m ∈ ns → (∀ y, y ∈ ns → m ≤ y) → P (.int m) μ | none => False
  | _ => False
def oMax : OC := fun ds μ P => match ds with
  | [.int i, .int j] => P (.int (if j > i then j else i)) μ
  | [d] => match (seqR μ d).bind intsD with | some ns => 0 < ns.length ∧ ∀ m, m ∈ ns → (∀ y, y ∈ ns → y ≤ m) → P (.int m) μ | none => False
  | _ => False
theorem ints_of {K : PySem.W.Frag} {μ : Store} {G H : Hp} {d : D} {v : V} {ns : List Int} (h : (seqR μ d).bind intsD = some ns) (m : Sm K μ G H) (r : Rp K G d v) : ∃ a, v = .ref a ∧ SqL K H a (ns.map V.int) := by
  cases q : seqR μ d with
  | none => rw [q] at h; cases h
  | some xs =>
    rw [q] at h
    obtain ⟨a, ws, rfl, h1, r1⟩ := seqR_ok q m r
    exact ⟨a, rfl, by rw [← intsD_ok h r1]; exact h1⟩
theorem cs_min (hc : X.calm = true) : CallS X (.builtin "min") oMin := by
  refine ⟨_, (call_min2 hc).or (cr_min hc), ?_⟩
  intro ds μ P G H vs Q h m r t
  unfold oMin at h
  split at h
  · match vs, r with
    | _, .cons (.int _) (.cons (.int _) .nil) => exact .inl ⟨_, _, rfl, t _ _ _ _ _ h (Ex.refl _) m (.int _)⟩
  · match vs, r with
    | _, .cons r1 .nil =>
      split at h
      · rename_i ns e
        obtain ⟨a, rfl, hs⟩ := ints_of e m r1
        exact .inr ⟨a, ns, rfl, hs, h.1, fun k h1 h2 => t _ _ _ _ _ (h.2 k h1 h2) (Ex.refl _) m (.int _)⟩
      · exact h.elim
  · exact h.elim
theorem cs_max (hc : X.calm = true) : CallS X (.builtin "max") oMax := by
  refine ⟨_, (call_max2 hc).or (cr_max hc), ?_⟩
  intro ds μ P G H vs Q h m r t
  unfold oMax at h
  split at h
  · match vs, r with
    | _, .cons (.int _) (.cons (.int _) .nil) => exact .inl ⟨_, _, rfl, t _ _ _ _ _ h (Ex.refl _) m (.int _)⟩
  · match vs, r with
    | _, .cons r1 .nil =>
      split at h
      · rename_i ns e
        obtain ⟨a, rfl, hs⟩ := ints_of e m r1
        exact .inr ⟨a, ns, rfl, hs, h.1, fun k h1 h2 => t _ _ _ _ _ (h.2 k h1 h2) (Ex.refl _) m (.int _)⟩
      · exact h.elim
  · exact h.elim
def oSum : OC := fun ds μ P => match ds with
  | [d] => match (seqR μ d).bind intsD with | some ns => P (.int ns.sum) μ | none => False
  | _ => False
theorem cs_sum (hc : X.calm = true) : CallS X (.builtin "sum") oSum := by
  refine ⟨_, cr_sum hc, ?_⟩
  intro ds μ P G H vs Q h m r t
  unfold oSum at h
  split at h
  · match vs, r with
    | _, .cons r1 .nil =>
      split at h
      · rename_i ns e
        obtain ⟨a, rfl, hs⟩ := ints_of e m r1
        exact ⟨a, ns, rfl, hs, t _ _ _ _ _ h (Ex.refl _) m (.int _)⟩
      · exact h.elim
  · exact h.elim
theorem bls_of {K : PySem.W.Frag} {μ : Store} {G H : Hp} {d : D} {v : V} {ns : List Bool} (h : (seqR μ d).bind blsD = some ns) (m : Sm K μ G H) (r : Rp K G d v) : ∃ a, v = .ref a ∧ SqL K H a (ns.map V.bl) := by
  cases q : seqR μ d with
  | none => rw [q] at h; cases h
  | some xs =>
    rw [q] at h
    obtain ⟨a, ws, rfl, h1, r1⟩ := seqR_ok q m r
    exact ⟨a, rfl, by rw [← blsD_ok h r1]; exact h1⟩
def oAll : OC := fun ds μ P => match ds with
  | [d] => match (seqR μ d).bind blsD with | some ns => P (.bl (ns.all id)) μ | none => False
  | _ => False
def oAny : OC := fun ds μ P => match ds with
  | [d] => match (seqR μ d).bind blsD with | some ns => P (.bl (ns.any id)) μ | none => False
  | _ => False
theorem cs_all (hc : X.calm = true) : CallS X (.builtin "all") oAll := by
  refine ⟨_, cr_all hc, ?_⟩
  intro ds μ P G H vs Q h m r t
  unfold oAll at h
  split at h
  · match vs, r with
    | _, .cons r1 .nil =>
      split at h
      · rename_i ns e
        obtain ⟨a, rfl, hs⟩ := bls_of e m r1
        exact ⟨a, ns, rfl, hs, t _ _ _ _ _ h (Ex.refl _) m (.bl _)⟩
      · exact h.elim
  · exact h.elim
theorem cs_any (hc : X.calm = true) : CallS X (.builtin "any") oAny := by
  refine ⟨_, cr_any hc, ?_⟩
  intro ds μ P G H vs Q h m r t
  unfold oAny at h
  split at h
  · match vs, r with
    | _, .cons r1 .nil =>
      split at h
      · rename_i ns e
        obtain ⟨a, rfl, hs⟩ := bls_of e m r1
        exact ⟨a, ns, rfl, hs, t _ _ _ _ _ h (Ex.refl _) m (.bl _)⟩
      · exact h.elim
  · exact h.elim
/-- sorted of ints, of fewer than 64 texts -/
def oSorted : OC := fun ds μ P => match ds with
  | [d] => match seqR μ d with
    | some xs => match intsD xs with
      | some ns => ∀ ns' : List Int, ns'.Perm ns → ns'.Pairwise (· ≤ ·) → P (.lst (ns'.map .int)) μ
      | none => match strsD xs with
        | some ss => ss.length < 64 ∧ ∀ ss' : List Str, ss'.Perm ss → PyProof.Rows.sortedS ss' = true → P (.lst (ss'.map .str)) μ
        | none => False
    | none => False
  | _ => False
theorem cs_sorted : CallS X (.builtin "sorted") oSorted := by
  refine ⟨_, cr_sortedI.or cr_sortedS, ?_⟩
  intro ds μ P G H vs Q h m r t
  unfold oSorted at h
  split at h
  · match vs, r with
    | _, .cons r1 .nil =>
      split at h
      · rename_i xs e
        obtain ⟨a, ws, rfl, h1, r2⟩ := seqR_ok e m r1
        split at h
        · rename_i ns e2
          refine .inl ⟨a, ns, rfl, by rw [← intsD_ok e2 r2]; exact h1, fun ns' p hp hs hn => new_lst m (rps_ints ns') (h ns' hp hs) t p hn⟩
        · split at h
          · rename_i ss e3
            exact .inr ⟨a, ss, rfl, by rw [← strsD_ok e3 r2]; exact h1, h.1, fun ss' p hp hs hn => new_lst m (rps_strs ss') (h.2 ss' hp hs) t p hn⟩
          · exact h.elim
      · exact h.elim
  · exact h.elim
/-- tuple(..), list(..) -/
def oTuple : OC := fun ds μ P => match ds with
  | [d] => match seqA μ d with | some xs => P (.tup xs) μ | none => False
  | _ => False
theorem cs_tuple : CallS X (.type "tuple") oTuple := by
  refine ⟨_, call_tuple_of, ?_⟩
  intro ds μ P G H vs Q h m r t
  unfold oTuple at h
  split at h
  · match vs, r with
    | _, .cons r1 .nil =>
      split at h
      · rename_i xs e
        rename_i d _ _
        by_cases q : ∃ es, d = D.tup es
        · obtain ⟨es, rfl⟩ := q
          cases e
          cases r1 with
          | tup h1 r2 => exact ⟨_, _, rfl, .inr ⟨h1.sq m.ex, t _ _ _ _ _ h (Ex.refl _) m (.tup h1 r2)⟩⟩
        · have e' : seqR μ d = some xs := by
            cases d with
            | tup es => exact (q ⟨es, rfl⟩).elim
            | _ => exact e
          obtain ⟨a, ws, rfl, h1, r2⟩ := seqR_ok e' m r1
          exact ⟨a, ws, rfl, .inl ⟨h1, new_tup m r2 h t⟩⟩
      · exact h.elim
  · exact h.elim
def oList : OC := fun ds μ P => match ds with
  | [d] => match seqA μ d with | some xs => P (.lst xs) μ | none => False
  | _ => False
def oListM : OC := fun ds μ P => match ds with
  | [d] => match seqA μ d with | some xs => ∀ p, μ p = none → P (.ref p) (setS μ p (.lst xs)) | none => False
  | _ => False
theorem cs_list : CallS X (.type "list") oList := by
  refine ⟨_, call_list_of, ?_⟩
  intro ds μ P G H vs Q h m r t
  unfold oList at h
  split at h
  · match vs, r with
    | _, .cons r1 .nil =>
      split at h
      · rename_i xs e
        obtain ⟨a, ws, rfl, h1, r2⟩ := seqA_ok e m r1
        exact ⟨a, ws, rfl, h1, new_lst m r2 h t⟩
      · exact h.elim
  · exact h.elim
theorem cs_listM : CallS X (.type "list") oListM := by
  refine ⟨_, call_list_of, ?_⟩
  intro ds μ P G H vs Q h m r t
  unfold oListM at h
  split at h
  · match vs, r with
    | _, .cons r1 .nil =>
      split at h
      · rename_i xs e
        obtain ⟨a, ws, rfl, h1, r2⟩ := seqA_ok e m r1
        exact ⟨a, ws, rfl, h1, new_lstM m r2 h t⟩
      · exact h.elim
  · exact h.elim

/-! ### a[b] -/
def oIx : OD := fun x y μ P => match x with
  | .str s => match y with
    | .int i => match atI s.cps.toList i with | some c => s.length ≤ sizeLine ∧ P (.str ⟨#[c]⟩) μ | none => False
    | _ => False
  | x => match seqA μ x with
    | some xs => match y with
      | .int i => match atI xs i with | some d => P d μ | none => False
      | _ => False
    | none => match x with
      | .dct kvs => match (keyD y).bind (look kvs) with | some d => P d μ | none => False
      | .ref a => match μ a with
        | some (.dct kvs) => match (keyD y).bind (look kvs) with | some d => P d μ | none => False
        | _ => False
      | _ => False
theorem Rps.atI {K : PySem.W.Frag} {G : Hp} {ds : List D} {vs : List V} {i : Int} {d : D} (r : Rps K G ds vs) (h : L2.atI ds i = some d) : ∃ v, L2.atI vs i = some v ∧ Rp K G d v := by
  unfold L2.atI at h ⊢
  rw [← r.length]
  cases q : ixN ds.length i with
  | none => rw [q] at h; cases h
  | some j => rw [q] at h; exact r.getL h
def rIxD : R2 := fun x y H Q => ∃ a v, x = .ref a ∧ DGet H a y (some v) ∧ Q v H
theorem ix_dict (hu : X.A.units + 1 < cLine) : IxR X rIxD := by
  intro value slice pins s σ H x y v u Q I rx ry h hs
  obtain ⟨a, z, rfl, g, q⟩ := h
  cases rx
  have hT := dict_typeIs I g
  unfold PyProof.Rows.subscriptTail
  refine wpAny_bind ?_
  rw [getitemInPython_of_ne hT.not_modules]
  refine wpAny_bind (wpAny_specialOf hT PySem.F.slot_dict_getitem.lookup ?_)
  have fin : wpAny (model X.prog X.w) X.A (subscripted slice false (.ref a) u) (fun r s₃ => wpAny (model X.prog X.w) X.A (letTemporaryGo value (.ref a) r >>= fun _ => pure r) (EP X pins σ Q) X.xe s₃) X.xe s := by
    rw [hs]
    exact wpAny_operating (wpAny_mono (d_getItem hu I g ry fun w' s3 I3 rw' => (show EP X pins σ Q w' s3 from ⟨z, H, I3, rw', q⟩)) (fun r s₃ h₃ => wpAny_bind (wpAny_letTemporaryGo (wpAny_pure h₃))) fun _ _ x => x)
  first
    | exact wpAny_pure (wpAny_bind fin)
    | exact wpAny_bind (wpAny_pure (wpAny_bind fin))
    | exact wpAny_bind fin
def wIx (wa wb : WE) : WE := wOp oIx wa wb
theorem de_ix {a b : Expr} {wa wb : WE} (hu : X.A.units + 1 < cLine) (ha : DE X a wa) (hb : DE X b wb) (hs : PlainIx b) : DE X (.Subscript a b pos) (wIx wa wb) := by
  refine ⟨wkE (pe_ix (ix_seq.or (ix_dict hu)) ha.p hb.p hs) (lop fun {x y μ P G H v u Q} h m rx ry t => ?_)⟩
  have key : ∀ {kvs : List (Key × D)} {kv : List (Key × V)} {a : Addr}, H a = some (.dK kv) → kv.map (·.1) = kvs.map (·.1) → Rps X.K G (kvs.map (·.2)) (kv.map (·.2)) → (match (keyD y).bind (look kvs) with | some d => P d μ | none => False) → rIxD (.ref a) u H Q := fun {kvs kv a} h1 k r h => by
    cases q : keyD y with
    | none => rw [q] at h; exact h.elim
    | some ky =>
      rw [q] at h
      have h' : (match look kvs ky with | some d => P d μ | none => False) := h
      cases q2 : look kvs ky with
      | none => rw [q2] at h'; exact h'.elim
      | some d =>
        rw [q2] at h'
        obtain ⟨v, e, rv⟩ := (look_keys (k := ky) k r).1 d q2
        have ek := keyD_ok q ry
        subst ek
        refine ⟨a, v, rfl, ?_, t _ _ _ _ _ h' (Ex.refl _) m rv⟩
        rw [← e, ← valV_look]
        exact DGet.k h1
  unfold oIx at h
  split at h
  · rename_i s
    cases rx
    split at h
    · rename_i i
      cases ry
      split at h
      · rename_i c e
        exact .inl (.inr (.inr ⟨s, i, c, rfl, rfl, h.1, e, t _ _ _ _ _ h.2 (Ex.refl _) m (.str _)⟩))
      · exact h.elim
    · exact h.elim
  · split at h
    · rename_i xs e
      obtain ⟨a, ws, rfl, h1, r1⟩ := seqA_ok e m rx
      split at h
      · rename_i i
        cases ry
        split at h
        · rename_i d e2
          obtain ⟨z, e3, r3⟩ := r1.atI e2
          rcases h1 with h1 | h1
          · exact .inl (.inl ⟨a, ws, i, z, rfl, rfl, h1, e3, t _ _ _ _ _ h (Ex.refl _) m r3⟩)
          · exact .inl (.inr (.inl ⟨a, ws, i, z, rfl, rfl, h1, e3, t _ _ _ _ _ h (Ex.refl _) m r3⟩))
        · exact h.elim
      · exact h.elim
    · split at h
      · cases rx with
        | dct h1 k r1 => exact .inr (key (m.ex _ _ h1) k r1 h)
      · cases rx
        split at h
        · rename_i kvs e
          obtain ⟨_, kv, h1, k, r1⟩ := m.st _ _ e
          exact .inr (key h1 k r1 h)
        · exact h.elim
      · exact h.elim
end
end Dl

namespace Dl
open PySem L2
/-! ### promises over data -/
abbrev DSp := List D → Store → (D → Store → Prop) → Prop
def LSp (K : PySem.W.Frag) (d : DSp) : Sp := fun vs H Q _ => ∃ ds μ G P, Rps K G ds vs ∧ Sm K μ G H ∧ d ds μ P ∧ Tells K G P Q
def startD (N : List Str) (ds : List D) : Env := ds.map some ++ List.replicate (N.length - ds.length) none
theorem env_start {K : PySem.W.Frag} {G : Hp} {N : List Str} {ds : List D} {vs : List V} (r : Rps K G ds vs) : EnvR K G (startD N ds) (L2.start N vs) := by
  have hl := r.length
  refine ⟨by simp [startD, L2.start, hl], fun i d q => ?_⟩
  unfold startD at q
  unfold L2.start
  by_cases hi : i < ds.length
  · rw [List.getElem?_append_left (by simpa using hi)] at q
    rw [List.getElem?_append_left (by simpa [← hl] using hi)]
    rw [List.getElem?_map] at q ⊢
    cases e : ds[i]? with
    | none => rw [e] at q; cases q
    | some d' =>
      rw [e] at q
      cases q
      obtain ⟨v, h1, h2⟩ := r.getL e
      exact ⟨v, by rw [h1]; rfl, h2⟩
  · rw [List.getElem?_append_right (by simpa using hi)] at q
    have := List.mem_of_getElem? q
    rw [List.mem_replicate] at this
    cases this.2
section
variable {P : Program} {w : World} {K : PySem.W.Frag} {mg : Str → Option Value} {base : Heap}
/-- the def keeps its promise: its body's derivation, and the reading over data -/
theorem fn_d {x qual : Str} {st : Stmt} {f : Addr} {fd : FuncData} {N ps : List Str} {k : Nat} {d : DSp} {ws : WS} (F : Fun K x qual st f fd) (S : FnScope N ps (defScope st)) (len : ∀ ds μ Q, d ds μ Q → ds.length = ps.length)
    (hb : ∀ (cdv : Value) (A : Around) (outer : List PySem.Env) (s : Shared) (H : Hp) (E : XK), Room k (A.deeper (PyProof.Rows.envOfC qual (defScope st) s.heap.objs.size f cdv)) → DSs (cxOf CX0 P w K mg base N qual (defScope st) f cdv A outer s H E).nox (defBody st) ws)
    (ok : ∀ ds μ Q, d ds μ Q → ws { nx := fun _ μ' => ∃ μ2, Sub μ2 μ' ∧ Q .non μ2, rt := Q } (startD N ds) μ) : FnOk P w K mg base CX0 (k + 1) f fd ps (LSp K d) := by
  refine F.ok S (fun vs H Q E ⟨ds, μ, G, R, r, m, h, t⟩ => by rw [← r.length]; exact len _ _ _ h) (fun cdv A outer s H vs Q E hr ⟨ds, μ, G, R, r, m, h, t⟩ => ?_)
  refine ⟨_, (hb cdv A outer s H E hr).p, startD N ds, μ, G, _, env_start r, m, ok ds μ R h, ⟨fun ρ' μ' σ' H' G' ⟨μ2, sb, p⟩ e _ m' => t _ _ _ _ _ p e (m'.sub sb) .non, fun d μ' v H' G' p e m' r' => t _ _ _ _ _ p e m' r', fun _ _ _ _ _ p => p.elim, fun _ _ _ _ _ p => p.elim⟩⟩
/-- the same for a def that may raise, told of the ways that raise nothing -/
theorem fn_dX {x qual : Str} {st : Stmt} {f : Addr} {fd : FuncData} {N ps : List Str} {k : Nat} {d : DSp} {ws : WS} (F : Fun K x qual st f fd) (S : FnScope N ps (defScope st)) (len : ∀ ds μ Q, d ds μ Q → ds.length = ps.length)
    (hb : ∀ (cdv : Value) (A : Around) (outer : List PySem.Env) (s : Shared) (H : Hp) (E : XK), Room k (A.deeper (PyProof.Rows.envOfC qual (defScope st) s.heap.objs.size f cdv)) → DSs (cxOf CX0 P w K mg base N qual (defScope st) f cdv A outer s H E).nox (defBody st) ws)
    (ok : ∀ ds μ Q, d ds μ Q → ws { nx := fun _ μ' => ∃ μ2, Sub μ2 μ' ∧ Q .non μ2, rt := Q } (startD N ds) μ) : FnOk P w K mg base CX0 (k + 1) f fd ps (LSp K d) := fn_d F S len hb ok
end
section
variable {X : Cx} {k : Nat} {f C : Addr} {fd : FuncData} {ps : List Str} {d : DSp} {dds : List D} {dvs : List V} {ds : List Value} {x m : Str} {p pos apos : Pos} {e o : Expr} {es : List Expr} {wo : WE} {wa : WA}
def wCall (d : DSp) (dds : List D) (wa : WA) : WE := fun ρ μ P => wa ρ μ fun ds μ1 => d (ds ++ dds) μ1 P
theorem de_call (F : FnOk X.prog X.w X.K X.mg X.base CX0 k f fd ps (LSp X.K d)) (hr : Room k X.A) (hg : Gl X x) (hm : X.mg x = some (.ref f)) (hk : PySem.W.keepIn X.K (.ref f) = true) (hb : Binds X.K fd ps ds) (hd : Vals dvs ds) (hdd : ∀ G, Rps X.K G dds dvs)
    (ha : DA X (e :: es) wa) (hdb : (x == ("__debug__" : Str)) = false := by decide) (he : starEach (e :: es) X.env = (false, eval e X.env) :: starEach es X.env := by rfl) (hpl : (backTo pos (starEach es X.env)).any (·.1) = false := by rfl) :
    DE X (.Call (.Name x p) (e :: es) [] pos) (wCall d dds wa) :=
  ⟨wkE (pe_call (E := E0) F hr hg hm hk hb hd pass0 ha.p hdb he hpl) fun σ H Q ⟨ρ, μ, G, P, hr, hm, hw, ht⟩ => ⟨ρ, μ, G, _, hr, hm, hw, fun ds μ1 vs H1 G1 p1 e1 m1 r1 => ⟨ds ++ dds, μ1, G1, P, r1.append (hdd G1), m1, p1, ht.mono e1⟩⟩⟩
theorem de_call0 (F : FnOk X.prog X.w X.K X.mg X.base CX0 k f fd ps (LSp X.K d)) (hr : Room k X.A) (hg : Gl X x) (hm : X.mg x = some (.ref f)) (hk : PySem.W.keepIn X.K (.ref f) = true) (hb : Binds X.K fd ps ds) (hd : Vals dvs ds) (hdd : ∀ G, Rps X.K G dds dvs)
    (hdb : (x == ("__debug__" : Str)) = false := by decide) : DE X (.Call (.Name x p) [] [] pos) (wCall d dds wANil) :=
  ⟨wkE (pe_call0 (E := E0) F hr hg hm hk hb hd pass0 hdb) fun σ H Q ⟨ρ, μ, G, P, hr, hm, hw, ht⟩ => ⟨dds, μ, G, P, hdd G, hm, hw, ht⟩⟩
/-- o.m(..) -/
def wMeth (C : Addr) (m : Str) (d : DSp) (dds : List D) (wo : WE) (wa : WA) : WE := fun ρ μ P => wo ρ μ fun x μ1 => match insD μ1 x with
  | some (C', fs) => C' = C ∧ look fs m = none ∧ wa ρ μ1 fun ds μ2 => d (x :: (ds ++ dds)) μ2 P
  | none => False
theorem lmeth {t : TA} (ht : ∀ σ H Q, LA X.K wa σ H Q → t σ H Q) : ∀ σ H Q, LE X.K (wMeth C m d dds wo wa) σ H Q → (∀ G, Rps X.K G dds dvs) → tMeth C m (LSp X.K d) dvs E0 (LE X.K wo) t σ H Q := fun σ H Q ⟨ρ, μ, G, P, hr, hm, hw, htl⟩ hdd =>
  ⟨ρ, μ, G, _, hr, hm, hw, fun x μ1 v1 H1 G1 p1 e1 m1 r1 => by
    split at p1
    · rename_i C' fs q
      obtain ⟨rfl, hl, p⟩ := p1
      obtain ⟨a, dx, vs, rfl, h1, k1, r2⟩ := insD_ok q m1 r1
      refine ⟨a, dx, vs, rfl, h1, by rw [lookup_look]; exact (look_keys (k := m) k1 r2).2 hl, ht σ H1 _ ⟨ρ, μ1, G1, _, hr.mono e1, m1, p, fun ds μ2 vs2 H2 G2 p2 e2 m2 r3 => ⟨x :: (ds ++ dds), μ2, G2, P, .cons (r1.mono e2) (r3.append (hdd G2)), m2, p2, htl.mono (e1.trans e2)⟩⟩⟩
    · exact p1.elim⟩
theorem de_meth {pl : Sem Bool} (ho : DE X o wo) (c : Cls X.K C) (hm : Meth X.K C m f) (F : FnOk X.prog X.w X.K X.mg X.base CX0 k f fd ps (LSp X.K d)) (hr : Room k X.A) (hb : Binds X.K fd ps ds) (hd : Vals dvs ds) (hdd : ∀ G, Rps X.K G dds dvs) (ha : DA X (e :: es) wa)
    (hst : starEach (e :: es) X.env = (false, eval e X.env) :: starEach es X.env := by rfl) (hpl : (backTo pos (starEach es X.env)).any (·.1) = false := by rfl)
    (ht : eval (.Call (.Attribute o m apos) (e :: es) [] pos) X.env = (do
      let ov ← eval o X.env
      standAt apos.atName
      let (f, first) ← holding [ov] (getMethod ov m pl)
      callWith pos f first (backTo pos (starEach (e :: es) X.env)) (backToKw pos (keywordEach [] X.env))) := by rfl) : DE X (.Call (.Attribute o m apos) (e :: es) [] pos) (wMeth C m d dds wo wa) :=
  ⟨wkE (pe_meth (pl := pl) ho.p c hm F hr hb hd pass0 ha.p hst hpl ht) fun σ H Q h => lmeth (fun σ H Q h => h) σ H Q h hdd⟩
theorem de_meth0 {pl : Sem Bool} (ho : DE X o wo) (c : Cls X.K C) (hm : Meth X.K C m f) (F : FnOk X.prog X.w X.K X.mg X.base CX0 k f fd ps (LSp X.K d)) (hr : Room k X.A) (hb : Binds X.K fd ps ds) (hd : Vals dvs ds) (hdd : ∀ G, Rps X.K G dds dvs)
    (ht : eval (.Call (.Attribute o m apos) [] [] pos) X.env = (do
      let ov ← eval o X.env
      standAt apos.atName
      let (f, first) ← holding [ov] (getMethod ov m pl)
      callWith pos f first (backTo pos (starEach [] X.env)) (backToKw pos (keywordEach [] X.env))) := by rfl) : DE X (.Call (.Attribute o m apos) [] [] pos) (wMeth C m d dds wo wANil) :=
  ⟨wkE (pe_meth0 (pl := pl) ho.p c hm F hr hb hd pass0 ht) fun σ H Q h => lmeth (fun σ H Q ⟨ρ, μ, G, P, hr, hm, hw, ht⟩ => ht _ _ _ _ _ hw (Ex.refl _) hm .nil) σ H Q h hdd⟩
/-- C(..): frozen behind __init__, or not -/
def wMake (C : Addr) (d : DSp) (dds : List D) (wa : WA) : WE := fun ρ μ P => wa ρ μ fun ds μ1 => ∀ x, μ1 x = none → d (.ref x :: (ds ++ dds)) (setS μ1 x (.ins C [])) fun r μ2 => r = .non ∧ ∃ fs, μ2 x = some (.ins C fs) ∧ P (.obj C fs) (delS μ2 x)
def wMakeM (C : Addr) (d : DSp) (dds : List D) (wa : WA) : WE := fun ρ μ P => wa ρ μ fun ds μ1 => ∀ x, μ1 x = none → d (.ref x :: (ds ++ dds)) (setS μ1 x (.ins C [])) fun r μ2 => r = .non ∧ P (.ref x) μ2
theorem made_sm {K : PySem.W.Frag} {μ : Store} {G H : Hp} {x dx : Addr} (m : Sm K μ G H) (hx : H x = none) (hd : H dx = none) (hn : dx ≠ x) : Sm K (setS μ x (.ins C [])) G (upd (upd H dx (.own x)) x (.ins C dx [])) :=
  (m.hidden hd _).write (m.ex.nn hx) ⟨dx, [], upd_same, rfl, .nil⟩
theorem lmake {t : TA} (ht : ∀ σ H Q, LA X.K wa σ H Q → t σ H Q) : ∀ σ H Q, LE X.K (wMake C d dds wa) σ H Q → (∀ G, Rps X.K G dds dvs) → tMake C (LSp X.K d) dvs E0 t σ H Q := fun σ H Q ⟨ρ, μ, G, P, hr, hm, hw, htl⟩ hdd =>
  ht σ H _ ⟨ρ, μ, G, _, hr, hm, hw, fun ds μ1 vs H1 G1 p1 e1 m1 r1 => fun x dx hx hdx hn => ⟨_, _, G1, _, .cons (.ref x) (r1.append (hdd G1)), made_sm m1 hx hdx hn, p1 x (m1.nn hx), fun r μ2 v H2 G2 ⟨er, fs, q, p⟩ e2 m2 rv => by
    subst er
    cases rv
    obtain ⟨G3, m3, e3, r3⟩ := m2.freezeI q
    exact ⟨rfl, htl _ _ _ _ _ p ((e1.trans e2).trans e3) m3 r3⟩⟩⟩
theorem lmakeM {t : TA} (ht : ∀ σ H Q, LA X.K wa σ H Q → t σ H Q) : ∀ σ H Q, LE X.K (wMakeM C d dds wa) σ H Q → (∀ G, Rps X.K G dds dvs) → tMake C (LSp X.K d) dvs E0 t σ H Q := fun σ H Q ⟨ρ, μ, G, P, hr, hm, hw, htl⟩ hdd =>
  ht σ H _ ⟨ρ, μ, G, _, hr, hm, hw, fun ds μ1 vs H1 G1 p1 e1 m1 r1 => fun x dx hx hdx hn => ⟨_, _, G1, _, .cons (.ref x) (r1.append (hdd G1)), made_sm m1 hx hdx hn, p1 x (m1.nn hx), fun r μ2 v H2 G2 ⟨er, p⟩ e2 m2 rv => by
    subst er
    cases rv
    exact ⟨rfl, htl _ _ _ _ _ p (e1.trans e2) m2 (.ref x)⟩⟩⟩
theorem de_make (M : Mk X.K C f) (F : FnOk X.prog X.w X.K X.mg X.base CX0 k f fd ps (LSp X.K d)) (hr : Room (k + 1) X.A) (hg : Gl X x) (hm : X.mg x = some (.ref C)) (hb : Binds X.K fd ps ds) (hd : Vals dvs ds) (hdd : ∀ G, Rps X.K G dds dvs) (ha : DA X (e :: es) wa)
    (hdb : (x == ("__debug__" : Str)) = false := by decide) (he : starEach (e :: es) X.env = (false, eval e X.env) :: starEach es X.env := by rfl) (hpl : (backTo pos (starEach es X.env)).any (·.1) = false := by rfl) : DE X (.Call (.Name x p) (e :: es) [] pos) (wMake C d dds wa) :=
  ⟨wkE (pe_make M F hr hg hm hb hd pass0 ha.p hdb he hpl) fun σ H Q h => lmake (fun σ H Q h => h) σ H Q h hdd⟩
theorem de_makeM (M : Mk X.K C f) (F : FnOk X.prog X.w X.K X.mg X.base CX0 k f fd ps (LSp X.K d)) (hr : Room (k + 1) X.A) (hg : Gl X x) (hm : X.mg x = some (.ref C)) (hb : Binds X.K fd ps ds) (hd : Vals dvs ds) (hdd : ∀ G, Rps X.K G dds dvs) (ha : DA X (e :: es) wa)
    (hdb : (x == ("__debug__" : Str)) = false := by decide) (he : starEach (e :: es) X.env = (false, eval e X.env) :: starEach es X.env := by rfl) (hpl : (backTo pos (starEach es X.env)).any (·.1) = false := by rfl) : DE X (.Call (.Name x p) (e :: es) [] pos) (wMakeM C d dds wa) :=
  ⟨wkE (pe_make M F hr hg hm hb hd pass0 ha.p hdb he hpl) fun σ H Q h => lmakeM (fun σ H Q h => h) σ H Q h hdd⟩
theorem de_make0 (M : Mk X.K C f) (F : FnOk X.prog X.w X.K X.mg X.base CX0 k f fd ps (LSp X.K d)) (hr : Room (k + 1) X.A) (hg : Gl X x) (hm : X.mg x = some (.ref C)) (hb : Binds X.K fd ps ds) (hd : Vals dvs ds) (hdd : ∀ G, Rps X.K G dds dvs)
    (hdb : (x == ("__debug__" : Str)) = false := by decide) : DE X (.Call (.Name x p) [] [] pos) (wMake C d dds wANil) :=
  ⟨wkE (pe_make0 M F hr hg hm hb hd pass0 hdb) fun σ H Q h => lmake (fun σ H Q ⟨ρ, μ, G, P, hr, hm, hw, ht⟩ => ht _ _ _ _ _ hw (Ex.refl _) hm .nil) σ H Q h hdd⟩
theorem de_make0M (M : Mk X.K C f) (F : FnOk X.prog X.w X.K X.mg X.base CX0 k f fd ps (LSp X.K d)) (hr : Room (k + 1) X.A) (hg : Gl X x) (hm : X.mg x = some (.ref C)) (hb : Binds X.K fd ps ds) (hd : Vals dvs ds) (hdd : ∀ G, Rps X.K G dds dvs)
    (hdb : (x == ("__debug__" : Str)) = false := by decide) : DE X (.Call (.Name x p) [] [] pos) (wMakeM C d dds wANil) :=
  ⟨wkE (pe_make0 M F hr hg hm hb hd pass0 hdb) fun σ H Q h => lmakeM (fun σ H Q ⟨ρ, μ, G, P, hr, hm, hw, ht⟩ => ht _ _ _ _ _ hw (Ex.refl _) hm .nil) σ H Q h hdd⟩
end
end Dl
namespace Dl
open PySem L2
/-! ### defs of the text -/
structure DCal (P : Program) (w : World) (K : PySem.W.Frag) (mg : Str → Option Value) (base : Heap) (k : Nat) (x : Str) (d : DSp) (dds : List D) : Prop where
  ex : ∃ (f : Addr) (fd : FuncData) (ps : List Str) (ds : List Value) (dvs : List V), FnOk P w K mg base CX0 k f fd ps (LSp K d) ∧ mg x = some (.ref f) ∧ PySem.W.keepIn K (.ref f) = true ∧ Binds K fd ps ds ∧ Vals dvs ds ∧ ∀ G, Rps K G dds dvs
/-- where a def of the top stands -/
structure DefAt (K : PySem.W.Frag) (mg : Str → Option Value) (x : Str) (st : Stmt) : Prop where
  ex : ∃ (f : Addr) (fd : FuncData), Fun K x x st f fd ∧ mg x = some (.ref f)
section
variable {P : Program} {w : World} {K : PySem.W.Frag} {mg : Str → Option Value} {base : Heap}
theorem DefAt.cal {x : Str} {st : Stmt} {N ps : List Str} {k : Nat} {d : DSp} {ws : WS} (D : DefAt K mg x st) (S : FnScope N ps (defScope st)) (len : ∀ ds μ Q, d ds μ Q → ds.length = ps.length)
    (hb : ∀ {f : Addr} (cdv : Value) (A : Around) (outer : List PySem.Env) (s : Shared) (H : Hp) (E : XK), Room k (A.deeper (PyProof.Rows.envOfC x (defScope st) s.heap.objs.size f cdv)) → DSs (cxOf CX0 P w K mg base N x (defScope st) f cdv A outer s H E).nox (defBody st) ws)
    (ok : ∀ ds μ Q, d ds μ Q → ws { nx := fun _ μ' => ∃ μ2, Sub μ2 μ' ∧ Q .non μ2, rt := Q } (startD N ds) μ)
    (h : ∀ (kV doc pm : Value) (an : Option Addr) (cdv ct : Value) (us : List Value), us.length = ps.length → bindArgs (PySem.W.fnOf x x (defArgs st) (defBody st) (defScope st) .none kV doc pm an cdv ct) ⟨us, []⟩ = pure (ps.zip us)) : DCal P w K mg base (k + 1) x d [] := by
  obtain ⟨f, fd, F, m⟩ := D.ex
  exact ⟨f, fd, ps, [], [], fn_d F S len (hb (f := f)) ok, m, F.kp, F.binds h, .nil, fun _ => .nil⟩
end
section
variable {X : Cx} {j k : Nat} {x : Str} {d : DSp} {dds : List D} {p pos : Pos} {e : Expr} {es : List Expr} {wa : WA}
theorem de_cal (C : DCal X.prog X.w X.K X.mg X.base k x d dds) (hr : Room j X.A) (hk : k ≤ j) (hg : Gl X x) (ha : DA X (e :: es) wa) (hdb : (x == ("__debug__" : Str)) = false := by decide)
    (he : starEach (e :: es) X.env = (false, eval e X.env) :: starEach es X.env := by rfl) (hpl : (backTo pos (starEach es X.env)).any (·.1) = false := by rfl) : DE X (.Call (.Name x p) (e :: es) [] pos) (wCall d dds wa) := by
  obtain ⟨f, fd, ps, ds, dvs, F, m, kp, b, vd, rd⟩ := C.ex
  exact de_call F (hr.mono hk) hg m kp b vd rd ha hdb he hpl
theorem de_cal0 (C : DCal X.prog X.w X.K X.mg X.base k x d dds) (hr : Room j X.A) (hk : k ≤ j) (hg : Gl X x) (hdb : (x == ("__debug__" : Str)) = false := by decide) : DE X (.Call (.Name x p) [] [] pos) (wCall d dds wANil) := by
  obtain ⟨f, fd, ps, ds, dvs, F, m, kp, b, vd, rd⟩ := C.ex
  exact de_call0 F (hr.mono hk) hg m kp b vd rd hdb
end
end Dl

namespace Dl
open PySem L2
open PyProof.Rows
/-! ### enumerate over a text, over a tuple -/
def IteS (s : Str) : It := ⟨fun i _ => i < s.cps.size, fun i H v H' => ∃ T c, v = .ref T ∧ H T = none ∧ H' = upd H T (.tup [.int (i : Nat), .str ⟨#[c]⟩]) ∧ s.cps[i]? = some c, fun i _ => s.cps.size ≤ i⟩
def IteT (K : PySem.W.Frag) (a : Addr) : It :=
  ⟨fun i H => ∃ (xs : List V) (x : V), SqT K H a xs ∧ xs[i]? = some x, fun i H v H' => ∃ T x, v = .ref T ∧ H T = none ∧ H' = upd H T (.tup [.int (i : Nat), x]) ∧ ∀ xs, SqT K H a xs → xs[i]? = some x, fun i H => ∃ xs : List V, SqT K H a xs ∧ xs.length ≤ i⟩
theorem two_fits : (2 : Nat) ≤ sizeLine := by decide
theorem turn_enumS {P : Program} {w : World} {K : PySem.W.Frag} {elts : List Expr} {kk : Nat} {tpos : Pos} (e it : Addr) (x : Str) (t : Tok) :
    Turn P w K (.Tuple elts kk tpos) (IteS x) [e, it] e (fun i h => (∃ old, IsEnum h e it ((i : Nat) : Int) old) ∧ h.IsStrIter it (strIterType x) x t i ∧ e ≠ it) where
  mem := by simp
  obj := fun i h st b hb => by
    obtain ⟨⟨old, he⟩, ⟨o, ho, hc, hd⟩, _⟩ := st
    rcases (show b = e ∨ b = it by simpa using hb) with z | z
    · rw [z]; exact ⟨_, he, fun v q => nomatch q⟩
    · rw [z]; exact ⟨o, ho, fun v q => by rw [hd] at q; cases q⟩
  keep := fun i h h' st k => let ⟨⟨old, he⟩, ⟨o, ho, r⟩, hne⟩ := st; ⟨⟨old, k e (by simp) _ he⟩, ⟨o, k it (by simp) o ho, r⟩, hne⟩
  item := by
    intro X hP hw hK hc i pins s σ H E I hf st hg
    subst hP hw hK
    obtain ⟨⟨old, he⟩, hit, hne⟩ := st
    have hg' : i < x.cps.size := hg
    have hel : e < s.heap.objs.size := Heap.lt_size he
    have hil : it < s.heap.objs.size := by obtain ⟨_, q, _⟩ := hit; exact Heap.lt_size q
    have DD : Draws X.prog X.w X.A.in1 it [it] x.cps.size (fun i v => ∃ c u, x.cps[i]? = some c ∧ v = .str ⟨#[c]⟩ u) (fun i h => h.IsStrIter it (strIterType x) x t i) := Draws.text (A := X.A.in1) (show X.A.in1.handled = none from I.ok.hd hc) it x t
    refine wpAny_pyNext_enum_itemD DD he hit hg' hne (by simpa using hne) fun u h' tk hx ho hit' hT hsz hk => ?_
    obtain ⟨c, tc, hcx, rfl⟩ := hx
    refine ⟨_, rfl, wpAny_letOwnedTupleGo_enum (s := { s with heap := h', toks := tk + 1 }) ho fun h'' he' sb => ?_⟩
    have hT2 : h''.get? s.heap.objs.size = some { cls := .type "tuple", data := .seq #[.int i tk, .str ⟨#[c]⟩ tc] } := (sb.2 _ (Nat.ne_of_gt hel)).trans hT
    have new : ObjOk X.prog X.w (upd H s.heap.objs.size (.tup [.int (i : Nat), .str ⟨#[c]⟩])) h'' s.heap.objs.size (.tup [.int (i : Nat), .str ⟨#[c]⟩]) :=
      ⟨two_fits, [.int i tk, .str ⟨#[c]⟩ tc], .cons ⟨_, rfl⟩ (.cons ⟨_, rfl⟩ .nil), ⟨_, hT2, rfl, _, rfl⟩⟩
    have I1 : Inv X pins σ (upd H s.heap.objs.size (.tup [.int (i : Nat), .str ⟨#[c]⟩])) { s with heap := h'', toks := tk + 1 } :=
      I.turnedNew (ch := [e, it]) (fun b ob hb q => (sb.2 b (fun z => hb (by simp [z]))).trans (hk b ob (fun z => hb (by simp [z])) (fun z => hb (by simp [z])) q)) hf (Nat.le_refl _) new
    refine ⟨.ref s.heap.objs.size, _, I1, rfl, ⟨_, c, rfl, I.hok.fresh (Nat.le_refl _), rfl, hcx⟩, ⟨⟨.str ⟨#[c]⟩ tc, ?_⟩, ?_, hne⟩, fun b hb => ?_⟩
    · have e1 : ((i + 1 : Nat) : Int) = (i : Int) + 1 := by omega
      rw [e1]; exact he'
    · obtain ⟨o, ho2, r⟩ := hit'
      exact ⟨o, (sb.2 it (Ne.symm hne)).trans ho2, r⟩
    · have hb' : b < s.heap.objs.size := by
        rcases (show b = e ∨ b = it by simpa using hb) with z | z
        · rw [z]; exact hel
        · rw [z]; exact hil
      rw [upd_ne (Nat.ne_of_lt hb')]
      exact (hf b hb).1
  done := by
    intro X hP hw hK hc i pins s σ H E I hf st hg
    subst hP hw hK
    obtain ⟨⟨old, he⟩, hit, hne⟩ := st
    have hg' : x.cps.size ≤ i := hg
    have hx : x.cps[i]? = none := Array.getElem?_eq_none hg'
    obtain ⟨f0, f1, f2, f3, f4, f5⟩ := hf it (by simp)
    have hh : X.A.in1.handled = none := I.ok.hd hc
    have DD : Draws X.prog X.w X.A.in1 it [it] i (fun _ _ => True) (fun j h => j = i ∧ h.IsStrIter it (strIterType x) x t i) := by
      refine ⟨fun _ _ st => let ⟨_, o, ho, _⟩ := st; ⟨o, ho⟩, fun _ _ _ st hk => let ⟨e, o, ho, r⟩ := st; ⟨e, o, hk it (by simp) o ho, r⟩, fun j s Q E hj st hQ => absurd st.1 (Nat.ne_of_lt hj), fun s Q E st hE => ?_⟩
      obtain ⟨_, st⟩ := st
      cases ha : x.cps.all (· < 128)
      · simp only [strIterType, ha, Bool.false_eq_true, if_false] at st
        exact wpAny_nextOf_wide_end hh st hx hE
      · simp only [strIterType, ha, if_true] at st
        exact wpAny_nextOf_ascii_end hh st hx hE
    exact wpAny_pyNext_enum_endD DD he ⟨rfl, hit⟩ fun h' eb => ⟨rfl, I.turned (t' := s.toks) (fun b o hb q => eb b o hb q) f0 f1 f3 f4 f5⟩
  self := fun A i s Q E st h => let ⟨⟨_, he⟩, _⟩ := st; wpAny_pyIter_enum he h

theorem turn_enumT {P : Program} {w : World} {K : PySem.W.Frag} {elts : List Expr} {kk : Nat} {tpos : Pos} (a e it : Addr) :
    Turn P w K (.Tuple elts kk tpos) (IteT K a) [e, it] e (fun i h => (∃ old, IsEnum h e it ((i : Nat) : Int) old) ∧ h.IsTupleIter it a i ∧ e ≠ it ∧ a ≠ it) where
  mem := by simp
  obj := fun i h st b hb => by
    obtain ⟨⟨old, he⟩, ⟨o, ho, hc, hd⟩, _⟩ := st
    rcases (show b = e ∨ b = it by simpa using hb) with z | z
    · rw [z]; exact ⟨_, he, fun v q => nomatch q⟩
    · rw [z]; exact ⟨o, ho, fun v q => by rw [hd] at q; cases q⟩
  keep := fun i h h' st k => let ⟨⟨old, he⟩, hi, hne⟩ := st; ⟨⟨old, k e (by simp) _ he⟩, hi.at fun o q => k it (by simp) o q, hne⟩
  item := by
    intro X hP hw hK hc i pins s σ H E I hf st hg
    subst hP hw hK
    obtain ⟨⟨old, he⟩, hit, hne, hna⟩ := st
    obtain ⟨xs, x, hq, hx⟩ := hg
    obtain ⟨its, rv, p, hz⟩ := I.tuple hq
    obtain ⟨u, hu, ru⟩ := rv.get hx
    have hel : e < s.heap.objs.size := Heap.lt_size he
    have hil : it < s.heap.objs.size := by obtain ⟨_, q, _⟩ := hit; exact Heap.lt_size q
    have hlt : i < its.toArray.size := by
      rcases Nat.lt_or_ge i its.length with z | z
      · simpa using z
      · rw [List.getElem?_eq_none z] at hu; cases hu
    have hea : e ≠ a := by
      rintro rfl
      obtain ⟨o, ho, hcl, _⟩ := p
      rw [he] at ho
      cases ho
      exact absurd hcl (by intro z; exact absurd (Value.type.inj z) (by decide))
    have DD : Draws X.prog X.w X.A.in1 it [it, a] its.toArray.size (fun i v => its.toArray[i]? = some v) (fun i h => h.IsTupleIter it a i ∧ h.IsTuple a its.toArray) := Draws.tuple (A := X.A.in1) (show X.A.in1.handled = none from I.ok.hd hc) it a hna its.toArray
    refine wpAny_pyNext_enum_itemD DD he ⟨hit, p⟩ hlt hne (by simp [hne, hea]) fun u2 h' tk hx2 ho hit' hT hsz hk => ?_
    have eu : u2 = u := by
      have q1 : its.toArray[i]? = some u2 := hx2
      rw [List.getElem?_toArray, hu] at q1
      cases q1
      rfl
    subst eu
    refine ⟨_, rfl, wpAny_letOwnedTupleGo_enum (s := { s with heap := h', toks := tk + 1 }) ho fun h'' he' sb => ?_⟩
    have hT2 : h''.get? s.heap.objs.size = some { cls := .type "tuple", data := .seq #[.int i tk, u2] } := (sb.2 _ (Nat.ne_of_gt hel)).trans hT
    have new : ObjOk X.prog X.w (upd H s.heap.objs.size (.tup [.int (i : Nat), x])) h'' s.heap.objs.size (.tup [.int (i : Nat), x]) :=
      ⟨two_fits, [.int i tk, u2], .cons ⟨_, rfl⟩ (.cons ru .nil), ⟨_, hT2, rfl, _, rfl⟩⟩
    have I1 : Inv X pins σ (upd H s.heap.objs.size (.tup [.int (i : Nat), x])) { s with heap := h'', toks := tk + 1 } :=
      I.turnedNew (ch := [e, it]) (fun b ob hb q => (sb.2 b (fun z => hb (by simp [z]))).trans (hk b ob (fun z => hb (by simp [z])) (fun z => hb (by simp [z])) q)) hf (Nat.le_refl _) new
    refine ⟨.ref s.heap.objs.size, _, I1, rfl, ⟨_, x, rfl, I.hok.fresh (Nat.le_refl _), rfl, fun ys hy => by rw [I.tuple_inj hy hq]; exact hx⟩, ⟨⟨u2, ?_⟩, hit'.1.at fun o q => (sb.2 it (Ne.symm hne)).trans q, hne, hna⟩, fun b hb => ?_⟩
    · have e1 : ((i + 1 : Nat) : Int) = (i : Int) + 1 := by omega
      rw [e1]; exact he'
    · have hb' : b < s.heap.objs.size := by
        rcases (show b = e ∨ b = it by simpa using hb) with z | z
        · rw [z]; exact hel
        · rw [z]; exact hil
      rw [upd_ne (Nat.ne_of_lt hb')]
      exact (hf b hb).1
  done := by
    intro X hP hw hK hc i pins s σ H E I hf st hg
    subst hP hw hK
    obtain ⟨⟨old, he⟩, hit, hne, hna⟩ := st
    obtain ⟨xs, hq, hx⟩ := hg
    obtain ⟨its, rv, p, hz⟩ := I.tuple hq
    have hl := rv.length
    have hn : its.toArray[i]? = none := by
      rw [List.getElem?_toArray]
      exact List.getElem?_eq_none (by omega)
    obtain ⟨f0, f1, f2, f3, f4, f5⟩ := hf it (by simp)
    have hh : X.A.in1.handled = none := I.ok.hd hc
    have DD : Draws X.prog X.w X.A.in1 it [it, a] i (fun _ _ => True) (fun j h => j = i ∧ h.IsTupleIter it a i ∧ h.IsTuple a its.toArray) := by
      refine ⟨fun _ _ st => let ⟨_, ⟨o, ho, _⟩, _⟩ := st; ⟨o, ho⟩, fun _ _ _ st hk => ⟨st.1, st.2.1.at fun o e => hk it (by simp) o e, st.2.2.at fun o e => hk a (by simp) o e⟩, fun j s Q E hj st hQ => absurd st.1 (Nat.ne_of_lt hj), fun s Q E st hE => ?_⟩
      exact wpAny_nextOf_tuple_end hh st.2.1 st.2.2 hn hE
    exact wpAny_pyNext_enum_endD DD he ⟨rfl, hit, p⟩ fun h' eb => ⟨rfl, I.turned (t' := s.toks) (fun b o hb q => eb b o hb q) f0 f1 f3 f4 f5⟩
  self := fun A i s Q E st h => let ⟨⟨_, he⟩, _⟩ := st; wpAny_pyIter_enum he h
theorem meets_enum1 {v : Value} {o : Obj} {H : Heap → Prop} (B : Begins v o H) :
    Meets (Builtin.«enumerate.__new__» ⟨[.type "enumerate", v], []⟩) (fun _ R s => H s.heap ∧
      R (.ok (.ret (.ref (s.heap.push o).objs.size))) { s with heap := (s.heap.push o).push { cls := .type "enumerate", data := .fields #[.none, .bool false, .ref s.heap.objs.size, rawInt 0, .none, .none] } }) :=
  .of_wp fun prog w A R s h => by
    obtain ⟨hp, g, d, tk, os⟩ := s; obtain ⟨h1, h⟩ := h
    have hsub := sub_enumerate
    have q1 : ∀ {A' : Around} {E : Value → Shared → Prop} {Q : Value → Shared → Prop}, Q (.ref hp.objs.size) ⟨hp.push o, g, d, tk, os⟩ → wpAny (model prog w) A' (pyIter v) Q E ⟨hp, g, d, tk, os⟩ :=
      fun q => B.iter prog w _ _ ⟨hp, g, d, tk, os⟩ _ h1 q
    wp_walk using q1
    refine wpAny_stack_any fun st => wpAny_pure ?_
    split
    · rename_i c _ _ _ _ _
      cases (c == Value.type "enumerate")
      · wp_walk using q1
        exact ⟨_, rfl, h⟩
      · wp_walk using q1
        exact ⟨_, rfl, h⟩
    · wp_walk using q1
      exact ⟨_, rfl, h⟩
theorem call_enumG {prog : Program} {w : World} {A : Around} {E : Value → Shared → Prop} {s : Shared} {v : Value} {o : Obj} {H : Heap → Prop} {Q : Value → Shared → Prop} (B : Begins v o H) (h1 : H s.heap)
    (h : ∀ h', IsEnum h' (s.heap.objs.size + 1) s.heap.objs.size 0 .none → h'.get? s.heap.objs.size = some o →
      (∀ b o, s.heap.get? b = some o → h'.get? b = some o) → Q (.ref (s.heap.objs.size + 1)) { s with heap := h' }) :
    wpAny (model prog w) A (call (.type "enumerate") [v]) Q E s := by
  refine callType_new F.called_enumerate (by decide) (F.typeCall_enumerate_1 _) (F.newCall_enumerate_1 _) (fun obj => F.args_object_init_2 obj _) F.entry_enumerate_new (meets_enum1 B) ⟨h1, ?_⟩
  have hz : (s.heap.push o).objs.size = s.heap.objs.size + 1 := Heap.size_push ..
  show _ ∧ _
  rw [hz]
  have he : IsEnum ((s.heap.push o).push { cls := .type "enumerate", data := .fields #[.none, .bool false, .ref s.heap.objs.size, rawInt 0, .none, .none] }) (s.heap.objs.size + 1) s.heap.objs.size 0 .none := by
    have := Heap.get?_push_size (s.heap.push o) (o := { cls := .type "enumerate", data := .fields #[.none, .bool false, .ref s.heap.objs.size, rawInt 0, .none, .none] }) rfl
    rw [hz] at this; exact this
  exact ⟨⟨_, he, rfl⟩, h _ he (Heap.get?_push_of_some _ (Heap.get?_push_size _ B.free)) fun b o x => Heap.get?_push_of_some _ (Heap.get?_push_of_some _ x)⟩
def iEnum3 (K : PySem.W.Frag) (ta : TA) : TI := fun σ H R => ta σ H fun vs H1 => (∃ a xs, vs = [.ref a] ∧ SqL K H1 a xs ∧ R (Ite K a) H1) ∨ (∃ a xs, vs = [.ref a] ∧ SqT K H1 a xs ∧ R (IteT K a) H1) ∨ ∃ s, vs = [.str s] ∧ R (IteS s) H1
theorem pi_enum3 {X : Cx} {e : Expr} {ta : TA} {p pos tpos : Pos} {elts : List Expr} {kk : Nat} (hg : Gl X "enumerate") (hm : X.mg "enumerate" = none) (ha : PA X [e] ta) (hs : starEach [e] X.env = [(false, eval e X.env)] := by rfl) :
    PI X (.Tuple elts kk tpos) (.Call (.Name "enumerate" p) [e] [] pos) (iEnum3 X.K ta) := by
  refine ⟨fun pins s σ H R I h => ?_⟩
  refine Call_ (ld_blt I hg hm boot_enumerate (PyProof.Rows.callWith_type1 (thn (ha.run pos pins s σ H _ I h) fun us s1 ⟨vs, H1, I1, r1, q1⟩ => ?_) hs rfl))
  have fresh : ∀ b ∈ [s1.heap.objs.size + 1, s1.heap.objs.size], FpOk X pins H1 b := fun b hb => by
    have hle : s1.heap.objs.size ≤ b := by
      rcases (show b = s1.heap.objs.size + 1 ∨ b = s1.heap.objs.size by simpa using hb) with z | z
      · rw [z]; exact Nat.le_add_right _ _
      · rw [z]; exact Nat.le_refl _
    exact I1.fpOk hle (I1.hok.fresh hle)
  rcases q1 with ⟨a, xs, ex, hq, q⟩ | ⟨a, xs, ex, hq, q⟩ | ⟨x, ex, q⟩
  · subst ex
    cases r1 with
    | cons r rr =>
      cases rr
      cases r
      obtain ⟨its, rv, p', hz⟩ := I1.list hq
      refine call_enumerate_list p'.isList fun h' he hit hsz hk => wpAny_pyIter_enum he ?_
      exact ⟨s1.heap.objs.size + 1, [s1.heap.objs.size + 1, s1.heap.objs.size], _, _, H1, rfl, I1.kept (t' := s1.toks) hk, turn_enum a (s1.heap.objs.size + 1) s1.heap.objs.size, ⟨⟨.none, he⟩, hit, Nat.succ_ne_self _⟩, fresh, q⟩
  · subst ex
    cases r1 with
    | cons r rr =>
      cases rr
      cases r
      obtain ⟨its, rv, p', hz⟩ := I1.tuple hq
      have hlt : a < s1.heap.objs.size := by obtain ⟨_, e, _⟩ := p'; exact Heap.lt_size e
      refine call_enumG (begins_tuple a its.toArray) p' fun h' he hit hk => wpAny_pyIter_enum he ?_
      exact ⟨s1.heap.objs.size + 1, [s1.heap.objs.size + 1, s1.heap.objs.size], _, _, H1, rfl, I1.kept (t' := s1.toks) hk, turn_enumT a (s1.heap.objs.size + 1) s1.heap.objs.size, ⟨⟨.none, he⟩, ⟨_, hit, rfl, rfl⟩, Nat.succ_ne_self _, Nat.ne_of_lt hlt⟩, fresh, q⟩
  · subst ex
    cases r1 with
    | cons r rr =>
      cases rr
      obtain ⟨t, rfl⟩ := r
      refine call_enumG (begins_text x t) trivial fun h' he hit hk => wpAny_pyIter_enum he ?_
      exact ⟨s1.heap.objs.size + 1, [s1.heap.objs.size + 1, s1.heap.objs.size], _, _, H1, rfl, I1.kept (t' := s1.toks) hk, turn_enumS (s1.heap.objs.size + 1) s1.heap.objs.size x t, ⟨⟨.none, he⟩, ⟨_, hit, rfl, rfl⟩, Nat.succ_ne_self _⟩, fresh, q⟩
/-- over data -/
def enumD (xs : List D) : List D := xs.zipIdx.map fun p => .tup [.int (p.2 : Nat), p.1]
theorem enumD_length {xs : List D} : (enumD xs).length = xs.length := by simp [enumD]
theorem enumD_get {xs : List D} {i : Nat} {d : D} (h : xs[i]? = some d) : (enumD xs)[i]? = some (.tup [.int (i : Nat), d]) := by
  unfold enumD
  rw [List.getElem?_map, List.getElem?_zipIdx, h]
  simp
theorem new_pair {K : PySem.W.Frag} {μ : Store} {G H : Hp} {T : Addr} {i : Nat} {d : D} {x : V} (m : Sm K μ G H) (hT : H T = none) (r : Rp K G d x) :
    ∃ G3, Ex G G3 ∧ Sm K μ G3 (upd H T (.tup [.int (i : Nat), x])) ∧ Rp K G3 (.tup [.int (i : Nat), d]) (.ref T) := by
  obtain ⟨m2, e2⟩ := m.frozen hT (.tup [.int (i : Nat), x])
  exact ⟨_, e2, m2, .tup (.inl upd_same) (.cons (.int _) (.cons (r.mono e2) .nil))⟩
theorem walk_es {K : PySem.W.Frag} {G : Hp} {s : Str} : Walk K G (IteS s) (enumD (chars s)) := fun i H G2 μ e m => by
  have hl : (enumD (chars s)).length = s.cps.size := by rw [enumD_length]; simp [chars]
  rw [hl]
  refine ⟨fun hi => ⟨hi, fun x H' y => ?_⟩, fun hi => hi⟩
  obtain ⟨T, c, rfl, hT, rfl, hc⟩ := y
  obtain ⟨G3, e3, m3, r3⟩ := new_pair (i := i) m hT (Rp.str (K := K) (G := G2) ⟨#[c]⟩)
  exact ⟨G3, _, enumD_get (by simp [chars, hc]), e3, m3, r3⟩
theorem walk_et {K : PySem.W.Frag} {G : Hp} {a : Addr} {xs : List V} {ds : List D} (h : TupAt K G a xs) (r : Rps K G ds xs) : Walk K G (IteT K a) (enumD ds) := fun i H G2 μ e m => by
  have sq := h.sq (e.trans m.ex)
  rw [enumD_length]
  refine ⟨fun hi => ⟨⟨xs, xs[i]'(by rw [← r.length]; exact hi), sq, by simp [← r.length, hi]⟩, fun x H' y => ?_⟩, fun hi => ⟨xs, sq, by rw [← r.length]; exact hi⟩⟩
  obtain ⟨T, x, rfl, hT, rfl, y⟩ := y
  obtain ⟨d, hd, rd⟩ := r.getR (y xs sq)
  obtain ⟨G3, e3, m3, r3⟩ := new_pair (i := i) m hT (rd.mono e)
  exact ⟨G3, _, enumD_get hd, e3, m3, r3⟩
theorem walk_el {K : PySem.W.Frag} {G : Hp} {a : Addr} {xs : List V} {ds : List D} (h : ∀ H, Ex G H → SqL K H a xs) (r : Rps K G ds xs) : Walk K G (Ite K a) (enumD ds) := fun i H G2 μ e m => by
  have sq := h H (e.trans m.ex)
  rw [enumD_length]
  refine ⟨fun hi => ⟨⟨xs, xs[i]'(by rw [← r.length]; exact hi), sq, by simp [← r.length, hi]⟩, fun x H' y => ?_⟩, fun hi => ⟨xs, sq, by rw [← r.length]; exact hi⟩⟩
  obtain ⟨T, x, rfl, hT, rfl, y⟩ := y
  obtain ⟨d, hd, rd⟩ := r.getR (y xs sq)
  obtain ⟨G3, e3, m3, r3⟩ := new_pair (i := i) m hT (rd.mono e)
  exact ⟨G3, _, enumD_get hd, e3, m3, r3⟩
def wiEnum (we : WE) : WI := fun ρ μ P => we ρ μ fun d μ1 => match itemsD d with | some xs => P (enumD xs) μ1 | none => False
theorem di_enum {X : Cx} {e : Expr} {we : WE} {p pos tpos : Pos} {elts : List Expr} {kk : Nat} (hg : Gl X "enumerate") (hm : X.mg "enumerate" = none) (h : DE X e we) (hs : starEach [e] X.env = [(false, eval e X.env)] := by rfl) :
    DI X (.Tuple elts kk tpos) (.Call (.Name "enumerate" p) [e] [] pos) (wiEnum we) :=
  ⟨wkI (pi_enum3 hg hm (da_cons h da_nil hs).p hs) fun σ H R ⟨ρ, μ, G, P, he, hm, hw, ht⟩ =>
  ⟨ρ, μ, G, fun ds μ1 => match ds with | [d] => (match itemsD d with | some xs => P (enumD xs) μ1 | none => False) | _ => False, he, hm, hw, fun ds μ1 vs H1 G1 p e m r => by
    match ds, r, p with
    | [d], .cons r .nil, p =>
    cases r with
    | lst h1 r1 => exact .inl ⟨_, _, rfl, lst_sq m.ex h1, ht _ _ _ _ _ p e m (walk_el (fun H' e' => lst_sq e' h1) r1)⟩
    | scr h1 r1 => exact .inl ⟨_, _, rfl, h1.sq m.ex, ht _ _ _ _ _ p e m (walk_el (fun H' e' => h1.sq e') r1)⟩
    | tup h1 r1 => exact .inr (.inl ⟨_, _, rfl, h1.sq m.ex, ht _ _ _ _ _ p e m (walk_et h1 r1)⟩)
    | str s => exact .inr (.inr ⟨s, rfl, ht _ _ _ _ _ p e m walk_es⟩)
    | _ => exact p.elim⟩⟩
end Dl

namespace Dl
open PySem L2
section
variable {X : Cx} {a b : Expr} {wa wb : WE} {pos : Pos}
/-! ### minus -/
def wNeg (w : WE) : WE := fun ρ μ P => w ρ μ fun d μ1 => match d with | .int i => P (.int (-i)) μ1 | _ => False
theorem de_neg (h : DE X a wa) : DE X (.UnaryOp .USub a pos) (wNeg wa) := ⟨wkE (pe_un un_neg h.p) fun σ H Q ⟨ρ, μ, G, P, he, hm, hw, ht⟩ => ⟨ρ, μ, G, _, he, hm, hw, fun d μ1 v H1 G1 p e m r => by
  cases d with
  | int i => cases r; exact ⟨i, rfl, ht _ _ _ _ _ p e m (.int _)⟩
  | _ => exact p.elim⟩⟩
/-! ### names of the top that hold a plain value -/
theorem de_g {x : Str} {p : Pos} {v : Value} {x' : V} {d : D} (hm : X.mg x = some v) (hr : RelV x' v) (h : PE X (.Name x p) (tC x')) (r : ∀ G, Rp X.K G d x') : DE X (.Name x p) (wC d) := de_c h r
/-! ### is, is not: None -/
def oIs : OD := fun x y μ P => match y with
  | .non => P (.bl (match x with | .non => true | _ => false)) μ
  | .bl b => (match x with | .bl a => P (.bl (decide (a = b))) μ | _ => False)
  | _ => False
def oIsNot : OD := fun x y μ P => match y with
  | .non => P (.bl (match x with | .non => false | _ => true)) μ
  | .bl b => (match x with | .bl a => P (.bl (!decide (a = b))) μ | _ => False)
  | _ => False
theorem isn_ok {K : PySem.W.Frag} {G : Hp} {x : D} {v : V} (r : Rp K G x v) : decide (v = .non) = (match x with | .non => true | _ => false) := by
  cases r <;> simp
theorem os_is : OpS X (compareOp .Is) oIs := ⟨_, op_isN.or op_isBl, fun {x y μ P G H v u Q} h m rx ry t => by
  unfold oIs at h
  split at h
  · cases ry
    refine .inl ⟨rfl, ?_⟩
    rw [isn_ok rx]
    cases x <;> exact t _ _ _ _ _ h (Ex.refl _) m (.bl _)
  · split at h
    · cases rx; cases ry
      exact .inr ⟨_, _, rfl, rfl, t _ _ _ _ _ h (Ex.refl _) m (.bl _)⟩
    · exact h.elim
  · exact h.elim⟩
theorem os_isNot : OpS X (compareOp .IsNot) oIsNot := ⟨_, op_notN.or op_notBl, fun {x y μ P G H v u Q} h m rx ry t => by
  unfold oIsNot at h
  split at h
  · cases ry
    refine .inl ⟨rfl, ?_⟩
    rw [isn_ok rx]
    cases x <;> exact t _ _ _ _ _ h (Ex.refl _) m (.bl _)
  · split at h
    · cases rx; cases ry
      exact .inr ⟨_, _, rfl, rfl, t _ _ _ _ _ h (Ex.refl _) m (.bl _)⟩
    · exact h.elim
  · exact h.elim⟩
/-! ### in: over flat values, of texts -/
def flatD : D → Bool
  | .non => true | .bl _ => true | .int _ => true | .str _ => true | _ => false
def toV : D → V
  | .non => .non | .bl b => .bl b | .int i => .int i | .str s => .str s | _ => .non
theorem flat_ok {K : PySem.W.Frag} {G : Hp} {x : D} {v : V} (f : flatD x = true) (r : Rp K G x v) : flatV v = true ∧ v = toV x := by
  cases r <;> first | exact ⟨rfl, rfl⟩ | cases f
theorem flats_ok {K : PySem.W.Frag} {G : Hp} : ∀ {xs : List D} {vs : List V}, xs.all flatD = true → Rps K G xs vs → vs.all flatV = true ∧ vs = xs.map toV
  | _, _, _, .nil => ⟨rfl, rfl⟩
  | x :: xs, _, h, .cons r rs => by
    rw [List.all_cons, Bool.and_eq_true] at h
    obtain ⟨h1, rfl⟩ := flat_ok h.1 r
    obtain ⟨h2, rfl⟩ := flats_ok h.2 rs
    exact ⟨by rw [List.all_cons, h1, h2]; rfl, rfl⟩
/-- one of them -/
def inD (x : D) (xs : List D) : Bool := inV (toV x) (xs.map toV)
def sqD (μ : Store) : D → Option (List D)
  | .tup xs => some xs
  | .scr xs => some xs
  | d => seqL μ d
theorem sqD_ok {K : PySem.W.Frag} {μ : Store} {G H : Hp} {d : D} {v : V} {ds : List D} (h : sqD μ d = some ds) (m : Sm K μ G H) (r : Rp K G d v) : ∃ a xs, v = .ref a ∧ (SqL K H a xs ∨ SqT K H a xs) ∧ Rps K G ds xs := by
  cases r with
  | tup h1 r1 => cases h; exact ⟨_, _, rfl, .inr (h1.sq m.ex), r1⟩
  | scr h1 r1 => cases h; exact ⟨_, _, rfl, .inl (h1.sq m.ex), r1⟩
  | lst h1 r1 => obtain ⟨a, xs, e, h2, r2⟩ := seqL_ok (d := .lst _) h m (.lst h1 r1); exact ⟨a, xs, e, .inl (SqL.of h2), r2⟩
  | ref a => obtain ⟨a, xs, e, h2, r2⟩ := seqL_ok (d := .ref _) h m (.ref a); exact ⟨a, xs, e, .inl (SqL.of h2), r2⟩
  | _ => cases h
def oInW (f : Bool → Bool) : OD := fun x y μ P => match x, y with
  | .str z, .str s => P (.bl (f (!(Builtin.Str.occurrences s z 0 s.length 1).isEmpty))) μ
  | x, y => match sqD μ y with
    | some xs => flatD x = true ∧ xs.all flatD = true ∧ P (.bl (f (inD x xs))) μ
    | none => False
def oIn : OD := oInW fun b => b
def oNotIn : OD := oInW fun b => !b
theorem os_in : OpS X (compareOp .In) oIn := by
  refine ⟨_, op_in_str.or op_in_seq, ?_⟩
  intro x y μ P G H v u Q h m rx ry t
  unfold oIn oInW at h
  split at h
  · cases rx
    cases ry
    exact .inl ⟨_, _, rfl, rfl, t _ _ _ _ _ h (Ex.refl _) m (.bl _)⟩
  · split at h
    · rename_i xs hs
      obtain ⟨fx, fs, p⟩ := h
      obtain ⟨a, vs, rfl, hq, r⟩ := sqD_ok hs m ry
      obtain ⟨f1, rfl⟩ := flat_ok fx rx
      obtain ⟨f2, rfl⟩ := flats_ok fs r
      exact .inr ⟨a, _, rfl, hq, f1, f2, t _ _ _ _ _ p (Ex.refl _) m (.bl _)⟩
    · exact h.elim
theorem os_notIn : OpS X (compareOp .NotIn) oNotIn := by
  refine ⟨_, op_notin_str.or op_notIn_seq, ?_⟩
  intro x y μ P G H v u Q h m rx ry t
  unfold oNotIn oInW at h
  split at h
  · cases rx
    cases ry
    exact .inl ⟨_, _, rfl, rfl, t _ _ _ _ _ h (Ex.refl _) m (.bl _)⟩
  · split at h
    · rename_i xs hs
      obtain ⟨fx, fs, p⟩ := h
      obtain ⟨a, vs, rfl, hq, r⟩ := sqD_ok hs m ry
      obtain ⟨f1, rfl⟩ := flat_ok fx rx
      obtain ⟨f2, rfl⟩ := flats_ok fs r
      exact .inr ⟨a, _, rfl, hq, f1, f2, t _ _ _ _ _ p (Ex.refl _) m (.bl _)⟩
    · exact h.elim
/-! ### isinstance(x, T) of builtin types -/
def tyD (μ : Store) : D → Option String
  | .non => some "NoneType" | .bl _ => some "bool" | .int _ => some "int" | .str _ => some "str" | .tup _ => some "tuple" | .lst _ => some "list"
  | .ref a => (match μ a with | some (.lst _) => some "list" | some (.dct _) => some "dict" | _ => none)
  | .dct _ => some "dict"
  | _ => none
theorem tupAt_ty {K : PySem.W.Frag} {G H : Hp} {a : Addr} {xs : List V} (e : Ex G H) (h : TupAt K G a xs) : TyX K H (.ref a) (.type "tuple") := by
  rcases h with h | ⟨o, its, n, h1, h2, _⟩
  · exact .base (.tup (e _ _ h))
  · exact .kTuple h1 h2
theorem tyD_ok {K : PySem.W.Frag} {μ : Store} {G H : Hp} {d : D} {v : V} {n : String} (h : tyD μ d = some n) (m : Sm K μ G H) (r : Rp K G d v) : TyX K H v (.type n) := by
  cases r with
  | non => cases h; exact .base .non
  | bl b => cases h; exact .base (.bl b)
  | int i => cases h; exact .base (.int i)
  | str s => cases h; exact .base (.str s)
  | tup h1 _ => cases h; exact tupAt_ty m.ex h1
  | lst h1 _ => cases h; exact .base (.lst (m.ex _ _ h1))
  | dct h1 _ _ => cases h; exact .base (.dK (m.ex _ _ h1))
  | ref a =>
    unfold tyD at h
    dsimp only at h
    cases q : μ a with
    | none => rw [q] at h; cases h
    | some c =>
      rw [q] at h
      obtain ⟨_, k⟩ := m.st a c q
      cases c with
      | lst ds => cases h; obtain ⟨xs, h1, _⟩ := k; exact .base (.lst h1)
      | dct ds => cases h; obtain ⟨xs, h1, _⟩ := k; exact .base (.dK h1)
      | ins C ds => cases h
  | _ => cases h
def isTy (m n : String) : Bool := m == n || (m == "bool" && n == "int")
/-- what the built-in classes say of each other -/
theorem tyTab (K : PySem.W.Frag) (n m : String) (hn : n ∈ ["bool", "int", "str", "tuple", "list", "dict"]) (hm : m ∈ ["NoneType", "bool", "int", "str", "tuple", "list", "dict"]) : PySem.W.kitOne K (.type m) (.type n) = some (isTy m n) := by
  simp only [List.mem_cons, List.not_mem_nil, or_false] at hn hm
  rcases hn with rfl | rfl | rfl | rfl | rfl | rfl <;> rcases hm with rfl | rfl | rfl | rfl | rfl | rfl | rfl <;> kernel_rfl
theorem tyD_mem {μ : Store} {d : D} {m : String} (h : tyD μ d = some m) : m ∈ ["NoneType", "bool", "int", "str", "tuple", "list", "dict"] := by
  unfold tyD at h
  split at h <;> first | (cases h; simp; done) | (split at h <;> first | (cases h; simp; done) | cases h) | cases h
def oIsi : OC := fun ds μ P => match ds with
  | [d, .ty n] => n ∈ ["bool", "int", "str", "tuple", "list", "dict"] ∧ (match tyD μ d with | some m => P (.bl (isTy m n)) μ | none => False)
  | _ => False
theorem cs_isi : CallS X (.builtin "isinstance") oIsi := by
  refine ⟨_, call_isi, ?_⟩
  intro ds μ P G H vs Q h m r t
  match ds, r, h with
  | [d, .ty n], .cons r1 (.cons (.ty _) .nil), h =>
    obtain ⟨hn, h⟩ := h
    split at h
    · rename_i k2 hk
      exact ⟨_, _, _, _, _, rfl, .ty n, tyD_ok hk m r1, tyTab _ _ _ hn (tyD_mem hk), t _ _ _ _ _ h (Ex.refl _) m (.bl _)⟩
    · exact h.elim
theorem de_ty {n : String} {x : Str} {p : Pos} (hg : Gl X x) (hm : X.mg x = none) (hv : bootBuiltins x = some (.type n)) (hn : x ≠ "__name__" := by decide) (hd : (x == ("__debug__" : Str)) = false := by decide) : DE X (.Name x p) (wC (.ty n)) :=
  de_c (pe_bltn hg hm hv (show RelV (.ty n) (.type n) from rfl) hn hd) fun _ => .ty n
end
/-! ### a op= e -/
section
variable {X : Cx} {e : Expr} {we : WE} {pos : Pos}
def IpS (X : Cx) (op : Operator) (o : OD) : Prop :=
  ∃ r, PIp X op r ∧ ∀ {x y : D} {μ : Store} {P : D → Store → Prop} {G H : Hp} {v u : V} {Q : VK}, o x y μ P → Sm X.K μ G H → Rp X.K G x v → Rp X.K G y u → Tells X.K G P Q → r v u H Q
def oIAdd : OD := fun x y μ P => match x, y with | .int i, .int j => P (.int (i + j)) μ | _, _ => False
def oISub : OD := fun x y μ P => match x, y with | .int i, .int j => P (.int (i - j)) μ | _, _ => False
theorem ip_addD : IpS X .Add oIAdd := ⟨_, ip_add, fun {x y μ P G H v u Q} h m rx ry t => by
  unfold oIAdd at h
  split at h
  · cases rx; cases ry; exact ⟨_, _, rfl, rfl, t _ _ _ _ _ h (Ex.refl _) m (.int _)⟩
  · exact h.elim⟩
theorem ip_subD : IpS X .Sub oISub := ⟨_, ip_sub, fun {x y μ P G H v u Q} h m rx ry t => by
  unfold oISub at h
  split at h
  · cases rx; cases ry; exact ⟨_, _, rfl, rfl, t _ _ _ _ _ h (Ex.refl _) m (.int _)⟩
  · exact h.elim⟩
def wAug (i : Nat) (o : OD) (we : WE) : WS := fun W ρ μ => match ρ.getD i none with
  | some x => we ρ μ fun y μ1 => o x y μ1 fun z μ2 => W.nx (ρ.set i (some z)) μ2
  | none => False
theorem ds_aug {i : Nat} {x : Str} {op : Operator} {o : OD} {pos' : Pos} (hN : X.N.Nodup) (hi : X.N[i]? = some x) (hx : Loc X.env.scope x) (h : DE X e we) (ho : IpS X op o) (hf : X.fn x = true ∨ X.env.scope.names.lookup x = some .local := by first | exact .inl rfl | exact .inr rfl | assumption) :
    DS X (.AugAssign (.Name x pos') op e pos) (wAug i o we) := by
  obtain ⟨r, hr, hs⟩ := ho
  refine ⟨wkS (ps_aug hN hi hx h.p hr hf) fun D σ H ⟨ρ, μ, G, W, he, hm, hw, ht⟩ => ?_⟩
  unfold wAug at hw
  cases q : ρ.getD i none with
  | none => rw [q] at hw; exact hw.elim
  | some d =>
    rw [q] at hw
    obtain ⟨v, h1, h2⟩ := he.2 i d (getD_some q)
    refine ⟨v, h1, ρ, μ, G, _, he, hm, hw, fun y μ1 u H1 G1 p1 e1 m1 r1 => hs p1 m1 (h2.mono e1) r1 fun z μ2 w H2 G2 p2 e2 m2 r2 => ht.nx _ _ _ _ _ p2 (e1.trans e2) (((he.mono e1).mono e2).set i r2) m2⟩
end
/-! ### methods of the built-in types -/
section
variable {X : Cx} {o e : Expr} {es : List Expr} {wo : WE} {wa : WA} {pos : Pos}
abbrev OM := D → List D → Store → (D → Store → Prop) → Prop
def tyM (T : String) (μ : Store) (d : D) : Prop := (T = "str" ∧ ∃ s, d = .str s) ∨ (T = "list" ∧ ∃ xs, seqL μ d = some xs) ∨ (T = "dict" ∧ ∃ kvs, d = .dct kvs) ∨ (T = "dict" ∧ ∃ a kvs, d = .ref a ∧ μ a = some (.dct kvs))
theorem tyM_ok {K : PySem.W.Frag} {μ : Store} {G H : Hp} {d : D} {v : V} {T : String} (h : tyM T μ d) (m : Sm K μ G H) (r : Rp K G d v) : tyV K T v H := by
  rcases h with ⟨rfl, s, rfl⟩ | ⟨rfl, xs, h⟩ | ⟨rfl, kvs, rfl⟩ | ⟨rfl, a, kvs, rfl, h⟩
  · cases r; exact rfl
  · obtain ⟨a, vs, rfl, h2, _⟩ := seqL_ok h m r
    exact .inl ⟨rfl, _, SqL.of h2⟩
  · cases r with | dct h1 _ _ => exact .inr (.inr (.inl ⟨rfl, .inl ⟨_, m.ex _ _ h1⟩⟩))
  · cases r
    obtain ⟨_, vs, h1, _⟩ := m.st a _ h
    exact .inr (.inr (.inl ⟨rfl, .inl ⟨_, h1⟩⟩))
structure BMok (X : Cx) (name : Str) (T : String) (om : OM) : Prop where
  ex : ∃ (id : String) (r : V → List V → Hp → VK → Prop), PlainAttrs T ∧ Slot T name id ∧ typeOf (.builtin id) = pure (.type "method_descriptor") ∧ MtR X id r ∧
    ∀ {x : D} {ds : List D} {μ : Store} {P : D → Store → Prop} {G H : Hp} {v : V} {vs : List V} {Q : VK}, om x ds μ P → Sm X.K μ G H → Rp X.K G x v → Rps X.K G ds vs → Tells X.K G P Q → r v vs H Q
def wBM (T : String) (om : OM) (wo : WE) (wa : WA) : WE := fun ρ μ P => wo ρ μ fun x μ1 => tyM T μ1 x ∧ wa ρ μ1 fun ds μ2 => om x ds μ2 P
theorem de_bm {name : Str} {T : String} {om : OM} {apos cpos : Pos} (b : BMok X name T om) (ho : DE X o wo) (ha : DA X (e :: es) wa) (hbase : attributeBase o name X.env (eval o X.env) = eval o X.env := by rfl)
    (hfew : ((backTo cpos (starEach (e :: es) X.env)).all (fun x => !x.1) && (backToKw cpos (keywordEach [] X.env)).all (fun x => x.1.isSome)
      && decide ((e :: es).length + ([] : List Keyword).length + (if ([] : List Keyword).isEmpty then 0 else 1) < 30)) = true := by rfl)
    (hline : (apos.endLine == cpos.line) = true := by rfl) (hs : starEach (e :: es) X.env = (false, eval e X.env) :: starEach es X.env := by rfl) (hplain : (backTo cpos (starEach es X.env)).any (·.1) = false := by rfl) :
    DE X (.Call (.Attribute o name apos) (e :: es) [] cpos) (wBM T om wo wa) := by
  obtain ⟨id, r, p1, p2, p3, p4, hs2⟩ := b.ex
  refine ⟨wkE (pe_bm p1 p2 p3 p4 ho.p ha.p hbase hfew hline hs hplain) fun σ H Q ⟨ρ, μ, G, P, he, hm, hw, ht⟩ => ⟨ρ, μ, G, _, he, hm, hw, fun x μ1 v H1 G1 p e1 m1 r1 => ⟨tyM_ok p.1 m1 r1, ρ, μ1, G1, _, he.mono e1, m1, p.2, fun ds μ2 vs H2 G2 p2 e2 m2 r2 => hs2 p2 m2 (r1.mono e2) r2 (ht.mono (e1.trans e2))⟩⟩⟩
theorem de_bm0 {name : Str} {T : String} {om : OM} {apos cpos : Pos} (b : BMok X name T om) (ho : DE X o wo) (hbase : attributeBase o name X.env (eval o X.env) = eval o X.env := by rfl) (hline : (apos.endLine == cpos.line) = true := by rfl) :
    DE X (.Call (.Attribute o name apos) [] [] cpos) (wBM T om wo wANil) := by
  obtain ⟨id, r, p1, p2, p3, p4, hs2⟩ := b.ex
  refine ⟨wkE (pe_bm0 p1 p2 p3 p4 ho.p hbase hline) fun σ H Q ⟨ρ, μ, G, P, he, hm, hw, ht⟩ => ⟨ρ, μ, G, _, he, hm, hw, fun x μ1 v H1 G1 p e1 m1 r1 => ⟨tyM_ok p.1 m1 r1, hs2 p.2 m1 r1 .nil (ht.mono e1)⟩⟩⟩
def oCount : OM := fun x ds μ P => match x, ds with | .str a, [.str b] => P (.int (Txt.count a b)) μ | _, _ => False
theorem bm_count : BMok X "count" "str" oCount := ⟨_, _, F.plainAttrs_str, F.slot_str_count, F.type_str_count, mt_count, fun {x ds μ P G H v vs Q} h m rx rs t => by
  unfold oCount at h
  split at h
  · cases rx
    cases rs with | cons r1 r2 =>
    cases r1
    cases r2
    exact ⟨_, _, rfl, rfl, t _ _ _ _ _ h (Ex.refl _) m (.int _)⟩
  · exact h.elim⟩
def oJoin : OM := fun x ds μ P => match x, ds with
  | .str a, [d] => (match sqD μ d with
    | some xs => ∃ ys, strsD xs = some ys ∧ (ys.map (·.length)).sum + ys.length * a.length ≤ 16777216 ∧ P (.str (Txt.join a ys)) μ
    | none => False)
  | _, _ => False
theorem bm_join : BMok X "join" "str" oJoin := ⟨_, _, F.plainAttrs_str, F.slot_str_join, F.type_str_join, mt_join, fun {x ds μ P G H v vs Q} h m rx rs t => by
  unfold oJoin at h
  split at h
  · cases rx
    cases rs with | cons r1 r2 =>
    cases r2
    split at h
    · rename_i xs hx
      obtain ⟨ys, hy, hz, p⟩ := h
      obtain ⟨a, ws, rfl, hq, r⟩ := sqD_ok hx m r1
      have e := strsD_ok hy r
      subst e
      exact ⟨_, a, ys, rfl, rfl, hq, hz, t _ _ _ _ _ p (Ex.refl _) m (.str _)⟩
    · exact h.elim
  · exact h.elim⟩
def oAppend : OM := fun x ds μ P => match x, ds with
  | .ref a, [d] => (match μ a with | some (.lst xs) => xs.length < sizeLine ∧ P .non (setS μ a (.lst (xs ++ [d]))) | _ => False)
  | _, _ => False
theorem bm_append : BMok X "append" "list" oAppend := ⟨_, _, F.plainAttrs_list, F.slot_list_append, F.type_list_append, mt_append, fun {x ds μ P G H v vs Q} h m rx rs t => by
  unfold oAppend at h
  split at h
  · rename_i a d
    cases rx
    cases rs with | cons r1 r2 =>
    cases r2
    cases q : μ a with
    | none => rw [q] at h; exact h.elim
    | some c =>
      rw [q] at h
      cases c with
      | lst xs =>
        obtain ⟨h0, ws, h1, r⟩ := m.st a _ q
        obtain ⟨hz, p⟩ := h
        refine ⟨a, ws, _, rfl, rfl, h1, by rw [← r.length]; exact hz, t _ _ _ _ _ p (Ex.refl _) (m.write h0 ⟨_, upd_same, r.append (.cons r1 .nil)⟩) .non⟩
      | _ => exact h.elim
  · exact h.elim⟩
end
section
variable {X : Cx}
def oPop : OM := fun x ds μ P => match x, ds with
  | .ref a, [] => (match μ a with | some (.lst xs) => ∃ y, xs[xs.length - 1]? = some y ∧ P y (setS μ a (.lst xs.dropLast)) | _ => False)
  | _, _ => False
theorem rps_dropLast {K : PySem.W.Frag} {G : Hp} : ∀ {ds : List D} {vs : List V}, Rps K G ds vs → Rps K G ds.dropLast vs.dropLast
  | _, _, .nil => .nil
  | _, _, .cons _ .nil => .nil
  | _, _, .cons a (.cons b r) => .cons a (rps_dropLast (.cons b r))
theorem bm_pop : BMok X "pop" "list" oPop := ⟨_, _, F.plainAttrs_list, F.slot_list_pop, F.type_list_pop, mt_pop, fun {x ds μ P G H v vs Q} h m rx rs t => by
  unfold oPop at h
  split at h
  · rename_i a
    cases rx
    cases rs
    cases q : μ a with
    | none => rw [q] at h; exact h.elim
    | some c =>
      rw [q] at h
      cases c with
      | lst xs =>
        obtain ⟨h0, ws, h1, r⟩ := m.st a _ q
        obtain ⟨y, hy, p⟩ := h
        obtain ⟨v, hv, rv⟩ := r.getL hy
        exact ⟨a, ws, v, rfl, rfl, h1, by rw [← r.length]; exact hv, t _ _ _ _ _ p (Ex.refl _) (m.write h0 ⟨_, upd_same, rps_dropLast r⟩) rv⟩
      | _ => exact h.elim
  · exact h.elim⟩
/-- l[::-1] -/
theorem rps_rev {K : PySem.W.Frag} {G : Hp} : ∀ {ds : List D} {vs : List V}, Rps K G ds vs → Rps K G ds.reverse vs.reverse
  | _, _, .nil => .nil
  | _, _, .cons a r => by rw [List.reverse_cons, List.reverse_cons]; exact (rps_rev r).append (.cons a .nil)
def wRev (we : WE) : WE := fun ρ μ P => we ρ μ fun d μ1 => match seqR μ1 d with | some xs => P (.lst xs.reverse) μ1 | none => False
def wRevM (we : WE) : WE := fun ρ μ P => we ρ μ fun d μ1 => match seqR μ1 d with | some xs => ∀ p, μ1 p = none → P (.ref p) (setS μ1 p (.lst xs.reverse)) | none => False
theorem seqR_sq {K : PySem.W.Frag} {μ : Store} {G H : Hp} {d : D} {v : V} {ds : List D} (h : seqR μ d = some ds) (m : Sm K μ G H) (r : Rp K G d v) : ∃ a xs, v = .ref a ∧ SqL K H a xs ∧ Rps K G ds xs := by
  cases r with
  | scr h1 r1 => cases h; exact ⟨_, _, rfl, h1.sq m.ex, r1⟩
  | lst h1 r1 => obtain ⟨a, xs, e, h2, r2⟩ := seqL_ok (d := .lst _) h m (.lst h1 r1); exact ⟨a, xs, e, SqL.of h2, r2⟩
  | ref a => obtain ⟨a, xs, e, h2, r2⟩ := seqL_ok (d := .ref _) h m (.ref a); exact ⟨a, xs, e, SqL.of h2, r2⟩
  | _ => cases h
theorem de_rev {e : Expr} {we : WE} {k : Nat} {p1 p2 p3 pos : Pos} (h : DE X e we) : DE X (.Subscript e (.Slice none none (some (.UnaryOp .USub (.Constant (.int 1) k p1) p2)) p3) pos) (wRev we) :=
  ⟨wkE (pe_revL h.p) fun σ H Q ⟨ρ, μ, G, P, he, hm, hw, ht⟩ => ⟨ρ, μ, G, _, he, hm, hw, fun d μ1 v H1 G1 p e m r => by
    split at p
    · rename_i xs hx
      obtain ⟨a, ws, rfl, h2, rr⟩ := seqR_sq hx m r
      exact ⟨a, ws, rfl, h2, new_lst m (rps_rev rr) p (ht.mono e)⟩
    · exact p.elim⟩⟩
theorem de_revM {e : Expr} {we : WE} {k : Nat} {p1 p2 p3 pos : Pos} (h : DE X e we) : DE X (.Subscript e (.Slice none none (some (.UnaryOp .USub (.Constant (.int 1) k p1) p2)) p3) pos) (wRevM we) :=
  ⟨wkE (pe_revL h.p) fun σ H Q ⟨ρ, μ, G, P, he, hm, hw, ht⟩ => ⟨ρ, μ, G, _, he, hm, hw, fun d μ1 v H1 G1 p e m r => by
    split at p
    · rename_i xs hx
      obtain ⟨a, ws, rfl, h2, rr⟩ := seqR_sq hx m r
      exact ⟨a, ws, rfl, h2, new_lstM m (rps_rev rr) p (ht.mono e)⟩
    · exact p.elim⟩⟩
end
/-! ### slices -/
section
variable {X : Cx} {e : Expr} {we wl wh : WE} {pos p2 : Pos}
abbrev WP := Env → Store → (Option Int → Store → Prop) → Prop
def TellsP (K : PySem.W.Frag) (G : Hp) (P : Option Int → Store → Prop) (Q : Option Int → Hp → Prop) : Prop := ∀ i μ' H' G', P i μ' → Ex G G' → Sm K μ' G' H' → Q i H'
def LP (K : PySem.W.Frag) (w : WP) : TO := fun σ H Q => ∃ ρ μ G P, EnvR K G ρ σ ∧ Sm K μ G H ∧ w ρ μ P ∧ TellsP K G P Q
structure DP (X : Cx) (e : Option Expr) (w : WP) : Prop where
  p : PO X e (LP X.K w)
theorem wkP {e : Option Expr} {t t' : TO} (h : PO X e t) (k : ∀ σ H Q, t' σ H Q → t σ H Q) : PO X e t' := ⟨fun pins s σ H Q I q => h.run pins s σ H Q I (k σ H Q q)⟩
def wNoP : WP := fun _ μ P => P none μ
def wPart (w : WE) : WP := fun ρ μ P => w ρ μ fun d μ1 => match d with | .int i => P (some i) μ1 | _ => False
theorem dp_none : DP X none wNoP := ⟨wkP po_none fun σ H Q ⟨ρ, μ, G, P, he, hm, hw, ht⟩ => ht _ _ _ _ hw (Ex.refl _) hm⟩
theorem dp_some (h : DE X e we) : DP X (some e) (wPart we) := ⟨wkP (po_some h.p) fun σ H Q ⟨ρ, μ, G, P, he, hm, hw, ht⟩ => ⟨ρ, μ, G, _, he, hm, hw, fun d μ1 v H1 G1 p e m r => by
  cases d with
  | int i => cases r; exact ⟨i, rfl, ht _ _ _ _ p e m⟩
  | _ => exact p.elim⟩⟩
def cutD (xs : List D) (lo hi : Option Int) : List D := (xs.drop (HT.sIx xs.length 0 lo)).take (HT.sIx xs.length xs.length hi - HT.sIx xs.length 0 lo)
theorem rps_drop {K : PySem.W.Frag} {G : Hp} : ∀ {n : Nat} {ds : List D} {vs : List V}, Rps K G ds vs → Rps K G (ds.drop n) (vs.drop n)
  | 0, _, _, r => r
  | _ + 1, _, _, .nil => .nil
  | n + 1, _, _, .cons _ r => rps_drop (n := n) r
theorem rps_take {K : PySem.W.Frag} {G : Hp} : ∀ {n : Nat} {ds : List D} {vs : List V}, Rps K G ds vs → Rps K G (ds.take n) (vs.take n)
  | 0, _, _, _ => .nil
  | _ + 1, _, _, .nil => .nil
  | n + 1, _, _, .cons a r => .cons a (rps_take (n := n) r)
theorem cut_ok {K : PySem.W.Frag} {G : Hp} {ds : List D} {vs : List V} {lo hi : Option Int} (r : Rps K G ds vs) : Rps K G (cutD ds lo hi) (cutV vs lo hi) := by
  unfold cutD cutV
  rw [r.length]
  exact rps_take (rps_drop r)
theorem SlR_or {r r' : V → Option Int → Option Int → Hp → VK → Prop} (h : SlR X r) (h' : SlR X r') : SlR X (fun x l u H Q => r x l u H Q ∨ r' x l u H Q) := by
  intro pins s σ H x v vl vu lo hi sl Q I rx hs pl pu q
  rcases q with q | q
  · exact h pins s σ H x v vl vu lo hi sl Q I rx hs pl pu q
  · exact h' pins s σ H x v vl vu lo hi sl Q I rx hs pl pu q
def oSlice (x : D) (lo hi : Option Int) (μ : Store) (P : D → Store → Prop) : Prop := match x with
  | .str s => s.length ≤ sizeLine ∧ P (.str (cutS s lo hi)) μ
  | .tup xs => P (.tup (cutD xs lo hi)) μ
  | .scr xs => P (.lst (cutD xs lo hi)) μ
  | d => match seqL μ d with | some xs => P (.lst (cutD xs lo hi)) μ | none => False
def wSl (we : WE) (wl wh : WP) : WE := fun ρ μ P => we ρ μ fun x μ1 => wl ρ μ1 fun l μ2 => wh ρ μ2 fun u μ3 => oSlice x l u μ3 P
theorem de_sl {lo hi : Option Expr} {wl wh : WP} (h : DE X e we) (hl : DP X lo wl) (hh : DP X hi wh) : DE X (.Subscript e (.Slice lo hi none p2) pos) (wSl we wl wh) := by
  refine ⟨wkE (pe_slice (SlR_or sl_str (SlR_or sl_list sl_tupA)) h.p hl.p hh.p) fun σ H Q ⟨ρ, μ, G, P, he, hm, hw, ht⟩ => ⟨ρ, μ, G, _, he, hm, hw, fun x μ1 v H1 G1 p1 e1 m1 r1 => ⟨ρ, μ1, G1, _, he.mono e1, m1, p1, fun l μ2 H2 G2 p2 e2 m2 => ⟨ρ, μ2, G2, _, (he.mono e1).mono e2, m2, p2, fun u μ3 H3 G3 p3 e3 m3 => ?_⟩⟩⟩⟩
  have r3 := (r1.mono e2).mono e3
  have t3 := ht.mono ((e1.trans e2).trans e3)
  unfold oSlice at p3
  split at p3
  · cases r3
    exact .inl ⟨_, rfl, p3.1, t3 _ _ _ _ _ p3.2 (Ex.refl _) m3 (.str _)⟩
  · cases r3 with
    | tup h1 rr =>
      refine .inr (.inr ⟨_, _, rfl, h1.sq m3.ex, fun hw => ?_, fun _ => new_tup m3 (cut_ok rr) p3 t3⟩)
      refine t3 _ _ _ _ _ p3 (Ex.refl _) m3 ?_
      have ec : ∀ {ds : List D} {vs : List V}, Rps X.K G3 ds vs → HT.sIx vs.length 0 l = 0 ∧ HT.sIx vs.length vs.length u = vs.length → cutD ds l u = ds := fun {ds vs} rr hw => by
        unfold cutD
        rw [rr.length, hw.1, hw.2, List.drop_zero, Nat.sub_zero, ← rr.length, List.take_length]
      rw [ec rr hw]
      exact .tup h1 rr
  · cases r3 with
    | scr h1 rr => exact .inr (.inl ⟨_, _, rfl, h1.sq m3.ex, new_lst m3 (cut_ok rr) p3 t3⟩)
  · split at p3
    · rename_i xs hx
      obtain ⟨a, ws, rfl, h2, rr⟩ := seqL_ok hx m3 r3
      exact .inr (.inl ⟨_, _, rfl, SqL.of h2, new_lst m3 (cut_ok rr) p3 t3⟩)
    · exact p3.elim
end
/-! ### f-strings -/
section
variable {X : Cx} {e : Expr} {we : WE} {pos : Pos}
def wFmt (we : WE) : WE := fun ρ μ P => we ρ μ fun d μ1 => match d with
  | .str s => s.length ≤ sizeLine ∧ P (.str s) μ1
  | .int i => i.natAbs.log2 < 1920 ∧ P (.str (Str.ofString (toString i))) μ1
  | _ => False
theorem de_fmt (h : DE X e we) : DE X (.FormattedValue e (-1) none pos) (wFmt we) := ⟨wkE (pe_fmt h.p) fun σ H Q ⟨ρ, μ, G, P, he, hm, hw, ht⟩ => ⟨ρ, μ, G, _, he, hm, hw, fun d μ1 v H1 G1 p e m r => by
  cases d with
  | str s => cases r; exact .inl ⟨_, rfl, p.1, ht _ _ _ _ _ p.2 e m (.str _)⟩
  | int i => cases r; exact .inr ⟨_, rfl, p.1, ht _ _ _ _ _ p.2 e m (.str _)⟩
  | _ => exact p.elim⟩⟩
inductive DJ (X : Cx) : List Expr → List WE → Prop where
  | nil : DJ X [] []
  | cons {e : Expr} {w : WE} {es : List Expr} {ws : List WE} (h : DE X e w) (r : DJ X es ws) : DJ X (e :: es) (w :: ws)
theorem DJ.pj : ∀ {es : List Expr} {ws : List WE}, DJ X es ws → PJ X es (ws.map (LE X.K))
  | _, _, .nil => .nil
  | _, _, .cons h r => .cons h.p r.pj
def wJs : List WE → Str → Env → Store → (D → Store → Prop) → Prop
  | [], acc, _, μ, P => P (.str acc) μ
  | w :: ws, acc, ρ, μ, P => w ρ μ fun d μ1 => match d with | .str y => (acc ++ y).length ≤ sizeLine ∧ wJs ws (acc ++ y) ρ μ1 P | _ => False
theorem wjs_ok {K : PySem.W.Frag} : ∀ {ws : List WE} {acc : Str} {ρ : Env} {μ : Store} {G H : Hp} {σ : L2.St} {P : D → Store → Prop} {Q : VK}, EnvR K G ρ σ → Sm K μ G H → wJs ws acc ρ μ P → Tells K G P Q → tJs (ws.map (LE K)) acc σ H fun out H1 => Q (.str out) H1
  | [], acc, ρ, μ, G, H, σ, P, Q, he, hm, hw, ht => ht _ _ _ _ _ hw (Ex.refl _) hm (.str _)
  | w :: ws, acc, ρ, μ, G, H, σ, P, Q, he, hm, hw, ht => ⟨ρ, μ, G, _, he, hm, hw, fun d μ1 v H1 G1 p e m r => by
    cases d with
    | str y => cases r; exact ⟨y, rfl, p.1, wjs_ok (he.mono e) m p.2 (ht.mono e)⟩
    | _ => exact p.elim⟩
def wJoin (ws : List WE) : WE := fun ρ μ P => wJs ws Str.empty ρ μ P
theorem de_joined {v1 v2 : Expr} {rest : List Expr} {ws : List WE} (h : DJ X (v1 :: v2 :: rest) ws) : DE X (.JoinedStr (v1 :: v2 :: rest) pos) (wJoin ws) := ⟨wkE (pe_joined h.pj) fun σ H Q ⟨ρ, μ, G, P, he, hm, hw, ht⟩ => wjs_ok he hm hw ht⟩
theorem de_joined1 (h : DE X e we) : DE X (.JoinedStr [e] pos) we := ⟨pe_joined1 h.p⟩
end
/-! ### names of the top that hold a plain value -/
section
variable {X : Cx}
theorem de_gs {x z : Str} {p : Pos} (h : ∃ t, X.mg x = some (.str z t)) (hg : Gl X x := by rfl) (hd : (x == ("__debug__" : Str)) = false := by decide) : DE X (.Name x p) (wC (.str z)) := by
  obtain ⟨t, h⟩ := h
  exact de_c (pe_glob hg h (show RelV (.str z) (.str z t) from ⟨t, rfl⟩) hd) fun _ => .str z
theorem de_gi {x : Str} {z : Int} {p : Pos} (h : ∃ t, X.mg x = some (.int z t)) (hg : Gl X x := by rfl) (hd : (x == ("__debug__" : Str)) = false := by decide) : DE X (.Name x p) (wC (.int z)) := by
  obtain ⟨t, h⟩ := h
  exact de_c (pe_glob hg h (show RelV (.int z) (.int z t) from ⟨t, rfl⟩) hd) fun _ => .int z
end
/-! ### {k: v, ..} -/
section
variable {X : Cx} {pos : Pos}
def wPairs : List (WE × WE) → Env → Store → (List (D × D) → Store → Prop) → Prop
  | [], _, μ, P => P [] μ
  | (wk, wv) :: r, ρ, μ, P => wk ρ μ fun x μ1 => wv ρ μ1 fun y μ2 => wPairs r ρ μ2 fun ps μ3 => P ((x, y) :: ps) μ3
inductive DPs (X : Cx) (pos : Pos) : List (Option Expr) → List Expr → List (WE × WE) → Prop where
  | nil : DPs X pos [] [] []
  | cons {k v : Expr} {ks : List (Option Expr)} {vs : List Expr} {wk wv : WE} {ws : List (WE × WE)} (hk : DE X k wk) (hv : DE X v wv) (r : DPs X pos ks vs ws) : DPs X pos (some k :: ks) (v :: vs) ((wk, wv) :: ws)
def lws (K : PySem.W.Frag) (ws : List (WE × WE)) : List (TE × TE) := ws.map fun p => (LE K p.1, LE K p.2)
theorem DPs.pps : ∀ {ks : List (Option Expr)} {vs : List Expr} {ws : List (WE × WE)}, DPs X pos ks vs ws → PPs X pos ks vs (lws X.K ws)
  | _, _, _, .nil => pps_nil
  | _, _, _, .cons hk hv r => pps_cons hk.p hv.p r.pps
inductive Rpp (K : PySem.W.Frag) (G : Hp) : List (D × D) → List (V × V) → Prop where
  | nil : Rpp K G [] []
  | cons {x y : D} {v u : V} {ds : List (D × D)} {vs : List (V × V)} (h : Rp K G x v) (k : Rp K G y u) (r : Rpp K G ds vs) : Rpp K G ((x, y) :: ds) ((v, u) :: vs)
theorem pairs_ok {K : PySem.W.Frag} : ∀ {ws : List (WE × WE)} {ρ : Env} {μ : Store} {G H : Hp} {σ : L2.St} {P : List (D × D) → Store → Prop} {Q : List (V × V) → Hp → Prop}, EnvR K G ρ σ → Sm K μ G H → wPairs ws ρ μ P →
    (∀ ds μ' vs H' G', P ds μ' → Ex G G' → Sm K μ' G' H' → Rpp K G' ds vs → Q vs H') → tPairs (lws K ws) σ H Q
  | [], ρ, μ, G, H, σ, P, Q, he, hm, hw, ht => ht _ _ _ _ _ hw (Ex.refl _) hm .nil
  | (wk, wv) :: ws, ρ, μ, G, H, σ, P, Q, he, hm, hw, ht => ⟨ρ, μ, G, _, he, hm, hw, fun x μ1 v H1 G1 p1 e1 m1 r1 => ⟨ρ, μ1, G1, _, he.mono e1, m1, p1, fun y μ2 u H2 G2 p2 e2 m2 r2 =>
      pairs_ok ((he.mono e1).mono e2) m2 p2 fun ds μ3 vs H3 G3 p3 e3 m3 r3 => ht _ _ _ _ _ p3 ((e1.trans e2).trans e3) m3 (.cons ((r1.mono e2).mono e3) (r2.mono e3) r3)⟩⟩
def keysD : List (D × D) → Option (List (Key × D))
  | [] => some []
  | (k, v) :: r => match keyD k, keysD r with | some k, some r => some ((k, v) :: r) | _, _ => none
theorem keysD_ok {K : PySem.W.Frag} {G : Hp} : ∀ {ds : List (D × D)} {vs : List (V × V)} {ks : List (Key × D)}, keysD ds = some ks → Rpp K G ds vs →
    ∃ kvs : List (Key × V), vs = kvs.map (fun kv => (kV kv.1, kv.2)) ∧ kvs.map (·.1) = ks.map (·.1) ∧ Rps K G (ks.map (·.2)) (kvs.map (·.2))
  | _, _, _, h, .nil => by cases h; exact ⟨[], rfl, rfl, .nil⟩
  | (x, y) :: ds, (v, u) :: vs, ks, h, .cons hk hv r => by
    unfold keysD at h
    split at h
    · rename_i k r' q1 q2
      cases h
      obtain ⟨kvs, e1, e2, e3⟩ := keysD_ok q2 r
      refine ⟨(k, _) :: kvs, ?_, ?_, .cons hv e3⟩
      · rw [keyD_ok q1 hk, e1]; rfl
      · rw [List.map_cons, List.map_cons, e2]
    · cases h
def mergeD (kvs more : List (Key × D)) : List (Key × D) := more.foldl (fun acc kv => putD acc kv.1 kv.2) kvs
theorem merge_ok {K : PySem.W.Frag} {G : Hp} : ∀ {more : List (Key × D)} {moreV : List (Key × V)} {ds : List (Key × D)} {kvs : List (Key × V)}, moreV.map (·.1) = more.map (·.1) → Rps K G (more.map (·.2)) (moreV.map (·.2)) → kvs.map (·.1) = ds.map (·.1) → Rps K G (ds.map (·.2)) (kvs.map (·.2)) →
    (mergeK kvs moreV).map (·.1) = (mergeD ds more).map (·.1) ∧ Rps K G ((mergeD ds more).map (·.2)) ((mergeK kvs moreV).map (·.2))
  | [], [], _, _, _, _, e, r => ⟨e, r⟩
  | [], _ :: _, _, _, e, _, _, _ => by simp at e
  | _ :: _, [], _, _, e, _, _, _ => by simp at e
  | (k, d) :: more, (k', v) :: moreV, ds, kvs, e1, r1, e, r => by
    have e2 : k' = k ∧ moreV.map (·.1) = more.map (·.1) := by simpa using e1
    obtain ⟨rfl, e2⟩ := e2
    cases r1 with
    | cons h r1 =>
      obtain ⟨i1, i2⟩ := putD_keys (k := k') h e r
      exact merge_ok (more := more) (moreV := moreV) e2 r1 i1 i2
def wDisp (ws : List (WE × WE)) : WE := fun ρ μ P => ∀ p, μ p = none → wPairs ws ρ (setS μ p (.dct [])) fun ps μ2 => μ2 p = some (.dct []) ∧ ∃ kvs, keysD ps = some kvs ∧ kvs.length ≤ 15 ∧ P (.dct (mergeD [] kvs)) (delS μ2 p)
theorem de_disp {ks : List (Option Expr)} {vs : List Expr} {ws : List (WE × WE)} (h : DPs X pos ks vs ws) (hall : ks.all (·.isSome) = true) (hl : ks.length = vs.length) (h0 : ks ≠ []) (h15 : ks.length ≤ 15) : DE X (.Dict ks vs pos) (wDisp ws) := by
  refine ⟨wkE (pe_disp h.pps hall hl h0 h15) fun σ H Q ⟨ρ, μ, G, P, he, hm, hw, ht⟩ => fun p hp => ?_⟩
  have m1 : Sm X.K (setS μ p (.dct [])) G (upd H p (.dK [])) := hm.write (hm.ex.nn hp) ⟨[], upd_same, rfl, .nil⟩
  refine pairs_ok he m1 (hw p (hm.nn hp)) fun ds μ2 vs H2 G2 ⟨q, kvs, hk, hz, p2⟩ e2 m2 r2 => ?_
  obtain ⟨k1, k2, e3, e4⟩ := keysD_ok hk r2
  obtain ⟨h0, ws0, h1, e5, r5⟩ := m2.st p _ q
  cases ws0 with
  | cons _ _ => simp at e5
  | nil =>
    refine ⟨h1, k1, k2, by rw [len_keys e3]; exact hz, ?_⟩
    obtain ⟨i1, i2⟩ := merge_ok (kvs := []) (ds := []) e3 e4 rfl .nil
    have m3 : Sm X.K (setS μ2 p (.dct (mergeD [] kvs))) G2 (upd H2 p (.dK (mergeK [] k1))) := m2.write h0 ⟨_, upd_same, i1, i2⟩
    obtain ⟨G3, m4, e6, r6⟩ := m3.freezeD setS_same
    have es : delS (setS μ2 p (.dct (mergeD [] kvs))) p = delS μ2 p := by
      funext b
      unfold delS setS
      split <;> rfl
    rw [es] at m4
    exact ht _ _ _ _ _ p2 (e2.trans e6) m4 r6
end
end Dl

namespace Dl
open PySem L2
/-! ### comprehensions of two sources -/
section
variable {X : Cx}
def lcBody2 (its : List D) (g : WG) (tt : WT) (wi1 : WI) (g1 : WG) (tt1 : WT) (te : WE) (vs vs1 : List Nat) (fin : Addr → List D → Store → Prop) (ρ : Env) (μ1 : Store) : Prop := ∀ L, μ1 L = none → ∃ I : Nat → List D → Store → Prop, I 0 [] (setS μ1 L (.lst [])) ∧
  (∀ i d acc μ', its[i]? = some d → μ' L = some (.lst acc) → I i acc μ' → g d (wipeE ρ vs) μ' fun ρ2 μ2 => tt ρ2 μ2 fun b μ3 => if b = true then wi1 ρ2 μ3 fun its1 μ4 => ∃ (I1 : Nat → List D → Store → Prop) (acc4 : List D), μ4 L = some (.lst acc4) ∧ I1 0 acc4 μ4 ∧
      (∀ j d1 acc1 μ5, its1[j]? = some d1 → μ5 L = some (.lst acc1) → I1 j acc1 μ5 → g1 d1 (wipeE ρ2 vs1) μ5 fun ρ6 μ6 => tt1 ρ6 μ6 fun b μ7 => if b = true then te ρ6 μ7 fun y μ8 => ∃ acc8, μ8 L = some (.lst acc8) ∧ acc8.length < sizeLine ∧ I1 (j + 1) (acc8 ++ [y]) (setS μ8 L (.lst (acc8 ++ [y])))
        else ∃ acc7, μ7 L = some (.lst acc7) ∧ I1 (j + 1) acc7 μ7) ∧
      (∀ acc μ', μ' L = some (.lst acc) → I1 its1.length acc μ' → I (i + 1) acc μ')
    else ∃ acc3, μ3 L = some (.lst acc3) ∧ I (i + 1) acc3 μ3) ∧
  ∀ acc μ', μ' L = some (.lst acc) → I its.length acc μ' → fin L acc μ'
def wLcG2 (wi : WI) (g : WG) (tt : WT) (wi1 : WI) (g1 : WG) (tt1 : WT) (te : WE) (vs vs1 : List Nat) (fin : Addr → List D → Store → Prop) : Env → Store → Prop := fun ρ μ => wi ρ μ fun its μ1 => lcBody2 its g tt wi1 g1 tt1 te vs vs1 fin ρ μ1
def wLc2 (wi : WI) (g : WG) (tt : WT) (wi1 : WI) (g1 : WG) (tt1 : WT) (te : WE) (vs vs1 : List Nat) : WE := fun ρ μ P => wLcG2 wi g tt wi1 g1 tt1 te vs vs1 (fun L acc μ' => P (.lst acc) (delS μ' L)) ρ μ
def wLc2M (wi : WI) (g : WG) (tt : WT) (wi1 : WI) (g1 : WG) (tt1 : WT) (te : WE) (vs vs1 : List Nat) : WE := fun ρ μ P => wLcG2 wi g tt wi1 g1 tt1 te vs vs1 (fun L acc μ' => P (.ref L) μ') ρ μ
theorem llc2 {K : PySem.W.Frag} {wi wi1 : WI} {g g1 : TG} {wg wg1 : WG} {tt tt1 : WT} {te : WE} {vs vs1 : List Nat} {fin : Addr → List D → Store → Prop} {σ : L2.St} {H : Hp} {Q : VK} {ρ : Env} {μ : Store} {G : Hp} (hg : GPat K vs g wg) (hg1 : GPat K vs1 g1 wg1) (he : EnvR K G ρ σ) (hm : Sm K μ G H)
    (hw : wLcG2 wi wg tt wi1 wg1 tt1 te vs vs1 fin ρ μ) (hf : ∀ L acc μ' H' G', fin L acc μ' → μ' L = some (.lst acc) → Ex G G' → Sm K μ' G' H' → Q (.ref L) H') : tLc2 (LI K wi) g (LT K tt) (LI K wi1) g1 (LT K tt1) (LE K te) vs vs1 σ H Q := by
  refine ⟨ρ, μ, G, _, he, hm, hw, ?_⟩
  rintro its μ1 H1 G1 J hI e1 m1 hJ L hL
  obtain ⟨I, h0, hturn, hend⟩ := hI L (m1.nn hL)
  refine ⟨fun i m H' => m = its.length - i ∧ i ≤ its.length ∧ ∃ acc μ' G', Ex G1 G' ∧ Sm K μ' G' H' ∧ μ' L = some (.lst acc) ∧ I i acc μ',
    ⟨its.length, by simp, Nat.zero_le _, [], _, G1, Ex.refl _, m1.write (c := .lst []) (m1.ex.nn hL) ⟨[], upd_same, .nil⟩, setS_same, h0⟩, ?_⟩
  rintro i m H' ⟨rfl, hi, acc, μ', G', e', hm', uD, hI⟩
  obtain ⟨wgo, wstop⟩ := hJ i H' G' μ' e' hm'
  by_cases hlt : i < its.length
  · obtain ⟨go, yl⟩ := wgo hlt
    refine .inr ⟨go, fun H2 => ∃ acc2 μ2 G2, Ex G1 G2 ∧ Sm K μ2 G2 H2 ∧ μ2 L = some (.lst acc2) ∧ I (i + 1) acc2 μ2, fun H2 ⟨a, b, c, x1, x2, x3, x5⟩ => ⟨its.length - (i + 1), by omega, rfl, hlt, a, b, c, x1, x2, x3, x5⟩, fun x H2 hy => ?_⟩
    obtain ⟨G3, d, hd, e3, m3, r3⟩ := yl x H2 hy
    have heW : EnvR K G3 (wipeE ρ vs) (L2.wipe σ vs) := ((((he.mono e1).mono e').mono e3)).wipe vs
    refine hg heW m3 r3 (hturn i d acc μ' hd uD hI) fun ρ4 μ4 σ4 H4 G4 p4 e4 he4 hm4 q4 => ⟨q4.trans (wipe_wipe fun _ h => h), ρ4, μ4, G4, _, he4, hm4, p4, fun b μ5 H5 G5 p5 e5 m5 => ?_⟩
    have eG : Ex G1 G5 := ((e'.trans e3).trans e4).trans e5
    cases b with
    | true =>
      rw [if_pos rfl] at p5
      refine iteT ?_
      refine ⟨ρ4, μ5, G5, _, he4.mono e5, m5, p5, fun its1 μ6 H6 G6 J1 p6 e6 m6 hJ1 => ?_⟩
      obtain ⟨I1, acc4, u4, h10, hturn1, hend1⟩ := p6
      refine ⟨fun j k H' => k = its1.length - j ∧ j ≤ its1.length ∧ ∃ acc μ' G', Ex G6 G' ∧ Sm K μ' G' H' ∧ μ' L = some (.lst acc) ∧ I1 j acc μ', ⟨its1.length, by simp, Nat.zero_le _, acc4, μ6, G6, Ex.refl _, m6, u4, h10⟩, ?_⟩
      rintro j k H7 ⟨rfl, hj, acc7, μ7, G7, e7, hm7, u7, hI7⟩
      obtain ⟨wgo1, wstop1⟩ := hJ1 j H7 G7 μ7 e7 hm7
      by_cases hlt1 : j < its1.length
      · obtain ⟨go1, yl1⟩ := wgo1 hlt1
        refine .inr ⟨go1, fun H2 => ∃ acc2 μ2 G2, Ex G6 G2 ∧ Sm K μ2 G2 H2 ∧ μ2 L = some (.lst acc2) ∧ I1 (j + 1) acc2 μ2, fun H2 ⟨a, b, c, x1, x2, x3, x5⟩ => ⟨its1.length - (j + 1), by omega, rfl, hlt1, a, b, c, x1, x2, x3, x5⟩, fun x H8 hy => ?_⟩
        obtain ⟨G8, d1, hd1, e8, m8, r8⟩ := yl1 x H8 hy
        have heW1 : EnvR K G8 (wipeE ρ4 vs1) (L2.wipe σ4 vs1) := (((((he4.mono e5).mono e6).mono e7).mono e8)).wipe vs1
        refine hg1 heW1 m8 r8 (hturn1 j d1 acc7 μ7 hd1 u7 hI7) fun ρ9 μ9 σ9 H9 G9 p9 e9 he9 hm9 q9 => ⟨q9.trans (wipe_wipe fun _ h => h), ρ9, μ9, G9, _, he9, hm9, p9, fun b μa Ha Ga pa ea ma => ?_⟩
        have eH : Ex G6 Ga := ((e7.trans e8).trans e9).trans ea
        cases b with
        | true =>
          rw [if_pos rfl] at pa
          refine iteT ?_
          refine ⟨ρ9, μa, Ga, _, he9.mono ea, ma, pa, fun y μb vb Hb Gb pb eb mb rb => ?_⟩
          obtain ⟨acc8, u8, hz, hI8⟩ := pb
          obtain ⟨h0, xs, h1, rr⟩ := mb.st L _ u8
          exact ⟨xs, h1, by rw [← rr.length]; exact hz, acc8 ++ [y], _, Gb, eH.trans eb, mb.write (c := .lst (acc8 ++ [y])) h0 ⟨_, upd_same, rr.append (.cons rb .nil)⟩, setS_same, hI8⟩
        | false =>
          rw [if_neg Bool.false_ne_true] at pa
          refine iteF ?_
          obtain ⟨acca, ua, hIa⟩ := pa
          exact ⟨acca, μa, Ga, eH, ma, ua, hIa⟩
      · have ej : j = its1.length := by omega
        subst ej
        exact .inl ⟨wstop1 (Nat.le_refl _), acc7, μ7, G7, (eG.trans e6).trans e7, hm7, u7, hend1 acc7 μ7 u7 hI7⟩
    | false =>
      rw [if_neg Bool.false_ne_true] at p5
      refine iteF ?_
      obtain ⟨acc3, u3, hI3⟩ := p5
      exact ⟨acc3, μ5, G5, eG, m5, u3, hI3⟩
  · have ei : i = its.length := by omega
    subst ei
    exact .inl ⟨wstop (Nat.le_refl _), hf _ _ _ _ _ (hend acc μ' uD hI) uD (e1.trans e') hm'⟩
variable {elt tg iter tg1 iter1 : Expr} {ifs ifs1 : List Expr} {scope : Scope} {own : List (Str × Nat)} {vs1 : List Nat} {pos : Pos} {wi wi1 : WI} {g g1 : TG} {wg wg1 : WG} {tt tt1 : WT} {te : WE}
theorem de_lc2 (hc : X.calm = true) (hN : X.N.Nodup) (hi : DI X tg iter wi) (ok : BlkOk X.N X.env.scope scope own) (hv : ∀ i ∈ vs1, i ∈ own.map (·.2)) (hp : GPat X.K (own.map (·.2)) g wg) (hp1 : GPat X.K vs1 g1 wg1)
    (hg : ∀ (s : Shared) (H : Hp) (C : Addr) (cl : List (Str × Addr)) (fp : List Addr), PG (X.blk s H scope (compEnvC scope cl C X.env) fp) tg g) (ht : ∀ (s : Shared) (H : Hp) (C : Addr) (cl : List (Str × Addr)) (fp : List Addr), DTs (X.blk s H scope (compEnvC scope cl C X.env) fp) ifs tt)
    (hi1 : ∀ (s : Shared) (H : Hp) (C : Addr) (cl : List (Str × Addr)) (fp : List Addr), DI (X.blk s H scope (compEnvC scope cl C X.env) fp) tg1 iter1 wi1)
    (hg1 : ∀ (s : Shared) (H : Hp) (C : Addr) (cl : List (Str × Addr)) (fp : List Addr), PG (X.blk s H scope (compEnvC scope cl C X.env) fp) tg1 g1) (ht1 : ∀ (s : Shared) (H : Hp) (C : Addr) (cl : List (Str × Addr)) (fp : List Addr), DTs (X.blk s H scope (compEnvC scope cl C X.env) fp) ifs1 tt1)
    (he : ∀ (s : Shared) (H : Hp) (C : Addr) (cl : List (Str × Addr)) (fp : List Addr), DE (X.blk s H scope (compEnvC scope cl C X.env) fp) elt te) (hs : ∀ x, foldedSetIterable iter X.env x = pure x := by intro _; rfl) (hs1 : ∀ env x, foldedSetIterable iter1 env x = pure x := by intro _ _; rfl) :
    DE X (.ListComp elt [⟨tg, iter, ifs, 0⟩, ⟨tg1, iter1, ifs1, 0⟩] scope pos) (wLc2 wi wg tt wi1 wg1 tt1 te (own.map (·.2)) vs1) :=
  ⟨wkE (pe_lc2 hc hN hi.p ok hv hg (fun s H C cl fp => (ht s H C cl fp).p) (fun s H C cl fp => (hi1 s H C cl fp).p) hg1 (fun s H C cl fp => (ht1 s H C cl fp).p) (fun s H C cl fp => (he s H C cl fp).p) hs hs1) fun σ H Q ⟨ρ, μ, G, P, hr, hm, hw, htl⟩ => llc2 hp hp1 hr hm hw fun L acc μ' H' G' f u e m => by
    obtain ⟨G2, m2, e2, r2⟩ := m.freezeL u
    exact htl _ _ _ _ _ f (e.trans e2) m2 r2⟩
theorem ds_setLc2 {i : Nat} {y : Str} {py spos : Pos} (hc : X.calm = true) (hN : X.N.Nodup) (hy : X.N[i]? = some y) (hyl : X.env.scope.names.lookup y = some .local)
    (hsw : swapsWith (.ListComp elt [⟨tg, iter, ifs, 0⟩, ⟨tg1, iter1, ifs1, 0⟩] scope pos) (some (.Name y py)) spos.line X.env = pure true) (hi : DI X tg iter wi) (ok : BlkOk X.N X.env.scope scope own) (hv : ∀ i ∈ vs1, i ∈ own.map (·.2)) (hp : GPat X.K (own.map (·.2)) g wg) (hp1 : GPat X.K vs1 g1 wg1)
    (hg : ∀ (s : Shared) (H : Hp) (C : Addr) (cl : List (Str × Addr)) (fp : List Addr), PG (X.blk s H scope (compEnvC scope cl C X.env) fp) tg g) (ht : ∀ (s : Shared) (H : Hp) (C : Addr) (cl : List (Str × Addr)) (fp : List Addr), DTs (X.blk s H scope (compEnvC scope cl C X.env) fp) ifs tt)
    (hi1 : ∀ (s : Shared) (H : Hp) (C : Addr) (cl : List (Str × Addr)) (fp : List Addr), DI (X.blk s H scope (compEnvC scope cl C X.env) fp) tg1 iter1 wi1)
    (hg1 : ∀ (s : Shared) (H : Hp) (C : Addr) (cl : List (Str × Addr)) (fp : List Addr), PG (X.blk s H scope (compEnvC scope cl C X.env) fp) tg1 g1) (ht1 : ∀ (s : Shared) (H : Hp) (C : Addr) (cl : List (Str × Addr)) (fp : List Addr), DTs (X.blk s H scope (compEnvC scope cl C X.env) fp) ifs1 tt1)
    (he : ∀ (s : Shared) (H : Hp) (C : Addr) (cl : List (Str × Addr)) (fp : List Addr), DE (X.blk s H scope (compEnvC scope cl C X.env) fp) elt te) (hs : ∀ x, foldedSetIterable iter X.env x = pure x := by intro _; rfl) (hs1 : ∀ env x, foldedSetIterable iter1 env x = pure x := by intro _ _; rfl) :
    DS X (.Assign [.Name y py] (.ListComp elt [⟨tg, iter, ifs, 0⟩, ⟨tg1, iter1, ifs1, 0⟩] scope pos) spos) (wAsg (wLc2 wi wg tt wi1 wg1 tt1 te (own.map (·.2)) vs1) (wgName i)) :=
  ⟨wkS (ps_setLc2 hc hN hy hyl hsw hi.p ok hv hg (fun s H C cl fp => (ht s H C cl fp).p) (fun s H C cl fp => (hi1 s H C cl fp).p) hg1 (fun s H C cl fp => (ht1 s H C cl fp).p) (fun s H C cl fp => (he s H C cl fp).p) hs hs1) fun D σ H ⟨ρ, μ, G, W, hr, hm, hw, htl⟩ => llc2 hp hp1 hr hm hw fun L acc μ' H' G' f u e m => by
    obtain ⟨G2, m2, e2, r2⟩ := m.freezeL u
    exact htl.nx _ _ _ _ _ f (e.trans e2) ((hr.mono (e.trans e2)).set i r2) m2⟩
end
end Dl
namespace Dl
open PySem L2
/-- two sources that change nothing -/
theorem lc2_go {its : List D} {g : WG} {tt : WT} {wi1 : WI} {g1 : WG} {tt1 : WT} {te : WE} {vs vs1 : List Nat} {fin : Addr → List D → Store → Prop} {ρ : Env} {μ : Store} (env : D → Env) (src : D → List D) (f : D → D → Option D)
    (hz : (its.flatMap fun d => (src d).filterMap (f d)).length ≤ sizeLine)
    (h : ∀ (i : Nat) (d : D) (μ' : Store) (C : Env → List D → Store → Prop) (E : Store → Prop), its[i]? = some d → Sub μ μ' → C (env d) (src d) μ' → g d (wipeE ρ vs) μ' fun ρ2 μ2 => tt ρ2 μ2 fun b μ3 => if b = true then wi1 ρ2 μ3 (C ρ2) else E μ3)
    (k : ∀ (i : Nat) (d : D) (j : Nat) (d1 : D) (μ' : Store) (R : D → Store → Prop) (R' : Store → Prop), its[i]? = some d → (src d)[j]? = some d1 → Sub μ μ' → (∀ y, f d d1 = some y → R y μ') → (f d d1 = none → R' μ') →
      g1 d1 (wipeE (env d) vs1) μ' fun ρ6 μ6 => tt1 ρ6 μ6 fun b μ7 => if b = true then te ρ6 μ7 R else R' μ7)
    (q : ∀ L, μ L = none → fin L (its.flatMap fun d => (src d).filterMap (f d)) (setS μ L (.lst (its.flatMap fun d => (src d).filterMap (f d))))) : lcBody2 its g tt wi1 g1 tt1 te vs vs1 fin ρ μ := by
  intro L hL
  have sub : ∀ acc, Sub μ (setS μ L (.lst acc)) := fun acc a c e => by
    have : a ≠ L := by rintro rfl; rw [hL] at e; cases e
    rw [setS_ne this]; exact e
  refine ⟨fun i acc μ' => acc = (its.take i).flatMap (fun d => (src d).filterMap (f d)) ∧ μ' = setS μ L (.lst acc), ⟨rfl, rfl⟩, ?_, ?_⟩
  · rintro i d acc μ' hd hu ⟨rfl, rfl⟩
    obtain ⟨hi, hd2⟩ := List.getElem?_eq_some_iff.mp hd
    have ht : its.take (i + 1) = its.take i ++ [d] := by rw [List.take_add_one, hd]; rfl
    have htot : its.flatMap (fun d => (src d).filterMap (f d)) = (its.take i).flatMap (fun d => (src d).filterMap (f d)) ++ ((src d).filterMap (f d) ++ (its.drop (i + 1)).flatMap (fun d => (src d).filterMap (f d))) := by
      conv => lhs; rw [← List.take_append_drop i its, List.drop_eq_getElem_cons hi, hd2]
      rw [List.flatMap_append, List.flatMap_cons]
    refine h i d _ _ _ hd (sub _) ⟨fun j acc1 μ5 => acc1 = (its.take i).flatMap (fun d => (src d).filterMap (f d)) ++ ((src d).take j).filterMap (f d) ∧ μ5 = setS μ L (.lst acc1), _, setS_same, ⟨by simp, rfl⟩, ?_, ?_⟩
    · rintro j d1 acc1 μ5 hd1 hu1 ⟨rfl, rfl⟩
      have ht1 : (src d).take (j + 1) = (src d).take j ++ [d1] := by rw [List.take_add_one, hd1]; rfl
      have hlen : ((its.take i).flatMap (fun d => (src d).filterMap (f d)) ++ ((src d).take (j + 1)).filterMap (f d)).length ≤ sizeLine := by
        rw [htot] at hz
        rw [List.length_append] at hz ⊢
        rw [List.length_append] at hz
        have : (((src d).take (j + 1)).filterMap (f d)).length ≤ ((src d).filterMap (f d)).length := by
          conv => rhs; rw [← List.take_append_drop (j + 1) (src d), List.filterMap_append, List.length_append]
          omega
        omega
      refine k i d j d1 _ _ _ hd hd1 (sub _) (fun y hy => ⟨_, setS_same, ?_, ?_, ?_⟩) (fun hn => ⟨_, setS_same, ?_, rfl⟩)
      · rw [ht1, List.filterMap_append] at hlen
        simp only [List.length_append, List.filterMap_cons, List.filterMap_nil, hy, List.length_cons, List.length_nil] at hlen ⊢
        omega
      · rw [ht1, List.filterMap_append, List.append_assoc]
        simp [hy]
      · rw [setS_setS]
      · rw [ht1, List.filterMap_append]
        simp [hn]
    · rintro acc1 μ5 _ ⟨rfl, rfl⟩
      refine ⟨?_, rfl⟩
      rw [ht, List.flatMap_append, List.take_length]
      simp
  · rintro acc μ' _ ⟨rfl, rfl⟩
    rw [List.take_length]
    exact q L hL
end Dl

namespace Dl
open PySem L2
/-! ### plain values as data, and their equality -/
structure Enc (α : Type) [DecidableEq α] where
  enc : α → D
  py : α → PyData
  ok : ∀ a, pyD (enc a) = some (py a)
  lay : ∀ a, (py a).canLay0 = true
  n : Nat
  dep : ∀ a, (py a).depth ≤ n
  eqv : ∀ a b, PyData.eqv (py a) (py b) = decide (a = b)
theorem enc_shaped {α : Type} [DecidableEq α] (E : Enc α) (h : E.n ≤ 64) (a : α) : SeqAt.shaped (E.py a) = true := by
  unfold SeqAt.shaped
  rw [E.lay, decide_eq_true (Nat.le_trans (E.dep a) h)]
  rfl
theorem encs_ok {α : Type} [DecidableEq α] (E : Enc α) : ∀ as : List α, pyDs (as.map E.enc) = some (as.map E.py)
  | [] => by rw [List.map_nil, List.map_nil, pyDs]
  | a :: as => by rw [List.map_cons, pyDs, E.ok, encs_ok E as]; rfl
theorem encs_lay {α : Type} [DecidableEq α] (E : Enc α) : ∀ as : List α, PyData.canLayAll0 (as.map E.py) = true
  | [] => by rw [List.map_nil, PyData.canLayAll0]
  | a :: as => by rw [List.map_cons, PyData.canLayAll0, E.lay, encs_lay E as]; rfl
theorem encs_dep {α : Type} [DecidableEq α] (E : Enc α) : ∀ as : List α, PyData.depthAll (as.map E.py) ≤ E.n
  | [] => by rw [List.map_nil, PyData.depthAll]; exact Nat.zero_le _
  | a :: as => by rw [List.map_cons, PyData.depthAll]; exact Nat.max_le.mpr ⟨E.dep a, encs_dep E as⟩
theorem encs_eqv {α : Type} [DecidableEq α] (E : Enc α) : ∀ as bs : List α, PyData.eqvAll (as.map E.py) (bs.map E.py) = decide (as = bs)
  | [], [] => by simp [PyData.eqvAll]
  | [], b :: bs => by simp [PyData.eqvAll]
  | a :: as, [] => by simp [PyData.eqvAll]
  | a :: as, b :: bs => by
    rw [List.map_cons, List.map_cons, PyData.eqvAll, E.eqv, encs_eqv E as bs]
    by_cases h : a = b <;> by_cases k : as = bs <;> simp [h, k]
def eInt : Enc Int := ⟨.int, .int, fun _ => by rw [pyD], fun _ => by rw [PyData.canLay0], 0, fun _ => by rw [PyData.depth]; exact Nat.le_refl _, fun a b => by rw [PyData.eqv]; rfl⟩
def eNat : Enc Nat := ⟨fun n => .int n, fun n => .int n, fun _ => by rw [pyD], fun _ => by rw [PyData.canLay0], 0, fun _ => by rw [PyData.depth]; exact Nat.le_refl _, fun a b => by
  rw [PyData.eqv]
  by_cases h : a = b
  · simp [h]
  · have : ¬ ((a : Int) = (b : Int)) := by omega
    simp [h, this]⟩
def eTup {α : Type} [DecidableEq α] (E : Enc α) : Enc (List α) := ⟨fun as => .tup (as.map E.enc), fun as => .tuple (as.map E.py), fun as => by rw [pyD, encs_ok]; rfl, fun as => by rw [PyData.canLay0]; exact encs_lay E as, E.n + 1,
  fun as => by rw [PyData.depth]; exact Nat.succ_le_succ (encs_dep E as), fun as bs => by rw [PyData.eqv]; exact encs_eqv E as bs⟩
def eLst {α : Type} [DecidableEq α] (E : Enc α) : Enc (List α) := ⟨fun as => .lst (as.map E.enc), fun as => .list (as.map E.py), fun as => by rw [pyD, encs_ok]; rfl, fun as => by rw [PyData.canLay0]; exact encs_lay E as, E.n + 1,
  fun as => by rw [PyData.depth]; exact Nat.succ_le_succ (encs_dep E as), fun as bs => by rw [PyData.eqv]; exact encs_eqv E as bs⟩
def ePair {α β : Type} [DecidableEq α] [DecidableEq β] (E : Enc α) (F : Enc β) : Enc (α × β) := ⟨fun p => .tup [E.enc p.1, F.enc p.2], fun p => .tuple [E.py p.1, F.py p.2], fun p => by rw [pyD, pyDs, E.ok, pyDs, F.ok, pyDs]; rfl,
  fun p => by rw [PyData.canLay0, PyData.canLayAll0, E.lay, PyData.canLayAll0, F.lay, PyData.canLayAll0]; rfl, max E.n F.n + 1,
  fun p => by
    rw [PyData.depth, PyData.depthAll, PyData.depthAll, PyData.depthAll]
    have h1 := E.dep p.1
    have h2 := F.dep p.2
    omega,
  fun p q => by
    rw [PyData.eqv, PyData.eqvAll, E.eqv, PyData.eqvAll, F.eqv, PyData.eqvAll]
    obtain ⟨a, b⟩ := p
    obtain ⟨c, d⟩ := q
    by_cases h : a = c <;> by_cases k : b = d <;> simp [h, k]⟩
theorem scD_enc {d e : D} (h : scD d e = none ∨ ∃ b, scD d e = some b) : True := trivial
/-- == and != over plain values -/
theorem oEq_enc {α : Type} [DecidableEq α] (E : Enc α) (h : E.n ≤ 64) (a b : α) (hs : scD (E.enc a) (E.enc b) = none) (μ : Store) (P : D → Store → Prop) (hr : ∀ x : α, ∀ p, E.enc x ≠ .ref p) : oEq (E.enc a) (E.enc b) μ P = P (.bl (decide (a = b))) μ := by
  have e1 : ∀ x, pyS μ (E.enc x) = some (E.py x) := fun x => by
    have := E.ok x
    unfold pyS
    cases q : E.enc x with
    | ref p => exact absurd q (hr x p)
    | _ => rw [q] at this; exact this
  unfold oEq
  rw [hs, e1, e1]
  dsimp only
  rw [enc_shaped E h, enc_shaped E h, E.eqv]
  simp
theorem oNe_enc {α : Type} [DecidableEq α] (E : Enc α) (h : E.n ≤ 64) (a b : α) (hs : scD (E.enc a) (E.enc b) = none) (μ : Store) (P : D → Store → Prop) (hr : ∀ x : α, ∀ p, E.enc x ≠ .ref p) : oNe (E.enc a) (E.enc b) μ P = P (.bl (!decide (a = b))) μ := by
  have e1 : ∀ x, pyS μ (E.enc x) = some (E.py x) := fun x => by
    have := E.ok x
    unfold pyS
    cases q : E.enc x with
    | ref p => exact absurd q (hr x p)
    | _ => rw [q] at this; exact this
  unfold oNe
  rw [hs, e1, e1]
  dsimp only
  rw [enc_shaped E h, enc_shaped E h, E.eqv]
  simp
theorem oEq_tup {α : Type} [DecidableEq α] (E : Enc α) (h : E.n + 1 ≤ 64) (a b : List α) (μ : Store) (P : D → Store → Prop) : oEq (.tup (a.map E.enc)) (.tup (b.map E.enc)) μ P = P (.bl (decide (a = b))) μ := oEq_enc (eTup E) h a b rfl μ P fun _ _ z => nomatch z
theorem oNe_tup {α : Type} [DecidableEq α] (E : Enc α) (h : E.n + 1 ≤ 64) (a b : List α) (μ : Store) (P : D → Store → Prop) : oNe (.tup (a.map E.enc)) (.tup (b.map E.enc)) μ P = P (.bl (!decide (a = b))) μ := oNe_enc (eTup E) h a b rfl μ P fun _ _ z => nomatch z
theorem oEq_lst {α : Type} [DecidableEq α] (E : Enc α) (h : E.n + 1 ≤ 64) (a b : List α) (μ : Store) (P : D → Store → Prop) : oEq (.lst (a.map E.enc)) (.lst (b.map E.enc)) μ P = P (.bl (decide (a = b))) μ := oEq_enc (eLst E) h a b rfl μ P fun _ _ z => nomatch z
theorem oNe_lst {α : Type} [DecidableEq α] (E : Enc α) (h : E.n + 1 ≤ 64) (a b : List α) (μ : Store) (P : D → Store → Prop) : oNe (.lst (a.map E.enc)) (.lst (b.map E.enc)) μ P = P (.bl (!decide (a = b))) μ := oNe_enc (eLst E) h a b rfl μ P fun _ _ z => nomatch z
/-! ### list.pop(i) -/
section
variable {X : Cx}
def oPopAt : OM := fun x ds μ P => match x, ds with
  | .ref a, [.int i] => (match μ a with
    | some (.lst xs) => (-(2 ^ 63) ≤ i ∧ i < 2 ^ 63) ∧ ∃ k y, seqIndex? i xs.length = some k ∧ xs[k]? = some y ∧ P y (setS μ a (.lst (xs.eraseIdx k)))
    | _ => False)
  | _, _ => False
theorem rps_erase {K : PySem.W.Frag} {G : Hp} : ∀ {k : Nat} {ds : List D} {vs : List V}, Rps K G ds vs → Rps K G (ds.eraseIdx k) (vs.eraseIdx k)
  | _, _, _, .nil => by simp; exact .nil
  | 0, _, _, .cons _ r => r
  | k + 1, _, _, .cons a r => .cons a (rps_erase (k := k) r)
theorem bm_popat : BMok X "pop" "list" oPopAt := ⟨_, _, F.plainAttrs_list, F.slot_list_pop, F.type_list_pop, mt_popAt, fun {x ds μ P G H v vs Q} h m rx rs t => by
  unfold oPopAt at h
  split at h
  · rename_i a i
    cases rx
    cases rs with | cons r1 r2 =>
    cases r1
    cases r2
    cases q : μ a with
    | none => rw [q] at h; exact h.elim
    | some c =>
      rw [q] at h
      cases c with
      | lst xs =>
        obtain ⟨h0, ws, h1, r⟩ := m.st a _ q
        obtain ⟨⟨b1, b2⟩, k, y, hk, hy, p⟩ := h
        obtain ⟨v, hv, rv⟩ := r.getL hy
        exact ⟨a, ws, i, k, v, rfl, rfl, h1, b1, b2, by rw [← r.length]; exact hk, hv, t _ _ _ _ _ p (Ex.refl _) (m.write h0 ⟨_, upd_same, rps_erase r⟩) rv⟩
      | _ => exact h.elim
  · exact h.elim⟩
end
end Dl

namespace Dl
open PySem L2
/-! ### defs with defaults, methods, classes -/
section
variable {P : Program} {w : World} {K : PySem.W.Frag} {mg : Str → Option Value} {base : Heap}
/-- a def of the text with its defaults dsV -/
structure FnAt (K : PySem.W.Frag) (x qual : Str) (st : Stmt) (dsV : List Value) (f : Addr) (fd : FuncData) : Prop where
  ex : ∃ (oc : Value) (od : Option Addr) (dV kV doc pm : Value) (an : Option Addr) (cdv ct : Value) (osl : Array (Option Value)), fd = PySem.W.fnOf x qual (defArgs st) (defBody st) (defScope st) dV kV doc pm an cdv ct ∧
    K.lookup f = some ⟨oc, od, .func fd, osl⟩ ∧ PySem.W.codeIn K cdv qual = true ∧ ((dsV = [] ∧ dV = .none) ∨ dsV ≠ [] ∧ ∃ (T : Addr) (o : Obj) (n : Nat), dV = .ref T ∧ K.lookup T = some o ∧ o.data = .seq dsV.toArray n)
theorem FnAt.mk0 {x qual : Str} {st : Stmt} {f : Addr} {oc : Value} {od an : Option Addr} {osl : Array (Option Value)} {kV doc pm cdv ct : Value} (l : K.lookup f = some ⟨oc, od, .func (PySem.W.fnOf x qual (defArgs st) (defBody st) (defScope st) .none kV doc pm an cdv ct), osl⟩) (c : PySem.W.codeIn K cdv qual = true) :
    FnAt K x qual st [] f (PySem.W.fnOf x qual (defArgs st) (defBody st) (defScope st) .none kV doc pm an cdv ct) := ⟨⟨oc, od, .none, kV, doc, pm, an, cdv, ct, osl, rfl, l, c, .inl ⟨rfl, rfl⟩⟩⟩
theorem FnAt.mkD {x qual : Str} {st : Stmt} {f T : Addr} {oc tc : Value} {od an td : Option Addr} {osl tsl : Array (Option Value)} {kV doc pm cdv ct : Value} {dsV : List Value} {n : Nat}
    (l : K.lookup f = some ⟨oc, od, .func (PySem.W.fnOf x qual (defArgs st) (defBody st) (defScope st) (.ref T) kV doc pm an cdv ct), osl⟩) (c : PySem.W.codeIn K cdv qual = true) (d : K.lookup T = some ⟨tc, td, .seq dsV.toArray n, tsl⟩) (hne : dsV ≠ []) :
    FnAt K x qual st dsV f (PySem.W.fnOf x qual (defArgs st) (defBody st) (defScope st) (.ref T) kV doc pm an cdv ct) := ⟨⟨oc, od, .ref T, kV, doc, pm, an, cdv, ct, osl, rfl, l, c, .inr ⟨hne, T, _, n, rfl, d, rfl⟩⟩⟩
theorem FnAt.ok {x qual : Str} {st : Stmt} {dsV : List Value} {f : Addr} {fd : FuncData} {N ps : List Str} {k : Nat} {d : DSp} {ws : WS} (F : FnAt K x qual st dsV f fd) (S : FnScope N ps (defScope st)) (len : ∀ ds μ Q, d ds μ Q → ds.length = ps.length)
    (hb : ∀ (cdv : Value) (A : Around) (outer : List PySem.Env) (s : Shared) (H : Hp) (E : XK), Room k (A.deeper (PyProof.Rows.envOfC qual (defScope st) s.heap.objs.size f cdv)) → DSs (cxOf CX0 P w K mg base N qual (defScope st) f cdv A outer s H E).nox (defBody st) ws)
    (ok : ∀ ds μ Q, d ds μ Q → ws { nx := fun _ μ' => ∃ μ2, Sub μ2 μ' ∧ Q .non μ2, rt := Q } (startD N ds) μ) : FnOk P w K mg base CX0 (k + 1) f fd ps (LSp K d) := by
  obtain ⟨oc, od, dV, kV, doc, pm, an, cdv, ct, osl, rfl, lk, hcd, _⟩ := F.ex
  refine fn_of lk hcd S (fun vs H Q E ⟨ds, μ, G, R, r, m, h, t⟩ => by rw [← r.length]; exact len _ _ _ h) fun A outer s H vs Q E hr ⟨ds, μ, G, R, r, m, h, t⟩ => ?_
  exact ⟨_, (hb cdv A outer s H E hr).p.nox, startD N ds, μ, G, _, env_start r, m, ok ds μ R h, ⟨fun ρ' μ' σ' H' G' ⟨μ2, sb, p⟩ e _ m' => t _ _ _ _ _ p e (m'.sub sb) .non, fun d μ' v H' G' p e m' r' => t _ _ _ _ _ p e m' r', fun _ _ _ _ _ p => p.elim, fun _ _ _ _ _ p => p.elim⟩⟩
theorem FnAt.binds0 {x qual : Str} {st : Stmt} {f : Addr} {fd : FuncData} {ps : List Str} (F : FnAt K x qual st [] f fd) (h : ∀ (kV doc pm : Value) (an : Option Addr) (cdv ct : Value) (us : List Value), us.length = ps.length → bindArgs (PySem.W.fnOf x qual (defArgs st) (defBody st) (defScope st) .none kV doc pm an cdv ct) ⟨us, []⟩ = pure (ps.zip us)) : Binds K fd ps [] := by
  obtain ⟨oc, od, dV, kV, doc, pm, an, cdv, ct, osl, rfl, lk, hcd, e⟩ := F.ex
  intro s us X hl
  rw [List.append_nil] at hl ⊢
  rcases e with ⟨_, rfl⟩ | ⟨e, _⟩
  · exact .of_eq (h kV doc pm an cdv ct us hl)
  · exact (e rfl).elim
theorem FnAt.binds {x qual : Str} {st : Stmt} {dsV ds : List Value} {f : Addr} {fd : FuncData} {ps : List Str} (n : Nat) (F : FnAt K x qual st dsV f fd) (hne : dsV ≠ []) (hn : ps.length = n + ds.length) (h : ∀ (T : Addr) (kV doc pm : Value) (an : Option Addr) (cdv ct : Value) (us : List Value), us.length = n →
      ∃ k, bindArgs (PySem.W.fnOf x qual (defArgs st) (defBody st) (defScope st) (.ref T) kV doc pm an cdv ct) ⟨us, []⟩ = (seqItems? (.ref T) >>= k) ∧ k (some dsV.toArray) = pure (ps.zip (us ++ ds))) : Binds K fd ps ds := by
  obtain ⟨oc, od, dV, kV, doc, pm, an, cdv, ct, osl, rfl, lk, hcd, e⟩ := F.ex
  intro s us X hl
  rcases e with ⟨e, _⟩ | ⟨_, T, o, n, rfl, hT2, hd⟩
  · exact (hne e).elim
  · obtain ⟨k, h1, h2⟩ := h T kV doc pm an cdv ct us (by rw [List.length_append] at hl; omega)
    exact PySem.W.binds_K X rfl hT2 hd h1 h2
/-- .. under its name -/
structure DefD (K : PySem.W.Frag) (mg : Str → Option Value) (x : Str) (st : Stmt) (dsV : List Value) : Prop where
  ex : ∃ (f : Addr) (fd : FuncData), FnAt K x x st dsV f fd ∧ mg x = some (.ref f) ∧ PySem.W.keepIn K (.ref f) = true
/-- a method of a class -/
structure MetAt (K : PySem.W.Frag) (C : Addr) (m qual : Str) (st : Stmt) (dsV : List Value) : Prop where
  ex : ∃ (f : Addr) (fd : FuncData), Meth K C m f ∧ FnAt K m qual st dsV f fd
structure ClsAt (K : PySem.W.Frag) (mg : Str → Option Value) (x : Str) (C : Addr) : Prop where
  cl : Cls K C
  g : mg x = some (.ref C)
  mks : PySem.W.makesIn K C = true
  kp : PySem.W.keepIn K (.ref C) = true
structure DMak (P : Program) (w : World) (K : PySem.W.Frag) (mg : Str → Option Value) (base : Heap) (k : Nat) (x : Str) (C : Addr) (d : DSp) (dds : List D) : Prop where
  ex : ∃ (f : Addr) (fd : FuncData) (ps : List Str) (ds : List Value) (dvs : List V), Mk K C f ∧ FnOk P w K mg base CX0 k f fd ps (LSp K d) ∧ mg x = some (.ref C) ∧ Binds K fd ps ds ∧ Vals dvs ds ∧ ∀ G, Rps K G dds dvs
structure DMet (P : Program) (w : World) (K : PySem.W.Frag) (mg : Str → Option Value) (base : Heap) (k : Nat) (C : Addr) (m : Str) (d : DSp) (dds : List D) : Prop where
  ex : ∃ (f : Addr) (fd : FuncData) (ps : List Str) (ds : List Value) (dvs : List V), Cls K C ∧ Meth K C m f ∧ FnOk P w K mg base CX0 k f fd ps (LSp K d) ∧ Binds K fd ps ds ∧ Vals dvs ds ∧ ∀ G, Rps K G dds dvs
end
section
variable {X : Cx} {j k : Nat} {x m : Str} {C : Addr} {d : DSp} {dds : List D} {p pos apos : Pos} {e o : Expr} {es : List Expr} {wa : WA} {wo : WE}
theorem de_mak (c : DMak X.prog X.w X.K X.mg X.base k x C d dds) (hr : Room j X.A) (hk : k + 1 ≤ j) (hg : Gl X x) (ha : DA X (e :: es) wa) (hdb : (x == ("__debug__" : Str)) = false := by decide)
    (he : starEach (e :: es) X.env = (false, eval e X.env) :: starEach es X.env := by rfl) (hpl : (backTo pos (starEach es X.env)).any (·.1) = false := by rfl) : DE X (.Call (.Name x p) (e :: es) [] pos) (wMake C d dds wa) := by
  obtain ⟨f, fd, ps, ds, dvs, M, F, m, b, vd, rd⟩ := c.ex
  exact de_make M F (hr.mono hk) hg m b vd rd ha hdb he hpl
theorem de_mak0 (c : DMak X.prog X.w X.K X.mg X.base k x C d dds) (hr : Room j X.A) (hk : k + 1 ≤ j) (hg : Gl X x) (hdb : (x == ("__debug__" : Str)) = false := by decide) : DE X (.Call (.Name x p) [] [] pos) (wMake C d dds wANil) := by
  obtain ⟨f, fd, ps, ds, dvs, M, F, m, b, vd, rd⟩ := c.ex
  exact de_make0 M F (hr.mono hk) hg m b vd rd hdb
theorem de_makM (c : DMak X.prog X.w X.K X.mg X.base k x C d dds) (hr : Room j X.A) (hk : k + 1 ≤ j) (hg : Gl X x) (ha : DA X (e :: es) wa) (hdb : (x == ("__debug__" : Str)) = false := by decide)
    (he : starEach (e :: es) X.env = (false, eval e X.env) :: starEach es X.env := by rfl) (hpl : (backTo pos (starEach es X.env)).any (·.1) = false := by rfl) : DE X (.Call (.Name x p) (e :: es) [] pos) (wMakeM C d dds wa) := by
  obtain ⟨f, fd, ps, ds, dvs, M, F, m, b, vd, rd⟩ := c.ex
  exact de_makeM M F (hr.mono hk) hg m b vd rd ha hdb he hpl
theorem de_mak0M (c : DMak X.prog X.w X.K X.mg X.base k x C d dds) (hr : Room j X.A) (hk : k + 1 ≤ j) (hg : Gl X x) (hdb : (x == ("__debug__" : Str)) = false := by decide) : DE X (.Call (.Name x p) [] [] pos) (wMakeM C d dds wANil) := by
  obtain ⟨f, fd, ps, ds, dvs, M, F, m, b, vd, rd⟩ := c.ex
  exact de_make0M M F (hr.mono hk) hg m b vd rd hdb
theorem de_met {pl : Sem Bool} (c : DMet X.prog X.w X.K X.mg X.base k C m d dds) (hr : Room j X.A) (hk : k ≤ j) (ho : DE X o wo) (ha : DA X (e :: es) wa)
    (hst : starEach (e :: es) X.env = (false, eval e X.env) :: starEach es X.env := by rfl) (hpl : (backTo pos (starEach es X.env)).any (·.1) = false := by rfl)
    (ht : eval (.Call (.Attribute o m apos) (e :: es) [] pos) X.env = (do
      let ov ← eval o X.env
      standAt apos.atName
      let (f, first) ← holding [ov] (getMethod ov m pl)
      callWith pos f first (backTo pos (starEach (e :: es) X.env)) (backToKw pos (keywordEach [] X.env))) := by rfl) : DE X (.Call (.Attribute o m apos) (e :: es) [] pos) (wMeth C m d dds wo wa) := by
  obtain ⟨f, fd, ps, ds, dvs, hc, hm, F, b, vd, rd⟩ := c.ex
  exact de_meth (pl := pl) ho hc hm F (hr.mono hk) b vd rd ha hst hpl ht
theorem de_met0 {pl : Sem Bool} (c : DMet X.prog X.w X.K X.mg X.base k C m d dds) (hr : Room j X.A) (hk : k ≤ j) (ho : DE X o wo)
    (ht : eval (.Call (.Attribute o m apos) [] [] pos) X.env = (do
      let ov ← eval o X.env
      standAt apos.atName
      let (f, first) ← holding [ov] (getMethod ov m pl)
      callWith pos f first (backTo pos (starEach [] X.env)) (backToKw pos (keywordEach [] X.env))) := by rfl) : DE X (.Call (.Attribute o m apos) [] [] pos) (wMeth C m d dds wo wANil) := by
  obtain ⟨f, fd, ps, ds, dvs, hc, hm, F, b, vd, rd⟩ := c.ex
  exact de_meth0 (pl := pl) ho hc hm F (hr.mono hk) b vd rd ht
/-- what is never reached -/
def wNeverE : WE := fun _ _ _ => False
theorem de_never {e : Expr} : DE X e wNeverE := ⟨⟨fun _ _ _ _ _ _ ⟨_, _, _, _, _, _, h, _⟩ => h.elim⟩⟩
def wNeverT : WT := fun _ _ _ => False
theorem dt_never {e : Expr} : DT X e wNeverT := ⟨⟨fun _ _ _ _ _ _ ⟨_, _, _, _, _, _, h, _⟩ => h.elim⟩⟩
/-- a class by its name -/
theorem de_cls {x : Str} {C : Addr} {p : Pos} (c : ClsAt X.K X.mg x C) (hg : Gl X x := by rfl) (hd : (x == ("__debug__" : Str)) = false := by decide) : DE X (.Name x p) (wC (.ref C)) := de_c (pe_glob hg c.g (show RelV (.ref C) (.ref C) from rfl) hd) fun _ => .ref C
/-- a tuple of texts that the top holds -/
theorem de_gt {x : Str} {ys : List Str} {p : Pos} (h : ∃ (T : Addr) (o : Obj) (n : Nat) (us : List Value), X.mg x = some (.ref T) ∧ X.K.lookup T = some o ∧ o.cls = .type "tuple" ∧ o.data = .seq us.toArray n ∧ Vals (ys.map V.str) us ∧ us.length ≤ sizeLine) (hg : Gl X x := by rfl) (hd : (x == ("__debug__" : Str)) = false := by decide) :
    DE X (.Name x p) (wC (.tup (ys.map .str))) := by
  obtain ⟨T, o, n, us, hm, hT, hc, hda, hv, hz⟩ := h
  have rps : ∀ (G : Hp) (ys : List Str), Rps X.K G (ys.map D.str) (ys.map V.str) := fun G ys => by
    induction ys with
    | nil => exact .nil
    | cons y r ih => exact .cons (.str y) ih
  exact de_c (pe_glob hg hm (show RelV (.ref T) (.ref T) from rfl) hd) fun G => .tup (.inr ⟨o, us.toArray, n, hT, hc, hda, by simpa using hz, by simpa using hv⟩) (rps G ys)
end
/-! ### each under its name, callable with so many arguments -/
section
variable {P : Program} {w : World} {K : PySem.W.Frag} {mg : Str → Option Value} {base : Heap}
theorem DefD.cal {x : Str} {st : Stmt} {dsV ds : List Value} {dvs : List V} {dds : List D} {N ps : List Str} {k : Nat} {d : DSp} {ws : WS} (D : DefD K mg x st dsV) (S : FnScope N ps (defScope st)) (len : ∀ ds μ Q, d ds μ Q → ds.length = ps.length)
    (hb : ∀ {f : Addr} (cdv : Value) (A : Around) (outer : List PySem.Env) (s : Shared) (H : Hp) (E : XK), Room k (A.deeper (PyProof.Rows.envOfC x (defScope st) s.heap.objs.size f cdv)) → DSs (cxOf CX0 P w K mg base N x (defScope st) f cdv A outer s H E).nox (defBody st) ws)
    (ok : ∀ ds μ Q, d ds μ Q → ws { nx := fun _ μ' => ∃ μ2, Sub μ2 μ' ∧ Q .non μ2, rt := Q } (startD N ds) μ) (b : ∀ {f fd}, FnAt K x x st dsV f fd → Binds K fd ps ds) (vd : Vals dvs ds) (rd : ∀ G, Rps K G dds dvs) : DCal P w K mg base (k + 1) x d dds := by
  obtain ⟨f, fd, F, m, kp⟩ := D.ex
  exact ⟨f, fd, ps, ds, dvs, F.ok S len (hb (f := f)) ok, m, kp, b F, vd, rd⟩
theorem MetAt.met {C : Addr} {m qual : Str} {st : Stmt} {dsV ds : List Value} {dvs : List V} {dds : List D} {N ps : List Str} {k : Nat} {d : DSp} {ws : WS} (D : MetAt K C m qual st dsV) (c : Cls K C) (S : FnScope N ps (defScope st)) (len : ∀ ds μ Q, d ds μ Q → ds.length = ps.length)
    (hb : ∀ {f : Addr} (cdv : Value) (A : Around) (outer : List PySem.Env) (s : Shared) (H : Hp) (E : XK), Room k (A.deeper (PyProof.Rows.envOfC qual (defScope st) s.heap.objs.size f cdv)) → DSs (cxOf CX0 P w K mg base N qual (defScope st) f cdv A outer s H E).nox (defBody st) ws)
    (ok : ∀ ds μ Q, d ds μ Q → ws { nx := fun _ μ' => ∃ μ2, Sub μ2 μ' ∧ Q .non μ2, rt := Q } (startD N ds) μ) (b : ∀ {f fd}, FnAt K m qual st dsV f fd → Binds K fd ps ds) (vd : Vals dvs ds) (rd : ∀ G, Rps K G dds dvs) : DMet P w K mg base (k + 1) C m d dds := by
  obtain ⟨f, fd, me, F⟩ := D.ex
  exact ⟨f, fd, ps, ds, dvs, c, me, F.ok S len (hb (f := f)) ok, b F, vd, rd⟩
theorem MetAt.mak {x : Str} {C : Addr} {qual : Str} {st : Stmt} {dsV ds : List Value} {dvs : List V} {dds : List D} {N ps : List Str} {k : Nat} {d : DSp} {ws : WS} (D : MetAt K C "__init__" qual st dsV) (c : ClsAt K mg x C) (S : FnScope N ps (defScope st)) (len : ∀ ds μ Q, d ds μ Q → ds.length = ps.length)
    (hb : ∀ {f : Addr} (cdv : Value) (A : Around) (outer : List PySem.Env) (s : Shared) (H : Hp) (E : XK), Room k (A.deeper (PyProof.Rows.envOfC qual (defScope st) s.heap.objs.size f cdv)) → DSs (cxOf CX0 P w K mg base N qual (defScope st) f cdv A outer s H E).nox (defBody st) ws)
    (ok : ∀ ds μ Q, d ds μ Q → ws { nx := fun _ μ' => ∃ μ2, Sub μ2 μ' ∧ Q .non μ2, rt := Q } (startD N ds) μ) (b : ∀ {f fd}, FnAt K "__init__" qual st dsV f fd → Binds K fd ps ds) (vd : Vals dvs ds) (rd : ∀ G, Rps K G dds dvs) : DMak P w K mg base (k + 1) x C d dds := by
  obtain ⟨f, fd, me, F⟩ := D.ex
  exact ⟨f, fd, ps, ds, dvs, ⟨c.mks, me.at_, me.fn, c.kp⟩, F.ok S len (hb (f := f)) ok, c.g, b F, vd, rd⟩
end
end Dl

namespace Dl
open PySem L2
section
variable {X : Cx}
/-! ### {k: v for ..}, made to change -/
def dcBody (its : List D) (g : WG) (tt : WT) (wk wv : WE) (vs : List Nat) (fin : Addr → List (Key × D) → Store → Prop) (ρ : Env) (μ1 : Store) : Prop := its.length ≤ sizeLine ∧ ∀ L, μ1 L = none → ∃ I : Nat → List (Key × D) → Store → Prop, I 0 [] (setS μ1 L (.dct [])) ∧
  (∀ i d acc μ', its[i]? = some d → μ' L = some (.dct acc) → I i acc μ' → g d (wipeE ρ vs) μ' fun ρ2 μ2 => tt ρ2 μ2 fun b μ3 => if b = true then wk ρ2 μ3 fun x μ4 => wv ρ2 μ4 fun y μ5 => ∃ k, keyD x = some k ∧ μ5 L = some (.dct acc) ∧ acc.length < sizeLine ∧ I (i + 1) (putD acc k y) (setS μ5 L (.dct (putD acc k y)))
    else μ3 L = some (.dct acc) ∧ I (i + 1) acc μ3) ∧
  ∀ acc μ', μ' L = some (.dct acc) → I its.length acc μ' → fin L acc μ'
def wDcM (wi : WI) (g : WG) (tt : WT) (wk wv : WE) (vs : List Nat) : WE := fun ρ μ P => wi ρ μ fun its μ1 => dcBody its g tt wk wv vs (fun L _ μ' => P (.ref L) μ') ρ μ1
theorem ldc {K : PySem.W.Frag} {wi : WI} {g : TG} {wg : WG} {tt : WT} {wk wv : WE} {vs : List Nat} {fin : Addr → List (Key × D) → Store → Prop} {σ : L2.St} {H : Hp} {Q : VK} {ρ : Env} {μ : Store} {G : Hp} (hg : GPat K vs g wg) (he : EnvR K G ρ σ) (hm : Sm K μ G H)
    (hw : wi ρ μ fun its μ1 => dcBody its wg tt wk wv vs fin ρ μ1) (hf : ∀ L acc μ' H' G', fin L acc μ' → μ' L = some (.dct acc) → Ex G G' → Sm K μ' G' H' → Q (.ref L) H') : tDc (LI K wi) g (LT K tt) (LE K wk) (LE K wv) vs σ H Q := by
  refine ⟨ρ, μ, G, _, he, hm, hw, ?_⟩
  rintro its μ1 H1 G1 J ⟨hz, hI⟩ e1 m1 hJ L hL
  obtain ⟨I, h0, hturn, hend⟩ := hI L (m1.nn hL)
  refine ⟨fun i m H' => m = its.length - i ∧ i ≤ its.length ∧ ∃ acc μ' G', Ex G1 G' ∧ Sm K μ' G' H' ∧ μ' L = some (.dct acc) ∧ I i acc μ',
    ⟨its.length, by simp, Nat.zero_le _, [], _, G1, Ex.refl _, m1.write (c := .dct []) (m1.ex.nn hL) ⟨[], upd_same, rfl, .nil⟩, setS_same, h0⟩, ?_⟩
  rintro i m H' ⟨rfl, hi, acc, μ', G', e', hm', uD, hI⟩
  obtain ⟨wgo, wstop⟩ := hJ i H' G' μ' e' hm'
  by_cases hlt : i < its.length
  · obtain ⟨go, yl⟩ := wgo hlt
    refine .inr ⟨go, fun H2 => ∃ acc2 μ2 G2, Ex G1 G2 ∧ Sm K μ2 G2 H2 ∧ μ2 L = some (.dct acc2) ∧ I (i + 1) acc2 μ2, fun H2 ⟨a, b, c, x1, x2, x3, x5⟩ => ⟨its.length - (i + 1), by omega, rfl, hlt, a, b, c, x1, x2, x3, x5⟩, fun x H2 hy => ?_⟩
    obtain ⟨G3, d, hd, e3, m3, r3⟩ := yl x H2 hy
    have heW : EnvR K G3 (wipeE ρ vs) (L2.wipe σ vs) := ((((he.mono e1).mono e').mono e3)).wipe vs
    refine hg heW m3 r3 (hturn i d acc μ' hd uD hI) fun ρ4 μ4 σ4 H4 G4 p4 e4 he4 hm4 q4 => ⟨q4.trans (wipe_wipe fun _ h => h), ρ4, μ4, G4, _, he4, hm4, p4, fun b μ5 H5 G5 p5 e5 m5 => ?_⟩
    have eG : Ex G1 G5 := ((e'.trans e3).trans e4).trans e5
    cases b with
    | true =>
      rw [if_pos rfl] at p5
      refine iteT ?_
      refine ⟨ρ4, μ5, G5, _, he4.mono e5, m5, p5, fun x6 μ6 v6 H6 G6 p6 e6 m6 r6 => ⟨ρ4, μ6, G6, _, (he4.mono e5).mono e6, m6, p6, fun y μ7 v7 H7 G7 p7 e7 m7 r7 => ?_⟩⟩
      obtain ⟨k, hk, u7, hzl, hI7⟩ := p7
      obtain ⟨h0, kvs, h1, ek, rr⟩ := m7.st L _ u7
      obtain ⟨i1, i2⟩ := putD_keys (k := k) r7 ek rr
      exact ⟨kvs, k, keyD_ok hk (r6.mono e7), h1, by rw [len_keys ek]; exact hzl, putD acc k y, _, G7, (eG.trans e6).trans e7, m7.write (c := .dct (putD acc k y)) h0 ⟨_, upd_same, i1, i2⟩, setS_same, hI7⟩
    | false =>
      rw [if_neg Bool.false_ne_true] at p5
      refine iteF ?_
      exact ⟨acc, μ5, G5, eG, m5, p5.1, p5.2⟩
  · have ei : i = its.length := by omega
    subst ei
    exact .inl ⟨wstop (Nat.le_refl _), hf _ _ _ _ _ (hend acc μ' uD hI) uD (e1.trans e') hm'⟩
theorem de_dcM {kx vx tg iter : Expr} {ifs : List Expr} {scope : Scope} {own : List (Str × Nat)} {pos : Pos} {wi : WI} {g : TG} {wg : WG} {tt : WT} {wk wv : WE} (hc : X.calm = true) (hN : X.N.Nodup) (hi : DI X tg iter wi) (ok : BlkOk X.N X.env.scope scope own) (hp : GPat X.K (own.map (·.2)) g wg)
    (hg : ∀ (s : Shared) (H : Hp) (C : Addr) (cl : List (Str × Addr)) (fp : List Addr), PG (X.blk s H scope (compEnvC scope cl C X.env) fp) tg g) (ht : ∀ (s : Shared) (H : Hp) (C : Addr) (cl : List (Str × Addr)) (fp : List Addr), DTs (X.blk s H scope (compEnvC scope cl C X.env) fp) ifs tt)
    (hk : ∀ (s : Shared) (H : Hp) (C : Addr) (cl : List (Str × Addr)) (fp : List Addr), DE (X.blk s H scope (compEnvC scope cl C X.env) fp) kx wk)
    (he : ∀ (s : Shared) (H : Hp) (C : Addr) (cl : List (Str × Addr)) (fp : List Addr), DE (X.blk s H scope (compEnvC scope cl C X.env) fp) vx wv) (hs : ∀ x, foldedSetIterable iter X.env x = pure x := by intro _; rfl) :
    DE X (.DictComp kx vx [⟨tg, iter, ifs, 0⟩] scope pos) (wDcM wi wg tt wk wv (own.map (·.2))) :=
  ⟨wkE (pe_dc hc hN hi.p ok hg (fun s H C cl fp => (ht s H C cl fp).p) (fun s H C cl fp => (hk s H C cl fp).p) (fun s H C cl fp => (he s H C cl fp).p) hs) fun σ H Q ⟨ρ, μ, G, P, hr, hm, hw, htl⟩ => ldc hp hr hm hw fun L acc μ' H' G' f u e m => htl _ _ _ _ _ f e m (.ref L)⟩
/-! ### over the keys of a dict that is only looked through -/
def tLockR (t : TE) : TE := fun σ H Q => t σ H fun v H1 => ∃ d kvs, v = .ref d ∧ H1 d = some (.dK kvs) ∧ ∀ od, Q v (upd H1 d (.frz od (.dK kvs)))
theorem pe_lockR {e : Expr} {t : TE} (h : PE X e t) : PE X e (tLockR t) := by
  refine ⟨fun pins s σ H Q I hw => thn (h.run pins s σ H _ I hw) fun v s1 ⟨x, H1, I1, r, d, kvs, ex, hd, q⟩ => ?_⟩
  obtain ⟨od, I2⟩ := I1.lock hd trivial
  exact ⟨x, _, I2, r, q od⟩
def keyV : Key → D
  | .inl i => .int i
  | .inr s => .str s
theorem keyV_ok {K : PySem.W.Frag} {G : Hp} : ∀ k : Key, Rp K G (keyV k) (kV k)
  | .inl i => .int i
  | .inr s => .str s
def wiKeysF (we : WE) : WI := fun ρ μ P => we ρ μ fun d μ1 => match d with
  | .ref a => (match μ1 a with | some (.dct kvs) => P (kvs.map fun kv => keyV kv.1) (delS μ1 a) | _ => False)
  | _ => False
theorem walk_k {K : PySem.W.Frag} {G : Hp} {d : Addr} {o : Obj} {kvs : List (Key × V)} {ds : List (Key × D)} (h : G d = some (.frz o (.dK kvs))) (e : kvs.map (·.1) = ds.map (·.1)) : Walk K G (Itk d o kvs) (ds.map fun kv => keyV kv.1) := fun i H G2 μ e2 m => by
  have hd := (e2.trans m.ex) _ _ h
  have hl : (ds.map fun kv => keyV kv.1).length = kvs.length := by rw [List.length_map]; exact (len_keys e).symm
  rw [hl]
  refine ⟨fun hi => ⟨⟨hd, hi⟩, fun x H' y => ?_⟩, fun hi => ⟨hd, hi⟩⟩
  obtain ⟨rfl, k, v, hk, rfl⟩ := y
  refine ⟨G2, keyV k, ?_, Ex.refl _, m, keyV_ok k⟩
  have h1 : (kvs.map (·.1))[i]? = some k := by rw [List.getElem?_map, hk]; rfl
  rw [e, List.getElem?_map] at h1
  rw [List.getElem?_map]
  cases q : ds[i]? with
  | none => rw [q] at h1; cases h1
  | some kv => rw [q] at h1; cases h1; rfl
theorem di_keysF {tg e : Expr} {we : WE} (h : DE X e we) : DI X tg e (wiKeysF we) :=
  ⟨wkI (pi_keys (pe_lockR h.p)) fun σ H R ⟨ρ, μ, G, P, he, hm, hw, ht⟩ => ⟨ρ, μ, G, _, he, hm, hw, fun x μ1 v H1 G1 p e1 m r => by
    split at p
    · rename_i a
      cases r
      split at p
      · rename_i kvs q
        obtain ⟨h0, vs, h1, ek, rr⟩ := m.st a _ q
        refine ⟨a, vs, rfl, h1, fun od => ⟨a, od, rfl, .inl ⟨vs, upd_same, ?_⟩⟩⟩
        have m2 : Sm X.K (delS μ1 a) (upd G1 a (.frz od (.dK vs))) (upd H1 a (.frz od (.dK vs))) := by
          refine ⟨m.ex.upd2 a _, fun b c hb => ?_⟩
          have hne : b ≠ a := by rintro rfl; rw [delS_same] at hb; cases hb
          rw [delS_ne hne] at hb
          obtain ⟨k1, k2⟩ := m.st b c hb
          exact ⟨by rw [upd_ne hne]; exact k1, k2.mono (Ex.new h0) (upd_ne hne)⟩
        exact ht _ _ _ _ _ p (e1.trans (Ex.new h0)) m2 (walk_k upd_same ek)
      · exact p.elim
    · exact p.elim⟩⟩
end
end Dl
namespace Dl
open PySem L2
section
variable {X : Cx}
/-! ### isinstance(x, (list, tuple)) -/
def lt2 : List D := [.ty "list", .ty "tuple"]
def lt2V : List V := [.ty "list", .ty "tuple"]
def lt2U : List Value := [.type "list", .type "tuple"]
theorem lt2_ok {K : PySem.W.Frag} {G : Hp} {xs : List V} (r : Rps K G lt2 xs) : xs = lt2V := by
  cases r with | cons r1 r2 =>
  cases r2 with | cons r2 r3 =>
  cases r1
  cases r2
  cases r3
  rfl
theorem lt2_vals {us : List Value} (r : Vals lt2V us) : us = lt2U := by
  obtain ⟨u1, u2, rfl, r1, r2⟩ := vals2 r
  have e1 : u1 = Value.type "list" := r1
  have e2 : u2 = Value.type "tuple" := r2
  rw [e1, e2]
  rfl
theorem kitTwo (K : PySem.W.Frag) (m : String) (hm : m ∈ ["NoneType", "bool", "int", "str", "tuple", "list", "dict"]) : PySem.W.kitAny K (.type m) lt2U = some (isTy m "list" || isTy m "tuple") := by
  have h1 := tyTab K "list" m (by simp) hm
  have h2 := tyTab K "tuple" m (by simp) hm
  unfold lt2U PySem.W.kitAny
  rw [h1]
  generalize isTy m "list" = a
  generalize isTy m "tuple" = b at h2 ⊢
  cases a
  · dsimp only
    unfold PySem.W.kitAny
    rw [h2]
    cases b <;> rfl
  · rfl
def oIsiS : OC := fun ds μ P => ∃ d ts, ds = [d, .tup ts] ∧ ts = lt2 ∧ ∃ m, tyD μ d = some m ∧ P (.bl (isTy m "list" || isTy m "tuple")) μ
theorem cs_isiS : CallS X (.builtin "isinstance") oIsiS := by
  refine ⟨_, CallR_or call_isiT call_isiK, ?_⟩
  intro ds μ P G H vs Q h m r t
  obtain ⟨d, ts, rfl, rfl, n, hn, p⟩ := h
  cases r with | cons r1 r2 =>
  cases r2 with | cons r2 r3 =>
  cases r3
  cases r2 with | tup hx r2 =>
  have hxs := lt2_ok r2
  subst hxs
  rcases hx with hx | ⟨o, its, k, h1, h2, h3, h4, h5⟩
  · exact .inl ⟨_, _, lt2V, _, lt2U, _, rfl, m.ex _ _ hx, .cons (.ty _) (.cons (.ty _) .nil), tyD_ok hn m r1, kitTwo _ _ (tyD_mem hn), t _ _ _ _ _ p (Ex.refl _) m (.bl _)⟩
  · have hus := lt2_vals h5
    obtain ⟨oc, od, dat, sl⟩ := o
    have e1 : oc = .type "tuple" := h2
    have e2 : dat = .seq its k := h3
    subst e1
    subst e2
    have e3 : its = lt2U.toArray := by rw [← hus, Array.toArray_toList]
    rw [e3] at h1
    exact .inr ⟨_, _, od, lt2U, k, sl, _, _, rfl, h1, tyD_ok hn m r1, kitTwo _ _ (tyD_mem hn), t _ _ _ _ _ p (Ex.refl _) m (.bl _)⟩
end
end Dl

namespace Dl
open PySem L2 PySem.W PySem.Calls PyProof.Rows
section
variable {prog : Program} {w : World} {A : Around} {E : Value → Shared → Prop} {s : Shared} {K : Frag} {x C : Addr} {ox : Obj} {od : Option Obj} {name : Str} {T id : String}
theorem ifBoundB {M : Model} {args : List Value} {Q : Option Value → Shared → Prop} (S : Slot T name id) (X : K.In s.heap) (I : InstAt s.heap x ox C od) (hs : findIn K (.ref C) name = some (some (.builtin id)))
    (h : wpAny M A (call (.builtin id) (.ref x :: args)) (fun v => Q (some v)) E s) : wpAny M A (callSpecialIfBound? (.ref x) name args) Q E s := by
  simp only [callSpecialIfBound?, bindSpecialIfBound?]
  refine wpAny_holding (wpAny_bind (wpAny_bind (wpAny_bind (I.type.here ((looks_findIn X hs).here ?_)))))
  simp only [S.bind]
  refine wpAny_bind (wpAny_askSetting (wpAny_ite ?_))
  have fin : wpAny M A (call (.builtin id) ([.ref x] ++ args) >>= fun v => pure (some v)) Q E s :=
    wpAny_bind (wpAny_mono h (fun v s' h' => wpAny_pure h') fun _ _ h' => h')
  split
  · exact wpAny_bind (wpAny_pure (wpAny_pure fin))
  · exact wpAny_tryCatch (wpAny_bind (wpAny_pure (wpAny_pure fin)))
theorem check_ne {M : Model} {b : Value} {Q : Unit → Shared → Prop} (X : K.In s.heap) (I : InstAt s.heap x ox C od) (hob : subIn K (.ref C) (.type "object") = some true) (hq : Q () s) :
    wpAny M A (checkBuiltinCall "object.__ne__" ⟨[.ref x, b], []⟩) Q E s := by
  simp only [checkBuiltinCall, F.cmpKind_ne, F.cmpSplit_ne]
  refine wpAny_bind ?_
  unfold isInstance
  refine wpAny_bind (I.type.here ((looks_subIn X hob).here ?_))
  have ha := F.cmpArgs_ne (.ref x) b
  cases hsig : Manifest.signature? "object.__ne__" with
  | none => exact wpAny_pure hq
  | some sig =>
    simp only [argsOk, hsig] at ha
    have h2 : Bind.checkArgs "object.__ne__" sig ⟨[.ref x, b], []⟩ = pure () := ha
    show wpAny M A (Bind.checkArgs "object.__ne__" sig ⟨[.ref x, b], []⟩) Q E _
    rw [h2]; exact wpAny_pure hq
theorem objNe_K {f : Addr} {b : Value} (X : K.In s.heap) (I : InstAt s.heap x ox C od) (hu : A.units < cLine) (hs : findIn K (.ref C) "__eq__" = some (some (.ref f))) (hf : isFn K (.ref f) = true) {Q : Fin → Shared → Prop}
    (hcall : wpAny (model prog w) A (call (.ref f) [.ref x, b]) (fun v s' => ∃ c, v = .bool c ∧ Q (.done (.ret (.bool (!c)))) s') E s) :
    wpAny (model prog w) A (Builtin.«object.__ne__» ⟨[.ref x, b], []⟩) Q E s := by
  unfold Builtin.«object.__ne__»
  repeat (first
    | with_reducible refine wpAny_cRoomFor hu ?_
    | (refine wpAny_bind (m := callSpecialIfBound? (.ref x) (Str.ofString "__eq__") [b])
        (ifBound_K X I hs hf (wpAny_mono hcall (fun r s' hr => by
          obtain ⟨c, rfl, hq⟩ := hr
          repeat (first | exact hq | exact wpAny_pure hq | exact wpAny_truthy_bool hq | (refine wpAny_bind (m := truthy (.bool _)) (wpAny_truthy_bool ?_)) | wp_step)) fun _ _ e => e)))
    | wp_step)
theorem ne_K {f : Addr} {b tb : Value} {Q : Value → Shared → Prop} (S : Slot T "__ne__" "object.__ne__") (hu : A.units + 1 < cLine) (X : K.In s.heap) (I : InstAt s.heap x ox C od) (hb : Looks (model prog w) s.heap (typeOf b) tb) (hn : notFirst K C tb = true)
    (hsn : findIn K (.ref C) "__ne__" = some (some (.builtin "object.__ne__"))) (hob : subIn K (.ref C) (.type "object") = some true) (hs : findIn K (.ref C) "__eq__" = some (some (.ref f))) (hf : isFn K (.ref f) = true)
    (h : wpAny (model prog w) A.in1 (call (.ref f) [.ref x, b]) (fun v s' => ∃ c, v = .bool c ∧ Q (.bool (!c)) s') E s) : wpAny (model prog w) A (richCompare .NotEq (.ref x) b) Q E s := by
  have one : wpAny (model prog w) A (tryCompare (.ref x) (cmpInfo .NotEq).2.1 b) (fun r s' => ∃ v, r = some v ∧ Q v s') E s := by
    rw [cmpInfo_NotEq]
    simp only [tryCompare]
    refine wpAny_bind (ifBoundB S X I hsn (wpAny_call (codeAny_call_builtin S.plain F.cmpEntry_ne (check_ne X I hob (objNe_K (A := A.in1) X I hu hs hf (wpAny_mono h (fun v s' hv => ?_) fun _ _ e => e))))))
    obtain ⟨c, rfl, hq⟩ := hv
    first | exact ⟨c, rfl, wpAny_pure ⟨_, rfl, hq⟩⟩ | exact ⟨c, rfl, wpAny_pure (wpAny_pure ⟨_, rfl, hq⟩)⟩ | exact ⟨c, rfl, ⟨_, rfl, hq⟩⟩
  unfold richCompare
  simp only [oneThing_ref]
  refine wpAny_holding (wpAny_bind (wpAny_cRoomFor (Nat.lt_of_succ_lt hu) ?_))
  refine wpAny_bind (I.type.here (wpAny_bind (hb.here ?_)))
  split
  · rename_i q
    have e : subIn K tb (.ref C) = some false := by
      rcases Bool.or_eq_true_iff.mp hn with e | e
      · rw [beq_iff_eq.mp e] at q; simp at q
      · exact beq_iff_eq.mp e
    refine wpAny_bind ((looks_subIn X e).here ?_)
    simp only [Bool.false_eq_true, if_false]
    refine wpAny_bind (wpAny_mono one (fun r s' z => ?_) fun _ _ e => e)
    obtain ⟨v, rfl, hq⟩ := z
    exact wpAny_pure hq
  · refine wpAny_bind (wpAny_pure ?_)
    simp only [Bool.false_eq_true, if_false]
    refine wpAny_bind (wpAny_mono one (fun r s' z => ?_) fun _ _ e => e)
    obtain ⟨v, rfl, hq⟩ := z
    exact wpAny_pure hq
end
end Dl

namespace Dl
open PySem L2
section
variable {X : Cx}
/-! ### == of two instances whose class tells it -/
theorem op_own {k : Nat} {C f : Addr} {fd : FuncData} {ps : List Str} {sp : Sp} (F : FnOk X.prog X.w X.K X.mg X.base CX0 k f fd ps sp) (hr : Room k X.A)
    (hs : PySem.W.findIn X.K (.ref C) "__eq__" = some (some (.ref f))) (hf : PySem.W.isFn X.K (.ref f) = true) (hb : Binds X.K fd ps []) :
    OpR X (compareOp .Eq) (fun x y H Q => ∃ a b dx dy fs gs, x = .ref a ∧ y = .ref b ∧ H a = some (.ins C dx fs) ∧ H b = some (.ins C dy gs) ∧ sp [.ref a, .ref b] H (fun v H' => (∃ b, v = .bl b) ∧ Q v H') E0) := by
  intro pins s σ H x y v u Q I rx ry d
  obtain ⟨a, b, dx, dy, fs, gs, rfl, rfl, ha, hb', hsp⟩ := d
  cases rx
  cases ry
  obtain ⟨mA, J, _⟩ := ins_get I.hok ha
  obtain ⟨mB, J', _⟩ := ins_get I.hok hb'
  obtain ⟨od, J, _⟩ := J.look
  obtain ⟨od', J', _⟩ := J'.look
  obtain ⟨m, hF⟩ := I.fr
  show wpAny (model X.prog X.w) X.A (richCompare .Eq _ _) (EP X pins σ Q) X.xe s
  refine PySem.W.cmp_K (op := .Eq) (tb := .ref C) hr.units0 hF I.ok.mod.kin J J'.type (by simp [PySem.W.notFirst]) hs hf ?_
  have hl := F.len _ _ _ _ hsp
  have r2 : Vals [V.ref a, V.ref b] [Value.ref a, Value.ref b] := .cons rfl (.cons rfl .nil)
  refine wpAny_call (codeAny_mono (F.run X.A X.stack s H ⟨[.ref a, .ref b], []⟩ [.ref a, .ref b] [.ref a, .ref b] _ E0 hr I.env0 (by
    have := hb s [.ref a, .ref b] I.kIn (by simpa using hl)
    simpa using this) r2 hsp) fun r s' hq => ?_)
  cases r with
  | error e => exact pass0 pins σ H s e s' I hq
  | ok fl =>
    cases fl with
    | ret w =>
      obtain ⟨z, H', I', rz, ⟨bb, ez⟩, q⟩ := I.after hq
      subst ez
      cases rz
      exact ⟨.bl bb, H', I', rfl, q⟩
    | next => exact False.elim hq
    | brk => exact False.elim hq
    | cont => exact False.elim hq
def oOwn (C : Addr) (d : DSp) : OD := fun x y μ P => (∃ fs, insD μ x = some (C, fs)) ∧ (∃ gs, insD μ y = some (C, gs)) ∧ d [x, y] μ fun r μ' => (∃ b, r = .bl b) ∧ P r μ'
theorem os_own {k j : Nat} {C : Addr} {d : DSp} (c : DMet X.prog X.w X.K X.mg X.base k C "__eq__" d []) (hr : Room j X.A) (hk : k ≤ j) : OpS X (compareOp .Eq) (oOwn C d) := by
  obtain ⟨f, fd, ps, ds, dvs, hc, hm, F, b, vd, rd⟩ := c.ex
  have e1 : dvs = [] := by
    cases rd (fun _ => none)
    rfl
  subst e1
  cases vd
  refine ⟨_, op_own F (hr.mono hk) hm.at_ hm.fn b, ?_⟩
  intro x y μ P G H v u Q h m rx ry t
  obtain ⟨⟨fs, h1⟩, ⟨gs, h2⟩, p⟩ := h
  obtain ⟨a, dx, xs, rfl, q1, _⟩ := insD_ok h1 m rx
  obtain ⟨a2, dy, ys, rfl, q2, _⟩ := insD_ok h2 m ry
  refine ⟨a, a2, dx, dy, xs, ys, rfl, rfl, q1, q2, [x, y], μ, G, _, .cons rx (.cons ry .nil), m, p, ?_⟩
  rintro r μ' w H' G' ⟨⟨bb, rfl⟩, pr⟩ e m' rr
  have e2 : w = .bl bb := by cases rr; rfl
  exact ⟨⟨bb, e2⟩, t _ _ _ _ _ pr e m' rr⟩
end
end Dl

namespace Dl
open PySem L2
section
variable {X : Cx}
theorem op_ownNe {k : Nat} {C f : Addr} {fd : FuncData} {ps : List Str} {sp : Sp} {T : String} (S : Slot T "__ne__" "object.__ne__") (F : FnOk X.prog X.w X.K X.mg X.base CX0 k f fd ps sp) (hr : Room (k + 1) X.A)
    (hsn : PySem.W.findIn X.K (.ref C) "__ne__" = some (some (.builtin "object.__ne__"))) (hob : PySem.W.subIn X.K (.ref C) (.type "object") = some true)
    (hs : PySem.W.findIn X.K (.ref C) "__eq__" = some (some (.ref f))) (hf : PySem.W.isFn X.K (.ref f) = true) (hb : Binds X.K fd ps []) :
    OpR X (compareOp .NotEq) (fun x y H Q => ∃ a b dx dy fs gs, x = .ref a ∧ y = .ref b ∧ H a = some (.ins C dx fs) ∧ H b = some (.ins C dy gs) ∧ sp [.ref a, .ref b] H (fun v H' => ∃ b, v = .bl b ∧ Q (.bl (!b)) H') E0) := by
  intro pins s σ H x y v u Q I rx ry d
  obtain ⟨a, b, dx, dy, fs, gs, rfl, rfl, ha, hb', hsp⟩ := d
  cases rx
  cases ry
  obtain ⟨mA, J, _⟩ := ins_get I.hok ha
  obtain ⟨mB, J', _⟩ := ins_get I.hok hb'
  obtain ⟨od, J, _⟩ := J.look
  obtain ⟨od', J', _⟩ := J'.look
  have hr1 := hr.in1
  show wpAny (model X.prog X.w) X.A (richCompare .NotEq _ _) (EP X pins σ Q) X.xe s
  refine ne_K S (tb := .ref C) (by have := hr.un; omega) I.kIn J J'.type (by simp [PySem.W.notFirst]) hsn hob hs hf ?_
  have hl := F.len _ _ _ _ hsp
  have r2 : Vals [V.ref a, V.ref b] [Value.ref a, Value.ref b] := .cons rfl (.cons rfl .nil)
  have e := I.env0
  have e0 : Env0 X.prog X.w X.K X.mg X.base X.A.in1 X.stack s H := ⟨e.frames, e.mod, e.bs, e.bsz, e.funs, e.frf, e.hok, e.bare⟩
  refine wpAny_call (codeAny_mono (F.run X.A.in1 X.stack s H ⟨[.ref a, .ref b], []⟩ [.ref a, .ref b] [.ref a, .ref b] _ E0 hr1 e0 (by
    have := hb s [.ref a, .ref b] I.kIn (by simpa using hl)
    simpa using this) r2 hsp) fun r s' hq => ?_)
  cases r with
  | error e => exact pass0 pins σ H s e s' I hq
  | ok fl =>
    cases fl with
    | ret w =>
      obtain ⟨z, H', I', rz, bb, ez, q⟩ := I.after hq
      subst ez
      cases rz
      exact ⟨bb, rfl, .bl (!bb), H', I', rfl, q⟩
    | next => exact False.elim hq
    | brk => exact False.elim hq
    | cont => exact False.elim hq
def oOwnNe (C : Addr) (d : DSp) : OD := fun x y μ P => (∃ fs, insD μ x = some (C, fs)) ∧ (∃ gs, insD μ y = some (C, gs)) ∧ d [x, y] μ fun r μ' => ∃ b, r = .bl b ∧ P (.bl (!b)) μ'
theorem os_ownNe {k j : Nat} {C : Addr} {d : DSp} {T : String} (S : Slot T "__ne__" "object.__ne__") (hsn : PySem.W.findIn X.K (.ref C) "__ne__" = some (some (.builtin "object.__ne__"))) (hob : PySem.W.subIn X.K (.ref C) (.type "object") = some true)
    (c : DMet X.prog X.w X.K X.mg X.base k C "__eq__" d []) (hr : Room j X.A) (hk : k + 1 ≤ j) : OpS X (compareOp .NotEq) (oOwnNe C d) := by
  obtain ⟨f, fd, ps, ds, dvs, hc, hm, F, b, vd, rd⟩ := c.ex
  have e1 : dvs = [] := by
    cases rd (fun _ => none)
    rfl
  subst e1
  cases vd
  refine ⟨_, op_ownNe S F (hr.mono hk) hsn hob hm.at_ hm.fn b, ?_⟩
  intro x y μ P G H v u Q h m rx ry t
  obtain ⟨⟨fs, h1⟩, ⟨gs, h2⟩, p⟩ := h
  obtain ⟨a, dx, xs, rfl, q1, _⟩ := insD_ok h1 m rx
  obtain ⟨a2, dy, ys, rfl, q2, _⟩ := insD_ok h2 m ry
  refine ⟨a, a2, dx, dy, xs, ys, rfl, rfl, q1, q2, [x, y], μ, G, _, .cons rx (.cons ry .nil), m, p, ?_⟩
  rintro r μ' w H' G' ⟨bb, rfl, pr⟩ e m' rr
  have e2 : w = .bl bb := by cases rr; rfl
  exact ⟨bb, e2, t _ _ _ _ _ pr e m' (.bl _)⟩
end
end Dl

namespace Dl
open PySem L2
section
variable {X : Cx}
/-! ### a text times an int -/
def repS (s : Str) (n : Nat) : Str := ⟨(List.replicate n s.cps.toList).flatten.toArray⟩
theorem foldl_repA {α : Type} (a : Array α) : ∀ (k : Nat) (acc : Array α), List.foldl (fun x1 x2 => x1 ++ x2) acc (List.replicate k a) = acc ++ (List.replicate k a.toList).flatten.toArray
  | 0, acc => by simp
  | k + 1, acc => by
    rw [List.replicate_succ, List.foldl_cons, foldl_repA a k, List.replicate_succ, List.flatten_cons]
    rw [Array.append_assoc]
    congr 1
    apply Array.ext'
    simp
def oMulS : OD := fun x y μ P => match x, y with
  | .str s, .int n => (-(2 ^ 62) ≤ n ∧ n < 2 ^ 62) ∧ s.length * n.toNat ≤ 1000000 ∧ P (.str (repS s n.toNat)) μ
  | _, _ => False
theorem os_mulS : OpS X (binaryOp .Mult) oMulS := by
  refine ⟨fun x y H Q => ∃ s n, x = .str s ∧ y = .int n ∧ (-(2 ^ 62) ≤ n ∧ n < 2 ^ 62) ∧ s.length * n.toNat ≤ 1000000 ∧ Q (.str (repS s n.toNat)) H, ?_, ?_⟩
  · intro pins s σ H x y v u Q I rx ry h
    obtain ⟨z, n, rfl, rfl, hn, hl, q⟩ := h
    obtain ⟨t, rfl⟩ := rx
    obtain ⟨t', rfl⟩ := ry
    have hr : (decide (n < -(2 ^ 63 : Int)) || decide (n ≥ 2 ^ 63)) = false := by
      rw [decide_eq_false (by omega), decide_eq_false (by omega)]
      rfl
    have hlen : (repS z n.toNat).length = z.length * n.toNat := by
      show (repS z n.toNat).cps.size = z.cps.size * n.toNat
      unfold repS
      simp [Nat.mul_comm]
    have hbig : (1000000 : Nat) ≤ sizeLine := by decide
    refine P.mul_str hr ?_ ?_ ?_
    · intro h1 h2 h3
      have hz : 0 < z.length := by
        have e : (z.length == 0) = false := by
          cases e : (z.length == 0) with
          | false => rfl
          | true => rw [e] at h2; simp at h2
        have := beq_eq_false_iff_ne.mp e
        omega
      have hn1 : 1 ≤ n := by omega
      have h4 : (z.length : Int) * n ≤ 1000000 := by
        have e : ((z.length * n.toNat : Nat) : Int) = (z.length : Int) * n := by rw [Int.natCast_mul, Int.toNat_of_nonneg (by omega)]
        omega
      have h5 : (z.length : Int) ≤ 1000000 := by
        have : (z.length : Int) * 1 ≤ (z.length : Int) * n := Int.mul_le_mul_of_nonneg_left hn1 (by omega)
        omega
      have h6 : n ≤ 1000000 := by
        have : 1 * n ≤ (z.length : Int) * n := Int.mul_le_mul_of_nonneg_right (by omega) (by omega)
        omega
      have h7 : (1000000 : Int) ≤ (2 ^ 63 - 1) / n := by
        refine (Int.le_ediv_iff_mul_le (by omega)).mpr ?_
        omega
      omega
    · intro _ _
      have : z.length * n.toNat ≤ sizeLine := Nat.le_trans hl hbig
      first | exact PyProof.Rows.notLong this | exact notLong this | (unfold Builtin.Str.tooLong; simp; omega)
    · by_cases h1 : n < 1
      · rw [if_pos h1]
        have e : n.toNat = 0 := by omega
        rw [e] at q
        exact ⟨by decide, ⟨.str (repS z 0), H, I.tok _, ⟨_, rfl⟩, q⟩⟩
      · rw [if_neg h1]
        by_cases h2 : (n == 1 || z.length == 0) = true
        · rw [if_pos h2]
          have e : repS z n.toNat = z := by
            rcases Bool.or_eq_true_iff.mp h2 with h3 | h3
            · have e1 : n.toNat = 1 := by have := beq_iff_eq.mp h3; omega
              rw [e1]
              unfold repS
              simp
            · have e1 : z.cps.size = 0 := beq_iff_eq.mp h3
              have e2 : z.cps.toList = [] := by simpa using e1
              have e3 : z.cps = #[] := by simpa using e1
              unfold repS
              rw [e2]
              cases z
              simp at e3
              simp [e3]
          rw [e] at q
          exact ⟨.str z, H, I, ⟨_, rfl⟩, q⟩
        · rw [if_neg h2]
          have e : (⟨(List.replicate n.toNat z.cps).foldl (· ++ ·) #[]⟩ : Str) = repS z n.toNat := by
            unfold repS
            rw [foldl_repA]
            simp
          rw [e]
          exact ⟨by rw [hlen]; omega, ⟨.str (repS z n.toNat), H, I.tok _, ⟨_, rfl⟩, q⟩⟩
  · intro x y μ P G H v u Q h m rx ry t
    unfold oMulS at h
    split at h
    · cases rx
      cases ry
      exact ⟨_, _, rfl, rfl, h.1, h.2.1, t _ _ _ _ _ h.2.2 (Ex.refl _) m (.str _)⟩
    · exact h.elim
/-! ### < of texts -/
def oLtS : OD := fun x y μ P => match x, y with
  | .str i, .str j => P (.bl (decide (i.cps.toList < j.cps.toList))) μ
  | _, _ => False
theorem os_ltS : OpS X (compareOp .Lt) oLtS := by
  refine ⟨_, op_lt_str, ?_⟩
  intro x y μ P G H v u Q h m rx ry t
  unfold oLtS at h
  split at h
  · cases rx
    cases ry
    exact ⟨_, _, rfl, rfl, t _ _ _ _ _ h (Ex.refl _) m (.bl _)⟩
  · exact h.elim
/-! ### split -/
def oSplit : OM := fun x ds μ P => match x, ds with
  | .str a, [.str b] => (b.length == 0) = false ∧ a.length + 2 ≤ sizeLine ∧ P (.lst ((Txt.split a b).map .str)) μ
  | _, _ => False
theorem bm_split : BMok X "split" "str" oSplit := ⟨_, _, F.plainAttrs_str, F.slot_str_split, F.type_str_split, mt_split, fun {x ds μ P G H v vs Q} h m rx rs t => by
  unfold oSplit at h
  split at h
  · cases rx
    cases rs with | cons r1 r2 =>
    cases r1
    cases r2
    obtain ⟨h1, h2, p⟩ := h
    exact ⟨_, _, rfl, rfl, h1, h2, new_lst m (rps_strs _) p t⟩
  · exact h.elim⟩
/-! ### zip -/
def zipD (xs ys : List D) : List D := List.zipWith (fun x y => .tup [x, y]) xs ys
theorem zipD_length {xs ys : List D} : (zipD xs ys).length = min xs.length ys.length := List.length_zipWith
theorem zipD_get {xs ys : List D} {i : Nat} {x y : D} (hx : xs[i]? = some x) (hy : ys[i]? = some y) : (zipD xs ys)[i]? = some (.tup [x, y]) := by
  unfold zipD
  rw [List.getElem?_zipWith, hx, hy]
theorem zip_pair {K : PySem.W.Frag} {μ : Store} {G H : Hp} {T : Addr} {d e : D} {x y : V} (m : Sm K μ G H) (hT : H T = none) (r : Rp K G d x) (r2 : Rp K G e y) :
    ∃ G3, Ex G G3 ∧ Sm K μ G3 (upd H T (.tup [x, y])) ∧ Rp K G3 (.tup [d, e]) (.ref T) := by
  obtain ⟨m2, e2⟩ := m.frozen hT (.tup [x, y])
  exact ⟨_, e2, m2, .tup (.inl upd_same) (.cons (r.mono e2) (.cons (r2.mono e2) .nil))⟩
theorem walk_z {K : PySem.W.Frag} {G : Hp} {a b : Addr} {xs ys : List V} {ds es : List D} (h : ∀ H, Ex G H → SqL K H a xs) (h2 : ∀ H, Ex G H → SqL K H b ys) (r : Rps K G ds xs) (r2 : Rps K G es ys) : Walk K G (Itz K a b) (zipD ds es) := fun i H G2 μ e m => by
  have sq := h H (e.trans m.ex)
  have sq2 := h2 H (e.trans m.ex)
  have l1 := r.length
  have l2 := r2.length
  rw [zipD_length]
  refine ⟨fun hi => ⟨⟨xs, ys, xs[i]'(by omega), ys[i]'(by omega), sq, sq2, List.getElem?_eq_getElem _, List.getElem?_eq_getElem _⟩, fun x H' y => ?_⟩, fun hi => ⟨xs, ys, sq, sq2, by omega⟩⟩
  obtain ⟨T, u, v, rfl, hT, rfl, hu, hv⟩ := y
  obtain ⟨d, hd, rd⟩ := r.getR (hu xs sq)
  obtain ⟨d2, hd2, rd2⟩ := r2.getR (hv ys sq2)
  obtain ⟨G3, e3, m3, r3⟩ := zip_pair m hT (rd.mono e) (rd2.mono e)
  exact ⟨G3, _, zipD_get hd hd2, e3, m3, r3⟩
theorem walk_zt {K : PySem.W.Frag} {G : Hp} {a b : Addr} {xs ys : List V} {ds es : List D} (h : TupAt K G a xs) (h2 : TupAt K G b ys) (r : Rps K G ds xs) (r2 : Rps K G es ys) : Walk K G (RZ.ItzT K a b) (zipD ds es) := fun i H G2 μ e m => by
  have sq := h.sq (e.trans m.ex)
  have sq2 := h2.sq (e.trans m.ex)
  have l1 := r.length
  have l2 := r2.length
  rw [zipD_length]
  refine ⟨fun hi => ⟨⟨xs, ys, xs[i]'(by omega), ys[i]'(by omega), sq, sq2, List.getElem?_eq_getElem _, List.getElem?_eq_getElem _⟩, fun x H' y => ?_⟩, fun hi => ⟨xs, ys, sq, sq2, by omega⟩⟩
  obtain ⟨T, u, v, rfl, hT, rfl, hu, hv⟩ := y
  obtain ⟨d, hd, rd⟩ := r.getR (hu xs sq)
  obtain ⟨d2, hd2, rd2⟩ := r2.getR (hv ys sq2)
  obtain ⟨G3, e3, m3, r3⟩ := zip_pair m hT (rd.mono e) (rd2.mono e)
  exact ⟨G3, _, zipD_get hd hd2, e3, m3, r3⟩
def wiZip (wa : WA) : WI := fun ρ μ P => wa ρ μ fun ds μ1 => match ds with
  | [.tup xs, .tup ys] => P (zipD xs ys) μ1
  | [.lst xs, .lst ys] => P (zipD xs ys) μ1
  | _ => False
theorem di_zip {e e2 : Expr} {wa : WA} {p pos tpos : Pos} {elts : List Expr} {kk : Nat} (hg : Gl X "zip") (hm : X.mg "zip" = none) (ha : DA X [e, e2] wa)
    (hs : starEach [e, e2] X.env = (false, eval e X.env) :: starEach [e2] X.env := by rfl) (hpl : (backTo pos (starEach [e2] X.env)).any (·.1) = false := by rfl) :
    DI X (.Tuple elts kk tpos) (.Call (.Name "zip" p) [e, e2] [] pos) (wiZip wa) :=
  ⟨wkI (RZ.pi_zipA hg hm ha.p hs hpl) fun σ H R ⟨ρ, μ, G, P, he, hm, hw, ht⟩ => ⟨ρ, μ, G, _, he, hm, hw, fun ds μ1 vs H1 G1 p e m r => by
    split at p
    · cases r with | cons r1 r2 =>
      cases r2 with | cons r2 r3 =>
      cases r3
      cases r1 with | tup h1 r1 =>
      cases r2 with | tup h2 r2 =>
      exact ⟨_, _, _, _, rfl, .inr ⟨h1.sq m.ex, h2.sq m.ex, ht _ _ _ _ _ p e m (walk_zt h1 h2 r1 r2)⟩⟩
    · cases r with | cons r1 r2 =>
      cases r2 with | cons r2 r3 =>
      cases r3
      cases r1 with | lst h1 r1 =>
      cases r2 with | lst h2 r2 =>
      exact ⟨_, _, _, _, rfl, .inl ⟨lst_sq m.ex h1, lst_sq m.ex h2, ht _ _ _ _ _ p e m (walk_z (fun H' e' => lst_sq e' h1) (fun H' e' => lst_sq e' h2) r1 r2)⟩⟩
    · exact p.elim⟩⟩
/-! ### list(range(n)) -/
def wLstRg1 (we : WE) : WE := fun ρ μ P => we ρ μ fun d μ1 => match d with
  | .int n => (-(2 ^ 62) ≤ n ∧ n ≤ 1000000) ∧ P (.lst (rng 0 n.toNat)) μ1
  | _ => False
theorem rps_rg {K : PySem.W.Frag} {G : Hp} (a b : Int) : Rps K G (rng a (b - a).toNat) (rgV a b) := by
  unfold rng rgV
  generalize List.range (b - a).toNat = l
  induction l with
  | nil => exact .nil
  | cons i l ih => exact .cons (.int _) ih
theorem de_listRg1 {e : Expr} {we : WE} {p p2 pos pos2 : Pos} (hc : X.calm = true) (hg : Gl X "list") (hm : X.mg "list" = none) (hg2 : Gl X "range") (hm2 : X.mg "range" = none) (h : DE X e we)
    (na : starEach [e] X.env = (false, eval e X.env) :: starEach [] X.env := by rfl) (na2 : starEach [.Call (.Name "range" p2) [e] [] pos2] X.env = (false, eval (.Call (.Name "range" p2) [e] [] pos2) X.env) :: starEach [] X.env := by rfl) :
    DE X (.Call (.Name "list" p) [.Call (.Name "range" p2) [e] [] pos2] [] pos) (wLstRg1 we) :=
  ⟨wkE (pe_listRg hc hg hm (prg_1 hg2 hm2 h.p na) na2) fun σ H Q ⟨ρ, μ, G, P, he, hm, hw, ht⟩ => ⟨ρ, μ, G, _, he, hm, hw, fun d μ1 v H1 G1 p e m r => by
    split at p
    · cases r
      rename_i n
      refine ⟨n, rfl, ⟨by omega, by omega, by omega, by omega, by omega⟩, ?_⟩
      refine new_lst m ?_ p.2 (ht.mono e)
      have := rps_rg (K := X.K) (G := G1) 0 n
      rwa [Int.sub_zero] at this
    · exact p.elim⟩⟩
/-! ### isinstance(x, C) of an instance of C -/
def oIsC (C : Addr) : OC := fun ds μ P => ∃ d fs, ds = [d, .ref C] ∧ insD μ d = some (C, fs) ∧ P (.bl true) μ
theorem cs_isC {C : Addr} (c : C8.InsC X.K C) : CallS X (.builtin "isinstance") (oIsC C) := by
  refine ⟨_, C8.call_isC c, ?_⟩
  intro ds μ P G H vs Q h m r t
  obtain ⟨d, fs, rfl, h1, p⟩ := h
  cases r with | cons r1 r2 =>
  cases r2 with | cons r2 r3 =>
  cases r3
  cases r2
  obtain ⟨a, dx, xs, rfl, q1, _⟩ := insD_ok h1 m r1
  exact ⟨a, dx, xs, rfl, q1, t _ _ _ _ _ p (Ex.refl _) m (.bl _)⟩
/-! ### a comprehension within a comprehension -/
theorem relabel_free {env : PySem.Env} : ∀ {names : List (Str × NameKind)} {x : Str}, (names.lookup x = some .cell ∨ names.lookup x = some .free) →
    ((names.map fun (n, k) => if (k == NameKind.free && env.scope.kind == .function && env.kindOf n == some .cell) then (n, NameKind.cell) else (n, k)).lookup x = some .cell ∨
      (names.map fun (n, k) => if (k == NameKind.free && env.scope.kind == .function && env.kindOf n == some .cell) then (n, NameKind.cell) else (n, k)).lookup x = some .free)
  | [], _, h => by simp at h
  | (n, k) :: r, x, h => by
    have ih := @relabel_free env r x
    show List.lookup x ((if (k == NameKind.free && env.scope.kind == .function && env.kindOf n == some .cell) = true then (n, NameKind.cell) else (n, k)) :: _) = _ ∨ List.lookup x ((if (k == NameKind.free && env.scope.kind == .function && env.kindOf n == some .cell) = true then (n, NameKind.cell) else (n, k)) :: _) = _
    cases hx : x == n with
    | true =>
      simp only [List.lookup_cons, hx] at h
      by_cases hc : (k == NameKind.free && env.scope.kind == .function && env.kindOf n == some .cell) = true
      · rw [if_pos hc]; simp [List.lookup_cons, hx]
      · rw [if_neg hc]; simp only [List.lookup_cons, hx]; exact h
    | false =>
      simp only [List.lookup_cons, hx] at h
      by_cases hc : (k == NameKind.free && env.scope.kind == .function && env.kindOf n == some .cell) = true
      · rw [if_pos hc]; simp only [List.lookup_cons, hx]; exact ih h
      · rw [if_neg hc]; simp only [List.lookup_cons, hx]; exact ih h
theorem blk_relabel {N : List Str} {sc scope : Scope} {own : List (Str × Nat)} {env : PySem.Env} (h : BlkOk N sc scope own) : BlkOk N (relabel sc env) scope own :=
  ⟨h.kind, h.uniq, h.ix, fun y hy e => relabel_free (h.free y hy e), h.own⟩
/-! ### a list taken apart -/
def wgLst (n : Nat) (g : WGs) : WG := fun d ρ μ P => match d with | .lst ds => ds.length = n ∧ g ds ρ μ P | _ => False
theorem gp_lst {K : PySem.W.Frag} {vs : List Nat} {n : Nat} {gs : TGs} {wgs : WGs} (hs : GPats K vs gs wgs) : GPat K vs (gLst K n gs) (wgLst n wgs) := fun {v σ H Q ρ μ G d P} he hm r hw k => by
  cases r with
  | lst h1 r1 => exact ⟨_, _, rfl, lst_sq hm.ex h1, by rw [← r1.length]; exact hw.1, hs he hm r1 hw.2 k⟩
  | _ => exact hw.elim
/-! ### x = e, the list frozen -/
def wAsgF (we : WE) (g : WG) : WS := fun W ρ μ => we ρ μ fun d μ1 => ∃ d' μ', Fz d μ1 d' μ' ∧ g d' ρ μ' W.nx
theorem ds_asgF {tg e : Expr} {pos : Pos} {we : WE} {g : WG} (h : DE X e we) (k : DG X tg g) (hs : swapsWithSole [tg] e pos.line X.env = pure false := by rfl) (hw : swappedStores [tg] e X.env = pure none := by rfl)
    (h1 : (assignEach [tg] X.env).map (·.2) = [assign tg X.env] := by rfl) : DS X (.Assign [tg] e pos) (wAsgF we g) := ⟨wkS (ps_asg h.p k.p hs hw h1) fun D σ H ⟨ρ, μ, G, W, he, hm, hw, ht⟩ =>
  ⟨ρ, μ, G, _, he, hm, hw, fun d μ1 v H1 G1 ⟨d', μ2, fz, p⟩ e m r => by
    obtain ⟨G2, e2, m2, r2⟩ := fz.ok m r
    exact ⟨ρ, μ2, G2, d', _, he.mono (e.trans e2), m2, r2, p, (show TellsN X.K G2 W.nx D.nx from fun a b c d f g x => ht.nx a b c d f g ((e.trans e2).trans x))⟩⟩⟩
theorem ds_setF {i : Nat} {x : Str} {pos pos' : Pos} {e : Expr} {we : WE} (hN : X.N.Nodup) (hi : X.N[i]? = some x) (hx : Loc X.env.scope x) (h : DE X e we) (hs : swapsWithSole [.Name x pos'] e pos.line X.env = pure false := by rfl) (hw : swappedStores [.Name x pos'] e X.env = pure none := by rfl)
    (h1 : (assignEach [.Name x pos'] X.env).map (·.2) = [assign (.Name x pos') X.env] := by rfl) (hf : X.fn x = true ∨ X.env.scope.names.lookup x = some .local := by first | exact .inl rfl | exact .inr rfl | assumption) :
    DS X (.Assign [.Name x pos'] e pos) (wAsgF we (wgName i)) := ds_asgF h (dg_pat (pg_name hN hi hx hf) (gp_name (vs := [i]) (by simp))) hs hw h1
/-! ### *xs among arguments and in displays -/
def wAStar (we : WE) (wr : WA) : WA := fun ρ μ P => we ρ μ fun d μ1 => match seqA μ1 d with | some xs => wr ρ μ1 fun ys μ2 => P (xs ++ ys) μ2 | none => False
theorem da_star {e : Expr} {es : List Expr} {p : Pos} {we : WE} {wr : WA} (h : DE X e we) (k : DA X es wr) (hs : starEach (.Starred e p :: es) X.env = (true, eval e X.env) :: starEach es X.env := by rfl) : DA X (.Starred e p :: es) (wAStar we wr) :=
  ⟨wkA (StX.pa_star h.p k.p hs) fun σ H Q ⟨ρ, μ, G, P, he, hm, hw, ht⟩ => ⟨ρ, μ, G, _, he, hm, hw, fun d μ1 v H1 G1 p1 e1 m1 r1 => by
    split at p1
    · rename_i xs q
      obtain ⟨a, vs, rfl, h1, rr⟩ := seqA_ok q m1 r1
      exact ⟨a, vs, rfl, h1.symm, ρ, μ1, G1, _, he.mono e1, m1, p1, fun ys μ2 ws H2 G2 p2 e2 m2 r2 => ht _ _ _ _ _ p2 (e1.trans e2) m2 ((rr.mono e2).append r2)⟩
    · exact p1.elim⟩⟩
theorem kit_self {K : PySem.W.Frag} {C : Addr} : PySem.W.kitOne K (.ref C) (.ref C) = some true := by
  unfold PySem.W.kitOne
  rw [if_pos]
  first | exact beq_self_eq_true _ | simp | rfl | (show decide _ = true; simp)
end
end Dl

namespace Dl
open PySem L2
theorem units65 {k : Nat} {A : Around} (r : Room k A) : A.units + 65 < cLine := by have := r.un; omega
section
variable {X : Cx}
/-! ### in, over lists of plain data of any depth -/
def oInPW (f : Bool → Bool) : OD := fun x y μ P => match pyS μ x, pyS μ y with
  | some d, some (.list ds) => SeqAt.shaped d = true ∧ SeqAt.shaped (.list ds) = true ∧ P (.bl (f (ds.any fun z => PyData.eqv z d))) μ
  | _, _ => False
def oInP : OD := oInPW fun b => b
def oNotInP : OD := oInPW fun b => !b
theorem os_inP (hu : X.A.units + 65 < cLine) : OpS X (compareOp .In) oInP := by
  refine ⟨_, op_inD hu, ?_⟩
  intro x y μ P G H v u Q h m rx ry t
  unfold oInP oInPW at h
  split at h
  · rename_i d ds h1 h2
    exact ⟨d, ds, pyS_ok m rx h1, pyS_ok m ry h2, h.1, h.2.1, t _ _ _ _ _ h.2.2 (Ex.refl _) m (.bl _)⟩
  · exact h.elim
theorem os_notInP (hu : X.A.units + 65 < cLine) : OpS X (compareOp .NotIn) oNotInP := by
  refine ⟨_, op_notInD hu, ?_⟩
  intro x y μ P G H v u Q h m rx ry t
  unfold oNotInP oInPW at h
  split at h
  · rename_i d ds h1 h2
    exact ⟨d, ds, pyS_ok m rx h1, pyS_ok m ry h2, h.1, h.2.1, t _ _ _ _ _ h.2.2 (Ex.refl _) m (.bl _)⟩
  · exact h.elim
theorem encs_any {α : Type} [DecidableEq α] (E : Enc α) (a : α) (as : List α) : ((as.map E.py).any fun z => PyData.eqv z (E.py a)) = decide (a ∈ as) := by
  induction as with
  | nil => rfl
  | cons x r ih =>
    rw [List.map_cons, List.any_cons, ih, E.eqv, Bool.eq_iff_iff]
    simp only [Bool.or_eq_true, decide_eq_true_eq, List.mem_cons]
    exact ⟨fun h => h.imp Eq.symm id, fun h => h.imp Eq.symm id⟩
theorem oInPW_lst {α : Type} [DecidableEq α] (E : Enc α) (h : E.n + 1 ≤ 64) (hr : ∀ x : α, ∀ p, E.enc x ≠ .ref p) (f : Bool → Bool) (a : α) (as : List α) (μ : Store) (P : D → Store → Prop) :
    oInPW f (E.enc a) (.lst (as.map E.enc)) μ P = P (.bl (f (decide (a ∈ as)))) μ := by
  have e1 : pyS μ (E.enc a) = some (E.py a) := by
    have := E.ok a
    unfold pyS
    cases q : E.enc a with
    | ref p => exact absurd q (hr a p)
    | _ => rw [q] at this; exact this
  have e2 : pyS μ (.lst (as.map E.enc)) = some (.list (as.map E.py)) := by
    show pyD _ = _
    rw [pyD, encs_ok]; rfl
  unfold oInPW
  rw [e1, e2]
  dsimp only
  rw [enc_shaped E (by omega), show SeqAt.shaped (.list (as.map E.py)) = true from enc_shaped (eLst E) h as, encs_any]
  simp
end
end Dl

namespace Dl
open PySem L2 PySem.Spec PyProof.Rows
/-! ### errors of the text: their making -/
/-- the base class of the text's errors: its __init__ is ValueError's -/
structure VeB (K : PySem.W.Frag) (mg : Str → Option Value) (x : Str) : Prop where
  ex : ∃ B : Addr, mg x = some (.ref B) ∧ PySem.W.specialIn K (.ref B) "__getattribute__" = some (some (.builtin "type.__getattribute__")) ∧ PySem.W.readsIn K B (.type "type") = true ∧
    PySem.W.findCls K (.ref B) (.type "type") "__init__" = some (.val (.builtin "ValueError.__init__"))
section
variable {X : Cx} {e : Expr} {es : List Expr} {ta : TA} {p1 p2 pos : Pos} {x : Str}
theorem pe_binit {pl : Sem Bool} (V : VeB X.K X.mg x) (hg : Gl X x) (ha : PA X (e :: es) ta) (hdb : (x == ("__debug__" : Str)) = false := by decide)
    (hc : eval (.Call (.Attribute (.Name x p1) "__init__" p2) (e :: es) [] pos) X.env = (do
      let ov ← eval (.Name x p1) X.env
      standAt p2.atName
      let (f, first) ← holding [ov] (getMethod ov "__init__" pl)
      callWith pos f first (backTo pos (starEach (e :: es) X.env)) (backToKw pos (keywordEach [] X.env))) := by rfl)
    (he : starEach (e :: es) X.env = (false, eval e X.env) :: starEach es X.env := by rfl) (hpl : (backTo pos (starEach es X.env)).any (·.1) = false := by rfl) :
    PE X (.Call (.Attribute (.Name x p1) "__init__" p2) (e :: es) [] pos) (tVeI X.K ta) := by
  obtain ⟨B, gB, ga, rd, at_⟩ := V.ex
  refine ⟨fun pins s σ H Q I h => ?_⟩
  refine PySem.W.methodCall_KW (ld_glob I hg gB ?_ hdb) hc
  refine PySem.W.method_cls I.kIn ga (PySem.W.cls_value I.kIn rd at_ (by decide +kernel) ?_)
  show wpAny _ _ (callWith pos (Value.builtin "ValueError.__init__") [] (backTo pos (starEach (e :: es) X.env)) []) _ _ _
  refine PyProof.Rows.callWith_method1 (thn (ha.run pos pins _ σ H _ (I.tok _) h) fun us s1 ⟨vs, H1, I1, r1, a, C, ws, ev, hl, T, ea, q⟩ => ?_) he hpl
  subst ev
  cases r1 with
  | @cons _ u0 _ ur ra rw' =>
    obtain rfl : u0 = Value.ref a := ra
    have hlen : ur.length ≤ sizeLine := by
      rw [← Paired.length rw', sizeLine_eq]
      omega
    exact oinit_ok T I1 ea hlen fun s' J => ⟨.non, H1, J, rfl, q⟩
end
/-- an error without fields is let go -/
theorem mk_endN {X : Cx} {pins : List (Addr × Obj)} {σ : L2.St} {H1 H2 : Hp} {Q : XK} {hp hp2 h2 : Heap} {g1 g2 : Array GenState} {d1 d2 : Drawn} {t1 t2 : Nat} {os1 os2 : OsState} {a C : Addr} (T : Raises X (.ref C)) (I1 : Inv X pins σ H1 ⟨hp, g1, d1, t1, os1⟩)
    (ha : hp.objs.size ≤ a) (k : ∀ b o, hp.get? b = some o → hp2.get? b = some o) (un : Un (frs X.stack) [] (upd H1 a (exo a C none)) H2 hp2 h2) (hok : HOk X.prog X.w H2 h2) (ho : os2 = os1) (hb : AllBare g2)
    (ea : H2 a = some (exo a C none)) (q : Q (.ref C) none (del H2 a)) : MkP X pins σ Q (.ref a) ⟨h2, g2, d2, t2, os2⟩ := by
  obtain ⟨t0, hoe⟩ := exo_at hok ea
  have hn : H1 a = none := I1.hok.fresh ha
  obtain ⟨G, g1', g2'⟩ := restrict h2 fun b => decide (b ≠ a)
  have gk : ∀ b, b ≠ a → G.get? b = h2.get? b := fun b hb => g1' b (decide_eq_true hb)
  have ge : G.get? a = none := g2' a (by simp)
  have nha : ∀ {b : Addr} {o : Obj}, hp.get? b = some o → b ≠ a := fun {b o} z => Nat.ne_of_lt (Nat.lt_of_lt_of_le (Heap.lt_size z) ha)
  have up : ∀ {b : Addr}, b ≠ a → H1 b = none → upd H1 a (exo a C none) b = none := fun {b} hb n => by rw [upd_ne hb]; exact n
  have U : Un (frs X.stack) [] H1 (del H2 a) hp G := {
    keep := fun b o z n hf hx => by
      rw [gk b (nha z)]
      exact un.keep b o (k b o z) (up (nha z) n) hf hx
    slot := fun b o z n hf hx => by
      rw [gk b (nha z)]
      exact un.slot b o (k b o z) (up (nha z) n) hf hx
    free := fun b o z n hx => by
      rw [del_ne (nha z)]
      exact un.free b o (k b o z) (up (nha z) n) hx
    there := fun b o z hx => by
      rw [gk b (nha z)]
      exact un.there b o (k b o z) hx
    tups := fun b xs z => by
      rw [del_ne (ne_of_none z hn)]
      exact un.tups b xs (by rw [upd_ne (ne_of_none z hn)]; exact z)
    frzs := fun b o v z => by
      rw [del_ne (ne_of_none z hn)]
      exact un.frzs b o v (by rw [upd_ne (ne_of_none z hn)]; exact z)
    tbls := fun b ps z => by
      rw [del_ne (ne_of_none z hn)]
      exact un.tbls b ps (by rw [upd_ne (ne_of_none z hn)]; exact z) }
  have hok3 : HOk X.prog X.w (del H2 a) G := fun b o z => by
    have hba : b ≠ a := fun e => by
      rw [e, del_same] at z
      cases z
    rw [del_ne hba] at z
    have noa : ∀ {c : Addr}, H2 c = some (.own b) → c ≠ a := fun {c} hc => at_ne ea hc exo_own
    exact (hok b o z).stay (fun c v hc y => by
        have hca : c ≠ a := by
          rcases hc with hc | hc
          · rw [hc]
            exact hba
          · exact noa hc
        rw [gk c hca]
        exact y)
      (fun c hc => by rw [del_ne (noa hc)]; exact hc) (fun c xs hc => by rw [del_ne (at_ne ea hc exo_tup)]; exact hc)
  have J : Inv X pins σ (del H2 a) ⟨G, g2, d2, t2, os2⟩ := I1.call' (ch := []) ho U hok3 hb (fun b z => absurd z (by simp))
  exact ⟨a, _, _, ⟨G, g2, d2, t2, os2⟩, _, .ref C, none, rfl, J, fun b o z => by
    by_cases hba : b = a
    · rw [hba, ge] at z
      cases z
    · exact (gk b hba).symm.trans z, ge, hoe, ⟨rfl, rfl⟩, rfl, rfl, del_same, rfl, hb, T, q⟩
/-- what an error's __init__ does -/
def SpI0 (C : Addr) : Sp := fun vs H Q _ => ∃ a, vs = [V.ref a] ∧ H a = some (exo a C none) ∧ Q .non H
def SpI1 (C : Addr) (f : Str) : Sp := fun vs H Q _ => ∃ a v, vs = [V.ref a, v] ∧ H a = some (exo a C none) ∧ ∀ dx, H dx = none → dx ≠ a → Q .non (upd (upd H dx (exd dx [(f, v)])) a (exo a C (some dx)))
structure DExc (P : Program) (w : World) (K : PySem.W.Frag) (mg : Str → Option Value) (base : Heap) (k : Nat) (x : Str) (C : Addr) (f : Option Str) : Prop where
  ex : ∃ (fI : Addr) (fd : FuncData) (ps : List Str), OexC K C ∧ PySem.W.findIn K (.ref C) "__init__" = some (some (.ref fI)) ∧ PySem.W.typeIn K (.ref fI) = some (.type "function") ∧ mg x = some (.ref C) ∧ Binds K fd ps [] ∧
    FnOk P w K mg base CX0 k fI fd ps (match f with | none => SpI0 C | some f => SpI1 C f)
section
variable {X : Cx} {j k : Nat} {x : Str} {C : Addr} {p pos : Pos}
/-- C() -/
theorem pmk_0 (c : DExc X.prog X.w X.K X.mg X.base k x C none) (hr : Room j X.A) (hk : k + 1 ≤ j) (hg : Gl X x) (hdb : (x == ("__debug__" : Str)) = false := by decide) : PMk X (.Call (.Name x p) [] [] pos) (fun σ H Q => Q (.ref C) none H) := by
  obtain ⟨fI, fd, ps, T, iC, tI, hm, hb, F1⟩ := c.ex
  intro pins s σ H Q I h
  obtain ⟨nm, q, N, bs, bm, sn, sub, ab, col, dd, k0, k1, k2, k3, k5, hC, hbm⟩ := T.cls
  refine wpAny_Call_Name_kw (ld_glob I hg hm ?_ hdb)
  refine PySem.W.callWith_K0 I.kIn T.kC ?_
  show wpAny _ _ (call (.ref C) []) _ _ _
  obtain ⟨hp, g, dr, tk, os⟩ := s
  have hsz : hp.objs.size ≤ hp.objs.size + 1 := Nat.le_succ _
  have hn : H (hp.objs.size + 1) = none := I.hok.fresh hsz
  have kk : ∀ b o, hp.get? b = some o → ((hp.push (PySem.W.kdv_tup [])).push (PySem.HandSPX.excO C hp.objs.size)).get? b = some o := fun b o e => Heap.get?_push_of_some _ (Heap.get?_push_of_some _ e)
  have hget : ((hp.push (PySem.W.kdv_tup [])).push (PySem.HandSPX.excO C hp.objs.size)).get? (hp.objs.size + 1) = some (PySem.HandSPX.excO C hp.objs.size) := by heap_get
  have I2 : Inv X pins σ (upd H (hp.objs.size + 1) (exo (hp.objs.size + 1) C none)) ⟨(hp.push (PySem.W.kdv_tup [])).push (PySem.HandSPX.excO C hp.objs.size), g, dr, tk, os⟩ :=
    I.laid (t' := tk) (a := hp.objs.size + 1) (o := exo (hp.objs.size + 1) C none) (h' := (hp.push (PySem.W.kdv_tup [])).push (PySem.HandSPX.excO C hp.objs.size)) kk hsz (exo_ok hget)
  let G2 := upd H (hp.objs.size + 1) (exo (hp.objs.size + 1) C none)
  have hq : SpI0 C [V.ref (hp.objs.size + 1)] G2 (fun v H2 => v = .non ∧ H2 = G2) (fun _ _ _ => False) := ⟨_, rfl, upd_same, rfl, rfl⟩
  have r2 : Vals [V.ref (hp.objs.size + 1)] [Value.ref (hp.objs.size + 1)] := .cons rfl .nil
  have hl : [Value.ref (hp.objs.size + 1)].length = ps.length := by
    have e := r2.length
    rw [F1.len _ _ _ _ hq] at e
    exact e.symm
  refine wpAny_call (PySem.HandSPX.call_own F.excBase_ValueError (fun Y => PySem.HandSPX.refsVE_contains Y bm hbm) (I.kIn _ _ hC) (PySem.W.looks_findIn I.kIn iC) (fun self => PySem.W.bind_fn I.kIn self tI) (by decide)
    (codeAny_mono (F1.run _ X.stack _ _ ⟨[Value.ref (hp.objs.size + 1)], []⟩ [Value.ref (hp.objs.size + 1)] _ _ (fun _ _ _ => False) ((hr.mono hk).make C [] []) (I2.env0.make C [] []) (by have := hb _ [Value.ref (hp.objs.size + 1)] I2.kIn (by simpa using hl); simpa using this) r2 hq) fun r s' hq' => ?_))
  cases r with
  | error er => exact pass0 pins σ _ _ er s' I2 hq'
  | ok fl =>
    cases fl with
    | ret u =>
      obtain ⟨v, H2, os2, bare2, un2, hok2, rv, ev, eH⟩ := hq'
      subst ev
      obtain ⟨h2, g2, d2, t2, os'⟩ := s'
      refine ⟨rv, mk_endN (raises_own T.exC T.tyC) I hsz kk un2 hok2 os2 bare2 (by rw [eH]; exact upd_same) ?_⟩
      have e : del H2 (hp.objs.size + 1) = H := by
        rw [eH]
        funext b
        by_cases hb : b = hp.objs.size + 1
        · rw [hb, del_same, hn]
        · rw [del_ne hb]
          exact upd_ne hb
      rw [e]
      exact h
    | next => exact False.elim hq'
    | brk => exact False.elim hq'
    | cont => exact False.elim hq'
end
/-! ### readings that may raise -/
/-- an error's fields: its class and what they hold -/
def XRp (K : PySem.W.Frag) (G : Hp) (fs : List (Str × D)) (d : Option Addr) : Prop := (d = none ∧ fs = []) ∨ ∃ (dd : Addr) (vs : List (Str × V)), d = some dd ∧ G dd = some (.xd vs) ∧ vs.map (·.1) = fs.map (·.1) ∧ Rps K G (fs.map (·.2)) (vs.map (·.2))
theorem XRp.mono {K : PySem.W.Frag} {G G' : Hp} {fs : List (Str × D)} {d : Option Addr} (e : Ex G G') (h : XRp K G fs d) : XRp K G' fs d := by
  rcases h with h | ⟨dd, vs, h1, h2, h3, h4⟩
  · exact .inl h
  · exact .inr ⟨dd, vs, h1, e _ _ h2, h3, h4.mono e⟩
abbrev WRx := Addr → List (Str × D) → Env → Store → Prop
abbrev WSx := WRx → WEnds → Env → Store → Prop
abbrev WEx := WRx → Env → Store → (D → Store → Prop) → Prop
def TellsX (K : PySem.W.Frag) (G : Hp) (R : WRx) (W : WX) : Prop := ∀ C fs d ρ' μ' σ' H' G', R C fs ρ' μ' → Ex G G' → EnvR K G' ρ' σ' → Sm K μ' G' H' → XRp K G' fs d → W (.ref C) d σ' H'
theorem TellsX.mono {K : PySem.W.Frag} {G G' : Hp} {R : WRx} {W : WX} (e : Ex G G') (h : TellsX K G R W) : TellsX K G' R W := fun a b c d f g i j r x y z => h a b c d f g i j r (e.trans x) y z
def LSx (K : PySem.W.Frag) (W : WX) (w : WSx) : TS := fun D σ H => ∃ ρ μ G We R, EnvR K G ρ σ ∧ Sm K μ G H ∧ w R We ρ μ ∧ TellsS K G We D ∧ TellsX K G R W
def LEx (K : PySem.W.Frag) (W : WX) (w : WEx) : TE := fun σ H Q => ∃ ρ μ G P R, EnvR K G ρ σ ∧ Sm K μ G H ∧ w R ρ μ P ∧ Tells K G P Q ∧ TellsX K G R W
structure XE (X : Cx) (W : WX) (e : Expr) (w : WEx) : Prop where
  p : PE X e (LEx X.K W w)
structure XS (X : Cx) (W : WX) (st : Stmt) (w : WSx) : Prop where
  p : PS X st (LSx X.K W w)
structure XSs (X : Cx) (W : WX) (st : List Stmt) (w : WSx) : Prop where
  p : PSs X st (LSx X.K W w)
section
variable {X : Cx} {W : WX} {st : Stmt} {rest a b : List Stmt} {e : Expr} {pos : Pos} {w : WS} {u v : WSx} {we : WE} {wx : WEx} {t : WT}
/-- what raises nothing -/
def xN (w : WS) : WSx := fun _ We ρ μ => w We ρ μ
theorem xs_of (h : DS X st w) : XS X W st (xN w) := ⟨wkS h.p fun D σ H ⟨ρ, μ, G, We, R, he, hm, hw, ht, _⟩ => ⟨ρ, μ, G, We, he, hm, hw, ht⟩⟩
theorem xss_of (h : DSs X rest w) : XSs X W rest (xN w) := ⟨wkSs h.p fun D σ H ⟨ρ, μ, G, We, R, he, hm, hw, ht, _⟩ => ⟨ρ, μ, G, We, he, hm, hw, ht⟩⟩
def xSeq (u v : WSx) : WSx := fun R We ρ μ => u R { We with nx := v R We } ρ μ
theorem xss_cons (h : XS X W st u) (k : XSs X W rest v) : XSs X W (st :: rest) (xSeq u v) := ⟨wkSs (pss_cons h.p k.p) fun D σ H ⟨ρ, μ, G, We, R, he, hm, hw, ht, tx⟩ =>
  ⟨ρ, μ, G, { We with nx := v R We }, R, he, hm, hw, ⟨fun ρ' μ' σ' H' G' p e r m => ⟨ρ', μ', G', We, R, r, m, p, ht.mono e, tx.mono e⟩, ht.rt, ht.bk, ht.ct⟩, tx⟩⟩
theorem xss_one (h : XS X W st u) : XSs X W [st] u := ⟨pss_one h.p⟩
def xIf (t : WT) (u v : WSx) : WSx := fun R We ρ μ => t ρ μ fun b μ1 => if b = true then u R We ρ μ1 else v R We ρ μ1
theorem xs_if {c : Expr} (hc : DT X c t) (ha : XSs X W a u) (hb : XSs X W b v) : XS X W (.If c a b pos) (xIf t u v) := ⟨wkS (ps_if hc.p ha.p hb.p) fun D σ H ⟨ρ, μ, G, We, R, he, hm, hw, ht, tx⟩ =>
  ⟨ρ, μ, G, _, he, hm, hw, fun k μ1 H1 G1 p e m => by
    cases k with
    | true => rw [if_pos rfl] at p ⊢; exact ⟨ρ, μ1, G1, We, R, he.mono e, m, p, ht.mono e, tx.mono e⟩
    | false => rw [if_neg Bool.false_ne_true] at p ⊢; exact ⟨ρ, μ1, G1, We, R, he.mono e, m, p, ht.mono e, tx.mono e⟩⟩⟩
/-- a statement that is an expression, a return, x = e of an expression that may raise -/
def xDrop (wx : WEx) : WSx := fun R We ρ μ => wx R ρ μ fun _ μ1 => We.nx ρ μ1
theorem xs_expr (h : XE X W e wx) (hs : swapsWith e none pos.line X.env = pure false := by rfl) : XS X W (.Expr e pos) (xDrop wx) := ⟨wkS (ps_expr h.p hs) fun D σ H ⟨ρ, μ, G, We, R, he, hm, hw, ht, tx⟩ =>
  ⟨ρ, μ, G, _, R, he, hm, hw, fun d μ' v H' G' p e m r => ht.nx _ _ _ _ _ p e (he.mono e) m, tx⟩⟩
def xRet (wx : WEx) : WSx := fun R We ρ μ => wx R ρ μ fun d μ1 => ∃ d' μ', Fz d μ1 d' μ' ∧ We.rt d' μ'
theorem xs_ret (h : XE X W e wx) : XS X W (.Return (some e) pos) (xRet wx) := ⟨wkS (ps_ret h.p) fun D σ H ⟨ρ, μ, G, We, R, he, hm, hw, ht, tx⟩ =>
  ⟨ρ, μ, G, _, R, he, hm, hw, fun d μ' v H' G' ⟨d', μ2, fz, p⟩ e m r => by
    obtain ⟨G2, e2, m2, r2⟩ := fz.ok m r
    exact ht.rt _ _ _ _ _ p (e.trans e2) m2 r2, tx⟩⟩
def xAsg (wx : WEx) (g : WG) : WSx := fun R We ρ μ => wx R ρ μ fun d μ1 => g d ρ μ1 We.nx
theorem xs_asg {tg : Expr} {g : WG} (h : XE X W e wx) (k : DG X tg g) (hs : swapsWithSole [tg] e pos.line X.env = pure false := by rfl) (hw : swappedStores [tg] e X.env = pure none := by rfl)
    (h1 : (assignEach [tg] X.env).map (·.2) = [assign tg X.env] := by rfl) : XS X W (.Assign [tg] e pos) (xAsg wx g) := ⟨wkS (ps_asg h.p k.p hs hw h1) fun D σ H ⟨ρ, μ, G, We, R, he, hm, hw, ht, tx⟩ =>
  ⟨ρ, μ, G, _, R, he, hm, hw, fun d μ1 v H1 G1 p e m r => ⟨ρ, μ1, G1, d, _, he.mono e, m, r, p, (show TellsN X.K G1 We.nx D.nx from fun a b c d f g x => ht.nx a b c d f g (e.trans x))⟩, tx⟩⟩
theorem xs_set {i : Nat} {x : Str} {pos' : Pos} (hN : X.N.Nodup) (hi : X.N[i]? = some x) (hx : Loc X.env.scope x) (h : XE X W e wx) (hs : swapsWithSole [.Name x pos'] e pos.line X.env = pure false := by rfl) (hw : swappedStores [.Name x pos'] e X.env = pure none := by rfl)
    (h1 : (assignEach [.Name x pos'] X.env).map (·.2) = [assign (.Name x pos') X.env] := by rfl) (hf : X.fn x = true ∨ X.env.scope.names.lookup x = some .local := by first | exact .inl rfl | exact .inr rfl | assumption) :
    XS X W (.Assign [.Name x pos'] e pos) (xAsg wx (wgName i)) := xs_asg h (dg_pat (pg_name hN hi hx hf) (gp_name (vs := [i]) (by simp))) hs hw h1
/-! ### raise -/
variable {j k : Nat} {x : Str} {C : Addr} {p p' : Pos}
def xRaise0 (C : Addr) : WSx := fun R _ ρ μ => R C [] ρ μ
theorem xs_raise0 (hc : X.calm = true) (tk : Takes X W) (c : DExc X.prog X.w X.K X.mg X.base k x C none) (hr : Room j X.A) (hk : k + 1 ≤ j) (hg : Gl X x) (hdb : (x == ("__debug__" : Str)) = false := by decide) :
    XS X W (.Raise (some (.Call (.Name x p) [] [] p')) none pos) (xRaise0 C) := ⟨wkS (ps_raise hc tk (pmk_0 c hr hk hg hdb)) fun D σ H ⟨ρ, μ, G, We, R, he, hm, hw, ht, tx⟩ => tx _ _ _ _ _ _ _ _ hw (Ex.refl _) he hm (.inl ⟨rfl, rfl⟩)⟩
def xRaise1 (C : Addr) (f : Str) (we : WE) : WSx := fun R _ ρ μ => we ρ μ fun d μ1 => R C [(f, d)] ρ μ1
theorem xs_raise1 {f : Str} (hc : X.calm = true) (tk : Takes X W) (c : DExc X.prog X.w X.K X.mg X.base k x C (some f)) (hr : Room j X.A) (hk : k + 1 ≤ j) (hg : Gl X x) (ha : DE X e we) (hdb : (x == ("__debug__" : Str)) = false := by decide)
    (he : starEach [e] X.env = (false, eval e X.env) :: starEach [] X.env := by rfl) :
    XS X W (.Raise (some (.Call (.Name x p) [e] [] p')) none pos) (xRaise1 C f we) := by
  obtain ⟨fI, fd, ps, T, iC, tI, hm, hb, F1⟩ := c.ex
  have hpm := pmk_oex (X := X) (CX := CX0) (p := p) (pos := p') T iC tI F1 (hr.mono hk) hb .nil pass0 hg hm (da_cons ha da_nil he).p hdb he (by rfl)
  refine ⟨wkS (ps_raise hc tk hpm) fun D σ H ⟨ρ, μ, G, We, R, he, hm, hw, ht, tx⟩ => ?_⟩
  refine ⟨ρ, μ, G, fun ds μ1 => match ds with | [d] => R C [(f, d)] ρ μ1 | _ => False, he, hm, hw, fun ds μ1 vs H1 G1 p1 e1 m1 r1 => ?_⟩
  dsimp only at p1
  split at p1
  · cases r1 with | cons ra rb =>
    rename_i d v ws
    cases rb
    refine ⟨(by decide : 1 ≤ 1000), fun a ha => ?_⟩
    refine ⟨a, v, rfl, upd_same, fun dx hdx hne => ⟨rfl, dx, [(f, v)], upd_same, ?_, ?_, ?_⟩⟩
    · rw [upd_ne hne]; exact upd_same
    · rwa [upd_ne hne] at hdx
    · rw [upd_ne hne] at hdx
      have e3 : upd (del (upd (upd (upd H1 a (exo a C none)) dx (exd dx [(f, v)])) a (exo a C (some dx))) a) dx (.xd [(f, v)]) = upd H1 dx (.xd [(f, v)]) := by
        funext b
        by_cases h1 : b = dx
        · rw [h1, upd_same, upd_same]
        · rw [upd_ne h1, upd_ne h1]
          by_cases h2 : b = a
          · rw [h2, del_same, ha]
          · rw [del_ne h2, upd_ne h2, upd_ne h1, upd_ne h2]
      rw [e3]
      obtain ⟨m2, e2⟩ := m1.frozen hdx (.xd [(f, v)])
      exact tx _ _ _ _ _ _ _ _ p1 (e1.trans e2) (he.mono (e1.trans e2)) m2 (.inr ⟨dx, _, rfl, upd_same, rfl, .cons (ra.mono e2) .nil⟩)
  · exact p1.elim
end
/-! ### promises that may raise -/
abbrev DSpX := List D → Store → (D → Store → Prop) → (Addr → List (Str × D) → Store → Prop) → Prop
def TellsE (K : PySem.W.Frag) (G : Hp) (R : Addr → List (Str × D) → Store → Prop) (E : XK) : Prop := ∀ C fs d μ' H' G', R C fs μ' → Ex G G' → Sm K μ' G' H' → XRp K G' fs d → E (.ref C) d H'
def LSpX (K : PySem.W.Frag) (d : DSpX) : Sp := fun vs H Q E => ∃ ds μ G P R, Rps K G ds vs ∧ Sm K μ G H ∧ d ds μ P R ∧ Tells K G P Q ∧ TellsE K G R E
structure DCalX (P : Program) (w : World) (K : PySem.W.Frag) (mg : Str → Option Value) (base : Heap) (k : Nat) (x : Str) (d : DSpX) (dds : List D) : Prop where
  ex : ∃ (f : Addr) (fd : FuncData) (ps : List Str) (ds : List Value) (dvs : List V), FnOk P w K mg base (L2.CX P w) k f fd ps (LSpX K d) ∧ mg x = some (.ref f) ∧ PySem.W.keepIn K (.ref f) = true ∧ Binds K fd ps ds ∧ Vals dvs ds ∧ ∀ G, Rps K G dds dvs
structure DMakX (P : Program) (w : World) (K : PySem.W.Frag) (mg : Str → Option Value) (base : Heap) (k : Nat) (x : Str) (C : Addr) (d : DSpX) (dds : List D) : Prop where
  ex : ∃ (f : Addr) (fd : FuncData) (ps : List Str) (ds : List Value) (dvs : List V), Mk K C f ∧ FnOk P w K mg base (L2.CX P w) k f fd ps (LSpX K d) ∧ mg x = some (.ref C) ∧ Binds K fd ps ds ∧ Vals dvs ds ∧ ∀ G, Rps K G dds dvs
structure DMetX (P : Program) (w : World) (K : PySem.W.Frag) (mg : Str → Option Value) (base : Heap) (k : Nat) (C : Addr) (m : Str) (d : DSpX) (dds : List D) : Prop where
  ex : ∃ (f : Addr) (fd : FuncData) (ps : List Str) (ds : List Value) (dvs : List V), Cls K C ∧ Meth K C m f ∧ FnOk P w K mg base (L2.CX P w) k f fd ps (LSpX K d) ∧ Binds K fd ps ds ∧ Vals dvs ds ∧ ∀ G, Rps K G dds dvs
section
variable {P : Program} {w : World} {K : PySem.W.Frag} {mg : Str → Option Value} {base : Heap}
/-- what a raising def's frame wishes -/
abbrev WofE (E : XK) : WX := fun cls d _ H => E cls d H
theorem takesF {N : List Str} {qual : Str} {scope : Scope} {f : Addr} {cd : Value} {A : Around} {outer : List PySem.Env} {s : Shared} {H : Hp} {E : XK} : Takes (cxOf (L2.CX P w) P w K mg base N qual scope f cd A outer s H E) (WofE E) := takes_of rfl rfl rfl rfl
theorem FnAt.okX {x qual : Str} {st : Stmt} {dsV : List Value} {f : Addr} {fd : FuncData} {N ps : List Str} {k : Nat} {d : DSpX} {ws : WSx} (F : FnAt K x qual st dsV f fd) (S : FnScope N ps (defScope st)) (len : ∀ ds μ Q R, d ds μ Q R → ds.length = ps.length)
    (hb : ∀ (cdv : Value) (A : Around) (outer : List PySem.Env) (s : Shared) (H : Hp) (E : XK), Room k (A.deeper (PyProof.Rows.envOfC qual (defScope st) s.heap.objs.size f cdv)) → XSs (cxOf (L2.CX P w) P w K mg base N qual (defScope st) f cdv A outer s H E) (WofE E) (defBody st) ws)
    (ok : ∀ ds μ Q R, d ds μ Q R → ws (fun C fs _ μ' => ∃ μ2, Sub μ2 μ' ∧ R C fs μ2) { nx := fun _ μ' => ∃ μ2, Sub μ2 μ' ∧ Q .non μ2, rt := Q } (startD N ds) μ) : FnOk P w K mg base (L2.CX P w) (k + 1) f fd ps (LSpX K d) := by
  obtain ⟨oc, od, dV, kV, doc, pm, an, cdv, ct, osl, rfl, lk, hcd, _⟩ := F.ex
  refine fn_of lk hcd S (fun vs H Q E ⟨ds, μ, G, Q', R, r, m, h, t, te⟩ => by rw [← r.length]; exact len _ _ _ _ h) fun A outer s H vs Q E hr ⟨ds, μ, G, Q', R, r, m, h, t, te⟩ => ?_
  exact ⟨_, (hb cdv A outer s H E hr).p, startD N ds, μ, G, _, _, env_start r, m, ok ds μ Q' R h, ⟨fun ρ' μ' σ' H' G' ⟨μ2, sb, p⟩ e _ m' => t _ _ _ _ _ p e (m'.sub sb) .non, fun d μ' v H' G' p e m' r' => t _ _ _ _ _ p e m' r', fun _ _ _ _ _ p => p.elim, fun _ _ _ _ _ p => p.elim⟩,
    fun C fs d ρ' μ' σ' H' G' ⟨μ2, sb, p⟩ e _ m' xr => te _ _ _ _ _ _ p e (m'.sub sb) xr⟩
theorem passesF {N : List Str} {qual : Str} {scope : Scope} {f : Addr} {cd : Value} {A : Around} {outer : List PySem.Env} {s : Shared} {H : Hp} {E : XK} {X : Cx} (h : X = cxOf (L2.CX P w) P w K mg base N qual scope f cd A outer s H E) : PassesOwn (model X.prog X.w) X.A X.env X.xe := by
  subst h
  exact passes_of (K := fun e s'' => L2.CX P w outer H s E e s'') rfl
theorem Fun.at {x qual : Str} {st : Stmt} {f : Addr} {fd : FuncData} (F : Fun K x qual st f fd) : FnAt K x qual st [] f fd := by
  obtain ⟨oc, od, kV, doc, pm, an, cdv, ct, osl, rfl, lk, hcd⟩ := F.ex
  exact FnAt.mk0 lk hcd
theorem DefAt.calX {x : Str} {st : Stmt} {N ps : List Str} {k : Nat} {d : DSpX} {ws : WSx} (D : DefAt K mg x st) (S : FnScope N ps (defScope st)) (len : ∀ ds μ Q R, d ds μ Q R → ds.length = ps.length)
    (hb : ∀ {f : Addr} (cdv : Value) (A : Around) (outer : List PySem.Env) (s : Shared) (H : Hp) (E : XK), Room k (A.deeper (PyProof.Rows.envOfC x (defScope st) s.heap.objs.size f cdv)) → XSs (cxOf (L2.CX P w) P w K mg base N x (defScope st) f cdv A outer s H E) (WofE E) (defBody st) ws)
    (ok : ∀ ds μ Q R, d ds μ Q R → ws (fun C fs _ μ' => ∃ μ2, Sub μ2 μ' ∧ R C fs μ2) { nx := fun _ μ' => ∃ μ2, Sub μ2 μ' ∧ Q .non μ2, rt := Q } (startD N ds) μ)
    (h : ∀ (kV doc pm : Value) (an : Option Addr) (cdv ct : Value) (us : List Value), us.length = ps.length → bindArgs (PySem.W.fnOf x x (defArgs st) (defBody st) (defScope st) .none kV doc pm an cdv ct) ⟨us, []⟩ = pure (ps.zip us)) : DCalX P w K mg base (k + 1) x d [] := by
  obtain ⟨f, fd, F, m⟩ := D.ex
  exact ⟨f, fd, ps, [], [], (Fun.at F).okX S len (hb (f := f)) ok, m, F.kp, F.binds h, .nil, fun _ => .nil⟩
theorem DefD.calX {x : Str} {st : Stmt} {dsV ds : List Value} {dvs : List V} {dds : List D} {N ps : List Str} {k : Nat} {d : DSpX} {ws : WSx} (D : DefD K mg x st dsV) (S : FnScope N ps (defScope st)) (len : ∀ ds μ Q R, d ds μ Q R → ds.length = ps.length)
    (hb : ∀ {f : Addr} (cdv : Value) (A : Around) (outer : List PySem.Env) (s : Shared) (H : Hp) (E : XK), Room k (A.deeper (PyProof.Rows.envOfC x (defScope st) s.heap.objs.size f cdv)) → XSs (cxOf (L2.CX P w) P w K mg base N x (defScope st) f cdv A outer s H E) (WofE E) (defBody st) ws)
    (ok : ∀ ds μ Q R, d ds μ Q R → ws (fun C fs _ μ' => ∃ μ2, Sub μ2 μ' ∧ R C fs μ2) { nx := fun _ μ' => ∃ μ2, Sub μ2 μ' ∧ Q .non μ2, rt := Q } (startD N ds) μ) (b : ∀ {f fd}, FnAt K x x st dsV f fd → Binds K fd ps ds) (vd : Vals dvs ds) (rd : ∀ G, Rps K G dds dvs) : DCalX P w K mg base (k + 1) x d dds := by
  obtain ⟨f, fd, F, m, kp⟩ := D.ex
  exact ⟨f, fd, ps, ds, dvs, F.okX S len (hb (f := f)) ok, m, kp, b F, vd, rd⟩
theorem MetAt.metX {C : Addr} {m qual : Str} {st : Stmt} {dsV ds : List Value} {dvs : List V} {dds : List D} {N ps : List Str} {k : Nat} {d : DSpX} {ws : WSx} (D : MetAt K C m qual st dsV) (c : Cls K C) (S : FnScope N ps (defScope st)) (len : ∀ ds μ Q R, d ds μ Q R → ds.length = ps.length)
    (hb : ∀ {f : Addr} (cdv : Value) (A : Around) (outer : List PySem.Env) (s : Shared) (H : Hp) (E : XK), Room k (A.deeper (PyProof.Rows.envOfC qual (defScope st) s.heap.objs.size f cdv)) → XSs (cxOf (L2.CX P w) P w K mg base N qual (defScope st) f cdv A outer s H E) (WofE E) (defBody st) ws)
    (ok : ∀ ds μ Q R, d ds μ Q R → ws (fun C fs _ μ' => ∃ μ2, Sub μ2 μ' ∧ R C fs μ2) { nx := fun _ μ' => ∃ μ2, Sub μ2 μ' ∧ Q .non μ2, rt := Q } (startD N ds) μ) (b : ∀ {f fd}, FnAt K m qual st dsV f fd → Binds K fd ps ds) (vd : Vals dvs ds) (rd : ∀ G, Rps K G dds dvs) : DMetX P w K mg base (k + 1) C m d dds := by
  obtain ⟨f, fd, me, F⟩ := D.ex
  exact ⟨f, fd, ps, ds, dvs, c, me, F.okX S len (hb (f := f)) ok, b F, vd, rd⟩
theorem MetAt.makX {x : Str} {C : Addr} {qual : Str} {st : Stmt} {dsV ds : List Value} {dvs : List V} {dds : List D} {N ps : List Str} {k : Nat} {d : DSpX} {ws : WSx} (D : MetAt K C "__init__" qual st dsV) (c : ClsAt K mg x C) (S : FnScope N ps (defScope st)) (len : ∀ ds μ Q R, d ds μ Q R → ds.length = ps.length)
    (hb : ∀ {f : Addr} (cdv : Value) (A : Around) (outer : List PySem.Env) (s : Shared) (H : Hp) (E : XK), Room k (A.deeper (PyProof.Rows.envOfC qual (defScope st) s.heap.objs.size f cdv)) → XSs (cxOf (L2.CX P w) P w K mg base N qual (defScope st) f cdv A outer s H E) (WofE E) (defBody st) ws)
    (ok : ∀ ds μ Q R, d ds μ Q R → ws (fun C fs _ μ' => ∃ μ2, Sub μ2 μ' ∧ R C fs μ2) { nx := fun _ μ' => ∃ μ2, Sub μ2 μ' ∧ Q .non μ2, rt := Q } (startD N ds) μ) (b : ∀ {f fd}, FnAt K "__init__" qual st dsV f fd → Binds K fd ps ds) (vd : Vals dvs ds) (rd : ∀ G, Rps K G dds dvs) : DMakX P w K mg base (k + 1) x C d dds := by
  obtain ⟨f, fd, me, F⟩ := D.ex
  exact ⟨f, fd, ps, ds, dvs, ⟨c.mks, me.at_, me.fn, c.kp⟩, F.okX S len (hb (f := f)) ok, c.g, b F, vd, rd⟩
end
/-! ### calls that may raise -/
section
variable {X : Cx} {W : WX} {j k : Nat} {x m : Str} {C : Addr} {d : DSpX} {dds : List D} {p pos apos : Pos} {e o : Expr} {es : List Expr} {wa : WA} {wo : WE}
def xCall (d : DSpX) (dds : List D) (wa : WA) : WEx := fun R ρ μ P => wa ρ μ fun ds μ1 => d (ds ++ dds) μ1 P fun C fs μ' => R C fs ρ μ'
theorem tellsE {K : PySem.W.Frag} {G : Hp} {R : WRx} {W : WX} {ρ : Env} {σ : L2.St} (he : EnvR K G ρ σ) (tx : TellsX K G R W) : TellsE K G (fun C fs μ' => R C fs ρ μ') (fun cls d H => W cls d σ H) := fun C fs d μ' H' G' r e m x => tx _ _ _ _ _ _ _ _ r e (he.mono e) m x
theorem xe_cal (tk : Takes X W) (c : DCalX X.prog X.w X.K X.mg X.base k x d dds) (hr : Room j X.A) (hk : k ≤ j) (hg : Gl X x) (ha : DA X (e :: es) wa) (hdb : (x == ("__debug__" : Str)) = false := by decide)
    (he : starEach (e :: es) X.env = (false, eval e X.env) :: starEach es X.env := by rfl) (hpl : (backTo pos (starEach es X.env)).any (·.1) = false := by rfl) : XE X W (.Call (.Name x p) (e :: es) [] pos) (xCall d dds wa) := by
  obtain ⟨f, fd, ps, ds, dvs, F, hm, kp, b, vd, rd⟩ := c.ex
  exact ⟨wkE (pe_callSD (E := L2.WE W) F (hr.mono hk) hg hm kp b vd (fun σ => passAt tk σ) ha.p hdb he hpl) fun σ H Q ⟨ρ, μ, G, P, R, hr, hm, hw, ht, tx⟩ => ⟨ρ, μ, G, _, hr, hm, hw, fun ds μ1 vs H1 G1 p1 e1 m1 r1 =>
    ⟨ds ++ dds, μ1, G1, P, _, r1.append (rd G1), m1, p1, ht.mono e1, tellsE (hr.mono e1) (tx.mono e1)⟩⟩⟩
def tMethS (C : Addr) (m : Str) (sp : Sp) (dvs : List V) (E : L2.St → XK) (to : TE) (t : TA) : TE := fun σ H Q => to σ H fun x H1 => ∃ (a dx : Addr) (fs : List (Str × V)), x = .ref a ∧ H1 a = some (.ins C dx fs) ∧ fs.lookup m = none ∧ t σ H1 fun vs H2 => sp (.ref a :: (vs ++ dvs)) H2 Q (E σ)
theorem pe_methS {f : Addr} {fd : FuncData} {ps : List Str} {sp : Sp} {ds : List Value} {dvs : List V} {E : L2.St → XK} {ta : TE} {t : TA} {CX : CXT} {pl : Sem Bool} (he : PE X o ta) (c : Cls X.K C) (hm : Meth X.K C m f) (F : FnOk X.prog X.w X.K X.mg X.base CX k f fd ps sp) (hr : Room k X.A) (hb : Binds X.K fd ps ds) (hd : Vals dvs ds) (hx : ∀ σ, PassesAt CX X σ (E σ)) (ha : PA X (e :: es) t)
    (hst : starEach (e :: es) X.env = (false, eval e X.env) :: starEach es X.env := by rfl) (hpl : (backTo pos (starEach es X.env)).any (·.1) = false := by rfl)
    (ht : eval (.Call (.Attribute o m apos) (e :: es) [] pos) X.env = (do
      let ov ← eval o X.env
      standAt apos.atName
      let (f, first) ← holding [ov] (getMethod ov m pl)
      callWith pos f first (backTo pos (starEach (e :: es) X.env)) (backToKw pos (keywordEach [] X.env))) := by rfl) :
    PE X (.Call (.Attribute o m apos) (e :: es) [] pos) (tMethS C m sp dvs E ta t) := by
  refine ⟨fun pins s σ H Q I h => ?_⟩
  refine PySem.W.methodCall_KW (pl := pl) (thn (he.run pins s σ H _ I h) fun u s1 ⟨x, H1, I1, rx, a, dx, fs, ex, ea, l, q⟩ => ?_) ht
  subst ex
  obtain rfl : u = Value.ref a := rx
  refine getmeth_ok I1 ea c hm l ?_
  refine PySem.W.callWith_K (first := [.ref a]) (h₀ := X.base) I.ok.mod.kin hm.kp (thn (ha.run pos pins s1 σ H1 _ I1 q) fun us s2 ⟨vs, H2, I2, r, q2⟩ => ⟨I2.kIn, ?_⟩) hst hpl
  exact run_fnSD (us := .ref a :: us) (vs := .ref a :: vs) F hr hb hd (hx σ) I2 (.cons rfl r) q2
def xMeth (C : Addr) (m : Str) (d : DSpX) (dds : List D) (wo : WE) (wa : WA) : WEx := fun R ρ μ P => wo ρ μ fun x μ1 => match insD μ1 x with
  | some (C', fs) => C' = C ∧ look fs m = none ∧ wa ρ μ1 fun ds μ2 => d (x :: (ds ++ dds)) μ2 P fun C fs μ' => R C fs ρ μ'
  | none => False
theorem xe_met {pl : Sem Bool} (tk : Takes X W) (c : DMetX X.prog X.w X.K X.mg X.base k C m d dds) (hr : Room j X.A) (hk : k ≤ j) (ho : DE X o wo) (ha : DA X (e :: es) wa)
    (hst : starEach (e :: es) X.env = (false, eval e X.env) :: starEach es X.env := by rfl) (hpl : (backTo pos (starEach es X.env)).any (·.1) = false := by rfl)
    (ht : eval (.Call (.Attribute o m apos) (e :: es) [] pos) X.env = (do
      let ov ← eval o X.env
      standAt apos.atName
      let (f, first) ← holding [ov] (getMethod ov m pl)
      callWith pos f first (backTo pos (starEach (e :: es) X.env)) (backToKw pos (keywordEach [] X.env))) := by rfl) : XE X W (.Call (.Attribute o m apos) (e :: es) [] pos) (xMeth C m d dds wo wa) := by
  obtain ⟨f, fd, ps, ds, dvs, hc, hm, F, b, vd, rd⟩ := c.ex
  refine ⟨wkE (pe_methS (pl := pl) (E := L2.WE W) ho.p hc hm F (hr.mono hk) b vd (fun σ => passAt tk σ) ha.p hst hpl ht) fun σ H Q ⟨ρ, μ, G, P, R, hr, hm, hw, htl, tx⟩ => ⟨ρ, μ, G, _, hr, hm, hw, fun x μ1 v1 H1 G1 p1 e1 m1 r1 => ?_⟩⟩
  split at p1
  · rename_i C' fs q
    obtain ⟨rfl, hl, p⟩ := p1
    obtain ⟨a, dx, vs, rfl, h1, k1, r2⟩ := insD_ok q m1 r1
    refine ⟨a, dx, vs, rfl, h1, by rw [lookup_look]; exact (look_keys (k := m) k1 r2).2 hl, ⟨ρ, μ1, G1, _, hr.mono e1, m1, p, fun ds μ2 vs2 H2 G2 p2 e2 m2 r3 => ⟨x :: (ds ++ dds), μ2, G2, P, _, .cons (r1.mono e2) (r3.append (rd G2)), m2, p2, htl.mono (e1.trans e2), tellsE ((hr.mono e1).mono e2) (tx.mono (e1.trans e2))⟩⟩⟩
  · exact p1.elim
theorem run_makeS {CX : CXT} {f : Addr} {fd : FuncData} {ps : List Str} {sp : Sp} {ds : List Value} {dvs : List V} {E : L2.St → XK} {pins : List (Addr × Obj)} {σ : L2.St} {H : Hp} {s : Shared} {Q : VK} {us : List Value} {vs : List V} (M : Mk X.K C f) (F : FnOk X.prog X.w X.K X.mg X.base CX k f fd ps sp) (hr : Room (k + 1) X.A) (hb : Binds X.K fd ps ds) (hd : Vals dvs ds)
    (hx : PassesAt CX X σ (E σ)) (I : Inv X pins σ H s) (r : Vals vs us)
    (h : ∀ x dx, H x = none → H dx = none → dx ≠ x → sp (.ref x :: (vs ++ dvs)) (upd (upd H dx (.own x)) x (.ins C dx [])) (fun v H2 => v = .non ∧ Q (.ref x) H2) (E σ)) :
    wpAny (model X.prog X.w) X.A (call (.ref C) us) (EP X pins σ Q) X.xe s := by
  have hq := h (s.heap.objs.size + 1) s.heap.objs.size (I.hok.fresh (Nat.le_succ _)) (I.hok.fresh (Nat.le_refl _)) (Nat.ne_of_lt (Nat.lt_succ_self _))
  have I2 := Inv.made (C := C) I
  have r2 : Vals (V.ref (s.heap.objs.size + 1) :: (vs ++ dvs)) (Value.ref (s.heap.objs.size + 1) :: (us ++ ds)) := .cons rfl (r.append hd)
  have hl : (Value.ref (s.heap.objs.size + 1) :: us ++ ds).length = ps.length := by
    have e := r2.length
    rw [F.len _ _ _ _ hq] at e
    exact e.symm
  refine wpAny_call (make_map (f := f) I.kIn M.makes M.init (beq_iff_eq.mp M.fn) (codeAny_mono (F.run _ X.stack _ _ ⟨Value.ref (s.heap.objs.size + 1) :: us, []⟩ (Value.ref (s.heap.objs.size + 1) :: (us ++ ds)) _ _ (E σ) (hr.make C us [])
    (I2.env0.make C us []) (hb _ (Value.ref (s.heap.objs.size + 1) :: us) I2.kIn hl) r2 hq) fun r s' hq' => ?_))
  cases r with
  | error e => exact hx pins _ _ e s' I2 hq'
  | ok fl =>
    cases fl with
    | ret u =>
      obtain ⟨v, H', I3, rv, ev, q3⟩ := I2.after hq'
      subst ev
      exact ⟨rv, ⟨V.ref (s.heap.objs.size + 1), H', I3, rfl, q3⟩⟩
    | next => exact False.elim hq'
    | brk => exact False.elim hq'
    | cont => exact False.elim hq'
def xMake (C : Addr) (d : DSpX) (dds : List D) (wa : WA) : WEx := fun R ρ μ P => wa ρ μ fun ds μ1 => ∀ x, μ1 x = none → d (.ref x :: (ds ++ dds)) (setS μ1 x (.ins C [])) (fun r μ2 => r = .non ∧ ∃ fs, μ2 x = some (.ins C fs) ∧ P (.obj C fs) (delS μ2 x)) fun C fs μ' => R C fs ρ μ'
theorem xe_mak (tk : Takes X W) (c : DMakX X.prog X.w X.K X.mg X.base k x C d dds) (hr : Room j X.A) (hk : k + 1 ≤ j) (hg : Gl X x) (ha : DA X (e :: es) wa) (hdb : (x == ("__debug__" : Str)) = false := by decide)
    (he : starEach (e :: es) X.env = (false, eval e X.env) :: starEach es X.env := by rfl) (hpl : (backTo pos (starEach es X.env)).any (·.1) = false := by rfl) : XE X W (.Call (.Name x p) (e :: es) [] pos) (xMake C d dds wa) := by
  obtain ⟨f, fd, ps, ds, dvs, M, F, hm, b, vd, rd⟩ := c.ex
  refine ⟨⟨fun pins s σ H Q I h => ?_⟩⟩
  refine wpAny_Call_Name_kw (ld_glob I hg hm ?_ hdb)
  obtain ⟨ρ, μ, G, P, R, he', hm', hw, ht, tx⟩ := h
  refine PySem.W.callWith_K (h₀ := X.base) I.ok.mod.kin M.kp (thn (ha.p.run pos pins s σ H (fun vs H1 => ∀ x dx, H1 x = none → H1 dx = none → dx ≠ x → LSpX X.K d (.ref x :: (vs ++ dvs)) (upd (upd H1 dx (.own x)) x (.ins C dx [])) (fun v H2 => v = .non ∧ Q (.ref x) H2) (fun cls d H => W cls d σ H)) I
    ⟨ρ, μ, G, _, he', hm', hw, fun ds μ1 vs H1 G1 p1 e1 m1 r1 => fun x dx hx hdx hn => ⟨_, _, G1, _, _, .cons (.ref x) (r1.append (rd G1)), made_sm m1 hx hdx hn, p1 x (m1.nn hx), fun r μ2 v H2 G2 ⟨er, fs, q, p⟩ e2 m2 rv => by
      subst er
      cases rv
      obtain ⟨G3, m3, e3, r3⟩ := m2.freezeI q
      exact ⟨rfl, ht _ _ _ _ _ p ((e1.trans e2).trans e3) m3 r3⟩, tellsE (he'.mono e1) (tx.mono e1)⟩⟩) fun us s1 ⟨vs, H1, I1, r, q⟩ => ⟨I1.kIn, ?_⟩) he hpl
  exact run_makeS (E := L2.WE W) M F (hr.mono hk) b vd (passAt tk σ) I1 r q
end
/-! ### the __init__ of an error -/
section
variable {P : Program} {w : World} {K : PySem.W.Frag} {mg : Str → Option Value} {base : Heap} {qual y f t : Str} {st : Stmt} {fI C : Addr} {fd : FuncData} {k : Nat} {p6 p7 p8 p9 p10 : Pos}
theorem visP {N ps : List Str} {sc : Scope} (S : FnScope N ps sc) {x : Str} (h : x ∈ ps) : Vis sc x := by
  rcases S.par x h with h | h
  · exact .inl h
  · exact .inr (.inl h)
theorem exc_fn0 {e1 : Expr} (F : FnAt K "__init__" qual st [] fI fd) (S : FnScope ["self"] ["self"] (defScope st)) (T : OexC K C) (hb : defBody st = [.Expr e1 p6])
    (h1 : ∀ (f : Addr) (cdv : Value) (A : Around) (outer : List PySem.Env) (s : Shared) (H : Hp) (E : XK), PE (cxOf CX0 P w K mg base ["self"] qual (defScope st) f cdv A outer s H E) e1 (tVeI K (tCons (tVar 0) (tCons (tC (.str t)) tNil))))
    (hs : ∀ env : PySem.Env, swapsWith e1 none p6.line env = pure false) : FnOk P w K mg base CX0 (k + 1) fI fd ["self"] (SpI0 C) := by
  obtain ⟨oc, od, dV, kV, doc, pm, an, cdv, ct, osl, rfl, lk, hcd, _⟩ := F.ex
  refine fn_of lk hcd S (fun vs H Q E ⟨a, e, _⟩ => by rw [e]; rfl) fun A outer s H vs Q E hr ⟨a, e, ha, q⟩ => ?_
  rw [hb]
  refine ⟨_, pss_one (ps_expr (h1 _ _ _ _ _ _ _) (hs _)), ?_⟩
  subst e
  exact ⟨_, rfl, a, C, [.str t], rfl, (by decide : 1 ≤ 1000), T, ha, q⟩
theorem exc_fn1 {e1 : Expr} (F : FnAt K "__init__" qual st [] fI fd) (S : FnScope ["self", y] ["self", y] (defScope st)) (T : OexC K C) (hno : PySem.W.findIn K (.ref C) f = some none)
    (hb : defBody st = [.Expr e1 p6, .Assign [.Attribute (.Name "self" p7) f p8] (.Name y p9) p10])
    (h1 : ∀ (f : Addr) (cdv : Value) (A : Around) (outer : List PySem.Env) (s : Shared) (H : Hp) (E : XK), PE (cxOf CX0 P w K mg base ["self", y] qual (defScope st) f cdv A outer s H E) e1 (tVeI K (tCons (tVar 0) (tCons (tC (.str t)) tNil))))
    (hs : ∀ env : PySem.Env, swapsWith e1 none p6.line env = pure false) (hy : (y == ("__debug__" : Str)) = false) (hy2 : (y == ("__classdict__" : Str)) = false) : FnOk P w K mg base CX0 (k + 1) fI fd ["self", y] (SpI1 C f) := by
  obtain ⟨oc, od, dV, kV, doc, pm, an, cdv, ct, osl, rfl, lk, hcd, _⟩ := F.ex
  refine fn_of lk hcd S (fun vs H Q E ⟨a, v, e, _⟩ => by rw [e]; rfl) fun A outer s H vs Q E hr ⟨a, v, e, ha, q⟩ => ?_
  rw [hb]
  refine ⟨_, pss_cons (ps_expr (h1 _ _ _ _ _ _ _) (hs _)) (pss_one (ps_ost (pe_var (i := 0) rfl (visP S (by simp)) (by decide) (by decide)) (pe_var (i := 1) rfl (visP S (by simp)) hy hy2))), ?_⟩
  subst e
  exact ⟨_, rfl, a, C, [.str t], rfl, (by decide : 1 ≤ 1000), T, ha, _, rfl, _, rfl, a, C, rfl, T, hno, .inl ⟨ha, q⟩⟩
end
/-! ### try: .. except X as e: .. -/
def oIsE (K : PySem.W.Frag) (a : Addr) (cls : Value) (d : Option Addr) : OC := fun ds μ P => ∃ (C B : Addr) (fs : List (Str × D)) (b : Bool), ds = [.exc a d C fs, .ref B] ∧ cls = .ref C ∧ L2.ExcC K C ∧ PySem.W.kitOne K (.ref C) (.ref B) = some b ∧ P (.bl b) μ
def rIsE2 (K : PySem.W.Frag) (a : Addr) (cls : Value) (d : Option Addr) : List V → Hp → VK → Prop := fun xs H Q => ∃ (C B : Addr) (b : Bool), xs = [.ref a, .ref B] ∧ cls = .ref C ∧ L2.ExcC K C ∧ (∀ dd, d = some dd → ∃ fs, H dd = some (.xd fs)) ∧ PySem.W.kitOne K (.ref C) (.ref B) = some b ∧ Q (.bl b) H
theorem call_isE2 {X : Cx} {a : Addr} {cls : Value} {d : Option Addr} {oe : Obj} {pn : List (Addr × Obj)} (hz : Zc cls d oe) (hf : ∃ vs, oe.data = .fields vs) : CallR (X.suite a ((a, oe) :: pn)) (.builtin "isinstance") (rIsE2 X.K a cls d) := by
  intro pins s σ H xs us Q I r h
  obtain ⟨C, B, b, rfl, rfl, c, hx, e, q⟩ := h
  cases r with
  | cons rx rr =>
    cases rr with
    | cons rt rr =>
      cases rr
      cases rx
      rename_i u
      have eu : u = Value.ref B := rt
      subst eu
      obtain ⟨hget, _⟩ := I.pin (a, oe) (List.mem_append.mpr (.inl List.mem_cons_self))
      obtain ⟨vs, hv⟩ := hf
      have J : ∃ od, PySem.W.InstAt s.heap a oe C od := by
        cases d with
        | none =>
          refine ⟨none, ?_⟩
          obtain ⟨oc, od, oda, osl⟩ := oe
          obtain ⟨h1, h2⟩ := hz
          dsimp only at h1 h2 hv
          subst h1 h2 hv
          exact ⟨hget, rfl, rfl, trivial⟩
        | some dd =>
          obtain ⟨fs, ea⟩ := hx dd rfl
          have hx : ObjOk X.prog X.w H s.heap dd (.xd fs) := I.hok dd _ ea
          obtain ⟨mA, hns, hr⟩ := hx
          obtain ⟨od, ho, hl⟩ := lookIn_ns hns
          exact ⟨some od, hget, hz.1, by unfold PySem.W.notCls; rw [hv] <;> rfl, by rw [hz.2]; exact ho⟩
      obtain ⟨od, J⟩ := J
      obtain ⟨cd, hc, _⟩ := PySem.W.any_some c.hd
      exact PySem.W.kia_one (PySem.W.kitx_exc (by rw [hc]; rfl) c.hg c.hk c.hs c.ha c.hn c.ht c.hm) I.kIn J e (fun z => nomatch z) fun tk => ⟨.bl b, H, I.kept (t' := tk) fun _ _ z => z, rfl, q⟩
theorem exc_hx {K : PySem.W.Frag} {G H : Hp} {a C : Addr} {d : Option Addr} {fs : List (Str × D)} {v : V} {μ : Store} (m : Sm K μ G H) (r : Rp K G (.exc a d C fs) v) : v = .ref a ∧ ∀ dd, d = some dd → ∃ vs, H dd = some (.xd vs) ∧ vs.map (·.1) = fs.map (·.1) ∧ Rps K G (fs.map (·.2)) (vs.map (·.2)) := by
  cases r with
  | excN => exact ⟨rfl, fun _ z => nomatch z⟩
  | excD h k r => exact ⟨rfl, fun dd z => by cases z; exact ⟨_, m.ex _ _ h, k, r⟩⟩
theorem cs_isE {X : Cx} {a : Addr} {cls : Value} {d : Option Addr} {oe : Obj} {pn : List (Addr × Obj)} (hz : Zc cls d oe) (hf : ∃ vs, oe.data = .fields vs) : CallS (X.suite a ((a, oe) :: pn)) (.builtin "isinstance") (oIsE X.K a cls d) := by
  refine ⟨_, call_isE2 hz hf, ?_⟩
  intro ds μ P G H vs Q h m r t
  obtain ⟨C, B, fs, b, rfl, rfl, c, e, p⟩ := h
  cases r with | cons r1 r2 =>
  cases r2 with | cons r2 r3 =>
  cases r3
  cases r2
  obtain ⟨rfl, hx⟩ := exc_hx m r1
  exact ⟨C, B, b, rfl, rfl, c, fun dd z => (hx dd z).imp fun _ h => h.1, e, t _ _ _ _ _ p (Ex.refl _) m (.bl _)⟩
/-- e.f of the error that the suite holds -/
def wXf (K : PySem.W.Frag) (a : Addr) (cls : Value) (d : Option Addr) (f : Str) (we : WE) : WE := fun ρ μ P => we ρ μ fun x μ1 => ∃ (C dd : Addr) (fs : List (Str × D)) (v : D), x = .exc a d C fs ∧ d = some dd ∧ cls = .ref C ∧ L2.ExcC K C ∧ PySem.W.findIn K (.ref C) f = some none ∧ look fs f = some v ∧ P v μ1
theorem de_xf {X : Cx} {a : Addr} {cls : Value} {d : Option Addr} {oe : Obj} {pn : List (Addr × Obj)} {e : Expr} {we : WE} {pos : Pos} {f : Str} (hz : Zc cls d oe) (hf : ∃ vs, oe.data = .fields vs) (h : DE (X.suite a ((a, oe) :: pn)) e we)
    (hb : attributeBase e f X.env (eval e X.env) = eval e X.env := by rfl) : DE (X.suite a ((a, oe) :: pn)) (.Attribute e f pos) (wXf X.K a cls d f we) := by
  refine ⟨⟨fun pins s σ H Q I h2 => ?_⟩⟩
  refine attr_of hb (thn (h.p.run pins s σ H (fun x H1 => x = .ref a ∧ ∃ (C dd : Addr) (fs : List (Str × V)) (v : V), d = some dd ∧ cls = .ref C ∧ L2.ExcC X.K C ∧ PySem.W.findIn X.K (.ref C) f = some none ∧ H1 dd = some (.xd fs) ∧ fs.lookup f = some v ∧ Q v H1) I ?_) fun u s1 hh => ?_)
  · obtain ⟨ρ, μ, G, P, he, hm, hw, ht⟩ := h2
    refine ⟨ρ, μ, G, _, he, hm, hw, fun x μ1 v1 H1 G1 p1 e1 m1 r1 => ?_⟩
    obtain ⟨C, dd, fs, v, rfl, rfl, rfl, c, hno, hl, p⟩ := p1
    obtain ⟨rfl, hx⟩ := exc_hx m1 r1
    obtain ⟨vs, ea, k1, r2⟩ := hx dd rfl
    obtain ⟨v2, hv2, rv⟩ := (look_keys (k := f) k1 r2).1 v hl
    exact ⟨rfl, C, dd, vs, v2, rfl, rfl, c, hno, ea, by rw [lookup_look]; exact hv2, ht _ _ _ _ _ p e1 m1 rv⟩
  · obtain ⟨x, H1, I1, rx, ex, C, dd, fs, v, ed, ec, c, hno, ea, l, q⟩ := hh
    subst ex
    obtain rfl : u = Value.ref a := rx
    subst ec
    subst ed
    obtain ⟨ha, _⟩ := I1.pin (a, oe) (List.mem_append_left _ List.mem_cons_self)
    obtain ⟨vs, hd⟩ := hf
    have hx : ObjOk X.prog X.w H1 s1.heap dd (.xd fs) := I1.hok dd _ ea
    obtain ⟨mA, hns, hr⟩ := hx
    obtain ⟨od, ho, hl⟩ := lookIn_ns hns
    obtain ⟨u, hu, ru⟩ := RelO.some_of (v := v) (o := mA f) (by rw [← l]; exact hr f)
    have J : PySem.W.InstAt s1.heap a oe C (some od) := ⟨ha, hz.1, by unfold PySem.W.notCls; rw [hd] <;> rfl, by rw [hz.2]; exact ho⟩
    exact HandSPX.exc_get I1.kIn J c.hg c.hk c.hs (PySem.W.findObj_own c.hd hno rfl (by rw [hl, hu])) (handed_of ru) ⟨v, H1, I1.tok _, ru, q⟩
/-- the catch: every error of the body is of the class Cc -/
def wTryAs (K : PySem.W.Frag) (Cc : Addr) (i : Nat) (wb : WSx) (ws : Addr → Value → Option Addr → WS) : WS := fun W ρ μ =>
  wb (fun C fs ρ' μ' => PySem.W.exmOne K (.ref C) (.ref Cc) = some true ∧ ∀ a d, (d = none → fs = []) → ws a (.ref C) d { nx := fun ρ2 μ2 => W.nx (ρ2.set i none) μ2, rt := W.rt, bk := fun ρ2 μ2 => W.bk (ρ2.set i none) μ2, ct := fun ρ2 μ2 => W.ct (ρ2.set i none) μ2 } (ρ'.set i (some (.exc a d C fs))) μ') W ρ μ
theorem ds_tryAs {X : Cx} {x n : Str} {Cc : Addr} {i : Nat} {body suite : List Stmt} {b₀ : Stmt} {np pos pos' : Pos} {wb : WSx} {ws : Addr → Value → Option Addr → WS} (hs : X.stack = X.env :: X.outer) (hf : X.env.frame = some X.env.locals) (hN : X.N.Nodup) (hi : X.N[i]? = some n) (hln : X.env.kindOf n = some .local) (hc : Names X x (.ref Cc))
    (hb : ∀ (W : WX) (pn : List (Addr × Obj)) (xe : Value → Shared → Prop), Takes (X.tr pn xe) W → PassesOwn (model X.prog X.w) X.A X.env xe → XSs (X.tr pn xe) W body wb)
    (hsu : ∀ (a : Addr) (oe : Obj) (cls : Value) (d : Option Addr) (pn : List (Addr × Obj)), Zc cls d oe → (∃ vs, oe.data = .fields vs) → DSs (X.suite a ((a, oe) :: pn)) (b₀ :: suite) (ws a cls d)) :
    DS X (.Try body [.ExceptHandler (some (.Name x np)) (some n) (b₀ :: suite) pos'] [] [] pos) (wTryAs X.K Cc i wb ws) := by
  refine ⟨wkS (ps_try_as (tb := fun W => LSx X.K W wb) (ts := fun a cls d => LS X.K (ws a cls d)) (Wout := fun _ _ _ _ => False) hs hf hN hi hln hc takes0 (fun W pn xe tk po => (hb W pn xe tk po).p) (fun a oe cls d pn hz hfl => (hsu a oe cls d pn hz hfl).p)) fun D σ H ⟨ρ, μ, G, W, he, hm, hw, ht⟩ => ?_⟩
  refine ⟨ρ, μ, G, W, _, he, hm, hw, ht, fun C fs d ρ' μ' σ' H' G' p e er m xr => ?_⟩
  obtain ⟨h1, h2⟩ := p
  refine ⟨true, h1, fun _ a ha => ⟨_, μ', G', _, er.set i ?_, m, h2 a d (fun z => by rcases xr with ⟨_, h⟩ | ⟨dd, _, h, _⟩; exact h; rw [h] at z; cases z), ⟨fun ρ2 μ2 σ2 H2 G2 p e2 r m2 => ht.nx _ _ _ _ _ p (e.trans e2) (r.unset i) m2, fun d μ2 v H2 G2 p e2 m2 r => ht.rt _ _ _ _ _ p (e.trans e2) m2 r,
    fun ρ2 μ2 σ2 H2 G2 p e2 r m2 => ht.bk _ _ _ _ _ p (e.trans e2) (r.unset i) m2, fun ρ2 μ2 σ2 H2 G2 p e2 r m2 => ht.ct _ _ _ _ _ p (e.trans e2) (r.unset i) m2⟩⟩, fun z => nomatch z⟩
  rcases xr with ⟨rfl, rfl⟩ | ⟨dd, vs, rfl, g, k, r⟩
  · exact .excN a C
  · exact .excD g k r
/-! ### a sign in a text -/
def oInCW (f : Bool → Bool) : OD := fun x y μ P => ∃ (c : Nat) (z : Str), x = .str ⟨#[c]⟩ ∧ y = .str z ∧ P (.bl (f (decide (c ∈ z.cps.toList)))) μ
def oInC : OD := oInCW fun b => b
def oNotInC : OD := oInCW fun b => !b
theorem os_inC {X : Cx} : OpS X (compareOp .In) oInC := by
  refine ⟨_, op_in_sign, ?_⟩
  intro x y μ P G H v u Q h m rx ry t
  obtain ⟨c, z, rfl, rfl, p⟩ := h
  cases rx; cases ry
  exact ⟨c, z, rfl, rfl, t _ _ _ _ _ p (Ex.refl _) m (.bl _)⟩
theorem os_notInC {X : Cx} : OpS X (compareOp .NotIn) oNotInC := by
  refine ⟨_, op_notIn_sign, ?_⟩
  intro x y μ P G H v u Q h m rx ry t
  obtain ⟨c, z, rfl, rfl, p⟩ := h
  cases rx; cases ry
  exact ⟨c, z, rfl, rfl, t _ _ _ _ _ p (Ex.refl _) m (.bl _)⟩
/-! ### facts of the errors' classes -/
theorem kit_ref {K : PySem.W.Frag} {C B : Addr} {b : Bool} (hd : PySem.W.hasDictIn K B = true) (ty : PySem.W.typeIn K (.ref B) = some (.type "type")) (su : PySem.W.subIn K (.ref C) (.ref B) = some b) (hcb : C = B → b = true) : PySem.W.kitOne K (.ref C) (.ref B) = some b := by
  unfold PySem.W.kitOne
  by_cases e : C = B
  · rw [if_pos (by rw [e]; exact beq_self_eq_true _), hcb e]
  · rw [if_neg (by intro z; exact e (Value.ref.inj (beq_iff_eq.mp z)))]
    obtain ⟨cd, hc, _⟩ := PySem.W.any_some hd
    have e2 : ((PySem.W.clsIn K B).isSome && PySem.W.typeIn K (.ref B) == some (.type "type")) = true := by rw [hc, ty] <;> rfl
    show (if ((PySem.W.clsIn K B).isSome && PySem.W.typeIn K (.ref B) == some (.type "type")) = true then PySem.W.subIn K (.ref C) (.ref B) else none) = some b
    rw [if_pos e2]
    exact su
theorem de_ecls {X : Cx} {x : Str} {C : Addr} {p : Pos} (g : X.mg x = some (.ref C)) (hg : Gl X x := by rfl) (hd : (x == ("__debug__" : Str)) = false := by decide) : DE X (.Name x p) (wC (.ref C)) := de_c (pe_glob hg g (show RelV (.ref C) (.ref C) from rfl) hd) fun _ => .ref C
theorem oexC_mk {K : PySem.W.Frag} {nm q : Str} {C N : Addr} {bs bm : List Value} {sn : List Str} {sub : List Value} {ab : Bool} {col : Option Bool} {dd : Option Addr} {k0 k1 k2 k3 k5 : Option Value} (l : K.lookup C = some (excClassObj nm q C N bs bm true sn sub ab col dd k0 k1 k2 k3 k5 "ValueError.__new__")) (h : PySem.HandSPX.refsVE bm = true)
    (sa : PySem.W.findIn K (.ref C) "__setattr__" = some (some (.builtin "object.__setattr__"))) (exC : PySem.W.subIn K (.ref C) (.type "BaseException") = some true) (tyC : PySem.W.typeIn K (.ref C) = some (.type "type")) (kC : PySem.W.keepIn K (.ref C) = true) : OexC K C :=
  ⟨⟨nm, q, N, bs, bm, sn, sub, ab, col, dd, k0, k1, k2, k3, k5, l, h⟩, sa, exC, tyC, kC⟩
end Dl

namespace Lw
open PySem L2 Dl
set_option maxRecDepth 100000
set_option maxHeartbeats 4000000
def top (i : Nat) : Stmt := PySem.Challenge.pw_notchsafe_k03_ways_refused.main.body.getD i (.Pass ⟨0, 0, 0, 0⟩)
/-- where the classes stand -/
structure Cs where
  Way : Addr
  InvalidRule : Addr
  InvalidWay : Addr
  StickError : Addr
abbrev s_law_box : Stmt := top 14
abbrev s_law_is_number : Stmt := top 18
abbrev s_law_due : Stmt := top 19
abbrev s_is_integer : Stmt := top 6
abbrev s_is_from_zero : Stmt := top 10
abbrev s_is_sequence : Stmt := top 7
abbrev s_Way_xinit : Stmt := inClass (top 11) 0
abbrev s_law_heard : Stmt := top 20
abbrev s_law_take : Stmt := top 15
abbrev s_law_pick : Stmt := top 16
abbrev s_law_value : Stmt := top 17
abbrev s_law : Stmt := top 21
abbrev N_law_box : List Str := ["_law_script", "_law_k", "_law_own", "_law_cell", "_law_seed"]
theorem sc_law_box : FnScope N_law_box ["_law_script", "_law_k", "_law_own"] (defScope s_law_box) := ⟨rfl, rfl, rfl, by decide +kernel, rfl, by decide +kernel, by decide +kernel⟩
abbrev N_law_is_number : List Str := ["_law_value_here"]
theorem sc_law_is_number : FnScope N_law_is_number ["_law_value_here"] (defScope s_law_is_number) := ⟨rfl, rfl, rfl, by decide +kernel, rfl, by decide +kernel, by decide +kernel⟩
abbrev N_law_due : List Str := ["_law_how", "_law_most", "_law_part", "_law_one"]
theorem sc_law_due : FnScope N_law_due ["_law_how", "_law_most", "_law_part"] (defScope s_law_due) := ⟨rfl, rfl, rfl, by decide +kernel, rfl, by decide +kernel, by decide +kernel⟩
abbrev N_is_integer : List Str := ["value"]
theorem sc_is_integer : FnScope N_is_integer ["value"] (defScope s_is_integer) := ⟨rfl, rfl, rfl, by decide +kernel, rfl, by decide +kernel, by decide +kernel⟩
abbrev N_is_from_zero : List Str := ["value"]
theorem sc_is_from_zero : FnScope N_is_from_zero ["value"] (defScope s_is_from_zero) := ⟨rfl, rfl, rfl, by decide +kernel, rfl, by decide +kernel, by decide +kernel⟩
abbrev N_is_sequence : List Str := ["value"]
theorem sc_is_sequence : FnScope N_is_sequence ["value"] (defScope s_is_sequence) := ⟨rfl, rfl, rfl, by decide +kernel, rfl, by decide +kernel, by decide +kernel⟩
abbrev N_Way_xinit : List Str := ["self", "how", "most", "part", "one"]
theorem sc_Way_xinit : FnScope N_Way_xinit ["self", "how", "most", "part"] (defScope s_Way_xinit) := ⟨rfl, rfl, rfl, by decide +kernel, rfl, by decide +kernel, by decide +kernel⟩
abbrev N_law_heard : List Str := ["_law_how", "_law_most", "_law_part", "_law_found", "e"]
theorem sc_law_heard : FnScope N_law_heard ["_law_how", "_law_most", "_law_part"] (defScope s_law_heard) := ⟨rfl, rfl, rfl, by decide +kernel, rfl, by decide +kernel, by decide +kernel⟩
abbrev N_law_take : List Str := ["_law_box_here", "_law_bound", "_law_raw", "_law_wide", "_law_digit"]
theorem sc_law_take : FnScope N_law_take ["_law_box_here", "_law_bound"] (defScope s_law_take) := ⟨rfl, rfl, rfl, by decide +kernel, rfl, by decide +kernel, by decide +kernel⟩
abbrev N_law_pick : List Str := ["_law_box_here", "_law_items"]
theorem sc_law_pick : FnScope N_law_pick ["_law_box_here", "_law_items"] (defScope s_law_pick) := ⟨rfl, rfl, rfl, by decide +kernel, rfl, by decide +kernel, by decide +kernel⟩
abbrev N_law_value : List Str := ["_law_box_here", "_law_some", "_law_deep", "_law_turn"]
theorem sc_law_value : FnScope N_law_value ["_law_box_here"] (defScope s_law_value) := ⟨rfl, rfl, rfl, by decide +kernel, rfl, by decide +kernel, by decide +kernel⟩
abbrev N_law : List Str := ["_law_script", "_law_k", "_law_box_here", "_law_turn", "_law_some", "_law_again", "_law_odds", "_law_at", "_law_form"]
theorem sc_law : FnScope N_law ["_law_script"] (defScope s_law) := ⟨rfl, rfl, rfl, by decide +kernel, rfl, by decide +kernel, by decide +kernel⟩
abbrev s_InvalidWay_xinit : Stmt := inClass (top 3) 0
abbrev N_InvalidWay_xinit : List Str := ["self", "word"]
theorem sc_InvalidWay_xinit : FnScope N_InvalidWay_xinit ["self", "word"] (defScope s_InvalidWay_xinit) := ⟨rfl, rfl, rfl, by decide +kernel, rfl, by decide +kernel, by decide +kernel⟩
/-- what the classes are -/
structure Kf (K : PySem.W.Frag) (c : Cs) : Prop where
  o_Way_how : FldOk K c.Way "how"
  o_Way_most : FldOk K c.Way "most"
  o_Way_part : FldOk K c.Way "part"
  x_InvalidWay : L2.ExcC K c.InvalidWay
  ex_InvalidWay : PySem.W.exmOne K (.ref c.InvalidWay) (.ref c.InvalidWay) = some true
  ki_InvalidWay_InvalidRule : PySem.W.kitOne K (.ref c.InvalidWay) (.ref c.InvalidRule) = some false
  ki_InvalidWay_StickError : PySem.W.kitOne K (.ref c.InvalidWay) (.ref c.StickError) = some true
  nf_InvalidWay_word : PySem.W.findIn K (.ref c.InvalidWay) "word" = some none
/-- what the top has left -/
structure Txt (K : PySem.W.Frag) (mg : Str → Option Value) (c : Cs) : Prop where
  kf : Kf K c
  b_abs : mg "abs" = none
  b_all : mg "all" = none
  b_bool : mg "bool" = none
  b_int : mg "int" = none
  b_isinstance : mg "isinstance" = none
  b_len : mg "len" = none
  b_list : mg "list" = none
  b_max : mg "max" = none
  b_min : mg "min" = none
  b_range : mg "range" = none
  b_sorted : mg "sorted" = none
  b_str : mg "str" = none
  b_tuple : mg "tuple" = none
  c_HOWS : ∃ (T : Addr) (o : Obj) (n : Nat) (us : List Value), mg "HOWS" = some (.ref T) ∧ K.lookup T = some o ∧ o.cls = .type "tuple" ∧ o.data = .seq us.toArray n ∧ Vals ((["add", "lose", "mixed"] : List Str).map V.str) us ∧ us.length ≤ sizeLine
  k_Way : ClsAt K mg "Way" c.Way
  gx_InvalidRule : mg "InvalidRule" = some (.ref c.InvalidRule)
  gx_InvalidWay : mg "InvalidWay" = some (.ref c.InvalidWay)
  gx_StickError : mg "StickError" = some (.ref c.StickError)
  vb : VeB K mg "StickError"
  oe_InvalidWay : OexC K c.InvalidWay
  in_InvalidWay : ∃ fI fd, PySem.W.findIn K (.ref c.InvalidWay) "__init__" = some (some (.ref fI)) ∧ PySem.W.typeIn K (.ref fI) = some (.type "function") ∧ FnAt K "__init__" "InvalidWay.__init__" s_InvalidWay_xinit [] fI fd
  f_law_box : DefAt K mg "_law_box" s_law_box
  f_law_is_number : DefAt K mg "_law_is_number" s_law_is_number
  f_law_due : DefAt K mg "_law_due" s_law_due
  f_is_integer : DefAt K mg "is_integer" s_is_integer
  f_is_from_zero : DefAt K mg "is_from_zero" s_is_from_zero
  f_is_sequence : DefAt K mg "is_sequence" s_is_sequence
  f_Way_xinit : ∃ (t0 : Tok), MetAt K c.Way "__init__" "Way.__init__" s_Way_xinit [.str "add" t0, .none, .none]
  f_law_heard : DefAt K mg "_law_heard" s_law_heard
  f_law_take : DefAt K mg "_law_take" s_law_take
  f_law_pick : DefAt K mg "_law_pick" s_law_pick
  f_law_value : DefAt K mg "_law_value" s_law_value
  f_law : DefAt K mg "law" s_law
/-! ### reading step by step -/
theorem getD_z {ρ : Dl.Env} {d : Option Dl.D} : (d :: ρ).getD 0 none = d := rfl
theorem getD_s {ρ : Dl.Env} {d : Option Dl.D} {n : Nat} : (d :: ρ).getD (n + 1) none = ρ.getD n none := rfl
theorem set_z {ρ : Dl.Env} {d e : Option Dl.D} : (d :: ρ).set 0 e = e :: ρ := rfl
theorem set_s {ρ : Dl.Env} {d e : Option Dl.D} {n : Nat} : (d :: ρ).set (n + 1) e = d :: ρ.set n e := rfl
theorem ret_in {d : D} {μ μ0 : Store} {R : D → Store → Prop} (s : Dl.Sub μ0 μ) (h : R d μ0) : ∃ d' μ', Fz d μ d' μ' ∧ R d' μ' := ⟨d, μ0, .sub s, h⟩
theorem ret_eq {d : D} {μ : Store} {R : D → Store → Prop} (h : R d μ) : ∃ d' μ', Fz d μ d' μ' ∧ R d' μ' := ⟨d, μ, .sub (Dl.Sub.refl _), h⟩
theorem end_eq {μ : Store} {R : D → Store → Prop} (h : R .non μ) : ∃ μ', Dl.Sub μ' μ ∧ R .non μ' := ⟨μ, Dl.Sub.refl _, h⟩
theorem rng_inv {lo : Int} {n i : Nat} {d : D} (h : (rng lo n)[i]? = some d) : i < n ∧ d = .int (lo + (i : Nat)) := by
  by_cases q : i < n
  · rw [rng_get q] at h
    cases h
    exact ⟨q, rfl⟩
  · rw [List.getElem?_eq_none (by rw [rng_length]; omega)] at h
    cases h
/-- a loop by what holds between its turns -/
theorem for_by {its : List D} {g : WG} {wb : WS} {W : WEnds} {ρ : Dl.Env} {μ : Store} (I : Nat → Dl.Env → Store → Prop) (h0 : I 0 ρ μ)
    (ht : ∀ i d ρ' μ', its[i]? = some d → I i ρ' μ' → g d ρ' μ' fun ρ2 μ2 => wb { W with nx := I (i + 1), ct := I (i + 1), bk := W.nx } ρ2 μ2) (he : ∀ ρ' μ', I its.length ρ' μ' → W.nx ρ' μ') : forBody its g wb W ρ μ := ⟨I, h0, ht, he⟩
/-- .. over a range -/
theorem for_rng {lo : Int} {n : Nat} {g : WG} {wb : WS} {W : WEnds} {ρ : Dl.Env} {μ : Store} (I : Nat → Dl.Env → Store → Prop) (h0 : I 0 ρ μ)
    (ht : ∀ (i : Nat) ρ' μ', i < n → I i ρ' μ' → g (.int (lo + (i : Nat))) ρ' μ' fun ρ2 μ2 => wb { W with nx := I (i + 1), ct := I (i + 1), bk := W.nx } ρ2 μ2) (he : ∀ ρ' μ', I n ρ' μ' → W.nx ρ' μ') : forBody (rng lo n) g wb W ρ μ :=
  ⟨I, h0, fun i d ρ' μ' hd h => by
    obtain ⟨h1, rfl⟩ := rng_inv hd
    exact ht i ρ' μ' h1 h, by rw [rng_length]; exact he⟩
theorem le_line {n : Nat} (h : n ≤ 1000000) : n ≤ sizeLine := Nat.le_trans h (by decide)
theorem lc_ix {its : List D} {g : WG} {te : WE} {vs : List Nat} {fin : Addr → List D → Store → Prop} {ρ : Dl.Env} {μ : Store} (ys : List D) (hlen : ys.length = its.length) (hz : its.length ≤ sizeLine)
    (h : ∀ (i : Nat) (d y : D) (μ' : Store) (R : D → Store → Prop), its[i]? = some d → ys[i]? = some y → Dl.Sub μ μ' → R y μ' → g d (wipeE ρ vs) μ' fun ρ2 μ2 => te ρ2 μ2 R)
    (q : ∀ L, μ L = none → fin L ys (setS μ L (.lst ys))) : lcBody its g wYes te vs fin ρ μ := by
  refine ⟨hz, fun L hL => ⟨fun i acc μ' => acc = ys.take i ∧ μ' = setS μ L (.lst acc), ⟨rfl, rfl⟩, ?_, ?_⟩⟩
  · rintro i d acc μ' hd hu ⟨rfl, rfl⟩
    have hi : i < ys.length := by have := (List.getElem?_eq_some_iff.mp hd).1; omega
    have hy : ys[i]? = some ys[i] := List.getElem?_eq_getElem hi
    have sb : Dl.Sub μ (setS μ L (.lst (ys.take i))) := fun a c e => by
      have : a ≠ L := by rintro rfl; rw [hL] at e; cases e
      rw [setS_ne this]; exact e
    refine h i d ys[i] _ _ hd hy sb ⟨setS_same, ?_, ?_⟩
    · rw [List.take_add_one, hy]; rfl
    · rw [setS_setS]
  · rintro acc μ' _ _ ⟨rfl, rfl⟩
    rw [← hlen, List.take_length]
    exact q L hL
theorem oAdd_int {a b : Int} {μ : Store} {P : D → Store → Prop} : oAdd (.int a) (.int b) μ P = P (.int (a + b)) μ := rfl
theorem oAdd_str {a b : Str} {μ : Store} {P : D → Store → Prop} : oAdd (.str a) (.str b) μ P = (a.length + b.length ≤ sizeLine ∧ P (.str (a ++ b)) μ) := rfl
theorem oAdd_tup {a b : List D} {μ : Store} {P : D → Store → Prop} : oAdd (.tup a) (.tup b) μ P = (a.length + b.length ≤ sizeLine ∧ P (.tup (a ++ b)) μ) := rfl
theorem oAdd_lst {a b : List D} {μ : Store} {P : D → Store → Prop} : oAdd (.lst a) (.lst b) μ P = (a.length + b.length ≤ sizeLine ∧ P (.lst (a ++ b)) μ) := rfl
theorem oEq_int {a b : Int} {μ : Store} {P : D → Store → Prop} : oEq (.int a) (.int b) μ P = P (.bl (decide (a = b))) μ := rfl
theorem oNe_int {a b : Int} {μ : Store} {P : D → Store → Prop} : oNe (.int a) (.int b) μ P = P (.bl (!decide (a = b))) μ := rfl
theorem oEq_bl {a b : Bool} {μ : Store} {P : D → Store → Prop} : oEq (.bl a) (.bl b) μ P = P (.bl (a == b)) μ := rfl
theorem oNe_bl {a b : Bool} {μ : Store} {P : D → Store → Prop} : oNe (.bl a) (.bl b) μ P = P (.bl (!(a == b))) μ := rfl
theorem oEq_str {a b : Str} {μ : Store} {P : D → Store → Prop} : oEq (.str a) (.str b) μ P = P (.bl (a == b)) μ := rfl
theorem oNe_str {a b : Str} {μ : Store} {P : D → Store → Prop} : oNe (.str a) (.str b) μ P = P (.bl (!(a == b))) μ := rfl
local macro_rules | `(tactic| walk_at "dx") => `(tactic| simp only [wSeq, wIfS, wB, wTrv, truD, okLen, wOp, wVar, wC, wAsg, wgName, wgCons, wgNil, wgTup, wRet, wRetN, wDrop, wNext, wNever, wBreak, wCont, wACons, wANil, wTup, wLst, wLstM, wCB,
  wAnd, wOr, wNt, wAndV, wOrV, wNotV, wIf, wChain, wIx, oIx, wgSub, oSet, wPar, wPar3, wCall, wYes, wFor, wiSeq, wiRng1, wiRng2, itemsD, wLc, wLcM, wLcG, wLc2, wLc2M, wLcG2, oPopAt, oPop, wRev, wRevM, oAppend, wipeE, insD, seqA, seqR, seqL, setS_same,
  oAdd_int, oAdd_str, oAdd_tup, oAdd_lst, wgLst, wAStar, wAsgF, xN, xSeq, xIf, xDrop, xRet, xAsg, xRaise0, xRaise1, xCall, wTryAs, oSub, oMul, oFdiv, oMod, oPow, oI, oI0, oLt, oLe, oGt, oGe, oEq_int, oNe_int, oEq_bl, oNe_bl, oEq_str, oNe_str, oLen, lenD, oAbs, oInt, oStr, oRepr, oMin, oMax, oAll, oAny, oSum, oTuple, oList, wBM, oJoin, oCount, oIsi, tyD, isTy, oIn, oNotIn, oInW, sqD, seqL, seqR, seqA, wAug, oIAdd, oISub, wJoin, wJs, wFmt, wSl, wNoP, wPart, oSlice, wNeg, oIs, oIsNot, wiEnum, wDisp, wPairs,
  getD_z, getD_s, set_z, set_s, decide_eq_true_eq, Bool.not_eq_true', decide_eq_false_iff_not, List.nil_append, List.cons_append, true_and, and_true, not_true_eq_false, not_false_eq_true, Bool.false_eq_true, Bool.true_eq_false, BEq.rfl, Bool.not_true, Bool.not_false, decide_true, ite_true, ite_false, if_true, if_false])
local macro_rules | `(tactic| walk_at "dxs") => `(tactic| simp only [wSeq, wIfS, wB, wTrv, truD, okLen, wOp, wVar, wC, wAsg, wgName, wgCons, wgNil, wgTup, wRet, wRetN, wDrop, wNext, wNever, wBreak, wCont, wACons, wANil, wTup, wLst, wLstM, wCB,
  wAnd, wOr, wNt, wAndV, wOrV, wNotV, wIf, wChain, wIx, oIx, wgSub, oSet, wPar, wPar3, wCall, wYes, wFor, wiSeq, wiRng1, wiRng2, itemsD, wLc, wLcM, wLcG, wLc2, wLc2M, wLcG2, oPopAt, oPop, wRev, wRevM, oAppend, wipeE, insD, seqA, seqR, seqL, setS_same,
  oAdd_int, oAdd_str, oAdd_tup, oAdd_lst, wgLst, wAStar, wAsgF, xN, xSeq, xIf, xDrop, xRet, xAsg, xRaise0, xRaise1, xCall, wTryAs, oSub, oMul, oFdiv, oMod, oPow, oI, oI0, oLt, oLe, oGt, oGe, oEq_int, oNe_int, oEq_bl, oNe_bl, oEq_str, oNe_str, oLen, lenD, oAbs, oInt, oStr, oRepr, oMin, oMax, oAll, oAny, oSum, oTuple, oList, wBM, oJoin, oCount, oIsi, tyD, isTy, oIn, oNotIn, oInW, sqD, seqL, seqR, seqA, wAug, oIAdd, oISub, wJoin, wJs, wFmt, wSl, wNoP, wPart, oSlice, wNeg, oIs, oIsNot, wiEnum, wDisp, wPairs,
  getD_z, getD_s, set_z, set_s, decide_eq_true_eq, Bool.not_eq_true', decide_eq_false_iff_not, List.nil_append, List.cons_append, true_and, and_true, not_true_eq_false, not_false_eq_true, Bool.false_eq_true, Bool.true_eq_false, BEq.rfl, Bool.not_true, Bool.not_false, decide_true, ite_true, ite_false, if_true, if_false, *])
/-! ### the law's own promise -/
def spL : DSp := fun ds μ Q => ∃ ns : List Int, ds = [.scr (ns.map .int)] ∧ ns.length ≤ 63 ∧ ∀ μ', Q (.bl true) μ'
theorem len_spL : ∀ ds μ Q, spL ds μ Q → ds.length = 1 := by
  rintro ds μ Q ⟨ns, rfl, _⟩
  rfl
theorem rps_ints {K : PySem.W.Frag} {G : Hp} : ∀ ns : List Int, Rps K G (ns.map D.int) (ns.map V.int)
  | [] => .nil
  | n :: ns => .cons (.int n) (rps_ints ns)
theorem lsp_law {K : PySem.W.Frag} {H : Hp} {a : Addr} {ns : List Int} (hl : ns.length ≤ 63) (hO : Only H) (hS : SqL K H a (ns.map V.int)) {E : XK} : LSp K spL [.ref a] H (fun v _ => v = .bl true) E := by
  have hs : ScrAt K H a (ns.map V.int) := by
    rcases hS with h | h
    · rcases h with h | ⟨o, h⟩
      · rcases hO a with h2 | ⟨o, xs, h2⟩
        · rw [h2] at h; cases h
        · rw [h2] at h; cases h
      · exact .inl ⟨o, h⟩
    · exact .inr h
  refine ⟨[.scr (ns.map .int)], fun _ => none, H, fun d _ => d = .bl true, .cons (.scr hs (rps_ints ns)) .nil, ⟨fun _ _ h => h, fun _ _ h => nomatch h⟩, ⟨ns, rfl, hl, fun _ => rfl⟩, ?_⟩
  rintro d μ' v H' G' rfl _ _ r
  cases r
  rfl

/-! ### the source of draws -/
def BoxV (d : List D) : Prop := ∃ a s t : Int, d = [.int a, .int s, .int t] ∧ 0 ≤ a ∧ (0 ≤ s ∧ s < 4294967296) ∧ 0 ≤ t
theorem atI_ints {ns : List Int} {k : Int} (h0 : 0 ≤ k) (h1 : k < ns.length) : ∃ z, atI (ns.map D.int) k = some (.int z) := by
  obtain ⟨j, rfl⟩ : ∃ j : Nat, k = (j : Int) := ⟨k.toNat, by omega⟩
  have hj : j < ns.length := by omega
  exact ⟨ns[j], atI_nat (by simp [hj])⟩
theorem em_lo {a b : Int} (h : 0 < b) : 0 ≤ a % b := Int.emod_nonneg _ (by omega)
theorem em_hi {a b : Int} (h : 0 < b) : a % b < b := Int.emod_lt_of_pos _ h
theorem at3_0 {a b c : D} : atI [a, b, c] 0 = some a := rfl
theorem at3_1 {a b c : D} : atI [a, b, c] 1 = some b := rfl
theorem at3_2 {a b c : D} : atI [a, b, c] 2 = some c := rfl
theorem at2_0 {a b : D} : atI [a, b] 0 = some a := rfl
theorem at2_1 {a b : D} : atI [a, b] 1 = some b := rfl
theorem ix2_0 : ixN 2 0 = some 0 := rfl
theorem ix2_1 : ixN 2 1 = some 1 := rfl
theorem ix3_0 : ixN 3 0 = some 0 := rfl
theorem ix3_1 : ixN 3 1 = some 1 := rfl
theorem ix3_2 : ixN 3 2 = some 2 := rfl

def ch : Nat → Nat → Nat
  | _, 0 => 1
  | 0, _ + 1 => 0
  | n + 1, k + 1 => ch n k + ch n (k + 1)
theorem ch0 (n : Nat) : ch n 0 = 1 := by cases n <;> rfl
theorem ch_zero : ∀ n k : Nat, n < k → ch n k = 0
  | 0, _ + 1, _ => rfl
  | n + 1, k + 1, h => by
    show ch n k + ch n (k + 1) = 0
    rw [ch_zero n k (by omega), ch_zero n (k + 1) (by omega)]
theorem ch_row : ∀ n k : Nat, (k + 1) * ch n (k + 1) + k * ch n k = n * ch n k
  | 0, 0 => by decide
  | 0, k + 1 => by show (k + 2) * 0 + (k + 1) * 0 = 0 * 0; omega
  | n + 1, 0 => by
    have h := ch_row n 0
    have e1 : ch n 0 = 1 := by cases n <;> rfl
    rw [e1] at h
    show (0 + 1) * (ch n 0 + ch n (0 + 1)) + 0 * 1 = (n + 1) * 1
    rw [e1]
    omega
  | n + 1, k + 1 => by
    have h1 := ch_row n k
    have h2 := ch_row n (k + 1)
    show (k + 1 + 1) * (ch n (k + 1) + ch n (k + 1 + 1)) + (k + 1) * (ch n k + ch n (k + 1)) = (n + 1) * (ch n k + ch n (k + 1))
    simp only [Nat.add_mul, Nat.mul_add, Nat.one_mul] at h1 h2 ⊢
    omega
theorem ch_self : ∀ n : Nat, ch n n = 1
  | 0 => rfl
  | n + 1 => by
    show ch n n + ch n (n + 1) = 1
    rw [ch_self n, ch_zero n (n + 1) (by omega)]
theorem ch_le : ∀ n k : Nat, ch n k ≤ 2 ^ n
  | 0, 0 => by decide
  | 0, _ + 1 => Nat.zero_le _
  | n + 1, 0 => by rw [ch0]; exact Nat.one_le_two_pow
  | n + 1, k + 1 => by
    show ch n k + ch n (k + 1) ≤ 2 ^ (n + 1)
    have h1 := ch_le n k
    have h2 := ch_le n (k + 1)
    rw [Nat.pow_succ]
    omega
theorem ch_one : ∀ n : Nat, ch n 1 = n
  | 0 => rfl
  | n + 1 => by
    show ch n 0 + ch n 1 = n + 1
    rw [ch_one n, ch0]
    omega
theorem log_le {n k : Nat} (h : n ≤ 2 ^ k) (hk : k < 1920 := by decide) : n.log2 < 1920 := by
  by_cases e : n = 0
  · subst e; decide
  · have h2 : n.log2 ≤ k := by
      have := Nat.log2_self_le e
      exact (Nat.pow_le_pow_iff_right (by decide)).mp (Nat.le_trans this h)
    omega
theorem ch_sym : ∀ {n k : Nat}, k ≤ n → ch n (n - k) = ch n k
  | 0, 0, _ => rfl
  | n + 1, 0, _ => by rw [Nat.sub_zero, ch_self, ch0]
  | n + 1, k + 1, h => by
    by_cases e : n = k
    · subst e
      rw [Nat.sub_self, ch0, ch_self]
    · have h1 : ch n (n - k) = ch n k := ch_sym (by omega)
      have h2 : ch n (n - (k + 1)) = ch n (k + 1) := ch_sym (by omega)
      have e3 : n + 1 - (k + 1) = (n - (k + 1)) + 1 := by omega
      rw [e3]
      show ch n (n - (k + 1)) + ch n (n - (k + 1) + 1) = ch n k + ch n (k + 1)
      rw [show n - (k + 1) + 1 = n - k by omega, h1, h2, Nat.add_comm]
def rowD (n : Nat) : List D := (List.range (n + 1)).map fun j => .int (ch n j)
theorem rowD_len (n : Nat) : (rowD n).length = n + 1 := by simp [rowD]
theorem rowD_at {n : Nat} {j : Nat} (h : j ≤ n) : atI (rowD n) (j : Int) = some (.int (ch n j)) := atI_nat (by unfold rowD; rw [List.getElem?_map, List.getElem?_range (by omega)]; rfl)
theorem rowD_step (n : Nat) : [D.int 1] ++ (rng 0 n).map (fun d => match d with | .int z => D.int (ch n z.toNat + ch n (z.toNat + 1)) | d => d) ++ [D.int 1] = rowD (n + 1) := by
  unfold rowD rng
  rw [List.range_succ_eq_map, List.range_succ, List.map_cons, List.map_map, List.map_map, List.map_append, ch0]
  simp only [List.map_cons, List.map_nil, List.cons_append, List.nil_append, List.append_assoc]
  have e : ch (n + 1) (n + 1) = 1 := ch_self _
  congr 1
  congr 1
  · apply List.map_congr_left
    intro j _
    show D.int (ch n (0 + (j : Int)).toNat + ch n ((0 + (j : Int)).toNat + 1)) = D.int ((ch n j + ch n (j + 1) : Nat) : Int)
    rw [Int.zero_add, Int.toNat_natCast, Int.natCast_add]
  · show [D.int 1] = [D.int ((ch (n + 1) (n + 1) : Nat) : Int)]
    rw [e]
    rfl

/-! ### sticks: texts of . and x -/
def sg (b : Bool) : Nat := if b then 120 else 46
def stk (bs : List Bool) : Str := ⟨(bs.map sg).toArray⟩
theorem stk_nil : ("" : Str) = stk [] := by decide +kernel
theorem stk_p : ("." : Str) = stk [false] := by decide +kernel
theorem stk_x : ("x" : Str) = stk [true] := by decide +kernel
theorem stk_cps (bs : List Bool) : (stk bs).cps = (bs.map sg).toArray := rfl
theorem str_ext {a b : Str} (h : a.cps.toList = b.cps.toList) : a = b := by
  cases a; cases b; simp at h; simp [h]
theorem app_cps (a b : Str) : (a ++ b).cps = a.cps ++ b.cps := rfl
theorem stk_app (a b : List Bool) : stk a ++ stk b = stk (a ++ b) := str_ext (by rw [app_cps]; simp [stk])
theorem stk_len (a : List Bool) : (stk a).length = a.length := by show (stk a).cps.size = _; simp [stk]
theorem sg_inj {a b : Bool} (h : sg a = sg b) : a = b := by cases a <;> cases b <;> first | rfl | exact absurd h (by decide)
theorem map_sg_inj : ∀ {a b : List Bool}, a.map sg = b.map sg → a = b
  | [], [], _ => rfl
  | [], _ :: _, h => by simp at h
  | _ :: _, [], h => by simp at h
  | x :: a, y :: b, h => by
    simp only [List.map_cons, List.cons.injEq] at h
    rw [sg_inj h.1, map_sg_inj h.2]
theorem stk_inj {a b : List Bool} (h : stk a = stk b) : a = b := map_sg_inj (by have := congrArg (fun s : Str => s.cps.toList) h; simpa [stk] using this)
theorem stk_beq (a b : List Bool) : (stk a == stk b) = decide (a = b) := by
  by_cases h : a = b
  · subst h; simp
  · rw [decide_eq_false h, beq_eq_false_iff_ne]
    exact fun q => h (stk_inj q)
theorem chars_stk (a : List Bool) : chars (stk a) = a.map fun b => .str (stk [b]) := by
  simp [chars, stk]
/-- how many are notched -/
def cnt : List Bool → Nat
  | [] => 0
  | true :: r => cnt r + 1
  | false :: r => cnt r
theorem cnt_le : ∀ bs : List Bool, cnt bs ≤ bs.length
  | [] => Nat.le_refl _
  | true :: r => Nat.succ_le_succ (cnt_le r)
  | false :: r => Nat.le_succ_of_le (cnt_le r)
theorem cnt_app : ∀ a b : List Bool, cnt (a ++ b) = cnt a + cnt b
  | [], b => by simp [cnt]
  | true :: a, b => by show cnt (a ++ b) + 1 = cnt a + 1 + cnt b; rw [cnt_app a b]; omega
  | false :: a, b => by show cnt (a ++ b) = cnt a + cnt b; exact cnt_app a b
theorem cnt_not : ∀ bs : List Bool, cnt (bs.map (!·)) + cnt bs = bs.length
  | [] => rfl
  | true :: r => by
    have := cnt_not r
    show cnt (r.map (!·)) + (cnt r + 1) = r.length + 1
    omega
  | false :: r => by
    have := cnt_not r
    show cnt (r.map (!·)) + 1 + cnt r = r.length + 1
    omega
open Builtin.Str StrLaws in
theorem occ_cnt (s : Str) (c limit : Nat) : ∀ (m lo : Nat) (st : Array Nat × Nat), st.snd ≤ lo → st.fst.size + m ≤ limit →
    (forIn (List.range' lo m) st (occBody s ⟨#[c]⟩ s.length limit)).run.fst.size = st.fst.size + (List.range' lo m).countP (fun i => decide (s.cps.toList[i]? = some c))
  | 0, lo, st, _, _ => rfl
  | m + 1, lo, st, h1, h2 => by
    rw [List.range'_succ, List.forIn_cons]
    unfold occBody
    by_cases hc : s.cps.toList[lo]? = some c
    · have h3 := (subAt_one s c lo).mpr hc
      rw [if_pos ⟨⟨⟨by omega, h1⟩, h3.1⟩, h3.2⟩, List.countP_cons_of_pos (by simpa using hc)]
      have ih := occ_cnt s c limit m (lo + 1) (st.fst.push lo, lo + (⟨#[c]⟩ : Str).length) (Nat.le_refl _) (by simp; omega)
      refine Eq.trans ih ?_
      simp
      omega
    · have h3 : ¬ (((st.fst.size < limit ∧ st.snd ≤ lo) ∧ lo + (⟨#[c]⟩ : Str).length ≤ s.length) ∧ subAt s ⟨#[c]⟩ lo = true) := fun h => hc ((subAt_one s c lo).mp ⟨h.1.2, h.2⟩)
      rw [if_neg h3, List.countP_cons_of_neg (by simpa using hc)]
      exact occ_cnt s c limit m (lo + 1) (st.fst, st.snd) (by show st.snd ≤ lo + 1; omega) (by show st.fst.size + m ≤ limit; omega)
theorem countP_at (c : Nat) : ∀ (l : List Nat) (n : Nat), l.length ≤ n → (List.range n).countP (fun i => decide (l[i]? = some c)) = l.countP (fun x => decide (x = c))
  | [], n, _ => by simp
  | a :: l, 0, h => by simp at h
  | a :: l, n + 1, h => by
    rw [List.range_succ_eq_map, List.countP_cons, List.countP_map, List.countP_cons]
    have ih := countP_at c l n (by simpa using h)
    have e : ((fun i => decide ((a :: l)[i]? = some c)) ∘ Nat.succ) = fun i => decide (l[i]? = some c) := by funext i; simp
    rw [e, ih]
    simp
theorem count_one (s : Str) (c : Nat) : Txt.count s ⟨#[c]⟩ = ((s.cps.toList.countP (fun x => decide (x = c)) : Nat) : Int) := by
  unfold Txt.count
  rw [StrLaws.occ_eq, Array.length_toList, occ_cnt s c (s.length + 1) (s.length + 1 - 0) 0 (#[], 0) (Nat.le_refl _) (by simp), ← List.range_eq_range', countP_at c _ _ (by show s.cps.toList.length ≤ s.cps.size + 1 - 0; simp)]
  simp
theorem count_x (bs : List Bool) : Txt.count (stk bs) (stk [true]) = ((cnt bs : Nat) : Int) := by
  have e : stk [true] = ⟨#[120]⟩ := rfl
  rw [e, count_one]
  congr 1
  induction bs with
  | nil => rfl
  | cons b r ih =>
    have h : (stk (b :: r)).cps.toList = sg b :: (stk r).cps.toList := by simp [stk]
    rw [h, List.countP_cons, ih]
    cases b <;> rfl
theorem join_eqS (y : Str) (parts : List Str) : Txt.join y parts = Str.join y parts := StrLaws.glued_eq_join y parts
/-- the texts one behind the other -/
theorem join_stk : ∀ f : List (List Bool), Txt.join (stk []) (f.map stk) = stk f.flatten
  | [] => by rw [join_eqS]; rfl
  | [x] => by rw [join_eqS]; simp [Str.join]
  | x :: y :: r => by
    have ih := join_stk (y :: r)
    rw [join_eqS] at ih ⊢
    show stk x ++ stk [] ++ Str.join (stk []) ((y :: r).map stk) = _
    rw [ih, stk_app, stk_app]
    simp
theorem flat_one : ∀ bs : List Bool, (bs.map fun b => [b]).flatten = bs
  | [] => rfl
  | b :: r => by rw [List.map_cons, List.flatten_cons, flat_one r]; rfl
theorem join_one (bs : List Bool) : Txt.join (stk []) (bs.map fun b => stk [b]) = stk bs := by
  have h := join_stk (bs.map fun b => [b])
  rw [List.map_map] at h
  rw [flat_one] at h
  exact h
theorem lens_one (bs : List Bool) : ((bs.map fun b => stk [b]).map (·.length)).sum = bs.length := by
  induction bs with
  | nil => rfl
  | cons b r ih => rw [List.map_cons, List.map_cons, List.sum_cons, ih, stk_len]; simp; omega
theorem strs_one (bs : List Bool) : strsD (bs.map fun b => D.str (stk [b])) = some (bs.map fun b => stk [b]) := by
  have h := strsD_map (bs.map fun b => stk [b])
  rw [List.map_map] at h
  exact h
theorem tyM_str {μ : Store} {s : Str} : tyM "str" μ (.str s) = True := by simp [tyM]
/-- all but the cell at p as it was -/
def Mut (p : Addr) (μ μ' : Store) : Prop := ∀ a c, a ≠ p → μ a = some c → μ' a = some c
theorem Mut.set {p : Addr} {μ : Store} {c : Cell} : Mut p μ (setS μ p c) := fun a d h q => by rw [setS_ne h]; exact q
theorem Mut.refl {p : Addr} {μ : Store} : Mut p μ μ := fun _ _ _ q => q
theorem Mut.trans {p : Addr} {a b c : Store} (h : Mut p a b) (k : Mut p b c) : Mut p a c := fun x d n q => k x d n (h x d n q)
/-- where it is notched -/
def idxFrom : Nat → List Bool → List Nat
  | _, [] => []
  | k, true :: r => k :: idxFrom (k + 1) r
  | k, false :: r => idxFrom (k + 1) r
theorem idx_length : ∀ (k : Nat) (bs : List Bool), (idxFrom k bs).length = cnt bs
  | _, [] => rfl
  | k, true :: r => by show (idxFrom (k + 1) r).length + 1 = cnt r + 1; rw [idx_length]
  | k, false :: r => idx_length (k + 1) r
theorem in_px (b : Bool) : inD (.str (stk [b])) [.str (stk [false]), .str (stk [true])] = true := by cases b <;> decide +kernel
def xPick (d : D) : Option D := match d with | .tup [.int i, .str s] => if s = stk [true] then some (.int i) else none | _ => none
theorem stk_one_eq {b : Bool} : (stk [b] = stk [true]) = (b = true) := propext ⟨fun h => by have := stk_inj h; simpa using this, fun h => by rw [h]⟩
theorem enum_pick : ∀ (k : Nat) (bs : List Bool), (((bs.map fun b => D.str (stk [b])).zipIdx k).map fun p => D.tup [.int (p.2 : Nat), p.1]).filterMap xPick = (idxFrom k bs).map fun i => D.int (i : Nat)
  | _, [] => rfl
  | k, true :: r => by
    have ih := enum_pick (k + 1) r
    rw [List.map_cons, List.zipIdx_cons, List.map_cons, List.filterMap_cons]
    have e : xPick (D.tup [.int (k : Nat), .str (stk [true])]) = some (.int (k : Nat)) := by simp [xPick]
    simp only [e, ih]
    rfl
  | k, false :: r => by
    have ih := enum_pick (k + 1) r
    rw [List.map_cons, List.zipIdx_cons, List.map_cons, List.filterMap_cons]
    have e : xPick (D.tup [.int (k : Nat), .str (stk [false])]) = none := by
      have : ¬ (stk [false] = stk [true]) := fun h => by have := stk_inj h; simp at this
      simp [xPick, this]
    simp only [e, ih]
    rfl
theorem enum_stk (bs : List Bool) : enumD (chars (stk bs)) = ((bs.map fun b => D.str (stk [b])).zipIdx.map fun p => D.tup [.int (p.2 : Nat), p.1]) := by rw [chars_stk]; rfl
theorem enum_at {bs : List Bool} {i : Nat} {d : D} (h : (enumD (chars (stk bs)))[i]? = some d) : ∃ b, bs[i]? = some b ∧ d = .tup [.int (i : Nat), .str (stk [b])] := by
  rw [enum_stk, List.getElem?_map, List.getElem?_zipIdx, List.getElem?_map] at h
  cases q : bs[i]? with
  | none => rw [q] at h; cases h
  | some b =>
    rw [q] at h
    simp at h
    exact ⟨b, rfl, h.symm⟩
/-- its number among those with as many notches -/
def num : List Bool → Nat
  | [] => 0
  | true :: r => ch r.length (cnt r + 1) + num r
  | false :: r => num r
theorem num_drop_le : ∀ (bs : List Bool) (i : Nat), num (bs.drop i) ≤ num bs
  | bs, 0 => Nat.le_refl _
  | [], _ + 1 => Nat.le_refl _
  | true :: r, i + 1 => by
    have := num_drop_le r i
    show num (r.drop i) ≤ ch r.length (cnt r + 1) + num r
    omega
  | false :: r, i + 1 => num_drop_le r i
/-- the stick with a number -/
def mk : Nat → Nat → Nat → List Bool
  | 0, _, _ => []
  | l + 1, n, r => if r < ch l n then false :: mk l n r else true :: mk l (n - 1) (r - ch l n)
theorem mk_length : ∀ l n r, (mk l n r).length = l
  | 0, _, _ => rfl
  | l + 1, n, r => by
    unfold mk
    split <;> simp [mk_length l]
theorem num_lt : ∀ bs : List Bool, num bs < ch bs.length (cnt bs)
  | [] => by decide
  | true :: r => by
    have := num_lt r
    show ch r.length (cnt r + 1) + num r < ch r.length (cnt r) + ch r.length (cnt r + 1)
    omega
  | false :: r => by
    have h := num_lt r
    show num r < ch (r.length + 1) (cnt r)
    cases q : cnt r with
    | zero => rw [q] at h; rw [ch0] at h ⊢; exact h
    | succ k => rw [q] at h; show num r < ch r.length k + ch r.length (k + 1); omega
theorem mk_num : ∀ bs : List Bool, mk bs.length (cnt bs) (num bs) = bs
  | [] => rfl
  | true :: r => by
    show (if ch r.length (cnt r + 1) + num r < ch r.length (cnt r + 1) then _ else true :: mk r.length (cnt r + 1 - 1) (ch r.length (cnt r + 1) + num r - ch r.length (cnt r + 1))) = _
    rw [if_neg (by omega), Nat.add_sub_cancel_left, Nat.add_sub_cancel, mk_num r]
  | false :: r => by
    show (if num r < ch r.length (cnt r) then false :: mk r.length (cnt r) (num r) else _) = _
    rw [if_pos (num_lt r), mk_num r]
theorem num_not : ∀ bs : List Bool, num (bs.map (!·)) + num bs + 1 = ch bs.length (cnt bs)
  | [] => rfl
  | true :: r => by
    have ih := num_not r
    show num (r.map (!·)) + (ch r.length (cnt r + 1) + num r) + 1 = ch r.length (cnt r) + ch r.length (cnt r + 1)
    omega
  | false :: r => by
    have ih := num_not r
    have hc := cnt_not r
    have hl := cnt_le r
    show ch (r.map (!·)).length (cnt (r.map (!·)) + 1) + num (r.map (!·)) + num r + 1 = ch (r.length + 1) (cnt r)
    rw [List.length_map]
    cases q : cnt r with
    | zero =>
      rw [q] at ih hc
      rw [ch0] at ih
      rw [ch_zero _ _ (by omega), ch0]
      omega
    | succ k =>
      rw [q] at ih hc hl
      have e : cnt (r.map (!·)) + 1 = r.length - k := by omega
      rw [e, ch_sym (by omega)]
      show ch r.length k + num (r.map (!·)) + num r + 1 = ch r.length k + ch r.length (k + 1)
      omega

/-- a reading that leaves the store but for what is dropped -/
def qAny (μ : Store) (Q : D → Store → Prop) (d : D) : Prop := ∀ μ', Dl.Sub μ μ' → Q d μ'

def sD (bs : List Bool) : D := .str (stk bs)
theorem sg_lt (b : Bool) : sg b < 0x110000 := by cases b <;> decide
theorem stk_ok (bs : List Bool) : PyData.strOk (stk bs) = true := by
  unfold PyData.strOk
  rw [stk_cps, List.all_toArray, List.all_map, List.all_eq_true]
  intro b _
  exact decide_eq_true (sg_lt b)
def eStk : Enc (List Bool) := ⟨sD, fun bs => .str (stk bs), fun _ => by rw [sD, pyD], fun bs => by rw [PyData.canLay0]; exact stk_ok bs, 0, fun _ => by rw [PyData.depth]; exact Nat.le_refl _, fun a b => by rw [PyData.eqv]; exact stk_beq a b⟩
/-- all sticks of a length, ascending -/
def allS : Nat → List (List Bool)
  | 0 => [[]]
  | n + 1 => (allS n).map (false :: ·) ++ (allS n).map (true :: ·)
theorem allS_length : ∀ n, (allS n).length = 2 ^ n
  | 0 => rfl
  | n + 1 => by simp only [allS, List.length_append, List.length_map, allS_length n, Nat.pow_succ]; omega
theorem allS_mem : ∀ {n : Nat} {bs : List Bool}, bs ∈ allS n → bs.length = n
  | 0, bs, h => by simp [allS] at h; simp [h]
  | n + 1, bs, h => by
    simp only [allS, List.mem_append, List.mem_map] at h
    rcases h with ⟨x, hx, rfl⟩ | ⟨x, hx, rfl⟩ <;> simp [allS_mem hx]
def mid (n : Nat) : List (List Bool) := (allS n).filter fun bs => decide (cnt bs = n / 2)
theorem count_ch : ∀ n k : Nat, ((allS n).filter fun bs => decide (cnt bs = k)).length = ch n k
  | 0, 0 => rfl
  | 0, k + 1 => rfl
  | n + 1, 0 => by
    simp only [allS, List.filter_append, List.length_append, List.filter_map, List.length_map]
    have e1 : (fun bs : List Bool => decide (cnt bs = 0)) ∘ (fun x => false :: x) = fun bs => decide (cnt bs = 0) := by funext x; rfl
    have e2 : (fun bs : List Bool => decide (cnt bs = 0)) ∘ (fun x => true :: x) = fun _ => false := by funext x; show decide (cnt x + 1 = 0) = false; simp
    rw [e1, e2, count_ch n 0, ch0, ch0]
    simp
  | n + 1, k + 1 => by
    simp only [allS, List.filter_append, List.length_append, List.filter_map, List.length_map]
    have e1 : (fun bs : List Bool => decide (cnt bs = k + 1)) ∘ (fun x => false :: x) = fun bs => decide (cnt bs = k + 1) := by funext x; rfl
    have e2 : (fun bs : List Bool => decide (cnt bs = k + 1)) ∘ (fun x => true :: x) = fun bs => decide (cnt bs = k) := by funext x; show decide (cnt x + 1 = k + 1) = decide (cnt x = k); simp
    rw [e1, e2, count_ch n k, count_ch n (k + 1)]
    show ch n (k + 1) + ch n k = ch n k + ch n (k + 1)
    omega
theorem pow_small {n : Nat} (h : n ≤ 12) : 2 ^ n ≤ 4096 := Nat.le_trans (Nat.pow_le_pow_right (by decide) h) (by decide)

def eTxt : Enc {s : Str // PyData.strOk s = true} := ⟨fun s => .str s.1, fun s => .str s.1, fun _ => by rw [pyD], fun s => by rw [PyData.canLay0]; exact s.2, 0, fun _ => by rw [PyData.depth]; exact Nat.le_refl _, fun a b => by
  rw [PyData.eqv]
  by_cases h : a = b
  · subst h; simp
  · have h2 : ¬ a.1 = b.1 := fun z => h (Subtype.ext z)
    simp [h, h2]⟩

/-! ### check signs -/
def plc (n : Nat) : Nat := if n = 0 then 0 else n.log2 + 1
theorem plc_eq {f n : Nat} (h1 : f = 0 ∨ 2 ^ (f - 1) ≤ n) (h2 : n < 2 ^ f) : f = plc n := by
  unfold plc
  by_cases h : n = 0
  · subst h
    rw [if_pos rfl]
    rcases h1 with h1 | h1
    · exact h1
    · have : 0 < 2 ^ (f - 1) := Nat.pow_pos (by decide); omega
  · rw [if_neg h]
    have h3 := (Nat.log2_lt h).mpr h2
    rcases h1 with rfl | h1
    · simp at h2; omega
    · have h4 := (Nat.le_log2 h).mpr h1
      omega
theorem plc_lt (n : Nat) : n < 2 ^ plc n := by
  unfold plc
  by_cases h : n = 0
  · subst h; decide
  · rw [if_neg h]; exact (Nat.log2_lt h).mp (Nat.lt_succ_self _)
theorem plc_le (n : Nat) : plc n ≤ n := by
  unfold plc
  by_cases h : n = 0
  · rw [if_pos h]; omega
  · rw [if_neg h]
    have h1 := Nat.log2_self_le h
    have h2 : n.log2 < 2 ^ n.log2 := Nat.lt_two_pow_self
    omega
def bin : Nat → Nat → List Bool
  | 0, _ => []
  | i + 1, n => decide (n / 2 ^ i % 2 = 1) :: bin i n
theorem bin_length : ∀ i n, (bin i n).length = i
  | 0, _ => rfl
  | i + 1, n => by simp [bin, bin_length i n]
/-- every notch of the one is notched in the other -/
def subB : List Bool → List Bool → Bool
  | [], _ => true
  | _, [] => true
  | a :: as, b :: bs => (!a || b) && subB as bs
theorem subB_app : ∀ {a b c d : List Bool}, a.length = b.length → subB (a ++ c) (b ++ d) = (subB a b && subB c d)
  | [], [], c, d, _ => by simp [subB]
  | x :: a, y :: b, c, d, h => by
    simp only [List.cons_append, subB]
    rw [subB_app (by simpa using h), Bool.and_assoc]
theorem subB_bin : ∀ {i n m : Nat}, subB (bin i n) (bin i m) = true → n % 2 ^ i ≤ m % 2 ^ i
  | 0, n, m, _ => by simp [Nat.mod_one]
  | i + 1, n, m, h => by
    simp only [bin, subB, Bool.and_eq_true, Bool.or_eq_true, Bool.not_eq_true', decide_eq_false_iff_not, decide_eq_true_eq] at h
    have ih := subB_bin h.2
    rw [Nat.pow_succ, Nat.mod_mul, Nat.mod_mul]
    have h1 : n / 2 ^ i % 2 ≤ m / 2 ^ i % 2 := by
      rcases h.1 with h | h
      · have := Nat.mod_lt (n / 2 ^ i) (show 0 < 2 by decide); omega
      · have := Nat.mod_lt (n / 2 ^ i) (show 0 < 2 by decide); omega
    exact Nat.add_le_add ih (Nat.mul_le_mul_left _ h1)
theorem subB_cnt : ∀ {a b : List Bool}, a.length = b.length → subB a b = true → cnt a ≤ cnt b ∧ (a ≠ b → cnt a < cnt b)
  | [], [], _, _ => ⟨Nat.le_refl _, fun h => absurd rfl h⟩
  | x :: a, y :: b, h, hs => by
    simp only [subB, Bool.and_eq_true] at hs
    obtain ⟨i1, i2⟩ := subB_cnt (by simpa using h) hs.2
    cases x <;> cases y
    · refine ⟨i1, fun q => i2 fun z => q (by rw [z])⟩
    · show cnt a ≤ cnt b + 1 ∧ (_ → cnt a < cnt b + 1)
      exact ⟨by omega, fun _ => by omega⟩
    · simp at hs
    · show cnt a + 1 ≤ cnt b + 1 ∧ (_ → cnt a + 1 < cnt b + 1)
      exact ⟨by omega, fun q => by have := i2 fun z => q (by rw [z]); omega⟩
def chk (bs : List Bool) : List Bool := bs ++ bin (plc bs.length) (bs.length - cnt bs)
theorem chk_length (bs : List Bool) : (chk bs).length = bs.length + plc bs.length := by simp [chk, bin_length]
theorem chk_not_sub {a b : List Bool} (hl : a.length = b.length) (hne : a ≠ b) : subB (chk a) (chk b) = false := by
  rw [Bool.eq_false_iff]
  intro h
  unfold chk at h
  rw [subB_app hl, Bool.and_eq_true, hl] at h
  have h1 := (subB_cnt hl h.1).2 hne
  have h2 := subB_bin h.2
  have ha := cnt_le a
  have hb := cnt_le b
  have hp := plc_lt b.length
  rw [Nat.mod_eq_of_lt (by omega), Nat.mod_eq_of_lt (by omega)] at h2
  omega
theorem count_p (bs : List Bool) : Txt.count (stk bs) (stk [false]) = ((bs.length - cnt bs : Nat) : Int) := by
  have e : stk [false] = ⟨#[46]⟩ := rfl
  rw [e, count_one]
  congr 1
  induction bs with
  | nil => rfl
  | cons b r ih =>
    have h : (stk (b :: r)).cps.toList = sg b :: (stk r).cps.toList := by simp [stk]
    have hc := cnt_le r
    rw [h, List.countP_cons, ih]
    cases b
    · show r.length - cnt r + 1 = r.length + 1 - cnt r
      omega
    · show r.length - cnt r + 0 = r.length + 1 - (cnt r + 1)
      omega
theorem cut_stk (bs : List Bool) (n : Nat) (h : n ≤ bs.length) : cutS (stk bs) none (some (n : Int)) = stk (bs.take n) := by
  apply str_ext
  unfold cutS
  have hl := stk_len bs
  simp only [hl, HT.sIx_none, HT.sIx_nat, List.drop_zero, Nat.sub_zero, Nat.min_eq_left h]
  simp [stk, List.map_take]
theorem repr_small {bs : List Bool} (h : bs.length ≤ 10000) : (reprText (stk bs)).length ≤ sizeLine := by
  have := StrLaws.reprText_len (stk bs) (fun c hc => by
    have hc2 : c ∈ bs.map sg := by simpa [stk] using hc
    obtain ⟨a, _, rfl⟩ := List.mem_map.mp hc2
    exact Nat.lt_of_lt_of_le (sg_lt a) (by decide))
  rw [stk_len] at this
  exact le_line (by omega)
theorem empty_stk (bs : List Bool) : Str.empty ++ stk bs = stk bs := by
  rw [show Str.empty = stk [] from rfl, stk_app]
  rfl
/-- a way to add -/
def wayA (C : Addr) : D := .obj C [("how", .str "add"), ("most", .non), ("part", .non)]
theorem goes_eq : ∀ {a b : List Bool}, a.length = b.length → (List.range a.length).all (fun i => decide (a[i]? = b[i]?) || decide (b[i]? = some true)) = subB a b
  | [], [], _ => rfl
  | x :: a, y :: b, h => by
    have ih := goes_eq (a := a) (b := b) (by simpa using h)
    rw [List.length_cons, List.range_succ_eq_map, List.all_cons, List.all_map]
    simp only [Function.comp_def, List.getElem?_cons_succ, List.getElem?_cons_zero, Nat.succ_eq_add_one]
    rw [ih]
    cases x <;> cases y <;> simp [subB]

theorem stk_at {b : List Bool} {i : Nat} {x : Bool} (h : b[i]? = some x) : atI (stk b).cps.toList ((i : Nat) : Int) = some (sg x) := atI_nat (by simp [stk, h])
theorem one_stk (x : Bool) : (⟨#[sg x]⟩ : Str) = stk [x] := rfl
theorem zero_add_nat (i : Nat) : (0 : Int) + (i : Int) = (i : Nat) := by omega
theorem fm_congr {α β : Type} {f g : α → Option β} : ∀ {l : List α}, (∀ x ∈ l, f x = g x) → l.filterMap f = l.filterMap g
  | [], _ => rfl
  | a :: l, h => by
    rw [List.filterMap_cons, List.filterMap_cons, h a List.mem_cons_self, fm_congr fun x hx => h x (List.mem_cons_of_mem _ hx)]
theorem fm_if {α β : Type} (p : α → Bool) (h : α → β) : ∀ l : List α, l.filterMap (fun i => if p i = true then some (h i) else none) = (l.filter p).map h
  | [] => rfl
  | a :: l => by
    rw [List.filterMap_cons, List.filter_cons]
    by_cases q : p a = true
    · simp only [q, if_true, List.map_cons, fm_if p h l]
    · have q' : p a = false := by simpa using q
      simp only [q', Bool.false_eq_true, if_false, fm_if p h l]
theorem enum_range (a : List Bool) : enumD (chars (stk a)) = (List.range a.length).map fun i => D.tup [.int (i : Nat), .str (stk [a.getD i false])] := by
  apply List.ext_getElem?
  intro i
  rw [enum_stk, List.getElem?_map, List.getElem?_zipIdx, List.getElem?_map, List.getElem?_map]
  by_cases h : i < a.length
  · rw [List.getElem?_eq_getElem h, List.getElem?_range h]
    simp [h]
  · rw [List.getElem?_eq_none (by omega), List.getElem?_eq_none (by simpa using h)]
    rfl
def nw (a b : List Bool) (i : Nat) : Bool := decide (a[i]? = some true) && !decide (b[i]? = some true)
theorem nw_all : ∀ {a b : List Bool}, a.length = b.length → (List.range a.length).all (fun i => !nw a b i) = subB a b
  | [], [], _ => rfl
  | x :: a, y :: b, h => by
    have ih := nw_all (a := a) (b := b) (by simpa using h)
    rw [List.length_cons, List.range_succ_eq_map, List.all_cons, List.all_map]
    have e : ((fun i => !nw (x :: a) (y :: b) i) ∘ Nat.succ) = fun i => !nw a b i := by funext i; simp [nw]
    rw [e, ih]
    cases x <;> cases y <;> simp [nw, subB]
theorem nil_all (p : Nat → Bool) (l : List Nat) : decide (l.filter p = []) = l.all fun i => !p i := by
  rw [Bool.eq_iff_iff, decide_eq_true_eq, List.filter_eq_nil_iff, List.all_eq_true]
  simp
def nwF (b : List Bool) (d : D) : Option D := match d with | .tup [.int i, .str s] => if (decide (s = stk [true]) && !decide (b[i.toNat]? = some true)) = true then some (.int i) else none | _ => none
theorem nw_pick (a b : List Bool) : (enumD (chars (stk a))).filterMap (nwF b) = ((List.range a.length).filter (nw a b)).map eNat.enc := by
  rw [enum_range, List.filterMap_map, ← fm_if]
  apply fm_congr
  intro i hi
  have hi2 : i < a.length := by simpa using hi
  show (if (decide (stk [a.getD i false] = stk [true]) && !decide (b[((i : Nat) : Int).toNat]? = some true)) = true then some (D.int (i : Nat)) else none) = if nw a b i = true then some (eNat.enc i) else none
  have e : decide (stk [a.getD i false] = stk [true]) = decide (a[i]? = some true) := by
    rw [List.getElem?_eq_getElem hi2, List.getD_eq_getElem?_getD, List.getElem?_eq_getElem hi2]
    rw [Bool.eq_iff_iff]
    simp [stk_one_eq]
  rw [e]
  rfl
/-- the places where two differ -/
def dif (a b : List Bool) : List Nat := (List.range a.length).filter fun i => !decide (a[i]? = b[i]?)
theorem dif_all {a b : List Bool} (h : a.length = b.length) : (dif a b).all (fun i => decide (b[i]? = some true)) = subB a b := by
  rw [← goes_eq h]
  unfold dif
  rw [List.all_filter]
  congr 1
  funext i
  cases decide (a[i]? = b[i]?) <;> simp
def difF (a b : List Bool) (d : D) : Option D := match d with | .int i => if (!decide (a[i.toNat]? = b[i.toNat]?)) = true then some (.int i) else none | _ => none
theorem dif_pick (a b : List Bool) : (rng 0 a.length).filterMap (difF a b) = (dif a b).map eNat.enc := by
  unfold rng dif
  rw [List.filterMap_map, ← fm_if]
  apply fm_congr
  intro i _
  show (if (!decide (a[((0 : Int) + (i : Nat)).toNat]? = b[((0 : Int) + (i : Nat)).toNat]?)) = true then some (D.int (0 + (i : Nat))) else none) = _
  rw [zero_add_nat]
  rfl

/-! ### ways -/
inductive How where
  | add | lose | mix
  deriving DecidableEq
def howS : How → Str
  | .add => "add" | .lose => "lose" | .mix => "mixed"
structure W3 where
  how : How
  most : Option Nat
  part : Option (List Nat)
  deriving DecidableEq
def nD' : Option Nat → D
  | none => .non
  | some m => .int m
def ptD : Option (List Nat) → D
  | none => .non
  | some l => .tup (l.map eNat.enc)
def paD : Option (List Nat) → D
  | none => .non
  | some l => .lst (l.map eNat.enc)
def wayD (C : Addr) (w : W3) : D := .obj C [("how", .str (howS w.how)), ("most", nD' w.most), ("part", ptD w.part)]
theorem lk_how {a b d : D} : look [(("how" : Str), a), ("most", b), ("part", d)] "how" = some a := by rfl
theorem lk_most {a b d : D} : look [(("how" : Str), a), ("most", b), ("part", d)] "most" = some b := by rfl
theorem lk_part {a b d : D} : look [(("how" : Str), a), ("most", b), ("part", d)] "part" = some d := by rfl
theorem lk_lets {a b d : D} : look [(("how" : Str), a), ("most", b), ("part", d)] "lets" = none := by rfl
theorem lk_can {a b d : D} : look [(("how" : Str), a), ("most", b), ("part", d)] "can" = none := by rfl
theorem how_add (h : How) : (howS h == ("add" : Str)) = decide (h = .add) := by cases h <;> decide +kernel
theorem how_mix (h : How) : (howS h == ("mixed" : Str)) = decide (h = .mix) := by cases h <;> decide +kernel
theorem how_in (h : How) : inD (.str (howS h)) [.str "add", .str "lose", .str "mixed"] = true := by cases h <;> decide +kernel
/-- what the places are, each once, ascending -/
def nrm (l : List Nat) : List Nat := (List.range 1000).filter fun i => decide (i ∈ l)
theorem nrm_mem {l : List Nat} (h : ∀ i ∈ l, i < 1000) {i : Nat} : i ∈ nrm l ↔ i ∈ l := by
  unfold nrm
  rw [List.mem_filter, List.mem_range, decide_eq_true_eq]
  exact ⟨fun q => q.2, fun q => ⟨h i q, q⟩⟩
theorem nrm_sorted (l : List Nat) : (nrm l).Pairwise (· < ·) := List.Pairwise.filter _ List.pairwise_lt_range
theorem sorted_eq : ∀ {a b : List Nat}, a.Pairwise (· < ·) → b.Pairwise (· < ·) → (∀ i, i ∈ a ↔ i ∈ b) → a = b
  | [], [], _, _, _ => rfl
  | [], y :: b, _, _, h => by have := (h y).mpr List.mem_cons_self; cases this
  | x :: a, [], _, _, h => by have := (h x).mp List.mem_cons_self; cases this
  | x :: a, y :: b, ha, hb, h => by
    have h1 := List.pairwise_cons.mp ha
    have h2 := List.pairwise_cons.mp hb
    have e : x = y := by
      have p1 := (h x).mp List.mem_cons_self
      have p2 := (h y).mpr List.mem_cons_self
      rcases List.mem_cons.mp p1 with e | p1
      · exact e
      · rcases List.mem_cons.mp p2 with e | p2
        · exact e.symm
        · have := h1.1 y p2; have := h2.1 x p1; omega
    subst e
    rw [sorted_eq h1.2 h2.2 fun i => ?_]
    constructor
    · intro q
      have := h1.1 i q
      rcases List.mem_cons.mp ((h i).mp (List.mem_cons_of_mem _ q)) with e | r
      · omega
      · exact r
    · intro q
      have := h2.1 i q
      rcases List.mem_cons.mp ((h i).mpr (List.mem_cons_of_mem _ q)) with e | r
      · omega
      · exact r
theorem nrm_rev (l : List Nat) : nrm l.reverse = nrm l := by unfold nrm; simp
theorem lk_cls {a b d : D} : look [(("how" : Str), a), ("most", b), ("part", d)] "__eq__" = none := by rfl
def okM : Option Nat → Nat → Bool
  | none, _ => true
  | some m, n => decide (n ≤ m)
def okP : Option (List Nat) → List Nat → Bool
  | none, _ => true
  | some l, is => is.all fun i => decide (i ∈ l)
def okH : How → List Bool → List Bool → List Nat → Bool
  | .add, _, b, is => is.all fun i => decide (b[i]? = some true)
  | .lose, a, _, is => is.all fun i => decide (a[i]? = some true)
  | .mix, _, _, _ => true
def letsW (w : W3) (a b : List Bool) (is : List Nat) : Bool := okM w.most is.length && (okP w.part is && okH w.how a b is)
def canW (w : W3) (a b : List Bool) : Bool := decide (a.length = b.length) && letsW w a b (dif a b)
theorem in_nats (i : Nat) (l : List Nat) : inD (.int (i : Nat)) (l.map eNat.enc) = decide (i ∈ l) := by
  unfold inD inV
  induction l with
  | nil => rfl
  | cons x r ih =>
    simp only [List.map_cons] at ih ⊢
    rw [List.any_cons, ih]
    have e : eqV (toV (.int (x : Nat))) (toV (.int (i : Nat))) = decide (i = x) := by
      show ((x : Int) == (i : Int)) = _
      rw [Bool.eq_iff_iff]
      simp
      omega
    rw [Bool.eq_iff_iff]
    simp [eNat, e]
theorem putD_fst {κ β : Type} [DecidableEq κ] (acc : List (κ × β)) (k : κ) (v : β) : (putD acc k v).map (·.1) = if k ∈ acc.map (·.1) then acc.map (·.1) else acc.map (·.1) ++ [k] := by
  unfold putD
  by_cases h : k ∈ acc.map (·.1)
  · rw [if_pos h, if_pos]
    · rw [List.map_map]
      apply List.map_congr_left
      intro kv _
      show (if kv.1 = k then (kv.1, v) else kv).1 = kv.1
      split <;> rfl
    · rw [List.any_eq_true]
      obtain ⟨kv, h1, h2⟩ := List.mem_map.mp h
      exact ⟨kv, h1, decide_eq_true h2⟩
  · rw [if_neg h, if_neg]
    · rw [List.map_append]; rfl
    · rw [List.any_eq_true]
      rintro ⟨kv, h1, h2⟩
      exact h (List.mem_map.mpr ⟨kv, h1, of_decide_eq_true h2⟩)
theorem putD_len {κ β : Type} [DecidableEq κ] (acc : List (κ × β)) (k : κ) (v : β) : (putD acc k v).length ≤ acc.length + 1 := by
  unfold putD
  split
  · rw [List.length_map]; omega
  · simp
def keyN (n : Nat) : Key := .inl (n : Int)
theorem keyN_inj {a b : Nat} (h : keyN a = keyN b) : a = b := by
  have : (a : Int) = (b : Int) := by injection h
  omega

/-! ### any values -/
def isStk (s : Str) : Bool := decide (0 < s.cps.toList.length) && s.cps.toList.all fun c => decide (c = 46 ∨ c = 120)
def stkV : D → Bool
  | .str s => isStk s
  | _ => false
def AnyV : D → Prop
  | .str s => s.length ≤ 100000 ∧ PyData.strOk s = true
  | .non => True | .bl _ => True | .int _ => True | .lst _ => True | .tup _ => True
  | _ => False
theorem isStk_stk {bs : List Bool} (h : bs ≠ []) : isStk (stk bs) = true := by
  have h1 : 0 < bs.length := List.length_pos_iff.mpr h
  unfold isStk
  rw [Bool.and_eq_true, List.all_eq_true]
  refine ⟨decide_eq_true (by simpa [stk] using h1), fun c hc => ?_⟩
  obtain ⟨b, _, rfl⟩ := List.mem_map.mp (show c ∈ bs.map sg by simpa [stk] using hc)
  cases b <;> decide
theorem stk_of {s : Str} (h : isStk s = true) : ∃ bs, s = stk bs ∧ bs ≠ [] := by
  unfold isStk at h
  rw [Bool.and_eq_true, List.all_eq_true, decide_eq_true_eq] at h
  obtain ⟨h1, h2⟩ := h
  refine ⟨s.cps.toList.map fun c => decide (c = 120), ?_, fun z => by rw [List.map_eq_nil_iff] at z; rw [z] at h1; simp at h1⟩
  apply str_ext
  unfold stk
  simp only [List.map_map]
  have : ∀ l : List Nat, (∀ c ∈ l, decide (c = 46 ∨ c = 120) = true) → l.map (sg ∘ fun c => decide (c = 120)) = l := fun l => by
    induction l with
    | nil => intro _; rfl
    | cons c r ih =>
      intro hl
      rw [List.map_cons, ih fun x hx => hl x (List.mem_cons_of_mem _ hx)]
      have := of_decide_eq_true (hl c List.mem_cons_self)
      rcases this with rfl | rfl <;> rfl
  simpa using (this s.cps.toList h2).symm
theorem in_any (c : Nat) : inD (.str ⟨#[c]⟩) [.str (stk [false]), .str (stk [true])] = decide (c = 46 ∨ c = 120) := by
  unfold inD inV
  have e : ∀ d : Nat, eqV (V.str ⟨#[d]⟩) (V.str ⟨#[c]⟩) = decide (c = d) := fun d => by
    show ((⟨#[d]⟩ : Str) == ⟨#[c]⟩) = _
    rw [Bool.eq_iff_iff]
    simp only [beq_iff_eq, decide_eq_true_eq]
    constructor
    · intro h; injection h with h; simpa using h.symm
    · rintro rfl; rfl
  show (eqV (V.str ⟨#[46]⟩) (V.str ⟨#[c]⟩) || (eqV (V.str ⟨#[120]⟩) (V.str ⟨#[c]⟩) || false)) = _
  rw [e, e, Bool.or_false, Bool.eq_iff_iff]
  simp
theorem anyV_ty {v : D} {μ : Store} (h : AnyV v) : ∃ m, tyD μ v = some m ∧ isTy m "str" = (match v with | .str _ => true | _ => false) := by
  cases v <;> first | exact h.elim | exact ⟨_, rfl, rfl⟩

def eCh : Enc {c : Nat // c < 0x110000} := ⟨fun c => .str ⟨#[c.1]⟩, fun c => .str ⟨#[c.1]⟩, fun _ => by rw [pyD], fun c => by rw [PyData.canLay0]; unfold PyData.strOk; simpa using c.2, 0, fun _ => by rw [PyData.depth]; exact Nat.le_refl _, fun a b => by
  rw [PyData.eqv]
  by_cases h : a = b
  · subst h; simp
  · have h2 : ¬ a.1 = b.1 := fun z => h (Subtype.ext z)
    simp [h, h2]⟩
theorem chs_eq (L : List Nat) (h : ∀ c ∈ L, c < 0x110000) (μ : Store) (P : D → Store → Prop) : oEq (.lst (L.map fun c => .str ⟨#[c]⟩)) (.lst []) μ P = P (.bl (decide (L = []))) μ := by
  obtain ⟨L', rfl⟩ : ∃ L' : List {c : Nat // c < 0x110000}, L = L'.map (·.1) := ⟨L.attach.map fun c => ⟨c.1, h c.1 c.2⟩, by rw [List.map_map]; simp⟩
  rw [List.map_map]
  show oEq (.lst (L'.map eCh.enc)) (.lst (([] : List {c : Nat // c < 0x110000}).map eCh.enc)) μ P = _
  rw [oEq_lst eCh (by decide)]
  congr 2
  exact decide_eq_decide.mpr (List.map_eq_nil_iff).symm
theorem strOk_mem {s : Str} (h : PyData.strOk s = true) : ∀ c ∈ s.cps.toList, c < 0x110000 := by
  unfold PyData.strOk at h
  intro c hc
  rw [Array.all_eq_true'] at h
  have := h c (by simpa using hc)
  simpa using this

def deepV : Nat → D
  | 0 => .tup []
  | n + 1 => if n % 2 = 0 then .lst [deepV n, .int 1] else .tup [deepV n]
def valsV : List D := [.int 0, .int (-3), .int 1000000000, .str "", .str ".", .non, .bl true, .bl false, .lst [], .lst [.int 1, .str "x"], .tup [.str "x", .non], .tup [], .str "add", .int 2, .str "x y", .lst [.str "."], .str "X", deepV 7]
theorem valsV_any : ∀ v ∈ valsV, AnyV v := by
  intro v hv
  simp only [valsV, List.mem_cons, List.not_mem_nil, or_false] at hv
  rcases hv with rfl | rfl | rfl | rfl | rfl | rfl | rfl | rfl | rfl | rfl | rfl | rfl | rfl | rfl | rfl | rfl | rfl | rfl <;> first | trivial | exact ⟨by decide +kernel, by decide +kernel⟩

def isInt : D → Bool
  | .int _ => true
  | _ => false
def okZ : D → Bool
  | .int i => decide (0 ≤ i)
  | _ => false
def seqV : D → Option (List D)
  | .lst xs => some xs
  | .tup xs => some xs
  | _ => none
def isNon : D → Bool
  | .non => true
  | _ => false
def okHv : D → Bool
  | .str s => inD (.str s) [.str "add", .str "lose", .str "mixed"]
  | _ => false
def okPv (v : D) : Bool := isNon v || (match seqV v with | some xs => xs.all okZ | none => false)
def dueV (h m p : D) : Option Str := if okHv h = true then (if (isNon m || okZ m) = true then (if okPv p = true then none else some "part") else some "most") else some "how"
structure GoodP (v : D) : Prop where
  any : AnyV v
  el : ∀ xs, seqV v = some xs → xs.length ≤ 500 ∧ ∀ e ∈ xs, AnyV e ∧ (∀ i, e = .int i → i < 1000)
theorem how_of {s : Str} (h : inD (.str s) [.str "add", .str "lose", .str "mixed"] = true) : ∃ h, s = howS h := by
  unfold inD inV at h
  have e : ∀ a : Str, eqV (toV (.str a)) (toV (.str s)) = (a == s) := fun a => rfl
  simp only [List.map_cons, List.map_nil, List.any_cons, List.any_nil, Bool.or_false, Bool.or_eq_true, e, beq_iff_eq] at h
  rcases h with h | h | h
  · exact ⟨.add, h.symm⟩
  · exact ⟨.lose, h.symm⟩
  · exact ⟨.mix, h.symm⟩
theorem most_of {m : D} (h : (isNon m || okZ m) = true) : ∃ k, m = nD' k := by
  cases m <;> simp [isNon, okZ] at h
  · exact ⟨none, rfl⟩
  · rename_i i
    exact ⟨some i.toNat, by show _ = D.int _; congr 1; omega⟩
def tpD : Option (List Nat) → D
  | none => .non
  | some l => .tup (l.map eNat.enc)
theorem nats_of : ∀ {xs : List D}, xs.all okZ = true → (∀ e ∈ xs, ∀ i, e = .int i → i < 1000) → ∃ l : List Nat, xs = l.map eNat.enc ∧ ∀ i ∈ l, i < 1000
  | [], _, _ => ⟨[], rfl, by simp⟩
  | x :: r, h, k => by
    rw [List.all_cons, Bool.and_eq_true] at h
    obtain ⟨l, h1, h2⟩ := nats_of h.2 fun e he => k e (List.mem_cons_of_mem _ he)
    cases x <;> first | (exfalso; have := h.1; simp [okZ] at this; done) | skip
    rename_i i
    have h0 : 0 ≤ i := by simpa [okZ] using h.1
    have h3 := k _ List.mem_cons_self i rfl
    refine ⟨i.toNat :: l, ?_, ?_⟩
    · rw [List.map_cons, ← h1]
      congr 1
      show D.int i = D.int _
      congr 1
      omega
    · intro j hj
      rcases List.mem_cons.mp hj with rfl | hj
      · omega
      · exact h2 j hj
theorem part_of {p : D} (g : GoodP p) (h : okPv p = true) : (∃ l, p = paD l ∧ ∀ k, l = some k → k.length ≤ 500 ∧ ∀ i ∈ k, i < 1000) ∨ ∃ l, p = tpD l ∧ ∀ k, l = some k → k.length ≤ 500 ∧ ∀ i ∈ k, i < 1000 := by
  unfold okPv at h
  cases p with
  | non => exact .inl ⟨none, rfl, fun _ z => nomatch z⟩
  | lst xs =>
    obtain ⟨h1, h2⟩ := g.el xs rfl
    obtain ⟨l, rfl, h3⟩ := nats_of (by simpa [isNon, seqV] using h) fun e he => (h2 e he).2
    exact .inl ⟨some l, rfl, fun k z => by cases z; exact ⟨by simpa using h1, h3⟩⟩
  | tup xs =>
    obtain ⟨h1, h2⟩ := g.el xs rfl
    obtain ⟨l, rfl, h3⟩ := nats_of (by simpa [isNon, seqV] using h) fun e he => (h2 e he).2
    exact .inr ⟨some l, rfl, fun k z => by cases z; exact ⟨by simpa using h1, h3⟩⟩
  | _ => simp [isNon, seqV] at h

section
variable {P : Program} {w : World} {K : PySem.W.Frag} {mg : Str → Option Value} {base : Heap} {c : Cs}
theorem exc_InvalidWay (T : Txt K mg c) : DExc P w K mg base 1 "InvalidWay" c.InvalidWay (some "word") := by
  obtain ⟨fI, fd, i1, i2, F⟩ := T.in_InvalidWay
  exact ⟨fI, fd, ["self", "word"], T.oe_InvalidWay, i1, i2, T.gx_InvalidWay, F.binds0 (ps := ["self", "word"]) (fun _ _ _ _ _ _ us hl => match us, hl with | [_, _], _ => rfl), exc_fn1 F sc_InvalidWay_xinit T.oe_InvalidWay T.kf.nf_InvalidWay_word rfl (fun f cdv A outer s H E => pe_binit T.vb rfl (pa_cons (pv 0) (pa_cons pe_str pa_nil))) (fun _ => rfl) (by decide) (by decide)⟩
end

def sp_law_box (c : Cs) : DSp := fun ds μ Q => ∃ (ns : List Int) (k own : Int), ds = [.scr (ns.map .int), .int k, .int own] ∧ (0 ≤ k ∧ k < 1000) ∧ (0 ≤ own ∧ own < 1000) ∧ ∀ p d, μ p = none → BoxV d → Q (.ref p) (setS μ p (.lst d))
theorem len_law_box (c : Cs) : ∀ ds μ Q, sp_law_box c ds μ Q → ds.length = 3 := by
  rintro ds μ Q ⟨ns, k, own, rfl, _⟩
  rfl

def w_law_box_t1 (K : PySem.W.Frag) (c : Cs) : WS := wSeq (wAsg (wOp oAdd (wOp oMod (wCB oInt (wACons (wOp oAdd (wOp oMul (wOp oMod (wCB oInt (wACons (wVar 3) (wANil))) (wC (.int 2147483629))) (wC (.int 48271))) (wOp oMul (wC (.int 40692)) (wOp oAdd (wVar 1) (wOp oMul (wC (.int 11)) (wVar 2))))) (wANil))) (wC (.int 2147483629))) (wC (.int 1))) (wgName 4)) (wRet (wLstM (wACons (wIx (wLst (wACons (wC (.int 0)) (wACons (wVar 3) (wANil)))) (wCB oInt (wACons (wOp oGe (wVar 3) (wOp oPow (wC (.int 10)) (wC (.int 18)))) (wANil)))) (wACons (wVar 4) (wACons (wC (.int 0)) (wANil))))))
def w_law_box (K : PySem.W.Frag) (c : Cs) : WS := wSeq (wAsg (wOp oAdd (wOp oAdd (wOp oMul (wC (.int 7727)) (wVar 1)) (wOp oMul (wC (.int 104729)) (wVar 2))) (wC (.int 43))) (wgName 3)) (wSeq (wIfS (wB (wOp oLt (wVar 1) (wCB oLen (wACons (wVar 0) (wANil))))) (wAsg (wCB oAbs (wACons (wIx (wVar 0) (wVar 1)) (wANil))) (wgName 3)) (wIfS (wB (wOp oGt (wCB oLen (wACons (wVar 0) (wANil))) (wC (.int 0)))) (wAsg (wOp oAdd (wVar 3) (wOp oMul (wOp oMod (wCB oInt (wACons (wCB oAbs (wACons (wIx (wVar 0) (wOp oMod (wCB oInt (wACons (wVar 1) (wANil))) (wCB oLen (wACons (wVar 0) (wANil))))) (wANil))) (wANil))) (wC (.int 2147483629))) (wC (.int 69623)))) (wgName 3)) (wNext))) (w_law_box_t1 K c))
section
variable {P : Program} {w : World} {K : PySem.W.Frag} {mg : Str → Option Value} {base : Heap} {c : Cs}
theorem dv_law_box (T : Txt K mg c) {f : Addr} (cdv : Value) (A : Around) (outer : List PySem.Env) (s : Shared) (H : Hp) (E : XK) (hr : Room 0 (A.deeper (PyProof.Rows.envOfC "_law_box" (defScope s_law_box) s.heap.objs.size f cdv))) : DSs (cxOf CX0 P w K mg base N_law_box "_law_box" (defScope s_law_box) f cdv A outer s H E).nox (defBody s_law_box) (w_law_box K c) := by
  have ND := sc_law_box.nd
  have hu := hu_of hr
  have hu64 := hr.units
  have hu65 := units65 hr
  exact dss_cons (ds_set (i := 3) ND rfl (Or.inl rfl) (de_op os_add (de_op os_add (de_op os_mul (de_int) (de_var (pv 1))) (de_op os_mul (de_int) (de_var (pv 2)))) (de_int))) (dss_cons (ds_if (dt_cmp os_lt (de_var (pv 1)) (de_callB cs_len rfl T.b_len (by decide +kernel) (da_cons (de_var (pv 0)) (da_nil))) (nomark _)) (dss_one (ds_set (i := 3) ND rfl (Or.inl rfl) (de_callB cs_abs rfl T.b_abs (by decide +kernel) (da_cons (de_ix hu (de_var (pv 0)) (de_var (pv 1)) (fun _ _ => rfl)) (da_nil))))) (dss_one (ds_if (dt_cmp os_gt (de_callB cs_len rfl T.b_len (by decide +kernel) (da_cons (de_var (pv 0)) (da_nil))) (de_int) (nomark _)) (dss_one (ds_set (i := 3) ND rfl (Or.inl rfl) (de_op os_add (de_var (pv 3)) (de_op os_mul (de_op os_mod (de_callTy cs_int rfl T.b_int (by decide +kernel) (da_cons (de_callB cs_abs rfl T.b_abs (by decide +kernel) (da_cons (de_ix hu (de_var (pv 0)) (de_op os_mod (de_callTy cs_int rfl T.b_int (by decide +kernel) (da_cons (de_var (pv 1)) (da_nil))) (de_callB cs_len rfl T.b_len (by decide +kernel) (da_cons (de_var (pv 0)) (da_nil)))) (fun _ _ => rfl)) (da_nil))) (da_nil))) (de_int)) (de_int))))) (dss_nil)))) (dss_cons (ds_set (i := 4) ND rfl (Or.inl rfl) (de_op os_add (de_op os_mod (de_callTy cs_int rfl T.b_int (by decide +kernel) (da_cons (de_op os_add (de_op os_mul (de_op os_mod (de_callTy cs_int rfl T.b_int (by decide +kernel) (da_cons (de_var (pv 3)) (da_nil))) (de_int)) (de_int)) (de_op os_mul (de_int) (de_op os_add (de_var (pv 1)) (de_op os_mul (de_int) (de_var (pv 2)))))) (da_nil))) (de_int)) (de_int))) (dss_one (ds_ret (de_lstM (da_cons (de_ix hu (de_lst (da_cons (de_int) (da_cons (de_var (pv 3)) (da_nil)))) (de_callTy cs_int rfl T.b_int (by decide +kernel) (da_cons (de_cmp os_ge (de_var (pv 3)) (de_op os_pow (de_int) (de_int)) (nomark _)) (da_nil))) (fun _ _ => rfl)) (da_cons (de_var (pv 4)) (da_cons (de_int) (da_nil)))))))))

theorem rd_law_box_t1 {c : Cs} {μ : Store} {Q : D → Store → Prop} {R : Dl.Env → Store → Prop} {cell k own : Int} {x : D} (q : ∀ p d, μ p = none → BoxV d → Q (.ref p) (setS μ p (.lst d))) (hc : 0 ≤ cell) (hk : 0 ≤ k ∧ k < 1000) (ho : 0 ≤ own ∧ own < 1000) :
    w_law_box_t1 K c { nx := R, rt := Q } [some x, some (.int k), some (.int own), some (.int cell), none] μ := by
  unfold w_law_box_t1
  walk_at "dx"
  have h1 : (-2 ^ 64 < cell % 2147483629 ∧ cell % 2147483629 < 2 ^ 64 ∨ -2 ^ 64 < (48271 : Int) ∧ (48271 : Int) < 2 ^ 64) := .inr (by decide)
  have h2 := em_lo (a := cell % 2147483629 * 48271 + 40692 * (k + 11 * own)) (b := 2147483629) (by decide)
  have h3 := em_hi (a := cell % 2147483629 * 48271 + 40692 * (k + 11 * own)) (b := 2147483629) (by decide)
  generalize (cell % 2147483629 * 48271 + 40692 * (k + 11 * own)) % 2147483629 = s at h2 h3 ⊢
  refine ⟨by decide, h1, .inl (by decide), .inl (by decide), by decide, le_line (Nat.le_of_ble_eq_true rfl), by decide, ?_⟩
  by_cases h : (10 : Int) ^ (18 : Int).toNat ≤ cell
  · rw [if_pos h, at2_1]
    exact ⟨le_line (Nat.le_of_ble_eq_true rfl), fun p hp => ret_eq (q p _ hp ⟨cell, s + 1, 0, rfl, hc, ⟨by omega, by omega⟩, by omega⟩)⟩
  · rw [if_neg h, at2_0]
    exact ⟨le_line (Nat.le_of_ble_eq_true rfl), fun p hp => ret_eq (q p _ hp ⟨0, s + 1, 0, rfl, by omega, ⟨by omega, by omega⟩, by omega⟩)⟩
theorem rd_law_box (K : PySem.W.Frag) (c : Cs) : ∀ ds μ Q, sp_law_box c ds μ Q → w_law_box K c { nx := fun _ μ' => ∃ μ2, Sub μ2 μ' ∧ Q .non μ2, rt := Q } (startD N_law_box ds) μ := by
  rintro ds μ Q ⟨ns, k, own, rfl, hk, ho, q⟩
  show w_law_box K c _ [some _, some _, some _, none, none] μ
  unfold w_law_box
  walk_at "dx"
  rw [List.length_map]
  refine ⟨.inl (by decide), .inl (by decide), ?_⟩
  split
  · rename_i h
    obtain ⟨z, hz⟩ := atI_ints (ns := ns) hk.1 h
    rw [hz]
    exact rd_law_box_t1 q (by split <;> omega) hk ho
  · split
    · rename_i h1 h2
      have hm := em_lo (a := k) (b := (ns.length : Int)) (by omega)
      have hm2 := em_hi (a := k) (b := (ns.length : Int)) (by omega)
      obtain ⟨z, hz⟩ := atI_ints (ns := ns) hm hm2
      refine ⟨by omega, ?_⟩
      rw [hz]
      refine ⟨by decide, .inr (by decide), rd_law_box_t1 q ?_ hk ho⟩
      have h3 := em_lo (a := if z < 0 then -z else z) (b := 2147483629) (by decide)
      generalize (if z < 0 then -z else z) % 2147483629 = y at h3 ⊢
      omega
    · exact rd_law_box_t1 q (by omega) hk ho

theorem cal_law_box (T : Txt K mg c) : DCal P w K mg base 1 "_law_box" (sp_law_box c) [] := T.f_law_box.cal (ps := ["_law_script", "_law_k", "_law_own"]) sc_law_box (len_law_box c) (fun cdv A outer s H E hr => dv_law_box T cdv A outer s H E hr) (rd_law_box K c) fun _ _ _ _ _ _ us hl => match us, hl with | [_, _, _], _ => rfl
end
def sp_law_is_number (c : Cs) : DSp := fun ds μ Q => ∃ v : D, ds = [v] ∧ AnyV v ∧ Q (.bl (okZ v)) μ
theorem len_law_is_number (c : Cs) : ∀ ds μ Q, sp_law_is_number c ds μ Q → ds.length = 1 := by
  rintro ds μ Q ⟨v, rfl, _⟩
  rfl

def w_law_is_number (K : PySem.W.Frag) (c : Cs) : WS := wRet (wAndV (wCB oIsi (wACons (wVar 0) (wACons (wC (.ty "int")) (wANil)))) (wAndV (wNotV (wCB oIsi (wACons (wVar 0) (wACons (wC (.ty "bool")) (wANil))))) (wOp oGe (wVar 0) (wC (.int 0)))))
section
variable {P : Program} {w : World} {K : PySem.W.Frag} {mg : Str → Option Value} {base : Heap} {c : Cs}
theorem dv_law_is_number (T : Txt K mg c) {f : Addr} (cdv : Value) (A : Around) (outer : List PySem.Env) (s : Shared) (H : Hp) (E : XK) (hr : Room 0 (A.deeper (PyProof.Rows.envOfC "_law_is_number" (defScope s_law_is_number) s.heap.objs.size f cdv))) : DSs (cxOf CX0 P w K mg base N_law_is_number "_law_is_number" (defScope s_law_is_number) f cdv A outer s H E).nox (defBody s_law_is_number) (w_law_is_number K c) := by
  have ND := sc_law_is_number.nd
  have hu := hu_of hr
  have hu64 := hr.units
  have hu65 := units65 hr
  exact dss_one (ds_ret (de_and (de_callB cs_isi rfl T.b_isinstance (by decide +kernel) (da_cons (de_var (pv 0)) (da_cons (de_ty (n := "int") rfl T.b_int (by decide +kernel)) (da_nil)))) (de_and (de_not (de_callB cs_isi rfl T.b_isinstance (by decide +kernel) (da_cons (de_var (pv 0)) (da_cons (de_ty (n := "bool") rfl T.b_bool (by decide +kernel)) (da_nil))))) (de_one (de_cmp os_ge (de_var (pv 0)) (de_int) (nomark _))))))
theorem rd_law_is_number (K : PySem.W.Frag) (c : Cs) : ∀ ds μ Q, sp_law_is_number c ds μ Q → w_law_is_number K c { nx := fun _ μ' => ∃ μ2, Sub μ2 μ' ∧ Q .non μ2, rt := Q } (startD N_law_is_number ds) μ := by
  rintro ds μ Q ⟨v, rfl, hv, k⟩
  show w_law_is_number K c _ [some v] μ
  unfold w_law_is_number
  cases v <;> first | exact hv.elim | skip
  all_goals (walk_at "dx"; refine ⟨by decide, ?_⟩; try simp)
  all_goals first | exact ret_eq k | (refine ⟨by decide, ?_⟩; first | exact ret_eq k | (simp; exact ret_eq k)) | trace_state

theorem cal_law_is_number (T : Txt K mg c) : DCal P w K mg base 1 "_law_is_number" (sp_law_is_number c) [] := T.f_law_is_number.cal (ps := ["_law_value_here"]) sc_law_is_number (len_law_is_number c) (fun cdv A outer s H E hr => dv_law_is_number T cdv A outer s H E hr) (rd_law_is_number K c) fun _ _ _ _ _ _ us hl => match us, hl with | [_], _ => rfl
end

theorem fm_allZ : ∀ xs : List D, (xs.filterMap fun d => if okZ d = true then none else some d).isEmpty = xs.all okZ
  | [] => rfl
  | x :: r => by
    have ih := fm_allZ r
    rw [List.filterMap_cons, List.all_cons]
    cases okZ x with
    | true => simpa using ih
    | false => rfl
def dueD (h m p : D) : D := match dueV h m p with | none => .non | some w => .str w
theorem nil_any (E : List D) (hp : ∀ e ∈ E, ∃ d, pyD e = some d ∧ d.canLay0 = true ∧ d.depth ≤ 20) (μ : Store) (P : D → Store → Prop) : oEq (.lst E) (.lst []) μ P = P (.bl E.isEmpty) μ := by
  have : ∃ ps, pyDs E = some ps ∧ PyData.canLayAll0 ps = true ∧ PyData.depthAll ps ≤ 20 ∧ ps.isEmpty = E.isEmpty := by
    induction E with
    | nil => exact ⟨[], by rw [pyDs], by rw [PyData.canLayAll0], by rw [PyData.depthAll]; omega, rfl⟩
    | cons x r ih =>
      obtain ⟨ps, h1, h2, h3, _⟩ := ih fun e he => hp e (List.mem_cons_of_mem _ he)
      obtain ⟨d, g1, g2, g3⟩ := hp x List.mem_cons_self
      exact ⟨d :: ps, by rw [pyDs, g1, h1], by rw [PyData.canLayAll0, g2, h2]; rfl, by rw [PyData.depthAll]; exact Nat.max_le.mpr ⟨g3, h3⟩, rfl⟩
  obtain ⟨ps, h1, h2, h3, h4⟩ := this
  have e1 : pyS μ (.lst E) = some (.list ps) := by show pyD _ = _; rw [pyD, h1]; rfl
  have e2 : pyS μ (.lst []) = some (.list []) := by show pyD _ = _; rw [pyD, pyDs]; rfl
  have s1 : SeqAt.shaped (.list ps) = true := by
    unfold SeqAt.shaped
    rw [PyData.canLay0, h2, PyData.depth, decide_eq_true (by omega)]
    rfl
  have s2 : SeqAt.shaped (.list []) = true := by decide +kernel
  unfold oEq
  rw [show scD (.lst E) (.lst []) = none from rfl, e1, e2]
  dsimp only
  rw [s1, s2]
  have e3 : PyData.eqv (.list ps) (.list []) = E.isEmpty := by
    rw [PyData.eqv, ← h4]
    cases ps <;> simp [PyData.eqvAll]
  rw [e3]
  simp
structure GoodE (v : D) : Prop where
  el : ∀ xs, seqV v = some xs → ∀ e ∈ xs, ∃ d, pyD e = some d ∧ d.canLay0 = true ∧ d.depth ≤ 20
def sp_law_due (c : Cs) : DSp := fun ds μ Q => ∃ hv mv pv : D, ds = [hv, mv, pv] ∧ AnyV hv ∧ AnyV mv ∧ GoodP pv ∧ GoodE pv ∧ Q (dueD hv mv pv) μ
theorem len_law_due (c : Cs) : ∀ ds μ Q, sp_law_due c ds μ Q → ds.length = 3 := by
  rintro ds μ Q ⟨hv, mv, pv, rfl, _⟩
  rfl

def w_law_due_t1 (K : PySem.W.Frag) (c : Cs) : WS := wRet (wIf (wB (wOp oEq (wLc (wiSeq (wVar 2)) (wgName 3) (wNt (wTrv (wCall (sp_law_is_number c) [] (wACons (wVar 3) (wANil))))) (wVar 3) [3]) (wLst (wANil)))) (wC .non) (wC (.str "part")))
def w_law_due_t2 (K : PySem.W.Frag) (c : Cs) : WS := wSeq (wIfS (wNt (wTrv (wCB oIsiS (wACons (wVar 2) (wACons (wTup (wACons (wC (.ty "list")) (wACons (wC (.ty "tuple")) (wANil)))) (wANil)))))) (wRet (wC (.str "part"))) (wNext)) (w_law_due_t1 K c)
def w_law_due_t3 (K : PySem.W.Frag) (c : Cs) : WS := wSeq (wIfS (wB (wOp oIs (wVar 2) (wC .non))) (wRet (wC .non)) (wNext)) (w_law_due_t2 K c)
def w_law_due_t4 (K : PySem.W.Frag) (c : Cs) : WS := wSeq (wIfS (wAnd (wB (wOp oIsNot (wVar 1) (wC .non))) (wNt (wTrv (wCall (sp_law_is_number c) [] (wACons (wVar 1) (wANil)))))) (wRet (wC (.str "most"))) (wNext)) (w_law_due_t3 K c)
def w_law_due (K : PySem.W.Frag) (c : Cs) : WS := wSeq (wIfS (wOr (wNt (wTrv (wCB oIsi (wACons (wVar 0) (wACons (wC (.ty "str")) (wANil)))))) (wB (wOp oNotIn (wVar 0) (wTup (wACons (wC (.str "add")) (wACons (wC (.str "lose")) (wACons (wC (.str "mixed")) (wANil)))))))) (wRet (wC (.str "how"))) (wNext)) (w_law_due_t4 K c)
section
variable {P : Program} {w : World} {K : PySem.W.Frag} {mg : Str → Option Value} {base : Heap} {c : Cs}
theorem dv_law_due (T : Txt K mg c) {f : Addr} (cdv : Value) (A : Around) (outer : List PySem.Env) (s : Shared) (H : Hp) (E : XK) (hr : Room 1 (A.deeper (PyProof.Rows.envOfC "_law_due" (defScope s_law_due) s.heap.objs.size f cdv))) : DSs (cxOf CX0 P w K mg base N_law_due "_law_due" (defScope s_law_due) f cdv A outer s H E).nox (defBody s_law_due) (w_law_due K c) := by
  have ND := sc_law_due.nd
  have hu := hu_of hr
  have hu64 := hr.units
  have hu65 := units65 hr
  exact dss_cons (ds_if (dt_w (dw_or (dt_not (dt_tru (de_callB cs_isi rfl T.b_isinstance (by decide +kernel) (da_cons (de_var (pv 0)) (da_cons (de_ty (n := "str") rfl T.b_str (by decide +kernel)) (da_nil)))) (fun _ => rfl))) (dw_or1 (dt_cmp os_notIn (de_var (pv 0)) (de_tup (da_cons (de_str) (da_cons (de_str) (da_cons (de_str) (da_nil))))) (by rfl))))) (dss_one (ds_ret (de_str))) (dss_nil)) (dss_cons (ds_if (dt_w (dw_and (dt_cmp os_isNot (de_var (pv 1)) (de_non) (nomark _)) (dw_and1 (dt_not (dt_tru (de_cal (cal_law_is_number T) hr (by decide) rfl (da_cons (de_var (pv 1)) (da_nil))) (fun _ => rfl)))))) (dss_one (ds_ret (de_str))) (dss_nil)) (dss_cons (ds_if (dt_cmp os_is (de_var (pv 2)) (de_non) (nomark _)) (dss_one (ds_ret (de_non))) (dss_nil)) (dss_cons (ds_if (dt_not (dt_tru (de_callB cs_isiS rfl T.b_isinstance (by decide +kernel) (da_cons (de_var (pv 2)) (da_cons (de_tup (da_cons (de_ty (n := "list") rfl T.b_list (by decide +kernel)) (da_cons (de_ty (n := "tuple") rfl T.b_tuple (by decide +kernel)) (da_nil)))) (da_nil)))) (fun _ => rfl))) (dss_one (ds_ret (de_str))) (dss_nil)) (dss_one (ds_ret (de_if (dt_cmp (os_eq hu64) (de_lc (own := [("_law_one", 3)]) (g := gName 3) rfl ND (di_seq (de_var (pv 2))) (blkOk_by (own := [("_law_one", 3)]) (N := N_law_due) (sc := defScope s_law_due) (by decide +kernel)) (gp_name (by decide)) (fun _ _ _ _ _ => pg_name (i := 3) ND rfl (by first | exact Or.inl rfl | exact Or.inr rfl)) (fun _ _ _ _ _ => dts_one (dt_not (dt_tru (de_cal (cal_law_is_number T) hr (by decide) rfl (da_cons (de_var (pv 3)) (da_nil))) (fun _ => rfl)))) (fun _ _ _ _ _ => de_var (pv 3))) (de_lst (da_nil)) (nomark _)) (de_non) (de_str)))))))
theorem rd_law_due (K : PySem.W.Frag) (c : Cs) : ∀ ds μ Q, sp_law_due c ds μ Q → w_law_due K c { nx := fun _ μ' => ∃ μ2, Sub μ2 μ' ∧ Q .non μ2, rt := Q } (startD N_law_due ds) μ := by
  rintro ds μ Q ⟨hv, mv, pv, rfl, ah, am, gp, ge, q⟩
  show w_law_due K c _ [some hv, some mv, some pv, none] μ
  unfold dueD dueV at q
  have t4 : okHv hv = true → w_law_due_t4 K c { nx := fun _ μ' => ∃ μ2, Dl.Sub μ2 μ' ∧ Q .non μ2, rt := Q } [some hv, some mv, some pv, none] μ := by
    intro h1
    rw [if_pos h1] at q
    have t3 : (isNon mv || okZ mv) = true → w_law_due_t3 K c { nx := fun _ μ' => ∃ μ2, Dl.Sub μ2 μ' ∧ Q .non μ2, rt := Q } [some hv, some mv, some pv, none] μ := by
      intro h2
      rw [if_pos h2] at q
      unfold w_law_due_t3
      walk_at "dx"
      by_cases hn : pv = .non
      · subst hn
        try walk_at "dx"
        exact ret_eq q
      · have eN : isNon pv = false := by cases pv <;> first | exact absurd rfl hn | rfl
        rw [if_neg (by cases pv <;> first | exact absurd rfl hn | simp)]
        unfold w_law_due_t2
        walk_at "dx"
        have hlen : [D.ty "list", D.ty "tuple"].length ≤ sizeLine := le_line (Nat.le_of_ble_eq_true rfl)
        have step : ∀ xs, (pv = .lst xs ∨ pv = .tup xs) → w_law_due_t1 K c { nx := fun _ μ' => ∃ μ2, Dl.Sub μ2 μ' ∧ Q .non μ2, rt := Q } [some hv, some mv, some pv, none] μ := by
          intro xs hxs
          have hs : seqV pv = some xs := by rcases hxs with rfl | rfl <;> rfl
          obtain ⟨g1, g2⟩ := gp.el xs hs
          have ge' := ge.el xs hs
          have ep : okPv pv = xs.all okZ := by unfold okPv; rw [eN, hs]; rfl
          rw [ep] at q
          unfold w_law_due_t1
          rcases hxs with rfl | rfl
          · walk_at "dx"
            refine lc_fmap (fun d => if okZ d = true then none else some d) (le_line (by omega)) ?_ ?_
            · intro i d μ' R R' hd _ hR hR'
              show (wgName 3) d _ _ _
              walk_at "dx"
              refine ⟨d, rfl, (g2 d (List.mem_of_getElem? hd)).1, ?_⟩
              cases ho : okZ d with
              | true =>
                try walk_at "dx"
                exact hR' (if_pos ho)
              | false =>
                try walk_at "dx"
                exact hR _ (if_neg (by rw [ho]; simp))
            · intro L hL
              rw [delS_setS hL]
              try walk_at "dx"
              refine ⟨le_line (Nat.le_of_ble_eq_true rfl), ?_⟩
              rw [nil_any _ (fun e he => by
                obtain ⟨d, h1, h2⟩ := List.mem_filterMap.mp he
                split at h2
                · cases h2
                · cases h2; exact ge' _ h1)]
              rw [fm_allZ]
              cases ha : xs.all okZ with
              | true =>
                rw [ha] at q
                try walk_at "dx"
                exact ret_eq q
              | false =>
                rw [ha] at q
                try walk_at "dx"
                exact ret_eq q
          · walk_at "dx"
            refine lc_fmap (fun d => if okZ d = true then none else some d) (le_line (by omega)) ?_ ?_
            · intro i d μ' R R' hd _ hR hR'
              show (wgName 3) d _ _ _
              walk_at "dx"
              refine ⟨d, rfl, (g2 d (List.mem_of_getElem? hd)).1, ?_⟩
              cases ho : okZ d with
              | true =>
                try walk_at "dx"
                exact hR' (if_pos ho)
              | false =>
                try walk_at "dx"
                exact hR _ (if_neg (by rw [ho]; simp))
            · intro L hL
              rw [delS_setS hL]
              try walk_at "dx"
              refine ⟨le_line (Nat.le_of_ble_eq_true rfl), ?_⟩
              rw [nil_any _ (fun e he => by
                obtain ⟨d, h1, h2⟩ := List.mem_filterMap.mp he
                split at h2
                · cases h2
                · cases h2; exact ge' _ h1)]
              rw [fm_allZ]
              cases ha : xs.all okZ with
              | true =>
                rw [ha] at q
                try walk_at "dx"
                exact ret_eq q
              | false =>
                rw [ha] at q
                try walk_at "dx"
                exact ret_eq q
        cases pv with
        | non => exact absurd rfl hn
        | lst xs => exact ⟨hlen, _, _, rfl, rfl, _, rfl, by try simp only [isTy]; try simp; exact step xs (.inl rfl)⟩
        | tup xs => exact ⟨hlen, _, _, rfl, rfl, _, rfl, by try simp only [isTy]; try simp; exact step xs (.inr rfl)⟩
        | bl b => exact ⟨hlen, _, _, rfl, rfl, _, rfl, by try simp only [isTy]; try simp; exact ret_eq q⟩
        | int b => exact ⟨hlen, _, _, rfl, rfl, _, rfl, by try simp only [isTy]; try simp; exact ret_eq q⟩
        | str b => exact ⟨hlen, _, _, rfl, rfl, _, rfl, by try simp only [isTy]; try simp; exact ret_eq q⟩
        | _ => exact gp.any.elim
    unfold w_law_due_t4
    walk_at "dx"
    by_cases hn : mv = .non
    · subst hn
      try walk_at "dx"
      exact t3 rfl
    · have eN : isNon mv = false := by cases mv <;> first | exact absurd rfl hn | rfl
      rw [if_pos (by cases mv <;> first | exact absurd rfl hn | rfl)]
      refine ⟨mv, rfl, am, ?_⟩
      rw [eN, Bool.false_or] at t3 q
      cases ha : okZ mv with
      | true =>
        try walk_at "dx"
        exact t3 ha
      | false =>
        rw [if_neg (by rw [ha]; simp)] at q
        try walk_at "dx"
        exact ret_eq q
  have bad : okHv hv = false → Q (.str "how") μ := fun h => by rw [if_neg (by rw [h]; simp)] at q; exact q
  unfold w_law_due
  by_cases hs : ∃ s, hv = .str s
  · obtain ⟨s, rfl⟩ := hs
    have e : okHv (.str s) = inD (.str s) [.str "add", .str "lose", .str "mixed"] := rfl
    rw [e] at t4 bad
    walk_at "dx"
    try simp only [isTy]
    refine ⟨by decide, ?_⟩
    try simp
    refine ⟨le_line (Nat.le_of_ble_eq_true rfl), rfl, ⟨rfl, rfl, rfl⟩, ?_⟩
    by_cases hq : inD (.str s) [.str "add", .str "lose", .str "mixed"] = true
    · rw [if_pos hq]; exact t4 hq
    · rw [if_neg hq]; exact ret_eq (bad (by simpa using hq))
  · have e : okHv hv = false := by cases hv <;> first | rfl | exact absurd ⟨_, rfl⟩ hs
    have bad' := bad e
    clear bad
    cases hv <;> first | exact ah.elim | exact absurd ⟨_, rfl⟩ hs | skip
    all_goals walk_at "dx"
    all_goals refine ⟨by decide, ?_⟩
    all_goals (try simp)
    all_goals exact ret_eq bad'

theorem cal_law_due (T : Txt K mg c) : DCal P w K mg base 2 "_law_due" (sp_law_due c) [] := T.f_law_due.cal (ps := ["_law_how", "_law_most", "_law_part"]) sc_law_due (len_law_due c) (fun cdv A outer s H E hr => dv_law_due T cdv A outer s H E hr) (rd_law_due K c) fun _ _ _ _ _ _ us hl => match us, hl with | [_, _, _], _ => rfl
end
def sp_is_integer (c : Cs) : DSp := fun ds μ Q => ∃ v : D, ds = [v] ∧ AnyV v ∧ Q (.bl (isInt v)) μ
theorem len_is_integer (c : Cs) : ∀ ds μ Q, sp_is_integer c ds μ Q → ds.length = 1 := by
  rintro ds μ Q ⟨v, rfl, _⟩
  rfl

def w_is_integer (K : PySem.W.Frag) (c : Cs) : WS := wRet (wAndV (wCB oIsi (wACons (wVar 0) (wACons (wC (.ty "int")) (wANil)))) (wNotV (wCB oIsi (wACons (wVar 0) (wACons (wC (.ty "bool")) (wANil))))))
section
variable {P : Program} {w : World} {K : PySem.W.Frag} {mg : Str → Option Value} {base : Heap} {c : Cs}
theorem dv_is_integer (T : Txt K mg c) {f : Addr} (cdv : Value) (A : Around) (outer : List PySem.Env) (s : Shared) (H : Hp) (E : XK) (hr : Room 0 (A.deeper (PyProof.Rows.envOfC "is_integer" (defScope s_is_integer) s.heap.objs.size f cdv))) : DSs (cxOf CX0 P w K mg base N_is_integer "is_integer" (defScope s_is_integer) f cdv A outer s H E).nox (defBody s_is_integer) (w_is_integer K c) := by
  have ND := sc_is_integer.nd
  have hu := hu_of hr
  have hu64 := hr.units
  have hu65 := units65 hr
  exact dss_one (ds_ret (de_and (de_callB cs_isi rfl T.b_isinstance (by decide +kernel) (da_cons (de_var (pv 0)) (da_cons (de_ty (n := "int") rfl T.b_int (by decide +kernel)) (da_nil)))) (de_one (de_not (de_callB cs_isi rfl T.b_isinstance (by decide +kernel) (da_cons (de_var (pv 0)) (da_cons (de_ty (n := "bool") rfl T.b_bool (by decide +kernel)) (da_nil))))))))
theorem rd_is_integer (K : PySem.W.Frag) (c : Cs) : ∀ ds μ Q, sp_is_integer c ds μ Q → w_is_integer K c { nx := fun _ μ' => ∃ μ2, Sub μ2 μ' ∧ Q .non μ2, rt := Q } (startD N_is_integer ds) μ := by
  rintro ds μ Q ⟨v, rfl, hv, k⟩
  show w_is_integer K c _ [some v] μ
  unfold w_is_integer
  cases v <;> first | exact hv.elim | skip
  all_goals (walk_at "dx"; refine ⟨by decide, ?_⟩; try simp)
  all_goals first | exact ret_eq k | (refine ⟨by decide, ?_⟩; first | exact ret_eq k | (simp; exact ret_eq k)) | trace_state

theorem cal_is_integer (T : Txt K mg c) : DCal P w K mg base 1 "is_integer" (sp_is_integer c) [] := T.f_is_integer.cal (ps := ["value"]) sc_is_integer (len_is_integer c) (fun cdv A outer s H E hr => dv_is_integer T cdv A outer s H E hr) (rd_is_integer K c) fun _ _ _ _ _ _ us hl => match us, hl with | [_], _ => rfl
end
def sp_is_from_zero (c : Cs) : DSp := fun ds μ Q => ∃ v : D, ds = [v] ∧ AnyV v ∧ Q (.bl (okZ v)) μ
theorem len_is_from_zero (c : Cs) : ∀ ds μ Q, sp_is_from_zero c ds μ Q → ds.length = 1 := by
  rintro ds μ Q ⟨v, rfl, _⟩
  rfl

def w_is_from_zero (K : PySem.W.Frag) (c : Cs) : WS := wRet (wAndV (wCall (sp_is_integer c) [] (wACons (wVar 0) (wANil))) (wOp oGe (wVar 0) (wC (.int 0))))
section
variable {P : Program} {w : World} {K : PySem.W.Frag} {mg : Str → Option Value} {base : Heap} {c : Cs}
theorem dv_is_from_zero (T : Txt K mg c) {f : Addr} (cdv : Value) (A : Around) (outer : List PySem.Env) (s : Shared) (H : Hp) (E : XK) (hr : Room 1 (A.deeper (PyProof.Rows.envOfC "is_from_zero" (defScope s_is_from_zero) s.heap.objs.size f cdv))) : DSs (cxOf CX0 P w K mg base N_is_from_zero "is_from_zero" (defScope s_is_from_zero) f cdv A outer s H E).nox (defBody s_is_from_zero) (w_is_from_zero K c) := by
  have ND := sc_is_from_zero.nd
  have hu := hu_of hr
  have hu64 := hr.units
  have hu65 := units65 hr
  exact dss_one (ds_ret (de_and (de_cal (cal_is_integer T) hr (by decide) rfl (da_cons (de_var (pv 0)) (da_nil))) (de_one (de_cmp os_ge (de_var (pv 0)) (de_int) (nomark _)))))
theorem rd_is_from_zero (K : PySem.W.Frag) (c : Cs) : ∀ ds μ Q, sp_is_from_zero c ds μ Q → w_is_from_zero K c { nx := fun _ μ' => ∃ μ2, Sub μ2 μ' ∧ Q .non μ2, rt := Q } (startD N_is_from_zero ds) μ := by
  rintro ds μ Q ⟨v, rfl, hv, k⟩
  show w_is_from_zero K c _ [some v] μ
  unfold w_is_from_zero
  walk_at "dx"
  refine ⟨v, rfl, hv, ?_⟩
  cases v <;> first | exact hv.elim | skip
  all_goals simp only [isInt]
  all_goals (try walk_at "dx")
  all_goals exact ret_eq k

theorem cal_is_from_zero (T : Txt K mg c) : DCal P w K mg base 2 "is_from_zero" (sp_is_from_zero c) [] := T.f_is_from_zero.cal (ps := ["value"]) sc_is_from_zero (len_is_from_zero c) (fun cdv A outer s H E hr => dv_is_from_zero T cdv A outer s H E hr) (rd_is_from_zero K c) fun _ _ _ _ _ _ us hl => match us, hl with | [_], _ => rfl
end
def sp_is_sequence (c : Cs) : DSp := fun ds μ Q => ∃ v : D, ds = [v] ∧ AnyV v ∧ Q (.bl (seqV v).isSome) μ
theorem len_is_sequence (c : Cs) : ∀ ds μ Q, sp_is_sequence c ds μ Q → ds.length = 1 := by
  rintro ds μ Q ⟨v, rfl, _⟩
  rfl

def w_is_sequence (K : PySem.W.Frag) (c : Cs) : WS := wRet (wCB oIsiS (wACons (wVar 0) (wACons (wTup (wACons (wC (.ty "list")) (wACons (wC (.ty "tuple")) (wANil)))) (wANil))))
section
variable {P : Program} {w : World} {K : PySem.W.Frag} {mg : Str → Option Value} {base : Heap} {c : Cs}
theorem dv_is_sequence (T : Txt K mg c) {f : Addr} (cdv : Value) (A : Around) (outer : List PySem.Env) (s : Shared) (H : Hp) (E : XK) (hr : Room 0 (A.deeper (PyProof.Rows.envOfC "is_sequence" (defScope s_is_sequence) s.heap.objs.size f cdv))) : DSs (cxOf CX0 P w K mg base N_is_sequence "is_sequence" (defScope s_is_sequence) f cdv A outer s H E).nox (defBody s_is_sequence) (w_is_sequence K c) := by
  have ND := sc_is_sequence.nd
  have hu := hu_of hr
  have hu64 := hr.units
  have hu65 := units65 hr
  exact dss_one (ds_ret (de_callB cs_isiS rfl T.b_isinstance (by decide +kernel) (da_cons (de_var (pv 0)) (da_cons (de_tup (da_cons (de_ty (n := "list") rfl T.b_list (by decide +kernel)) (da_cons (de_ty (n := "tuple") rfl T.b_tuple (by decide +kernel)) (da_nil)))) (da_nil)))))
theorem rd_is_sequence (K : PySem.W.Frag) (c : Cs) : ∀ ds μ Q, sp_is_sequence c ds μ Q → w_is_sequence K c { nx := fun _ μ' => ∃ μ2, Sub μ2 μ' ∧ Q .non μ2, rt := Q } (startD N_is_sequence ds) μ := by
  rintro ds μ Q ⟨v, rfl, hv, k⟩
  show w_is_sequence K c _ [some v] μ
  unfold w_is_sequence
  walk_at "dx"
  refine ⟨le_line (Nat.le_of_ble_eq_true rfl), v, _, rfl, rfl, ?_⟩
  cases v <;> first | exact hv.elim | exact ⟨_, rfl, ret_eq k⟩

theorem cal_is_sequence (T : Txt K mg c) : DCal P w K mg base 1 "is_sequence" (sp_is_sequence c) [] := T.f_is_sequence.cal (ps := ["value"]) sc_is_sequence (len_is_sequence c) (fun cdv A outer s H E hr => dv_is_sequence T cdv A outer s H E hr) (rd_is_sequence K c) fun _ _ _ _ _ _ us hl => match us, hl with | [_], _ => rfl
end
def sp_Way_xinit (c : Cs) : DSp := fun ds μ Q => ds.length = 4 ∧ False
theorem len_Way_xinit (c : Cs) : ∀ ds μ Q, sp_Way_xinit c ds μ Q → ds.length = 4 := fun _ _ _ h => h.1

def w_Way_xinit_t1 (K : PySem.W.Frag) (c : Cs) : WS := wSeq (wSetF K "how" (wVar 0) (wVar 1)) (wSeq (wSetF K "most" (wVar 0) (wVar 2)) (wSetF K "part" (wVar 0) (wIf (wB (wOp oIs (wVar 3) (wC .non))) (wC .non) (wCB oTuple (wACons (wCB oSorted (wACons (wLc (wiKeysF (wDcM (wiSeq (wVar 3)) (wgName 4) (wYes) (wVar 4) (wC (.bl true)) [4])) (wgName 4) (wYes) (wCB oInt (wACons (wVar 4) (wANil))) [4]) (wANil))) (wANil))))))
def w_Way_xinit_t2 (K : PySem.W.Frag) (c : Cs) : WS := wSeq (wIfS (wAnd (wB (wOp oIsNot (wVar 3) (wC .non))) (wNt (wAnd (wTrv (wCall (sp_is_sequence c) [] (wACons (wVar 3) (wANil)))) (wTrv (wCB oAll (wACons (wLc (wiSeq (wVar 3)) (wgName 4) (wYes) (wCall (sp_is_from_zero c) [] (wACons (wVar 4) (wANil))) [4]) (wANil))))))) (wNever) (wNext)) (w_Way_xinit_t1 K c)
def w_Way_xinit_t3 (K : PySem.W.Frag) (c : Cs) : WS := wSeq (wIfS (wAnd (wB (wOp oIsNot (wVar 2) (wC .non))) (wNt (wTrv (wCall (sp_is_from_zero c) [] (wACons (wVar 2) (wANil)))))) (wNever) (wNext)) (w_Way_xinit_t2 K c)
def w_Way_xinit (K : PySem.W.Frag) (c : Cs) : WS := wSeq (wIfS (wOr (wNt (wTrv (wCB oIsi (wACons (wVar 1) (wACons (wC (.ty "str")) (wANil)))))) (wB (wOp oNotIn (wVar 1) (wC (.tup [.str "add", .str "lose", .str "mixed"]))))) (wNever) (wNext)) (w_Way_xinit_t3 K c)
section
variable {P : Program} {w : World} {K : PySem.W.Frag} {mg : Str → Option Value} {base : Heap} {c : Cs}
theorem dv_Way_xinit (T : Txt K mg c) {f : Addr} (cdv : Value) (A : Around) (outer : List PySem.Env) (s : Shared) (H : Hp) (E : XK) (hr : Room 2 (A.deeper (PyProof.Rows.envOfC "Way.__init__" (defScope s_Way_xinit) s.heap.objs.size f cdv))) : DSs (cxOf CX0 P w K mg base N_Way_xinit "Way.__init__" (defScope s_Way_xinit) f cdv A outer s H E).nox (defBody s_Way_xinit) (w_Way_xinit K c) := by
  have ND := sc_Way_xinit.nd
  have hu := hu_of hr
  have hu64 := hr.units
  have hu65 := units65 hr
  exact dss_cons (ds_if (dt_w (dw_or (dt_not (dt_tru (de_callB cs_isi rfl T.b_isinstance (by decide +kernel) (da_cons (de_var (pv 1)) (da_cons (de_ty (n := "str") rfl T.b_str (by decide +kernel)) (da_nil)))) (fun _ => rfl))) (dw_or1 (dt_cmp os_notIn (de_var (pv 1)) (de_gt (ys := ["add", "lose", "mixed"]) T.c_HOWS) (by rfl))))) (dss_one (ds_never)) (dss_nil)) (dss_cons (ds_if (dt_w (dw_and (dt_cmp os_isNot (de_var (pv 2)) (de_non) (nomark _)) (dw_and1 (dt_not (dt_tru (de_cal (cal_is_from_zero T) hr (by decide) rfl (da_cons (de_var (pv 2)) (da_nil))) (fun _ => rfl)))))) (dss_one (ds_never)) (dss_nil)) (dss_cons (ds_if (dt_w (dw_and (dt_cmp os_isNot (de_var (pv 3)) (de_non) (nomark _)) (dw_and1 (dt_not (dt_w (dw_and (dt_tru (de_cal (cal_is_sequence T) hr (by decide) rfl (da_cons (de_var (pv 3)) (da_nil))) (fun _ => rfl)) (dw_and1 (dt_tru (de_callB (cs_all rfl) rfl T.b_all (by decide +kernel) (da_cons (de_lc (own := [("one", 4)]) (g := gName 4) rfl ND (di_seq (de_var (pv 3))) (blkOk_by (own := [("one", 4)]) (N := N_Way_xinit) (sc := defScope s_Way_xinit) (by decide +kernel)) (gp_name (by decide)) (fun _ _ _ _ _ => pg_name (i := 4) ND rfl (by first | exact Or.inl rfl | exact Or.inr rfl)) (fun _ _ _ _ _ => dts_nil) (fun _ _ _ _ _ => de_cal (cal_is_from_zero T) hr (by decide) rfl (da_cons (de_var (pv 4)) (da_nil)))) (da_nil))) (fun _ => rfl))))))))) (dss_one (ds_never)) (dss_nil)) (dss_cons (ds_fld (de_var (pv 0)) (de_var (pv 1))) (dss_cons (ds_fld (de_var (pv 0)) (de_var (pv 2))) (dss_one (ds_fld (de_var (pv 0)) (de_if (dt_cmp os_is (de_var (pv 3)) (de_non) (nomark _)) (de_non) (de_callTy cs_tuple rfl T.b_tuple (by decide +kernel) (da_cons (de_callB cs_sorted rfl T.b_sorted (by decide +kernel) (da_cons (de_lc (own := [("one", 4)]) (g := gName 4) rfl ND (di_keysF (de_dcM (own := [("one", 4)]) (g := gName 4) rfl ND (di_seq (de_var (pv 3))) (blkOk_by (own := [("one", 4)]) (N := N_Way_xinit) (sc := defScope s_Way_xinit) (by decide +kernel)) (gp_name (by decide)) (fun _ _ _ _ _ => pg_name (i := 4) ND rfl (by first | exact Or.inl rfl | exact Or.inr rfl)) (fun _ _ _ _ _ => dts_nil) (fun _ _ _ _ _ => de_var (pv 4)) (fun _ _ _ _ _ => de_bl))) (blkOk_by (own := [("one", 4)]) (N := N_Way_xinit) (sc := defScope s_Way_xinit) (by decide +kernel)) (gp_name (by decide)) (fun _ _ _ _ _ => pg_name (i := 4) ND rfl (by first | exact Or.inl rfl | exact Or.inr rfl)) (fun _ _ _ _ _ => dts_nil) (fun _ _ _ _ _ => de_callTy cs_int rfl T.b_int (by decide +kernel) (da_cons (de_var (pv 4)) (da_nil)))) (da_nil))) (da_nil))))))))))
theorem rd_Way_xinit (K : PySem.W.Frag) (c : Cs) : ∀ ds μ Q, sp_Way_xinit c ds μ Q → w_Way_xinit K c { nx := fun _ μ' => ∃ μ2, Sub μ2 μ' ∧ Q .non μ2, rt := Q } (startD N_Way_xinit ds) μ := by
  rintro ds μ Q ⟨_, h⟩
  exact h.elim

end
def spx_Way_xinit (c : Cs) : DSpX := fun ds μ Q R => ∃ (x : Addr) (hv mv pv : D), ds = [.ref x, hv, mv, pv] ∧ AnyV hv ∧ AnyV mv ∧ GoodP pv ∧ μ x = some (.ins c.Way []) ∧ (∀ fs, dueV hv mv pv = none → Q .non (setS μ x (.ins c.Way fs))) ∧ ∀ w, dueV hv mv pv = some w → R c.InvalidWay [("word", .str w)] μ
theorem lenx_Way_xinit (c : Cs) : ∀ ds μ Q R, spx_Way_xinit c ds μ Q R → ds.length = 4 := by
  rintro ds μ Q R ⟨x, hv, mv, pv, rfl, _⟩
  rfl

def wx_Way_xinit_t1 (K : PySem.W.Frag) (c : Cs) : WSx := xSeq (xIf (wAnd (wB (wOp oIsNot (wVar 3) (wC .non))) (wNt (wAnd (wTrv (wCall (sp_is_sequence c) [] (wACons (wVar 3) (wANil)))) (wTrv (wCB oAll (wACons (wLc (wiSeq (wVar 3)) (wgName 4) (wYes) (wCall (sp_is_from_zero c) [] (wACons (wVar 4) (wANil))) [4]) (wANil))))))) (xRaise1 c.InvalidWay "word" (wC (.str "part"))) (xN (wNext))) (xN (w_Way_xinit_t1 K c))
def wx_Way_xinit_t2 (K : PySem.W.Frag) (c : Cs) : WSx := xSeq (xIf (wAnd (wB (wOp oIsNot (wVar 2) (wC .non))) (wNt (wTrv (wCall (sp_is_from_zero c) [] (wACons (wVar 2) (wANil)))))) (xRaise1 c.InvalidWay "word" (wC (.str "most"))) (xN (wNext))) (wx_Way_xinit_t1 K c)
def wx_Way_xinit (K : PySem.W.Frag) (c : Cs) : WSx := xSeq (xIf (wOr (wNt (wTrv (wCB oIsi (wACons (wVar 1) (wACons (wC (.ty "str")) (wANil)))))) (wB (wOp oNotIn (wVar 1) (wC (.tup [.str "add", .str "lose", .str "mixed"]))))) (xRaise1 c.InvalidWay "word" (wC (.str "how"))) (xN (wNext))) (wx_Way_xinit_t2 K c)
section
variable {P : Program} {w : World} {K : PySem.W.Frag} {mg : Str → Option Value} {base : Heap} {c : Cs}
theorem dvx_Way_xinit (T : Txt K mg c) {f : Addr} (cdv : Value) (A : Around) (outer : List PySem.Env) (s : Shared) (H : Hp) (E : XK) (hr : Room 2 (A.deeper (PyProof.Rows.envOfC "Way.__init__" (defScope s_Way_xinit) s.heap.objs.size f cdv))) : XSs (cxOf (L2.CX P w) P w K mg base N_Way_xinit "Way.__init__" (defScope s_Way_xinit) f cdv A outer s H E) (WofE E) (defBody s_Way_xinit) (wx_Way_xinit K c) := by
  have ND := sc_Way_xinit.nd
  have hu := hu_of hr
  have hu64 := hr.units
  have hu65 := units65 hr
  exact xss_cons (xs_if (dt_w (dw_or (dt_not (dt_tru (de_callB cs_isi rfl T.b_isinstance (by decide +kernel) (da_cons (de_var (pv 1)) (da_cons (de_ty (n := "str") rfl T.b_str (by decide +kernel)) (da_nil)))) (fun _ => rfl))) (dw_or1 (dt_cmp os_notIn (de_var (pv 1)) (de_gt (ys := ["add", "lose", "mixed"]) T.c_HOWS) (by rfl))))) (xss_one (xs_raise1 rfl takesF (exc_InvalidWay T) hr (by decide) rfl (de_str))) (xss_of (dss_nil))) (xss_cons (xs_if (dt_w (dw_and (dt_cmp os_isNot (de_var (pv 2)) (de_non) (nomark _)) (dw_and1 (dt_not (dt_tru (de_cal (cal_is_from_zero T) hr (by decide) rfl (da_cons (de_var (pv 2)) (da_nil))) (fun _ => rfl)))))) (xss_one (xs_raise1 rfl takesF (exc_InvalidWay T) hr (by decide) rfl (de_str))) (xss_of (dss_nil))) (xss_cons (xs_if (dt_w (dw_and (dt_cmp os_isNot (de_var (pv 3)) (de_non) (nomark _)) (dw_and1 (dt_not (dt_w (dw_and (dt_tru (de_cal (cal_is_sequence T) hr (by decide) rfl (da_cons (de_var (pv 3)) (da_nil))) (fun _ => rfl)) (dw_and1 (dt_tru (de_callB (cs_all rfl) rfl T.b_all (by decide +kernel) (da_cons (de_lc (own := [("one", 4)]) (g := gName 4) rfl ND (di_seq (de_var (pv 3))) (blkOk_by (own := [("one", 4)]) (N := N_Way_xinit) (sc := defScope s_Way_xinit) (by decide +kernel)) (gp_name (by decide)) (fun _ _ _ _ _ => pg_name (i := 4) ND rfl (by first | exact Or.inl rfl | exact Or.inr rfl)) (fun _ _ _ _ _ => dts_nil) (fun _ _ _ _ _ => de_cal (cal_is_from_zero T) hr (by decide) rfl (da_cons (de_var (pv 4)) (da_nil)))) (da_nil))) (fun _ => rfl))))))))) (xss_one (xs_raise1 rfl takesF (exc_InvalidWay T) hr (by decide) rfl (de_str))) (xss_of (dss_nil))) (xss_of (dss_cons (ds_fld (de_var (pv 0)) (de_var (pv 1))) (dss_cons (ds_fld (de_var (pv 0)) (de_var (pv 2))) (dss_one (ds_fld (de_var (pv 0)) (de_if (dt_cmp os_is (de_var (pv 3)) (de_non) (nomark _)) (de_non) (de_callTy cs_tuple rfl T.b_tuple (by decide +kernel) (da_cons (de_callB cs_sorted rfl T.b_sorted (by decide +kernel) (da_cons (de_lc (own := [("one", 4)]) (g := gName 4) rfl ND (di_keysF (de_dcM (own := [("one", 4)]) (g := gName 4) rfl ND (di_seq (de_var (pv 3))) (blkOk_by (own := [("one", 4)]) (N := N_Way_xinit) (sc := defScope s_Way_xinit) (by decide +kernel)) (gp_name (by decide)) (fun _ _ _ _ _ => pg_name (i := 4) ND rfl (by first | exact Or.inl rfl | exact Or.inr rfl)) (fun _ _ _ _ _ => dts_nil) (fun _ _ _ _ _ => de_var (pv 4)) (fun _ _ _ _ _ => de_bl))) (blkOk_by (own := [("one", 4)]) (N := N_Way_xinit) (sc := defScope s_Way_xinit) (by decide +kernel)) (gp_name (by decide)) (fun _ _ _ _ _ => pg_name (i := 4) ND rfl (by first | exact Or.inl rfl | exact Or.inr rfl)) (fun _ _ _ _ _ => dts_nil) (fun _ _ _ _ _ => de_callTy cs_int rfl T.b_int (by decide +kernel) (da_cons (de_var (pv 4)) (da_nil)))) (da_nil))) (da_nil)))))))))))
theorem rd_Way_xinit_t1 {K : PySem.W.Frag} {c : Cs} (kf : Kf K c) {W : WEnds} {μ : Store} {x : Addr} {h : How} {most : Option Nat} {part : Option (List Nat)} {z : Option D} (hp : ∀ l, part = some l → l.length ≤ 500 ∧ ∀ i ∈ l, i < 1000) (hx : μ x = some (.ins c.Way []))
    (k : ∀ z, W.nx [some (.ref x), some (.str (howS h)), some (nD' most), some (paD part), z] (setS μ x (.ins c.Way [("how", .str (howS h)), ("most", nD' most), ("part", ptD (part.map nrm))]))) :
    w_Way_xinit_t1 K c W [some (.ref x), some (.str (howS h)), some (nD' most), some (paD part), z] μ := by
  unfold w_Way_xinit_t1
  simp only [wSeq, wSetF, wVar, getD_z, getD_s, hx]
  refine ⟨kf.o_Way_how, by decide, ?_⟩
  simp only [setS_same]
  refine ⟨kf.o_Way_most, (show (1 : Nat) < 1000 by decide), ?_⟩
  simp only [setS_setS]
  have e1 : (("how" : Str) = "most") = False := by decide +kernel
  have e2 : (("how" : Str) = "part") = False := by decide +kernel
  have e3 : (("most" : Str) = "part") = False := by decide +kernel
  have fin : ∀ (z : Option D) (μ2 : Store) (pt : D), μ2 = setS μ x (.ins c.Way [("how", .str (howS h)), ("most", nD' most)]) → ptD (part.map nrm) = pt → (match μ2 x with
      | some (.ins C fs) => FldOk K C "part" ∧ fs.length < 1000 ∧ W.nx [some (.ref x), some (.str (howS h)), some (nD' most), some (paD part), z] (setS μ2 x (.ins C (put fs "part" pt)))
      | _ => False) := fun z μ2 pt h1 h2 => by
    subst h1 h2
    simp only [setS_same]
    refine ⟨kf.o_Way_part, by simp, ?_⟩
    simp only [put, e2, e3, if_false, setS_setS]
    exact k z
  simp only [put, e1, if_false]
  cases part with
  | none =>
    simp only [paD]
    walk_at "dx"
    have := fin z _ _ rfl rfl
    simp only [setS_same] at this
    exact this
  | some l =>
    obtain ⟨hl1, hl2⟩ := hp l rfl
    simp only [paD]
    walk_at "dx"
    simp only [wiKeysF, wDcM]
    walk_at "dx"
    generalize hμ : setS μ x (Cell.ins c.Way [(("how" : Str), D.str (howS h)), ("most", nD' most)]) = μ1 at fin ⊢
    refine ⟨by rw [List.length_map]; exact le_line (by omega), fun L hL => ⟨fun i acc μ' => μ' = setS μ1 L (.dct acc) ∧ ∃ ks : List Nat, acc.map (·.1) = ks.map keyN ∧ ks.Nodup ∧ (∀ n, n ∈ ks ↔ n ∈ l.take i) ∧ acc.length ≤ i, ⟨rfl, [], rfl, List.nodup_nil, by simp, by simp⟩, ?_, ?_⟩⟩
    · rintro i d acc μ' hd hu ⟨rfl, ks, hk1, hk2, hk3, hk4⟩
      rw [List.getElem?_map] at hd
      cases hli : l[i]? with
      | none => rw [hli] at hd; cases hd
      | some n =>
        rw [hli] at hd
        cases hd
        have hil := (List.getElem?_eq_some_iff.mp hli).1
        have htk : l.take (i + 1) = l.take i ++ [n] := by rw [List.take_add_one, hli]; rfl
        show (wgName 4) (.int (n : Nat)) _ _ _
        walk_at "dx"
        refine ⟨keyN n, rfl, Nat.lt_of_lt_of_le (show acc.length < 600 by omega) (by decide), by rw [setS_setS], ?_⟩
        have hfst := putD_fst acc (keyN n) (.bl true)
        have hlen := putD_len acc (keyN n) (.bl true)
        rw [hk1] at hfst
        have hmem : keyN n ∈ ks.map keyN ↔ n ∈ ks := ⟨fun q => by obtain ⟨m, h1, h2⟩ := List.mem_map.mp q; rw [← keyN_inj h2]; exact h1, fun q => List.mem_map.mpr ⟨n, q, rfl⟩⟩
        by_cases hin : n ∈ ks
        · rw [if_pos (hmem.mpr hin)] at hfst
          refine ⟨ks, hfst, hk2, fun m => ?_, by omega⟩
          rw [htk, List.mem_append, List.mem_singleton, ← hk3]
          exact ⟨.inl, fun q => q.elim id fun e => by rw [e]; exact hin⟩
        · rw [if_neg (fun q => hin (hmem.mp q))] at hfst
          refine ⟨ks ++ [n], by rw [hfst, List.map_append]; rfl, ?_, fun m => ?_, by omega⟩
          · rw [List.nodup_append]
            refine ⟨hk2, by simp, ?_⟩
            intro a ha b hb
            rw [List.mem_singleton] at hb
            subst hb
            rintro rfl
            exact hin ha
          · rw [htk, List.mem_append, List.mem_singleton, List.mem_append, List.mem_singleton, ← hk3]
    · rintro acc μ' hu ⟨rfl, ks, hk1, hk2, hk3, hk4⟩
      rw [List.length_map, List.take_length] at hk3
      rw [List.length_map] at hk4
      simp only [setS_same]
      rw [delS_setS hL]
      have ek : (acc.map fun kv => keyV kv.1) = ks.map eNat.enc := by
        have : (acc.map fun kv => keyV kv.1) = (acc.map (·.1)).map keyV := by rw [List.map_map]; rfl
        rw [this, hk1, List.map_map]
        rfl
      rw [ek]
      have hkl : ks.length = acc.length := by have := congrArg List.length hk1; rw [List.length_map, List.length_map] at this; omega
      refine lc_map (fun d => d) (by rw [List.length_map]; exact le_line (by omega)) ?_ ?_
      · intro i d μ' R hd _ hR
        rw [List.getElem?_map] at hd
        cases hk : ks[i]? with
        | none => rw [hk] at hd; cases hd
        | some n =>
          rw [hk] at hd
          cases hd
          show (wgName 4) (.int (n : Nat)) _ _ _
          walk_at "dx"
          exact hR
      · intro L2 hL2
        rw [delS_setS hL2, List.map_id']
        have hints : intsD (ks.map eNat.enc) = some (ks.map fun (n : Nat) => (n : Int)) := by
          have h := intsD_map (ks.map fun (n : Nat) => (n : Int))
          rw [List.map_map] at h
          exact h
        simp only [oSorted, seqR, seqL, hints]
        intro ns' hperm hsort
        -- the sorted ints are naturals, and just the places
        obtain ⟨ms, rfl⟩ : ∃ ms : List Nat, ns' = ms.map fun (n : Nat) => (n : Int) := by
          refine ⟨ns'.map Int.toNat, ?_⟩
          rw [List.map_map]
          have : ∀ z ∈ ns', ((fun (n : Nat) => (n : Int)) ∘ Int.toNat) z = z := fun z hz => by
            obtain ⟨n, _, rfl⟩ := List.mem_map.mp (hperm.mem_iff.mp hz)
            rfl
          conv => lhs; rw [← List.map_id ns']
          exact (List.map_congr_left fun z hz => (this z hz).symm)
        have hmem : ∀ i, i ∈ ms ↔ i ∈ l := fun i => by
          rw [← hk3]
          constructor
          · intro q
            obtain ⟨n, h1, h2⟩ := List.mem_map.mp (hperm.mem_iff.mp (List.mem_map.mpr ⟨i, q, rfl⟩))
            rw [show i = n by omega]
            exact h1
          · intro q
            obtain ⟨n, h1, h2⟩ := List.mem_map.mp (hperm.mem_iff.mpr (List.mem_map.mpr ⟨i, q, rfl⟩))
            rw [show i = n by omega]
            exact h1
        have hnd : (ms.map fun (n : Nat) => (n : Int)).Nodup := hperm.nodup_iff.mpr (hk2.map _ (fun a b hab h => hab (by omega)))
        have hms : ms.Pairwise (· < ·) := by
          have h1 : ms.Pairwise (fun (a b : Nat) => (a : Int) ≤ (b : Int)) := List.pairwise_map.mp hsort
          have h2 : ms.Pairwise (fun (a b : Nat) => (a : Int) ≠ (b : Int)) := List.pairwise_map.mp hnd
          exact (h1.and h2).imp fun {a b} h => by omega
        have e : ms = nrm l := sorted_eq hms (nrm_sorted l) fun i => by rw [hmem, nrm_mem hl2]
        refine fin _ _ _ rfl ?_
        show ptD (some (nrm l)) = _
        rw [← e, List.map_map]
        rfl
theorem rd_Way_xinit_t1T {K : PySem.W.Frag} {c : Cs} (kf : Kf K c) {W : WEnds} {μ : Store} {x : Addr} {h : How} {most : Option Nat} {part : Option (List Nat)} {z : Option D} (hp : ∀ l, part = some l → l.length ≤ 500 ∧ ∀ i ∈ l, i < 1000) (hx : μ x = some (.ins c.Way []))
    (k : ∀ z, W.nx [some (.ref x), some (.str (howS h)), some (nD' most), some (tpD part), z] (setS μ x (.ins c.Way [("how", .str (howS h)), ("most", nD' most), ("part", ptD (part.map nrm))]))) :
    w_Way_xinit_t1 K c W [some (.ref x), some (.str (howS h)), some (nD' most), some (tpD part), z] μ := by
  unfold w_Way_xinit_t1
  simp only [wSeq, wSetF, wVar, getD_z, getD_s, hx]
  refine ⟨kf.o_Way_how, by decide, ?_⟩
  simp only [setS_same]
  refine ⟨kf.o_Way_most, (show (1 : Nat) < 1000 by decide), ?_⟩
  simp only [setS_setS]
  have e1 : (("how" : Str) = "most") = False := by decide +kernel
  have e2 : (("how" : Str) = "part") = False := by decide +kernel
  have e3 : (("most" : Str) = "part") = False := by decide +kernel
  have fin : ∀ (z : Option D) (μ2 : Store) (pt : D), μ2 = setS μ x (.ins c.Way [("how", .str (howS h)), ("most", nD' most)]) → ptD (part.map nrm) = pt → (match μ2 x with
      | some (.ins C fs) => FldOk K C "part" ∧ fs.length < 1000 ∧ W.nx [some (.ref x), some (.str (howS h)), some (nD' most), some (tpD part), z] (setS μ2 x (.ins C (put fs "part" pt)))
      | _ => False) := fun z μ2 pt h1 h2 => by
    subst h1 h2
    simp only [setS_same]
    refine ⟨kf.o_Way_part, by simp, ?_⟩
    simp only [put, e2, e3, if_false, setS_setS]
    exact k z
  simp only [put, e1, if_false]
  cases part with
  | none =>
    simp only [tpD]
    walk_at "dx"
    have := fin z _ _ rfl rfl
    simp only [setS_same] at this
    exact this
  | some l =>
    obtain ⟨hl1, hl2⟩ := hp l rfl
    simp only [tpD]
    walk_at "dx"
    simp only [wiKeysF, wDcM]
    walk_at "dx"
    generalize hμ : setS μ x (Cell.ins c.Way [(("how" : Str), D.str (howS h)), ("most", nD' most)]) = μ1 at fin ⊢
    refine ⟨by rw [List.length_map]; exact le_line (by omega), fun L hL => ⟨fun i acc μ' => μ' = setS μ1 L (.dct acc) ∧ ∃ ks : List Nat, acc.map (·.1) = ks.map keyN ∧ ks.Nodup ∧ (∀ n, n ∈ ks ↔ n ∈ l.take i) ∧ acc.length ≤ i, ⟨rfl, [], rfl, List.nodup_nil, by simp, by simp⟩, ?_, ?_⟩⟩
    · rintro i d acc μ' hd hu ⟨rfl, ks, hk1, hk2, hk3, hk4⟩
      rw [List.getElem?_map] at hd
      cases hli : l[i]? with
      | none => rw [hli] at hd; cases hd
      | some n =>
        rw [hli] at hd
        cases hd
        have hil := (List.getElem?_eq_some_iff.mp hli).1
        have htk : l.take (i + 1) = l.take i ++ [n] := by rw [List.take_add_one, hli]; rfl
        show (wgName 4) (.int (n : Nat)) _ _ _
        walk_at "dx"
        refine ⟨keyN n, rfl, Nat.lt_of_lt_of_le (show acc.length < 600 by omega) (by decide), by rw [setS_setS], ?_⟩
        have hfst := putD_fst acc (keyN n) (.bl true)
        have hlen := putD_len acc (keyN n) (.bl true)
        rw [hk1] at hfst
        have hmem : keyN n ∈ ks.map keyN ↔ n ∈ ks := ⟨fun q => by obtain ⟨m, h1, h2⟩ := List.mem_map.mp q; rw [← keyN_inj h2]; exact h1, fun q => List.mem_map.mpr ⟨n, q, rfl⟩⟩
        by_cases hin : n ∈ ks
        · rw [if_pos (hmem.mpr hin)] at hfst
          refine ⟨ks, hfst, hk2, fun m => ?_, by omega⟩
          rw [htk, List.mem_append, List.mem_singleton, ← hk3]
          exact ⟨.inl, fun q => q.elim id fun e => by rw [e]; exact hin⟩
        · rw [if_neg (fun q => hin (hmem.mp q))] at hfst
          refine ⟨ks ++ [n], by rw [hfst, List.map_append]; rfl, ?_, fun m => ?_, by omega⟩
          · rw [List.nodup_append]
            refine ⟨hk2, by simp, ?_⟩
            intro a ha b hb
            rw [List.mem_singleton] at hb
            subst hb
            rintro rfl
            exact hin ha
          · rw [htk, List.mem_append, List.mem_singleton, List.mem_append, List.mem_singleton, ← hk3]
    · rintro acc μ' hu ⟨rfl, ks, hk1, hk2, hk3, hk4⟩
      rw [List.length_map, List.take_length] at hk3
      rw [List.length_map] at hk4
      simp only [setS_same]
      rw [delS_setS hL]
      have ek : (acc.map fun kv => keyV kv.1) = ks.map eNat.enc := by
        have : (acc.map fun kv => keyV kv.1) = (acc.map (·.1)).map keyV := by rw [List.map_map]; rfl
        rw [this, hk1, List.map_map]
        rfl
      rw [ek]
      have hkl : ks.length = acc.length := by have := congrArg List.length hk1; rw [List.length_map, List.length_map] at this; omega
      refine lc_map (fun d => d) (by rw [List.length_map]; exact le_line (by omega)) ?_ ?_
      · intro i d μ' R hd _ hR
        rw [List.getElem?_map] at hd
        cases hk : ks[i]? with
        | none => rw [hk] at hd; cases hd
        | some n =>
          rw [hk] at hd
          cases hd
          show (wgName 4) (.int (n : Nat)) _ _ _
          walk_at "dx"
          exact hR
      · intro L2 hL2
        rw [delS_setS hL2, List.map_id']
        have hints : intsD (ks.map eNat.enc) = some (ks.map fun (n : Nat) => (n : Int)) := by
          have h := intsD_map (ks.map fun (n : Nat) => (n : Int))
          rw [List.map_map] at h
          exact h
        simp only [oSorted, seqR, seqL, hints]
        intro ns' hperm hsort
        -- the sorted ints are naturals, and just the places
        obtain ⟨ms, rfl⟩ : ∃ ms : List Nat, ns' = ms.map fun (n : Nat) => (n : Int) := by
          refine ⟨ns'.map Int.toNat, ?_⟩
          rw [List.map_map]
          have : ∀ z ∈ ns', ((fun (n : Nat) => (n : Int)) ∘ Int.toNat) z = z := fun z hz => by
            obtain ⟨n, _, rfl⟩ := List.mem_map.mp (hperm.mem_iff.mp hz)
            rfl
          conv => lhs; rw [← List.map_id ns']
          exact (List.map_congr_left fun z hz => (this z hz).symm)
        have hmem : ∀ i, i ∈ ms ↔ i ∈ l := fun i => by
          rw [← hk3]
          constructor
          · intro q
            obtain ⟨n, h1, h2⟩ := List.mem_map.mp (hperm.mem_iff.mp (List.mem_map.mpr ⟨i, q, rfl⟩))
            rw [show i = n by omega]
            exact h1
          · intro q
            obtain ⟨n, h1, h2⟩ := List.mem_map.mp (hperm.mem_iff.mpr (List.mem_map.mpr ⟨i, q, rfl⟩))
            rw [show i = n by omega]
            exact h1
        have hnd : (ms.map fun (n : Nat) => (n : Int)).Nodup := hperm.nodup_iff.mpr (hk2.map _ (fun a b hab h => hab (by omega)))
        have hms : ms.Pairwise (· < ·) := by
          have h1 : ms.Pairwise (fun (a b : Nat) => (a : Int) ≤ (b : Int)) := List.pairwise_map.mp hsort
          have h2 : ms.Pairwise (fun (a b : Nat) => (a : Int) ≠ (b : Int)) := List.pairwise_map.mp hnd
          exact (h1.and h2).imp fun {a b} h => by omega
        have e : ms = nrm l := sorted_eq hms (nrm_sorted l) fun i => by rw [hmem, nrm_mem hl2]
        refine fin _ _ _ rfl ?_
        show ptD (some (nrm l)) = _
        rw [← e, List.map_map]
        rfl
theorem rdx_Way_xinit (K : PySem.W.Frag) (c : Cs) (kf : Kf K c) : ∀ ds μ Q R, spx_Way_xinit c ds μ Q R → wx_Way_xinit K c (fun C fs _ μ' => ∃ μ2, Sub μ2 μ' ∧ R C fs μ2) { nx := fun _ μ' => ∃ μ2, Sub μ2 μ' ∧ Q .non μ2, rt := Q } (startD N_Way_xinit ds) μ := by
  rintro ds μ Q R ⟨x, hv, mv, pv, rfl, ah, am, gp, hx, q1, q2⟩
  show wx_Way_xinit K c _ _ [some (.ref x), some hv, some mv, some pv, none] μ
  unfold wx_Way_xinit
  have t2 : okHv hv = true → wx_Way_xinit_t2 K c (fun C fs _ μ' => ∃ μ2, Dl.Sub μ2 μ' ∧ R C fs μ2) { nx := fun _ μ' => ∃ μ2, Dl.Sub μ2 μ' ∧ Q .non μ2, rt := Q } [some (.ref x), some hv, some mv, some pv, none] μ := by
    intro h1
    unfold dueV at q1 q2
    rw [if_pos h1] at q1 q2
    have t1 : (isNon mv || okZ mv) = true → wx_Way_xinit_t1 K c (fun C fs _ μ' => ∃ μ2, Dl.Sub μ2 μ' ∧ R C fs μ2) { nx := fun _ μ' => ∃ μ2, Dl.Sub μ2 μ' ∧ Q .non μ2, rt := Q } [some (.ref x), some hv, some mv, some pv, none] μ := by
      intro h2
      rw [if_pos h2] at q1 q2
      have made : okPv pv = true → w_Way_xinit_t1 K c { nx := fun _ μ' => ∃ μ2, Dl.Sub μ2 μ' ∧ Q .non μ2, rt := Q } [some (.ref x), some hv, some mv, some pv, none] μ := by
        intro h3
        rw [if_pos h3] at q1
        obtain ⟨s, rfl⟩ : ∃ s, hv = .str s := by cases hv <;> first | exact ⟨_, rfl⟩ | simp [okHv] at h1
        obtain ⟨hh, rfl⟩ := how_of h1
        obtain ⟨m, rfl⟩ := most_of h2
        rcases part_of gp h3 with ⟨l, rfl, hl⟩ | ⟨l, rfl, hl⟩
        · exact rd_Way_xinit_t1 kf hl hx fun z => end_eq (q1 _ rfl)
        · exact rd_Way_xinit_t1T kf hl hx fun z => end_eq (q1 _ rfl)
      unfold wx_Way_xinit_t1
      walk_at "dx"
      have gs : okPv pv = false → ∃ μ2, Dl.Sub μ2 μ ∧ R c.InvalidWay [("word", .str "part")] μ2 := fun h => ⟨μ, Dl.Sub.refl _, q2 _ (by rw [if_neg (by rw [h]; simp)])⟩
      have seqs : ∀ xs, seqV pv = some xs → (pv = .lst xs ∨ pv = .tup xs) := fun xs h => by
        cases pv <;> first | (cases h; first | exact .inl rfl | exact .inr rfl) | cases h
      by_cases hn : pv = .non
      · subst hn
        try walk_at "dx"
        exact made rfl
      · have e0 : (match pv with | .non => false | _ => true) = true := by cases pv <;> first | exact absurd rfl hn | rfl
        have eN : isNon pv = false := by cases pv <;> first | exact absurd rfl hn | rfl
        rw [if_pos (by cases pv <;> first | exact absurd rfl hn | rfl)]
        refine ⟨pv, rfl, gp.any, ?_⟩
        cases hs : seqV pv with
        | none =>
          try walk_at "dx"
          exact gs (by unfold okPv; rw [eN, hs]; rfl)
        | some xs =>
          obtain ⟨g1, g2⟩ := gp.el xs hs
          have ep : okPv pv = xs.all okZ := by unfold okPv; rw [eN, hs]; rfl
          rw [ep] at made gs
          rcases seqs xs hs with rfl | rfl
          · try walk_at "dx"
            try simp only [Option.isSome]
            try walk_at "dx"
            refine lc_ix (xs.map fun e => .bl (okZ e)) (by simp) (le_line (by omega)) ?_ ?_
            · intro i d y μ' R' hd hy _ hR
              rw [List.getElem?_map, hd] at hy
              cases hy
              show (wgName 4) d _ _ _
              walk_at "dx"
              exact ⟨d, rfl, (g2 d (List.mem_of_getElem? hd)).1, hR⟩
            · intro L hL
              rw [delS_setS hL]
              have e2 : (xs.map fun e => D.bl (okZ e)) = (xs.map okZ).map D.bl := by rw [List.map_map]; rfl
              rw [e2]
              simp only [Option.bind_some, blsD_map]
              have e3 : (xs.map okZ).all id = xs.all okZ := by rw [List.all_map]; rfl
              rw [e3]
              cases ha : xs.all okZ with
              | true =>
                try walk_at "dx"
                exact made ha
              | false =>
                try walk_at "dx"
                exact gs ha
          · try walk_at "dx"
            try simp only [Option.isSome]
            try walk_at "dx"
            refine lc_ix (xs.map fun e => .bl (okZ e)) (by simp) (le_line (by omega)) ?_ ?_
            · intro i d y μ' R' hd hy _ hR
              rw [List.getElem?_map, hd] at hy
              cases hy
              show (wgName 4) d _ _ _
              walk_at "dx"
              exact ⟨d, rfl, (g2 d (List.mem_of_getElem? hd)).1, hR⟩
            · intro L hL
              rw [delS_setS hL]
              have e2 : (xs.map fun e => D.bl (okZ e)) = (xs.map okZ).map D.bl := by rw [List.map_map]; rfl
              rw [e2]
              simp only [Option.bind_some, blsD_map]
              have e3 : (xs.map okZ).all id = xs.all okZ := by rw [List.all_map]; rfl
              rw [e3]
              cases ha : xs.all okZ with
              | true =>
                try walk_at "dx"
                exact made ha
              | false =>
                try walk_at "dx"
                exact gs ha
    unfold wx_Way_xinit_t2
    walk_at "dx"
    by_cases hn : mv = .non
    · subst hn
      try walk_at "dx"
      exact t1 rfl
    · have eN : isNon mv = false := by cases mv <;> first | exact absurd rfl hn | rfl
      rw [if_pos (by cases mv <;> first | exact absurd rfl hn | rfl)]
      refine ⟨mv, rfl, am, ?_⟩
      rw [eN, Bool.false_or] at t1 q2
      cases ha : okZ mv with
      | true =>
        try walk_at "dx"
        exact t1 ha
      | false =>
        try walk_at "dx"
        exact ⟨μ, Dl.Sub.refl _, q2 _ (by rw [if_neg (by rw [ha]; simp)])⟩
  have bad : okHv hv = false → ∃ μ2, Dl.Sub μ2 μ ∧ R c.InvalidWay [("word", .str "how")] μ2 := fun h => ⟨μ, Dl.Sub.refl _, q2 _ (by unfold dueV; rw [if_neg (by rw [h]; simp)])⟩
  by_cases hs : ∃ s, hv = .str s
  · obtain ⟨s, rfl⟩ := hs
    have e : okHv (.str s) = inD (.str s) [.str "add", .str "lose", .str "mixed"] := rfl
    rw [e] at t2 bad
    walk_at "dx"
    try simp only [isTy]
    refine ⟨by decide, ?_⟩
    try simp
    refine ⟨rfl, ⟨rfl, rfl, rfl⟩, ?_⟩
    by_cases hq : inD (.str s) [.str "add", .str "lose", .str "mixed"] = true
    · rw [if_pos hq]; exact t2 hq
    · rw [if_neg hq]; exact bad (by simpa using hq)
  · have e : okHv hv = false := by cases hv <;> first | rfl | exact absurd ⟨_, rfl⟩ hs
    have bad' := bad e
    clear bad
    cases hv <;> first | exact ah.elim | exact absurd ⟨_, rfl⟩ hs | skip
    all_goals walk_at "dx"
    all_goals refine ⟨by decide, ?_⟩
    all_goals (try simp)
    all_goals exact bad'

theorem makx_Way_xinit_4 (T : Txt K mg c) : DMakX P w K mg base 3 "Way" c.Way (spx_Way_xinit c) [] := by
  obtain ⟨t0, D⟩ := T.f_Way_xinit
  exact D.makX T.k_Way sc_Way_xinit (lenx_Way_xinit c) (fun cdv A outer s H E hr => dvx_Way_xinit T cdv A outer s H E hr) (rdx_Way_xinit K c T.kf) (fun F => F.binds 4 (ps := ["self", "how", "most", "part"]) (ds := []) (by simp) rfl fun _ _ _ _ _ _ _ us hl => match us, hl with | [_, _, _, _], _ => ⟨_, rfl, rfl⟩) (dvs := []) (.nil) (fun _ => .nil)
end
def sp_law_heard (c : Cs) : DSp := fun ds μ Q => ∃ hv mv pv : D, ds = [hv, mv, pv] ∧ AnyV hv ∧ AnyV mv ∧ GoodP pv ∧ Q (match dueV hv mv pv with | none => .non | some w => .str w) μ
theorem len_law_heard (c : Cs) : ∀ ds μ Q, sp_law_heard c ds μ Q → ds.length = 3 := by
  rintro ds μ Q ⟨hv, mv, pv, rfl, _⟩
  rfl

def w_law_heard (K : PySem.W.Frag) (c : Cs) : WS := wSeq (wAsg (wC .non) (wgName 3)) (wSeq (wTryAs K c.InvalidWay 4 (xDrop (xMake c.Way (spx_Way_xinit c) [] (wACons (wVar 0) (wACons (wVar 1) (wACons (wVar 2) (wANil)))))) (fun a cls d => wAsg (wIf (wAnd (wTrv (wCB (oIsE K a cls d) (wACons (wVar 4) (wACons (wC (.ref c.StickError)) (wANil))))) (wNt (wTrv (wCB (oIsE K a cls d) (wACons (wVar 4) (wACons (wC (.ref c.InvalidRule)) (wANil))))))) (wXf K a cls d "word" (wVar 4)) (wC (.str "other"))) (wgName 3))) (wRet (wVar 3)))
section
variable {P : Program} {w : World} {K : PySem.W.Frag} {mg : Str → Option Value} {base : Heap} {c : Cs}
theorem dv_law_heard (T : Txt K mg c) {f : Addr} (cdv : Value) (A : Around) (outer : List PySem.Env) (s : Shared) (H : Hp) (E : XK) (hr : Room 4 (A.deeper (PyProof.Rows.envOfC "_law_heard" (defScope s_law_heard) s.heap.objs.size f cdv))) : DSs (cxOf CX0 P w K mg base N_law_heard "_law_heard" (defScope s_law_heard) f cdv A outer s H E).nox (defBody s_law_heard) (w_law_heard K c) := by
  have ND := sc_law_heard.nd
  have hu := hu_of hr
  have hu64 := hr.units
  have hu65 := units65 hr
  exact dss_cons (ds_set (i := 3) ND rfl (Or.inl rfl) (de_non)) (dss_cons (ds_tryAs rfl rfl ND rfl rfl ⟨rfl, by decide, .inl T.gx_InvalidWay⟩ (fun W pn xe tk po => xss_one (xs_expr (xe_mak tk (makx_Way_xinit_4 T) hr (by decide) rfl (da_cons (de_var (pv 0)) (da_cons (de_var (pv 1)) (da_cons (de_var (pv 2)) (da_nil))))))) (fun a oe cls d pn hz hfl => dss_one (ds_set (i := 3) ND rfl (Or.inl rfl) (de_if (dt_w (dw_and (dt_tru (de_callB (cs_isE hz hfl) rfl T.b_isinstance (by decide +kernel) (da_cons (de_var (pv 4)) (da_cons (de_ecls T.gx_StickError) (da_nil)))) (fun _ => rfl)) (dw_and1 (dt_not (dt_tru (de_callB (cs_isE hz hfl) rfl T.b_isinstance (by decide +kernel) (da_cons (de_var (pv 4)) (da_cons (de_ecls T.gx_InvalidRule) (da_nil)))) (fun _ => rfl)))))) (de_xf hz hfl (de_var (pv 4))) (de_str))))) (dss_one (ds_ret (de_var (pv 3)))))
theorem rd_law_heard (K : PySem.W.Frag) (c : Cs) (kf : Kf K c) : ∀ ds μ Q, sp_law_heard c ds μ Q → w_law_heard K c { nx := fun _ μ' => ∃ μ2, Sub μ2 μ' ∧ Q .non μ2, rt := Q } (startD N_law_heard ds) μ := by
  rintro ds μ Q ⟨hv, mv, pv, rfl, ah, am, gp, q⟩
  show w_law_heard K c _ [some hv, some mv, some pv, none, none] μ
  unfold w_law_heard
  walk_at "dx"
  simp only [xMake, wVar, getD_z, getD_s, wACons, wANil, List.cons_append, List.nil_append, List.append_nil]
  intro x hx
  refine ⟨x, hv, mv, pv, rfl, ah, am, gp, setS_same, fun fs hd => ⟨rfl, fs, setS_same, ?_⟩, fun w hd => ⟨kf.ex_InvalidWay, fun e d hd2 => ?_⟩⟩
  · rw [setS_setS, delS_setS hx]
    rw [hd] at q
    try walk_at "dx"
    exact ret_eq q
  · rw [hd] at q
    obtain ⟨dd, rfl⟩ : ∃ dd, d = some dd := by
      cases d with
      | none => exact absurd (hd2 rfl) (by simp)
      | some dd => exact ⟨dd, rfl⟩
    try walk_at "dx"
    refine ⟨c.InvalidWay, c.StickError, _, true, rfl, rfl, kf.x_InvalidWay, kf.ki_InvalidWay_StickError, ?_⟩
    try walk_at "dx"
    refine ⟨c.InvalidWay, c.InvalidRule, _, false, rfl, rfl, kf.x_InvalidWay, kf.ki_InvalidWay_InvalidRule, ?_⟩
    try walk_at "dx"
    simp only [wXf]
    try walk_at "dx"
    refine ⟨c.InvalidWay, dd, _, .str w, rfl, rfl, rfl, kf.x_InvalidWay, kf.nf_InvalidWay_word, rfl, ?_⟩
    exact ⟨_, _, .sub (Dl.Sub.set hx), q⟩

theorem cal_law_heard (T : Txt K mg c) : DCal P w K mg base 5 "_law_heard" (sp_law_heard c) [] := T.f_law_heard.cal (ps := ["_law_how", "_law_most", "_law_part"]) sc_law_heard (len_law_heard c) (fun cdv A outer s H E hr => dv_law_heard T cdv A outer s H E hr) (rd_law_heard K c T.kf) fun _ _ _ _ _ _ us hl => match us, hl with | [_, _, _], _ => rfl
end

def sp_law_take (c : Cs) : DSp := fun ds μ Q => ∃ (p : Addr) (n : Int) (d : List D), ds = [.ref p, .int n] ∧ μ p = some (.lst d) ∧ BoxV d ∧ (0 < n ∧ n < 1073741824) ∧ ∀ r d', 0 ≤ r → r < n → BoxV d' → Q (.int r) (setS μ p (.lst d'))
theorem len_law_take (c : Cs) : ∀ ds μ Q, sp_law_take c ds μ Q → ds.length = 2 := by
  rintro ds μ Q ⟨p, n, d, rfl, _⟩
  rfl

def w_law_take_t1 (K : PySem.W.Frag) (c : Cs) : WS := wSeq (wAsg (wOp oMul (wOp oAdd (wOp oMul (wVar 2) (wC (.int 2147483647))) (wIx (wVar 0) (wC (.int 1)))) (wOp oPow (wC (.int 2147483629)) (wC (.int 3)))) (wgName 3)) (wRet (wOp oMod (wCB oInt (wACons (wOp oAdd (wOp oAdd (wVar 3) (wOp oMul (wOp oPow (wIx (wVar 0) (wC (.int 1))) (wC (.int 3))) (wC (.int 8191)))) (wVar 2)) (wANil))) (wVar 1)))
def w_law_take_t2 (K : PySem.W.Frag) (c : Cs) : WS := wSeq (wAsg (wOp oAdd (wIx (wVar 0) (wC (.int 2))) (wC (.int 1))) (wgSub oSet (wVar 0) (wC (.int 2)))) (wSeq (wAsg (wOp oMod (wCB oInt (wACons (wOp oMul (wOp oAdd (wIx (wVar 0) (wC (.int 1))) (wOp oMul (wC (.int 104729)) (wIx (wVar 0) (wC (.int 2))))) (wC (.int 69623))) (wANil))) (wC (.int 2147483647))) (wgName 2)) (wSeq (wAsg (wOp oAdd (wOp oMod (wCB oInt (wACons (wOp oAdd (wOp oMul (wVar 2) (wC (.int 48271))) (wC (.int 30103))) (wANil))) (wC (.int 2147483629))) (wC (.int 1))) (wgSub oSet (wVar 0) (wC (.int 1)))) (wSeq (wIfS (wB (wOp oLt (wVar 1) (wOp oPow (wC (.int 2)) (wC (.int 40))))) (wRet (wOp oMod (wCB oInt (wACons (wOp oFdiv (wOp oAdd (wOp oMul (wVar 2) (wC (.int 2147483647))) (wIx (wVar 0) (wC (.int 1)))) (wC (.int 8191))) (wANil))) (wVar 1))) (wNext)) (w_law_take_t1 K c))))
def w_law_take (K : PySem.W.Frag) (c : Cs) : WS := wSeq (wIfS (wB (wOp oGt (wIx (wVar 0) (wC (.int 0))) (wC (.int 0)))) (wSeq (wAsg (wOp oMod (wCB oInt (wACons (wIx (wVar 0) (wC (.int 0))) (wANil))) (wVar 1)) (wgName 4)) (wSeq (wAsg (wOp oFdiv (wIx (wVar 0) (wC (.int 0))) (wVar 1)) (wgSub oSet (wVar 0) (wC (.int 0)))) (wRet (wVar 4)))) (wNext)) (w_law_take_t2 K c)
section
variable {P : Program} {w : World} {K : PySem.W.Frag} {mg : Str → Option Value} {base : Heap} {c : Cs}
theorem dv_law_take (T : Txt K mg c) {f : Addr} (cdv : Value) (A : Around) (outer : List PySem.Env) (s : Shared) (H : Hp) (E : XK) (hr : Room 0 (A.deeper (PyProof.Rows.envOfC "_law_take" (defScope s_law_take) s.heap.objs.size f cdv))) : DSs (cxOf CX0 P w K mg base N_law_take "_law_take" (defScope s_law_take) f cdv A outer s H E).nox (defBody s_law_take) (w_law_take K c) := by
  have ND := sc_law_take.nd
  have hu := hu_of hr
  have hu64 := hr.units
  have hu65 := units65 hr
  exact dss_cons (ds_if (dt_cmp os_gt (de_ix hu (de_var (pv 0)) (de_int) (fun _ _ => rfl)) (de_int) (nomark _)) (dss_cons (ds_set (i := 4) ND rfl (Or.inl rfl) (de_op os_mod (de_callTy cs_int rfl T.b_int (by decide +kernel) (da_cons (de_ix hu (de_var (pv 0)) (de_int) (fun _ _ => rfl)) (da_nil))) (de_var (pv 1)))) (dss_cons (ds_asg (de_op os_fdiv (de_ix hu (de_var (pv 0)) (de_int) (fun _ _ => rfl)) (de_var (pv 1))) (dg_sub (os_set hu) (de_var (pv 0)) (de_int))) (dss_one (ds_ret (de_var (pv 4)))))) (dss_nil)) (dss_cons (ds_asg (de_op os_add (de_ix hu (de_var (pv 0)) (de_int) (fun _ _ => rfl)) (de_int)) (dg_sub (os_set hu) (de_var (pv 0)) (de_int))) (dss_cons (ds_set (i := 2) ND rfl (Or.inl rfl) (de_op os_mod (de_callTy cs_int rfl T.b_int (by decide +kernel) (da_cons (de_op os_mul (de_op os_add (de_ix hu (de_var (pv 0)) (de_int) (fun _ _ => rfl)) (de_op os_mul (de_int) (de_ix hu (de_var (pv 0)) (de_int) (fun _ _ => rfl)))) (de_int)) (da_nil))) (de_int))) (dss_cons (ds_asg (de_op os_add (de_op os_mod (de_callTy cs_int rfl T.b_int (by decide +kernel) (da_cons (de_op os_add (de_op os_mul (de_var (pv 2)) (de_int)) (de_int)) (da_nil))) (de_int)) (de_int)) (dg_sub (os_set hu) (de_var (pv 0)) (de_int))) (dss_cons (ds_if (dt_cmp os_lt (de_var (pv 1)) (de_op os_pow (de_int) (de_int)) (nomark _)) (dss_one (ds_ret (de_op os_mod (de_callTy cs_int rfl T.b_int (by decide +kernel) (da_cons (de_op os_fdiv (de_op os_add (de_op os_mul (de_var (pv 2)) (de_int)) (de_ix hu (de_var (pv 0)) (de_int) (fun _ _ => rfl))) (de_int)) (da_nil))) (de_var (pv 1))))) (dss_nil)) (dss_cons (ds_set (i := 3) ND rfl (Or.inl rfl) (de_op os_mul (de_op os_add (de_op os_mul (de_var (pv 2)) (de_int)) (de_ix hu (de_var (pv 0)) (de_int) (fun _ _ => rfl))) (de_op os_pow (de_int) (de_int)))) (dss_one (ds_ret (de_op os_mod (de_callTy cs_int rfl T.b_int (by decide +kernel) (da_cons (de_op os_add (de_op os_add (de_var (pv 3)) (de_op os_mul (de_op os_pow (de_ix hu (de_var (pv 0)) (de_int) (fun _ _ => rfl)) (de_int)) (de_int))) (de_var (pv 2))) (da_nil))) (de_var (pv 1))))))))))

theorem rd_law_take_t2 {c : Cs} {μ : Store} {Q : D → Store → Prop} {R : Dl.Env → Store → Prop} {p : Addr} {n a s t : Int} (hp : μ p = some (.lst [.int a, .int s, .int t])) (ha : 0 ≤ a) (hs : 0 ≤ s ∧ s < 4294967296) (ht : 0 ≤ t) (hn : 0 < n ∧ n < 1073741824)
    (q : ∀ r d', 0 ≤ r → r < n → BoxV d' → Q (.int r) (setS μ p (.lst d'))) : w_law_take_t2 K c { nx := R, rt := Q } [some (.ref p), some (.int n), none, none, none] μ := by
  unfold w_law_take_t2
  walk_at "dx"
  simp only [hp, oAdd_int, at3_2, at3_1, List.length_cons, List.length_nil, Nat.zero_add, Nat.reduceAdd, ix3_2, ix3_1, setS_same, List.set_cons_succ, List.set_cons_zero, setS_setS]
  have h1 := em_lo (a := (s + 104729 * (t + 1)) * 69623) (b := 2147483647) (by decide)
  have h2 := em_hi (a := (s + 104729 * (t + 1)) * 69623) (b := 2147483647) (by decide)
  generalize (s + 104729 * (t + 1)) * 69623 % 2147483647 = raw at h1 h2 ⊢
  have h3 := em_lo (a := raw * 48271 + 30103) (b := 2147483629) (by decide)
  have h4 := em_hi (a := raw * 48271 + 30103) (b := 2147483629) (by decide)
  generalize (raw * 48271 + 30103) % 2147483629 = s2 at h3 h4 ⊢
  refine ⟨.inl (by decide), .inr (by decide), by decide, .inr (by decide), by decide, by decide, ?_⟩
  have e : n < (2 : Int) ^ (40 : Int).toNat := by
    have : (2 : Int) ^ (40 : Int).toNat = 1099511627776 := by decide
    omega
  rw [if_pos e]
  exact ⟨.inr (by decide), by decide, hn.1, ret_eq (q _ _ (em_lo hn.1) (em_hi hn.1) ⟨a, s2 + 1, t + 1, rfl, ha, ⟨by omega, by omega⟩, by omega⟩)⟩
theorem rd_law_take (K : PySem.W.Frag) (c : Cs) : ∀ ds μ Q, sp_law_take c ds μ Q → w_law_take K c { nx := fun _ μ' => ∃ μ2, Sub μ2 μ' ∧ Q .non μ2, rt := Q } (startD N_law_take ds) μ := by
  rintro ds μ Q ⟨p, n, d, rfl, hp, ⟨a, s, t, rfl, ha, hs, ht⟩, hn, q⟩
  show w_law_take K c _ [some _, some _, none, none, none] μ
  unfold w_law_take
  walk_at "dx"
  simp only [hp, at3_0, List.length_cons, List.length_nil, Nat.zero_add, Nat.reduceAdd, ix3_0, setS_same, List.set_cons_succ, List.set_cons_zero]
  split
  · exact ⟨hn.1, hn, ret_eq (q _ _ (em_lo hn.1) (em_hi hn.1) ⟨a / n, s, t, rfl, Int.ediv_nonneg ha (by omega), hs, ht⟩)⟩
  · exact rd_law_take_t2 hp ha hs ht hn q

theorem cal_law_take (T : Txt K mg c) : DCal P w K mg base 1 "_law_take" (sp_law_take c) [] := T.f_law_take.cal (ps := ["_law_box_here", "_law_bound"]) sc_law_take (len_law_take c) (fun cdv A outer s H E hr => dv_law_take T cdv A outer s H E hr) (rd_law_take K c) fun _ _ _ _ _ _ us hl => match us, hl with | [_, _], _ => rfl
end

def sp_law_pick (c : Cs) : DSp := fun ds μ Q => ∃ (p : Addr) (xs : List D) (d : List D), ds = [.ref p, .lst xs] ∧ μ p = some (.lst d) ∧ BoxV d ∧ (0 < xs.length ∧ xs.length < 1000000) ∧ ∀ x d', x ∈ xs → BoxV d' → Q x (setS μ p (.lst d'))
theorem len_law_pick (c : Cs) : ∀ ds μ Q, sp_law_pick c ds μ Q → ds.length = 2 := by
  rintro ds μ Q ⟨p, xs, d, rfl, _⟩
  rfl

def w_law_pick (K : PySem.W.Frag) (c : Cs) : WS := wRet (wIx (wVar 1) (wCall (sp_law_take c) [] (wACons (wVar 0) (wACons (wCB oLen (wACons (wVar 1) (wANil))) (wANil)))))
section
variable {P : Program} {w : World} {K : PySem.W.Frag} {mg : Str → Option Value} {base : Heap} {c : Cs}
theorem dv_law_pick (T : Txt K mg c) {f : Addr} (cdv : Value) (A : Around) (outer : List PySem.Env) (s : Shared) (H : Hp) (E : XK) (hr : Room 1 (A.deeper (PyProof.Rows.envOfC "_law_pick" (defScope s_law_pick) s.heap.objs.size f cdv))) : DSs (cxOf CX0 P w K mg base N_law_pick "_law_pick" (defScope s_law_pick) f cdv A outer s H E).nox (defBody s_law_pick) (w_law_pick K c) := by
  have ND := sc_law_pick.nd
  have hu := hu_of hr
  have hu64 := hr.units
  have hu65 := units65 hr
  exact dss_one (ds_ret (de_ix hu (de_var (pv 1)) (de_cal (cal_law_take T) hr (by decide) rfl (da_cons (de_var (pv 0)) (da_cons (de_callB cs_len rfl T.b_len (by decide +kernel) (da_cons (de_var (pv 1)) (da_nil))) (da_nil)))) (fun _ _ => rfl)))
theorem rd_law_pick (K : PySem.W.Frag) (c : Cs) : ∀ ds μ Q, sp_law_pick c ds μ Q → w_law_pick K c { nx := fun _ μ' => ∃ μ2, Sub μ2 μ' ∧ Q .non μ2, rt := Q } (startD N_law_pick ds) μ := by
  rintro ds μ Q ⟨p, xs, d, rfl, hp, hb, hl, q⟩
  show w_law_pick K c _ [some (.ref p), some (.lst xs)] μ
  unfold w_law_pick
  walk_at "dx"
  refine ⟨p, _, d, rfl, hp, hb, ⟨by omega, by omega⟩, fun r d' h1 h2 hb' => ?_⟩
  obtain ⟨j, rfl⟩ : ∃ j : Nat, r = (j : Int) := ⟨r.toNat, by omega⟩
  have hj : j < xs.length := by omega
  walk_at "dx"
  rw [atI_nat (List.getElem?_eq_getElem hj)]
  exact ret_eq (q _ _ (List.getElem_mem hj) hb')

theorem cal_law_pick (T : Txt K mg c) : DCal P w K mg base 2 "_law_pick" (sp_law_pick c) [] := T.f_law_pick.cal (ps := ["_law_box_here", "_law_items"]) sc_law_pick (len_law_pick c) (fun cdv A outer s H E hr => dv_law_pick T cdv A outer s H E hr) (rd_law_pick K c) fun _ _ _ _ _ _ us hl => match us, hl with | [_, _], _ => rfl
end
def sp_law_value (c : Cs) : DSp := fun ds μ Q => ∃ (p : Addr) (d : List D), ds = [.ref p] ∧ μ p = some (.lst d) ∧ BoxV d ∧ ∀ x d', x ∈ valsV → BoxV d' → Q x (setS μ p (.lst d'))
theorem len_law_value (c : Cs) : ∀ ds μ Q, sp_law_value c ds μ Q → ds.length = 1 := by
  rintro ds μ Q ⟨p, d, rfl, _⟩
  rfl

def w_law_value_t1 (K : PySem.W.Frag) (c : Cs) : WS := wRet (wCall (sp_law_pick c) [] (wACons (wVar 0) (wACons (wOp oAdd (wVar 1) (wLst (wACons (wVar 2) (wANil)))) (wANil))))
def w_law_value_b1 (K : PySem.W.Frag) (c : Cs) : WS := wAsg (wIf (wB (wOp oEq (wOp oMod (wVar 3) (wC (.int 2))) (wC (.int 0)))) (wLst (wACons (wVar 2) (wACons (wC (.int 1)) (wANil)))) (wTup (wACons (wVar 2) (wANil)))) (wgName 2)
def w_law_value (K : PySem.W.Frag) (c : Cs) : WS := wSeq (wAsg (wLst (wACons (wC (.int 0)) (wACons (wNeg (wC (.int 3))) (wACons (wOp oPow (wC (.int 10)) (wC (.int 9))) (wACons (wC (.str "")) (wACons (wC (.str ".")) (wACons (wC .non) (wACons (wC (.bl true)) (wACons (wC (.bl false)) (wACons (wLst (wANil)) (wACons (wLst (wACons (wC (.int 1)) (wACons (wC (.str "x")) (wANil)))) (wACons (wTup (wACons (wC (.str "x")) (wACons (wC .non) (wANil)))) (wACons (wTup (wANil)) (wACons (wC (.str "add")) (wACons (wC (.int 2)) (wACons (wC (.str "x y")) (wACons (wLst (wACons (wC (.str ".")) (wANil))) (wACons (wC (.str "X")) (wANil))))))))))))))))))) (wgName 1)) (wSeq (wAsg (wTup (wANil)) (wgName 2)) (wSeq (wFor (wiRng1 (wACons (wC (.int 7)) (wANil))) (wgName 3) (w_law_value_b1 K c)) (w_law_value_t1 K c)))
section
variable {P : Program} {w : World} {K : PySem.W.Frag} {mg : Str → Option Value} {base : Heap} {c : Cs}
theorem dv_law_value (T : Txt K mg c) {f : Addr} (cdv : Value) (A : Around) (outer : List PySem.Env) (s : Shared) (H : Hp) (E : XK) (hr : Room 2 (A.deeper (PyProof.Rows.envOfC "_law_value" (defScope s_law_value) s.heap.objs.size f cdv))) : DSs (cxOf CX0 P w K mg base N_law_value "_law_value" (defScope s_law_value) f cdv A outer s H E).nox (defBody s_law_value) (w_law_value K c) := by
  have ND := sc_law_value.nd
  have hu := hu_of hr
  have hu64 := hr.units
  have hu65 := units65 hr
  exact dss_cons (ds_set (i := 1) ND rfl (Or.inl rfl) (de_lst (da_cons (de_int) (da_cons (de_neg (de_int)) (da_cons (de_op os_pow (de_int) (de_int)) (da_cons (de_str) (da_cons (de_str) (da_cons (de_non) (da_cons (de_bl) (da_cons (de_bl) (da_cons (de_lst (da_nil)) (da_cons (de_lst (da_cons (de_int) (da_cons (de_str) (da_nil)))) (da_cons (de_tup (da_cons (de_str) (da_cons (de_non) (da_nil)))) (da_cons (de_tup (da_nil)) (da_cons (de_str) (da_cons (de_int) (da_cons (de_str) (da_cons (de_lst (da_cons (de_str) (da_nil))) (da_cons (de_str) (da_nil)))))))))))))))))))) (dss_cons (ds_set (i := 2) ND rfl (Or.inl rfl) (de_tup (da_nil))) (dss_cons (ds_for PassesOwn.never rfl (di_range1 rfl T.b_range (da_cons (de_int) (da_nil))) (dg_pat (vs := [3]) (g := gName 3) (pg_name (i := 3) ND rfl (by first | exact Or.inl rfl | exact Or.inr rfl)) (gp_name (by decide))) (dss_one (ds_set (i := 2) ND rfl (Or.inl rfl) (de_if (dt_cmp (os_eq hu64) (de_op os_mod (de_var (pv 3)) (de_int)) (de_int) (nomark _)) (de_lst (da_cons (de_var (pv 2)) (da_cons (de_int) (da_nil)))) (de_tup (da_cons (de_var (pv 2)) (da_nil))))))) (dss_one (ds_ret (de_cal (cal_law_pick T) hr (by decide) rfl (da_cons (de_var (pv 0)) (da_cons (de_op os_add (de_var (pv 1)) (de_lst (da_cons (de_var (pv 2)) (da_nil)))) (da_nil))))))))
theorem rd_law_value (K : PySem.W.Frag) (c : Cs) : ∀ ds μ Q, sp_law_value c ds μ Q → w_law_value K c { nx := fun _ μ' => ∃ μ2, Sub μ2 μ' ∧ Q .non μ2, rt := Q } (startD N_law_value ds) μ := by
  rintro ds μ Q ⟨p, d, rfl, hp, hb, q⟩
  show w_law_value K c _ [some (.ref p), none, none, none] μ
  unfold w_law_value
  walk_at "dx"
  refine ⟨by decide, ?_⟩
  repeat' (refine ⟨le_line (Nat.le_of_ble_eq_true rfl), ?_⟩)
  refine ⟨⟨by decide, by decide⟩, for_rng (fun i ρ μ' => i ≤ 7 ∧ μ' = μ ∧ ∃ z, ρ = [some (.ref p), some (.lst (valsV.take 17)), some (deepV i), z]) ⟨Nat.zero_le _, rfl, none, by rfl⟩ ?_ ?_⟩
  · rintro i ρ μ' hi ⟨_, rfl, z, rfl⟩
    unfold w_law_value_b1
    walk_at "dx"
    refine ⟨by decide, ?_⟩
    by_cases h2 : i % 2 = 0
    · rw [if_pos (by omega)]
      exact ⟨le_line (Nat.le_of_ble_eq_true rfl), by omega, some (.int (0 + (i : Nat))), by rw [deepV, if_pos h2]⟩
    · rw [if_neg (by omega)]
      exact ⟨le_line (Nat.le_of_ble_eq_true rfl), by omega, some (.int (0 + (i : Nat))), by rw [deepV, if_neg h2]⟩
  · rintro ρ μ' ⟨_, rfl, z, rfl⟩
    unfold w_law_value_t1
    walk_at "dx"
    refine ⟨le_line (Nat.le_of_ble_eq_true rfl), le_line (Nat.le_of_ble_eq_true rfl), p, _, d, rfl, hp, hb, ⟨by decide, by decide⟩, fun x d' hx hb' => ret_eq (q x d' hx hb')⟩

theorem cal_law_value (T : Txt K mg c) : DCal P w K mg base 3 "_law_value" (sp_law_value c) [] := T.f_law_value.cal (ps := ["_law_box_here"]) sc_law_value (len_law_value c) (fun cdv A outer s H E hr => dv_law_value T cdv A outer s H E hr) (rd_law_value K c) fun _ _ _ _ _ _ us hl => match us, hl with | [_], _ => rfl
end

def w_law_t1 (K : PySem.W.Frag) (c : Cs) : WS := wRet (wAndV (wOp oIs (wCall (sp_law_heard c) [] (wACons (wC (.str "add")) (wACons (wC (.int 0)) (wACons (wTup (wANil)) (wANil))))) (wC .non)) (wOp oEq (wCall (sp_law_heard c) [] (wACons (wC (.str "")) (wACons (wNeg (wC (.int 1))) (wACons (wC (.int 0)) (wANil))))) (wC (.str "how"))))
def w_law_t2 (K : PySem.W.Frag) (c : Cs) : WS := wIfS (wB (wOp oNe (wCall (sp_law_heard c) [] (wACons (wIx (wVar 4) (wC (.int 0))) (wACons (wIx (wVar 4) (wC (.int 1))) (wACons (wIx (wVar 4) (wC (.int 2))) (wANil))))) (wCall (sp_law_due c) [] (wACons (wIx (wVar 4) (wC (.int 0))) (wACons (wIx (wVar 4) (wC (.int 1))) (wACons (wIx (wVar 4) (wC (.int 2))) (wANil))))))) (wRet (wC (.bl false))) (wNext)
def w_law_b1 (K : PySem.W.Frag) (c : Cs) : WS := wSeq (wPar 7 8 (wACons (wCall (sp_law_take c) [] (wACons (wVar 2) (wACons (wC (.int 3)) (wANil)))) (wACons (wCall (sp_law_take c) [] (wACons (wVar 2) (wACons (wC (.int 4)) (wANil)))) (wANil)))) (wSeq (wAsg (wLst (wACons (wLst (wACons (wC (.str "Add")) (wACons (wC (.str "add ")) (wACons (wC (.str "adds")) (wACons (wC .non) (wACons (wC (.int 0)) (wANil))))))) (wACons (wLst (wACons (wNeg (wC (.int 1))) (wACons (wC (.bl true)) (wACons (wC (.str "2")) (wACons (wLst (wACons (wC (.int 1)) (wANil))) (wANil)))))) (wACons (wLst (wACons (wLst (wACons (wC (.int 0)) (wACons (wNeg (wC (.int 1))) (wANil)))) (wACons (wLst (wACons (wC .non) (wANil))) (wACons (wC (.str "01")) (wACons (wLst (wACons (wC (.bl true)) (wANil))) (wACons (wC (.int 3)) (wANil))))))) (wANil))))) (wgName 6)) (wAsg (wIf (wB (wOp oEq (wVar 8) (wC (.int 0)))) (wCall (sp_law_value c) [] (wACons (wVar 2) (wANil))) (wCall (sp_law_pick c) [] (wACons (wVar 2) (wACons (wIx (wVar 6) (wVar 7)) (wANil))))) (wgSub oSet (wVar 4) (wVar 7))))
def w_law_b2 (K : PySem.W.Frag) (c : Cs) : WS := wSeq (wAsg (wLstM (wACons (wCall (sp_law_pick c) [] (wACons (wVar 2) (wACons (wLst (wACons (wC (.str "add")) (wACons (wC (.str "lose")) (wACons (wC (.str "mixed")) (wANil))))) (wANil)))) (wACons (wCall (sp_law_pick c) [] (wACons (wVar 2) (wACons (wLst (wACons (wC .non) (wACons (wC (.int 0)) (wACons (wC (.int 3)) (wANil))))) (wANil)))) (wACons (wLst (wACons (wC (.int 0)) (wACons (wC (.int 2)) (wACons (wC (.int 2)) (wANil))))) (wANil))))) (wgName 4)) (wSeq (wFor (wiRng1 (wACons (wCall (sp_law_take c) [] (wACons (wVar 2) (wACons (wC (.int 3)) (wANil)))) (wANil))) (wgName 5) (w_law_b1 K c)) (w_law_t2 K c))
def w_law_b3 (K : PySem.W.Frag) (c : Cs) : WS := wSeq (wAsg (wCall (sp_law_box c) [] (wACons (wVar 0) (wACons (wVar 1) (wACons (wC (.int 3)) (wANil))))) (wgName 2)) (wFor (wiRng1 (wACons (wC (.int 14)) (wANil))) (wgName 3) (w_law_b2 K c))
def w_law (K : PySem.W.Frag) (c : Cs) : WS := wSeq (wFor (wiRng1 (wACons (wCB oMax (wACons (wC (.int 1)) (wACons (wCB oMin (wACons (wC (.int 3)) (wACons (wCB oLen (wACons (wVar 0) (wANil))) (wANil)))) (wANil)))) (wANil))) (wgName 1) (w_law_b3 K c)) (w_law_t1 K c)
section
variable {P : Program} {w : World} {K : PySem.W.Frag} {mg : Str → Option Value} {base : Heap} {c : Cs}
theorem dv_law (T : Txt K mg c) {f : Addr} (cdv : Value) (A : Around) (outer : List PySem.Env) (s : Shared) (H : Hp) (E : XK) (hr : Room 5 (A.deeper (PyProof.Rows.envOfC "law" (defScope s_law) s.heap.objs.size f cdv))) : DSs (cxOf CX0 P w K mg base N_law "law" (defScope s_law) f cdv A outer s H E).nox (defBody s_law) (w_law K c) := by
  have ND := sc_law.nd
  have hu := hu_of hr
  have hu64 := hr.units
  have hu65 := units65 hr
  exact dss_cons (ds_for PassesOwn.never rfl (di_range1 rfl T.b_range (da_cons (de_callB (cs_max rfl) rfl T.b_max (by decide +kernel) (da_cons (de_int) (da_cons (de_callB (cs_min rfl) rfl T.b_min (by decide +kernel) (da_cons (de_int) (da_cons (de_callB cs_len rfl T.b_len (by decide +kernel) (da_cons (de_var (pv 0)) (da_nil))) (da_nil)))) (da_nil)))) (da_nil))) (dg_pat (vs := [1]) (g := gName 1) (pg_name (i := 1) ND rfl (by first | exact Or.inl rfl | exact Or.inr rfl)) (gp_name (by decide))) (dss_cons (ds_set (i := 2) ND rfl (Or.inl rfl) (de_cal (cal_law_box T) hr (by decide) rfl (da_cons (de_var (pv 0)) (da_cons (de_var (pv 1)) (da_cons (de_int) (da_nil)))))) (dss_one (ds_for PassesOwn.never rfl (di_range1 rfl T.b_range (da_cons (de_int) (da_nil))) (dg_pat (vs := [3]) (g := gName 3) (pg_name (i := 3) ND rfl (by first | exact Or.inl rfl | exact Or.inr rfl)) (gp_name (by decide))) (dss_cons (ds_set (i := 4) ND rfl (Or.inl rfl) (de_lstM (da_cons (de_cal (cal_law_pick T) hr (by decide) rfl (da_cons (de_var (pv 2)) (da_cons (de_lst (da_cons (de_str) (da_cons (de_str) (da_cons (de_str) (da_nil))))) (da_nil)))) (da_cons (de_cal (cal_law_pick T) hr (by decide) rfl (da_cons (de_var (pv 2)) (da_cons (de_lst (da_cons (de_non) (da_cons (de_int) (da_cons (de_int) (da_nil))))) (da_nil)))) (da_cons (de_lst (da_cons (de_int) (da_cons (de_int) (da_cons (de_int) (da_nil))))) (da_nil)))))) (dss_cons (ds_for PassesOwn.never rfl (di_range1 rfl T.b_range (da_cons (de_cal (cal_law_take T) hr (by decide) rfl (da_cons (de_var (pv 2)) (da_cons (de_int) (da_nil)))) (da_nil))) (dg_pat (vs := [5]) (g := gName 5) (pg_name (i := 5) ND rfl (by first | exact Or.inl rfl | exact Or.inr rfl)) (gp_name (by decide))) (dss_cons (ds_par (i := 7) (j := 8) rfl ND rfl rfl (by decide) rfl rfl (da_cons (de_cal (cal_law_take T) hr (by decide) rfl (da_cons (de_var (pv 2)) (da_cons (de_int) (da_nil)))) (da_cons (de_cal (cal_law_take T) hr (by decide) rfl (da_cons (de_var (pv 2)) (da_cons (de_int) (da_nil)))) (da_nil))) (by rfl)) (dss_cons (ds_set (i := 6) ND rfl (Or.inl rfl) (de_lst (da_cons (de_lst (da_cons (de_str) (da_cons (de_str) (da_cons (de_str) (da_cons (de_non) (da_cons (de_int) (da_nil))))))) (da_cons (de_lst (da_cons (de_neg (de_int)) (da_cons (de_bl) (da_cons (de_str) (da_cons (de_lst (da_cons (de_int) (da_nil))) (da_nil)))))) (da_cons (de_lst (da_cons (de_lst (da_cons (de_int) (da_cons (de_neg (de_int)) (da_nil)))) (da_cons (de_lst (da_cons (de_non) (da_nil))) (da_cons (de_str) (da_cons (de_lst (da_cons (de_bl) (da_nil))) (da_cons (de_int) (da_nil))))))) (da_nil)))))) (dss_one (ds_asg (de_if (dt_cmp (os_eq hu64) (de_var (pv 8)) (de_int) (nomark _)) (de_cal (cal_law_value T) hr (by decide) rfl (da_cons (de_var (pv 2)) (da_nil))) (de_cal (cal_law_pick T) hr (by decide) rfl (da_cons (de_var (pv 2)) (da_cons (de_ix hu (de_var (pv 6)) (de_var (pv 7)) (fun _ _ => rfl)) (da_nil))))) (dg_sub (os_set hu) (de_var (pv 4)) (de_var (pv 7)))))))) (dss_one (ds_if (dt_cmp (os_ne hu64) (de_cal (cal_law_heard T) hr (by decide) rfl (da_cons (de_ix hu (de_var (pv 4)) (de_int) (fun _ _ => rfl)) (da_cons (de_ix hu (de_var (pv 4)) (de_int) (fun _ _ => rfl)) (da_cons (de_ix hu (de_var (pv 4)) (de_int) (fun _ _ => rfl)) (da_nil))))) (de_cal (cal_law_due T) hr (by decide) rfl (da_cons (de_ix hu (de_var (pv 4)) (de_int) (fun _ _ => rfl)) (da_cons (de_ix hu (de_var (pv 4)) (de_int) (fun _ _ => rfl)) (da_cons (de_ix hu (de_var (pv 4)) (de_int) (fun _ _ => rfl)) (da_nil))))) (nomark _)) (dss_one (ds_ret (de_bl))) (dss_nil))))))))) (dss_one (ds_ret (de_and (de_cmp os_is (de_cal (cal_law_heard T) hr (by decide) rfl (da_cons (de_str) (da_cons (de_int) (da_cons (de_tup (da_nil)) (da_nil))))) (de_non) (nomark _)) (de_one (de_cmp (os_eq hu64) (de_cal (cal_law_heard T) hr (by decide) rfl (da_cons (de_str) (da_cons (de_neg (de_int)) (da_cons (de_int) (da_nil))))) (de_str) (nomark _))))))

def deepP : Nat → PyData
  | 0 => .tuple []
  | n + 1 => if n % 2 = 0 then .list [deepP n, .int 1] else .tuple [deepP n]
theorem deep_py : ∀ n, pyD (deepV n) = some (deepP n)
  | 0 => by rw [deepV, pyD, pyDs]; rfl
  | n + 1 => by
    rw [deepV, deepP]
    by_cases h : n % 2 = 0
    · rw [if_pos h, if_pos h, pyD, pyDs, deep_py n, pyDs, pyD, pyDs]; rfl
    · rw [if_neg h, if_neg h, pyD, pyDs, deep_py n, pyDs]; rfl

structure GoodV (v : D) : Prop where
  any : AnyV v
  el : ∀ xs, seqV v = some xs → xs.length ≤ 500 ∧ ∀ e ∈ xs, (AnyV e ∧ (∀ i, e = .int i → i < 1000)) ∧ ∃ d, pyD e = some d ∧ d.canLay0 = true ∧ d.depth ≤ 20
theorem GoodV.p {v : D} (g : GoodV v) : GoodP v := ⟨g.any, fun xs h => ⟨(g.el xs h).1, fun e he => ((g.el xs h).2 e he).1⟩⟩
theorem GoodV.e {v : D} (g : GoodV v) : GoodE v := ⟨fun xs h e he => ((g.el xs h).2 e he).2⟩
theorem good_no {v : D} (h : AnyV v) (n : seqV v = none) : GoodV v := ⟨h, fun xs z => by rw [n] at z; cases z⟩
theorem good_l {xs : List D} (hl : xs.length ≤ 500) (k : ∀ e ∈ xs, (AnyV e ∧ (∀ i, e = .int i → i < 1000)) ∧ ∃ d, pyD e = some d ∧ d.canLay0 = true ∧ d.depth ≤ 20) : GoodV (.lst xs) := ⟨trivial, fun ys z => by cases z; exact ⟨hl, k⟩⟩
theorem good_t {xs : List D} (hl : xs.length ≤ 500) (k : ∀ e ∈ xs, (AnyV e ∧ (∀ i, e = .int i → i < 1000)) ∧ ∃ d, pyD e = some d ∧ d.canLay0 = true ∧ d.depth ≤ 20) : GoodV (.tup xs) := ⟨trivial, fun ys z => by cases z; exact ⟨hl, k⟩⟩
def itE (e : D) : Prop := (AnyV e ∧ (∀ i, e = .int i → i < 1000)) ∧ ∃ d, pyD e = some d ∧ d.canLay0 = true ∧ d.depth ≤ 20
theorem it_int {i : Int} (h : i < 1000) : itE (.int i) := ⟨⟨trivial, fun j z => by cases z; exact h⟩, .int i, by rw [pyD], by rw [PyData.canLay0], by rw [PyData.depth]; omega⟩
theorem it_non : itE .non := ⟨⟨trivial, fun j z => nomatch z⟩, .none, by rw [pyD], by rw [PyData.canLay0], by rw [PyData.depth]; omega⟩
theorem it_bl (b : Bool) : itE (.bl b) := ⟨⟨trivial, fun j z => nomatch z⟩, .bool b, by rw [pyD], by rw [PyData.canLay0], by rw [PyData.depth]; omega⟩
theorem it_str {s : Str} (h : s.length ≤ 100000 ∧ PyData.strOk s = true) : itE (.str s) := ⟨⟨h, fun j z => nomatch z⟩, .str s, by rw [pyD], by rw [PyData.canLay0]; exact h.2, by rw [PyData.depth]; omega⟩
theorem it_deep : itE (deepV 6) := ⟨⟨trivial, fun j z => nomatch z⟩, deepP 6, deep_py 6, by decide +kernel, by decide +kernel⟩
theorem vals_good : ∀ v ∈ valsV, GoodV v := by
  intro v hv
  have ha := valsV_any v hv
  simp only [valsV, List.mem_cons, List.not_mem_nil, or_false] at hv
  have sx : itE (.str "x") := it_str ⟨by decide +kernel, by decide +kernel⟩
  have sd : itE (.str ".") := it_str ⟨by decide +kernel, by decide +kernel⟩
  rcases hv with rfl | rfl | rfl | rfl | rfl | rfl | rfl | rfl | rfl | rfl | rfl | rfl | rfl | rfl | rfl | rfl | rfl | rfl
  · exact good_no ha rfl
  · exact good_no ha rfl
  · exact good_no ha rfl
  · exact good_no ha rfl
  · exact good_no ha rfl
  · exact good_no ha rfl
  · exact good_no ha rfl
  · exact good_no ha rfl
  · exact good_l (by decide) (fun e he => by cases he)
  · exact good_l (by decide : 2 ≤ 500) (fun e he => by
      rcases List.mem_cons.mp he with rfl | he
      · exact it_int (by decide)
      · rw [List.mem_singleton.mp he]; exact sx)
  · exact good_t (by decide : 2 ≤ 500) (fun e he => by
      rcases List.mem_cons.mp he with rfl | he
      · exact sx
      · rw [List.mem_singleton.mp he]; exact it_non)
  · exact good_t (by decide) (fun e he => by cases he)
  · exact good_no ha rfl
  · exact good_no ha rfl
  · exact good_no ha rfl
  · exact good_l (by decide : 1 ≤ 500) (fun e he => by rw [List.mem_singleton.mp he]; exact sd)
  · exact good_no ha rfl
  · exact good_l (xs := [deepV 6, .int 1]) (by decide : 2 ≤ 500) (fun e he => by
      rcases List.mem_cons.mp he with rfl | he
      · exact it_deep
      · rw [List.mem_singleton.mp he]; exact it_int (by decide))
theorem good_s {s : Str} (h : s.length ≤ 100000 ∧ PyData.strOk s = true) : GoodV (.str s) := good_no h rfl
theorem good_i {i : Int} : GoodV (.int i) := good_no trivial rfl
theorem good_n : GoodV .non := good_no trivial rfl
theorem good_b {b : Bool} : GoodV (.bl b) := good_no trivial rfl
theorem good_022 : GoodV (.lst [.int 0, .int 2, .int 2]) := good_l (by decide : 3 ≤ 500) fun e he => by
  simp only [List.mem_cons, List.not_mem_nil, or_false] at he
  rcases he with rfl | rfl | rfl <;> exact it_int (by decide)
theorem odds_good : ∀ (k : Nat), k < 3 → ∀ xs, ([.lst [.str "Add", .str "add ", .str "adds", .non, .int 0], .lst [.int (-1), .bl true, .str "2", .lst [.int 1]], .lst [.lst [.int 0, .int (-1)], .lst [.non], .str "01", .lst [.bl true], .int 3]] : List D)[k]? = some (.lst xs) → (0 < xs.length ∧ xs.length < 10) ∧ ∀ v ∈ xs, GoodV v := by
  intro k hk xs hx
  have hc : k = 0 ∨ k = 1 ∨ k = 2 := by omega
  rcases hc with rfl | rfl | rfl
  · cases hx
    refine ⟨⟨by decide, by decide⟩, fun v hv => ?_⟩
    simp only [List.mem_cons, List.not_mem_nil, or_false] at hv
    rcases hv with rfl | rfl | rfl | rfl | rfl <;> first | exact good_n | exact good_i | exact good_s ⟨by decide +kernel, by decide +kernel⟩
  · cases hx
    refine ⟨⟨by decide, by decide⟩, fun v hv => ?_⟩
    simp only [List.mem_cons, List.not_mem_nil, or_false] at hv
    rcases hv with rfl | rfl | rfl | rfl <;> first | exact good_b | exact good_i | exact good_s ⟨by decide +kernel, by decide +kernel⟩ | exact good_l (by decide : 1 ≤ 500) (fun e he => by rw [List.mem_singleton.mp he]; exact it_int (by decide))
  · cases hx
    refine ⟨⟨by decide, by decide⟩, fun v hv => ?_⟩
    simp only [List.mem_cons, List.not_mem_nil, or_false] at hv
    rcases hv with rfl | rfl | rfl | rfl | rfl
    · exact good_l (by decide : 2 ≤ 500) fun e he => by
        simp only [List.mem_cons, List.not_mem_nil, or_false] at he
        rcases he with rfl | rfl <;> exact it_int (by decide)
    · exact good_l (by decide : 1 ≤ 500) (fun e he => by rw [List.mem_singleton.mp he]; exact it_non)
    · exact good_s ⟨by decide +kernel, by decide +kernel⟩
    · exact good_l (by decide : 1 ≤ 500) (fun e he => by rw [List.mem_singleton.mp he]; exact it_bl true)
    · exact good_i
def St3 (p F : Addr) (μ : Store) : Prop := (∃ d, μ p = some (.lst d) ∧ BoxV d) ∧ F ≠ p ∧ ∃ v0 v1 v2, μ F = some (.lst [v0, v1, v2]) ∧ GoodV v0 ∧ GoodV v1 ∧ GoodV v2
def BoxAt (p : Addr) (μ : Store) : Prop := ∃ d, μ p = some (.lst d) ∧ BoxV d
theorem dueD_ne (h m p : D) (μ : Store) (P : D → Store → Prop) : oNe (dueD h m p) (dueD h m p) μ P = P (.bl false) μ := by
  unfold dueD
  cases dueV h m p with
  | none => rfl
  | some w => show P (.bl (!(w == w))) μ = _; simp
theorem rd_t2 {K : PySem.W.Frag} {c : Cs} {W : WEnds} {μ : Store} {p F : Addr} {a0 a1 a3 v5 v6 v7 v8 : Option D} (hb : St3 p F μ)
    (hn : ∀ μ' v3 v4 v5 v6 v7 v8, BoxAt p μ' → W.nx [a0, a1, some (.ref p), v3, v4, v5, v6, v7, v8] μ') : w_law_t2 K c W [a0, a1, some (.ref p), a3, some (.ref F), v5, v6, v7, v8] μ := by
  obtain ⟨hbx, hFp, x0, x1, x2, hF, g0, g1, g2⟩ := hb
  unfold w_law_t2
  walk_at "dx"
  simp only [hF]
  have i0 : atI [x0, x1, x2] 0 = some x0 := rfl
  have i1 : atI [x0, x1, x2] 1 = some x1 := rfl
  have i2 : atI [x0, x1, x2] 2 = some x2 := rfl
  rw [i0, i1, i2]
  dsimp only
  refine ⟨x0, x1, x2, rfl, g0.any, g1.any, g2.p, ?_⟩
  try walk_at "dx"
  try simp only [hF]
  try rw [i0, i1, i2]
  try dsimp only
  refine ⟨x0, x1, x2, rfl, g0.any, g1.any, g2.p, g2.e, ?_⟩
  show oNe (dueD x0 x1 x2) (dueD x0 x1 x2) μ _
  rw [dueD_ne]
  try simp only [Bool.false_eq_true, if_false]
  exact hn _ _  _  _  _  _  _ hbx
theorem rd_b1 {K : PySem.W.Frag} {c : Cs} {W : WEnds} {μ : Store} {p F : Addr} {a0 a1 a3 v5 v6 v7 v8 : Option D} (hb : St3 p F μ)
    (hn : ∀ μ' v5 v6 v7 v8, St3 p F μ' → W.nx [a0, a1, some (.ref p), a3, some (.ref F), v5, v6, v7, v8] μ') : w_law_b1 K c W [a0, a1, some (.ref p), a3, some (.ref F), v5, v6, v7, v8] μ := by
  obtain ⟨⟨d, hd, hv⟩, hFp, x0, x1, x2, hF, g0, g1, g2⟩ := hb
  unfold w_law_b1
  walk_at "dx"
  refine ⟨p, 3, d, rfl, hd, hv, by decide, fun r1 d1 h1 h2 hb1 => ?_⟩
  obtain ⟨k, rfl⟩ : ∃ n : Nat, r1 = (n : Int) := ⟨r1.toNat, by omega⟩
  have hk : k < 3 := by omega
  try walk_at "dx"
  refine ⟨p, 4, d1, rfl, setS_same, hb1, by decide, fun r2 d2 h3 h4 hb2 => ?_⟩
  have hF2 : setS (setS μ p (.lst d1)) p (.lst d2) F = some (.lst [x0, x1, x2]) := by rw [setS_ne hFp, setS_ne hFp]; exact hF
  have hp2 : setS (setS μ p (.lst d1)) p (.lst d2) p = some (.lst d2) := setS_same
  generalize setS (setS μ p (.lst d1)) p (.lst d2) = μ2 at hF2 hp2 ⊢
  try walk_at "dx"
  refine ⟨le_line (Nat.le_of_ble_eq_true rfl), le_line (Nat.le_of_ble_eq_true rfl), le_line (Nat.le_of_ble_eq_true rfl), le_line (Nat.le_of_ble_eq_true rfl), le_line (Nat.le_of_ble_eq_true rfl), le_line (Nat.le_of_ble_eq_true rfl), le_line (Nat.le_of_ble_eq_true rfl), le_line (Nat.le_of_ble_eq_true rfl), ?_⟩
  have hix : ixN [x0, x1, x2].length ((k : Nat) : Int) = some k := by
    unfold ixN
    have : [x0, x1, x2].length = 3 := rfl
    rw [this]
    simp
    omega
  have fin : ∀ (v : D) (d' : List D), GoodV v → BoxV d' → St3 p F (setS (setS μ2 p (.lst d')) F (.lst ([x0, x1, x2].set k v))) := fun v d' gv hb' => by
    refine ⟨⟨d', by rw [setS_ne (Ne.symm hFp)]; exact setS_same, hb'⟩, hFp, ?_⟩
    have hc : k = 0 ∨ k = 1 ∨ k = 2 := by omega
    rcases hc with rfl | rfl | rfl
    · exact ⟨v, x1, x2, setS_same, gv, g1, g2⟩
    · exact ⟨x0, v, x2, setS_same, g0, gv, g2⟩
    · exact ⟨x0, x1, v, setS_same, g0, g1, gv⟩
  have hF3 : ∀ d' : List D, setS μ2 p (.lst d') F = some (.lst [x0, x1, x2]) := fun d' => by rw [setS_ne hFp]; exact hF2
  split
  · refine ⟨p, d2, rfl, hp2, hb2, fun x d' hx hb' => ?_⟩
    simp only [hF3]
    rw [hix]
    exact hn _ _  _  _  _ (fin x d' (vals_good x hx) hb')
  · have ho := odds_good k hk
    have hc : k = 0 ∨ k = 1 ∨ k = 2 := by omega
    obtain ⟨xs, hxs⟩ : ∃ xs, ([.lst [.str "Add", .str "add ", .str "adds", .non, .int 0], .lst [.int (-1), .bl true, .str "2", .lst [.int 1]], .lst [.lst [.int 0, .int (-1)], .lst [.non], .str "01", .lst [.bl true], .int 3]] : List D)[k]? = some (.lst xs) := by
      rcases hc with rfl | rfl | rfl <;> exact ⟨_, rfl⟩
    obtain ⟨ho1, ho2⟩ := ho xs hxs
    rw [atI_nat hxs]
    dsimp only
    refine ⟨p, xs, d2, rfl, hp2, hb2, ⟨ho1.1, by omega⟩, fun x d' hx hb' => ?_⟩
    simp only [hF3]
    rw [hix]
    exact hn _ _  _  _  _ (fin x d' (ho2 x hx) hb')
theorem rd_b2 {K : PySem.W.Frag} {c : Cs} {W : WEnds} {μ : Store} {p : Addr} {a0 a1 v3 v4 v5 v6 v7 v8 : Option D} (hb : BoxAt p μ)
    (hn : ∀ μ' v3 v4 v5 v6 v7 v8, BoxAt p μ' → W.nx [a0, a1, some (.ref p), v3, v4, v5, v6, v7, v8] μ') : w_law_b2 K c W [a0, a1, some (.ref p), v3, v4, v5, v6, v7, v8] μ := by
  obtain ⟨d, hd, hv⟩ := hb
  unfold w_law_b2
  walk_at "dx"
  refine ⟨le_line (Nat.le_of_ble_eq_true rfl), p, _, d, rfl, hd, hv, ⟨by decide, by decide⟩, fun x d1 hx hb1 => ?_⟩
  try walk_at "dx"
  refine ⟨le_line (Nat.le_of_ble_eq_true rfl), p, _, d1, rfl, setS_same, hb1, ⟨by decide, by decide⟩, fun y d2 hy hb2 => ?_⟩
  try walk_at "dx"
  refine ⟨le_line (Nat.le_of_ble_eq_true rfl), le_line (Nat.le_of_ble_eq_true rfl), fun F hF => ?_⟩
  have hFp : F ≠ p := by rintro rfl; rw [setS_same] at hF; cases hF
  have gx : GoodV x := by
    simp only [List.mem_cons, List.not_mem_nil, or_false] at hx
    rcases hx with rfl | rfl | rfl <;> exact good_s ⟨by decide +kernel, by decide +kernel⟩
  have gy : GoodV y := by
    simp only [List.mem_cons, List.not_mem_nil, or_false] at hy
    rcases hy with rfl | rfl | rfl <;> first | exact good_n | exact good_i
  refine ⟨p, 3, d2, rfl, by rw [setS_ne (Ne.symm hFp)]; exact setS_same, hb2, by decide, fun r d3 h1 h2 hb3 => ?_⟩
  have hst : St3 p F (setS (setS (setS (setS μ p (.lst d1)) p (.lst d2)) F (.lst [x, y, .lst [.int 0, .int 2, .int 2]])) p (.lst d3)) := ⟨⟨d3, setS_same, hb3⟩, hFp, x, y, _, by rw [setS_ne hFp]; exact setS_same, gx, gy, good_022⟩
  generalize setS (setS (setS (setS μ p (.lst d1)) p (.lst d2)) F (.lst [x, y, .lst [.int 0, .int 2, .int 2]])) p (.lst d3) = μ3 at hst ⊢
  try walk_at "dx"
  refine ⟨by omega, for_rng (fun i ρ μ' => St3 p F μ' ∧ ∃ v5 v6 v7 v8, ρ = [a0, a1, some (.ref p), v3, some (.ref F), v5, v6, v7, v8]) ⟨hst, _, _, _, _, rfl⟩ ?_ ?_⟩
  · rintro i ρ μ' hi ⟨hs, v5, v6, v7, v8, rfl⟩
    show w_law_b1 K c _ [_, _, _, _, _, _, _, _, _] μ'
    exact rd_b1 hs fun μ6 v5 v6 v7 v8 h6 => ⟨h6, _, _, _, _, rfl⟩
  · rintro ρ μ' ⟨hs, v5, v6, v7, v8, rfl⟩
    exact rd_t2 (K := K) hs hn
theorem rd_law (K : PySem.W.Frag) (c : Cs) : ∀ ds μ Q, spL ds μ Q → w_law K c { nx := fun _ μ' => ∃ μ2, Sub μ2 μ' ∧ Q .non μ2, rt := Q } (startD N_law ds) μ := by
  rintro ds μ Q ⟨ns, rfl, hns, k⟩
  show w_law K c _ [some (.scr (ns.map .int)), none, none, none, none, none, none, none, none] μ
  unfold w_law
  walk_at "dx"
  rw [List.length_map]
  generalize hn : (if (if ((ns.length : Nat) : Int) < 3 then ((ns.length : Nat) : Int) else 3) > 1 then (if ((ns.length : Nat) : Int) < 3 then ((ns.length : Nat) : Int) else 3) else 1) = n
  have hn3 : 0 ≤ n ∧ n ≤ 3 := by rw [← hn]; constructor <;> (split <;> (try split) <;> omega)
  refine ⟨by omega, for_rng (fun i ρ μ' => i ≤ n.toNat ∧ ∃ v1 v2 v3 v4 v5 v6 v7 v8, ρ = [some (.scr (ns.map .int)), v1, v2, v3, v4, v5, v6, v7, v8]) ⟨Nat.zero_le _, _, _, _, _, _, _, _, _, rfl⟩ ?_ ?_⟩
  · rintro i ρ μ' hi ⟨_, v1, v2, v3, v4, v5, v6, v7, v8, rfl⟩
    show w_law_b3 K c _ [some (.scr (ns.map .int)), some (.int (0 + (i : Nat))), v2, v3, v4, v5, v6, v7, v8] μ'
    unfold w_law_b3
    walk_at "dx"
    refine ⟨ns, _, 3, rfl, by omega, by decide, fun p d hp hb => ?_⟩
    try walk_at "dx"
    refine ⟨⟨by decide, by decide⟩, for_rng (fun t ρ μ' => BoxAt p μ' ∧ ∃ v3 v4 v5 v6 v7 v8, ρ = [some (.scr (ns.map .int)), some (.int (0 + (i : Nat))), some (.ref p), v3, v4, v5, v6, v7, v8]) ⟨⟨d, setS_same, hb⟩, _, _, _, _, _, _, rfl⟩ ?_ ?_⟩
    · rintro t ρ μ2 ht ⟨hb2, v3, v4, v5, v6, v7, v8, rfl⟩
      show w_law_b2 K c _ [_, _, _, _, _, _, _, _, _] μ2
      exact rd_b2 hb2 fun μ3 v3 v4 v5 v6 v7 v8 h => ⟨h, _, _, _, _, _, _, rfl⟩
    · rintro ρ μ2 ⟨hb2, v3, v4, v5, v6, v7, v8, rfl⟩
      exact ⟨by omega, _, _, _, _, _, _, _, _, rfl⟩
  · rintro ρ μ' ⟨_, v1, v2, v3, v4, v5, v6, v7, v8, rfl⟩
    unfold w_law_t1
    walk_at "dx"
    refine ⟨le_line (Nat.le_of_ble_eq_true rfl), .str "add", .int 0, .tup [], rfl, ⟨by decide +kernel, by decide +kernel⟩, trivial, (good_t (xs := []) (by decide) (fun e he => by cases he)).p, ?_⟩
    rw [show dueV (.str "add") (.int 0) (.tup []) = none by decide +kernel]
    try walk_at "dx"
    refine ⟨.str "", .int (-1), .int 0, rfl, ⟨by decide +kernel, by decide +kernel⟩, trivial, good_i.p, ?_⟩
    rw [show dueV (.str "") (.int (-1)) (.int 0) = some "how" by decide +kernel]
    try walk_at "dx"
    try simp only [BEq.rfl]
    exact ret_eq (k _)

end

/-! ### what the top has written, and the head -/
theorem all_mk {l : PySem.W.OpenLaw} {w : World} {K : PySem.W.Frag} {h : Heap} {mg : Str → Option Value} {fa : Addr} (X : K.In h) (G : h.Ns mainGlobals mg) (hfa : mg "law" = some (.ref fa))
    {Tq_HOWS : Addr} {ddq_HOWS : Option Addr} {nq_HOWS : Nat} {slq_HOWS : Array (Option Value)} {tq_HOWS_0 : Tok} {tq_HOWS_1 : Tok} {tq_HOWS_2 : Tok}
    {A_Way : Addr}
    {A_InvalidRule : Addr}
    {A_InvalidWay : Addr}
    {A_StickError : Addr}
    {onm_InvalidWay oq_InvalidWay : Str} {oN_InvalidWay : Addr} {obs_InvalidWay obm_InvalidWay : List Value} {osn_InvalidWay : List Str} {osub_InvalidWay : List Value} {oab_InvalidWay : Bool} {ocol_InvalidWay : Option Bool} {odd_InvalidWay : Option Addr} {ok0_InvalidWay ok1_InvalidWay ok2_InvalidWay ok3_InvalidWay ok5_InvalidWay : Option Value}
    {ef_InvalidWay : Addr} {eod_InvalidWay ean_InvalidWay : Option Addr} {esl_InvalidWay : Array (Option Value)} {eoc_InvalidWay ekV_InvalidWay edc_InvalidWay epm_InvalidWay ecd_InvalidWay ect_InvalidWay : Value}
    {f0 : Addr} {od0 an0 : Option Addr} {sl0 : Array (Option Value)} {oc0 kV0 dc0 pm0 cd0 ct0 : Value}
    {f1 : Addr} {od1 an1 : Option Addr} {sl1 : Array (Option Value)} {oc1 kV1 dc1 pm1 cd1 ct1 : Value}
    {f2 : Addr} {od2 an2 : Option Addr} {sl2 : Array (Option Value)} {oc2 kV2 dc2 pm2 cd2 ct2 : Value}
    {f3 : Addr} {od3 an3 : Option Addr} {sl3 : Array (Option Value)} {oc3 kV3 dc3 pm3 cd3 ct3 : Value}
    {f4 : Addr} {od4 an4 : Option Addr} {sl4 : Array (Option Value)} {oc4 kV4 dc4 pm4 cd4 ct4 : Value}
    {f5 : Addr} {od5 an5 : Option Addr} {sl5 : Array (Option Value)} {oc5 kV5 dc5 pm5 cd5 ct5 : Value}
    {f6 : Addr} {od6 an6 : Option Addr} {sl6 : Array (Option Value)} {oc6 kV6 dc6 pm6 cd6 ct6 : Value}
    {T6 : Addr} {tc6 : Value} {td6 : Option Addr} {tn6 : Nat} {tsl6 : Array (Option Value)} {d6t0 : Tok}
    {f7 : Addr} {od7 an7 : Option Addr} {sl7 : Array (Option Value)} {oc7 kV7 dc7 pm7 cd7 ct7 : Value}
    {f8 : Addr} {od8 an8 : Option Addr} {sl8 : Array (Option Value)} {oc8 kV8 dc8 pm8 cd8 ct8 : Value}
    {f9 : Addr} {od9 an9 : Option Addr} {sl9 : Array (Option Value)} {oc9 kV9 dc9 pm9 cd9 ct9 : Value}
    {f10 : Addr} {od10 an10 : Option Addr} {sl10 : Array (Option Value)} {oc10 kV10 dc10 pm10 cd10 ct10 : Value}
    {f11 : Addr} {od11 an11 : Option Addr} {sl11 : Array (Option Value)} {oc11 kV11 dc11 pm11 cd11 ct11 : Value}
    (z_abs : PySem.W.nsIn K mainGlobals "abs" = some none)
    (z_all : PySem.W.nsIn K mainGlobals "all" = some none)
    (z_bool : PySem.W.nsIn K mainGlobals "bool" = some none)
    (z_int : PySem.W.nsIn K mainGlobals "int" = some none)
    (z_isinstance : PySem.W.nsIn K mainGlobals "isinstance" = some none)
    (z_len : PySem.W.nsIn K mainGlobals "len" = some none)
    (z_list : PySem.W.nsIn K mainGlobals "list" = some none)
    (z_max : PySem.W.nsIn K mainGlobals "max" = some none)
    (z_min : PySem.W.nsIn K mainGlobals "min" = some none)
    (z_range : PySem.W.nsIn K mainGlobals "range" = some none)
    (z_sorted : PySem.W.nsIn K mainGlobals "sorted" = some none)
    (z_str : PySem.W.nsIn K mainGlobals "str" = some none)
    (z_tuple : PySem.W.nsIn K mainGlobals "tuple" = some none)
    (q_HOWS : PySem.W.nsIn K mainGlobals "HOWS" = some (some (.ref Tq_HOWS))) (lq_HOWS : K.lookup Tq_HOWS = some ⟨.type "tuple", ddq_HOWS, .seq #[.str "add" tq_HOWS_0, .str "lose" tq_HOWS_1, .str "mixed" tq_HOWS_2] nq_HOWS, slq_HOWS⟩)
    (aC_Way : PySem.W.nsIn K mainGlobals "Way" = some (some (.ref A_Way)))
    (pg_Way : PySem.W.plainGet K A_Way Str.empty = true)
    (hd_Way : PySem.W.hasDictIn K A_Way = true)
    (po_Way : PySem.W.plainOver K A_Way = true)
    (sa_Way : PySem.W.findIn K (.ref A_Way) "__setattr__" = some (some (.builtin "object.__setattr__")))
    (mk_Way : PySem.W.makesIn K A_Way = true)
    (kc_Way : PySem.W.keepIn K (.ref A_Way) = true)
    (nf_Way_how : PySem.W.findIn K (.ref A_Way) "how" = some none)
    (nf_Way_most : PySem.W.findIn K (.ref A_Way) "most" = some none)
    (nf_Way_part : PySem.W.findIn K (.ref A_Way) "part" = some none)
    (gx_InvalidRule : PySem.W.nsIn K mainGlobals "InvalidRule" = some (some (.ref A_InvalidRule)))
    (xd_InvalidRule : PySem.W.hasDictIn K A_InvalidRule = true)
    (xt_InvalidRule : PySem.W.typeIn K (.ref A_InvalidRule) = some (.type "type"))
    (xb_InvalidRule : PySem.W.subIn K (.ref A_InvalidRule) (.type "BaseException") = some true)
    (gx_InvalidWay : PySem.W.nsIn K mainGlobals "InvalidWay" = some (some (.ref A_InvalidWay)))
    (xd_InvalidWay : PySem.W.hasDictIn K A_InvalidWay = true)
    (xt_InvalidWay : PySem.W.typeIn K (.ref A_InvalidWay) = some (.type "type"))
    (xb_InvalidWay : PySem.W.subIn K (.ref A_InvalidWay) (.type "BaseException") = some true)
    (gx_StickError : PySem.W.nsIn K mainGlobals "StickError" = some (some (.ref A_StickError)))
    (xd_StickError : PySem.W.hasDictIn K A_StickError = true)
    (xt_StickError : PySem.W.typeIn K (.ref A_StickError) = some (.type "type"))
    (xb_StickError : PySem.W.subIn K (.ref A_StickError) (.type "BaseException") = some true)
    (xa_InvalidWay : PySem.W.findIn K (.ref A_InvalidWay) "__getattribute__" = some (some (.builtin "BaseException.__getattribute__")))
    (xk_InvalidWay : PySem.W.findIn K (.ref A_InvalidWay) "__getattr__" = some none)
    (xl_InvalidWay : PySem.W.findIn K (.ref A_InvalidWay) "__class__" = some (some (.builtin "object.__class__")))
    (xn_InvalidWay : PySem.W.specialIn K (.builtin "object.__class__") "__get__" = some (some (.builtin "getset_descriptor.__get__")))
    (xq_InvalidWay : PySem.W.takesIn K (.builtin "object.__class__") = some true)
    (xm_InvalidWay : PySem.W.mroIn K A_InvalidWay (.type "object") = some true)
    (xs_InvalidWay : PySem.W.subIn K (.ref A_InvalidWay) (.ref A_InvalidWay) = some true)
    (su_InvalidWay_InvalidRule : PySem.W.subIn K (.ref A_InvalidWay) (.ref A_InvalidRule) = some false)
    (ne_InvalidWay_InvalidRule : A_InvalidWay ≠ A_InvalidRule)
    (su_InvalidWay_StickError : PySem.W.subIn K (.ref A_InvalidWay) (.ref A_StickError) = some true)
    (nf_InvalidWay_word : PySem.W.findIn K (.ref A_InvalidWay) "word" = some none)
    (v1 : PySem.W.specialIn K (.ref A_StickError) "__getattribute__" = some (some (.builtin "type.__getattribute__"))) (v2 : PySem.W.readsIn K A_StickError (.type "type") = true) (v3 : PySem.W.findCls K (.ref A_StickError) (.type "type") "__init__" = some (.val (.builtin "ValueError.__init__")))
    (ol_InvalidWay : K.lookup A_InvalidWay = some (excClassObj onm_InvalidWay oq_InvalidWay A_InvalidWay oN_InvalidWay obs_InvalidWay obm_InvalidWay true osn_InvalidWay osub_InvalidWay oab_InvalidWay ocol_InvalidWay odd_InvalidWay ok0_InvalidWay ok1_InvalidWay ok2_InvalidWay ok3_InvalidWay ok5_InvalidWay "ValueError.__new__")) (or_InvalidWay : PySem.HandSPX.refsVE obm_InvalidWay = true) (os_InvalidWay : PySem.W.findIn K (.ref A_InvalidWay) "__setattr__" = some (some (.builtin "object.__setattr__"))) (ok_InvalidWay : PySem.W.keepIn K (.ref A_InvalidWay) = true)
    (ei_InvalidWay : PySem.W.findIn K (.ref A_InvalidWay) "__init__" = some (some (.ref ef_InvalidWay))) (et_InvalidWay : PySem.W.typeIn K (.ref ef_InvalidWay) = some (.type "function")) (el_InvalidWay : K.lookup ef_InvalidWay = some ⟨eoc_InvalidWay, eod_InvalidWay, .func (PySem.W.fnOf "__init__" "InvalidWay.__init__" (defArgs s_InvalidWay_xinit) (defBody s_InvalidWay_xinit) (defScope s_InvalidWay_xinit) .none ekV_InvalidWay edc_InvalidWay epm_InvalidWay ean_InvalidWay ecd_InvalidWay ect_InvalidWay), esl_InvalidWay⟩) (ec_InvalidWay : PySem.W.codeIn K ecd_InvalidWay "InvalidWay.__init__" = true)
    (a0 : PySem.W.nsIn K mainGlobals "_law_box" = some (some (.ref f0)))
    (l0 : K.lookup f0 = some ⟨oc0, od0, .func (PySem.W.fnOf "_law_box" "_law_box" (defArgs s_law_box) (defBody s_law_box) (defScope s_law_box) .none kV0 dc0 pm0 an0 cd0 ct0), sl0⟩) (c0 : PySem.W.codeIn K cd0 "_law_box" = true) (k0 : PySem.W.keepIn K (.ref f0) = true)
    (a1 : PySem.W.nsIn K mainGlobals "_law_is_number" = some (some (.ref f1)))
    (l1 : K.lookup f1 = some ⟨oc1, od1, .func (PySem.W.fnOf "_law_is_number" "_law_is_number" (defArgs s_law_is_number) (defBody s_law_is_number) (defScope s_law_is_number) .none kV1 dc1 pm1 an1 cd1 ct1), sl1⟩) (c1 : PySem.W.codeIn K cd1 "_law_is_number" = true) (k1 : PySem.W.keepIn K (.ref f1) = true)
    (a2 : PySem.W.nsIn K mainGlobals "_law_due" = some (some (.ref f2)))
    (l2 : K.lookup f2 = some ⟨oc2, od2, .func (PySem.W.fnOf "_law_due" "_law_due" (defArgs s_law_due) (defBody s_law_due) (defScope s_law_due) .none kV2 dc2 pm2 an2 cd2 ct2), sl2⟩) (c2 : PySem.W.codeIn K cd2 "_law_due" = true) (k2 : PySem.W.keepIn K (.ref f2) = true)
    (a3 : PySem.W.nsIn K mainGlobals "is_integer" = some (some (.ref f3)))
    (l3 : K.lookup f3 = some ⟨oc3, od3, .func (PySem.W.fnOf "is_integer" "is_integer" (defArgs s_is_integer) (defBody s_is_integer) (defScope s_is_integer) .none kV3 dc3 pm3 an3 cd3 ct3), sl3⟩) (c3 : PySem.W.codeIn K cd3 "is_integer" = true) (k3 : PySem.W.keepIn K (.ref f3) = true)
    (a4 : PySem.W.nsIn K mainGlobals "is_from_zero" = some (some (.ref f4)))
    (l4 : K.lookup f4 = some ⟨oc4, od4, .func (PySem.W.fnOf "is_from_zero" "is_from_zero" (defArgs s_is_from_zero) (defBody s_is_from_zero) (defScope s_is_from_zero) .none kV4 dc4 pm4 an4 cd4 ct4), sl4⟩) (c4 : PySem.W.codeIn K cd4 "is_from_zero" = true) (k4 : PySem.W.keepIn K (.ref f4) = true)
    (a5 : PySem.W.nsIn K mainGlobals "is_sequence" = some (some (.ref f5)))
    (l5 : K.lookup f5 = some ⟨oc5, od5, .func (PySem.W.fnOf "is_sequence" "is_sequence" (defArgs s_is_sequence) (defBody s_is_sequence) (defScope s_is_sequence) .none kV5 dc5 pm5 an5 cd5 ct5), sl5⟩) (c5 : PySem.W.codeIn K cd5 "is_sequence" = true) (k5 : PySem.W.keepIn K (.ref f5) = true)
    (a6 : PySem.W.findIn K (.ref A_Way) "__init__" = some (some (.ref f6))) (i6 : PySem.W.isFn K (.ref f6) = true)
    (l6 : K.lookup f6 = some ⟨oc6, od6, .func (PySem.W.fnOf "__init__" "Way.__init__" (defArgs s_Way_xinit) (defBody s_Way_xinit) (defScope s_Way_xinit) (.ref T6) kV6 dc6 pm6 an6 cd6 ct6), sl6⟩) (c6 : PySem.W.codeIn K cd6 "Way.__init__" = true) (k6 : PySem.W.keepIn K (.ref f6) = true)
    (d6 : K.lookup T6 = some ⟨tc6, td6, .seq #[.str "add" d6t0, .none, .none] tn6, tsl6⟩)
    (a7 : PySem.W.nsIn K mainGlobals "_law_heard" = some (some (.ref f7)))
    (l7 : K.lookup f7 = some ⟨oc7, od7, .func (PySem.W.fnOf "_law_heard" "_law_heard" (defArgs s_law_heard) (defBody s_law_heard) (defScope s_law_heard) .none kV7 dc7 pm7 an7 cd7 ct7), sl7⟩) (c7 : PySem.W.codeIn K cd7 "_law_heard" = true) (k7 : PySem.W.keepIn K (.ref f7) = true)
    (a8 : PySem.W.nsIn K mainGlobals "_law_take" = some (some (.ref f8)))
    (l8 : K.lookup f8 = some ⟨oc8, od8, .func (PySem.W.fnOf "_law_take" "_law_take" (defArgs s_law_take) (defBody s_law_take) (defScope s_law_take) .none kV8 dc8 pm8 an8 cd8 ct8), sl8⟩) (c8 : PySem.W.codeIn K cd8 "_law_take" = true) (k8 : PySem.W.keepIn K (.ref f8) = true)
    (a9 : PySem.W.nsIn K mainGlobals "_law_pick" = some (some (.ref f9)))
    (l9 : K.lookup f9 = some ⟨oc9, od9, .func (PySem.W.fnOf "_law_pick" "_law_pick" (defArgs s_law_pick) (defBody s_law_pick) (defScope s_law_pick) .none kV9 dc9 pm9 an9 cd9 ct9), sl9⟩) (c9 : PySem.W.codeIn K cd9 "_law_pick" = true) (k9 : PySem.W.keepIn K (.ref f9) = true)
    (a10 : PySem.W.nsIn K mainGlobals "_law_value" = some (some (.ref f10)))
    (l10 : K.lookup f10 = some ⟨oc10, od10, .func (PySem.W.fnOf "_law_value" "_law_value" (defArgs s_law_value) (defBody s_law_value) (defScope s_law_value) .none kV10 dc10 pm10 an10 cd10 ct10), sl10⟩) (c10 : PySem.W.codeIn K cd10 "_law_value" = true) (k10 : PySem.W.keepIn K (.ref f10) = true)
    (a11 : PySem.W.nsIn K mainGlobals "law" = some (some (.ref f11)))
    (l11 : K.lookup f11 = some ⟨oc11, od11, .func (PySem.W.fnOf "law" "law" (defArgs s_law) (defBody s_law) (defScope s_law) .none kV11 dc11 pm11 an11 cd11 ct11), sl11⟩) (c11 : PySem.W.codeIn K cd11 "law" = true) (k11 : PySem.W.keepIn K (.ref f11) = true) :
    ∃ fd : FuncData, (∀ (s : Shared) (v : Value), BindsTo s fd ⟨[v], []⟩ [("_law_script", v)]) ∧ ∀ base : Heap, K.In base → base.Ns mainGlobals mg → FnOk l.prog w K mg base CX0 6 fa fd ["_law_script"] (LSp K spL) := by
  have e := hfa.symm.trans (PySem.W.mg_of X G a11)
  cases e
  have T : Txt K mg ⟨A_Way, A_InvalidRule, A_InvalidWay, A_StickError⟩ := ⟨⟨⟨⟨pg_Way, hd_Way, po_Way, sa_Way⟩, nf_Way_how⟩, ⟨⟨pg_Way, hd_Way, po_Way, sa_Way⟩, nf_Way_most⟩, ⟨⟨pg_Way, hd_Way, po_Way, sa_Way⟩, nf_Way_part⟩, ⟨xa_InvalidWay, xk_InvalidWay, xb_InvalidWay, xd_InvalidWay, xl_InvalidWay, xn_InvalidWay, xq_InvalidWay, xm_InvalidWay⟩, PySem.W.exm_ref xb_InvalidWay xd_InvalidWay xt_InvalidWay xs_InvalidWay, kit_ref xd_InvalidRule xt_InvalidRule su_InvalidWay_InvalidRule (fun z => absurd z ne_InvalidWay_InvalidRule), kit_ref xd_StickError xt_StickError su_InvalidWay_StickError (fun z => rfl), nf_InvalidWay_word⟩,
    PySem.W.mg_none_of X G z_abs,
    PySem.W.mg_none_of X G z_all,
    PySem.W.mg_none_of X G z_bool,
    PySem.W.mg_none_of X G z_int,
    PySem.W.mg_none_of X G z_isinstance,
    PySem.W.mg_none_of X G z_len,
    PySem.W.mg_none_of X G z_list,
    PySem.W.mg_none_of X G z_max,
    PySem.W.mg_none_of X G z_min,
    PySem.W.mg_none_of X G z_range,
    PySem.W.mg_none_of X G z_sorted,
    PySem.W.mg_none_of X G z_str,
    PySem.W.mg_none_of X G z_tuple,
    ⟨Tq_HOWS, _, _, [.str "add" tq_HOWS_0, .str "lose" tq_HOWS_1, .str "mixed" tq_HOWS_2], PySem.W.mg_of X G q_HOWS, lq_HOWS, rfl, rfl, .cons ⟨_, rfl⟩ (.cons ⟨_, rfl⟩ (.cons ⟨_, rfl⟩ (.nil))), le_line (Nat.le_of_ble_eq_true rfl)⟩,
    ⟨⟨pg_Way, hd_Way, po_Way, sa_Way⟩, PySem.W.mg_of X G aC_Way, mk_Way, kc_Way⟩,
    PySem.W.mg_of X G gx_InvalidRule,
    PySem.W.mg_of X G gx_InvalidWay,
    PySem.W.mg_of X G gx_StickError,
    ⟨⟨A_StickError, PySem.W.mg_of X G gx_StickError, v1, v2, v3⟩⟩,
    oexC_mk ol_InvalidWay or_InvalidWay os_InvalidWay xb_InvalidWay xt_InvalidWay ok_InvalidWay,
    ⟨_, _, ei_InvalidWay, et_InvalidWay, FnAt.mk0 (st := s_InvalidWay_xinit) el_InvalidWay ec_InvalidWay⟩,
    ⟨_, _, fun_mk (st := s_law_box) l0 c0 k0, PySem.W.mg_of X G a0⟩,
    ⟨_, _, fun_mk (st := s_law_is_number) l1 c1 k1, PySem.W.mg_of X G a1⟩,
    ⟨_, _, fun_mk (st := s_law_due) l2 c2 k2, PySem.W.mg_of X G a2⟩,
    ⟨_, _, fun_mk (st := s_is_integer) l3 c3 k3, PySem.W.mg_of X G a3⟩,
    ⟨_, _, fun_mk (st := s_is_from_zero) l4 c4 k4, PySem.W.mg_of X G a4⟩,
    ⟨_, _, fun_mk (st := s_is_sequence) l5 c5 k5, PySem.W.mg_of X G a5⟩,
    ⟨d6t0, ⟨_, _, ⟨a6, i6, k6⟩, FnAt.mkD (st := s_Way_xinit) l6 c6 d6 (by simp)⟩⟩,
    ⟨_, _, fun_mk (st := s_law_heard) l7 c7 k7, PySem.W.mg_of X G a7⟩,
    ⟨_, _, fun_mk (st := s_law_take) l8 c8 k8, PySem.W.mg_of X G a8⟩,
    ⟨_, _, fun_mk (st := s_law_pick) l9 c9 k9, PySem.W.mg_of X G a9⟩,
    ⟨_, _, fun_mk (st := s_law_value) l10 c10 k10, PySem.W.mg_of X G a10⟩,
    ⟨_, _, fun_mk (st := s_law) l11 c11 k11, PySem.W.mg_of X G a11⟩⟩
  exact ⟨_, fun s v => .of_eq rfl, fun base _ _ => fn_d (fun_mk (st := s_law) l11 c11 k11) sc_law len_spL (fun cdv A outer s H E hr => dv_law T cdv A outer s H E hr) (rd_law K ⟨A_Way, A_InvalidRule, A_InvalidWay, A_StickError⟩)⟩
theorem walk {l : PySem.W.OpenLaw} {q : Program} {loose : List Str} {XP : (Str → Option Value) → Heap → Prop} {YP : World → Heap → Prop} {d : DefRec} {K : Params → PySem.W.Frag} (hn : l.most = some 63) (hdf : d.params.defaults = [])
    (hY : ∀ (w : World) (h : Heap), YP w h → (K w.params).In h)
    (F : ∀ (w : World) (mg : Str → Option Value) (fa : Addr) (h : Heap), (K w.params).In h → h.Ns mainGlobals mg → mg d.name = some (.ref fa) →
      ∃ fd : FuncData, (∀ (s : Shared) (u : Value), BindsTo s fd ⟨[u], []⟩ [("_law_script", u)]) ∧ ∀ base : Heap, (K w.params).In base → base.Ns mainGlobals mg → FnOk l.prog w (K w.params) mg base CX0 6 fa fd ["_law_script"] (LSp (K w.params) spL)) :
    PySem.W.WalkO q loose XP YP l.row.toRowW d [] (fun f vs => PySem.call f vs) :=
  L2.walk_of (n := 63) (k := 6) (x := "_law_script") (CX := fun _ => CX0) (sp := fun w => LSp (K w.params) spL) hn (by decide) hdf ⟨rfl, by decide, by decide⟩ hY F (fun _ _ a ns hl hO hS => lsp_law hl hO hS) fun _ _ _ _ _ z => z
end Lw
open PySem PySem.W PyProof.Rows
set_option maxRecDepth 100000 in
set_option maxHeartbeats 0 in
theorem PySem.Challenge.cw_notchsafe_k03_ways_refused_holds : PySem.Challenge.rw_notchsafe_k03_ways_refused.Holds := by
  w_on; o_law; k_head; (case hw => w_witness2)
  k_fill
  refine Lw.walk (l := PySem.Challenge.rw_notchsafe_k03_ways_refused) rfl rfl (fun w h Y => PySem.W.kIn_of Y) ?F
  case F =>
    intro w mg fa h KX G hmg
    refine' Lw.all_mk KX G hmg ?z_abs ?z_all ?z_bool ?z_int ?z_isinstance ?z_len ?z_list ?z_max ?z_min ?z_range ?z_sorted ?z_str ?z_tuple ?q_HOWS ?lq_HOWS ?aC_Way ?pg_Way ?hd_Way ?po_Way ?sa_Way ?mk_Way ?kc_Way ?nf_Way_how ?nf_Way_most ?nf_Way_part ?gx_InvalidRule ?xd_InvalidRule ?xt_InvalidRule ?xb_InvalidRule ?gx_InvalidWay ?xd_InvalidWay ?xt_InvalidWay ?xb_InvalidWay ?gx_StickError ?xd_StickError ?xt_StickError ?xb_StickError ?xa_InvalidWay ?xk_InvalidWay ?xl_InvalidWay ?xn_InvalidWay ?xq_InvalidWay ?xm_InvalidWay ?xs_InvalidWay ?su_InvalidWay_InvalidRule ?ne_InvalidWay_InvalidRule ?su_InvalidWay_StickError ?nf_InvalidWay_word ?v1 ?v2 ?v3 ?ol_InvalidWay ?or_InvalidWay ?os_InvalidWay ?ok_InvalidWay ?ei_InvalidWay ?et_InvalidWay ?el_InvalidWay ?ec_InvalidWay ?a0 ?l0 ?c0 ?k0 ?a1 ?l1 ?c1 ?k1 ?a2 ?l2 ?c2 ?k2 ?a3 ?l3 ?c3 ?k3 ?a4 ?l4 ?c4 ?k4 ?a5 ?l5 ?c5 ?k5 ?a6 ?i6 ?l6 ?c6 ?k6 ?d6 ?a7 ?l7 ?c7 ?k7 ?a8 ?l8 ?c8 ?k8 ?a9 ?l9 ?c9 ?k9 ?a10 ?l10 ?c10 ?k10 ?a11 ?l11 ?c11 ?k11
    (case z_abs => k_is)
    (case z_all => k_is)
    (case z_bool => k_is)
    (case z_int => k_is)
    (case z_isinstance => k_is)
    (case z_len => k_is)
    (case z_list => k_is)
    (case z_max => k_is)
    (case z_min => k_is)
    (case z_range => k_is)
    (case z_sorted => k_is)
    (case z_str => k_is)
    (case z_tuple => k_is)
    (case q_HOWS => k_is)
    (case lq_HOWS => k_is)
    (case aC_Way => k_is)
    (case pg_Way => k_is)
    (case hd_Way => k_is)
    (case po_Way => k_is)
    (case sa_Way => k_is)
    (case mk_Way => k_is)
    (case kc_Way => k_is)
    (case nf_Way_how => k_is)
    (case nf_Way_most => k_is)
    (case nf_Way_part => k_is)
    (case gx_InvalidRule => k_is)
    (case xd_InvalidRule => k_is)
    (case xt_InvalidRule => k_is)
    (case xb_InvalidRule => k_is)
    (case gx_InvalidWay => k_is)
    (case xd_InvalidWay => k_is)
    (case xt_InvalidWay => k_is)
    (case xb_InvalidWay => k_is)
    (case gx_StickError => k_is)
    (case xd_StickError => k_is)
    (case xt_StickError => k_is)
    (case xb_StickError => k_is)
    (case xa_InvalidWay => k_is)
    (case xk_InvalidWay => k_is)
    (case xl_InvalidWay => k_is)
    (case xn_InvalidWay => k_is)
    (case xq_InvalidWay => k_is)
    (case xm_InvalidWay => k_is)
    (case xs_InvalidWay => k_is)
    (case su_InvalidWay_InvalidRule => k_is)
    (case ne_InvalidWay_InvalidRule => first | rfl | decide)
    (case su_InvalidWay_StickError => k_is)
    (case nf_InvalidWay_word => k_is)
    (case v1 => k_is)
    (case v2 => k_is)
    (case v3 => k_is)
    (case ol_InvalidWay => k_is)
    (case or_InvalidWay => first | rfl | decide)
    (case os_InvalidWay => k_is)
    (case ok_InvalidWay => k_is)
    (case ei_InvalidWay => k_is)
    (case et_InvalidWay => k_is)
    (case el_InvalidWay => k_is)
    (case ec_InvalidWay => k_is)
    (case a0 => k_is)
    (case l0 => k_is)
    (case c0 => k_is)
    (case k0 => k_is)
    (case a1 => k_is)
    (case l1 => k_is)
    (case c1 => k_is)
    (case k1 => k_is)
    (case a2 => k_is)
    (case l2 => k_is)
    (case c2 => k_is)
    (case k2 => k_is)
    (case a3 => k_is)
    (case l3 => k_is)
    (case c3 => k_is)
    (case k3 => k_is)
    (case a4 => k_is)
    (case l4 => k_is)
    (case c4 => k_is)
    (case k4 => k_is)
    (case a5 => k_is)
    (case l5 => k_is)
    (case c5 => k_is)
    (case k5 => k_is)
    (case a6 => k_is)
    (case i6 => k_is)
    (case l6 => k_is)
    (case c6 => k_is)
    (case k6 => k_is)
    (case d6 => k_is)
    (case a7 => k_is)
    (case l7 => k_is)
    (case c7 => k_is)
    (case k7 => k_is)
    (case a8 => k_is)
    (case l8 => k_is)
    (case c8 => k_is)
    (case k8 => k_is)
    (case a9 => k_is)
    (case l9 => k_is)
    (case c9 => k_is)
    (case k9 => k_is)
    (case a10 => k_is)
    (case l10 => k_is)
    (case c10 => k_is)
    (case k10 => k_is)
    (case a11 => k_is)
    (case l11 => k_is)
    (case c11 => k_is)
    (case k11 => k_is)
