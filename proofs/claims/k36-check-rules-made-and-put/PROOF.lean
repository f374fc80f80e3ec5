import PyProof.Rows.All
import Wide.All
import OpenK.AllK
import Wide.FinOn
import HandS.ForMost
import HandS.TupAny
import HandS.Flow
import HandS.Star
import HandS.FStr
import HandS.RaiseMore
import HandS.SortInts
import HandS.DictComp
import HandS.Style
import HandS.IsInst
import HandS.WordsDict
import KE.GoesEnum
import HandS.Zip
import HandS.Text
import HandS.OwnEq
import PyProof.InstNe
import PyProof.StrOps2
import HandS.Conv
import HandS.Codes
import HandS.TryOnly
import HandS.Deep
import HandS.Exc
import HandS.ExcOwn
import HandS.ExcInit
import HandS.ExcField
import HandS.ExcIs
import HandS.CallSlots
import HandS.WordsExc
import HandS.ClsMeth
import KE.KExcIs
import PyProof.ReprRoads
import KE.KCallOwn
import PyProof.InstSpecial
import HandS.MakeKw
import HandS.MakeKwOnly
import HandS.CallLocal
import HandS.Dict
import HandS.ListItems
import KE.GoesZip
import KE.GoesMore
import HandS.Set
import PyProof.Rows.SetFrom
import HandS.SortRule
import PyProof.RulesAs
import HandS.ReplaceLit
import HandS.ReplaceList
import PySem.Challenge.RW_notchsafe_k36_check_rules_made_and_put
set_option Elab.async false
set_option linter.all false
set_option maxRecDepth 100000
set_option maxHeartbeats 4000000
namespace Dl
open PySem L2

/-! ### data -/
inductive D where
  | non | bl (b : Bool) | int (i : Int) | str (s : Str)
  | tup (xs : List D) | lst (xs : List D) | scr (xs : List D) | dct (kvs : List (Key × D)) | dcl (kvs : List (Key × D)) | obj (C : Addr) (fs : List (Str × D)) | ref (a : Addr) | ty (n : String)
  | exc (a : Addr) (d : Option Addr) (C : Addr) (fs : List (Str × D))

/-- a cell that may change -/
inductive Cell where
  | lst (xs : List D) | dct (kvs : List (Key × D)) | ins (C : Addr) (fs : List (Str × D))
abbrev Store := Addr → Option Cell
def setS (μ : Store) (a : Addr) (c : Cell) : Store := fun b => if b = a then some c else μ b
def delS (μ : Store) (a : Addr) : Store := fun b => if b = a then none else μ b
theorem setS_same {μ : Store} {a : Addr} {c : Cell} : setS μ a c a = some c := by unfold setS; rw [if_pos rfl]
theorem setS_ne {μ : Store} {a b : Addr} {c : Cell} (h : b ≠ a) : setS μ a c b = μ b := by unfold setS; rw [if_neg h]
theorem delS_same {μ : Store} {a : Addr} : delS μ a a = none := by unfold delS; rw [if_pos rfl]
theorem delS_ne {μ : Store} {a b : Addr} (h : b ≠ a) : delS μ a b = μ b := by unfold delS; rw [if_neg h]
theorem setS_setS {μ : Store} {a : Addr} {c d : Cell} : setS (setS μ a c) a d = setS μ a d := by
  funext b; unfold setS; split <;> rfl
theorem delS_setS {μ : Store} {a : Addr} {c : Cell} (h : μ a = none) : delS (setS μ a c) a = μ := by
  funext b; unfold delS setS
  by_cases e : b = a
  · rw [if_pos e, e, h]
  · rw [if_neg e, if_neg e]
/-- fewer cells are known -/
def Sub (μ' μ : Store) : Prop := ∀ a c, μ' a = some c → μ a = some c
theorem Sub.refl (μ : Store) : Sub μ μ := fun _ _ h => h
theorem Sub.trans {a b c : Store} (h : Sub a b) (k : Sub b c) : Sub a c := fun x y z => k x y (h x y z)
theorem Sub.set {μ : Store} {a : Addr} {c : Cell} (h : μ a = none) : Sub μ (setS μ a c) := fun b d e => by
  rw [setS_ne (by rintro rfl; rw [h] at e; cases e)]; exact e
theorem Sub.set' {μ μ' : Store} {a : Addr} {c : Cell} (s : Sub μ μ') (h : μ a = none) : Sub μ (setS μ' a c) := fun b d e => by
  rw [setS_ne (by rintro rfl; rw [h] at e; cases e)]; exact s b d e
theorem Sub.del {μ : Store} {a : Addr} : Sub (delS μ a) μ := fun b d e => by
  unfold delS at e; split at e
  · cases e
  · exact e
theorem Sub.del' {μ μ' : Store} {a : Addr} (s : Sub μ μ') (h : μ a = none) : Sub μ (delS μ' a) := fun b d e => by
  rw [delS_ne (by rintro rfl; rw [h] at e; cases e)]; exact s b d e

/-! ### what stands for what -/
/-- a tuple of the ghost heap, or of the written part -/
def TupAt (K : PySem.W.Frag) (G : Hp) (a : Addr) (xs : List V) : Prop :=
  G a = some (.tup xs) ∨ ∃ (o : Obj) (its : Array Value) (n : Nat), K.lookup a = some o ∧ o.cls = .type "tuple" ∧ o.data = .seq its n ∧ its.size ≤ sizeLine ∧ Vals xs its.toList
/-- a list that is only read: locked, or of the written part -/
def ScrAt (K : PySem.W.Frag) (G : Hp) (a : Addr) (xs : List V) : Prop :=
  (∃ o, G a = some (.frz o (.lst xs))) ∨ ∃ (o : Obj) (its : Array Value) (n : Nat), K.lookup a = some o ∧ o.cls = .type "list" ∧ o.dict = none ∧ o.data = .seq its n ∧ its.size ≤ sizeLine ∧ Vals xs its.toList
mutual
inductive Rp (K : PySem.W.Frag) (G : Hp) : D → V → Prop where
  | non : Rp K G .non .non
  | bl (b : Bool) : Rp K G (.bl b) (.bl b)
  | int (i : Int) : Rp K G (.int i) (.int i)
  | str (s : Str) : Rp K G (.str s) (.str s)
  | ty (n : String) : Rp K G (.ty n) (.ty n)
  | ref (a : Addr) : Rp K G (.ref a) (.ref a)
  | tup {a : Addr} {ds : List D} {xs : List V} (h : TupAt K G a xs) (r : Rps K G ds xs) : Rp K G (.tup ds) (.ref a)
  | lst {a : Addr} {ds : List D} {xs : List V} (h : G a = some (.lst xs)) (r : Rps K G ds xs) : Rp K G (.lst ds) (.ref a)
  | scr {a : Addr} {ds : List D} {xs : List V} (h : ScrAt K G a xs) (r : Rps K G ds xs) : Rp K G (.scr ds) (.ref a)
  | dct {a : Addr} {ds : List (Key × D)} {kvs : List (Key × V)} (h : G a = some (.dK kvs)) (e : kvs.map (·.1) = ds.map (·.1)) (r : Rps K G (ds.map (·.2)) (kvs.map (·.2))) : Rp K G (.dct ds) (.ref a)
  | dcl {a : Addr} {od : Obj} {ds : List (Key × D)} {kvs : List (Key × V)} (h : G a = some (.frz od (.dK kvs))) (e : kvs.map (·.1) = ds.map (·.1)) (r : Rps K G (ds.map (·.2)) (kvs.map (·.2))) : Rp K G (.dcl ds) (.ref a)
  | excN (a C : Addr) : Rp K G (.exc a none C []) (.ref a)
  | excD {a C dd : Addr} {ds : List (Str × D)} {fs : List (Str × V)} (h : G dd = some (.xd fs)) (e : fs.map (·.1) = ds.map (·.1)) (r : Rps K G (ds.map (·.2)) (fs.map (·.2))) : Rp K G (.exc a (some dd) C ds) (.ref a)
  | obj {a C dx : Addr} {ds : List (Str × D)} {fs : List (Str × V)} (h : G a = some (.ins C dx fs)) (e : fs.map (·.1) = ds.map (·.1)) (r : Rps K G (ds.map (·.2)) (fs.map (·.2))) : Rp K G (.obj C ds) (.ref a)
inductive Rps (K : PySem.W.Frag) (G : Hp) : List D → List V → Prop where
  | nil : Rps K G [] []
  | cons {d : D} {v : V} {ds : List D} {vs : List V} (h : Rp K G d v) (r : Rps K G ds vs) : Rps K G (d :: ds) (v :: vs)
end
/-- what is known of the ghost heap stays -/
def Ex (G H : Hp) : Prop := ∀ a o, G a = some o → H a = some o
theorem Ex.refl (H : Hp) : Ex H H := fun _ _ h => h
theorem Ex.trans {H H1 H2 : Hp} (a : Ex H H1) (b : Ex H1 H2) : Ex H H2 := fun x o h => b x o (a x o h)
theorem Ex.new {H : Hp} {p : Addr} {o : HO} (h : H p = none) : Ex H (upd H p o) := fun a u e => by
  rw [upd_ne (ne_of_none e h)]
  exact e
theorem Ex.mut {H H' : Hp} {p : Addr} {o : HO} (e : Ex H H') (h : H p = none) : Ex H (upd H' p o) := fun a u ha => by
  rw [upd_ne (ne_of_none ha h)]
  exact e a u ha
theorem Ex.nn {G H : Hp} (e : Ex G H) {p : Addr} (h : H p = none) : G p = none := by
  cases q : G p with
  | none => rfl
  | some o => rw [e p o q] at h; cases h
theorem Ex.upd2 {G H : Hp} (e : Ex G H) (p : Addr) (o : HO) : Ex (upd G p o) (upd H p o) := fun a u h => by
  by_cases q : a = p
  · subst q; rw [upd_same] at h ⊢; exact h
  · rw [upd_ne q] at h ⊢; exact e a u h
theorem TupAt.mono {K : PySem.W.Frag} {G G' : Hp} {a : Addr} {xs : List V} (e : Ex G G') (h : TupAt K G a xs) : TupAt K G' a xs := by
  rcases h with h | h
  · exact .inl (e _ _ h)
  · exact .inr h
theorem ScrAt.mono {K : PySem.W.Frag} {G G' : Hp} {a : Addr} {xs : List V} (e : Ex G G') (h : ScrAt K G a xs) : ScrAt K G' a xs := by
  rcases h with ⟨o, h⟩ | h
  · exact .inl ⟨o, e _ _ h⟩
  · exact .inr h
mutual
theorem Rp.mono {K : PySem.W.Frag} {G G' : Hp} (e : Ex G G') : ∀ {d : D} {v : V}, Rp K G d v → Rp K G' d v
  | _, _, .non => .non
  | _, _, .bl b => .bl b
  | _, _, .int i => .int i
  | _, _, .str s => .str s
  | _, _, .ty n => .ty n
  | _, _, .ref a => .ref a
  | _, _, .tup h r => .tup (h.mono e) (Rps.mono e r)
  | _, _, .lst h r => .lst (e _ _ h) (Rps.mono e r)
  | _, _, .scr h r => .scr (h.mono e) (Rps.mono e r)
  | _, _, .dct h k r => .dct (e _ _ h) k (Rps.mono e r)
  | _, _, .dcl h k r => .dcl (e _ _ h) k (Rps.mono e r)
  | _, _, .obj h k r => .obj (e _ _ h) k (Rps.mono e r)
  | _, _, .excN a C => .excN a C
  | _, _, .excD h k r => .excD (e _ _ h) k (Rps.mono e r)
theorem Rps.mono {K : PySem.W.Frag} {G G' : Hp} (e : Ex G G') : ∀ {d : List D} {v : List V}, Rps K G d v → Rps K G' d v
  | _, _, .nil => .nil
  | _, _, .cons h r => .cons (Rp.mono e h) (Rps.mono e r)
end
theorem TupAt.sq {K : PySem.W.Frag} {G H : Hp} {a : Addr} {xs : List V} (e : Ex G H) (h : TupAt K G a xs) : SqT K H a xs := by
  rcases h with h | h
  · exact .inl (.inl (e _ _ h))
  · exact .inr h
theorem ScrAt.sq {K : PySem.W.Frag} {G H : Hp} {a : Addr} {xs : List V} (e : Ex G H) (h : ScrAt K G a xs) : SqL K H a xs := by
  rcases h with ⟨o, h⟩ | h
  · exact .inl (.inr ⟨o, e _ _ h⟩)
  · exact .inr h
theorem lst_sq {K : PySem.W.Frag} {G H : Hp} {a : Addr} {xs : List V} (e : Ex G H) (h : G a = some (.lst xs)) : SqL K H a xs := .inl (.inl (e _ _ h))

theorem Rps.length {K : PySem.W.Frag} {G : Hp} : ∀ {ds : List D} {vs : List V}, Rps K G ds vs → ds.length = vs.length
  | _, _, .nil => rfl
  | _, _, .cons _ r => by rw [List.length_cons, List.length_cons, Rps.length r]
theorem Rps.append {K : PySem.W.Frag} {G : Hp} : ∀ {ds es : List D} {vs ws : List V}, Rps K G ds vs → Rps K G es ws → Rps K G (ds ++ es) (vs ++ ws)
  | _, _, _, _, .nil, r => r
  | _, _, _, _, .cons h t, r => .cons h (Rps.append t r)
theorem Rps.getL {K : PySem.W.Frag} {G : Hp} : ∀ {ds : List D} {vs : List V} {i : Nat} {d : D}, Rps K G ds vs → ds[i]? = some d → ∃ v, vs[i]? = some v ∧ Rp K G d v
  | _, _, _, _, .nil, e => by simp at e
  | _, _, 0, _, .cons h _, e => by
    have e : _ = _ := Option.some.inj e
    subst e
    exact ⟨_, rfl, h⟩
  | _, _, i + 1, d, .cons _ t, e => by
    obtain ⟨v, h1, h2⟩ := Rps.getL (i := i) (d := d) t (by simpa using e)
    exact ⟨v, by simpa using h1, h2⟩
theorem Rps.getR {K : PySem.W.Frag} {G : Hp} : ∀ {ds : List D} {vs : List V} {i : Nat} {v : V}, Rps K G ds vs → vs[i]? = some v → ∃ d, ds[i]? = some d ∧ Rp K G d v
  | _, _, _, _, .nil, e => by simp at e
  | _, _, 0, _, .cons h _, e => by
    have e : _ = _ := Option.some.inj e
    subst e
    exact ⟨_, rfl, h⟩
  | _, _, i + 1, v, .cons _ t, e => by
    obtain ⟨d, h1, h2⟩ := Rps.getR (i := i) (v := v) t (by simpa using e)
    exact ⟨d, by simpa using h1, h2⟩
theorem Rps.take {K : PySem.W.Frag} {G : Hp} : ∀ {ds : List D} {vs : List V} (n : Nat), Rps K G ds vs → Rps K G (ds.take n) (vs.take n)
  | _, _, 0, _ => .nil
  | _, _, _ + 1, .nil => .nil
  | _, _, n + 1, .cons h r => .cons h (Rps.take n r)
theorem Rps.drop {K : PySem.W.Frag} {G : Hp} : ∀ {ds : List D} {vs : List V} (n : Nat), Rps K G ds vs → Rps K G (ds.drop n) (vs.drop n)
  | _, _, 0, r => r
  | _, _, _ + 1, .nil => .nil
  | _, _, n + 1, .cons _ r => Rps.drop n r
theorem Rps.set {K : PySem.W.Frag} {G : Hp} {d : D} {v : V} (h : Rp K G d v) : ∀ {ds : List D} {vs : List V} (n : Nat), Rps K G ds vs → Rps K G (ds.set n d) (vs.set n v)
  | _, _, _, .nil => .nil
  | _, _, 0, .cons _ r => .cons h r
  | _, _, n + 1, .cons q r => .cons q (Rps.set h n r)
theorem Rps.eraseIdx {K : PySem.W.Frag} {G : Hp} : ∀ {ds : List D} {vs : List V} (n : Nat), Rps K G ds vs → Rps K G (ds.eraseIdx n) (vs.eraseIdx n)
  | _, _, _, .nil => .nil
  | _, _, 0, .cons _ r => r
  | _, _, n + 1, .cons q r => .cons q (Rps.eraseIdx n r)
theorem Rps.dropLast {K : PySem.W.Frag} {G : Hp} {ds : List D} {vs : List V} (r : Rps K G ds vs) : Rps K G ds.dropLast vs.dropLast := by
  rw [List.dropLast_eq_take, List.dropLast_eq_take, r.length]
  exact r.take _
theorem Rps.cut {K : PySem.W.Frag} {G : Hp} {ds : List D} {vs : List V} (r : Rps K G ds vs) (lo hi : Option Int) :
    Rps K G ((ds.drop (HT.sIx ds.length 0 lo)).take (HT.sIx ds.length ds.length hi - HT.sIx ds.length 0 lo)) (cutV vs lo hi) := by
  unfold cutV
  rw [r.length]
  exact (r.drop _).take _

/-- the cell at a -/
def CellOk (K : PySem.W.Frag) (G H : Hp) (a : Addr) : Cell → Prop
  | .lst ds => ∃ xs, H a = some (.lst xs) ∧ Rps K G ds xs
  | .dct ds => ∃ kvs : List (Key × V), H a = some (.dK kvs) ∧ kvs.map (·.1) = ds.map (·.1) ∧ Rps K G (ds.map (·.2)) (kvs.map (·.2))
  | .ins C ds => ∃ (dx : Addr) (fs : List (Str × V)), H a = some (.ins C dx fs) ∧ fs.map (·.1) = ds.map (·.1) ∧ Rps K G (ds.map (·.2)) (fs.map (·.2))
structure Sm (K : PySem.W.Frag) (μ : Store) (G H : Hp) : Prop where
  ex : Ex G H
  st : ∀ a c, μ a = some c → G a = none ∧ CellOk K G H a c
theorem CellOk.mono {K : PySem.W.Frag} {G G' H H' : Hp} {a : Addr} {c : Cell} (e : Ex G G') (h : H' a = H a) (x : CellOk K G H a c) : CellOk K G' H' a c := by
  cases c with
  | lst ds => obtain ⟨xs, h1, r⟩ := x; exact ⟨xs, h.trans h1, r.mono e⟩
  | dct ds => obtain ⟨kvs, h1, k, r⟩ := x; exact ⟨kvs, h.trans h1, k, r.mono e⟩
  | ins C ds => obtain ⟨dx, fs, h1, k, r⟩ := x; exact ⟨dx, fs, h.trans h1, k, r.mono e⟩
theorem CellOk.there {K : PySem.W.Frag} {G H : Hp} {a : Addr} {c : Cell} (x : CellOk K G H a c) : ∃ o, H a = some o := by
  cases c with
  | lst ds => obtain ⟨xs, h1, r⟩ := x; exact ⟨_, h1⟩
  | dct ds => obtain ⟨kvs, h1, k, r⟩ := x; exact ⟨_, h1⟩
  | ins C ds => obtain ⟨dx, fs, h1, k, r⟩ := x; exact ⟨_, h1⟩
section
variable {K : PySem.W.Frag} {μ μ' : Store} {G H : Hp} {a p : Addr}
theorem Sm.nn (S : Sm K μ G H) (h : H p = none) : μ p = none := by
  cases q : μ p with
  | none => rfl
  | some c => obtain ⟨o, e⟩ := (S.st p c q).2.there; rw [e] at h; cases h
theorem Sm.sub (S : Sm K μ G H) (h : Sub μ' μ) : Sm K μ' G H := ⟨S.ex, fun a c e => S.st a c (h a c e)⟩
/-- a new frozen object -/
theorem Sm.frozen (S : Sm K μ G H) (h : H p = none) (o : HO) : Sm K μ (upd G p o) (upd H p o) ∧ Ex G (upd G p o) := by
  refine ⟨⟨S.ex.upd2 p o, fun a c e => ?_⟩, Ex.new (S.ex.nn h)⟩
  obtain ⟨h1, h2⟩ := S.st a c e
  have ne : a ≠ p := by rintro rfl; rw [S.nn h] at e; cases e
  exact ⟨by rw [upd_ne ne]; exact h1, h2.mono (Ex.new (S.ex.nn h)) (upd_ne ne)⟩
/-- a new object that nobody tells of -/
theorem Sm.hidden (S : Sm K μ G H) (h : H p = none) (o : HO) : Sm K μ G (upd H p o) := by
  refine ⟨S.ex.mut (S.ex.nn h), fun a c e => ?_⟩
  obtain ⟨h1, h2⟩ := S.st a c e
  have ne : a ≠ p := by rintro rfl; rw [S.nn h] at e; cases e
  exact ⟨h1, h2.mono (Ex.refl _) (upd_ne ne)⟩
/-- a cell written, or made -/
theorem Sm.write (S : Sm K μ G H) (h : G p = none) {o : HO} {c : Cell} (k : CellOk K G (upd H p o) p c) : Sm K (setS μ p c) G (upd H p o) := by
  refine ⟨S.ex.mut h, fun a d e => ?_⟩
  by_cases q : a = p
  · subst q
    rw [setS_same] at e
    cases e
    exact ⟨h, k⟩
  · rw [setS_ne q] at e
    obtain ⟨h1, h2⟩ := S.st a d e
    exact ⟨h1, h2.mono (Ex.refl _) (upd_ne q)⟩
theorem Sm.freezeL (S : Sm K μ G H) {ds : List D} (h : μ p = some (.lst ds)) : ∃ G', Sm K (delS μ p) G' H ∧ Ex G G' ∧ Rp K G' (.lst ds) (.ref p) := by
  obtain ⟨h0, xs, h1, r⟩ := S.st p _ h
  refine ⟨upd G p (.lst xs), ⟨fun b o e => ?_, fun b c e => ?_⟩, Ex.new h0, .lst upd_same (r.mono (Ex.new h0))⟩
  · by_cases q : b = p
    · subst q; rw [upd_same] at e; rw [h1]; exact e
    · rw [upd_ne q] at e; exact S.ex b o e
  · by_cases q : b = p
    · subst q; rw [delS_same] at e; cases e
    · rw [delS_ne q] at e
      obtain ⟨k1, k2⟩ := S.st b c e
      exact ⟨by rw [upd_ne q]; exact k1, k2.mono (Ex.new h0) rfl⟩
theorem Sm.freezeD (S : Sm K μ G H) {ds : List (Key × D)} (h : μ p = some (.dct ds)) : ∃ G', Sm K (delS μ p) G' H ∧ Ex G G' ∧ Rp K G' (.dct ds) (.ref p) := by
  obtain ⟨h0, kvs, h1, k, r⟩ := S.st p _ h
  refine ⟨upd G p (.dK kvs), ⟨fun b o e => ?_, fun b c e => ?_⟩, Ex.new h0, .dct upd_same k (r.mono (Ex.new h0))⟩
  · by_cases q : b = p
    · subst q; rw [upd_same] at e; rw [h1]; exact e
    · rw [upd_ne q] at e; exact S.ex b o e
  · by_cases q : b = p
    · subst q; rw [delS_same] at e; cases e
    · rw [delS_ne q] at e
      obtain ⟨k1, k2⟩ := S.st b c e
      exact ⟨by rw [upd_ne q]; exact k1, k2.mono (Ex.new h0) rfl⟩
theorem Sm.freezeI (S : Sm K μ G H) {C : Addr} {ds : List (Str × D)} (h : μ p = some (.ins C ds)) : ∃ G', Sm K (delS μ p) G' H ∧ Ex G G' ∧ Rp K G' (.obj C ds) (.ref p) := by
  obtain ⟨h0, dx, fs, h1, k, r⟩ := S.st p _ h
  refine ⟨upd G p (.ins C dx fs), ⟨fun b o e => ?_, fun b c e => ?_⟩, Ex.new h0, .obj upd_same k (r.mono (Ex.new h0))⟩
  · by_cases q : b = p
    · subst q; rw [upd_same] at e; rw [h1]; exact e
    · rw [upd_ne q] at e; exact S.ex b o e
  · by_cases q : b = p
    · subst q; rw [delS_same] at e; cases e
    · rw [delS_ne q] at e
      obtain ⟨k1, k2⟩ := S.st b c e
      exact ⟨by rw [upd_ne q]; exact k1, k2.mono (Ex.new h0) rfl⟩
end

/-! ### the frame -/
abbrev Env := List (Option D)
def Rpo (K : PySem.W.Frag) (G : Hp) : Option D → Option V → Prop
  | some d, some v => Rp K G d v
  | some _, none => False
  | none, _ => True
def EnvR (K : PySem.W.Frag) (G : Hp) (ρ : Env) (σ : L2.St) : Prop := ρ.length ≤ σ.length ∧ ∀ (i : Nat) d, ρ[i]? = some (some d) → ∃ v, σ[i]? = some (some v) ∧ Rp K G d v
section
variable {K : PySem.W.Frag} {G G' : Hp} {ρ : Env} {σ : L2.St}
theorem EnvR.mono (e : Ex G G') (h : EnvR K G ρ σ) : EnvR K G' ρ σ := ⟨h.1, fun i d q => by
  obtain ⟨v, h1, h2⟩ := h.2 i d q
  exact ⟨v, h1, h2.mono e⟩⟩
theorem EnvR.set (h : EnvR K G ρ σ) (i : Nat) {d : D} {v : V} (r : Rp K G d v) : EnvR K G (ρ.set i (some d)) (σ.set i (some v)) := by
  refine ⟨by rw [List.length_set, List.length_set]; exact h.1, fun j e q => ?_⟩
  by_cases hj : i = j
  · subst hj
    by_cases hl : i < ρ.length
    · rw [List.getElem?_set_self hl] at q
      cases q
      exact ⟨v, by rw [List.getElem?_set_self (Nat.lt_of_lt_of_le hl h.1)], r⟩
    · rw [List.getElem?_eq_none (by rw [List.length_set]; omega)] at q
      cases q
  · rw [List.getElem?_set_ne hj] at q ⊢
    exact h.2 j e q
end

/-! ### keys and what they lead to -/
section
variable {κ : Type} [DecidableEq κ]
def look {β : Type} : List (κ × β) → κ → Option β
  | [], _ => none
  | p :: r, k => if p.1 = k then some p.2 else look r k
def put {β : Type} : List (κ × β) → κ → β → List (κ × β)
  | [], k, v => [(k, v)]
  | p :: r, k, v => if p.1 = k then (p.1, v) :: r else p :: put r k v
theorem look_keys {K : PySem.W.Frag} {G : Hp} {k : κ} : ∀ {ds : List (κ × D)} {kvs : List (κ × V)}, kvs.map (·.1) = ds.map (·.1) → Rps K G (ds.map (·.2)) (kvs.map (·.2)) →
    (∀ d, look ds k = some d → ∃ v, look kvs k = some v ∧ Rp K G d v) ∧ (look ds k = none → look kvs k = none)
  | [], [], _, _ => ⟨fun _ h => (by cases h), fun _ => rfl⟩
  | [], _ :: _, e, _ => by simp at e
  | _ :: _, [], e, _ => by simp at e
  | (a, d) :: ds, (b, v) :: kvs, e, r => by
    have e1 : b = a ∧ kvs.map (·.1) = ds.map (·.1) := by simpa using e
    obtain ⟨rfl, e2⟩ := e1
    cases r with
    | cons h r =>
      have ih := look_keys (k := k) e2 r
      unfold look
      by_cases q : b = k
      · rw [if_pos q, if_pos q]
        exact ⟨fun d' h' => by cases h'; exact ⟨v, rfl, h⟩, fun h' => by cases h'⟩
      · rw [if_neg q, if_neg q]
        exact ih
theorem put_keys {K : PySem.W.Frag} {G : Hp} {k : κ} {d : D} {v : V} (hd : Rp K G d v) : ∀ {ds : List (κ × D)} {kvs : List (κ × V)}, kvs.map (·.1) = ds.map (·.1) → Rps K G (ds.map (·.2)) (kvs.map (·.2)) →
    (put kvs k v).map (·.1) = (put ds k d).map (·.1) ∧ Rps K G ((put ds k d).map (·.2)) ((put kvs k v).map (·.2))
  | [], [], _, _ => ⟨rfl, .cons hd .nil⟩
  | [], _ :: _, e, _ => by simp at e
  | _ :: _, [], e, _ => by simp at e
  | (a, d1) :: ds, (b, v1) :: kvs, e, r => by
    have e1 : b = a ∧ kvs.map (·.1) = ds.map (·.1) := by simpa using e
    obtain ⟨rfl, e2⟩ := e1
    cases r with
    | cons h r =>
      obtain ⟨i1, i2⟩ := put_keys (k := k) hd e2 r
      unfold put
      by_cases q : b = k
      · rw [if_pos q, if_pos q]
        exact ⟨by simp [e2], .cons hd r⟩
      · rw [if_neg q, if_neg q]
        exact ⟨by simp [i1], .cons h i2⟩
end
theorem valV_look {κ : Type} [DecidableEq κ] {k : κ} : ∀ kvs : List (κ × V), valV kvs k = look kvs k
  | [] => rfl
  | p :: r => by
    by_cases e : p.1 = k
    · rw [valV_pos e]; unfold look; rw [if_pos e]
    · rw [valV_neg e]; unfold look; rw [if_neg e]; exact valV_look r
end Dl

namespace Dl
open PySem L2
/-! ### readings over data -/
abbrev WE := Env → Store → (D → Store → Prop) → Prop
abbrev WT := Env → Store → (Bool → Store → Prop) → Prop
abbrev WA := Env → Store → (List D → Store → Prop) → Prop
structure WEnds where
  nx : Env → Store → Prop
  rt : D → Store → Prop
  bk : Env → Store → Prop := fun _ _ => False
  ct : Env → Store → Prop := fun _ _ => False
abbrev WS := WEnds → Env → Store → Prop
def Tells (K : PySem.W.Frag) (G : Hp) (P : D → Store → Prop) (Q : VK) : Prop := ∀ d μ' v H' G', P d μ' → Ex G G' → Sm K μ' G' H' → Rp K G' d v → Q v H'
def TellsT (K : PySem.W.Frag) (G : Hp) (P : Bool → Store → Prop) (Q : Bool → Hp → Prop) : Prop := ∀ b μ' H' G', P b μ' → Ex G G' → Sm K μ' G' H' → Q b H'
def TellsA (K : PySem.W.Frag) (G : Hp) (P : List D → Store → Prop) (Q : List V → Hp → Prop) : Prop := ∀ ds μ' vs H' G', P ds μ' → Ex G G' → Sm K μ' G' H' → Rps K G' ds vs → Q vs H'
structure TellsS (K : PySem.W.Frag) (G : Hp) (W : WEnds) (D : Ends) : Prop where
  nx : ∀ ρ' μ' σ' H' G', W.nx ρ' μ' → Ex G G' → EnvR K G' ρ' σ' → Sm K μ' G' H' → D.nx σ' H'
  rt : ∀ d μ' v H' G', W.rt d μ' → Ex G G' → Sm K μ' G' H' → Rp K G' d v → D.rt v H'
  bk : ∀ ρ' μ' σ' H' G', W.bk ρ' μ' → Ex G G' → EnvR K G' ρ' σ' → Sm K μ' G' H' → D.bk σ' H'
  ct : ∀ ρ' μ' σ' H' G', W.ct ρ' μ' → Ex G G' → EnvR K G' ρ' σ' → Sm K μ' G' H' → D.ct σ' H'
theorem Tells.mono {K : PySem.W.Frag} {G G' : Hp} {P : D → Store → Prop} {Q : VK} (e : Ex G G') (h : Tells K G P Q) : Tells K G' P Q := fun d μ v H G2 p e2 m r => h d μ v H G2 p (e.trans e2) m r
theorem TellsT.mono {K : PySem.W.Frag} {G G' : Hp} {P : Bool → Store → Prop} {Q : Bool → Hp → Prop} (e : Ex G G') (h : TellsT K G P Q) : TellsT K G' P Q := fun d μ H G2 p e2 m => h d μ H G2 p (e.trans e2) m
theorem TellsA.mono {K : PySem.W.Frag} {G G' : Hp} {P : List D → Store → Prop} {Q : List V → Hp → Prop} (e : Ex G G') (h : TellsA K G P Q) : TellsA K G' P Q := fun d μ v H G2 p e2 m r => h d μ v H G2 p (e.trans e2) m r
theorem TellsS.mono {K : PySem.W.Frag} {G G' : Hp} {W : WEnds} {D : Ends} (e : Ex G G') (h : TellsS K G W D) : TellsS K G' W D :=
  ⟨fun a b c d f g x => h.nx a b c d f g (e.trans x), fun a b c d f g x => h.rt a b c d f g (e.trans x), fun a b c d f g x => h.bk a b c d f g (e.trans x), fun a b c d f g x => h.ct a b c d f g (e.trans x)⟩
def LE (K : PySem.W.Frag) (w : WE) : TE := fun σ H Q => ∃ ρ μ G P, EnvR K G ρ σ ∧ Sm K μ G H ∧ w ρ μ P ∧ Tells K G P Q
def LT (K : PySem.W.Frag) (w : WT) : TT := fun σ H Q => ∃ ρ μ G P, EnvR K G ρ σ ∧ Sm K μ G H ∧ w ρ μ P ∧ TellsT K G P Q
def LA (K : PySem.W.Frag) (w : WA) : TA := fun σ H Q => ∃ ρ μ G P, EnvR K G ρ σ ∧ Sm K μ G H ∧ w ρ μ P ∧ TellsA K G P Q
def LS (K : PySem.W.Frag) (w : WS) : TS := fun D σ H => ∃ ρ μ G W, EnvR K G ρ σ ∧ Sm K μ G H ∧ w W ρ μ ∧ TellsS K G W D
structure DE (X : Cx) (e : Expr) (w : WE) : Prop where
  p : PE X e (LE X.K w)
structure DT (X : Cx) (e : Expr) (w : WT) : Prop where
  p : PT X e (LT X.K w)
structure DW (X : Cx) (e : Expr) (w : WT) : Prop where
  p : PW X e (LT X.K w)
structure DA (X : Cx) (es : List Expr) (w : WA) : Prop where
  p : PA X es (LA X.K w)
structure DS (X : Cx) (st : Stmt) (w : WS) : Prop where
  p : PS X st (LS X.K w)
structure DSs (X : Cx) (st : List Stmt) (w : WS) : Prop where
  p : PSs X st (LS X.K w)
section
variable {X : Cx}
theorem wkE {e : Expr} {t t' : TE} (h : PE X e t) (k : ∀ σ H Q, t' σ H Q → t σ H Q) : PE X e t' := ⟨fun pins s σ H Q I q => h.run pins s σ H Q I (k σ H Q q)⟩
theorem wkT {e : Expr} {t t' : TT} (h : PT X e t) (k : ∀ σ H Q, t' σ H Q → t σ H Q) : PT X e t' := ⟨fun pins s σ H Q I q => h.run pins s σ H Q I (k σ H Q q)⟩
theorem wkW {e : Expr} {t t' : TT} (h : PW X e t) (k : ∀ σ H Q, t' σ H Q → t σ H Q) : PW X e t' := ⟨fun wh pins s σ H Q I q => h.run wh pins s σ H Q I (k σ H Q q)⟩
theorem wkA {e : List Expr} {t t' : TA} (h : PA X e t) (k : ∀ σ H Q, t' σ H Q → t σ H Q) : PA X e t' := ⟨fun pos pins s σ H Q I q => h.run pos pins s σ H Q I (k σ H Q q)⟩
theorem wkS {e : Stmt} {t t' : TS} (h : PS X e t) (k : ∀ D σ H, t' D σ H → t D σ H) : PS X e t' := ⟨fun pins s σ H D I q => h.run pins s σ H D I (k D σ H q)⟩
theorem wkSs {e : List Stmt} {t t' : TS} (h : PSs X e t) (k : ∀ D σ H, t' D σ H → t D σ H) : PSs X e t' := ⟨fun pins s σ H D I q => h.run pins s σ H D I (k D σ H q)⟩

/-! ### names and constants -/
def wVar (i : Nat) : WE := fun ρ μ P => match ρ.getD i none with | some d => P d μ | none => False
def wC (d : D) : WE := fun _ μ P => P d μ
theorem getD_some {ρ : Env} {i : Nat} {d : D} (h : ρ.getD i none = some d) : ρ[i]? = some (some d) := by
  rw [List.getD_eq_getElem?_getD] at h
  cases q : ρ[i]? with
  | none => rw [q] at h; cases h
  | some x => rw [q] at h; exact congrArg some h
theorem de_var {i : Nat} {x : Str} {pos : Pos} (h : PE X (.Name x pos) (tVar i)) : DE X (.Name x pos) (wVar i) := ⟨wkE h fun σ H Q ⟨ρ, μ, G, P, he, hm, hw, ht⟩ => by
  unfold wVar at hw
  cases q : ρ.getD i none with
  | none => rw [q] at hw; exact hw.elim
  | some d =>
    rw [q] at hw
    obtain ⟨v, h1, h2⟩ := he.2 i d (getD_some q)
    exact ⟨v, h1, ht d μ v H G hw (Ex.refl _) hm h2⟩⟩
theorem de_c {e : Expr} {v : V} {d : D} (h : PE X e (tC v)) (r : ∀ G, Rp X.K G d v) : DE X e (wC d) := ⟨wkE h fun σ H Q ⟨ρ, μ, G, P, he, hm, hw, ht⟩ => ht d μ v H G hw (Ex.refl _) hm (r G)⟩
theorem de_int {i j pos} : DE X (.Constant (.int i) j pos) (wC (.int i)) := de_c pe_int fun _ => .int i
theorem de_bl {i j pos} : DE X (.Constant (.bool i) j pos) (wC (.bl i)) := de_c pe_bl fun _ => .bl i
theorem de_str {i j pos} : DE X (.Constant (.str i) j pos) (wC (.str i)) := de_c pe_str fun _ => .str i
theorem de_non {j pos} : DE X (.Constant .none j pos) (wC .non) := de_c pe_non fun _ => .non

/-! ### operators -/
abbrev OD := D → D → Store → (D → Store → Prop) → Prop
def OpS (X : Cx) (f : Value → Value → Sem Value) (o : OD) : Prop :=
  ∃ r, OpR X f r ∧ ∀ {x y : D} {μ : Store} {P : D → Store → Prop} {G H : Hp} {v u : V} {Q : VK}, o x y μ P → Sm X.K μ G H → Rp X.K G x v → Rp X.K G y u → Tells X.K G P Q → r v u H Q
def wOp (o : OD) (wa wb : WE) : WE := fun ρ μ P => wa ρ μ fun x μ1 => wb ρ μ1 fun y μ2 => o x y μ2 P
variable {a b c : Expr} {wa wb wc : WE} {pos : Pos}
theorem lop {r : R2} {o : OD} (hs : ∀ {x y : D} {μ : Store} {P : D → Store → Prop} {G H : Hp} {v u : V} {Q : VK}, o x y μ P → Sm X.K μ G H → Rp X.K G x v → Rp X.K G y u → Tells X.K G P Q → r v u H Q) :
    ∀ σ H Q, LE X.K (wOp o wa wb) σ H Q → tOp r (LE X.K wa) (LE X.K wb) σ H Q := fun σ H Q ⟨ρ, μ, G, P, he, hm, hw, ht⟩ =>
  ⟨ρ, μ, G, _, he, hm, hw, fun x μ1 v1 H1 G1 p1 e1 m1 r1 => ⟨ρ, μ1, G1, _, he.mono e1, m1, p1, fun y μ2 v2 H2 G2 p2 e2 m2 r2 => hs p2 m2 (r1.mono e2) r2 (ht.mono (e1.trans e2))⟩⟩
theorem de_op {op : Operator} {o : OD} (ho : OpS X (binaryOp op) o) (ha : DE X a wa) (hb : DE X b wb) : DE X (.BinOp a op b pos) (wOp o wa wb) := by
  obtain ⟨r, hr, hs⟩ := ho
  exact ⟨wkE (pe_op hr ha.p hb.p) (lop hs)⟩
theorem de_cmp {op : CmpOp} {o : OD} (ho : OpS X (compareOp op) o) (ha : DE X a wa) (hb : DE X b wb) (hm : behindInMarks op b = false) : DE X (.Compare a [op] [b] pos) (wOp o wa wb) := by
  obtain ⟨r, hr, hs⟩ := ho
  exact ⟨wkE (pe_cmpR hr ha.p hb.p hm) (lop hs)⟩
/-- a value that is a truth value, as a test -/
def wB (w : WE) : WT := fun ρ μ P => w ρ μ fun d μ1 => match d with | .bl k => P k μ1 | _ => False
theorem dt_cmp {op : CmpOp} {o : OD} (ho : OpS X (compareOp op) o) (ha : DE X a wa) (hb : DE X b wb) (hm : behindInMarks op b = false) : DT X (.Compare a [op] [b] pos) (wB (wOp o wa wb)) := by
  obtain ⟨r, hr, hs⟩ := ho
  refine ⟨wkT (pt_cmpR hr ha.p hb.p hm) fun σ H Q ⟨ρ, μ, G, P, he, hm, hw, ht⟩ => lop hs σ H _ ⟨ρ, μ, G, _, he, hm, hw, fun d μ' v H' G' p e m r => ?_⟩⟩
  cases d with
  | bl k => cases r; exact ⟨k, rfl, ht k μ' H' G' p e m⟩
  | _ => exact p.elim
/-- two comparisons in a row -/
def wChain (o o' : OD) (wa wb wc : WE) : WE := fun ρ μ P => wa ρ μ fun x μ1 => wb ρ μ1 fun y μ2 => o x y μ2 fun z μ3 => match z with
  | .bl true => wc ρ μ3 fun u μ4 => o' y u μ4 P
  | .bl false => P (.bl false) μ3
  | _ => False
theorem lchain {r r' : R2} {o o' : OD} (hs : ∀ {x y : D} {μ : Store} {P : D → Store → Prop} {G H : Hp} {v u : V} {Q : VK}, o x y μ P → Sm X.K μ G H → Rp X.K G x v → Rp X.K G y u → Tells X.K G P Q → r v u H Q)
    (hs' : ∀ {x y : D} {μ : Store} {P : D → Store → Prop} {G H : Hp} {v u : V} {Q : VK}, o' x y μ P → Sm X.K μ G H → Rp X.K G x v → Rp X.K G y u → Tells X.K G P Q → r' v u H Q) :
    ∀ σ H Q, LE X.K (wChain o o' wa wb wc) σ H Q → tChain r r' (LE X.K wa) (LE X.K wb) (LE X.K wc) σ H Q := fun σ H Q ⟨ρ, μ, G, P, he, hm, hw, ht⟩ =>
  ⟨ρ, μ, G, _, he, hm, hw, fun x μ1 v1 H1 G1 p1 e1 m1 r1 => ⟨ρ, μ1, G1, _, he.mono e1, m1, p1, fun y μ2 v2 H2 G2 p2 e2 m2 r2 => hs p2 m2 (r1.mono e2) r2 fun z μ3 v3 H3 G3 p3 e3 m3 r3 => by
    cases z with
    | bl k =>
      cases r3
      refine ⟨k, rfl, ?_⟩
      cases k with
      | true =>
        rw [if_pos rfl]
        exact ⟨ρ, μ3, G3, _, ((he.mono e1).mono e2).mono e3, m3, p3, fun u μ4 v4 H4 G4 p4 e4 m4 r4 => hs' p4 m4 ((r2.mono e3).mono e4) r4 (ht.mono (((e1.trans e2).trans e3).trans e4))⟩
      | false =>
        rw [if_neg Bool.false_ne_true]
        exact ht _ _ _ _ _ p3 ((e1.trans e2).trans e3) m3 (.bl false)
    | _ => exact p3.elim⟩⟩
theorem de_chain {op op' : CmpOp} {o o' : OD} (ho : OpS X (compareOp op) o) (ho' : OpS X (compareOp op') o') (ha : DE X a wa) (hb : DE X b wb) (hc : DE X c wc) (hm : lastMarks [op, op'] [b, c] = false) : DE X (.Compare a [op, op'] [b, c] pos) (wChain o o' wa wb wc) := by
  obtain ⟨r, hr, hs⟩ := ho
  obtain ⟨r', hr', hs'⟩ := ho'
  exact ⟨wkE (pe_chain hr hr' ha.p hb.p hc.p hm) (lchain hs hs')⟩
theorem dt_chain {op op' : CmpOp} {o o' : OD} (ho : OpS X (compareOp op) o) (ho' : OpS X (compareOp op') o') (ha : DE X a wa) (hb : DE X b wb) (hc : DE X c wc) (hm : lastMarks [op, op'] [b, c] = false) : DT X (.Compare a [op, op'] [b, c] pos) (wB (wChain o o' wa wb wc)) := by
  obtain ⟨r, hr, hs⟩ := ho
  obtain ⟨r', hr', hs'⟩ := ho'
  refine ⟨wkT (pt_chain hr hr' ha.p hb.p hc.p hm) fun σ H Q ⟨ρ, μ, G, P, he, hm, hw, ht⟩ => lchain hs hs' σ H _ ⟨ρ, μ, G, _, he, hm, hw, fun d μ' v H' G' p e m r => ?_⟩⟩
  cases d with
  | bl k => cases r; exact ⟨k, rfl, ht k μ' H' G' p e m⟩
  | _ => exact p.elim

/-! ### truth -/
theorem dt_val {e : Expr} {w : WE} (h : DE X e w) (hp : ∀ t, PE X e t → PT X e (tB t)) : DT X e (wB w) := by
  refine ⟨wkT (hp _ h.p) fun σ H Q ⟨ρ, μ, G, P, he, hm, hw, ht⟩ => ⟨ρ, μ, G, _, he, hm, hw, fun d μ' v H' G' p e m r => ?_⟩⟩
  cases d with
  | bl k => cases r; exact ⟨k, rfl, ht k μ' H' G' p e m⟩
  | _ => exact p.elim
def wAnd (t u : WT) : WT := fun ρ μ P => t ρ μ fun b μ1 => if b = true then u ρ μ1 P else P false μ1
def wOr (t u : WT) : WT := fun ρ μ P => t ρ μ fun b μ1 => if b = true then P true μ1 else u ρ μ1 P
def wNt (t : WT) : WT := fun ρ μ P => t ρ μ fun b μ1 => P (!b) μ1

theorem dt_val' {e : Expr} {w : WE} (h : DE X e w) (he : ∀ whole, isTrue e X.env whole = (do let v ← whole; standAt e.pos; holding [v] (truthy v))) : DT X e (wB w) := by
  refine ⟨wkT (pt_val h.p he) fun σ H Q ⟨ρ, μ, G, P, hr, hm, hw, ht⟩ => ⟨ρ, μ, G, _, hr, hm, hw, fun d μ' v H' G' p e m r => ?_⟩⟩
  cases d with
  | bl k => cases r; exact ⟨k, rfl, ht k μ' H' G' p e m⟩
  | _ => exact p.elim
/-- the items of what may be appended, joined, .. -/
def seqL (μ : Store) : D → Option (List D)
  | .lst xs => some xs
  | .ref a => match μ a with | some (.lst xs) => some xs | _ => none
  | _ => none
/-- .. of what is only read -/
def seqR (μ : Store) : D → Option (List D)
  | .scr xs => some xs
  | d => seqL μ d
/-- .. of a list or a tuple -/
def seqA (μ : Store) : D → Option (List D)
  | .tup xs => some xs
  | d => seqR μ d
theorem seqL_ok {K : PySem.W.Frag} {μ : Store} {G H : Hp} {d : D} {v : V} {ds : List D} (h : seqL μ d = some ds) (m : Sm K μ G H) (r : Rp K G d v) : ∃ a xs, v = .ref a ∧ H a = some (.lst xs) ∧ Rps K G ds xs := by
  cases r with
  | lst h1 r1 => cases h; exact ⟨_, _, rfl, m.ex _ _ h1, r1⟩
  | ref a =>
    unfold seqL at h
    dsimp only at h
    cases q : μ a with
    | none => rw [q] at h; cases h
    | some c =>
      rw [q] at h
      cases c with
      | lst xs => cases h; obtain ⟨_, xs, h1, r1⟩ := m.st a _ q; exact ⟨a, xs, rfl, h1, r1⟩
      | _ => cases h
  | _ => cases h
theorem seqR_ok {K : PySem.W.Frag} {μ : Store} {G H : Hp} {d : D} {v : V} {ds : List D} (h : seqR μ d = some ds) (m : Sm K μ G H) (r : Rp K G d v) : ∃ a xs, v = .ref a ∧ SqL K H a xs ∧ Rps K G ds xs := by
  by_cases q : ∃ es, d = .scr es
  · obtain ⟨es, rfl⟩ := q
    cases h
    cases r with
    | scr h1 r1 => exact ⟨_, _, rfl, h1.sq m.ex, r1⟩
  · have h' : seqL μ d = some ds := by
      cases d with
      | scr es => exact (q ⟨es, rfl⟩).elim
      | _ => exact h
    obtain ⟨a, xs, e, h1, r1⟩ := seqL_ok h' m r
    exact ⟨a, xs, e, SqL.of h1, r1⟩
theorem seqA_ok {K : PySem.W.Frag} {μ : Store} {G H : Hp} {d : D} {v : V} {ds : List D} (h : seqA μ d = some ds) (m : Sm K μ G H) (r : Rp K G d v) : ∃ a xs, v = .ref a ∧ (SqL K H a xs ∨ SqT K H a xs) ∧ Rps K G ds xs := by
  by_cases q : ∃ es, d = .tup es
  · obtain ⟨es, rfl⟩ := q
    cases h
    cases r with
    | tup h1 r1 => exact ⟨_, _, rfl, .inr (h1.sq m.ex), r1⟩
  · have h' : seqR μ d = some ds := by
      cases d with
      | tup es => exact (q ⟨es, rfl⟩).elim
      | _ => exact h
    obtain ⟨a, xs, e, h1, r1⟩ := seqR_ok h' m r
    exact ⟨a, xs, e, .inl h1, r1⟩
/-- a value's truth -/
def truD (μ : Store) : D → Option Bool
  | .non => some false
  | .bl b => some b
  | .int i => some (i != 0)
  | .str s => some ((s.length : Int) != 0)
  | .tup xs => some (!xs.isEmpty)
  | .lst xs => some (!xs.isEmpty)
  | .scr xs => some (!xs.isEmpty)
  | .dct xs => some (!xs.isEmpty)
  | .ref a => match μ a with | some (.lst xs) => some (!xs.isEmpty) | some (.dct xs) => some (!xs.isEmpty) | _ => none
  | _ => none
def okLen : D → Prop
  | .str s => s.length ≤ sizeLine
  | _ => True
theorem Rps.emp {K : PySem.W.Frag} {G : Hp} {ds : List D} {vs : List V} (r : Rps K G ds vs) : vs.isEmpty = ds.isEmpty := by cases r <;> rfl
theorem map_emp {α β : Type} (f : α → β) (l : List α) : (l.map f).isEmpty = l.isEmpty := by cases l <;> rfl
theorem emp_keys {κ α β : Type} {l : List (κ × α)} {m : List (κ × β)} (h : l.map (·.1) = m.map (·.1)) : l.isEmpty = m.isEmpty := by
  have e := congrArg List.isEmpty h
  rw [map_emp, map_emp] at e
  exact e
theorem tru_of {K : PySem.W.Frag} {μ : Store} {G H : Hp} {d : D} {v : V} {k : Bool} (h : truD μ d = some k) (hl : okLen d) (m : Sm K μ G H) (r : Rp K G d v) : TruV K v H k := by
  cases r with
  | non => cases h; rfl
  | bl b => cases h; rfl
  | int i => cases h; rfl
  | str s => cases h; exact ⟨hl, rfl⟩
  | ty n => cases h
  | tup h1 r1 => cases h; exact .inr (.inl ⟨_, h1.sq m.ex, by rw [r1.emp]⟩)
  | lst h1 r1 => cases h; exact .inl ⟨_, lst_sq m.ex h1, by rw [r1.emp]⟩
  | scr h1 r1 => cases h; exact .inl ⟨_, h1.sq m.ex, by rw [r1.emp]⟩
  | dct h1 e r1 => cases h; exact .inr (.inr ⟨_, m.ex _ _ h1, congrArg (!·) (emp_keys e).symm⟩)
  | dcl h1 e r1 => cases h
  | obj h1 e r1 => cases h
  | excN => cases h
  | excD h1 e r1 => cases h
  | ref a =>
    unfold truD at h
    dsimp only at h
    cases q : μ a with
    | none => rw [q] at h; cases h
    | some c =>
      rw [q] at h
      cases c with
      | lst xs => cases h; obtain ⟨_, xs, h1, r1⟩ := m.st a _ q; exact .inl ⟨xs, SqL.of h1, by rw [r1.emp]⟩
      | dct xs => cases h; obtain ⟨_, kvs, h1, e1, r1⟩ := m.st a _ q; exact .inr (.inr ⟨kvs, h1, congrArg (!·) (emp_keys e1).symm⟩)
      | ins C xs => cases h
def wTrv (w : WE) : WT := fun ρ μ P => w ρ μ fun d μ1 => match truD μ1 d with | some k => okLen d ∧ P k μ1 | none => False
theorem dt_tru {e : Expr} {w : WE} (h : DE X e w) (he : ∀ whole, isTrue e X.env whole = (do let v ← whole; standAt e.pos; holding [v] (truthy v))) : DT X e (wTrv w) := by
  refine ⟨wkT (pt_truth h.p he) fun σ H Q ⟨ρ, μ, G, P, hr, hm, hw, ht⟩ => ⟨ρ, μ, G, _, hr, hm, hw, fun d μ' v H' G' p e m r => ?_⟩⟩
  cases q : truD μ' d with
  | none => rw [q] at p; exact p.elim
  | some k =>
    rw [q] at p
    exact ⟨k, tru_of q p.1 m r, ht k μ' H' G' p.2 e m⟩
theorem dw_and1 {t : WT} (h : DT X a t) : DW X (.BoolOp .And [a] pos) t := ⟨pw_and1 h.p⟩
theorem dw_or1 {t : WT} (h : DT X a t) : DW X (.BoolOp .Or [a] pos) t := ⟨pw_or1 h.p⟩
theorem dw_and {t u : WT} {rest : List Expr} (h : DT X a t) (k : DW X (.BoolOp .And (b :: rest) pos) u) : DW X (.BoolOp .And (a :: b :: rest) pos) (wAnd t u) :=
  ⟨wkW (pw_and h.p k.p) fun σ H Q ⟨ρ, μ, G, P, he, hm, hw, ht⟩ => ⟨ρ, μ, G, _, he, hm, hw, fun b μ1 H1 G1 p e m => by
    cases b with
    | true => rw [if_pos rfl] at p ⊢; exact ⟨ρ, μ1, G1, P, he.mono e, m, p, ht.mono e⟩
    | false => rw [if_neg Bool.false_ne_true] at p ⊢; exact ht _ _ _ _ p e m⟩⟩
theorem dw_or {t u : WT} {rest : List Expr} (h : DT X a t) (k : DW X (.BoolOp .Or (b :: rest) pos) u) : DW X (.BoolOp .Or (a :: b :: rest) pos) (wOr t u) :=
  ⟨wkW (pw_or h.p k.p) fun σ H Q ⟨ρ, μ, G, P, he, hm, hw, ht⟩ => ⟨ρ, μ, G, _, he, hm, hw, fun b μ1 H1 G1 p e m => by
    cases b with
    | false => rw [if_neg Bool.false_ne_true] at p ⊢; exact ⟨ρ, μ1, G1, P, he.mono e, m, p, ht.mono e⟩
    | true => rw [if_pos rfl] at p ⊢; exact ht _ _ _ _ p e m⟩⟩
theorem dt_w {t : WT} (h : DW X a t) : DT X a t := ⟨h.p.pt⟩
theorem dt_not {t : WT} (h : DT X a t) : DT X (.UnaryOp .Not a pos) (wNt t) :=
  ⟨wkT (pt_not h.p) fun σ H Q ⟨ρ, μ, G, P, he, hm, hw, ht⟩ => ⟨ρ, μ, G, _, he, hm, hw, fun b μ1 H1 G1 p e m => ht _ _ _ _ p e m⟩⟩
/-- and, or, not as values -/
def wAndV (wa wb : WE) : WE := fun ρ μ P => wa ρ μ fun d μ1 => match d with | .bl true => wb ρ μ1 P | .bl false => P (.bl false) μ1 | _ => False
def wOrV (wa wb : WE) : WE := fun ρ μ P => wa ρ μ fun d μ1 => match d with | .bl false => wb ρ μ1 P | .bl true => P (.bl true) μ1 | _ => False
def wNotV (wa : WE) : WE := fun ρ μ P => wa ρ μ fun d μ1 => match d with | .bl b => P (.bl (!b)) μ1 | _ => False
theorem de_one {op} (h : DE X a wa) : DE X (.BoolOp op [a] pos) wa := ⟨pe_one h.p⟩
theorem de_and {rest : List Expr} (h : DE X a wa) (k : DE X (.BoolOp .And (b :: rest) pos) wb) : DE X (.BoolOp .And (a :: b :: rest) pos) (wAndV wa wb) :=
  ⟨wkE (pe_and h.p k.p) fun σ H Q ⟨ρ, μ, G, P, he, hm, hw, ht⟩ => ⟨ρ, μ, G, _, he, hm, hw, fun d μ1 v H1 G1 p e m r => by
    cases d with
    | bl k =>
      cases r
      refine ⟨k, rfl, ?_⟩
      cases k with
      | true => rw [if_pos rfl]; exact ⟨ρ, μ1, G1, P, he.mono e, m, p, ht.mono e⟩
      | false => rw [if_neg Bool.false_ne_true]; exact ht _ _ _ _ _ p e m (.bl _)
    | _ => exact p.elim⟩⟩
theorem de_or {rest : List Expr} (h : DE X a wa) (k : DE X (.BoolOp .Or (b :: rest) pos) wb) : DE X (.BoolOp .Or (a :: b :: rest) pos) (wOrV wa wb) :=
  ⟨wkE (pe_or h.p k.p) fun σ H Q ⟨ρ, μ, G, P, he, hm, hw, ht⟩ => ⟨ρ, μ, G, _, he, hm, hw, fun d μ1 v H1 G1 p e m r => by
    cases d with
    | bl k =>
      cases r
      refine ⟨k, rfl, ?_⟩
      cases k with
      | false => rw [if_neg Bool.false_ne_true]; exact ⟨ρ, μ1, G1, P, he.mono e, m, p, ht.mono e⟩
      | true => rw [if_pos rfl]; exact ht _ _ _ _ _ p e m (.bl _)
    | _ => exact p.elim⟩⟩
theorem de_not (h : DE X a wa) : DE X (.UnaryOp .Not a pos) (wNotV wa) :=
  ⟨wkE (pe_not h.p) fun σ H Q ⟨ρ, μ, G, P, he, hm, hw, ht⟩ => ⟨ρ, μ, G, _, he, hm, hw, fun d μ1 v H1 G1 p e m r => by
    cases d with
    | bl k => cases r; exact ⟨k, rfl, ht _ _ _ _ _ p e m (.bl _)⟩
    | _ => exact p.elim⟩⟩
def wIf (t : WT) (wa wb : WE) : WE := fun ρ μ P => t ρ μ fun b μ1 => if b = true then wa ρ μ1 P else wb ρ μ1 P
theorem de_if {t : WT} (h : DT X c t) (ha : DE X a wa) (hb : DE X b wb) : DE X (.IfExp c a b pos) (wIf t wa wb) :=
  ⟨wkE (pe_ifExp h.p ha.p hb.p) fun σ H Q ⟨ρ, μ, G, P, he, hm, hw, ht⟩ => ⟨ρ, μ, G, _, he, hm, hw, fun b μ1 H1 G1 p e m => by
    cases b with
    | true => rw [if_pos rfl] at p ⊢; exact ⟨ρ, μ1, G1, P, he.mono e, m, p, ht.mono e⟩
    | false => rw [if_neg Bool.false_ne_true] at p ⊢; exact ⟨ρ, μ1, G1, P, he.mono e, m, p, ht.mono e⟩⟩⟩

/-! ### argument lists, displays -/
def wANil : WA := fun _ μ P => P [] μ
def wACons (w : WE) (r : WA) : WA := fun ρ μ P => w ρ μ fun x μ1 => r ρ μ1 fun xs μ2 => P (x :: xs) μ2
variable {es : List Expr} {wr : WA}
theorem da_nil : DA X [] wANil := ⟨wkA pa_nil fun σ H Q ⟨ρ, μ, G, P, he, hm, hw, ht⟩ => ht _ _ _ _ _ hw (Ex.refl _) hm .nil⟩
theorem da_cons (h : DE X a wa) (k : DA X es wr) (hs : starEach (a :: es) X.env = (false, eval a X.env) :: starEach es X.env := by rfl) : DA X (a :: es) (wACons wa wr) :=
  ⟨wkA (pa_cons h.p k.p hs) fun σ H Q ⟨ρ, μ, G, P, he, hm, hw, ht⟩ => ⟨ρ, μ, G, _, he, hm, hw, fun x μ1 v1 H1 G1 p1 e1 m1 r1 =>
    ⟨ρ, μ1, G1, _, he.mono e1, m1, p1, fun xs μ2 vs H2 G2 p2 e2 m2 r2 => ht _ _ _ _ _ p2 (e1.trans e2) m2 (.cons (r1.mono e2) r2)⟩⟩⟩
def wTup (w : WA) : WE := fun ρ μ P => w ρ μ fun xs μ1 => xs.length ≤ sizeLine ∧ P (.tup xs) μ1
/-- a list that stays as it is -/
def wLst (w : WA) : WE := fun ρ μ P => w ρ μ fun xs μ1 => xs.length ≤ sizeLine ∧ P (.lst xs) μ1
/-- a list that may change -/
def wLstM (w : WA) : WE := fun ρ μ P => w ρ μ fun xs μ1 => xs.length ≤ sizeLine ∧ ∀ p, μ1 p = none → P (.ref p) (setS μ1 p (.lst xs))
theorem new_tup {K : PySem.W.Frag} {μ : Store} {G H : Hp} {ds : List D} {xs : List V} {P : D → Store → Prop} {Q : VK} (m : Sm K μ G H) (r : Rps K G ds xs) (h : P (.tup ds) μ) (t : Tells K G P Q) : ∀ p, H p = none → Q (.ref p) (upd H p (.tup xs)) := fun p hp => by
  obtain ⟨m2, e2⟩ := m.frozen hp (.tup xs)
  exact t _ _ _ _ _ h e2 m2 (.tup (.inl upd_same) (r.mono e2))
theorem new_lst {K : PySem.W.Frag} {μ : Store} {G H : Hp} {ds : List D} {xs : List V} {P : D → Store → Prop} {Q : VK} (m : Sm K μ G H) (r : Rps K G ds xs) (h : P (.lst ds) μ) (t : Tells K G P Q) : ∀ p, H p = none → Q (.ref p) (upd H p (.lst xs)) := fun p hp => by
  obtain ⟨m2, e2⟩ := m.frozen hp (.lst xs)
  exact t _ _ _ _ _ h e2 m2 (.lst upd_same (r.mono e2))
theorem new_lstM {K : PySem.W.Frag} {μ : Store} {G H : Hp} {ds : List D} {xs : List V} {P : D → Store → Prop} {Q : VK} (m : Sm K μ G H) (r : Rps K G ds xs) (h : ∀ p, μ p = none → P (.ref p) (setS μ p (.lst ds))) (t : Tells K G P Q) : ∀ p, H p = none → Q (.ref p) (upd H p (.lst xs)) := fun p hp =>
  t _ _ _ _ _ (h p (m.nn hp)) (Ex.refl _) (m.write (m.ex.nn hp) ⟨xs, upd_same, r⟩) (.ref p)
theorem de_tup {x1} (h : DA X es wr) : DE X (.Tuple es x1 pos) (wTup wr) :=
  ⟨wkE (pe_tup h.p) fun σ H Q ⟨ρ, μ, G, P, he, hm, hw, ht⟩ => ⟨ρ, μ, G, _, he, hm, hw, fun xs μ1 vs H1 G1 p1 e1 m1 r1 => ⟨by rw [← r1.length]; exact p1.1, new_tup m1 r1 p1.2 (ht.mono e1)⟩⟩⟩
theorem de_lst (h : DA X es wr) : DE X (.List es pos) (wLst wr) :=
  ⟨wkE (pe_lst h.p) fun σ H Q ⟨ρ, μ, G, P, he, hm, hw, ht⟩ => ⟨ρ, μ, G, _, he, hm, hw, fun xs μ1 vs H1 G1 p1 e1 m1 r1 => ⟨by rw [← r1.length]; exact p1.1, new_lst m1 r1 p1.2 (ht.mono e1)⟩⟩⟩
theorem de_lstM (h : DA X es wr) : DE X (.List es pos) (wLstM wr) :=
  ⟨wkE (pe_lst h.p) fun σ H Q ⟨ρ, μ, G, P, he, hm, hw, ht⟩ => ⟨ρ, μ, G, _, he, hm, hw, fun xs μ1 vs H1 G1 p1 e1 m1 r1 => ⟨by rw [← r1.length]; exact p1.1, new_lstM m1 r1 p1.2 (ht.mono e1)⟩⟩⟩
end
end Dl

namespace Dl
open PySem L2
section
variable {X : Cx}
theorem OpR3 {f : Value → Value → Sem Value} {r r' : R2} (h : OpR X f r) (h' : OpR X f r') : OpR X f (fun x y H Q => r x y H Q ∨ r' x y H Q) := h.or h'
/-! ### + -/
def oAdd : OD := fun x y μ P => match x, y with
  | .int i, .int j => P (.int (i + j)) μ
  | .str i, .str j => i.length + j.length ≤ sizeLine ∧ P (.str (i ++ j)) μ
  | .tup xs, .tup ys => xs.length + ys.length ≤ sizeLine ∧ P (.tup (xs ++ ys)) μ
  | x, y => match seqL μ x, seqL μ y with
    | some xs, some ys => xs.length + ys.length ≤ sizeLine ∧ P (.lst (xs ++ ys)) μ
    | _, _ => False
/-- .. of lists, the sum may change -/
def oAddM : OD := fun x y μ P => match seqL μ x, seqL μ y with
    | some xs, some ys => xs.length + ys.length ≤ sizeLine ∧ ∀ p, μ p = none → P (.ref p) (setS μ p (.lst (xs ++ ys)))
    | _, _ => False
theorem os_add : OpS X (binaryOp .Add) oAdd := by
  refine ⟨_, op_add.or (op_add_str.or (op_catA.or op_cat)), ?_⟩
  intro x y μ P G H v u Q h m rx ry t
  unfold oAdd at h
  split at h
  · cases rx
    cases ry
    exact .inl ⟨_, _, rfl, rfl, t _ _ _ _ _ h (Ex.refl _) m (.int _)⟩
  · cases rx
    cases ry
    exact .inr (.inl ⟨_, _, rfl, rfl, h.1, t _ _ _ _ _ h.2 (Ex.refl _) m (.str _)⟩)
  · cases rx with
    | tup hx r1 =>
      cases ry with
      | tup hy r2 =>
        refine .inr (.inr (.inl ⟨_, _, _, _, rfl, rfl, hx.sq m.ex, hy.sq m.ex, by rw [← r1.length, ← r2.length]; exact h.1, fun e => ?_, fun _ e => ?_, fun _ _ => new_tup m (r1.append r2) h.2 t⟩))
        · subst e
          cases r1
          exact t _ _ _ _ _ h.2 (Ex.refl _) m (.tup hy r2)
        · subst e
          cases r2
          refine t _ _ _ _ _ h.2 (Ex.refl _) m (.tup hx ?_)
          rw [List.append_nil]
          exact r1
  · split at h
    · rename_i xs ys e1 e2
      obtain ⟨a, vs, rfl, h1, r1⟩ := seqL_ok e1 m rx
      obtain ⟨b, us, rfl, h2, r2⟩ := seqL_ok e2 m ry
      exact .inr (.inr (.inr ⟨_, _, _, _, rfl, rfl, h1, h2, by rw [← r1.length, ← r2.length]; exact h.1, new_lst m (r1.append r2) h.2 t⟩))
    · exact h.elim
theorem os_addM : OpS X (binaryOp .Add) oAddM := by
  refine ⟨_, op_cat, ?_⟩
  intro x y μ P G H v u Q h m rx ry t
  unfold oAddM at h
  split at h
  · rename_i xs ys e1 e2
    obtain ⟨a, vs, rfl, h1, r1⟩ := seqL_ok e1 m rx
    obtain ⟨b, us, rfl, h2, r2⟩ := seqL_ok e2 m ry
    exact ⟨_, _, _, _, rfl, rfl, h1, h2, by rw [← r1.length, ← r2.length]; exact h.1, new_lstM m (r1.append r2) h.2 t⟩
  · exact h.elim
/-! ### ints -/
def oI (C : Int → Int → Prop) (g : Int → Int → D) : OD := fun x y μ P => match x, y with
  | .int i, .int j => C i j ∧ P (g i j) μ
  | _, _ => False
theorem osI {f : Value → Value → Sem Value} {C : Int → Int → Prop} {g : Int → Int → V} {gd : Int → Int → D} (h : OpR X f (rI C g)) (hg : ∀ G i j, Rp X.K G (gd i j) (g i j)) : OpS X f (oI C gd) := by
  refine ⟨_, h, ?_⟩
  intro x y μ P G H v u Q h m rx ry t
  unfold oI at h
  split at h
  · cases rx
    cases ry
    exact ⟨_, _, rfl, rfl, h.1, t _ _ _ _ _ h.2 (Ex.refl _) m (hg _ _ _)⟩
  · exact h.elim
def oI0 (g : Int → Int → D) : OD := fun x y μ P => match x, y with
  | .int i, .int j => P (g i j) μ
  | _, _ => False
theorem osI0 {f : Value → Value → Sem Value} {g : Int → Int → V} {gd : Int → Int → D} (h : OpR X f (rI0 g)) (hg : ∀ G i j, Rp X.K G (gd i j) (g i j)) : OpS X f (oI0 gd) := by
  refine ⟨_, h, ?_⟩
  intro x y μ P G H v u Q h m rx ry t
  unfold oI0 at h
  split at h
  · cases rx
    cases ry
    exact ⟨_, _, rfl, rfl, t _ _ _ _ _ h (Ex.refl _) m (hg _ _ _)⟩
  · exact h.elim
def oSub : OD := oI0 fun i j => .int (i - j)
def oFdiv : OD := oI (fun _ j => 0 < j ∧ j < 1073741824) fun i j => .int (i / j)
def oMod : OD := oI (fun _ j => 0 < j) fun i j => .int (i % j)
def oPow : OD := oI (fun i j => 0 ≤ j ∧ j ≤ 1000000 ∧ i.natAbs < 2 ^ 64) fun i j => .int (i ^ j.toNat)
theorem os_sub : OpS X (binaryOp .Sub) oSub := osI0 op_sub fun _ _ _ => .int _
theorem os_fdiv : OpS X (binaryOp .FloorDiv) oFdiv := osI op_fdiv fun _ _ _ => .int _
theorem os_mod : OpS X (binaryOp .Mod) oMod := osI op_mod fun _ _ _ => .int _
theorem os_pow : OpS X (binaryOp .Pow) oPow := osI op_pow fun _ _ _ => .int _
/-- * of ints, of a list and an int -/
def oMul : OD := fun x y μ P => match x, y with
  | .int i, .int j => ((-(2 ^ 64) < i ∧ i < 2 ^ 64) ∨ (-(2 ^ 64) < j ∧ j < 2 ^ 64)) ∧ P (.int (i * j)) μ
  | x, .int k => match seqL μ x with
    | some xs => (-(2 ^ 63) ≤ k ∧ k < 2 ^ 63 ∧ xs.length * k.toNat ≤ sizeLine) ∧ P (.lst (List.replicate k.toNat xs).flatten) μ
    | none => False
  | _, _ => False
def oMulM : OD := fun x y μ P => match seqL μ x, y with
  | some xs, .int k => (-(2 ^ 63) ≤ k ∧ k < 2 ^ 63 ∧ xs.length * k.toNat ≤ sizeLine) ∧ ∀ p, μ p = none → P (.ref p) (setS μ p (.lst (List.replicate k.toNat xs).flatten))
  | _, _ => False
theorem Rps.rep {K : PySem.W.Frag} {G : Hp} {ds : List D} {vs : List V} (r : Rps K G ds vs) : ∀ k : Nat, Rps K G (List.replicate k ds).flatten (List.replicate k vs).flatten
  | 0 => .nil
  | k + 1 => by
    rw [List.replicate_succ, List.replicate_succ, List.flatten_cons, List.flatten_cons]
    exact r.append (Rps.rep r k)
theorem os_mul : OpS X (binaryOp .Mult) oMul := by
  refine ⟨_, op_mul.or op_rep, ?_⟩
  intro x y μ P G H v u Q h m rx ry t
  unfold oMul at h
  split at h
  · cases rx
    cases ry
    exact .inl ⟨_, _, rfl, rfl, h.1, t _ _ _ _ _ h.2 (Ex.refl _) m (.int _)⟩
  · split at h
    · rename_i xs e
      cases ry
      obtain ⟨a, vs, rfl, h1, r1⟩ := seqL_ok e m rx
      refine .inr ⟨_, _, _, rfl, rfl, h1, h.1.1, h.1.2.1, by rw [← r1.length]; exact h.1.2.2, ?_⟩
      exact new_lst m (r1.rep _) h.2 t
    · exact h.elim
  · exact h.elim
theorem os_mulM : OpS X (binaryOp .Mult) oMulM := by
  refine ⟨_, op_rep, ?_⟩
  intro x y μ P G H v u Q h m rx ry t
  unfold oMulM at h
  split at h
  · rename_i xs k e
    cases ry
    obtain ⟨a, vs, rfl, h1, r1⟩ := seqL_ok e m rx
    exact ⟨_, _, _, rfl, rfl, h1, h.1.1, h.1.2.1, by rw [← r1.length]; exact h.1.2.2, new_lstM m (r1.rep _) h.2 t⟩
  · exact h.elim
/-! ### comparisons -/
def oLt : OD := oI0 fun i j => .bl (decide (i < j))
def oLe : OD := oI0 fun i j => .bl (decide (i ≤ j))
def oGt : OD := oI0 fun i j => .bl (decide (j < i))
def oGe : OD := oI0 fun i j => .bl (decide (j ≤ i))
theorem os_lt : OpS X (compareOp .Lt) oLt := osI0 op_lt fun _ _ _ => .bl _
theorem os_le : OpS X (compareOp .LtE) oLe := osI0 op_le fun _ _ _ => .bl _
theorem os_gt : OpS X (compareOp .Gt) oGt := osI0 op_gt fun _ _ _ => .bl _
theorem os_ge : OpS X (compareOp .GtE) oGe := osI0 op_ge fun _ _ _ => .bl _
/- data as PyData -/
mutual
def pyD : D → Option PyData
  | .non => some .none
  | .bl b => some (.bool b)
  | .int i => some (.int i)
  | .str s => some (.str s)
  | .tup xs => (pyDs xs).map .tuple
  | .lst xs => (pyDs xs).map .list
  | .scr xs => (pyDs xs).map .list
  | _ => none
def pyDs : List D → Option (List PyData)
  | [] => some []
  | x :: xs => match pyD x, pyDs xs with | some a, some b => some (a :: b) | _, _ => none
end
def pyS (μ : Store) : D → Option PyData
  | .ref a => match μ a with | some (.lst xs) => (pyDs xs).map .list | _ => none
  | d => pyD d
mutual
theorem pyD_ok {K : PySem.W.Frag} {G H : Hp} (e : Ex G H) : ∀ {d : D} {v : V} {p : PyData}, Rp K G d v → pyD d = some p → Dp K H v p
  | _, _, _, .non, h => by cases h; exact .non
  | _, _, _, .bl b, h => by cases h; exact .bl b
  | _, _, _, .int i, h => by cases h; exact .int i
  | _, _, _, .str s, h => by cases h; exact .str s
  | _, _, _, .ty n, h => by cases h
  | _, _, _, .ref a, h => by cases h
  | _, _, p, .tup (ds := ds) h1 r, h => by
    have h' : (pyDs ds).map PyData.tuple = some p := h
    cases q : pyDs ds with
    | none => rw [q] at h'; cases h'
    | some ps => rw [q] at h'; cases h'; exact .tup (h1.sq e) (pyDs_ok e r q)
  | _, _, p, .lst (ds := ds) h1 r, h => by
    have h' : (pyDs ds).map PyData.list = some p := h
    cases q : pyDs ds with
    | none => rw [q] at h'; cases h'
    | some ps => rw [q] at h'; cases h'; exact .lst (lst_sq e h1) (pyDs_ok e r q)
  | _, _, p, .scr (ds := ds) h1 r, h => by
    have h' : (pyDs ds).map PyData.list = some p := h
    cases q : pyDs ds with
    | none => rw [q] at h'; cases h'
    | some ps => rw [q] at h'; cases h'; exact .lst (h1.sq e) (pyDs_ok e r q)
  | _, _, _, .dct h1 k r, h => by cases h
  | _, _, _, .dcl h1 k r, h => by cases h
  | _, _, _, .obj h1 k r, h => by cases h
  | _, _, _, .excN _ _, h => by cases h
  | _, _, _, .excD _ _ _, h => by cases h
theorem pyDs_ok {K : PySem.W.Frag} {G H : Hp} (e : Ex G H) : ∀ {ds : List D} {vs : List V} {ps : List PyData}, Rps K G ds vs → pyDs ds = some ps → DpAll K H vs ps
  | _, _, _, .nil, h => by cases h; exact .nil
  | _, _, ps, .cons (d := d) (ds := ds) h1 r, h => by
    have h' : (match pyD d, pyDs ds with | some a, some b => some (a :: b) | _, _ => none) = some ps := h
    cases q : pyD d with
    | none => rw [q] at h'; cases h'
    | some a =>
      cases q2 : pyDs ds with
      | none => rw [q, q2] at h'; cases h'
      | some b => rw [q, q2] at h'; cases h'; exact .cons (pyD_ok e h1 q) (pyDs_ok e r q2)
end
theorem pyS_ok {K : PySem.W.Frag} {μ : Store} {G H : Hp} (m : Sm K μ G H) {d : D} {v : V} {p : PyData} (r : Rp K G d v) (h : pyS μ d = some p) : Dp K H v p := by
  by_cases q : ∃ a, d = .ref a
  · obtain ⟨a, rfl⟩ := q
    cases r
    unfold pyS at h
    dsimp only at h
    split at h
    · rename_i xs e
      obtain ⟨_, vs, h1, r1⟩ := m.st a _ e
      cases q : pyDs xs with
      | none => rw [q] at h; cases h
      | some ps => rw [q] at h; cases h; exact .lst (SqL.of h1) (pyDs_ok m.ex r1 q)
    · cases h
  · have h' : pyD d = some p := by
      cases d with
      | ref a => exact (q ⟨a, rfl⟩).elim
      | _ => exact h
    exact pyD_ok m.ex r h'
/-- equality of plain values -/
def scD : D → D → Option Bool
  | .str i, .str j => some (i == j)
  | .int i, .int j => some (i == j)
  | .bl i, .bl j => some (i == j)
  | .non, .non => some true
  | .non, .str _ => some false | .str _, .non => some false | .non, .int _ => some false | .int _, .non => some false
  | .int _, .str _ => some false | .str _, .int _ => some false
  | _, _ => none
theorem scD_ok {K : PySem.W.Frag} {G : Hp} {x y : D} {v u : V} {b : Bool} (h : scD x y = some b) (rx : Rp K G x v) (ry : Rp K G y u) : scal v u = true ∧ decide (v = u) = b := by
  unfold scD at h
  split at h <;> first | (cases h; cases rx; cases ry; first | exact ⟨rfl, dec_str⟩ | exact ⟨rfl, dec_int⟩ | exact ⟨rfl, dec_bl⟩ | exact ⟨rfl, by simp⟩) | cases h
def oEq : OD := fun x y μ P => match scD x y with
  | some b => P (.bl b) μ
  | none => match pyS μ x, pyS μ y with
    | some d, some e => SeqAt.shaped d = true ∧ SeqAt.shaped e = true ∧ P (.bl (PyData.eqv d e)) μ
    | _, _ => False
def oNe : OD := fun x y μ P => match scD x y with
  | some b => P (.bl (!b)) μ
  | none => match pyS μ x, pyS μ y with
    | some d, some e => SeqAt.shaped d = true ∧ SeqAt.shaped e = true ∧ P (.bl (!PyData.eqv d e)) μ
    | _, _ => False
theorem os_eq (hu : X.A.units + 64 < cLine) : OpS X (compareOp .Eq) oEq := by
  refine ⟨_, op_eq.or (op_eqD hu), ?_⟩
  intro x y μ P G H v u Q h m rx ry t
  unfold oEq at h
  split at h
  · rename_i b hb
    obtain ⟨h1, h2⟩ := scD_ok hb rx ry
    exact .inl ⟨h1, t _ _ _ _ _ h (Ex.refl _) m (by rw [h2]; exact .bl _)⟩
  · split at h
    · rename_i d e h1 h2
      exact .inr ⟨d, e, pyS_ok m rx h1, pyS_ok m ry h2, h.1, h.2.1, t _ _ _ _ _ h.2.2 (Ex.refl _) m (.bl _)⟩
    · exact h.elim
theorem os_ne (hu : X.A.units + 64 < cLine) : OpS X (compareOp .NotEq) oNe := by
  refine ⟨_, op_ne.or (op_neD hu), ?_⟩
  intro x y μ P G H v u Q h m rx ry t
  unfold oNe at h
  split at h
  · rename_i b hb
    obtain ⟨h1, h2⟩ := scD_ok hb rx ry
    exact .inl ⟨h1, t _ _ _ _ _ h (Ex.refl _) m (by rw [h2]; exact .bl _)⟩
  · split at h
    · rename_i d e h1 h2
      exact .inr ⟨d, e, pyS_ok m rx h1, pyS_ok m ry h2, h.1, h.2.1, t _ _ _ _ _ h.2.2 (Ex.refl _) m (.bl _)⟩
    · exact h.elim
end
end Dl

namespace Dl
open PySem L2
/-! ### targets -/
abbrev WG := D → Env → Store → (Env → Store → Prop) → Prop
abbrev WGs := List D → Env → Store → (Env → Store → Prop) → Prop
def TellsN (K : PySem.W.Frag) (G : Hp) (P : Env → Store → Prop) (Q : L2.St → Hp → Prop) : Prop := ∀ ρ' μ' σ' H' G', P ρ' μ' → Ex G G' → EnvR K G' ρ' σ' → Sm K μ' G' H' → Q σ' H'
theorem TellsN.mono {K : PySem.W.Frag} {G G' : Hp} {P : Env → Store → Prop} {Q : L2.St → Hp → Prop} (e : Ex G G') (h : TellsN K G P Q) : TellsN K G' P Q := fun a b c d f g x => h a b c d f g (e.trans x)
/-- what a target does, told of data; vs: the places that it stores -/
def GPat (K : PySem.W.Frag) (vs : List Nat) (g : TG) (wg : WG) : Prop := ∀ {v : V} {σ : L2.St} {H : Hp} {Q : L2.St → Hp → Prop} {ρ : Env} {μ : Store} {G : Hp} {d : D} {P : Env → Store → Prop},
  EnvR K G ρ σ → Sm K μ G H → Rp K G d v → wg d ρ μ P → (∀ ρ' μ' σ' H' G', P ρ' μ' → Ex G G' → EnvR K G' ρ' σ' → Sm K μ' G' H' → wipe σ' vs = wipe σ vs → Q σ' H') → g v σ H Q
def GPats (K : PySem.W.Frag) (vs : List Nat) (g : TGs) (wg : WGs) : Prop := ∀ {v : List V} {σ : L2.St} {H : Hp} {Q : L2.St → Hp → Prop} {ρ : Env} {μ : Store} {G : Hp} {d : List D} {P : Env → Store → Prop},
  EnvR K G ρ σ → Sm K μ G H → Rps K G d v → wg d ρ μ P → (∀ ρ' μ' σ' H' G', P ρ' μ' → Ex G G' → EnvR K G' ρ' σ' → Sm K μ' G' H' → wipe σ' vs = wipe σ vs → Q σ' H') → g v σ H Q
def wgName (i : Nat) : WG := fun d ρ μ P => P (ρ.set i (some d)) μ
theorem wipe_set {i : Nat} {x : Option V} : ∀ {vs : List Nat} {σ : L2.St}, i ∈ vs → wipe (σ.set i x) vs = wipe σ vs
  | v :: vs, σ, h => by
    unfold wipe
    by_cases e : i = v
    · subst e
      by_cases hm : i ∈ vs
      · rw [wipe_set hm]
      · have key : ∀ (ws : List Nat), wipe (σ.set i x) ws = if i ∈ ws then wipe σ ws else (wipe σ ws).set i x := by
          intro ws
          induction ws with
          | nil => rw [if_neg (by simp)]; rfl
          | cons w ws ih =>
            unfold wipe
            rw [ih]
            by_cases h1 : i ∈ ws
            · rw [if_pos h1, if_pos (List.mem_cons_of_mem _ h1)]
            · rw [if_neg h1]
              by_cases h2 : i = w
              · subst h2
                rw [if_pos List.mem_cons_self, List.set_set]
              · rw [if_neg (by simp [h1, h2]), List.set_comm _ _ h2]
        rw [key vs, if_neg hm, List.set_set]
    · rcases List.mem_cons.mp h with h | h
      · exact absurd h e
      · rw [wipe_set h]
theorem wipe_wipe {σ : L2.St} : ∀ {ws vs : List Nat}, (∀ i ∈ ws, i ∈ vs) → wipe (wipe σ ws) vs = wipe σ vs
  | [], _, _ => rfl
  | w :: ws, vs, h => by
    show wipe ((wipe σ ws).set w none) vs = wipe σ vs
    rw [wipe_set (h w List.mem_cons_self), wipe_wipe fun i hi => h i (List.mem_cons_of_mem _ hi)]
theorem gp_name {K : PySem.W.Frag} {vs : List Nat} {i : Nat} (h : i ∈ vs) : GPat K vs (gName i) (wgName i) := fun he hm r hw k => k _ _ _ _ _ hw (Ex.refl _) (he.set i r) hm (wipe_set h)
def wgNil : WGs := fun ds ρ μ P => ds = [] ∧ P ρ μ
def wgCons (g : WG) (r : WGs) : WGs := fun ds ρ μ P => match ds with | d :: ds => g d ρ μ fun ρ1 μ1 => r ds ρ1 μ1 P | [] => False
def wgTup (n : Nat) (g : WGs) : WG := fun d ρ μ P => match d with | .tup ds => ds.length = n ∧ g ds ρ μ P | _ => False
theorem gp_nil {K : PySem.W.Frag} {vs : List Nat} : GPats K vs gNil wgNil := fun he hm r hw k => by
  obtain ⟨rfl, hw⟩ := hw
  cases r
  exact ⟨rfl, k _ _ _ _ _ hw (Ex.refl _) he hm rfl⟩
theorem gp_cons {K : PySem.W.Frag} {vs : List Nat} {g : TG} {wg : WG} {gs : TGs} {wgs : WGs} (h : GPat K vs g wg) (hs : GPats K vs gs wgs) : GPats K vs (gCons g gs) (wgCons wg wgs) := fun he hm r hw k => by
  cases r with
  | nil => exact hw.elim
  | cons r1 r2 => exact ⟨_, _, rfl, h he hm r1 hw fun ρ' μ' σ' H' G' p e he' hm' q => hs he' hm' (r2.mono e) p fun ρ2 μ2 σ2 H2 G2 p2 e2 he2 hm2 q2 => k _ _ _ _ _ p2 (e.trans e2) he2 hm2 (q2.trans q)⟩
theorem gp_tup {K : PySem.W.Frag} {vs : List Nat} {n : Nat} {gs : TGs} {wgs : WGs} (hs : GPats K vs gs wgs) : GPat K vs (gTup K n gs) (wgTup n wgs) := fun {v σ H Q ρ μ G d P} he hm r hw k => by
  cases r with
  | tup h1 r1 => exact ⟨_, _, rfl, h1.sq hm.ex, by rw [← r1.length]; exact hw.1, hs he hm r1 hw.2 k⟩
  | _ => exact hw.elim
/-- a target by its reading -/
def LG (K : PySem.W.Frag) (wg : WG) : TG := fun v σ H Q => ∃ ρ μ G d P, EnvR K G ρ σ ∧ Sm K μ G H ∧ Rp K G d v ∧ wg d ρ μ P ∧ TellsN K G P Q
structure DG (X : Cx) (tg : Expr) (wg : WG) : Prop where
  p : PG X tg (LG X.K wg)
section
variable {X : Cx}
theorem wkG {tg : Expr} {t t' : TG} (h : PG X tg t) (k : ∀ v σ H Q, t' v σ H Q → t v σ H Q) : PG X tg t' := ⟨fun pins s σ H v u Q I r q => h.run pins s σ H v u Q I r (k v σ H Q q)⟩
theorem dg_pat {tg : Expr} {vs : List Nat} {g : TG} {wg : WG} (h : PG X tg g) (k : GPat X.K vs g wg) : DG X tg wg := ⟨wkG h fun v σ H Q ⟨ρ, μ, G, d, P, he, hm, r, hw, ht⟩ => k he hm r hw fun ρ' μ' σ' H' G' p e he' hm' _ => ht _ _ _ _ _ p e he' hm'⟩

/-! ### o[i] = v -/
def putD {κ β : Type} [DecidableEq κ] (kvs : List (κ × β)) (k : κ) (v : β) : List (κ × β) :=
  if (kvs.any fun kv => decide (kv.1 = k)) = true then kvs.map (fun kv => if kv.1 = k then (kv.1, v) else kv) else kvs ++ [(k, v)]
theorem any_keys {κ α β : Type} [DecidableEq κ] (k : κ) : ∀ {l : List (κ × α)} {m : List (κ × β)}, l.map (·.1) = m.map (·.1) → (l.any fun kv => decide (kv.1 = k)) = m.any fun kv => decide (kv.1 = k)
  | [], [], _ => rfl
  | [], _ :: _, e => by simp at e
  | _ :: _, [], e => by simp at e
  | a :: l, b :: m, e => by
    have e1 : a.1 = b.1 ∧ l.map (·.1) = m.map (·.1) := by simpa using e
    rw [List.any_cons, List.any_cons, e1.1, any_keys k e1.2]
theorem mapput_keys {κ : Type} [DecidableEq κ] {K : PySem.W.Frag} {G : Hp} {k : κ} {d : D} {v : V} (hd : Rp K G d v) : ∀ {ds : List (κ × D)} {kvs : List (κ × V)}, kvs.map (·.1) = ds.map (·.1) → Rps K G (ds.map (·.2)) (kvs.map (·.2)) →
    (kvs.map fun kv => if kv.1 = k then (kv.1, v) else kv).map (·.1) = (ds.map fun kv => if kv.1 = k then (kv.1, d) else kv).map (·.1) ∧
      Rps K G ((ds.map fun kv => if kv.1 = k then (kv.1, d) else kv).map (·.2)) ((kvs.map fun kv => if kv.1 = k then (kv.1, v) else kv).map (·.2))
  | [], [], _, _ => ⟨rfl, .nil⟩
  | [], _ :: _, e, _ => by simp at e
  | _ :: _, [], e, _ => by simp at e
  | (a, d1) :: ds, (b, v1) :: kvs, e, r => by
    have e1 : b = a ∧ kvs.map (·.1) = ds.map (·.1) := by simpa using e
    obtain ⟨rfl, e2⟩ := e1
    cases r with
    | cons h r =>
      obtain ⟨i1, i2⟩ := mapput_keys (k := k) hd e2 r
      simp only [List.map_cons]
      by_cases q : b = k
      · rw [if_pos q, if_pos q]
        exact ⟨congrArg (b :: ·) i1, .cons hd i2⟩
      · rw [if_neg q, if_neg q]
        exact ⟨congrArg (b :: ·) i1, .cons h i2⟩
theorem putD_keys {κ : Type} [DecidableEq κ] {K : PySem.W.Frag} {G : Hp} {k : κ} {d : D} {v : V} (hd : Rp K G d v) {ds : List (κ × D)} {kvs : List (κ × V)} (e : kvs.map (·.1) = ds.map (·.1)) (r : Rps K G (ds.map (·.2)) (kvs.map (·.2))) :
    (putK kvs k v).map (·.1) = (putD ds k d).map (·.1) ∧ Rps K G ((putD ds k d).map (·.2)) ((putK kvs k v).map (·.2)) := by
  unfold putK putD
  rw [any_keys k e]
  split
  · exact mapput_keys hd e r
  · rw [List.map_append, List.map_append, List.map_append, List.map_append, e]
    exact ⟨rfl, r.append (.cons hd .nil)⟩
abbrev SD := D → D → D → Store → (Store → Prop) → Prop
def SetS (X : Cx) (o : SD) : Prop :=
  ∃ t, PSet X t ∧ ∀ {x i d : D} {μ : Store} {P : Store → Prop} {G H : Hp} {v u w : V} {Q : Hp → Prop}, o x i d μ P → Sm X.K μ G H → Rp X.K G x v → Rp X.K G i u → Rp X.K G d w → (∀ μ' H' G', P μ' → Ex G G' → Sm X.K μ' G' H' → Q H') → t v u w H Q
def rSetD : V → V → V → Hp → (Hp → Prop) → Prop := fun o i v H Q => ∃ a H', o = .ref a ∧ DPut H a i v H' ∧ Q H'
theorem set_dict (hu : X.A.units + 1 < cLine) : PSet X rSetD := by
  intro pins s σ H o i v ov iv u Q I ro ri rv h
  obtain ⟨a, H', rfl, g, q⟩ := h
  cases ro
  exact d_setItem hu I g ri rv fun s4 I4 => ⟨H', I4, q⟩
theorem PSet.or {t t' : TSet} (h : PSet X t) (h' : PSet X t') : PSet X (fun o i v H Q => t o i v H Q ∨ t' o i v H Q) := by
  intro pins s σ H o i v ov iv u Q I ro ri rv q
  rcases q with q | q
  · exact h pins s σ H o i v ov iv u Q I ro ri rv q
  · exact h' pins s σ H o i v ov iv u Q I ro ri rv q
def keyD : D → Option Key
  | .int i => some (.inl i)
  | .str s => some (.inr s)
  | _ => none
theorem keyD_ok {K : PySem.W.Frag} {G : Hp} {d : D} {v : V} {k : Key} (h : keyD d = some k) (r : Rp K G d v) : v = kV k := by
  cases r <;> cases h <;> rfl
def oSet : SD := fun x i d μ P => match x with
  | .ref a => match μ a, i with
    | some (.lst xs), .int k => match ixN xs.length k with | some j => P (setS μ a (.lst (xs.set j d))) | none => False
    | some (.dct kvs), i => match keyD i with | some k => kvs.length < sizeLine ∧ P (setS μ a (.dct (putD kvs k d))) | none => False
    | _, _ => False
  | _ => False
theorem len_keys {κ α β : Type} {l : List (κ × α)} {m : List (κ × β)} (h : l.map (·.1) = m.map (·.1)) : l.length = m.length := by
  have e := congrArg List.length h
  rw [List.length_map, List.length_map] at e
  exact e
theorem os_set (hu : X.A.units + 1 < cLine) : SetS X oSet := by
  refine ⟨_, PSet.or set_list (set_dict hu), ?_⟩
  intro x i d μ P G H v u w Q h m rx ri rd t
  unfold oSet at h
  split at h
  · cases rx
    rename_i a
    split at h
    · rename_i xs k e
      cases ri
      obtain ⟨h0, vs, h1, r1⟩ := m.st a _ e
      split at h
      · rename_i j hj
        exact .inl ⟨a, vs, k, j, rfl, rfl, h1, by rw [← r1.length]; exact hj, t _ _ _ h (Ex.refl _) (m.write h0 ⟨_, upd_same, r1.set rd j⟩)⟩
      · exact h.elim
    · rename_i kvs _ e
      obtain ⟨h0, kv, h1, k1, r1⟩ := m.st a _ e
      split at h
      · rename_i k hk
        have ek := keyD_ok hk ri
        subst ek
        obtain ⟨i1, i2⟩ := putD_keys (k := k) rd k1 r1
        exact .inr ⟨a, _, rfl, DPut.k h1 (by rw [len_keys k1]; exact h.1), t _ _ _ h.2 (Ex.refl _) (m.write h0 ⟨_, upd_same, i1, i2⟩)⟩
      · exact h.elim
    · exact h.elim
  · exact h.elim
def wgSub (o : SD) (wo wi : WE) : WG := fun d ρ μ P => wo ρ μ fun x μ1 => wi ρ μ1 fun i μ2 => o x i d μ2 fun μ3 => P ρ μ3
theorem dg_sub {o i : Expr} {wo wi : WE} {s : SD} {pos : Pos} (hs : SetS X s) (ho : DE X o wo) (hi : DE X i wi)
    (ha : ∀ v, assign (.Subscript o i pos) X.env v = (do
      let ov ← holding [v] (eval o X.env)
      let iv ← holding [v, ov] (eval i X.env)
      standAt pos
      holding [v, ov, iv] (setItem ov iv v)
      release [v, ov, iv] []) := by intro _; rfl) : DG X (.Subscript o i pos) (wgSub s wo wi) := by
  obtain ⟨t, ht, hk⟩ := hs
  refine ⟨wkG (pg_sub ho.p hi.p ht ha) fun v σ H Q ⟨ρ, μ, G, d, P, he, hm, r, hw, htl⟩ => ?_⟩
  exact ⟨ρ, μ, G, _, he, hm, hw, fun x μ1 v1 H1 G1 p1 e1 m1 r1 => ⟨ρ, μ1, G1, _, he.mono e1, m1, p1, fun y μ2 v2 H2 G2 p2 e2 m2 r2 =>
    hk p2 m2 (r1.mono e2) r2 ((r.mono e1).mono e2) fun μ3 H3 G3 p3 e3 m3 => htl _ _ _ _ _ p3 ((e1.trans e2).trans e3) (((he.mono e1).mono e2).mono e3) m3⟩⟩

/-! ### statements -/
variable {st : Stmt} {rest : List Stmt} {e : Expr} {pos : Pos} {w u : WS} {we : WE}
def wNext : WS := fun W ρ μ => W.nx ρ μ
def wSeq (w u : WS) : WS := fun W ρ μ => w { W with nx := u W } ρ μ
theorem dss_nil : DSs X [] wNext := ⟨wkSs pss_nil fun D σ H ⟨ρ, μ, G, W, he, hm, hw, ht⟩ => ht.nx _ _ _ _ _ hw (Ex.refl _) he hm⟩
theorem dss_cons (h : DS X st w) (k : DSs X rest u) : DSs X (st :: rest) (wSeq w u) := ⟨wkSs (pss_cons h.p k.p) fun D σ H ⟨ρ, μ, G, W, he, hm, hw, ht⟩ =>
  ⟨ρ, μ, G, { W with nx := u W }, he, hm, hw, ⟨fun ρ' μ' σ' H' G' p e r m => ⟨ρ', μ', G', W, r, m, p, ht.mono e⟩, ht.rt, ht.bk, ht.ct⟩⟩⟩
theorem dss_one (h : DS X st w) : DSs X [st] w := ⟨pss_one h.p⟩
theorem ds_pass : DS X (.Pass pos) wNext := ⟨wkS ps_pass fun D σ H ⟨ρ, μ, G, W, he, hm, hw, ht⟩ => ht.nx _ _ _ _ _ hw (Ex.refl _) he hm⟩
def wBreak : WS := fun W ρ μ => W.bk ρ μ
def wCont : WS := fun W ρ μ => W.ct ρ μ
theorem ds_break : DS X (.Break pos) wBreak := ⟨wkS ps_break fun D σ H ⟨ρ, μ, G, W, he, hm, hw, ht⟩ => ht.bk _ _ _ _ _ hw (Ex.refl _) he hm⟩
theorem ds_cont : DS X (.Continue pos) wCont := ⟨wkS ps_continue fun D σ H ⟨ρ, μ, G, W, he, hm, hw, ht⟩ => ht.ct _ _ _ _ _ hw (Ex.refl _) he hm⟩
def wNever : WS := fun _ _ _ => False
theorem ds_never : DS X st wNever := ⟨wkS ps_never fun D σ H ⟨ρ, μ, G, W, he, hm, hw, ht⟩ => hw⟩
def wDrop (we : WE) : WS := fun W ρ μ => we ρ μ fun _ μ1 => W.nx ρ μ1
theorem ds_expr (h : DE X e we) (hs : swapsWith e none pos.line X.env = pure false := by rfl) : DS X (.Expr e pos) (wDrop we) := ⟨wkS (ps_expr h.p hs) fun D σ H ⟨ρ, μ, G, W, he, hm, hw, ht⟩ =>
  ⟨ρ, μ, G, _, he, hm, hw, fun d μ' v H' G' p e m r => ht.nx _ _ _ _ _ p e (he.mono e) m⟩⟩
/-- cells are forgotten, or frozen, at the end -/
inductive Fz : D → Store → D → Store → Prop where
  | sub {d : D} {μ μ' : Store} (h : Sub μ' μ) : Fz d μ d μ'
  | lst {a : Addr} {ds : List D} {μ μ' : Store} (h : μ a = some (.lst ds)) (s : Sub μ' (delS μ a)) : Fz (.ref a) μ (.lst ds) μ'
  | dct {a : Addr} {ds : List (Key × D)} {μ μ' : Store} (h : μ a = some (.dct ds)) (s : Sub μ' (delS μ a)) : Fz (.ref a) μ (.dct ds) μ'
  | obj {a C : Addr} {ds : List (Str × D)} {μ μ' : Store} (h : μ a = some (.ins C ds)) (s : Sub μ' (delS μ a)) : Fz (.ref a) μ (.obj C ds) μ'
theorem Fz.ok {K : PySem.W.Frag} {d d' : D} {μ μ' : Store} {G H : Hp} {v : V} (h : Fz d μ d' μ') (m : Sm K μ G H) (r : Rp K G d v) : ∃ G', Ex G G' ∧ Sm K μ' G' H ∧ Rp K G' d' v := by
  cases h with
  | sub h => exact ⟨G, Ex.refl _, m.sub h, r⟩
  | lst h s => cases r; obtain ⟨G', m', e', r'⟩ := m.freezeL h; exact ⟨G', e', m'.sub s, r'⟩
  | dct h s => cases r; obtain ⟨G', m', e', r'⟩ := m.freezeD h; exact ⟨G', e', m'.sub s, r'⟩
  | obj h s => cases r; obtain ⟨G', m', e', r'⟩ := m.freezeI h; exact ⟨G', e', m'.sub s, r'⟩
def wRet (we : WE) : WS := fun W ρ μ => we ρ μ fun d μ1 => ∃ d' μ', Fz d μ1 d' μ' ∧ W.rt d' μ'
theorem ds_ret (h : DE X e we) : DS X (.Return (some e) pos) (wRet we) := ⟨wkS (ps_ret h.p) fun D σ H ⟨ρ, μ, G, W, he, hm, hw, ht⟩ =>
  ⟨ρ, μ, G, _, he, hm, hw, fun d μ' v H' G' ⟨d', μ2, fz, p⟩ e m r => by
    obtain ⟨G2, e2, m2, r2⟩ := fz.ok m r
    exact ht.rt _ _ _ _ _ p (e.trans e2) m2 r2⟩⟩
def wRetN : WS := fun W ρ μ => ∃ μ', Sub μ' μ ∧ W.rt .non μ'
theorem ds_retN : DS X (.Return none pos) wRetN := ⟨wkS ps_retN fun D σ H ⟨ρ, μ, G, W, he, hm, ⟨μ', s, hw⟩, ht⟩ => ht.rt _ _ _ _ _ hw (Ex.refl _) (hm.sub s) .non⟩
def wIfS (t : WT) (w u : WS) : WS := fun W ρ μ => t ρ μ fun b μ1 => if b = true then w W ρ μ1 else u W ρ μ1
theorem ds_if {c : Expr} {a b : List Stmt} {t : WT} (hc : DT X c t) (ha : DSs X a w) (hb : DSs X b u) : DS X (.If c a b pos) (wIfS t w u) := ⟨wkS (ps_if hc.p ha.p hb.p) fun D σ H ⟨ρ, μ, G, W, he, hm, hw, ht⟩ =>
  ⟨ρ, μ, G, _, he, hm, hw, fun k μ1 H1 G1 p e m => by
    cases k with
    | true => rw [if_pos rfl] at p ⊢; exact ⟨ρ, μ1, G1, W, he.mono e, m, p, ht.mono e⟩
    | false => rw [if_neg Bool.false_ne_true] at p ⊢; exact ⟨ρ, μ1, G1, W, he.mono e, m, p, ht.mono e⟩⟩⟩
def wAsg (we : WE) (g : WG) : WS := fun W ρ μ => we ρ μ fun d μ1 => g d ρ μ1 W.nx
theorem ds_asg {tg : Expr} {g : WG} (h : DE X e we) (k : DG X tg g) (hs : swapsWithSole [tg] e pos.line X.env = pure false := by rfl) (hw : swappedStores [tg] e X.env = pure none := by rfl)
    (h1 : (assignEach [tg] X.env).map (·.2) = [assign tg X.env] := by rfl) : DS X (.Assign [tg] e pos) (wAsg we g) := ⟨wkS (ps_asg h.p k.p hs hw h1) fun D σ H ⟨ρ, μ, G, W, he, hm, hw, ht⟩ =>
  ⟨ρ, μ, G, _, he, hm, hw, fun d μ1 v H1 G1 p e m r => ⟨ρ, μ1, G1, d, _, he.mono e, m, r, p, (show TellsN X.K G1 W.nx D.nx from fun a b c d f g x => ht.nx a b c d f g (e.trans x))⟩⟩⟩
/-- x = e -/
theorem ds_set {i : Nat} {x : Str} {pos' : Pos} (hN : X.N.Nodup) (hi : X.N[i]? = some x) (hx : Loc X.env.scope x) (h : DE X e we) (hs : swapsWithSole [.Name x pos'] e pos.line X.env = pure false := by rfl) (hw : swappedStores [.Name x pos'] e X.env = pure none := by rfl)
    (h1 : (assignEach [.Name x pos'] X.env).map (·.2) = [assign (.Name x pos') X.env] := by rfl) (hf : X.fn x = true ∨ X.env.scope.names.lookup x = some .local := by first | exact .inl rfl | exact .inr rfl | assumption) :
    DS X (.Assign [.Name x pos'] e pos) (wAsg we (wgName i)) := ds_asg h (dg_pat (pg_name hN hi hx hf) (gp_name (vs := [i]) (by simp))) hs hw h1
/-- a, b = e, f of plain local names -/
def wPar (i j : Nat) (wa : WA) : WS := fun W ρ μ => wa ρ μ fun ds μ1 => match ds with | [x, y] => W.nx ((ρ.set i (some x)).set j (some y)) μ1 | _ => False
theorem ds_par {i j : Nat} {x y : Str} {a b : Expr} {wa : WA} {px py pt : Pos} {kt k2 pt2} (hc : X.calm = true) (hN : X.N.Nodup) (hi : X.N[i]? = some x) (hj : X.N[j]? = some y) (hij : i ≠ j)
    (hx : X.env.scope.names.lookup x = some .local) (hy : X.env.scope.names.lookup y = some .local) (ha : DA X [a, b] wa)
    (hw : swappedStores [.Tuple [.Name x px, .Name y py] kt pt] (.Tuple [a, b] k2 pt2) X.env = pure (some [x, y]))
    (hs : swapsWithSole [.Tuple [.Name x px, .Name y py] kt pt] (.Tuple [a, b] k2 pt2) pos.line X.env = pure false := by rfl) :
    DS X (.Assign [.Tuple [.Name x px, .Name y py] kt pt] (.Tuple [a, b] k2 pt2) pos) (wPar i j wa) := ⟨wkS (ps_par hc hN hi hj hij hx hy ha.p hw hs) fun D σ H ⟨ρ, μ, G, W, he, hm, hw, ht⟩ =>
  ⟨ρ, μ, G, _, he, hm, hw, fun ds μ1 vs H1 G1 p e m r => by

    match ds, r, p with
    | [x, y], .cons r1 (.cons r2 .nil), p => exact ⟨_, _, rfl, ht.nx _ _ _ _ _ p e (((he.mono e).set i r1).set j r2) m⟩⟩⟩
def wPar3 (i j l : Nat) (wa : WA) : WS := fun W ρ μ => wa ρ μ fun ds μ1 => match ds with | [x, y, z] => W.nx (((ρ.set i (some x)).set j (some y)).set l (some z)) μ1 | _ => False
theorem ds_par3 {i j l : Nat} {x y z : Str} {a b c : Expr} {wa : WA} {px py pz pt : Pos} {kt k2 pt2} (hc : X.calm = true) (hN : X.N.Nodup) (hi : X.N[i]? = some x) (hj : X.N[j]? = some y) (hl : X.N[l]? = some z) (hij : i ≠ j) (hil : i ≠ l) (hjl : j ≠ l)
    (hx : X.env.scope.names.lookup x = some .local) (hy : X.env.scope.names.lookup y = some .local) (hz : X.env.scope.names.lookup z = some .local) (ha : DA X [a, b, c] wa)
    (hw : swappedStores [.Tuple [.Name x px, .Name y py, .Name z pz] kt pt] (.Tuple [a, b, c] k2 pt2) X.env = pure (some [x, y, z]))
    (hs : swapsWithSole [.Tuple [.Name x px, .Name y py, .Name z pz] kt pt] (.Tuple [a, b, c] k2 pt2) pos.line X.env = pure false := by rfl) :
    DS X (.Assign [.Tuple [.Name x px, .Name y py, .Name z pz] kt pt] (.Tuple [a, b, c] k2 pt2) pos) (wPar3 i j l wa) := ⟨wkS (ps_par3 hc hN hi hj hl hij hil hjl hx hy hz ha.p hw hs) fun D σ H ⟨ρ, μ, G, W, he, hm, hw, ht⟩ =>
  ⟨ρ, μ, G, _, he, hm, hw, fun ds μ1 vs H1 G1 p e m r => by

    match ds, r, p with
    | [x, y, z], .cons r1 (.cons r2 (.cons r3 .nil)), p => exact ⟨_, _, _, rfl, ht.nx _ _ _ _ _ p e ((((he.mono e).set i r1).set j r2).set l r3) m⟩⟩⟩

/-! ### attributes -/
def FldOk (K : PySem.W.Frag) (C : Addr) (f : Str) : Prop := Cls K C ∧ NoAttr K C f
theorem lookup_look {β : Type} (f : Str) : ∀ fs : List (Str × β), fs.lookup f = look fs f
  | [] => rfl
  | p :: r => by
    unfold look
    rw [List.lookup_cons]
    by_cases e : p.1 = f
    · rw [if_pos e, e]; simp
    · rw [if_neg e]
      have : (f == p.1) = false := by simpa using fun h => e h.symm
      rw [this]
      exact lookup_look f r
theorem putF_put (f : Str) (v : V) : ∀ fs : List (Str × V), putF f v fs = put fs f v
  | [] => rfl
  | (g, x) :: r => by
    unfold putF put
    by_cases e : g = f
    · rw [if_pos e, if_pos e]
    · rw [if_neg e, if_neg e, putF_put f v r]
/-- an instance's class and fields -/
def insD (μ : Store) : D → Option (Addr × List (Str × D))
  | .obj C fs => some (C, fs)
  | .ref a => match μ a with | some (.ins C fs) => some (C, fs) | _ => none
  | _ => none
theorem insD_ok {K : PySem.W.Frag} {μ : Store} {G H : Hp} {d : D} {v : V} {C : Addr} {ds : List (Str × D)} (h : insD μ d = some (C, ds)) (m : Sm K μ G H) (r : Rp K G d v) :
    ∃ a dx fs, v = .ref a ∧ H a = some (.ins C dx fs) ∧ fs.map (·.1) = ds.map (·.1) ∧ Rps K G (ds.map (·.2)) (fs.map (·.2)) := by
  cases r with
  | obj h1 k r1 => cases h; exact ⟨_, _, _, rfl, m.ex _ _ h1, k, r1⟩
  | ref a =>
    unfold insD at h
    dsimp only at h
    split at h
    · rename_i C' fs e
      cases h
      obtain ⟨_, dx, fs, h1, k, r1⟩ := m.st a _ e
      exact ⟨a, dx, fs, rfl, h1, k, r1⟩
    · cases h
  | _ => cases h
def wFld (K : PySem.W.Frag) (f : Str) (we : WE) : WE := fun ρ μ P => we ρ μ fun x μ1 => match insD μ1 x with
  | some (C, fs) => FldOk K C f ∧ (match look fs f with | some d => P d μ1 | none => False)
  | none => False
theorem de_fld {f : Str} (h : DE X e we) (hb : attributeBase e f X.env (eval e X.env) = eval e X.env) : DE X (.Attribute e f pos) (wFld X.K f we) := ⟨wkE (pe_fld h.p hb) fun σ H Q ⟨ρ, μ, G, P, he, hm, hw, ht⟩ =>
  ⟨ρ, μ, G, _, he, hm, hw, fun x μ1 v H1 G1 p e m r => by
    split at p
    · rename_i C fs q
      obtain ⟨a, dx, vs, rfl, h1, k, r1⟩ := insD_ok q m r
      obtain ⟨⟨c, n⟩, p⟩ := p
      split at p
      · rename_i d hd
        obtain ⟨v, h2, r2⟩ := (look_keys (k := f) k r1).1 d hd
        exact ⟨a, C, dx, vs, v, rfl, h1, c, n, by rw [lookup_look]; exact h2, ht _ _ _ _ _ p e m r2⟩
      · exact p.elim
    · exact p.elim⟩⟩
def wSetF (K : PySem.W.Frag) (f : Str) (wo wv : WE) : WS := fun W ρ μ => wv ρ μ fun y μ1 => wo ρ μ1 fun x μ2 => match x with
  | .ref a => match μ2 a with | some (.ins C fs) => FldOk K C f ∧ fs.length < 1000 ∧ W.nx ρ (setS μ2 a (.ins C (put fs f y))) | _ => False
  | _ => False
theorem ds_fld {o value : Expr} {f : Str} {pos' : Pos} {wo wv : WE} (ho : DE X o wo) (hv : DE X value wv) (hs : swapsWith value (some (.Attribute o f pos')) pos.line X.env = pure false := by rfl) :
    DS X (.Assign [.Attribute o f pos'] value pos) (wSetF X.K f wo wv) := ⟨wkS (ps_fld ho.p hv.p hs) fun D σ H ⟨ρ, μ, G, W, he, hm, hw, ht⟩ =>
  ⟨ρ, μ, G, _, he, hm, hw, fun y μ1 v1 H1 G1 p1 e1 m1 r1 => ⟨ρ, μ1, G1, _, he.mono e1, m1, p1, fun x μ2 v2 H2 G2 p2 e2 m2 r2 => by
    split at p2
    · rename_i a
      cases r2
      split at p2
      · rename_i C fs q
        obtain ⟨⟨c, n⟩, hl, p⟩ := p2
        obtain ⟨h0, dx, vs, h1, k, r3⟩ := m2.st a _ q
        obtain ⟨i1, i2⟩ := put_keys (k := f) (r1.mono e2) k r3
        refine ⟨a, C, dx, vs, rfl, h1, c, n, by rw [len_keys k]; exact hl, ?_⟩
        refine ht.nx _ _ _ _ _ p (e1.trans e2) ((he.mono e1).mono e2) (m2.write h0 ⟨dx, put vs f v1, ?_, i1, i2⟩)
        rw [upd_same, putF_put]
      · exact p2.elim
    · exact p2.elim⟩⟩⟩
end
end Dl

namespace Dl
open PySem L2
/-! ### what is walked -/
abbrev WI := Env → Store → (List D → Store → Prop) → Prop
def Walk (K : PySem.W.Frag) (G : Hp) (J : It) (its : List D) : Prop := ∀ (i : Nat) (H G2 : Hp) (μ : Store), Ex G G2 → Sm K μ G2 H →
  (i < its.length → J.go i H ∧ ∀ x H', J.yld i H x H' → ∃ G3 d, its[i]? = some d ∧ Ex G2 G3 ∧ Sm K μ G3 H' ∧ Rp K G3 d x) ∧ (its.length ≤ i → J.stop i H)
def LI (K : PySem.W.Frag) (wi : WI) : TI := fun σ H R => ∃ ρ μ G P, EnvR K G ρ σ ∧ Sm K μ G H ∧ wi ρ μ P ∧ ∀ its μ' H' G' J, P its μ' → Ex G G' → Sm K μ' G' H' → Walk K G' J its → R J H'
structure DI (X : Cx) (tg iter : Expr) (wi : WI) : Prop where
  p : PI X tg iter (LI X.K wi)
section
variable {X : Cx}
theorem wkI {tg iter : Expr} {t t' : TI} (h : PI X tg iter t) (k : ∀ σ H R, t' σ H R → t σ H R) : PI X tg iter t' := ⟨fun pins s σ H R I q => h.run pins s σ H R I (k σ H R q)⟩
theorem walk_l {K : PySem.W.Frag} {G : Hp} {a : Addr} {xs : List V} {ds : List D} (h : ∀ H, Ex G H → SqL K H a xs) (r : Rps K G ds xs) : Walk K G (Itl K a) ds := fun i H G2 μ e m => by
  have sq := h H (e.trans m.ex)
  refine ⟨fun hi => ⟨⟨xs, xs[i]'(by rw [← r.length]; exact hi), sq, by simp [← r.length, hi]⟩, fun x H' y => ?_⟩, fun hi => ⟨xs, sq, by rw [← r.length]; exact hi⟩⟩
  obtain ⟨rfl, y⟩ := y
  obtain ⟨d, hd, rd⟩ := r.getR (y xs sq)
  exact ⟨G2, d, hd, Ex.refl _, m, rd.mono e⟩
theorem walk_t {K : PySem.W.Frag} {G : Hp} {a : Addr} {xs : List V} {ds : List D} (h : TupAt K G a xs) (r : Rps K G ds xs) : Walk K G (Itt K a) ds := fun i H G2 μ e m => by
  have sq := h.sq (e.trans m.ex)
  refine ⟨fun hi => ⟨⟨xs, xs[i]'(by rw [← r.length]; exact hi), sq, by simp [← r.length, hi]⟩, fun x H' y => ?_⟩, fun hi => ⟨xs, sq, by rw [← r.length]; exact hi⟩⟩
  obtain ⟨rfl, y⟩ := y
  obtain ⟨d, hd, rd⟩ := r.getR (y xs sq)
  exact ⟨G2, d, hd, Ex.refl _, m, rd.mono e⟩
def rng (lo : Int) (n : Nat) : List D := (List.range n).map fun i => .int (lo + (i : Nat))
theorem rng_length {lo : Int} {n : Nat} : (rng lo n).length = n := by simp [rng]
theorem rng_get {lo : Int} {n i : Nat} (h : i < n) : (rng lo n)[i]? = some (.int (lo + (i : Nat))) := by simp [rng, h]
theorem walk_r {K : PySem.W.Frag} {G : Hp} {lo : Int} {n : Nat} : Walk K G (Itr lo n) (rng lo n) := fun i H G2 μ e m => by
  rw [rng_length]
  refine ⟨fun hi => ⟨hi, fun x H' y => ?_⟩, fun hi => hi⟩
  obtain ⟨rfl, rfl⟩ := y
  exact ⟨G2, _, rng_get hi, Ex.refl _, m, .int _⟩
def chars (s : Str) : List D := s.cps.toList.map fun c => .str ⟨#[c]⟩
theorem walk_s {K : PySem.W.Frag} {G : Hp} {s : Str} : Walk K G (Its s) (chars s) := fun i H G2 μ e m => by
  have hl : (chars s).length = s.cps.size := by simp [chars]
  rw [hl]
  refine ⟨fun hi => ⟨hi, fun x H' y => ?_⟩, fun hi => hi⟩
  obtain ⟨rfl, c, hc, rfl⟩ := y
  exact ⟨G2, .str ⟨#[c]⟩, by simp [chars, hc], Ex.refl _, m, .str _⟩
def iSeq (K : PySem.W.Frag) (te : TE) : TI := fun σ H R => te σ H fun x H1 => (∃ a, x = .ref a ∧ (∃ xs, SqL K H1 a xs) ∧ R (Itl K a) H1) ∨ (∃ a, x = .ref a ∧ (∃ xs, SqT K H1 a xs) ∧ R (Itt K a) H1) ∨ ∃ s, x = .str s ∧ R (Its s) H1
theorem pi_seq {tg e : Expr} {te : TE} (he : PE X e te) : PI X tg e (iSeq X.K te) := by
  refine ⟨fun pins s σ H R I h => ?_⟩
  refine thn (he.run pins s σ H _ I h) fun v s1 ⟨x, H1, I1, r1, q1⟩ => ?_
  rcases q1 with ⟨a, rfl, ⟨xs, hq⟩, q⟩ | ⟨a, rfl, ⟨xs, hq⟩, q⟩ | ⟨x, rfl, q⟩
  · cases r1
    obtain ⟨its, rv, p, hz⟩ := I1.list hq
    refine wpAny_pyIter_list p.isList ?_
    refine ⟨s1.heap.objs.size, [s1.heap.objs.size], _, _, H1, rfl, I1.kept (t' := s1.toks) fun b o e => PySem.Heap.get?_push_of_some _ e, turn_list a _, ⟨_, PySem.Heap.get?_push_size _ rfl, rfl, rfl⟩, fun b hb => ?_, q⟩
    have e : b = s1.heap.objs.size := by simpa using hb
    subst e
    exact I1.fpOk (Nat.le_refl _) (I1.hok.fresh (Nat.le_refl _))
  · cases r1
    obtain ⟨its, rv, p, hz⟩ := I1.tuple hq
    refine wpAny_pyIter_tuple (show s1.heap.IsTuple a its.toArray from p) ?_
    refine ⟨s1.heap.objs.size, [s1.heap.objs.size], _, _, H1, rfl, I1.kept (t' := s1.toks) fun b o e => PySem.Heap.get?_push_of_some _ e, turn_tuple a _, ⟨_, PySem.Heap.get?_push_size _ rfl, rfl, rfl⟩, fun b hb => ?_, q⟩
    have e : b = s1.heap.objs.size := by simpa using hb
    subst e
    exact I1.fpOk (Nat.le_refl _) (I1.hok.fresh (Nat.le_refl _))
  · obtain ⟨t, rfl⟩ := r1
    cases ha : x.cps.all (· < 128)
    · exact wpAny_pyIter_wide ha (pi_one (tk := s1.toks) I1 _ (turn_str _ x t "str_iterator" (.inr rfl)) ⟨_, PySem.Heap.get?_push_size _ rfl, rfl, rfl⟩ q)
    · exact wpAny_pyIter_ascii ha (pi_one (tk := s1.toks) I1 _ (turn_str _ x t "str_ascii_iterator" (.inl rfl)) ⟨_, PySem.Heap.get?_push_size _ rfl, rfl, rfl⟩ q)
/-- what a plain for walks: a list that stays, a tuple, a text -/
def itemsD : D → Option (List D)
  | .lst xs => some xs
  | .scr xs => some xs
  | .tup xs => some xs
  | .str s => some (chars s)
  | _ => none
def wiSeq (we : WE) : WI := fun ρ μ P => we ρ μ fun d μ1 => match itemsD d with | some xs => P xs μ1 | none => False
theorem di_seq {tg e : Expr} {we : WE} (h : DE X e we) : DI X tg e (wiSeq we) := ⟨wkI (pi_seq h.p) fun σ H R ⟨ρ, μ, G, P, he, hm, hw, ht⟩ =>
  ⟨ρ, μ, G, _, he, hm, hw, fun d μ1 v H1 G1 p e m r => by
    cases r with
    | lst h1 r1 => exact .inl ⟨_, rfl, ⟨_, lst_sq m.ex h1⟩, ht _ _ _ _ _ p e m (walk_l (fun H' e' => lst_sq e' h1) r1)⟩
    | scr h1 r1 => exact .inl ⟨_, rfl, ⟨_, h1.sq m.ex⟩, ht _ _ _ _ _ p e m (walk_l (fun H' e' => h1.sq e') r1)⟩
    | tup h1 r1 => exact .inr (.inl ⟨_, rfl, ⟨_, h1.sq m.ex⟩, ht _ _ _ _ _ p e m (walk_t h1 r1)⟩)
    | str s => exact .inr (.inr ⟨s, rfl, ht _ _ _ _ _ p e m walk_s⟩)
    | _ => exact p.elim⟩⟩
def wiRng1 (wa : WA) : WI := fun ρ μ P => wa ρ μ fun ds μ1 => match ds with | [.int j] => (-(2 ^ 62) ≤ j ∧ j < 2 ^ 62) ∧ P (rng 0 j.toNat) μ1 | _ => False
def wiRng2 (wa : WA) : WI := fun ρ μ P => wa ρ μ fun ds μ1 => match ds with | [.int i, .int j] => (-(2 ^ 62) ≤ i ∧ i < 2 ^ 62 ∧ -(2 ^ 62) ≤ j ∧ j < 2 ^ 62) ∧ P (rng i (j - i).toNat) μ1 | _ => False
theorem di_range1 {tg a : Expr} {wa : WA} {p pos : Pos} (hg : Gl X "range") (hm : X.mg "range" = none) (ha : DA X [a] wa) (hs : starEach [a] X.env = [(false, eval a X.env)] := by rfl) : DI X tg (.Call (.Name "range" p) [a] [] pos) (wiRng1 wa) :=
  ⟨wkI (pi_range1 hg hm ha.p hs) fun σ H R ⟨ρ, μ, G, P, he, hm, hw, ht⟩ => ⟨ρ, μ, G, _, he, hm, hw, fun ds μ1 vs H1 G1 p e m r => by
    match ds, r, p with
    | [.int j], .cons (.int _) .nil, p => exact ⟨j, rfl, p.1.1, p.1.2, ht _ _ _ _ _ p.2 e m walk_r⟩⟩⟩
theorem di_range2 {tg a b : Expr} {wa : WA} {p pos : Pos} (hg : Gl X "range") (hm : X.mg "range" = none) (ha : DA X [a, b] wa) (hs : starEach [a, b] X.env = [(false, eval a X.env), (false, eval b X.env)] := by rfl) (hs2 : starEach [b] X.env = [(false, eval b X.env)] := by rfl) :
    DI X tg (.Call (.Name "range" p) [a, b] [] pos) (wiRng2 wa) :=
  ⟨wkI (pi_range2 hg hm ha.p hs hs2) fun σ H R ⟨ρ, μ, G, P, he, hm, hw, ht⟩ => ⟨ρ, μ, G, _, he, hm, hw, fun ds μ1 vs H1 G1 p e m r => by
    match ds, r, p with
    | [.int i, .int j], .cons (.int _) (.cons (.int _) .nil), p => exact ⟨i, j, rfl, p.1, ht _ _ _ _ _ p.2 e m walk_r⟩⟩⟩

/-! ### for, while -/
def forBody (its : List D) (g : WG) (wb : WS) (W : WEnds) (ρ : Env) (μ1 : Store) : Prop := ∃ I : Nat → Env → Store → Prop, I 0 ρ μ1 ∧
  (∀ i d ρ' μ', its[i]? = some d → I i ρ' μ' → g d ρ' μ' fun ρ2 μ2 => wb { W with nx := I (i + 1), ct := I (i + 1), bk := W.nx } ρ2 μ2) ∧ ∀ ρ' μ', I its.length ρ' μ' → W.nx ρ' μ'
def wFor (wi : WI) (g : WG) (wb : WS) : WS := fun W ρ μ => wi ρ μ fun its μ1 => forBody its g wb W ρ μ1
theorem ds_for {tg iter : Expr} {body : List Stmt} {wi : WI} {g : WG} {wb : WS} {pos : Pos} (hp : PassesOwn (model X.prog X.w) X.A X.env X.xe) (hc : X.calm = true) (hi : DI X tg iter wi) (hg : DG X tg g) (hb : DSs X body wb)
    (hs : ∀ x, foldedSetIterable iter X.env x = pure x := by intro _; rfl) : DS X (.For tg iter body [] pos) (wFor wi g wb) := by
  refine ⟨wkS (ps_for hp hc hi.p hg.p hb.p hs) fun D σ H ⟨ρ, μ, G, W, he, hm, hw, ht⟩ => ⟨ρ, μ, G, _, he, hm, hw, ?_⟩⟩
  rintro its μ1 H1 G1 J ⟨I, h0, hturn, hend⟩ e1 m1 hJ
  refine ⟨fun i m σ' H' => m = its.length - i ∧ i ≤ its.length ∧ ∃ ρ' μ' G', Ex G1 G' ∧ EnvR X.K G' ρ' σ' ∧ Sm X.K μ' G' H' ∧ I i ρ' μ', ⟨its.length, by simp, Nat.zero_le _, ρ, μ1, G1, Ex.refl _, he.mono e1, m1, h0⟩, ?_⟩
  rintro i m σ' H' ⟨rfl, hi, ρ', μ', G', e', he', hm', hI⟩
  obtain ⟨wgo, wstop⟩ := hJ i H' G' μ' e' hm'
  by_cases hlt : i < its.length
  · obtain ⟨go, yl⟩ := wgo hlt
    refine .inr ⟨go, fun σ2 H2 => ∃ ρ2 μ2 G2, Ex G1 G2 ∧ EnvR X.K G2 ρ2 σ2 ∧ Sm X.K μ2 G2 H2 ∧ I (i + 1) ρ2 μ2, fun σ2 H2 ⟨ρ2, μ2, G2, a, b, c, d⟩ => ⟨its.length - (i + 1), by omega, rfl, hlt, ρ2, μ2, G2, a, b, c, d⟩, fun x H2 hy => ?_⟩
    obtain ⟨G3, d, hd, e3, m3, r3⟩ := yl x H2 hy
    refine ⟨ρ', μ', G3, d, _, he'.mono e3, m3, r3, hturn i d ρ' μ' hd hI, fun ρ4 μ4 σ4 H4 G4 p4 e4 he4 hm4 => ?_⟩
    have eG : Ex G1 G4 := (e'.trans e3).trans e4
    refine ⟨ρ4, μ4, G4, _, he4, hm4, p4, ⟨fun ρ5 μ5 σ5 H5 G5 p5 e5 he5 hm5 => ⟨ρ5, μ5, G5, eG.trans e5, he5, hm5, p5⟩, fun d5 μ5 v5 H5 G5 p5 e5 hm5 r5 => ht.rt _ _ _ _ _ p5 ((e1.trans eG).trans e5) hm5 r5,
      fun ρ5 μ5 σ5 H5 G5 p5 e5 he5 hm5 => ht.nx _ _ _ _ _ p5 ((e1.trans eG).trans e5) he5 hm5, fun ρ5 μ5 σ5 H5 G5 p5 e5 he5 hm5 => ⟨ρ5, μ5, G5, eG.trans e5, he5, hm5, p5⟩⟩⟩
  · have ei : i = its.length := by omega
    subst ei
    exact .inl ⟨wstop (Nat.le_refl _), ht.nx _ _ _ _ _ (hend ρ' μ' hI) (e1.trans e') he' hm'⟩
def wWhile (c : WT) (wb : WS) : WS := fun W ρ μ => ∃ I : Nat → Env → Store → Prop, (∃ m, I m ρ μ) ∧ ∀ m ρ' μ', I m ρ' μ' → c ρ' μ' fun b μ1 => if b = true then
  wb { W with nx := fun ρ2 μ2 => ∃ m', m' < m ∧ I m' ρ2 μ2, ct := fun ρ2 μ2 => ∃ m', m' < m ∧ I m' ρ2 μ2, bk := W.nx } ρ' μ1 else W.nx ρ' μ1
theorem ds_while {c : Expr} {body : List Stmt} {t : WT} {wb : WS} {pos : Pos} (hp : PassesOwn (model X.prog X.w) X.A X.env X.xe) (hc : DT X c t) (hb : DSs X body wb) : DS X (.While c body [] pos) (wWhile t wb) := by
  refine ⟨wkS (ps_while hp hc.p hb.p) fun D σ H ⟨ρ, μ, G, W, he, hm, ⟨I, ⟨m0, h0⟩, hturn⟩, ht⟩ => ?_⟩
  refine ⟨fun m σ' H' => ∃ ρ' μ' G', Ex G G' ∧ EnvR X.K G' ρ' σ' ∧ Sm X.K μ' G' H' ∧ I m ρ' μ', ⟨m0, ρ, μ, G, Ex.refl _, he, hm, h0⟩, ?_⟩
  rintro m σ' H' ⟨ρ', μ', G', e', he', hm', hI⟩
  refine ⟨ρ', μ', G', _, he', hm', hturn m ρ' μ' hI, fun b μ1 H1 G1 p e m1 => ?_⟩
  have eG : Ex G G1 := e'.trans e
  cases b with
  | true =>
    rw [if_pos rfl] at p
    refine iteT ?_
    refine ⟨fun σ2 H2 => ∃ m', m' < m ∧ ∃ ρ2 μ2 G2, Ex G G2 ∧ EnvR X.K G2 ρ2 σ2 ∧ Sm X.K μ2 G2 H2 ∧ I m' ρ2 μ2, fun σ2 H2 ⟨m', h1, h2⟩ => ⟨m', h1, h2⟩, ρ', μ1, G1, _, he'.mono e, m1, p, ?_⟩
    exact ⟨fun ρ5 μ5 σ5 H5 G5 ⟨m', h1, h2⟩ e5 he5 hm5 => ⟨m', h1, ρ5, μ5, G5, eG.trans e5, he5, hm5, h2⟩, fun d5 μ5 v5 H5 G5 p5 e5 hm5 r5 => ht.rt _ _ _ _ _ p5 (eG.trans e5) hm5 r5,
      fun ρ5 μ5 σ5 H5 G5 p5 e5 he5 hm5 => ht.nx _ _ _ _ _ p5 (eG.trans e5) he5 hm5, fun ρ5 μ5 σ5 H5 G5 ⟨m', h1, h2⟩ e5 he5 hm5 => ⟨m', h1, ρ5, μ5, G5, eG.trans e5, he5, hm5, h2⟩⟩
  | false =>
    rw [if_neg Bool.false_ne_true] at p
    refine iteF ?_
    exact ht.nx _ _ _ _ _ p eG (he'.mono e) m1

/-! ### comprehensions -/
def wipeE (ρ : Env) : List Nat → Env
  | [] => ρ
  | v :: vs => (wipeE ρ vs).set v none
theorem EnvR.unset {K : PySem.W.Frag} {G : Hp} {ρ : Env} {σ : L2.St} (h : EnvR K G ρ σ) (i : Nat) : EnvR K G (ρ.set i none) (σ.set i none) := by
  refine ⟨by rw [List.length_set, List.length_set]; exact h.1, fun j e q => ?_⟩
  by_cases hj : i = j
  · subst hj
    by_cases hl : i < ρ.length
    · rw [List.getElem?_set_self hl] at q; cases q
    · rw [List.getElem?_eq_none (by rw [List.length_set]; omega)] at q; cases q
  · rw [List.getElem?_set_ne hj] at q ⊢
    exact h.2 j e q
theorem EnvR.wipe {K : PySem.W.Frag} {G : Hp} {ρ : Env} {σ : L2.St} (h : EnvR K G ρ σ) : ∀ vs : List Nat, EnvR K G (wipeE ρ vs) (L2.wipe σ vs)
  | [] => h
  | v :: vs => (EnvR.wipe h vs).unset v
structure DTs (X : Cx) (ifs : List Expr) (w : WT) : Prop where
  p : PTs X ifs (LT X.K w)
def wYes : WT := fun _ μ P => P true μ
theorem dts_nil : DTs X [] wYes := ⟨⟨fun pins s σ H Q I ⟨ρ, μ, G, P, he, hm, hw, ht⟩ => pts_nil.run pins s σ H Q I (ht _ _ _ _ hw (Ex.refl _) hm)⟩⟩
theorem dts_one {c : Expr} {w : WT} (h : DT X c w) : DTs X [c] w := ⟨pts_one h.p⟩
/-- the items made one after another; L: the new list; I: by the turn, the list so far, the cells -/
def lcBody (its : List D) (g : WG) (tt : WT) (te : WE) (vs : List Nat) (fin : Addr → List D → Store → Prop) (ρ : Env) (μ1 : Store) : Prop := its.length ≤ sizeLine ∧ ∀ L, μ1 L = none → ∃ I : Nat → List D → Store → Prop, I 0 [] (setS μ1 L (.lst [])) ∧
  (∀ i d acc μ', its[i]? = some d → μ' L = some (.lst acc) → I i acc μ' → g d (wipeE ρ vs) μ' fun ρ2 μ2 => tt ρ2 μ2 fun b μ3 => if b = true then te ρ2 μ3 fun y μ4 => μ4 L = some (.lst acc) ∧ I (i + 1) (acc ++ [y]) (setS μ4 L (.lst (acc ++ [y]))) else μ3 L = some (.lst acc) ∧ I (i + 1) acc μ3) ∧
  ∀ acc μ', acc.length ≤ its.length → μ' L = some (.lst acc) → I its.length acc μ' → fin L acc μ'
def wLcG (wi : WI) (g : WG) (tt : WT) (te : WE) (vs : List Nat) (fin : Addr → List D → Store → Prop) : Env → Store → Prop := fun ρ μ => wi ρ μ fun its μ1 => lcBody its g tt te vs fin ρ μ1
def wLc (wi : WI) (g : WG) (tt : WT) (te : WE) (vs : List Nat) : WE := fun ρ μ P => wLcG wi g tt te vs (fun L acc μ' => P (.lst acc) (delS μ' L)) ρ μ
def wLcM (wi : WI) (g : WG) (tt : WT) (te : WE) (vs : List Nat) : WE := fun ρ μ P => wLcG wi g tt te vs (fun L acc μ' => P (.ref L) μ') ρ μ
theorem llc {K : PySem.W.Frag} {wi : WI} {g : TG} {wg : WG} {tt : WT} {te : WE} {vs : List Nat} {fin : Addr → List D → Store → Prop} {σ : L2.St} {H : Hp} {Q : VK} {ρ : Env} {μ : Store} {G : Hp} (hg : GPat K vs g wg) (he : EnvR K G ρ σ) (hm : Sm K μ G H) (hw : wLcG wi wg tt te vs fin ρ μ)
    (hf : ∀ L acc μ' H' G', fin L acc μ' → μ' L = some (.lst acc) → Ex G G' → Sm K μ' G' H' → Q (.ref L) H') : tLc (LI K wi) g (LT K tt) (LE K te) vs σ H Q := by
  refine ⟨ρ, μ, G, _, he, hm, hw, ?_⟩
  rintro its μ1 H1 G1 J ⟨hz, hI⟩ e1 m1 hJ L hL
  obtain ⟨I, h0, hturn, hend⟩ := hI L (m1.nn hL)
  refine ⟨fun i m H' => m = its.length - i ∧ i ≤ its.length ∧ ∃ acc μ' G', Ex G1 G' ∧ Sm K μ' G' H' ∧ μ' L = some (.lst acc) ∧ acc.length ≤ i ∧ I i acc μ',
    ⟨its.length, by simp, Nat.zero_le _, [], _, G1, Ex.refl _, m1.write (c := .lst []) (m1.ex.nn hL) ⟨[], upd_same, .nil⟩, setS_same, Nat.le_refl _, h0⟩, ?_⟩
  rintro i m H' ⟨rfl, hi, acc, μ', G', e', hm', uD, hl, hI⟩
  obtain ⟨wgo, wstop⟩ := hJ i H' G' μ' e' hm'
  by_cases hlt : i < its.length
  · obtain ⟨go, yl⟩ := wgo hlt
    refine .inr ⟨go, fun H2 => ∃ acc2 μ2 G2, Ex G1 G2 ∧ Sm K μ2 G2 H2 ∧ μ2 L = some (.lst acc2) ∧ acc2.length ≤ i + 1 ∧ I (i + 1) acc2 μ2, fun H2 ⟨a, b, c, x1, x2, x3, x4, x5⟩ => ⟨its.length - (i + 1), by omega, rfl, hlt, a, b, c, x1, x2, x3, x4, x5⟩, fun x H2 hy => ?_⟩
    obtain ⟨G3, d, hd, e3, m3, r3⟩ := yl x H2 hy
    have heW : EnvR K G3 (wipeE ρ vs) (L2.wipe σ vs) := ((((he.mono e1).mono e').mono e3)).wipe vs
    refine hg heW m3 r3 (hturn i d acc μ' hd uD hI) fun ρ4 μ4 σ4 H4 G4 p4 e4 he4 hm4 q4 => ⟨q4.trans (wipe_wipe fun _ h => h), ρ4, μ4, G4, _, he4, hm4, p4, fun b μ5 H5 G5 p5 e5 m5 => ?_⟩
    have eG : Ex G1 G5 := ((e'.trans e3).trans e4).trans e5
    cases b with
    | true =>
      rw [if_pos rfl] at p5
      refine iteT ?_
      refine ⟨ρ4, μ5, G5, _, he4.mono e5, m5, p5, fun y μ6 v6 H6 G6 p6 e6 m6 r6 => ?_⟩
      obtain ⟨h0, xs, h1, rr⟩ := m6.st L _ p6.1
      exact ⟨xs, h1, by rw [← rr.length]; omega, acc ++ [y], _, G6, eG.trans e6, m6.write (c := .lst (acc ++ [y])) h0 ⟨_, upd_same, rr.append (.cons r6 .nil)⟩, setS_same, by rw [List.length_append]; simp; omega, p6.2⟩
    | false =>
      rw [if_neg Bool.false_ne_true] at p5
      refine iteF ?_
      exact ⟨acc, μ5, G5, eG, m5, p5.1, by omega, p5.2⟩
  · have ei : i = its.length := by omega
    subst ei
    exact .inl ⟨wstop (Nat.le_refl _), hf _ _ _ _ _ (hend acc μ' hl uD hI) uD (e1.trans e') hm'⟩
section
variable {elt tg iter : Expr} {ifs : List Expr} {scope : Scope} {own : List (Str × Nat)} {pos : Pos} {wi : WI} {g : TG} {wg : WG} {tt : WT} {te : WE}
theorem de_lc (hc : X.calm = true) (hN : X.N.Nodup) (hi : DI X tg iter wi) (ok : BlkOk X.N X.env.scope scope own) (hp : GPat X.K (own.map (·.2)) g wg)
    (hg : ∀ (s : Shared) (H : Hp) (C : Addr) (cl : List (Str × Addr)) (fp : List Addr), PG (X.blk s H scope (compEnvC scope cl C X.env) fp) tg g) (ht : ∀ (s : Shared) (H : Hp) (C : Addr) (cl : List (Str × Addr)) (fp : List Addr), DTs (X.blk s H scope (compEnvC scope cl C X.env) fp) ifs tt)
    (he : ∀ (s : Shared) (H : Hp) (C : Addr) (cl : List (Str × Addr)) (fp : List Addr), DE (X.blk s H scope (compEnvC scope cl C X.env) fp) elt te) (hs : ∀ x, foldedSetIterable iter X.env x = pure x := by intro _; rfl) :
    DE X (.ListComp elt [⟨tg, iter, ifs, 0⟩] scope pos) (wLc wi wg tt te (own.map (·.2))) :=
  ⟨wkE (pe_lc hc hN hi.p ok hg (fun s H C cl fp => (ht s H C cl fp).p) (fun s H C cl fp => (he s H C cl fp).p) hs) fun σ H Q ⟨ρ, μ, G, P, hr, hm, hw, htl⟩ => llc hp hr hm hw fun L acc μ' H' G' f u e m => by
    obtain ⟨G2, m2, e2, r2⟩ := m.freezeL u
    exact htl _ _ _ _ _ f (e.trans e2) m2 r2⟩
theorem de_lcM (hc : X.calm = true) (hN : X.N.Nodup) (hi : DI X tg iter wi) (ok : BlkOk X.N X.env.scope scope own) (hp : GPat X.K (own.map (·.2)) g wg)
    (hg : ∀ (s : Shared) (H : Hp) (C : Addr) (cl : List (Str × Addr)) (fp : List Addr), PG (X.blk s H scope (compEnvC scope cl C X.env) fp) tg g) (ht : ∀ (s : Shared) (H : Hp) (C : Addr) (cl : List (Str × Addr)) (fp : List Addr), DTs (X.blk s H scope (compEnvC scope cl C X.env) fp) ifs tt)
    (he : ∀ (s : Shared) (H : Hp) (C : Addr) (cl : List (Str × Addr)) (fp : List Addr), DE (X.blk s H scope (compEnvC scope cl C X.env) fp) elt te) (hs : ∀ x, foldedSetIterable iter X.env x = pure x := by intro _; rfl) :
    DE X (.ListComp elt [⟨tg, iter, ifs, 0⟩] scope pos) (wLcM wi wg tt te (own.map (·.2))) :=
  ⟨wkE (pe_lc hc hN hi.p ok hg (fun s H C cl fp => (ht s H C cl fp).p) (fun s H C cl fp => (he s H C cl fp).p) hs) fun σ H Q ⟨ρ, μ, G, P, hr, hm, hw, htl⟩ => llc hp hr hm hw fun L acc μ' H' G' f u e m => htl _ _ _ _ _ f e m (.ref L)⟩
/-- y = [..] -/
theorem ds_setLcG {fin : Addr → List D → Store → Prop} {i : Nat} {y : Str} {py spos : Pos} {w : WE} (hc : X.calm = true) (hN : X.N.Nodup) (hy : X.N[i]? = some y) (hyl : X.env.scope.names.lookup y = some .local)
    (hsw : swapsWith (.ListComp elt [⟨tg, iter, ifs, 0⟩] scope pos) (some (.Name y py)) spos.line X.env = pure true) (hi : DI X tg iter wi) (ok : BlkOk X.N X.env.scope scope own) (hp : GPat X.K (own.map (·.2)) g wg)
    (hg : ∀ (s : Shared) (H : Hp) (C : Addr) (cl : List (Str × Addr)) (fp : List Addr), PG (X.blk s H scope (compEnvC scope cl C X.env) fp) tg g) (ht : ∀ (s : Shared) (H : Hp) (C : Addr) (cl : List (Str × Addr)) (fp : List Addr), DTs (X.blk s H scope (compEnvC scope cl C X.env) fp) ifs tt)
    (he : ∀ (s : Shared) (H : Hp) (C : Addr) (cl : List (Str × Addr)) (fp : List Addr), DE (X.blk s H scope (compEnvC scope cl C X.env) fp) elt te) (hs : ∀ x, foldedSetIterable iter X.env x = pure x)
    (hq : ∀ σ H Q, LE X.K w σ H Q → tLc (LI X.K wi) g (LT X.K tt) (LE X.K te) (own.map (·.2)) σ H Q) :
    DS X (.Assign [.Name y py] (.ListComp elt [⟨tg, iter, ifs, 0⟩] scope pos) spos) (wAsg w (wgName i)) :=
  ⟨wkS (ps_setLc hc hN hy hyl hsw hi.p ok hg (fun s H C cl fp => (ht s H C cl fp).p) (fun s H C cl fp => (he s H C cl fp).p) hs) fun D σ H ⟨ρ, μ, G, W, hr, hm, hw, htl⟩ => hq σ H _ ⟨ρ, μ, G, _, hr, hm, hw, fun d μ1 v H1 G1 p e m r => htl.nx _ _ _ _ _ p e ((hr.mono e).set i r) m⟩⟩
theorem ds_setLc {i : Nat} {y : Str} {py spos : Pos} (hc : X.calm = true) (hN : X.N.Nodup) (hy : X.N[i]? = some y) (hyl : X.env.scope.names.lookup y = some .local)
    (hsw : swapsWith (.ListComp elt [⟨tg, iter, ifs, 0⟩] scope pos) (some (.Name y py)) spos.line X.env = pure true) (hi : DI X tg iter wi) (ok : BlkOk X.N X.env.scope scope own) (hp : GPat X.K (own.map (·.2)) g wg)
    (hg : ∀ (s : Shared) (H : Hp) (C : Addr) (cl : List (Str × Addr)) (fp : List Addr), PG (X.blk s H scope (compEnvC scope cl C X.env) fp) tg g) (ht : ∀ (s : Shared) (H : Hp) (C : Addr) (cl : List (Str × Addr)) (fp : List Addr), DTs (X.blk s H scope (compEnvC scope cl C X.env) fp) ifs tt)
    (he : ∀ (s : Shared) (H : Hp) (C : Addr) (cl : List (Str × Addr)) (fp : List Addr), DE (X.blk s H scope (compEnvC scope cl C X.env) fp) elt te) (hs : ∀ x, foldedSetIterable iter X.env x = pure x := by intro _; rfl) :
    DS X (.Assign [.Name y py] (.ListComp elt [⟨tg, iter, ifs, 0⟩] scope pos) spos) (wAsg (wLc wi wg tt te (own.map (·.2))) (wgName i)) :=
  ds_setLcG (fin := fun _ _ _ => True) hc hN hy hyl hsw hi ok hp hg ht he hs fun σ H Q ⟨ρ, μ, G, P, hr, hm, hw, htl⟩ => llc hp hr hm hw fun L acc μ' H' G' f u e m => by
    obtain ⟨G2, m2, e2, r2⟩ := m.freezeL u
    exact htl _ _ _ _ _ f (e.trans e2) m2 r2
theorem ds_setLcM {i : Nat} {y : Str} {py spos : Pos} (hc : X.calm = true) (hN : X.N.Nodup) (hy : X.N[i]? = some y) (hyl : X.env.scope.names.lookup y = some .local)
    (hsw : swapsWith (.ListComp elt [⟨tg, iter, ifs, 0⟩] scope pos) (some (.Name y py)) spos.line X.env = pure true) (hi : DI X tg iter wi) (ok : BlkOk X.N X.env.scope scope own) (hp : GPat X.K (own.map (·.2)) g wg)
    (hg : ∀ (s : Shared) (H : Hp) (C : Addr) (cl : List (Str × Addr)) (fp : List Addr), PG (X.blk s H scope (compEnvC scope cl C X.env) fp) tg g) (ht : ∀ (s : Shared) (H : Hp) (C : Addr) (cl : List (Str × Addr)) (fp : List Addr), DTs (X.blk s H scope (compEnvC scope cl C X.env) fp) ifs tt)
    (he : ∀ (s : Shared) (H : Hp) (C : Addr) (cl : List (Str × Addr)) (fp : List Addr), DE (X.blk s H scope (compEnvC scope cl C X.env) fp) elt te) (hs : ∀ x, foldedSetIterable iter X.env x = pure x := by intro _; rfl) :
    DS X (.Assign [.Name y py] (.ListComp elt [⟨tg, iter, ifs, 0⟩] scope pos) spos) (wAsg (wLcM wi wg tt te (own.map (·.2))) (wgName i)) :=
  ds_setLcG (fin := fun _ _ _ => True) hc hN hy hyl hsw hi ok hp hg ht he hs fun σ H Q ⟨ρ, μ, G, P, hr, hm, hw, htl⟩ => llc hp hr hm hw fun L acc μ' H' G' f u e m => htl _ _ _ _ _ f e m (.ref L)
end
end

/-! ### the usual loops -/
/-- a comprehension whose elements change nothing: f tells each, or that it is left out -/
theorem lc_fm {its : List D} {g : WG} {tt : WT} {te : WE} {vs : List Nat} {fin : Addr → List D → Store → Prop} {ρ : Env} {μ : Store} (f : Nat → D → Option D) (hz : its.length ≤ sizeLine)
    (h : ∀ (i : Nat) (d : D) (μ' : Store) (R : D → Store → Prop) (R' : Store → Prop), its[i]? = some d → Sub μ μ' → (∀ y, f i d = some y → R y μ') → (f i d = none → R' μ') → g d (wipeE ρ vs) μ' fun ρ2 μ2 => tt ρ2 μ2 fun b μ3 => if b = true then te ρ2 μ3 R else R' μ3)
    (q : ∀ L, μ L = none → fin L ((its.zipIdx).filterMap fun p => f p.2 p.1) (setS μ L (.lst ((its.zipIdx).filterMap fun p => f p.2 p.1)))) : lcBody its g tt te vs fin ρ μ := by
  refine ⟨hz, fun L hL => ⟨fun i acc μ' => acc = ((its.zipIdx).take i).filterMap (fun p => f p.2 p.1) ∧ μ' = setS μ L (.lst acc), ⟨rfl, rfl⟩, ?_, ?_⟩⟩
  · rintro i d acc μ' hd hu ⟨rfl, rfl⟩
    have hz2 : (its.zipIdx)[i]? = some (d, i) := by rw [List.getElem?_zipIdx, hd]; simp
    have ht : (its.zipIdx).take (i + 1) = (its.zipIdx).take i ++ [(d, i)] := by rw [List.take_add_one, hz2]; rfl
    refine h i d _ _ _ hd (Sub.set hL) (fun y e => ⟨hu, ?_, ?_⟩) (fun e => ⟨hu, ?_, rfl⟩)
    · rw [ht, List.filterMap_append]; simp [e]
    · rw [setS_setS]
    · rw [ht, List.filterMap_append]; simp [e]
  · rintro acc μ' _ _ ⟨rfl, rfl⟩
    have e : (its.zipIdx).take its.length = its.zipIdx := by
      rw [List.take_of_length_le]; simp
    rw [e]
    exact q L hL
/-- .. with a test, every element told by its item -/
theorem lc_fmap {its : List D} {g : WG} {tt : WT} {te : WE} {vs : List Nat} {fin : Addr → List D → Store → Prop} {ρ : Env} {μ : Store} (f : D → Option D) (hz : its.length ≤ sizeLine)
    (h : ∀ (i : Nat) (d : D) (μ' : Store) (R : D → Store → Prop) (R' : Store → Prop), its[i]? = some d → Sub μ μ' → (∀ y, f d = some y → R y μ') → (f d = none → R' μ') → g d (wipeE ρ vs) μ' fun ρ2 μ2 => tt ρ2 μ2 fun b μ3 => if b = true then te ρ2 μ3 R else R' μ3)
    (q : ∀ L, μ L = none → fin L (its.filterMap f) (setS μ L (.lst (its.filterMap f)))) : lcBody its g tt te vs fin ρ μ := by
  have e : (its.zipIdx).filterMap (fun p => (fun (_ : Nat) (d : D) => f d) p.2 p.1) = its.filterMap f := by
    have e2 := List.filterMap_map (f := Prod.fst) (g := f) (l := its.zipIdx)
    rw [List.zipIdx_map_fst] at e2
    rw [e2]
    rfl
  exact lc_fm (fun _ d => f d) hz (fun i d μ' R R' hd s hr hr' => h i d μ' R R' hd s hr hr') (by rw [e]; exact q)
/-- .. without a test, every element told by its item -/
theorem lc_map {its : List D} {g : WG} {te : WE} {vs : List Nat} {fin : Addr → List D → Store → Prop} {ρ : Env} {μ : Store} (f : D → D) (hz : its.length ≤ sizeLine)
    (h : ∀ (i : Nat) (d : D) (μ' : Store) (R : D → Store → Prop), its[i]? = some d → Sub μ μ' → R (f d) μ' → g d (wipeE ρ vs) μ' fun ρ2 μ2 => te ρ2 μ2 R)
    (q : ∀ L, μ L = none → fin L (its.map f) (setS μ L (.lst (its.map f)))) : lcBody its g wYes te vs fin ρ μ := by
  have e : its.filterMap (fun d => some (f d)) = its.map f := by rw [show (fun d => some (f d)) = some ∘ f from rfl, List.filterMap_eq_map]
  refine lc_fmap (fun d => some (f d)) hz (fun i d μ' R R' hd s hr _ => ?_) (by rw [e]; exact q)
  exact h i d μ' R hd s (hr _ rfl)
theorem fin_lst {μ : Store} {P : D → Store → Prop} {xs : List D} (h : P (.lst xs) μ) : ∀ L, μ L = none → P (.lst xs) (delS (setS μ L (.lst xs)) L) := fun L hL => by rw [delS_setS hL]; exact h
end Dl


namespace Dl
open PySem L2
section
variable {X : Cx} {e : Expr} {es : List Expr} {x : Str} {p pos : Pos} {wa : WA}
/-! ### built-ins called -/
abbrev OC := List D → Store → (D → Store → Prop) → Prop
def CallS (X : Cx) (f : Value) (o : OC) : Prop :=
  ∃ r, CallR X f r ∧ ∀ {ds : List D} {μ : Store} {P : D → Store → Prop} {G H : Hp} {vs : List V} {Q : VK}, o ds μ P → Sm X.K μ G H → Rps X.K G ds vs → Tells X.K G P Q → r vs H Q
def wCB (o : OC) (wa : WA) : WE := fun ρ μ P => wa ρ μ fun ds μ1 => o ds μ1 P
theorem lcb {r : List V → Hp → VK → Prop} {o : OC} (hs : ∀ {ds : List D} {μ : Store} {P : D → Store → Prop} {G H : Hp} {vs : List V} {Q : VK}, o ds μ P → Sm X.K μ G H → Rps X.K G ds vs → Tells X.K G P Q → r vs H Q) :
    ∀ σ H Q, LE X.K (wCB o wa) σ H Q → tCB r (LA X.K wa) σ H Q := fun σ H Q ⟨ρ, μ, G, P, he, hm, hw, ht⟩ => ⟨ρ, μ, G, _, he, hm, hw, fun ds μ1 vs H1 G1 p1 e1 m1 r1 => hs p1 m1 r1 (ht.mono e1)⟩
theorem de_callB {id : String} {o : OC} (hc : CallS X (.builtin id) o) (hg : Gl X x) (hm : X.mg x = none) (hv : bootBuiltins x = some (.builtin id)) (ha : DA X (e :: es) wa) (hn : x ≠ "__name__" := by decide) (hdb : (x == ("__debug__" : Str)) = false := by decide)
    (he : starEach (e :: es) X.env = (false, eval e X.env) :: starEach es X.env := by rfl) (hpl : (backTo pos (starEach es X.env)).any (·.1) = false := by rfl) : DE X (.Call (.Name x p) (e :: es) [] pos) (wCB o wa) := by
  obtain ⟨r, hr, hs⟩ := hc
  exact ⟨wkE (pe_callB hr hg hm hv ha.p hn hdb he hpl) (lcb hs)⟩
theorem de_callTy {T : String} {o : OC} (hc : CallS X (.type T) o) (hg : Gl X x) (hm : X.mg x = none) (hv : bootBuiltins x = some (.type T)) (ha : DA X (e :: es) wa) (hn : x ≠ "__name__" := by decide) (hdb : (x == ("__debug__" : Str)) = false := by decide)
    (he : starEach (e :: es) X.env = (false, eval e X.env) :: starEach es X.env := by rfl) (hpl : (backTo pos (starEach es X.env)).any (·.1) = false := by rfl) : DE X (.Call (.Name x p) (e :: es) [] pos) (wCB o wa) := by
  obtain ⟨r, hr, hs⟩ := hc
  exact ⟨wkE (pe_callTy hr hg hm hv ha.p hn hdb he hpl) (lcb hs)⟩

/-- lengths -/
def lenD (μ : Store) : D → Option Nat
  | .str s => some s.length
  | .tup xs => some xs.length
  | .lst xs => some xs.length
  | .scr xs => some xs.length
  | .dct xs => some xs.length
  | .ref a => match μ a with | some (.lst xs) => some xs.length | some (.dct xs) => some xs.length | _ => none
  | _ => none
def oLen : OC := fun ds μ P => match ds with
  | [d] => match lenD μ d with | some n => okLen d ∧ P (.int n) μ | none => False
  | _ => False
theorem cs_len : CallS X (.builtin "len") oLen := by
  refine ⟨_, call_len.or call_lenD, ?_⟩
  intro ds μ P G H vs Q h m r t
  match ds, r, h with
  | [d], .cons (v := v) r1 .nil, h =>
    have h' : (match lenD μ d with | some n => okLen d ∧ P (.int n) μ | none => False) := h
    have tl : ∀ n : Nat, P (.int n) μ → Q (.int n) H := fun n q => t _ _ _ _ _ q (Ex.refl _) m (.int _)
    cases r1 with
    | str s => exact .inl ⟨_, _, rfl, ⟨h'.1, rfl⟩, tl _ h'.2⟩
    | tup h1 r1 => exact .inl ⟨_, _, rfl, .inr ⟨_, h1.sq m.ex, rfl⟩, by rw [← r1.length]; exact tl _ h'.2⟩
    | lst h1 r1 => exact .inl ⟨_, _, rfl, .inl ⟨_, lst_sq m.ex h1, rfl⟩, by rw [← r1.length]; exact tl _ h'.2⟩
    | scr h1 r1 => exact .inl ⟨_, _, rfl, .inl ⟨_, h1.sq m.ex, rfl⟩, by rw [← r1.length]; exact tl _ h'.2⟩
    | dct h1 k r1 => exact .inr ⟨_, _, rfl, m.ex _ _ h1, by rw [len_keys k]; exact tl _ h'.2⟩
    | ref a =>
      unfold lenD at h'
      dsimp only at h'
      cases q : μ a with
      | none => rw [q] at h'; exact h'.elim
      | some c =>
        rw [q] at h'
        cases c with
        | lst xs => obtain ⟨_, ws, h1, r1⟩ := m.st a _ q; exact .inl ⟨_, _, rfl, .inl ⟨ws, SqL.of h1, rfl⟩, by rw [← r1.length]; exact tl _ h'.2⟩
        | dct xs => obtain ⟨_, ws, h1, k, r1⟩ := m.st a _ q; exact .inr ⟨a, ws, rfl, h1, by rw [len_keys k]; exact tl _ h'.2⟩
        | ins C xs => exact h'.elim
    | _ => exact h'.elim
def oAbs : OC := fun ds μ P => match ds with | [.int i] => P (.int (if i < 0 then -i else i)) μ | _ => False
theorem cs_abs : CallS X (.builtin "abs") oAbs := by
  refine ⟨_, call_abs, ?_⟩
  intro ds μ P G H vs Q h m r t
  match ds, r, h with
  | [.int i], .cons (.int _) .nil, h => exact ⟨i, rfl, t _ _ _ _ _ h (Ex.refl _) m (.int _)⟩
/-- int(..) of an int, a bool, a text -/
def oInt : OC := fun ds μ P => match ds with
  | [.int i] => P (.int i) μ
  | [.bl b] => P (.int (if b then 1 else 0)) μ
  | [.str s] => match PySem.intText? s with | some n => s.length ≤ 640 ∧ P (.int n) μ | none => False
  | _ => False
theorem cs_int : CallS X (.type "int") oInt := by
  refine ⟨_, call_int1.or call_int_str, ?_⟩
  intro ds μ P G H vs Q h m r t
  match ds, r, h with
  | [.int i], .cons (.int _) .nil, h => exact .inl (.inl ⟨i, rfl, t _ _ _ _ _ h (Ex.refl _) m (.int _)⟩)
  | [.bl b], .cons (.bl _) .nil, h => exact .inl (.inr ⟨b, rfl, t _ _ _ _ _ h (Ex.refl _) m (.int _)⟩)
  | [.str s], .cons (.str _) .nil, h =>
    unfold oInt at h
    dsimp only at h
    split at h
    · rename_i n e
      exact .inr ⟨s, n, rfl, e, h.1, t _ _ _ _ _ h.2 (Ex.refl _) m (.int _)⟩
    · exact h.elim
/-- str(..) of an int, a text -/
def oStr : OC := fun ds μ P => match ds with
  | [.int i] => i.natAbs.log2 < 1920 ∧ P (.str (Str.ofString (toString i))) μ
  | [.str s] => P (.str s) μ
  | _ => False
theorem cs_str : CallS X (.type "str") oStr := by
  refine ⟨_, call_str_int.or SkE.call_str_str, ?_⟩
  intro ds μ P G H vs Q h m r t
  match ds, r, h with
  | [.int i], .cons (.int _) .nil, h => exact .inl ⟨i, rfl, h.1, t _ _ _ _ _ h.2 (Ex.refl _) m (.str _)⟩
  | [.str s], .cons (.str _) .nil, h => exact .inr ⟨s, rfl, t _ _ _ _ _ h (Ex.refl _) m (.str _)⟩
def oRepr : OC := fun ds μ P => match ds with
  | [.int i] => i.natAbs.log2 < 1920 ∧ P (.str (Str.ofString (toString i))) μ
  | [.str x] => (reprText x).length ≤ sizeLine ∧ P (.str (reprText x)) μ
  | [.bl b] => P (.str (if b then ("True" : Str) else "False")) μ
  | [.non] => P (.str "None") μ
  | _ => False
theorem call_repr_str : CallR X (.builtin "repr") (fun xs H Q => ∃ x, xs = [.str x] ∧ (reprText x).length ≤ sizeLine ∧ Q (.str (reprText x)) H) := by
  intro pins s σ H xs us Q I r h
  obtain ⟨x, rfl, hz, q⟩ := h
  obtain ⟨u, rfl, t, rfl⟩ := vals1 r
  exact PySem.P.repr_of_str ⟨.str _, H, I.tok _, ⟨_, rfl⟩, q⟩ hz
theorem call_repr_bl : CallR X (.builtin "repr") (fun xs H Q => ∃ b : Bool, xs = [.bl b] ∧ Q (.str (if b then ("True" : Str) else "False")) H) := by
  intro pins s σ H xs us Q I r h
  obtain ⟨b, rfl, q⟩ := h
  obtain ⟨u, rfl, r1⟩ := vals1 r
  cases (show u = Value.bool b from r1)
  exact PySem.P.repr_of_bool ⟨.str _, H, I.tok _, ⟨_, rfl⟩, q⟩
theorem call_repr_non : CallR X (.builtin "repr") (fun xs H Q => xs = [.non] ∧ Q (.str "None") H) := by
  intro pins s σ H xs us Q I r h
  obtain ⟨rfl, q⟩ := h
  obtain ⟨u, rfl, r1⟩ := vals1 r
  cases (show u = Value.none from r1)
  exact PySem.P.repr_of_none ⟨.str _, H, I.tok _, ⟨_, rfl⟩, q⟩
theorem CallR_or {f : Value} {r r' : List V → Hp → VK → Prop} (h : CallR X f r) (h' : CallR X f r') : CallR X f (fun xs H Q => r xs H Q ∨ r' xs H Q) := by
  intro pins s σ H xs us Q I rv q
  rcases q with q | q
  · exact h pins s σ H xs us Q I rv q
  · exact h' pins s σ H xs us Q I rv q
theorem cs_repr : CallS X (.builtin "repr") oRepr := by
  refine ⟨_, CallR_or SkE.call_repr_int (CallR_or call_repr_str (CallR_or call_repr_bl call_repr_non)), ?_⟩
  intro ds μ P G H vs Q h m r t
  match ds, r, h with
  | [.int i], .cons (.int _) .nil, h => exact .inl ⟨i, rfl, h.1, t _ _ _ _ _ h.2 (Ex.refl _) m (.str _)⟩
  | [.str i], .cons (.str _) .nil, h => exact .inr (.inl ⟨i, rfl, h.1, t _ _ _ _ _ h.2 (Ex.refl _) m (.str _)⟩)
  | [.bl i], .cons (.bl _) .nil, h => exact .inr (.inr (.inl ⟨i, rfl, t _ _ _ _ _ h (Ex.refl _) m (.str _)⟩))
  | [.non], .cons .non .nil, h => exact .inr (.inr (.inr ⟨rfl, t _ _ _ _ _ h (Ex.refl _) m (.str _)⟩))
/-- lists of ints, of texts, of truth values -/
def intsD : List D → Option (List Int)
  | [] => some []
  | .int i :: r => (intsD r).map (i :: ·)
  | _ :: _ => none
def strsD : List D → Option (List Str)
  | [] => some []
  | .str i :: r => (strsD r).map (i :: ·)
  | _ :: _ => none
def blsD : List D → Option (List Bool)
  | [] => some []
  | .bl i :: r => (blsD r).map (i :: ·)
  | _ :: _ => none
theorem intsD_map : ∀ ns : List Int, intsD (ns.map .int) = some ns
  | [] => rfl
  | n :: ns => by rw [List.map_cons, intsD, intsD_map ns]; rfl
theorem strsD_map : ∀ ns : List Str, strsD (ns.map .str) = some ns
  | [] => rfl
  | n :: ns => by rw [List.map_cons, strsD, strsD_map ns]; rfl
theorem blsD_map : ∀ ns : List Bool, blsD (ns.map .bl) = some ns
  | [] => rfl
  | n :: ns => by rw [List.map_cons, blsD, blsD_map ns]; rfl
theorem intsD_ok {K : PySem.W.Frag} {G : Hp} : ∀ {ds : List D} {vs : List V} {ns : List Int}, intsD ds = some ns → Rps K G ds vs → vs = ns.map V.int
  | _, _, _, h, .nil => by cases h; rfl
  | d :: ds, _ :: _, ns, h, .cons h1 r => by
    cases h1 with
    | int i =>
      have h' : (intsD ds).map (i :: ·) = some ns := h
      cases q : intsD ds with
      | none => rw [q] at h'; cases h'
      | some ms => rw [q] at h'; cases h'; rw [intsD_ok q r]; rfl
    | _ => cases h
theorem strsD_ok {K : PySem.W.Frag} {G : Hp} : ∀ {ds : List D} {vs : List V} {ns : List Str}, strsD ds = some ns → Rps K G ds vs → vs = ns.map V.str
  | _, _, _, h, .nil => by cases h; rfl
  | d :: ds, _ :: _, ns, h, .cons h1 r => by
    cases h1 with
    | str i =>
      have h' : (strsD ds).map (i :: ·) = some ns := h
      cases q : strsD ds with
      | none => rw [q] at h'; cases h'
      | some ms => rw [q] at h'; cases h'; rw [strsD_ok q r]; rfl
    | _ => cases h
theorem blsD_ok {K : PySem.W.Frag} {G : Hp} : ∀ {ds : List D} {vs : List V} {ns : List Bool}, blsD ds = some ns → Rps K G ds vs → vs = ns.map V.bl
  | _, _, _, h, .nil => by cases h; rfl
  | d :: ds, _ :: _, ns, h, .cons h1 r => by
    cases h1 with
    | bl i =>
      have h' : (blsD ds).map (i :: ·) = some ns := h
      cases q : blsD ds with
      | none => rw [q] at h'; cases h'
      | some ms => rw [q] at h'; cases h'; rw [blsD_ok q r]; rfl
    | _ => cases h
theorem rps_ints {K : PySem.W.Frag} {G : Hp} : ∀ ns : List Int, Rps K G (ns.map .int) (ns.map V.int)
  | [] => .nil
  | n :: ns => .cons (.int n) (rps_ints ns)
theorem rps_strs {K : PySem.W.Frag} {G : Hp} : ∀ ns : List Str, Rps K G (ns.map .str) (ns.map V.str)
  | [] => .nil
  | n :: ns => .cons (.str n) (rps_strs ns)
/-- min, max of two ints; of a list of ints -/
def oMin : OC := fun ds μ P => match ds with
  | [.int i, .int j] => P (.int (if j < i then j else i)) μ
  | [d] => match (seqR μ d).bind intsD with | some ns => 0 < ns.length ∧ ∀ m, m ∈ ns → (∀ y, y ∈ ns → m ≤ y) → P (.int m) μ | none => False
  | _ => False
def oMax : OC := fun ds μ P => match ds with
  | [.int i, .int j] => P (.int (if j > i then j else i)) μ
  | [d] => match (seqR μ d).bind intsD with | some ns => 0 < ns.length ∧ ∀ m, m ∈ ns → (∀ y, y ∈ ns → y ≤ m) → P (.int m) μ | none => False
  | _ => False
theorem ints_of {K : PySem.W.Frag} {μ : Store} {G H : Hp} {d : D} {v : V} {ns : List Int} (h : (seqR μ d).bind intsD = some ns) (m : Sm K μ G H) (r : Rp K G d v) : ∃ a, v = .ref a ∧ SqL K H a (ns.map V.int) := by
  cases q : seqR μ d with
  | none => rw [q] at h; cases h
  | some xs =>
    rw [q] at h
    obtain ⟨a, ws, rfl, h1, r1⟩ := seqR_ok q m r
    exact ⟨a, rfl, by rw [← intsD_ok h r1]; exact h1⟩
theorem cs_min (hc : X.calm = true) : CallS X (.builtin "min") oMin := by
  refine ⟨_, (call_min2 hc).or (cr_min hc), ?_⟩
  intro ds μ P G H vs Q h m r t
  unfold oMin at h
  split at h
  · match vs, r with
    | _, .cons (.int _) (.cons (.int _) .nil) => exact .inl ⟨_, _, rfl, t _ _ _ _ _ h (Ex.refl _) m (.int _)⟩
  · match vs, r with
    | _, .cons r1 .nil =>
      split at h
      · rename_i ns e
        obtain ⟨a, rfl, hs⟩ := ints_of e m r1
        exact .inr ⟨a, ns, rfl, hs, h.1, fun k h1 h2 => t _ _ _ _ _ (h.2 k h1 h2) (Ex.refl _) m (.int _)⟩
      · exact h.elim
  · exact h.elim
theorem cs_max (hc : X.calm = true) : CallS X (.builtin "max") oMax := by
  refine ⟨_, (call_max2 hc).or (cr_max hc), ?_⟩
  intro ds μ P G H vs Q h m r t
  unfold oMax at h
  split at h
  · match vs, r with
    | _, .cons (.int _) (.cons (.int _) .nil) => exact .inl ⟨_, _, rfl, t _ _ _ _ _ h (Ex.refl _) m (.int _)⟩
  · match vs, r with
    | _, .cons r1 .nil =>
      split at h
      · rename_i ns e
        obtain ⟨a, rfl, hs⟩ := ints_of e m r1
        exact .inr ⟨a, ns, rfl, hs, h.1, fun k h1 h2 => t _ _ _ _ _ (h.2 k h1 h2) (Ex.refl _) m (.int _)⟩
      · exact h.elim
  · exact h.elim
def oSum : OC := fun ds μ P => match ds with
  | [d] => match (seqR μ d).bind intsD with | some ns => P (.int ns.sum) μ | none => False
  | _ => False
theorem cs_sum (hc : X.calm = true) : CallS X (.builtin "sum") oSum := by
  refine ⟨_, cr_sum hc, ?_⟩
  intro ds μ P G H vs Q h m r t
  unfold oSum at h
  split at h
  · match vs, r with
    | _, .cons r1 .nil =>
      split at h
      · rename_i ns e
        obtain ⟨a, rfl, hs⟩ := ints_of e m r1
        exact ⟨a, ns, rfl, hs, t _ _ _ _ _ h (Ex.refl _) m (.int _)⟩
      · exact h.elim
  · exact h.elim
theorem bls_of {K : PySem.W.Frag} {μ : Store} {G H : Hp} {d : D} {v : V} {ns : List Bool} (h : (seqR μ d).bind blsD = some ns) (m : Sm K μ G H) (r : Rp K G d v) : ∃ a, v = .ref a ∧ SqL K H a (ns.map V.bl) := by
  cases q : seqR μ d with
  | none => rw [q] at h; cases h
  | some xs =>
    rw [q] at h
    obtain ⟨a, ws, rfl, h1, r1⟩ := seqR_ok q m r
    exact ⟨a, rfl, by rw [← blsD_ok h r1]; exact h1⟩
def oAll : OC := fun ds μ P => match ds with
  | [d] => match (seqR μ d).bind blsD with | some ns => P (.bl (ns.all id)) μ | none => False
  | _ => False
def oAny : OC := fun ds μ P => match ds with
  | [d] => match (seqR μ d).bind blsD with | some ns => P (.bl (ns.any id)) μ | none => False
  | _ => False
theorem cs_all (hc : X.calm = true) : CallS X (.builtin "all") oAll := by
  refine ⟨_, cr_all hc, ?_⟩
  intro ds μ P G H vs Q h m r t
  unfold oAll at h
  split at h
  · match vs, r with
    | _, .cons r1 .nil =>
      split at h
      · rename_i ns e
        obtain ⟨a, rfl, hs⟩ := bls_of e m r1
        exact ⟨a, ns, rfl, hs, t _ _ _ _ _ h (Ex.refl _) m (.bl _)⟩
      · exact h.elim
  · exact h.elim
theorem cs_any (hc : X.calm = true) : CallS X (.builtin "any") oAny := by
  refine ⟨_, cr_any hc, ?_⟩
  intro ds μ P G H vs Q h m r t
  unfold oAny at h
  split at h
  · match vs, r with
    | _, .cons r1 .nil =>
      split at h
      · rename_i ns e
        obtain ⟨a, rfl, hs⟩ := bls_of e m r1
        exact ⟨a, ns, rfl, hs, t _ _ _ _ _ h (Ex.refl _) m (.bl _)⟩
      · exact h.elim
  · exact h.elim
/-- sorted of ints, of fewer than 64 texts -/
def oSorted : OC := fun ds μ P => match ds with
  | [d] => match seqR μ d with
    | some xs => match intsD xs with
      | some ns => ∀ ns' : List Int, ns'.Perm ns → ns'.Pairwise (· ≤ ·) → P (.lst (ns'.map .int)) μ
      | none => match strsD xs with
        | some ss => ss.length < 64 ∧ ∀ ss' : List Str, ss'.Perm ss → PyProof.Rows.sortedS ss' = true → P (.lst (ss'.map .str)) μ
        | none => False
    | none => False
  | _ => False
theorem cs_sorted : CallS X (.builtin "sorted") oSorted := by
  refine ⟨_, cr_sortedI.or cr_sortedS, ?_⟩
  intro ds μ P G H vs Q h m r t
  unfold oSorted at h
  split at h
  · match vs, r with
    | _, .cons r1 .nil =>
      split at h
      · rename_i xs e
        obtain ⟨a, ws, rfl, h1, r2⟩ := seqR_ok e m r1
        split at h
        · rename_i ns e2
          refine .inl ⟨a, ns, rfl, by rw [← intsD_ok e2 r2]; exact h1, fun ns' p hp hs hn => new_lst m (rps_ints ns') (h ns' hp hs) t p hn⟩
        · split at h
          · rename_i ss e3
            exact .inr ⟨a, ss, rfl, by rw [← strsD_ok e3 r2]; exact h1, h.1, fun ss' p hp hs hn => new_lst m (rps_strs ss') (h.2 ss' hp hs) t p hn⟩
          · exact h.elim
      · exact h.elim
  · exact h.elim
/-- tuple(..), list(..) -/
def oTuple : OC := fun ds μ P => match ds with
  | [d] => match seqA μ d with | some xs => P (.tup xs) μ | none => False
  | _ => False
theorem cs_tuple : CallS X (.type "tuple") oTuple := by
  refine ⟨_, call_tuple_of, ?_⟩
  intro ds μ P G H vs Q h m r t
  unfold oTuple at h
  split at h
  · match vs, r with
    | _, .cons r1 .nil =>
      split at h
      · rename_i xs e
        rename_i d _ _
        by_cases q : ∃ es, d = D.tup es
        · obtain ⟨es, rfl⟩ := q
          cases e
          cases r1 with
          | tup h1 r2 => exact ⟨_, _, rfl, .inr ⟨h1.sq m.ex, t _ _ _ _ _ h (Ex.refl _) m (.tup h1 r2)⟩⟩
        · have e' : seqR μ d = some xs := by
            cases d with
            | tup es => exact (q ⟨es, rfl⟩).elim
            | _ => exact e
          obtain ⟨a, ws, rfl, h1, r2⟩ := seqR_ok e' m r1
          exact ⟨a, ws, rfl, .inl ⟨h1, new_tup m r2 h t⟩⟩
      · exact h.elim
  · exact h.elim
def oList : OC := fun ds μ P => match ds with
  | [d] => match seqA μ d with | some xs => P (.lst xs) μ | none => False
  | _ => False
def oListM : OC := fun ds μ P => match ds with
  | [d] => match seqA μ d with | some xs => ∀ p, μ p = none → P (.ref p) (setS μ p (.lst xs)) | none => False
  | _ => False
theorem cs_list : CallS X (.type "list") oList := by
  refine ⟨_, call_list_of, ?_⟩
  intro ds μ P G H vs Q h m r t
  unfold oList at h
  split at h
  · match vs, r with
    | _, .cons r1 .nil =>
      split at h
      · rename_i xs e
        obtain ⟨a, ws, rfl, h1, r2⟩ := seqA_ok e m r1
        exact ⟨a, ws, rfl, h1, new_lst m r2 h t⟩
      · exact h.elim
  · exact h.elim
theorem cs_listM : CallS X (.type "list") oListM := by
  refine ⟨_, call_list_of, ?_⟩
  intro ds μ P G H vs Q h m r t
  unfold oListM at h
  split at h
  · match vs, r with
    | _, .cons r1 .nil =>
      split at h
      · rename_i xs e
        obtain ⟨a, ws, rfl, h1, r2⟩ := seqA_ok e m r1
        exact ⟨a, ws, rfl, h1, new_lstM m r2 h t⟩
      · exact h.elim
  · exact h.elim

/-! ### a[b] -/
def oIx : OD := fun x y μ P => match x with
  | .str s => match y with
    | .int i => match atI s.cps.toList i with | some c => s.length ≤ sizeLine ∧ P (.str ⟨#[c]⟩) μ | none => False
    | _ => False
  | x => match seqA μ x with
    | some xs => match y with
      | .int i => match atI xs i with | some d => P d μ | none => False
      | _ => False
    | none => match x with
      | .dct kvs => match (keyD y).bind (look kvs) with | some d => P d μ | none => False
      | .dcl kvs => match (keyD y).bind (look kvs) with | some d => P d μ | none => False
      | .ref a => match μ a with
        | some (.dct kvs) => match (keyD y).bind (look kvs) with | some d => P d μ | none => False
        | _ => False
      | _ => False
theorem Rps.atI {K : PySem.W.Frag} {G : Hp} {ds : List D} {vs : List V} {i : Int} {d : D} (r : Rps K G ds vs) (h : L2.atI ds i = some d) : ∃ v, L2.atI vs i = some v ∧ Rp K G d v := by
  unfold L2.atI at h ⊢
  rw [← r.length]
  cases q : ixN ds.length i with
  | none => rw [q] at h; cases h
  | some j => rw [q] at h; exact r.getL h
def rIxD : R2 := fun x y H Q => ∃ a v, x = .ref a ∧ DGet H a y (some v) ∧ Q v H
theorem ix_dict (hu : X.A.units + 1 < cLine) : IxR X rIxD := by
  intro value slice pins s σ H x y v u Q I rx ry h hs
  obtain ⟨a, z, rfl, g, q⟩ := h
  cases rx
  have hT := dict_typeIs I g
  unfold PyProof.Rows.subscriptTail
  refine wpAny_bind ?_
  rw [getitemInPython_of_ne hT.not_modules]
  refine wpAny_bind (wpAny_specialOf hT PySem.F.slot_dict_getitem.lookup ?_)
  have fin : wpAny (model X.prog X.w) X.A (subscripted slice false (.ref a) u) (fun r s₃ => wpAny (model X.prog X.w) X.A (letTemporaryGo value (.ref a) r >>= fun _ => pure r) (EP X pins σ Q) X.xe s₃) X.xe s := by
    rw [hs]
    exact wpAny_operating (wpAny_mono (d_getItem hu I g ry fun w' s3 I3 rw' => (show EP X pins σ Q w' s3 from ⟨z, H, I3, rw', q⟩)) (fun r s₃ h₃ => wpAny_bind (wpAny_letTemporaryGo (wpAny_pure h₃))) fun _ _ x => x)
  first
    | exact wpAny_pure (wpAny_bind fin)
    | exact wpAny_bind (wpAny_pure (wpAny_bind fin))
    | exact wpAny_bind fin
def wIx (wa wb : WE) : WE := wOp oIx wa wb
theorem de_ix {a b : Expr} {wa wb : WE} (hu : X.A.units + 1 < cLine) (ha : DE X a wa) (hb : DE X b wb) (hs : PlainIx b) : DE X (.Subscript a b pos) (wIx wa wb) := by
  refine ⟨wkE (pe_ix (ix_seq.or (ix_dict hu)) ha.p hb.p hs) (lop fun {x y μ P G H v u Q} h m rx ry t => ?_)⟩
  have key : ∀ {kvs : List (Key × D)} {kv : List (Key × V)} {a : Addr}, Rd H a (.dK kv) → kv.map (·.1) = kvs.map (·.1) → Rps X.K G (kvs.map (·.2)) (kv.map (·.2)) → (match (keyD y).bind (look kvs) with | some d => P d μ | none => False) → rIxD (.ref a) u H Q := fun {kvs kv a} h1 k r h => by
    cases q : keyD y with
    | none => rw [q] at h; exact h.elim
    | some ky =>
      rw [q] at h
      have h' : (match look kvs ky with | some d => P d μ | none => False) := h
      cases q2 : look kvs ky with
      | none => rw [q2] at h'; exact h'.elim
      | some d =>
        rw [q2] at h'
        obtain ⟨v, e, rv⟩ := (look_keys (k := ky) k r).1 d q2
        have ek := keyD_ok q ry
        subst ek
        refine ⟨a, v, rfl, ?_, t _ _ _ _ _ h' (Ex.refl _) m rv⟩
        rw [← e, ← valV_look]
        exact .inl ⟨_, _, h1, rfl, rfl⟩
  unfold oIx at h
  split at h
  · rename_i s
    cases rx
    split at h
    · rename_i i
      cases ry
      split at h
      · rename_i c e
        exact .inl (.inr (.inr ⟨s, i, c, rfl, rfl, h.1, e, t _ _ _ _ _ h.2 (Ex.refl _) m (.str _)⟩))
      · exact h.elim
    · exact h.elim
  · split at h
    · rename_i xs e
      obtain ⟨a, ws, rfl, h1, r1⟩ := seqA_ok e m rx
      split at h
      · rename_i i
        cases ry
        split at h
        · rename_i d e2
          obtain ⟨z, e3, r3⟩ := r1.atI e2
          rcases h1 with h1 | h1
          · exact .inl (.inl ⟨a, ws, i, z, rfl, rfl, h1, e3, t _ _ _ _ _ h (Ex.refl _) m r3⟩)
          · exact .inl (.inr (.inl ⟨a, ws, i, z, rfl, rfl, h1, e3, t _ _ _ _ _ h (Ex.refl _) m r3⟩))
        · exact h.elim
      · exact h.elim
    · split at h
      · cases rx with
        | dct h1 k r1 => exact .inr (key (.inl (m.ex _ _ h1)) k r1 h)
      · cases rx with
        | dcl h1 k r1 => exact .inr (key (.inr ⟨_, m.ex _ _ h1⟩) k r1 h)
      · cases rx
        split at h
        · rename_i kvs e
          obtain ⟨_, kv, h1, k, r1⟩ := m.st _ _ e
          exact .inr (key (.inl h1) k r1 h)
        · exact h.elim
      · exact h.elim
end
end Dl

namespace Dl
open PySem L2
/-! ### promises over data -/
abbrev DSp := List D → Store → (D → Store → Prop) → Prop
def LSp (K : PySem.W.Frag) (d : DSp) : Sp := fun vs H Q _ => ∃ ds μ G P, Rps K G ds vs ∧ Sm K μ G H ∧ d ds μ P ∧ Tells K G P Q
def startD (N : List Str) (ds : List D) : Env := ds.map some ++ List.replicate (N.length - ds.length) none
theorem env_start {K : PySem.W.Frag} {G : Hp} {N : List Str} {ds : List D} {vs : List V} (r : Rps K G ds vs) : EnvR K G (startD N ds) (L2.start N vs) := by
  have hl := r.length
  refine ⟨by simp [startD, L2.start, hl], fun i d q => ?_⟩
  unfold startD at q
  unfold L2.start
  by_cases hi : i < ds.length
  · rw [List.getElem?_append_left (by simpa using hi)] at q
    rw [List.getElem?_append_left (by simpa [← hl] using hi)]
    rw [List.getElem?_map] at q ⊢
    cases e : ds[i]? with
    | none => rw [e] at q; cases q
    | some d' =>
      rw [e] at q
      cases q
      obtain ⟨v, h1, h2⟩ := r.getL e
      exact ⟨v, by rw [h1]; rfl, h2⟩
  · rw [List.getElem?_append_right (by simpa using hi)] at q
    have := List.mem_of_getElem? q
    rw [List.mem_replicate] at this
    cases this.2
section
variable {P : Program} {w : World} {K : PySem.W.Frag} {mg : Str → Option Value} {base : Heap}
/-- the def keeps its promise: its body's derivation, and the reading over data -/
theorem fn_d {x qual : Str} {st : Stmt} {f : Addr} {fd : FuncData} {N ps : List Str} {k : Nat} {d : DSp} {ws : WS} (F : Fun K x qual st f fd) (S : FnScope N ps (defScope st)) (len : ∀ ds μ Q, d ds μ Q → ds.length = ps.length)
    (hb : ∀ (cdv : Value) (A : Around) (outer : List PySem.Env) (s : Shared) (H : Hp) (E : XK), Room k (A.deeper (PyProof.Rows.envOfC qual (defScope st) s.heap.objs.size f cdv)) → DSs (cxOf CX0 P w K mg base N qual (defScope st) f cdv A outer s H E).nox (defBody st) ws)
    (ok : ∀ ds μ Q, d ds μ Q → ws { nx := fun _ μ' => ∃ μ2, Sub μ2 μ' ∧ Q .non μ2, rt := Q } (startD N ds) μ) : FnOk P w K mg base CX0 (k + 1) f fd ps (LSp K d) := by
  refine F.ok S (fun vs H Q E ⟨ds, μ, G, R, r, m, h, t⟩ => by rw [← r.length]; exact len _ _ _ h) (fun cdv A outer s H vs Q E hr ⟨ds, μ, G, R, r, m, h, t⟩ => ?_)
  refine ⟨_, (hb cdv A outer s H E hr).p, startD N ds, μ, G, _, env_start r, m, ok ds μ R h, ⟨fun ρ' μ' σ' H' G' ⟨μ2, sb, p⟩ e _ m' => t _ _ _ _ _ p e (m'.sub sb) .non, fun d μ' v H' G' p e m' r' => t _ _ _ _ _ p e m' r', fun _ _ _ _ _ p => p.elim, fun _ _ _ _ _ p => p.elim⟩⟩
/-- the same for a def that may raise, told of the ways that raise nothing -/
theorem fn_dX {x qual : Str} {st : Stmt} {f : Addr} {fd : FuncData} {N ps : List Str} {k : Nat} {d : DSp} {ws : WS} (F : Fun K x qual st f fd) (S : FnScope N ps (defScope st)) (len : ∀ ds μ Q, d ds μ Q → ds.length = ps.length)
    (hb : ∀ (cdv : Value) (A : Around) (outer : List PySem.Env) (s : Shared) (H : Hp) (E : XK), Room k (A.deeper (PyProof.Rows.envOfC qual (defScope st) s.heap.objs.size f cdv)) → DSs (cxOf CX0 P w K mg base N qual (defScope st) f cdv A outer s H E).nox (defBody st) ws)
    (ok : ∀ ds μ Q, d ds μ Q → ws { nx := fun _ μ' => ∃ μ2, Sub μ2 μ' ∧ Q .non μ2, rt := Q } (startD N ds) μ) : FnOk P w K mg base CX0 (k + 1) f fd ps (LSp K d) := fn_d F S len hb ok
end
section
variable {X : Cx} {k : Nat} {f C : Addr} {fd : FuncData} {ps : List Str} {d : DSp} {dds : List D} {dvs : List V} {ds : List Value} {x m : Str} {p pos apos : Pos} {e o : Expr} {es : List Expr} {wo : WE} {wa : WA}
def wCall (d : DSp) (dds : List D) (wa : WA) : WE := fun ρ μ P => wa ρ μ fun ds μ1 => d (ds ++ dds) μ1 P
theorem de_call (F : FnOk X.prog X.w X.K X.mg X.base CX0 k f fd ps (LSp X.K d)) (hr : Room k X.A) (hg : Gl X x) (hm : X.mg x = some (.ref f)) (hk : PySem.W.keepIn X.K (.ref f) = true) (hb : Binds X.K fd ps ds) (hd : Vals dvs ds) (hdd : ∀ G, Rps X.K G dds dvs)
    (ha : DA X (e :: es) wa) (hdb : (x == ("__debug__" : Str)) = false := by decide) (he : starEach (e :: es) X.env = (false, eval e X.env) :: starEach es X.env := by rfl) (hpl : (backTo pos (starEach es X.env)).any (·.1) = false := by rfl) :
    DE X (.Call (.Name x p) (e :: es) [] pos) (wCall d dds wa) :=
  ⟨wkE (pe_call (E := E0) F hr hg hm hk hb hd pass0 ha.p hdb he hpl) fun σ H Q ⟨ρ, μ, G, P, hr, hm, hw, ht⟩ => ⟨ρ, μ, G, _, hr, hm, hw, fun ds μ1 vs H1 G1 p1 e1 m1 r1 => ⟨ds ++ dds, μ1, G1, P, r1.append (hdd G1), m1, p1, ht.mono e1⟩⟩⟩
theorem de_call0 (F : FnOk X.prog X.w X.K X.mg X.base CX0 k f fd ps (LSp X.K d)) (hr : Room k X.A) (hg : Gl X x) (hm : X.mg x = some (.ref f)) (hk : PySem.W.keepIn X.K (.ref f) = true) (hb : Binds X.K fd ps ds) (hd : Vals dvs ds) (hdd : ∀ G, Rps X.K G dds dvs)
    (hdb : (x == ("__debug__" : Str)) = false := by decide) : DE X (.Call (.Name x p) [] [] pos) (wCall d dds wANil) :=
  ⟨wkE (pe_call0 (E := E0) F hr hg hm hk hb hd pass0 hdb) fun σ H Q ⟨ρ, μ, G, P, hr, hm, hw, ht⟩ => ⟨dds, μ, G, P, hdd G, hm, hw, ht⟩⟩
/-- o.m(..) -/
def wMeth (C : Addr) (m : Str) (d : DSp) (dds : List D) (wo : WE) (wa : WA) : WE := fun ρ μ P => wo ρ μ fun x μ1 => match insD μ1 x with
  | some (C', fs) => C' = C ∧ look fs m = none ∧ wa ρ μ1 fun ds μ2 => d (x :: (ds ++ dds)) μ2 P
  | none => False
theorem lmeth {t : TA} (ht : ∀ σ H Q, LA X.K wa σ H Q → t σ H Q) : ∀ σ H Q, LE X.K (wMeth C m d dds wo wa) σ H Q → (∀ G, Rps X.K G dds dvs) → tMeth C m (LSp X.K d) dvs E0 (LE X.K wo) t σ H Q := fun σ H Q ⟨ρ, μ, G, P, hr, hm, hw, htl⟩ hdd =>
  ⟨ρ, μ, G, _, hr, hm, hw, fun x μ1 v1 H1 G1 p1 e1 m1 r1 => by
    split at p1
    · rename_i C' fs q
      obtain ⟨rfl, hl, p⟩ := p1
      obtain ⟨a, dx, vs, rfl, h1, k1, r2⟩ := insD_ok q m1 r1
      refine ⟨a, dx, vs, rfl, h1, by rw [lookup_look]; exact (look_keys (k := m) k1 r2).2 hl, ht σ H1 _ ⟨ρ, μ1, G1, _, hr.mono e1, m1, p, fun ds μ2 vs2 H2 G2 p2 e2 m2 r3 => ⟨x :: (ds ++ dds), μ2, G2, P, .cons (r1.mono e2) (r3.append (hdd G2)), m2, p2, htl.mono (e1.trans e2)⟩⟩⟩
    · exact p1.elim⟩
theorem de_meth {pl : Sem Bool} (ho : DE X o wo) (c : Cls X.K C) (hm : Meth X.K C m f) (F : FnOk X.prog X.w X.K X.mg X.base CX0 k f fd ps (LSp X.K d)) (hr : Room k X.A) (hb : Binds X.K fd ps ds) (hd : Vals dvs ds) (hdd : ∀ G, Rps X.K G dds dvs) (ha : DA X (e :: es) wa)
    (hst : starEach (e :: es) X.env = (false, eval e X.env) :: starEach es X.env := by rfl) (hpl : (backTo pos (starEach es X.env)).any (·.1) = false := by rfl)
    (ht : eval (.Call (.Attribute o m apos) (e :: es) [] pos) X.env = (do
      let ov ← eval o X.env
      standAt apos.atName
      let (f, first) ← holding [ov] (getMethod ov m pl)
      callWith pos f first (backTo pos (starEach (e :: es) X.env)) (backToKw pos (keywordEach [] X.env))) := by rfl) : DE X (.Call (.Attribute o m apos) (e :: es) [] pos) (wMeth C m d dds wo wa) :=
  ⟨wkE (pe_meth (pl := pl) ho.p c hm F hr hb hd pass0 ha.p hst hpl ht) fun σ H Q h => lmeth (fun σ H Q h => h) σ H Q h hdd⟩
theorem de_meth0 {pl : Sem Bool} (ho : DE X o wo) (c : Cls X.K C) (hm : Meth X.K C m f) (F : FnOk X.prog X.w X.K X.mg X.base CX0 k f fd ps (LSp X.K d)) (hr : Room k X.A) (hb : Binds X.K fd ps ds) (hd : Vals dvs ds) (hdd : ∀ G, Rps X.K G dds dvs)
    (ht : eval (.Call (.Attribute o m apos) [] [] pos) X.env = (do
      let ov ← eval o X.env
      standAt apos.atName
      let (f, first) ← holding [ov] (getMethod ov m pl)
      callWith pos f first (backTo pos (starEach [] X.env)) (backToKw pos (keywordEach [] X.env))) := by rfl) : DE X (.Call (.Attribute o m apos) [] [] pos) (wMeth C m d dds wo wANil) :=
  ⟨wkE (pe_meth0 (pl := pl) ho.p c hm F hr hb hd pass0 ht) fun σ H Q h => lmeth (fun σ H Q ⟨ρ, μ, G, P, hr, hm, hw, ht⟩ => ht _ _ _ _ _ hw (Ex.refl _) hm .nil) σ H Q h hdd⟩
/-- C(..): frozen behind __init__, or not -/
def wMake (C : Addr) (d : DSp) (dds : List D) (wa : WA) : WE := fun ρ μ P => wa ρ μ fun ds μ1 => ∀ x, μ1 x = none → d (.ref x :: (ds ++ dds)) (setS μ1 x (.ins C [])) fun r μ2 => r = .non ∧ ∃ fs, μ2 x = some (.ins C fs) ∧ P (.obj C fs) (delS μ2 x)
def wMakeM (C : Addr) (d : DSp) (dds : List D) (wa : WA) : WE := fun ρ μ P => wa ρ μ fun ds μ1 => ∀ x, μ1 x = none → d (.ref x :: (ds ++ dds)) (setS μ1 x (.ins C [])) fun r μ2 => r = .non ∧ P (.ref x) μ2
theorem made_sm {K : PySem.W.Frag} {μ : Store} {G H : Hp} {x dx : Addr} (m : Sm K μ G H) (hx : H x = none) (hd : H dx = none) (hn : dx ≠ x) : Sm K (setS μ x (.ins C [])) G (upd (upd H dx (.own x)) x (.ins C dx [])) :=
  (m.hidden hd _).write (m.ex.nn hx) ⟨dx, [], upd_same, rfl, .nil⟩
theorem lmake {t : TA} (ht : ∀ σ H Q, LA X.K wa σ H Q → t σ H Q) : ∀ σ H Q, LE X.K (wMake C d dds wa) σ H Q → (∀ G, Rps X.K G dds dvs) → tMake C (LSp X.K d) dvs E0 t σ H Q := fun σ H Q ⟨ρ, μ, G, P, hr, hm, hw, htl⟩ hdd =>
  ht σ H _ ⟨ρ, μ, G, _, hr, hm, hw, fun ds μ1 vs H1 G1 p1 e1 m1 r1 => fun x dx hx hdx hn => ⟨_, _, G1, _, .cons (.ref x) (r1.append (hdd G1)), made_sm m1 hx hdx hn, p1 x (m1.nn hx), fun r μ2 v H2 G2 ⟨er, fs, q, p⟩ e2 m2 rv => by
    subst er
    cases rv
    obtain ⟨G3, m3, e3, r3⟩ := m2.freezeI q
    exact ⟨rfl, htl _ _ _ _ _ p ((e1.trans e2).trans e3) m3 r3⟩⟩⟩
theorem lmakeM {t : TA} (ht : ∀ σ H Q, LA X.K wa σ H Q → t σ H Q) : ∀ σ H Q, LE X.K (wMakeM C d dds wa) σ H Q → (∀ G, Rps X.K G dds dvs) → tMake C (LSp X.K d) dvs E0 t σ H Q := fun σ H Q ⟨ρ, μ, G, P, hr, hm, hw, htl⟩ hdd =>
  ht σ H _ ⟨ρ, μ, G, _, hr, hm, hw, fun ds μ1 vs H1 G1 p1 e1 m1 r1 => fun x dx hx hdx hn => ⟨_, _, G1, _, .cons (.ref x) (r1.append (hdd G1)), made_sm m1 hx hdx hn, p1 x (m1.nn hx), fun r μ2 v H2 G2 ⟨er, p⟩ e2 m2 rv => by
    subst er
    cases rv
    exact ⟨rfl, htl _ _ _ _ _ p (e1.trans e2) m2 (.ref x)⟩⟩⟩
theorem de_make (M : Mk X.K C f) (F : FnOk X.prog X.w X.K X.mg X.base CX0 k f fd ps (LSp X.K d)) (hr : Room (k + 1) X.A) (hg : Gl X x) (hm : X.mg x = some (.ref C)) (hb : Binds X.K fd ps ds) (hd : Vals dvs ds) (hdd : ∀ G, Rps X.K G dds dvs) (ha : DA X (e :: es) wa)
    (hdb : (x == ("__debug__" : Str)) = false := by decide) (he : starEach (e :: es) X.env = (false, eval e X.env) :: starEach es X.env := by rfl) (hpl : (backTo pos (starEach es X.env)).any (·.1) = false := by rfl) : DE X (.Call (.Name x p) (e :: es) [] pos) (wMake C d dds wa) :=
  ⟨wkE (pe_make M F hr hg hm hb hd pass0 ha.p hdb he hpl) fun σ H Q h => lmake (fun σ H Q h => h) σ H Q h hdd⟩
theorem de_makeM (M : Mk X.K C f) (F : FnOk X.prog X.w X.K X.mg X.base CX0 k f fd ps (LSp X.K d)) (hr : Room (k + 1) X.A) (hg : Gl X x) (hm : X.mg x = some (.ref C)) (hb : Binds X.K fd ps ds) (hd : Vals dvs ds) (hdd : ∀ G, Rps X.K G dds dvs) (ha : DA X (e :: es) wa)
    (hdb : (x == ("__debug__" : Str)) = false := by decide) (he : starEach (e :: es) X.env = (false, eval e X.env) :: starEach es X.env := by rfl) (hpl : (backTo pos (starEach es X.env)).any (·.1) = false := by rfl) : DE X (.Call (.Name x p) (e :: es) [] pos) (wMakeM C d dds wa) :=
  ⟨wkE (pe_make M F hr hg hm hb hd pass0 ha.p hdb he hpl) fun σ H Q h => lmakeM (fun σ H Q h => h) σ H Q h hdd⟩
theorem de_make0 (M : Mk X.K C f) (F : FnOk X.prog X.w X.K X.mg X.base CX0 k f fd ps (LSp X.K d)) (hr : Room (k + 1) X.A) (hg : Gl X x) (hm : X.mg x = some (.ref C)) (hb : Binds X.K fd ps ds) (hd : Vals dvs ds) (hdd : ∀ G, Rps X.K G dds dvs)
    (hdb : (x == ("__debug__" : Str)) = false := by decide) : DE X (.Call (.Name x p) [] [] pos) (wMake C d dds wANil) :=
  ⟨wkE (pe_make0 M F hr hg hm hb hd pass0 hdb) fun σ H Q h => lmake (fun σ H Q ⟨ρ, μ, G, P, hr, hm, hw, ht⟩ => ht _ _ _ _ _ hw (Ex.refl _) hm .nil) σ H Q h hdd⟩
theorem de_make0M (M : Mk X.K C f) (F : FnOk X.prog X.w X.K X.mg X.base CX0 k f fd ps (LSp X.K d)) (hr : Room (k + 1) X.A) (hg : Gl X x) (hm : X.mg x = some (.ref C)) (hb : Binds X.K fd ps ds) (hd : Vals dvs ds) (hdd : ∀ G, Rps X.K G dds dvs)
    (hdb : (x == ("__debug__" : Str)) = false := by decide) : DE X (.Call (.Name x p) [] [] pos) (wMakeM C d dds wANil) :=
  ⟨wkE (pe_make0 M F hr hg hm hb hd pass0 hdb) fun σ H Q h => lmakeM (fun σ H Q ⟨ρ, μ, G, P, hr, hm, hw, ht⟩ => ht _ _ _ _ _ hw (Ex.refl _) hm .nil) σ H Q h hdd⟩
end
end Dl
namespace Dl
open PySem L2
/-! ### defs of the text -/
structure DCal (P : Program) (w : World) (K : PySem.W.Frag) (mg : Str → Option Value) (base : Heap) (k : Nat) (x : Str) (d : DSp) (dds : List D) : Prop where
  ex : ∃ (f : Addr) (fd : FuncData) (ps : List Str) (ds : List Value) (dvs : List V), FnOk P w K mg base CX0 k f fd ps (LSp K d) ∧ mg x = some (.ref f) ∧ PySem.W.keepIn K (.ref f) = true ∧ Binds K fd ps ds ∧ Vals dvs ds ∧ ∀ G, Rps K G dds dvs
/-- where a def of the top stands -/
structure DefAt (K : PySem.W.Frag) (mg : Str → Option Value) (x : Str) (st : Stmt) : Prop where
  ex : ∃ (f : Addr) (fd : FuncData), Fun K x x st f fd ∧ mg x = some (.ref f)
section
variable {P : Program} {w : World} {K : PySem.W.Frag} {mg : Str → Option Value} {base : Heap}
theorem DefAt.cal {x : Str} {st : Stmt} {N ps : List Str} {k : Nat} {d : DSp} {ws : WS} (D : DefAt K mg x st) (S : FnScope N ps (defScope st)) (len : ∀ ds μ Q, d ds μ Q → ds.length = ps.length)
    (hb : ∀ {f : Addr} (cdv : Value) (A : Around) (outer : List PySem.Env) (s : Shared) (H : Hp) (E : XK), Room k (A.deeper (PyProof.Rows.envOfC x (defScope st) s.heap.objs.size f cdv)) → DSs (cxOf CX0 P w K mg base N x (defScope st) f cdv A outer s H E).nox (defBody st) ws)
    (ok : ∀ ds μ Q, d ds μ Q → ws { nx := fun _ μ' => ∃ μ2, Sub μ2 μ' ∧ Q .non μ2, rt := Q } (startD N ds) μ)
    (h : ∀ (kV doc pm : Value) (an : Option Addr) (cdv ct : Value) (us : List Value), us.length = ps.length → bindArgs (PySem.W.fnOf x x (defArgs st) (defBody st) (defScope st) .none kV doc pm an cdv ct) ⟨us, []⟩ = pure (ps.zip us)) : DCal P w K mg base (k + 1) x d [] := by
  obtain ⟨f, fd, F, m⟩ := D.ex
  exact ⟨f, fd, ps, [], [], fn_d F S len (hb (f := f)) ok, m, F.kp, F.binds h, .nil, fun _ => .nil⟩
end
section
variable {X : Cx} {j k : Nat} {x : Str} {d : DSp} {dds : List D} {p pos : Pos} {e : Expr} {es : List Expr} {wa : WA}
theorem de_cal (C : DCal X.prog X.w X.K X.mg X.base k x d dds) (hr : Room j X.A) (hk : k ≤ j) (hg : Gl X x) (ha : DA X (e :: es) wa) (hdb : (x == ("__debug__" : Str)) = false := by decide)
    (he : starEach (e :: es) X.env = (false, eval e X.env) :: starEach es X.env := by rfl) (hpl : (backTo pos (starEach es X.env)).any (·.1) = false := by rfl) : DE X (.Call (.Name x p) (e :: es) [] pos) (wCall d dds wa) := by
  obtain ⟨f, fd, ps, ds, dvs, F, m, kp, b, vd, rd⟩ := C.ex
  exact de_call F (hr.mono hk) hg m kp b vd rd ha hdb he hpl
theorem de_cal0 (C : DCal X.prog X.w X.K X.mg X.base k x d dds) (hr : Room j X.A) (hk : k ≤ j) (hg : Gl X x) (hdb : (x == ("__debug__" : Str)) = false := by decide) : DE X (.Call (.Name x p) [] [] pos) (wCall d dds wANil) := by
  obtain ⟨f, fd, ps, ds, dvs, F, m, kp, b, vd, rd⟩ := C.ex
  exact de_call0 F (hr.mono hk) hg m kp b vd rd hdb
end
end Dl

namespace Dl
open PySem L2
open PyProof.Rows
/-! ### enumerate over a text, over a tuple -/
def IteS (s : Str) : It := ⟨fun i _ => i < s.cps.size, fun i H v H' => ∃ T c, v = .ref T ∧ H T = none ∧ H' = upd H T (.tup [.int (i : Nat), .str ⟨#[c]⟩]) ∧ s.cps[i]? = some c, fun i _ => s.cps.size ≤ i⟩
def IteT (K : PySem.W.Frag) (a : Addr) : It :=
  ⟨fun i H => ∃ (xs : List V) (x : V), SqT K H a xs ∧ xs[i]? = some x, fun i H v H' => ∃ T x, v = .ref T ∧ H T = none ∧ H' = upd H T (.tup [.int (i : Nat), x]) ∧ ∀ xs, SqT K H a xs → xs[i]? = some x, fun i H => ∃ xs : List V, SqT K H a xs ∧ xs.length ≤ i⟩
theorem two_fits : (2 : Nat) ≤ sizeLine := by decide
theorem turn_enumS {P : Program} {w : World} {K : PySem.W.Frag} {elts : List Expr} {kk : Nat} {tpos : Pos} (e it : Addr) (x : Str) (t : Tok) :
    Turn P w K (.Tuple elts kk tpos) (IteS x) [e, it] e (fun i h => (∃ old, IsEnum h e it ((i : Nat) : Int) old) ∧ h.IsStrIter it (strIterType x) x t i ∧ e ≠ it) where
  mem := by simp
  obj := fun i h st b hb => by
    obtain ⟨⟨old, he⟩, ⟨o, ho, hc, hd⟩, _⟩ := st
    rcases (show b = e ∨ b = it by simpa using hb) with z | z
    · rw [z]; exact ⟨_, he, fun v q => nomatch q⟩
    · rw [z]; exact ⟨o, ho, fun v q => by rw [hd] at q; cases q⟩
  keep := fun i h h' st k => let ⟨⟨old, he⟩, ⟨o, ho, r⟩, hne⟩ := st; ⟨⟨old, k e (by simp) _ he⟩, ⟨o, k it (by simp) o ho, r⟩, hne⟩
  item := by
    intro X hP hw hK hc i pins s σ H E I hf st hg
    subst hP hw hK
    obtain ⟨⟨old, he⟩, hit, hne⟩ := st
    have hg' : i < x.cps.size := hg
    have hel : e < s.heap.objs.size := Heap.lt_size he
    have hil : it < s.heap.objs.size := by obtain ⟨_, q, _⟩ := hit; exact Heap.lt_size q
    have DD : Draws X.prog X.w X.A.in1 it [it] x.cps.size (fun i v => ∃ c u, x.cps[i]? = some c ∧ v = .str ⟨#[c]⟩ u) (fun i h => h.IsStrIter it (strIterType x) x t i) := Draws.text (A := X.A.in1) (show X.A.in1.handled = none from I.ok.hd hc) it x t
    refine wpAny_pyNext_enum_itemD DD he hit hg' hne (by simpa using hne) fun u h' tk hx ho hit' hT hsz hk => ?_
    obtain ⟨c, tc, hcx, rfl⟩ := hx
    refine ⟨_, rfl, wpAny_letOwnedTupleGo_enum (s := { s with heap := h', toks := tk + 1 }) ho fun h'' he' sb => ?_⟩
    have hT2 : h''.get? s.heap.objs.size = some { cls := .type "tuple", data := .seq #[.int i tk, .str ⟨#[c]⟩ tc] } := (sb.2 _ (Nat.ne_of_gt hel)).trans hT
    have new : ObjOk X.prog X.w (upd H s.heap.objs.size (.tup [.int (i : Nat), .str ⟨#[c]⟩])) h'' s.heap.objs.size (.tup [.int (i : Nat), .str ⟨#[c]⟩]) :=
      ⟨two_fits, [.int i tk, .str ⟨#[c]⟩ tc], .cons ⟨_, rfl⟩ (.cons ⟨_, rfl⟩ .nil), ⟨_, hT2, rfl, _, rfl⟩⟩
    have I1 : Inv X pins σ (upd H s.heap.objs.size (.tup [.int (i : Nat), .str ⟨#[c]⟩])) { s with heap := h'', toks := tk + 1 } :=
      I.turnedNew (ch := [e, it]) (fun b ob hb q => (sb.2 b (fun z => hb (by simp [z]))).trans (hk b ob (fun z => hb (by simp [z])) (fun z => hb (by simp [z])) q)) hf (Nat.le_refl _) new
    refine ⟨.ref s.heap.objs.size, _, I1, rfl, ⟨_, c, rfl, I.hok.fresh (Nat.le_refl _), rfl, hcx⟩, ⟨⟨.str ⟨#[c]⟩ tc, ?_⟩, ?_, hne⟩, fun b hb => ?_⟩
    · have e1 : ((i + 1 : Nat) : Int) = (i : Int) + 1 := by omega
      rw [e1]; exact he'
    · obtain ⟨o, ho2, r⟩ := hit'
      exact ⟨o, (sb.2 it (Ne.symm hne)).trans ho2, r⟩
    · have hb' : b < s.heap.objs.size := by
        rcases (show b = e ∨ b = it by simpa using hb) with z | z
        · rw [z]; exact hel
        · rw [z]; exact hil
      rw [upd_ne (Nat.ne_of_lt hb')]
      exact (hf b hb).1
  done := by
    intro X hP hw hK hc i pins s σ H E I hf st hg
    subst hP hw hK
    obtain ⟨⟨old, he⟩, hit, hne⟩ := st
    have hg' : x.cps.size ≤ i := hg
    have hx : x.cps[i]? = none := Array.getElem?_eq_none hg'
    obtain ⟨f0, f1, f2, f3, f4, f5⟩ := hf it (by simp)
    have hh : X.A.in1.handled = none := I.ok.hd hc
    have DD : Draws X.prog X.w X.A.in1 it [it] i (fun _ _ => True) (fun j h => j = i ∧ h.IsStrIter it (strIterType x) x t i) := by
      refine ⟨fun _ _ st => let ⟨_, o, ho, _⟩ := st; ⟨o, ho⟩, fun _ _ _ st hk => let ⟨e, o, ho, r⟩ := st; ⟨e, o, hk it (by simp) o ho, r⟩, fun j s Q E hj st hQ => absurd st.1 (Nat.ne_of_lt hj), fun s Q E st hE => ?_⟩
      obtain ⟨_, st⟩ := st
      cases ha : x.cps.all (· < 128)
      · simp only [strIterType, ha, Bool.false_eq_true, if_false] at st
        exact wpAny_nextOf_wide_end hh st hx hE
      · simp only [strIterType, ha, if_true] at st
        exact wpAny_nextOf_ascii_end hh st hx hE
    exact wpAny_pyNext_enum_endD DD he ⟨rfl, hit⟩ fun h' eb => ⟨rfl, I.turned (t' := s.toks) (fun b o hb q => eb b o hb q) f0 f1 f3 f4 f5⟩
  self := fun A i s Q E st h => let ⟨⟨_, he⟩, _⟩ := st; wpAny_pyIter_enum he h

theorem turn_enumT {P : Program} {w : World} {K : PySem.W.Frag} {elts : List Expr} {kk : Nat} {tpos : Pos} (a e it : Addr) :
    Turn P w K (.Tuple elts kk tpos) (IteT K a) [e, it] e (fun i h => (∃ old, IsEnum h e it ((i : Nat) : Int) old) ∧ h.IsTupleIter it a i ∧ e ≠ it ∧ a ≠ it) where
  mem := by simp
  obj := fun i h st b hb => by
    obtain ⟨⟨old, he⟩, ⟨o, ho, hc, hd⟩, _⟩ := st
    rcases (show b = e ∨ b = it by simpa using hb) with z | z
    · rw [z]; exact ⟨_, he, fun v q => nomatch q⟩
    · rw [z]; exact ⟨o, ho, fun v q => by rw [hd] at q; cases q⟩
  keep := fun i h h' st k => let ⟨⟨old, he⟩, hi, hne⟩ := st; ⟨⟨old, k e (by simp) _ he⟩, hi.at fun o q => k it (by simp) o q, hne⟩
  item := by
    intro X hP hw hK hc i pins s σ H E I hf st hg
    subst hP hw hK
    obtain ⟨⟨old, he⟩, hit, hne, hna⟩ := st
    obtain ⟨xs, x, hq, hx⟩ := hg
    obtain ⟨its, rv, p, hz⟩ := I.tuple hq
    obtain ⟨u, hu, ru⟩ := rv.get hx
    have hel : e < s.heap.objs.size := Heap.lt_size he
    have hil : it < s.heap.objs.size := by obtain ⟨_, q, _⟩ := hit; exact Heap.lt_size q
    have hlt : i < its.toArray.size := by
      rcases Nat.lt_or_ge i its.length with z | z
      · simpa using z
      · rw [List.getElem?_eq_none z] at hu; cases hu
    have hea : e ≠ a := by
      rintro rfl
      obtain ⟨o, ho, hcl, _⟩ := p
      rw [he] at ho
      cases ho
      exact absurd hcl (by intro z; exact absurd (Value.type.inj z) (by decide))
    have DD : Draws X.prog X.w X.A.in1 it [it, a] its.toArray.size (fun i v => its.toArray[i]? = some v) (fun i h => h.IsTupleIter it a i ∧ h.IsTuple a its.toArray) := Draws.tuple (A := X.A.in1) (show X.A.in1.handled = none from I.ok.hd hc) it a hna its.toArray
    refine wpAny_pyNext_enum_itemD DD he ⟨hit, p⟩ hlt hne (by simp [hne, hea]) fun u2 h' tk hx2 ho hit' hT hsz hk => ?_
    have eu : u2 = u := by
      have q1 : its.toArray[i]? = some u2 := hx2
      rw [List.getElem?_toArray, hu] at q1
      cases q1
      rfl
    subst eu
    refine ⟨_, rfl, wpAny_letOwnedTupleGo_enum (s := { s with heap := h', toks := tk + 1 }) ho fun h'' he' sb => ?_⟩
    have hT2 : h''.get? s.heap.objs.size = some { cls := .type "tuple", data := .seq #[.int i tk, u2] } := (sb.2 _ (Nat.ne_of_gt hel)).trans hT
    have new : ObjOk X.prog X.w (upd H s.heap.objs.size (.tup [.int (i : Nat), x])) h'' s.heap.objs.size (.tup [.int (i : Nat), x]) :=
      ⟨two_fits, [.int i tk, u2], .cons ⟨_, rfl⟩ (.cons ru .nil), ⟨_, hT2, rfl, _, rfl⟩⟩
    have I1 : Inv X pins σ (upd H s.heap.objs.size (.tup [.int (i : Nat), x])) { s with heap := h'', toks := tk + 1 } :=
      I.turnedNew (ch := [e, it]) (fun b ob hb q => (sb.2 b (fun z => hb (by simp [z]))).trans (hk b ob (fun z => hb (by simp [z])) (fun z => hb (by simp [z])) q)) hf (Nat.le_refl _) new
    refine ⟨.ref s.heap.objs.size, _, I1, rfl, ⟨_, x, rfl, I.hok.fresh (Nat.le_refl _), rfl, fun ys hy => by rw [I.tuple_inj hy hq]; exact hx⟩, ⟨⟨u2, ?_⟩, hit'.1.at fun o q => (sb.2 it (Ne.symm hne)).trans q, hne, hna⟩, fun b hb => ?_⟩
    · have e1 : ((i + 1 : Nat) : Int) = (i : Int) + 1 := by omega
      rw [e1]; exact he'
    · have hb' : b < s.heap.objs.size := by
        rcases (show b = e ∨ b = it by simpa using hb) with z | z
        · rw [z]; exact hel
        · rw [z]; exact hil
      rw [upd_ne (Nat.ne_of_lt hb')]
      exact (hf b hb).1
  done := by
    intro X hP hw hK hc i pins s σ H E I hf st hg
    subst hP hw hK
    obtain ⟨⟨old, he⟩, hit, hne, hna⟩ := st
    obtain ⟨xs, hq, hx⟩ := hg
    obtain ⟨its, rv, p, hz⟩ := I.tuple hq
    have hl := rv.length
    have hn : its.toArray[i]? = none := by
      rw [List.getElem?_toArray]
      exact List.getElem?_eq_none (by omega)
    obtain ⟨f0, f1, f2, f3, f4, f5⟩ := hf it (by simp)
    have hh : X.A.in1.handled = none := I.ok.hd hc
    have DD : Draws X.prog X.w X.A.in1 it [it, a] i (fun _ _ => True) (fun j h => j = i ∧ h.IsTupleIter it a i ∧ h.IsTuple a its.toArray) := by
      refine ⟨fun _ _ st => let ⟨_, ⟨o, ho, _⟩, _⟩ := st; ⟨o, ho⟩, fun _ _ _ st hk => ⟨st.1, st.2.1.at fun o e => hk it (by simp) o e, st.2.2.at fun o e => hk a (by simp) o e⟩, fun j s Q E hj st hQ => absurd st.1 (Nat.ne_of_lt hj), fun s Q E st hE => ?_⟩
      exact wpAny_nextOf_tuple_end hh st.2.1 st.2.2 hn hE
    exact wpAny_pyNext_enum_endD DD he ⟨rfl, hit, p⟩ fun h' eb => ⟨rfl, I.turned (t' := s.toks) (fun b o hb q => eb b o hb q) f0 f1 f3 f4 f5⟩
  self := fun A i s Q E st h => let ⟨⟨_, he⟩, _⟩ := st; wpAny_pyIter_enum he h
theorem meets_enum1 {v : Value} {o : Obj} {H : Heap → Prop} (B : Begins v o H) :
    Meets (Builtin.«enumerate.__new__» ⟨[.type "enumerate", v], []⟩) (fun _ R s => H s.heap ∧
      R (.ok (.ret (.ref (s.heap.push o).objs.size))) { s with heap := (s.heap.push o).push { cls := .type "enumerate", data := .fields #[.none, .bool false, .ref s.heap.objs.size, rawInt 0, .none, .none] } }) :=
  .of_wp fun prog w A R s h => by
    obtain ⟨hp, g, d, tk, os⟩ := s; obtain ⟨h1, h⟩ := h
    have hsub := sub_enumerate
    have q1 : ∀ {A' : Around} {E : Value → Shared → Prop} {Q : Value → Shared → Prop}, Q (.ref hp.objs.size) ⟨hp.push o, g, d, tk, os⟩ → wpAny (model prog w) A' (pyIter v) Q E ⟨hp, g, d, tk, os⟩ :=
      fun q => B.iter prog w _ _ ⟨hp, g, d, tk, os⟩ _ h1 q
    wp_walk using q1
    refine wpAny_stack_any fun st => wpAny_pure ?_
    split
    · rename_i c _ _ _ _ _
      cases (c == Value.type "enumerate")
      · wp_walk using q1
        exact ⟨_, rfl, h⟩
      · wp_walk using q1
        exact ⟨_, rfl, h⟩
    · wp_walk using q1
      exact ⟨_, rfl, h⟩
theorem call_enumG {prog : Program} {w : World} {A : Around} {E : Value → Shared → Prop} {s : Shared} {v : Value} {o : Obj} {H : Heap → Prop} {Q : Value → Shared → Prop} (B : Begins v o H) (h1 : H s.heap)
    (h : ∀ h', IsEnum h' (s.heap.objs.size + 1) s.heap.objs.size 0 .none → h'.get? s.heap.objs.size = some o →
      (∀ b o, s.heap.get? b = some o → h'.get? b = some o) → Q (.ref (s.heap.objs.size + 1)) { s with heap := h' }) :
    wpAny (model prog w) A (call (.type "enumerate") [v]) Q E s := by
  refine callType_new F.called_enumerate (by decide) (F.typeCall_enumerate_1 _) (F.newCall_enumerate_1 _) (fun obj => F.args_object_init_2 obj _) F.entry_enumerate_new (meets_enum1 B) ⟨h1, ?_⟩
  have hz : (s.heap.push o).objs.size = s.heap.objs.size + 1 := Heap.size_push ..
  show _ ∧ _
  rw [hz]
  have he : IsEnum ((s.heap.push o).push { cls := .type "enumerate", data := .fields #[.none, .bool false, .ref s.heap.objs.size, rawInt 0, .none, .none] }) (s.heap.objs.size + 1) s.heap.objs.size 0 .none := by
    have := Heap.get?_push_size (s.heap.push o) (o := { cls := .type "enumerate", data := .fields #[.none, .bool false, .ref s.heap.objs.size, rawInt 0, .none, .none] }) rfl
    rw [hz] at this; exact this
  exact ⟨⟨_, he, rfl⟩, h _ he (Heap.get?_push_of_some _ (Heap.get?_push_size _ B.free)) fun b o x => Heap.get?_push_of_some _ (Heap.get?_push_of_some _ x)⟩
def iEnum3 (K : PySem.W.Frag) (ta : TA) : TI := fun σ H R => ta σ H fun vs H1 => (∃ a xs, vs = [.ref a] ∧ SqL K H1 a xs ∧ R (Ite K a) H1) ∨ (∃ a xs, vs = [.ref a] ∧ SqT K H1 a xs ∧ R (IteT K a) H1) ∨ ∃ s, vs = [.str s] ∧ R (IteS s) H1
theorem pi_enum3 {X : Cx} {e : Expr} {ta : TA} {p pos tpos : Pos} {elts : List Expr} {kk : Nat} (hg : Gl X "enumerate") (hm : X.mg "enumerate" = none) (ha : PA X [e] ta) (hs : starEach [e] X.env = [(false, eval e X.env)] := by rfl) :
    PI X (.Tuple elts kk tpos) (.Call (.Name "enumerate" p) [e] [] pos) (iEnum3 X.K ta) := by
  refine ⟨fun pins s σ H R I h => ?_⟩
  refine Call_ (ld_blt I hg hm boot_enumerate (PyProof.Rows.callWith_type1 (thn (ha.run pos pins s σ H _ I h) fun us s1 ⟨vs, H1, I1, r1, q1⟩ => ?_) hs rfl))
  have fresh : ∀ b ∈ [s1.heap.objs.size + 1, s1.heap.objs.size], FpOk X pins H1 b := fun b hb => by
    have hle : s1.heap.objs.size ≤ b := by
      rcases (show b = s1.heap.objs.size + 1 ∨ b = s1.heap.objs.size by simpa using hb) with z | z
      · rw [z]; exact Nat.le_add_right _ _
      · rw [z]; exact Nat.le_refl _
    exact I1.fpOk hle (I1.hok.fresh hle)
  rcases q1 with ⟨a, xs, ex, hq, q⟩ | ⟨a, xs, ex, hq, q⟩ | ⟨x, ex, q⟩
  · subst ex
    cases r1 with
    | cons r rr =>
      cases rr
      cases r
      obtain ⟨its, rv, p', hz⟩ := I1.list hq
      refine call_enumerate_list p'.isList fun h' he hit hsz hk => wpAny_pyIter_enum he ?_
      exact ⟨s1.heap.objs.size + 1, [s1.heap.objs.size + 1, s1.heap.objs.size], _, _, H1, rfl, I1.kept (t' := s1.toks) hk, turn_enum a (s1.heap.objs.size + 1) s1.heap.objs.size, ⟨⟨.none, he⟩, hit, Nat.succ_ne_self _⟩, fresh, q⟩
  · subst ex
    cases r1 with
    | cons r rr =>
      cases rr
      cases r
      obtain ⟨its, rv, p', hz⟩ := I1.tuple hq
      have hlt : a < s1.heap.objs.size := by obtain ⟨_, e, _⟩ := p'; exact Heap.lt_size e
      refine call_enumG (begins_tuple a its.toArray) p' fun h' he hit hk => wpAny_pyIter_enum he ?_
      exact ⟨s1.heap.objs.size + 1, [s1.heap.objs.size + 1, s1.heap.objs.size], _, _, H1, rfl, I1.kept (t' := s1.toks) hk, turn_enumT a (s1.heap.objs.size + 1) s1.heap.objs.size, ⟨⟨.none, he⟩, ⟨_, hit, rfl, rfl⟩, Nat.succ_ne_self _, Nat.ne_of_lt hlt⟩, fresh, q⟩
  · subst ex
    cases r1 with
    | cons r rr =>
      cases rr
      obtain ⟨t, rfl⟩ := r
      refine call_enumG (begins_text x t) trivial fun h' he hit hk => wpAny_pyIter_enum he ?_
      exact ⟨s1.heap.objs.size + 1, [s1.heap.objs.size + 1, s1.heap.objs.size], _, _, H1, rfl, I1.kept (t' := s1.toks) hk, turn_enumS (s1.heap.objs.size + 1) s1.heap.objs.size x t, ⟨⟨.none, he⟩, ⟨_, hit, rfl, rfl⟩, Nat.succ_ne_self _⟩, fresh, q⟩
/-- over data -/
def enumD (xs : List D) : List D := xs.zipIdx.map fun p => .tup [.int (p.2 : Nat), p.1]
theorem enumD_length {xs : List D} : (enumD xs).length = xs.length := by simp [enumD]
theorem enumD_get {xs : List D} {i : Nat} {d : D} (h : xs[i]? = some d) : (enumD xs)[i]? = some (.tup [.int (i : Nat), d]) := by
  unfold enumD
  rw [List.getElem?_map, List.getElem?_zipIdx, h]
  simp
theorem new_pair {K : PySem.W.Frag} {μ : Store} {G H : Hp} {T : Addr} {i : Nat} {d : D} {x : V} (m : Sm K μ G H) (hT : H T = none) (r : Rp K G d x) :
    ∃ G3, Ex G G3 ∧ Sm K μ G3 (upd H T (.tup [.int (i : Nat), x])) ∧ Rp K G3 (.tup [.int (i : Nat), d]) (.ref T) := by
  obtain ⟨m2, e2⟩ := m.frozen hT (.tup [.int (i : Nat), x])
  exact ⟨_, e2, m2, .tup (.inl upd_same) (.cons (.int _) (.cons (r.mono e2) .nil))⟩
theorem walk_es {K : PySem.W.Frag} {G : Hp} {s : Str} : Walk K G (IteS s) (enumD (chars s)) := fun i H G2 μ e m => by
  have hl : (enumD (chars s)).length = s.cps.size := by rw [enumD_length]; simp [chars]
  rw [hl]
  refine ⟨fun hi => ⟨hi, fun x H' y => ?_⟩, fun hi => hi⟩
  obtain ⟨T, c, rfl, hT, rfl, hc⟩ := y
  obtain ⟨G3, e3, m3, r3⟩ := new_pair (i := i) m hT (Rp.str (K := K) (G := G2) ⟨#[c]⟩)
  exact ⟨G3, _, enumD_get (by simp [chars, hc]), e3, m3, r3⟩
theorem walk_et {K : PySem.W.Frag} {G : Hp} {a : Addr} {xs : List V} {ds : List D} (h : TupAt K G a xs) (r : Rps K G ds xs) : Walk K G (IteT K a) (enumD ds) := fun i H G2 μ e m => by
  have sq := h.sq (e.trans m.ex)
  rw [enumD_length]
  refine ⟨fun hi => ⟨⟨xs, xs[i]'(by rw [← r.length]; exact hi), sq, by simp [← r.length, hi]⟩, fun x H' y => ?_⟩, fun hi => ⟨xs, sq, by rw [← r.length]; exact hi⟩⟩
  obtain ⟨T, x, rfl, hT, rfl, y⟩ := y
  obtain ⟨d, hd, rd⟩ := r.getR (y xs sq)
  obtain ⟨G3, e3, m3, r3⟩ := new_pair (i := i) m hT (rd.mono e)
  exact ⟨G3, _, enumD_get hd, e3, m3, r3⟩
theorem walk_el {K : PySem.W.Frag} {G : Hp} {a : Addr} {xs : List V} {ds : List D} (h : ∀ H, Ex G H → SqL K H a xs) (r : Rps K G ds xs) : Walk K G (Ite K a) (enumD ds) := fun i H G2 μ e m => by
  have sq := h H (e.trans m.ex)
  rw [enumD_length]
  refine ⟨fun hi => ⟨⟨xs, xs[i]'(by rw [← r.length]; exact hi), sq, by simp [← r.length, hi]⟩, fun x H' y => ?_⟩, fun hi => ⟨xs, sq, by rw [← r.length]; exact hi⟩⟩
  obtain ⟨T, x, rfl, hT, rfl, y⟩ := y
  obtain ⟨d, hd, rd⟩ := r.getR (y xs sq)
  obtain ⟨G3, e3, m3, r3⟩ := new_pair (i := i) m hT (rd.mono e)
  exact ⟨G3, _, enumD_get hd, e3, m3, r3⟩
def wiEnum (we : WE) : WI := fun ρ μ P => we ρ μ fun d μ1 => match itemsD d with | some xs => P (enumD xs) μ1 | none => False
theorem di_enum {X : Cx} {e : Expr} {we : WE} {p pos tpos : Pos} {elts : List Expr} {kk : Nat} (hg : Gl X "enumerate") (hm : X.mg "enumerate" = none) (h : DE X e we) (hs : starEach [e] X.env = [(false, eval e X.env)] := by rfl) :
    DI X (.Tuple elts kk tpos) (.Call (.Name "enumerate" p) [e] [] pos) (wiEnum we) :=
  ⟨wkI (pi_enum3 hg hm (da_cons h da_nil hs).p hs) fun σ H R ⟨ρ, μ, G, P, he, hm, hw, ht⟩ =>
  ⟨ρ, μ, G, fun ds μ1 => match ds with | [d] => (match itemsD d with | some xs => P (enumD xs) μ1 | none => False) | _ => False, he, hm, hw, fun ds μ1 vs H1 G1 p e m r => by
    match ds, r, p with
    | [d], .cons r .nil, p =>
    cases r with
    | lst h1 r1 => exact .inl ⟨_, _, rfl, lst_sq m.ex h1, ht _ _ _ _ _ p e m (walk_el (fun H' e' => lst_sq e' h1) r1)⟩
    | scr h1 r1 => exact .inl ⟨_, _, rfl, h1.sq m.ex, ht _ _ _ _ _ p e m (walk_el (fun H' e' => h1.sq e') r1)⟩
    | tup h1 r1 => exact .inr (.inl ⟨_, _, rfl, h1.sq m.ex, ht _ _ _ _ _ p e m (walk_et h1 r1)⟩)
    | str s => exact .inr (.inr ⟨s, rfl, ht _ _ _ _ _ p e m walk_es⟩)
    | _ => exact p.elim⟩⟩
end Dl

namespace Dl
open PySem L2
section
variable {X : Cx} {a b : Expr} {wa wb : WE} {pos : Pos}
/-! ### minus -/
def wNeg (w : WE) : WE := fun ρ μ P => w ρ μ fun d μ1 => match d with | .int i => P (.int (-i)) μ1 | _ => False
theorem de_neg (h : DE X a wa) : DE X (.UnaryOp .USub a pos) (wNeg wa) := ⟨wkE (pe_un un_neg h.p) fun σ H Q ⟨ρ, μ, G, P, he, hm, hw, ht⟩ => ⟨ρ, μ, G, _, he, hm, hw, fun d μ1 v H1 G1 p e m r => by
  cases d with
  | int i => cases r; exact ⟨i, rfl, ht _ _ _ _ _ p e m (.int _)⟩
  | _ => exact p.elim⟩⟩
/-! ### names of the top that hold a plain value -/
theorem de_g {x : Str} {p : Pos} {v : Value} {x' : V} {d : D} (hm : X.mg x = some v) (hr : RelV x' v) (h : PE X (.Name x p) (tC x')) (r : ∀ G, Rp X.K G d x') : DE X (.Name x p) (wC d) := de_c h r
/-! ### is, is not: None -/
def oIs : OD := fun x y μ P => match y with
  | .non => P (.bl (match x with | .non => true | _ => false)) μ
  | .bl b => (match x with | .bl a => P (.bl (decide (a = b))) μ | _ => False)
  | _ => False
def oIsNot : OD := fun x y μ P => match y with
  | .non => P (.bl (match x with | .non => false | _ => true)) μ
  | .bl b => (match x with | .bl a => P (.bl (!decide (a = b))) μ | _ => False)
  | _ => False
theorem isn_ok {K : PySem.W.Frag} {G : Hp} {x : D} {v : V} (r : Rp K G x v) : decide (v = .non) = (match x with | .non => true | _ => false) := by
  cases r <;> simp
theorem os_is : OpS X (compareOp .Is) oIs := ⟨_, op_isN.or op_isBl, fun {x y μ P G H v u Q} h m rx ry t => by
  unfold oIs at h
  split at h
  · cases ry
    refine .inl ⟨rfl, ?_⟩
    rw [isn_ok rx]
    cases x <;> exact t _ _ _ _ _ h (Ex.refl _) m (.bl _)
  · split at h
    · cases rx; cases ry
      exact .inr ⟨_, _, rfl, rfl, t _ _ _ _ _ h (Ex.refl _) m (.bl _)⟩
    · exact h.elim
  · exact h.elim⟩
theorem os_isNot : OpS X (compareOp .IsNot) oIsNot := ⟨_, op_notN.or op_notBl, fun {x y μ P G H v u Q} h m rx ry t => by
  unfold oIsNot at h
  split at h
  · cases ry
    refine .inl ⟨rfl, ?_⟩
    rw [isn_ok rx]
    cases x <;> exact t _ _ _ _ _ h (Ex.refl _) m (.bl _)
  · split at h
    · cases rx; cases ry
      exact .inr ⟨_, _, rfl, rfl, t _ _ _ _ _ h (Ex.refl _) m (.bl _)⟩
    · exact h.elim
  · exact h.elim⟩
/-! ### in: over flat values, of texts -/
def flatD : D → Bool
  | .non => true | .bl _ => true | .int _ => true | .str _ => true | _ => false
def toV : D → V
  | .non => .non | .bl b => .bl b | .int i => .int i | .str s => .str s | _ => .non
theorem flat_ok {K : PySem.W.Frag} {G : Hp} {x : D} {v : V} (f : flatD x = true) (r : Rp K G x v) : flatV v = true ∧ v = toV x := by
  cases r <;> first | exact ⟨rfl, rfl⟩ | cases f
theorem flats_ok {K : PySem.W.Frag} {G : Hp} : ∀ {xs : List D} {vs : List V}, xs.all flatD = true → Rps K G xs vs → vs.all flatV = true ∧ vs = xs.map toV
  | _, _, _, .nil => ⟨rfl, rfl⟩
  | x :: xs, _, h, .cons r rs => by
    rw [List.all_cons, Bool.and_eq_true] at h
    obtain ⟨h1, rfl⟩ := flat_ok h.1 r
    obtain ⟨h2, rfl⟩ := flats_ok h.2 rs
    exact ⟨by rw [List.all_cons, h1, h2]; rfl, rfl⟩
/-- one of them -/
def inD (x : D) (xs : List D) : Bool := inV (toV x) (xs.map toV)
def sqD (μ : Store) : D → Option (List D)
  | .tup xs => some xs
  | .scr xs => some xs
  | d => seqL μ d
theorem sqD_ok {K : PySem.W.Frag} {μ : Store} {G H : Hp} {d : D} {v : V} {ds : List D} (h : sqD μ d = some ds) (m : Sm K μ G H) (r : Rp K G d v) : ∃ a xs, v = .ref a ∧ (SqL K H a xs ∨ SqT K H a xs) ∧ Rps K G ds xs := by
  cases r with
  | tup h1 r1 => cases h; exact ⟨_, _, rfl, .inr (h1.sq m.ex), r1⟩
  | scr h1 r1 => cases h; exact ⟨_, _, rfl, .inl (h1.sq m.ex), r1⟩
  | lst h1 r1 => obtain ⟨a, xs, e, h2, r2⟩ := seqL_ok (d := .lst _) h m (.lst h1 r1); exact ⟨a, xs, e, .inl (SqL.of h2), r2⟩
  | ref a => obtain ⟨a, xs, e, h2, r2⟩ := seqL_ok (d := .ref _) h m (.ref a); exact ⟨a, xs, e, .inl (SqL.of h2), r2⟩
  | _ => cases h
def oInW (f : Bool → Bool) : OD := fun x y μ P => match x, y with
  | .str z, .str s => P (.bl (f (!(Builtin.Str.occurrences s z 0 s.length 1).isEmpty))) μ
  | x, y => match sqD μ y with
    | some xs => flatD x = true ∧ xs.all flatD = true ∧ P (.bl (f (inD x xs))) μ
    | none => False
def oIn : OD := oInW fun b => b
def oNotIn : OD := oInW fun b => !b
theorem os_in : OpS X (compareOp .In) oIn := by
  refine ⟨_, op_in_str.or op_in_seq, ?_⟩
  intro x y μ P G H v u Q h m rx ry t
  unfold oIn oInW at h
  split at h
  · cases rx
    cases ry
    exact .inl ⟨_, _, rfl, rfl, t _ _ _ _ _ h (Ex.refl _) m (.bl _)⟩
  · split at h
    · rename_i xs hs
      obtain ⟨fx, fs, p⟩ := h
      obtain ⟨a, vs, rfl, hq, r⟩ := sqD_ok hs m ry
      obtain ⟨f1, rfl⟩ := flat_ok fx rx
      obtain ⟨f2, rfl⟩ := flats_ok fs r
      exact .inr ⟨a, _, rfl, hq, f1, f2, t _ _ _ _ _ p (Ex.refl _) m (.bl _)⟩
    · exact h.elim
theorem os_notIn : OpS X (compareOp .NotIn) oNotIn := by
  refine ⟨_, op_notin_str.or op_notIn_seq, ?_⟩
  intro x y μ P G H v u Q h m rx ry t
  unfold oNotIn oInW at h
  split at h
  · cases rx
    cases ry
    exact .inl ⟨_, _, rfl, rfl, t _ _ _ _ _ h (Ex.refl _) m (.bl _)⟩
  · split at h
    · rename_i xs hs
      obtain ⟨fx, fs, p⟩ := h
      obtain ⟨a, vs, rfl, hq, r⟩ := sqD_ok hs m ry
      obtain ⟨f1, rfl⟩ := flat_ok fx rx
      obtain ⟨f2, rfl⟩ := flats_ok fs r
      exact .inr ⟨a, _, rfl, hq, f1, f2, t _ _ _ _ _ p (Ex.refl _) m (.bl _)⟩
    · exact h.elim
/-! ### isinstance(x, T) of builtin types -/
def tyD (μ : Store) : D → Option String
  | .non => some "NoneType" | .bl _ => some "bool" | .int _ => some "int" | .str _ => some "str" | .tup _ => some "tuple" | .lst _ => some "list"
  | .ref a => (match μ a with | some (.lst _) => some "list" | some (.dct _) => some "dict" | _ => none)
  | .dct _ => some "dict"
  | _ => none
theorem tupAt_ty {K : PySem.W.Frag} {G H : Hp} {a : Addr} {xs : List V} (e : Ex G H) (h : TupAt K G a xs) : TyX K H (.ref a) (.type "tuple") := by
  rcases h with h | ⟨o, its, n, h1, h2, _⟩
  · exact .base (.tup (e _ _ h))
  · exact .kTuple h1 h2
theorem tyD_ok {K : PySem.W.Frag} {μ : Store} {G H : Hp} {d : D} {v : V} {n : String} (h : tyD μ d = some n) (m : Sm K μ G H) (r : Rp K G d v) : TyX K H v (.type n) := by
  cases r with
  | non => cases h; exact .base .non
  | bl b => cases h; exact .base (.bl b)
  | int i => cases h; exact .base (.int i)
  | str s => cases h; exact .base (.str s)
  | tup h1 _ => cases h; exact tupAt_ty m.ex h1
  | lst h1 _ => cases h; exact .base (.lst (m.ex _ _ h1))
  | dct h1 _ _ => cases h; exact .base (.dK (m.ex _ _ h1))
  | ref a =>
    unfold tyD at h
    dsimp only at h
    cases q : μ a with
    | none => rw [q] at h; cases h
    | some c =>
      rw [q] at h
      obtain ⟨_, k⟩ := m.st a c q
      cases c with
      | lst ds => cases h; obtain ⟨xs, h1, _⟩ := k; exact .base (.lst h1)
      | dct ds => cases h; obtain ⟨xs, h1, _⟩ := k; exact .base (.dK h1)
      | ins C ds => cases h
  | _ => cases h
def isTy (m n : String) : Bool := m == n || (m == "bool" && n == "int")
/-- what the built-in classes say of each other -/
theorem tyTab (K : PySem.W.Frag) (n m : String) (hn : n ∈ ["bool", "int", "str", "tuple", "list", "dict"]) (hm : m ∈ ["NoneType", "bool", "int", "str", "tuple", "list", "dict"]) : PySem.W.kitOne K (.type m) (.type n) = some (isTy m n) := by
  simp only [List.mem_cons, List.not_mem_nil, or_false] at hn hm
  rcases hn with rfl | rfl | rfl | rfl | rfl | rfl <;> rcases hm with rfl | rfl | rfl | rfl | rfl | rfl | rfl <;> kernel_rfl
theorem tyD_mem {μ : Store} {d : D} {m : String} (h : tyD μ d = some m) : m ∈ ["NoneType", "bool", "int", "str", "tuple", "list", "dict"] := by
  unfold tyD at h
  split at h <;> first | (cases h; simp; done) | (split at h <;> first | (cases h; simp; done) | cases h) | cases h
def oIsi : OC := fun ds μ P => match ds with
  | [d, .ty n] => n ∈ ["bool", "int", "str", "tuple", "list", "dict"] ∧ (match tyD μ d with | some m => P (.bl (isTy m n)) μ | none => False)
  | _ => False
theorem cs_isi : CallS X (.builtin "isinstance") oIsi := by
  refine ⟨_, call_isi, ?_⟩
  intro ds μ P G H vs Q h m r t
  match ds, r, h with
  | [d, .ty n], .cons r1 (.cons (.ty _) .nil), h =>
    obtain ⟨hn, h⟩ := h
    split at h
    · rename_i k2 hk
      exact ⟨_, _, _, _, _, rfl, .ty n, tyD_ok hk m r1, tyTab _ _ _ hn (tyD_mem hk), t _ _ _ _ _ h (Ex.refl _) m (.bl _)⟩
    · exact h.elim
theorem de_ty {n : String} {x : Str} {p : Pos} (hg : Gl X x) (hm : X.mg x = none) (hv : bootBuiltins x = some (.type n)) (hn : x ≠ "__name__" := by decide) (hd : (x == ("__debug__" : Str)) = false := by decide) : DE X (.Name x p) (wC (.ty n)) :=
  de_c (pe_bltn hg hm hv (show RelV (.ty n) (.type n) from rfl) hn hd) fun _ => .ty n
end
/-! ### a op= e -/
section
variable {X : Cx} {e : Expr} {we : WE} {pos : Pos}
def IpS (X : Cx) (op : Operator) (o : OD) : Prop :=
  ∃ r, PIp X op r ∧ ∀ {x y : D} {μ : Store} {P : D → Store → Prop} {G H : Hp} {v u : V} {Q : VK}, o x y μ P → Sm X.K μ G H → Rp X.K G x v → Rp X.K G y u → Tells X.K G P Q → r v u H Q
def oIAdd : OD := fun x y μ P => match x, y with | .int i, .int j => P (.int (i + j)) μ | _, _ => False
def oISub : OD := fun x y μ P => match x, y with | .int i, .int j => P (.int (i - j)) μ | _, _ => False
theorem ip_addD : IpS X .Add oIAdd := ⟨_, ip_add, fun {x y μ P G H v u Q} h m rx ry t => by
  unfold oIAdd at h
  split at h
  · cases rx; cases ry; exact ⟨_, _, rfl, rfl, t _ _ _ _ _ h (Ex.refl _) m (.int _)⟩
  · exact h.elim⟩
theorem ip_subD : IpS X .Sub oISub := ⟨_, ip_sub, fun {x y μ P G H v u Q} h m rx ry t => by
  unfold oISub at h
  split at h
  · cases rx; cases ry; exact ⟨_, _, rfl, rfl, t _ _ _ _ _ h (Ex.refl _) m (.int _)⟩
  · exact h.elim⟩
def wAug (i : Nat) (o : OD) (we : WE) : WS := fun W ρ μ => match ρ.getD i none with
  | some x => we ρ μ fun y μ1 => o x y μ1 fun z μ2 => W.nx (ρ.set i (some z)) μ2
  | none => False
theorem ds_aug {i : Nat} {x : Str} {op : Operator} {o : OD} {pos' : Pos} (hN : X.N.Nodup) (hi : X.N[i]? = some x) (hx : Loc X.env.scope x) (h : DE X e we) (ho : IpS X op o) (hf : X.fn x = true ∨ X.env.scope.names.lookup x = some .local := by first | exact .inl rfl | exact .inr rfl | assumption) :
    DS X (.AugAssign (.Name x pos') op e pos) (wAug i o we) := by
  obtain ⟨r, hr, hs⟩ := ho
  refine ⟨wkS (ps_aug hN hi hx h.p hr hf) fun D σ H ⟨ρ, μ, G, W, he, hm, hw, ht⟩ => ?_⟩
  unfold wAug at hw
  cases q : ρ.getD i none with
  | none => rw [q] at hw; exact hw.elim
  | some d =>
    rw [q] at hw
    obtain ⟨v, h1, h2⟩ := he.2 i d (getD_some q)
    refine ⟨v, h1, ρ, μ, G, _, he, hm, hw, fun y μ1 u H1 G1 p1 e1 m1 r1 => hs p1 m1 (h2.mono e1) r1 fun z μ2 w H2 G2 p2 e2 m2 r2 => ht.nx _ _ _ _ _ p2 (e1.trans e2) (((he.mono e1).mono e2).set i r2) m2⟩
end
/-! ### methods of the built-in types -/
section
variable {X : Cx} {o e : Expr} {es : List Expr} {wo : WE} {wa : WA} {pos : Pos}
abbrev OM := D → List D → Store → (D → Store → Prop) → Prop
def tyM (T : String) (μ : Store) (d : D) : Prop := (T = "str" ∧ ∃ s, d = .str s) ∨ (T = "list" ∧ ∃ xs, seqL μ d = some xs) ∨ (T = "dict" ∧ ∃ kvs, d = .dct kvs) ∨ (T = "dict" ∧ ∃ a kvs, d = .ref a ∧ μ a = some (.dct kvs))
theorem tyM_ok {K : PySem.W.Frag} {μ : Store} {G H : Hp} {d : D} {v : V} {T : String} (h : tyM T μ d) (m : Sm K μ G H) (r : Rp K G d v) : tyV K T v H := by
  rcases h with ⟨rfl, s, rfl⟩ | ⟨rfl, xs, h⟩ | ⟨rfl, kvs, rfl⟩ | ⟨rfl, a, kvs, rfl, h⟩
  · cases r; exact rfl
  · obtain ⟨a, vs, rfl, h2, _⟩ := seqL_ok h m r
    exact .inl ⟨rfl, _, SqL.of h2⟩
  · cases r with | dct h1 _ _ => exact .inr (.inr (.inl ⟨rfl, .inl ⟨_, m.ex _ _ h1⟩⟩))
  · cases r
    obtain ⟨_, vs, h1, _⟩ := m.st a _ h
    exact .inr (.inr (.inl ⟨rfl, .inl ⟨_, h1⟩⟩))
structure BMok (X : Cx) (name : Str) (T : String) (om : OM) : Prop where
  ex : ∃ (id : String) (r : V → List V → Hp → VK → Prop), PlainAttrs T ∧ Slot T name id ∧ typeOf (.builtin id) = pure (.type "method_descriptor") ∧ MtR X id r ∧
    ∀ {x : D} {ds : List D} {μ : Store} {P : D → Store → Prop} {G H : Hp} {v : V} {vs : List V} {Q : VK}, om x ds μ P → Sm X.K μ G H → Rp X.K G x v → Rps X.K G ds vs → Tells X.K G P Q → r v vs H Q
def wBM (T : String) (om : OM) (wo : WE) (wa : WA) : WE := fun ρ μ P => wo ρ μ fun x μ1 => tyM T μ1 x ∧ wa ρ μ1 fun ds μ2 => om x ds μ2 P
theorem de_bm {name : Str} {T : String} {om : OM} {apos cpos : Pos} (b : BMok X name T om) (ho : DE X o wo) (ha : DA X (e :: es) wa) (hbase : attributeBase o name X.env (eval o X.env) = eval o X.env := by rfl)
    (hfew : ((backTo cpos (starEach (e :: es) X.env)).all (fun x => !x.1) && (backToKw cpos (keywordEach [] X.env)).all (fun x => x.1.isSome)
      && decide ((e :: es).length + ([] : List Keyword).length + (if ([] : List Keyword).isEmpty then 0 else 1) < 30)) = true := by rfl)
    (hline : (apos.endLine == cpos.line) = true := by rfl) (hs : starEach (e :: es) X.env = (false, eval e X.env) :: starEach es X.env := by rfl) (hplain : (backTo cpos (starEach es X.env)).any (·.1) = false := by rfl) :
    DE X (.Call (.Attribute o name apos) (e :: es) [] cpos) (wBM T om wo wa) := by
  obtain ⟨id, r, p1, p2, p3, p4, hs2⟩ := b.ex
  refine ⟨wkE (pe_bm p1 p2 p3 p4 ho.p ha.p hbase hfew hline hs hplain) fun σ H Q ⟨ρ, μ, G, P, he, hm, hw, ht⟩ => ⟨ρ, μ, G, _, he, hm, hw, fun x μ1 v H1 G1 p e1 m1 r1 => ⟨tyM_ok p.1 m1 r1, ρ, μ1, G1, _, he.mono e1, m1, p.2, fun ds μ2 vs H2 G2 p2 e2 m2 r2 => hs2 p2 m2 (r1.mono e2) r2 (ht.mono (e1.trans e2))⟩⟩⟩
theorem de_bm0 {name : Str} {T : String} {om : OM} {apos cpos : Pos} (b : BMok X name T om) (ho : DE X o wo) (hbase : attributeBase o name X.env (eval o X.env) = eval o X.env := by rfl) (hline : (apos.endLine == cpos.line) = true := by rfl) :
    DE X (.Call (.Attribute o name apos) [] [] cpos) (wBM T om wo wANil) := by
  obtain ⟨id, r, p1, p2, p3, p4, hs2⟩ := b.ex
  refine ⟨wkE (pe_bm0 p1 p2 p3 p4 ho.p hbase hline) fun σ H Q ⟨ρ, μ, G, P, he, hm, hw, ht⟩ => ⟨ρ, μ, G, _, he, hm, hw, fun x μ1 v H1 G1 p e1 m1 r1 => ⟨tyM_ok p.1 m1 r1, hs2 p.2 m1 r1 .nil (ht.mono e1)⟩⟩⟩
def oCount : OM := fun x ds μ P => match x, ds with | .str a, [.str b] => P (.int (Txt.count a b)) μ | _, _ => False
theorem bm_count : BMok X "count" "str" oCount := ⟨_, _, F.plainAttrs_str, F.slot_str_count, F.type_str_count, mt_count, fun {x ds μ P G H v vs Q} h m rx rs t => by
  unfold oCount at h
  split at h
  · cases rx
    cases rs with | cons r1 r2 =>
    cases r1
    cases r2
    exact ⟨_, _, rfl, rfl, t _ _ _ _ _ h (Ex.refl _) m (.int _)⟩
  · exact h.elim⟩
def oJoin : OM := fun x ds μ P => match x, ds with
  | .str a, [d] => (match sqD μ d with
    | some xs => ∃ ys, strsD xs = some ys ∧ (ys.map (·.length)).sum + ys.length * a.length ≤ 16777216 ∧ P (.str (Txt.join a ys)) μ
    | none => False)
  | _, _ => False
theorem bm_join : BMok X "join" "str" oJoin := ⟨_, _, F.plainAttrs_str, F.slot_str_join, F.type_str_join, mt_join, fun {x ds μ P G H v vs Q} h m rx rs t => by
  unfold oJoin at h
  split at h
  · cases rx
    cases rs with | cons r1 r2 =>
    cases r2
    split at h
    · rename_i xs hx
      obtain ⟨ys, hy, hz, p⟩ := h
      obtain ⟨a, ws, rfl, hq, r⟩ := sqD_ok hx m r1
      have e := strsD_ok hy r
      subst e
      exact ⟨_, a, ys, rfl, rfl, hq, hz, t _ _ _ _ _ p (Ex.refl _) m (.str _)⟩
    · exact h.elim
  · exact h.elim⟩
def oAppend : OM := fun x ds μ P => match x, ds with
  | .ref a, [d] => (match μ a with | some (.lst xs) => xs.length < sizeLine ∧ P .non (setS μ a (.lst (xs ++ [d]))) | _ => False)
  | _, _ => False
theorem bm_append : BMok X "append" "list" oAppend := ⟨_, _, F.plainAttrs_list, F.slot_list_append, F.type_list_append, mt_append, fun {x ds μ P G H v vs Q} h m rx rs t => by
  unfold oAppend at h
  split at h
  · rename_i a d
    cases rx
    cases rs with | cons r1 r2 =>
    cases r2
    cases q : μ a with
    | none => rw [q] at h; exact h.elim
    | some c =>
      rw [q] at h
      cases c with
      | lst xs =>
        obtain ⟨h0, ws, h1, r⟩ := m.st a _ q
        obtain ⟨hz, p⟩ := h
        refine ⟨a, ws, _, rfl, rfl, h1, by rw [← r.length]; exact hz, t _ _ _ _ _ p (Ex.refl _) (m.write h0 ⟨_, upd_same, r.append (.cons r1 .nil)⟩) .non⟩
      | _ => exact h.elim
  · exact h.elim⟩
end
section
variable {X : Cx}
def oPop : OM := fun x ds μ P => match x, ds with
  | .ref a, [] => (match μ a with | some (.lst xs) => ∃ y, xs[xs.length - 1]? = some y ∧ P y (setS μ a (.lst xs.dropLast)) | _ => False)
  | _, _ => False
theorem rps_dropLast {K : PySem.W.Frag} {G : Hp} : ∀ {ds : List D} {vs : List V}, Rps K G ds vs → Rps K G ds.dropLast vs.dropLast
  | _, _, .nil => .nil
  | _, _, .cons _ .nil => .nil
  | _, _, .cons a (.cons b r) => .cons a (rps_dropLast (.cons b r))
theorem bm_pop : BMok X "pop" "list" oPop := ⟨_, _, F.plainAttrs_list, F.slot_list_pop, F.type_list_pop, mt_pop, fun {x ds μ P G H v vs Q} h m rx rs t => by
  unfold oPop at h
  split at h
  · rename_i a
    cases rx
    cases rs
    cases q : μ a with
    | none => rw [q] at h; exact h.elim
    | some c =>
      rw [q] at h
      cases c with
      | lst xs =>
        obtain ⟨h0, ws, h1, r⟩ := m.st a _ q
        obtain ⟨y, hy, p⟩ := h
        obtain ⟨v, hv, rv⟩ := r.getL hy
        exact ⟨a, ws, v, rfl, rfl, h1, by rw [← r.length]; exact hv, t _ _ _ _ _ p (Ex.refl _) (m.write h0 ⟨_, upd_same, rps_dropLast r⟩) rv⟩
      | _ => exact h.elim
  · exact h.elim⟩
/-- l[::-1] -/
theorem rps_rev {K : PySem.W.Frag} {G : Hp} : ∀ {ds : List D} {vs : List V}, Rps K G ds vs → Rps K G ds.reverse vs.reverse
  | _, _, .nil => .nil
  | _, _, .cons a r => by rw [List.reverse_cons, List.reverse_cons]; exact (rps_rev r).append (.cons a .nil)
def wRev (we : WE) : WE := fun ρ μ P => we ρ μ fun d μ1 => match seqR μ1 d with | some xs => P (.lst xs.reverse) μ1 | none => False
def wRevM (we : WE) : WE := fun ρ μ P => we ρ μ fun d μ1 => match seqR μ1 d with | some xs => ∀ p, μ1 p = none → P (.ref p) (setS μ1 p (.lst xs.reverse)) | none => False
theorem seqR_sq {K : PySem.W.Frag} {μ : Store} {G H : Hp} {d : D} {v : V} {ds : List D} (h : seqR μ d = some ds) (m : Sm K μ G H) (r : Rp K G d v) : ∃ a xs, v = .ref a ∧ SqL K H a xs ∧ Rps K G ds xs := by
  cases r with
  | scr h1 r1 => cases h; exact ⟨_, _, rfl, h1.sq m.ex, r1⟩
  | lst h1 r1 => obtain ⟨a, xs, e, h2, r2⟩ := seqL_ok (d := .lst _) h m (.lst h1 r1); exact ⟨a, xs, e, SqL.of h2, r2⟩
  | ref a => obtain ⟨a, xs, e, h2, r2⟩ := seqL_ok (d := .ref _) h m (.ref a); exact ⟨a, xs, e, SqL.of h2, r2⟩
  | _ => cases h
theorem de_rev {e : Expr} {we : WE} {k : Nat} {p1 p2 p3 pos : Pos} (h : DE X e we) : DE X (.Subscript e (.Slice none none (some (.UnaryOp .USub (.Constant (.int 1) k p1) p2)) p3) pos) (wRev we) :=
  ⟨wkE (pe_revL h.p) fun σ H Q ⟨ρ, μ, G, P, he, hm, hw, ht⟩ => ⟨ρ, μ, G, _, he, hm, hw, fun d μ1 v H1 G1 p e m r => by
    split at p
    · rename_i xs hx
      obtain ⟨a, ws, rfl, h2, rr⟩ := seqR_sq hx m r
      exact ⟨a, ws, rfl, h2, new_lst m (rps_rev rr) p (ht.mono e)⟩
    · exact p.elim⟩⟩
theorem de_revM {e : Expr} {we : WE} {k : Nat} {p1 p2 p3 pos : Pos} (h : DE X e we) : DE X (.Subscript e (.Slice none none (some (.UnaryOp .USub (.Constant (.int 1) k p1) p2)) p3) pos) (wRevM we) :=
  ⟨wkE (pe_revL h.p) fun σ H Q ⟨ρ, μ, G, P, he, hm, hw, ht⟩ => ⟨ρ, μ, G, _, he, hm, hw, fun d μ1 v H1 G1 p e m r => by
    split at p
    · rename_i xs hx
      obtain ⟨a, ws, rfl, h2, rr⟩ := seqR_sq hx m r
      exact ⟨a, ws, rfl, h2, new_lstM m (rps_rev rr) p (ht.mono e)⟩
    · exact p.elim⟩⟩
end
/-! ### slices -/
section
variable {X : Cx} {e : Expr} {we wl wh : WE} {pos p2 : Pos}
abbrev WP := Env → Store → (Option Int → Store → Prop) → Prop
def TellsP (K : PySem.W.Frag) (G : Hp) (P : Option Int → Store → Prop) (Q : Option Int → Hp → Prop) : Prop := ∀ i μ' H' G', P i μ' → Ex G G' → Sm K μ' G' H' → Q i H'
def LP (K : PySem.W.Frag) (w : WP) : TO := fun σ H Q => ∃ ρ μ G P, EnvR K G ρ σ ∧ Sm K μ G H ∧ w ρ μ P ∧ TellsP K G P Q
structure DP (X : Cx) (e : Option Expr) (w : WP) : Prop where
  p : PO X e (LP X.K w)
theorem wkP {e : Option Expr} {t t' : TO} (h : PO X e t) (k : ∀ σ H Q, t' σ H Q → t σ H Q) : PO X e t' := ⟨fun pins s σ H Q I q => h.run pins s σ H Q I (k σ H Q q)⟩
def wNoP : WP := fun _ μ P => P none μ
def wPart (w : WE) : WP := fun ρ μ P => w ρ μ fun d μ1 => match d with | .int i => P (some i) μ1 | _ => False
theorem dp_none : DP X none wNoP := ⟨wkP po_none fun σ H Q ⟨ρ, μ, G, P, he, hm, hw, ht⟩ => ht _ _ _ _ hw (Ex.refl _) hm⟩
theorem dp_some (h : DE X e we) : DP X (some e) (wPart we) := ⟨wkP (po_some h.p) fun σ H Q ⟨ρ, μ, G, P, he, hm, hw, ht⟩ => ⟨ρ, μ, G, _, he, hm, hw, fun d μ1 v H1 G1 p e m r => by
  cases d with
  | int i => cases r; exact ⟨i, rfl, ht _ _ _ _ p e m⟩
  | _ => exact p.elim⟩⟩
def cutD (xs : List D) (lo hi : Option Int) : List D := (xs.drop (HT.sIx xs.length 0 lo)).take (HT.sIx xs.length xs.length hi - HT.sIx xs.length 0 lo)
theorem rps_drop {K : PySem.W.Frag} {G : Hp} : ∀ {n : Nat} {ds : List D} {vs : List V}, Rps K G ds vs → Rps K G (ds.drop n) (vs.drop n)
  | 0, _, _, r => r
  | _ + 1, _, _, .nil => .nil
  | n + 1, _, _, .cons _ r => rps_drop (n := n) r
theorem rps_take {K : PySem.W.Frag} {G : Hp} : ∀ {n : Nat} {ds : List D} {vs : List V}, Rps K G ds vs → Rps K G (ds.take n) (vs.take n)
  | 0, _, _, _ => .nil
  | _ + 1, _, _, .nil => .nil
  | n + 1, _, _, .cons a r => .cons a (rps_take (n := n) r)
theorem cut_ok {K : PySem.W.Frag} {G : Hp} {ds : List D} {vs : List V} {lo hi : Option Int} (r : Rps K G ds vs) : Rps K G (cutD ds lo hi) (cutV vs lo hi) := by
  unfold cutD cutV
  rw [r.length]
  exact rps_take (rps_drop r)
theorem SlR_or {r r' : V → Option Int → Option Int → Hp → VK → Prop} (h : SlR X r) (h' : SlR X r') : SlR X (fun x l u H Q => r x l u H Q ∨ r' x l u H Q) := by
  intro pins s σ H x v vl vu lo hi sl Q I rx hs pl pu q
  rcases q with q | q
  · exact h pins s σ H x v vl vu lo hi sl Q I rx hs pl pu q
  · exact h' pins s σ H x v vl vu lo hi sl Q I rx hs pl pu q
def oSlice (x : D) (lo hi : Option Int) (μ : Store) (P : D → Store → Prop) : Prop := match x with
  | .str s => s.length ≤ sizeLine ∧ P (.str (cutS s lo hi)) μ
  | .tup xs => P (.tup (cutD xs lo hi)) μ
  | .scr xs => P (.lst (cutD xs lo hi)) μ
  | d => match seqL μ d with | some xs => P (.lst (cutD xs lo hi)) μ | none => False
def wSl (we : WE) (wl wh : WP) : WE := fun ρ μ P => we ρ μ fun x μ1 => wl ρ μ1 fun l μ2 => wh ρ μ2 fun u μ3 => oSlice x l u μ3 P
theorem de_sl {lo hi : Option Expr} {wl wh : WP} (h : DE X e we) (hl : DP X lo wl) (hh : DP X hi wh) : DE X (.Subscript e (.Slice lo hi none p2) pos) (wSl we wl wh) := by
  refine ⟨wkE (pe_slice (SlR_or sl_str (SlR_or sl_list sl_tupA)) h.p hl.p hh.p) fun σ H Q ⟨ρ, μ, G, P, he, hm, hw, ht⟩ => ⟨ρ, μ, G, _, he, hm, hw, fun x μ1 v H1 G1 p1 e1 m1 r1 => ⟨ρ, μ1, G1, _, he.mono e1, m1, p1, fun l μ2 H2 G2 p2 e2 m2 => ⟨ρ, μ2, G2, _, (he.mono e1).mono e2, m2, p2, fun u μ3 H3 G3 p3 e3 m3 => ?_⟩⟩⟩⟩
  have r3 := (r1.mono e2).mono e3
  have t3 := ht.mono ((e1.trans e2).trans e3)
  unfold oSlice at p3
  split at p3
  · cases r3
    exact .inl ⟨_, rfl, p3.1, t3 _ _ _ _ _ p3.2 (Ex.refl _) m3 (.str _)⟩
  · cases r3 with
    | tup h1 rr =>
      refine .inr (.inr ⟨_, _, rfl, h1.sq m3.ex, fun hw => ?_, fun _ => new_tup m3 (cut_ok rr) p3 t3⟩)
      refine t3 _ _ _ _ _ p3 (Ex.refl _) m3 ?_
      have ec : ∀ {ds : List D} {vs : List V}, Rps X.K G3 ds vs → HT.sIx vs.length 0 l = 0 ∧ HT.sIx vs.length vs.length u = vs.length → cutD ds l u = ds := fun {ds vs} rr hw => by
        unfold cutD
        rw [rr.length, hw.1, hw.2, List.drop_zero, Nat.sub_zero, ← rr.length, List.take_length]
      rw [ec rr hw]
      exact .tup h1 rr
  · cases r3 with
    | scr h1 rr => exact .inr (.inl ⟨_, _, rfl, h1.sq m3.ex, new_lst m3 (cut_ok rr) p3 t3⟩)
  · split at p3
    · rename_i xs hx
      obtain ⟨a, ws, rfl, h2, rr⟩ := seqL_ok hx m3 r3
      exact .inr (.inl ⟨_, _, rfl, SqL.of h2, new_lst m3 (cut_ok rr) p3 t3⟩)
    · exact p3.elim
end
/-! ### f-strings -/
section
variable {X : Cx} {e : Expr} {we : WE} {pos : Pos}
def wFmt (we : WE) : WE := fun ρ μ P => we ρ μ fun d μ1 => match d with
  | .str s => s.length ≤ sizeLine ∧ P (.str s) μ1
  | .int i => i.natAbs.log2 < 1920 ∧ P (.str (Str.ofString (toString i))) μ1
  | _ => False
theorem de_fmt (h : DE X e we) : DE X (.FormattedValue e (-1) none pos) (wFmt we) := ⟨wkE (pe_fmt h.p) fun σ H Q ⟨ρ, μ, G, P, he, hm, hw, ht⟩ => ⟨ρ, μ, G, _, he, hm, hw, fun d μ1 v H1 G1 p e m r => by
  cases d with
  | str s => cases r; exact .inl ⟨_, rfl, p.1, ht _ _ _ _ _ p.2 e m (.str _)⟩
  | int i => cases r; exact .inr ⟨_, rfl, p.1, ht _ _ _ _ _ p.2 e m (.str _)⟩
  | _ => exact p.elim⟩⟩
inductive DJ (X : Cx) : List Expr → List WE → Prop where
  | nil : DJ X [] []
  | cons {e : Expr} {w : WE} {es : List Expr} {ws : List WE} (h : DE X e w) (r : DJ X es ws) : DJ X (e :: es) (w :: ws)
theorem DJ.pj : ∀ {es : List Expr} {ws : List WE}, DJ X es ws → PJ X es (ws.map (LE X.K))
  | _, _, .nil => .nil
  | _, _, .cons h r => .cons h.p r.pj
def wJs : List WE → Str → Env → Store → (D → Store → Prop) → Prop
  | [], acc, _, μ, P => P (.str acc) μ
  | w :: ws, acc, ρ, μ, P => w ρ μ fun d μ1 => match d with | .str y => (acc ++ y).length ≤ sizeLine ∧ wJs ws (acc ++ y) ρ μ1 P | _ => False
theorem wjs_ok {K : PySem.W.Frag} : ∀ {ws : List WE} {acc : Str} {ρ : Env} {μ : Store} {G H : Hp} {σ : L2.St} {P : D → Store → Prop} {Q : VK}, EnvR K G ρ σ → Sm K μ G H → wJs ws acc ρ μ P → Tells K G P Q → tJs (ws.map (LE K)) acc σ H fun out H1 => Q (.str out) H1
  | [], acc, ρ, μ, G, H, σ, P, Q, he, hm, hw, ht => ht _ _ _ _ _ hw (Ex.refl _) hm (.str _)
  | w :: ws, acc, ρ, μ, G, H, σ, P, Q, he, hm, hw, ht => ⟨ρ, μ, G, _, he, hm, hw, fun d μ1 v H1 G1 p e m r => by
    cases d with
    | str y => cases r; exact ⟨y, rfl, p.1, wjs_ok (he.mono e) m p.2 (ht.mono e)⟩
    | _ => exact p.elim⟩
def wJoin (ws : List WE) : WE := fun ρ μ P => wJs ws Str.empty ρ μ P
theorem de_joined {v1 v2 : Expr} {rest : List Expr} {ws : List WE} (h : DJ X (v1 :: v2 :: rest) ws) : DE X (.JoinedStr (v1 :: v2 :: rest) pos) (wJoin ws) := ⟨wkE (pe_joined h.pj) fun σ H Q ⟨ρ, μ, G, P, he, hm, hw, ht⟩ => wjs_ok he hm hw ht⟩
theorem de_joined1 (h : DE X e we) : DE X (.JoinedStr [e] pos) we := ⟨pe_joined1 h.p⟩
end
/-! ### names of the top that hold a plain value -/
section
variable {X : Cx}
theorem de_gs {x z : Str} {p : Pos} (h : ∃ t, X.mg x = some (.str z t)) (hg : Gl X x := by rfl) (hd : (x == ("__debug__" : Str)) = false := by decide) : DE X (.Name x p) (wC (.str z)) := by
  obtain ⟨t, h⟩ := h
  exact de_c (pe_glob hg h (show RelV (.str z) (.str z t) from ⟨t, rfl⟩) hd) fun _ => .str z
theorem de_gi {x : Str} {z : Int} {p : Pos} (h : ∃ t, X.mg x = some (.int z t)) (hg : Gl X x := by rfl) (hd : (x == ("__debug__" : Str)) = false := by decide) : DE X (.Name x p) (wC (.int z)) := by
  obtain ⟨t, h⟩ := h
  exact de_c (pe_glob hg h (show RelV (.int z) (.int z t) from ⟨t, rfl⟩) hd) fun _ => .int z
end
/-! ### {k: v, ..} -/
section
variable {X : Cx} {pos : Pos}
def wPairs : List (WE × WE) → Env → Store → (List (D × D) → Store → Prop) → Prop
  | [], _, μ, P => P [] μ
  | (wk, wv) :: r, ρ, μ, P => wk ρ μ fun x μ1 => wv ρ μ1 fun y μ2 => wPairs r ρ μ2 fun ps μ3 => P ((x, y) :: ps) μ3
inductive DPs (X : Cx) (pos : Pos) : List (Option Expr) → List Expr → List (WE × WE) → Prop where
  | nil : DPs X pos [] [] []
  | cons {k v : Expr} {ks : List (Option Expr)} {vs : List Expr} {wk wv : WE} {ws : List (WE × WE)} (hk : DE X k wk) (hv : DE X v wv) (r : DPs X pos ks vs ws) : DPs X pos (some k :: ks) (v :: vs) ((wk, wv) :: ws)
def lws (K : PySem.W.Frag) (ws : List (WE × WE)) : List (TE × TE) := ws.map fun p => (LE K p.1, LE K p.2)
theorem DPs.pps : ∀ {ks : List (Option Expr)} {vs : List Expr} {ws : List (WE × WE)}, DPs X pos ks vs ws → PPs X pos ks vs (lws X.K ws)
  | _, _, _, .nil => pps_nil
  | _, _, _, .cons hk hv r => pps_cons hk.p hv.p r.pps
inductive Rpp (K : PySem.W.Frag) (G : Hp) : List (D × D) → List (V × V) → Prop where
  | nil : Rpp K G [] []
  | cons {x y : D} {v u : V} {ds : List (D × D)} {vs : List (V × V)} (h : Rp K G x v) (k : Rp K G y u) (r : Rpp K G ds vs) : Rpp K G ((x, y) :: ds) ((v, u) :: vs)
theorem pairs_ok {K : PySem.W.Frag} : ∀ {ws : List (WE × WE)} {ρ : Env} {μ : Store} {G H : Hp} {σ : L2.St} {P : List (D × D) → Store → Prop} {Q : List (V × V) → Hp → Prop}, EnvR K G ρ σ → Sm K μ G H → wPairs ws ρ μ P →
    (∀ ds μ' vs H' G', P ds μ' → Ex G G' → Sm K μ' G' H' → Rpp K G' ds vs → Q vs H') → tPairs (lws K ws) σ H Q
  | [], ρ, μ, G, H, σ, P, Q, he, hm, hw, ht => ht _ _ _ _ _ hw (Ex.refl _) hm .nil
  | (wk, wv) :: ws, ρ, μ, G, H, σ, P, Q, he, hm, hw, ht => ⟨ρ, μ, G, _, he, hm, hw, fun x μ1 v H1 G1 p1 e1 m1 r1 => ⟨ρ, μ1, G1, _, he.mono e1, m1, p1, fun y μ2 u H2 G2 p2 e2 m2 r2 =>
      pairs_ok ((he.mono e1).mono e2) m2 p2 fun ds μ3 vs H3 G3 p3 e3 m3 r3 => ht _ _ _ _ _ p3 ((e1.trans e2).trans e3) m3 (.cons ((r1.mono e2).mono e3) (r2.mono e3) r3)⟩⟩
def keysD : List (D × D) → Option (List (Key × D))
  | [] => some []
  | (k, v) :: r => match keyD k, keysD r with | some k, some r => some ((k, v) :: r) | _, _ => none
theorem keysD_ok {K : PySem.W.Frag} {G : Hp} : ∀ {ds : List (D × D)} {vs : List (V × V)} {ks : List (Key × D)}, keysD ds = some ks → Rpp K G ds vs →
    ∃ kvs : List (Key × V), vs = kvs.map (fun kv => (kV kv.1, kv.2)) ∧ kvs.map (·.1) = ks.map (·.1) ∧ Rps K G (ks.map (·.2)) (kvs.map (·.2))
  | _, _, _, h, .nil => by cases h; exact ⟨[], rfl, rfl, .nil⟩
  | (x, y) :: ds, (v, u) :: vs, ks, h, .cons hk hv r => by
    unfold keysD at h
    split at h
    · rename_i k r' q1 q2
      cases h
      obtain ⟨kvs, e1, e2, e3⟩ := keysD_ok q2 r
      refine ⟨(k, _) :: kvs, ?_, ?_, .cons hv e3⟩
      · rw [keyD_ok q1 hk, e1]; rfl
      · rw [List.map_cons, List.map_cons, e2]
    · cases h
def mergeD (kvs more : List (Key × D)) : List (Key × D) := more.foldl (fun acc kv => putD acc kv.1 kv.2) kvs
theorem merge_ok {K : PySem.W.Frag} {G : Hp} : ∀ {more : List (Key × D)} {moreV : List (Key × V)} {ds : List (Key × D)} {kvs : List (Key × V)}, moreV.map (·.1) = more.map (·.1) → Rps K G (more.map (·.2)) (moreV.map (·.2)) → kvs.map (·.1) = ds.map (·.1) → Rps K G (ds.map (·.2)) (kvs.map (·.2)) →
    (mergeK kvs moreV).map (·.1) = (mergeD ds more).map (·.1) ∧ Rps K G ((mergeD ds more).map (·.2)) ((mergeK kvs moreV).map (·.2))
  | [], [], _, _, _, _, e, r => ⟨e, r⟩
  | [], _ :: _, _, _, e, _, _, _ => by simp at e
  | _ :: _, [], _, _, e, _, _, _ => by simp at e
  | (k, d) :: more, (k', v) :: moreV, ds, kvs, e1, r1, e, r => by
    have e2 : k' = k ∧ moreV.map (·.1) = more.map (·.1) := by simpa using e1
    obtain ⟨rfl, e2⟩ := e2
    cases r1 with
    | cons h r1 =>
      obtain ⟨i1, i2⟩ := putD_keys (k := k') h e r
      exact merge_ok (more := more) (moreV := moreV) e2 r1 i1 i2
def wDisp (ws : List (WE × WE)) : WE := fun ρ μ P => ∀ p, μ p = none → wPairs ws ρ (setS μ p (.dct [])) fun ps μ2 => μ2 p = some (.dct []) ∧ ∃ kvs, keysD ps = some kvs ∧ kvs.length ≤ 15 ∧ P (.dct (mergeD [] kvs)) (delS μ2 p)
theorem de_disp {ks : List (Option Expr)} {vs : List Expr} {ws : List (WE × WE)} (h : DPs X pos ks vs ws) (hall : ks.all (·.isSome) = true) (hl : ks.length = vs.length) (h0 : ks ≠ []) (h15 : ks.length ≤ 15) : DE X (.Dict ks vs pos) (wDisp ws) := by
  refine ⟨wkE (pe_disp h.pps hall hl h0 h15) fun σ H Q ⟨ρ, μ, G, P, he, hm, hw, ht⟩ => fun p hp => ?_⟩
  have m1 : Sm X.K (setS μ p (.dct [])) G (upd H p (.dK [])) := hm.write (hm.ex.nn hp) ⟨[], upd_same, rfl, .nil⟩
  refine pairs_ok he m1 (hw p (hm.nn hp)) fun ds μ2 vs H2 G2 ⟨q, kvs, hk, hz, p2⟩ e2 m2 r2 => ?_
  obtain ⟨k1, k2, e3, e4⟩ := keysD_ok hk r2
  obtain ⟨h0, ws0, h1, e5, r5⟩ := m2.st p _ q
  cases ws0 with
  | cons _ _ => simp at e5
  | nil =>
    refine ⟨h1, k1, k2, by rw [len_keys e3]; exact hz, ?_⟩
    obtain ⟨i1, i2⟩ := merge_ok (kvs := []) (ds := []) e3 e4 rfl .nil
    have m3 : Sm X.K (setS μ2 p (.dct (mergeD [] kvs))) G2 (upd H2 p (.dK (mergeK [] k1))) := m2.write h0 ⟨_, upd_same, i1, i2⟩
    obtain ⟨G3, m4, e6, r6⟩ := m3.freezeD setS_same
    have es : delS (setS μ2 p (.dct (mergeD [] kvs))) p = delS μ2 p := by
      funext b
      unfold delS setS
      split <;> rfl
    rw [es] at m4
    exact ht _ _ _ _ _ p2 (e2.trans e6) m4 r6
end
end Dl

namespace Dl
open PySem L2
/-! ### comprehensions of two sources -/
section
variable {X : Cx}
def lcBody2 (its : List D) (g : WG) (tt : WT) (wi1 : WI) (g1 : WG) (tt1 : WT) (te : WE) (vs vs1 : List Nat) (fin : Addr → List D → Store → Prop) (ρ : Env) (μ1 : Store) : Prop := ∀ L, μ1 L = none → ∃ I : Nat → List D → Store → Prop, I 0 [] (setS μ1 L (.lst [])) ∧
  (∀ i d acc μ', its[i]? = some d → μ' L = some (.lst acc) → I i acc μ' → g d (wipeE ρ vs) μ' fun ρ2 μ2 => tt ρ2 μ2 fun b μ3 => if b = true then wi1 ρ2 μ3 fun its1 μ4 => ∃ (I1 : Nat → List D → Store → Prop) (acc4 : List D), μ4 L = some (.lst acc4) ∧ I1 0 acc4 μ4 ∧
      (∀ j d1 acc1 μ5, its1[j]? = some d1 → μ5 L = some (.lst acc1) → I1 j acc1 μ5 → g1 d1 (wipeE ρ2 vs1) μ5 fun ρ6 μ6 => tt1 ρ6 μ6 fun b μ7 => if b = true then te ρ6 μ7 fun y μ8 => ∃ acc8, μ8 L = some (.lst acc8) ∧ acc8.length < sizeLine ∧ I1 (j + 1) (acc8 ++ [y]) (setS μ8 L (.lst (acc8 ++ [y])))
        else ∃ acc7, μ7 L = some (.lst acc7) ∧ I1 (j + 1) acc7 μ7) ∧
      (∀ acc μ', μ' L = some (.lst acc) → I1 its1.length acc μ' → I (i + 1) acc μ')
    else ∃ acc3, μ3 L = some (.lst acc3) ∧ I (i + 1) acc3 μ3) ∧
  ∀ acc μ', μ' L = some (.lst acc) → I its.length acc μ' → fin L acc μ'
def wLcG2 (wi : WI) (g : WG) (tt : WT) (wi1 : WI) (g1 : WG) (tt1 : WT) (te : WE) (vs vs1 : List Nat) (fin : Addr → List D → Store → Prop) : Env → Store → Prop := fun ρ μ => wi ρ μ fun its μ1 => lcBody2 its g tt wi1 g1 tt1 te vs vs1 fin ρ μ1
def wLc2 (wi : WI) (g : WG) (tt : WT) (wi1 : WI) (g1 : WG) (tt1 : WT) (te : WE) (vs vs1 : List Nat) : WE := fun ρ μ P => wLcG2 wi g tt wi1 g1 tt1 te vs vs1 (fun L acc μ' => P (.lst acc) (delS μ' L)) ρ μ
def wLc2M (wi : WI) (g : WG) (tt : WT) (wi1 : WI) (g1 : WG) (tt1 : WT) (te : WE) (vs vs1 : List Nat) : WE := fun ρ μ P => wLcG2 wi g tt wi1 g1 tt1 te vs vs1 (fun L acc μ' => P (.ref L) μ') ρ μ
theorem llc2 {K : PySem.W.Frag} {wi wi1 : WI} {g g1 : TG} {wg wg1 : WG} {tt tt1 : WT} {te : WE} {vs vs1 : List Nat} {fin : Addr → List D → Store → Prop} {σ : L2.St} {H : Hp} {Q : VK} {ρ : Env} {μ : Store} {G : Hp} (hg : GPat K vs g wg) (hg1 : GPat K vs1 g1 wg1) (he : EnvR K G ρ σ) (hm : Sm K μ G H)
    (hw : wLcG2 wi wg tt wi1 wg1 tt1 te vs vs1 fin ρ μ) (hf : ∀ L acc μ' H' G', fin L acc μ' → μ' L = some (.lst acc) → Ex G G' → Sm K μ' G' H' → Q (.ref L) H') : tLc2 (LI K wi) g (LT K tt) (LI K wi1) g1 (LT K tt1) (LE K te) vs vs1 σ H Q := by
  refine ⟨ρ, μ, G, _, he, hm, hw, ?_⟩
  rintro its μ1 H1 G1 J hI e1 m1 hJ L hL
  obtain ⟨I, h0, hturn, hend⟩ := hI L (m1.nn hL)
  refine ⟨fun i m H' => m = its.length - i ∧ i ≤ its.length ∧ ∃ acc μ' G', Ex G1 G' ∧ Sm K μ' G' H' ∧ μ' L = some (.lst acc) ∧ I i acc μ',
    ⟨its.length, by simp, Nat.zero_le _, [], _, G1, Ex.refl _, m1.write (c := .lst []) (m1.ex.nn hL) ⟨[], upd_same, .nil⟩, setS_same, h0⟩, ?_⟩
  rintro i m H' ⟨rfl, hi, acc, μ', G', e', hm', uD, hI⟩
  obtain ⟨wgo, wstop⟩ := hJ i H' G' μ' e' hm'
  by_cases hlt : i < its.length
  · obtain ⟨go, yl⟩ := wgo hlt
    refine .inr ⟨go, fun H2 => ∃ acc2 μ2 G2, Ex G1 G2 ∧ Sm K μ2 G2 H2 ∧ μ2 L = some (.lst acc2) ∧ I (i + 1) acc2 μ2, fun H2 ⟨a, b, c, x1, x2, x3, x5⟩ => ⟨its.length - (i + 1), by omega, rfl, hlt, a, b, c, x1, x2, x3, x5⟩, fun x H2 hy => ?_⟩
    obtain ⟨G3, d, hd, e3, m3, r3⟩ := yl x H2 hy
    have heW : EnvR K G3 (wipeE ρ vs) (L2.wipe σ vs) := ((((he.mono e1).mono e').mono e3)).wipe vs
    refine hg heW m3 r3 (hturn i d acc μ' hd uD hI) fun ρ4 μ4 σ4 H4 G4 p4 e4 he4 hm4 q4 => ⟨q4.trans (wipe_wipe fun _ h => h), ρ4, μ4, G4, _, he4, hm4, p4, fun b μ5 H5 G5 p5 e5 m5 => ?_⟩
    have eG : Ex G1 G5 := ((e'.trans e3).trans e4).trans e5
    cases b with
    | true =>
      rw [if_pos rfl] at p5
      refine iteT ?_
      refine ⟨ρ4, μ5, G5, _, he4.mono e5, m5, p5, fun its1 μ6 H6 G6 J1 p6 e6 m6 hJ1 => ?_⟩
      obtain ⟨I1, acc4, u4, h10, hturn1, hend1⟩ := p6
      refine ⟨fun j k H' => k = its1.length - j ∧ j ≤ its1.length ∧ ∃ acc μ' G', Ex G6 G' ∧ Sm K μ' G' H' ∧ μ' L = some (.lst acc) ∧ I1 j acc μ', ⟨its1.length, by simp, Nat.zero_le _, acc4, μ6, G6, Ex.refl _, m6, u4, h10⟩, ?_⟩
      rintro j k H7 ⟨rfl, hj, acc7, μ7, G7, e7, hm7, u7, hI7⟩
      obtain ⟨wgo1, wstop1⟩ := hJ1 j H7 G7 μ7 e7 hm7
      by_cases hlt1 : j < its1.length
      · obtain ⟨go1, yl1⟩ := wgo1 hlt1
        refine .inr ⟨go1, fun H2 => ∃ acc2 μ2 G2, Ex G6 G2 ∧ Sm K μ2 G2 H2 ∧ μ2 L = some (.lst acc2) ∧ I1 (j + 1) acc2 μ2, fun H2 ⟨a, b, c, x1, x2, x3, x5⟩ => ⟨its1.length - (j + 1), by omega, rfl, hlt1, a, b, c, x1, x2, x3, x5⟩, fun x H8 hy => ?_⟩
        obtain ⟨G8, d1, hd1, e8, m8, r8⟩ := yl1 x H8 hy
        have heW1 : EnvR K G8 (wipeE ρ4 vs1) (L2.wipe σ4 vs1) := (((((he4.mono e5).mono e6).mono e7).mono e8)).wipe vs1
        refine hg1 heW1 m8 r8 (hturn1 j d1 acc7 μ7 hd1 u7 hI7) fun ρ9 μ9 σ9 H9 G9 p9 e9 he9 hm9 q9 => ⟨q9.trans (wipe_wipe fun _ h => h), ρ9, μ9, G9, _, he9, hm9, p9, fun b μa Ha Ga pa ea ma => ?_⟩
        have eH : Ex G6 Ga := ((e7.trans e8).trans e9).trans ea
        cases b with
        | true =>
          rw [if_pos rfl] at pa
          refine iteT ?_
          refine ⟨ρ9, μa, Ga, _, he9.mono ea, ma, pa, fun y μb vb Hb Gb pb eb mb rb => ?_⟩
          obtain ⟨acc8, u8, hz, hI8⟩ := pb
          obtain ⟨h0, xs, h1, rr⟩ := mb.st L _ u8
          exact ⟨xs, h1, by rw [← rr.length]; exact hz, acc8 ++ [y], _, Gb, eH.trans eb, mb.write (c := .lst (acc8 ++ [y])) h0 ⟨_, upd_same, rr.append (.cons rb .nil)⟩, setS_same, hI8⟩
        | false =>
          rw [if_neg Bool.false_ne_true] at pa
          refine iteF ?_
          obtain ⟨acca, ua, hIa⟩ := pa
          exact ⟨acca, μa, Ga, eH, ma, ua, hIa⟩
      · have ej : j = its1.length := by omega
        subst ej
        exact .inl ⟨wstop1 (Nat.le_refl _), acc7, μ7, G7, (eG.trans e6).trans e7, hm7, u7, hend1 acc7 μ7 u7 hI7⟩
    | false =>
      rw [if_neg Bool.false_ne_true] at p5
      refine iteF ?_
      obtain ⟨acc3, u3, hI3⟩ := p5
      exact ⟨acc3, μ5, G5, eG, m5, u3, hI3⟩
  · have ei : i = its.length := by omega
    subst ei
    exact .inl ⟨wstop (Nat.le_refl _), hf _ _ _ _ _ (hend acc μ' uD hI) uD (e1.trans e') hm'⟩
variable {elt tg iter tg1 iter1 : Expr} {ifs ifs1 : List Expr} {scope : Scope} {own : List (Str × Nat)} {vs1 : List Nat} {pos : Pos} {wi wi1 : WI} {g g1 : TG} {wg wg1 : WG} {tt tt1 : WT} {te : WE}
theorem de_lc2 (hc : X.calm = true) (hN : X.N.Nodup) (hi : DI X tg iter wi) (ok : BlkOk X.N X.env.scope scope own) (hv : ∀ i ∈ vs1, i ∈ own.map (·.2)) (hp : GPat X.K (own.map (·.2)) g wg) (hp1 : GPat X.K vs1 g1 wg1)
    (hg : ∀ (s : Shared) (H : Hp) (C : Addr) (cl : List (Str × Addr)) (fp : List Addr), PG (X.blk s H scope (compEnvC scope cl C X.env) fp) tg g) (ht : ∀ (s : Shared) (H : Hp) (C : Addr) (cl : List (Str × Addr)) (fp : List Addr), DTs (X.blk s H scope (compEnvC scope cl C X.env) fp) ifs tt)
    (hi1 : ∀ (s : Shared) (H : Hp) (C : Addr) (cl : List (Str × Addr)) (fp : List Addr), DI (X.blk s H scope (compEnvC scope cl C X.env) fp) tg1 iter1 wi1)
    (hg1 : ∀ (s : Shared) (H : Hp) (C : Addr) (cl : List (Str × Addr)) (fp : List Addr), PG (X.blk s H scope (compEnvC scope cl C X.env) fp) tg1 g1) (ht1 : ∀ (s : Shared) (H : Hp) (C : Addr) (cl : List (Str × Addr)) (fp : List Addr), DTs (X.blk s H scope (compEnvC scope cl C X.env) fp) ifs1 tt1)
    (he : ∀ (s : Shared) (H : Hp) (C : Addr) (cl : List (Str × Addr)) (fp : List Addr), DE (X.blk s H scope (compEnvC scope cl C X.env) fp) elt te) (hs : ∀ x, foldedSetIterable iter X.env x = pure x := by intro _; rfl) (hs1 : ∀ env x, foldedSetIterable iter1 env x = pure x := by intro _ _; rfl) :
    DE X (.ListComp elt [⟨tg, iter, ifs, 0⟩, ⟨tg1, iter1, ifs1, 0⟩] scope pos) (wLc2 wi wg tt wi1 wg1 tt1 te (own.map (·.2)) vs1) :=
  ⟨wkE (pe_lc2 hc hN hi.p ok hv hg (fun s H C cl fp => (ht s H C cl fp).p) (fun s H C cl fp => (hi1 s H C cl fp).p) hg1 (fun s H C cl fp => (ht1 s H C cl fp).p) (fun s H C cl fp => (he s H C cl fp).p) hs hs1) fun σ H Q ⟨ρ, μ, G, P, hr, hm, hw, htl⟩ => llc2 hp hp1 hr hm hw fun L acc μ' H' G' f u e m => by
    obtain ⟨G2, m2, e2, r2⟩ := m.freezeL u
    exact htl _ _ _ _ _ f (e.trans e2) m2 r2⟩
theorem ds_setLc2 {i : Nat} {y : Str} {py spos : Pos} (hc : X.calm = true) (hN : X.N.Nodup) (hy : X.N[i]? = some y) (hyl : X.env.scope.names.lookup y = some .local)
    (hsw : swapsWith (.ListComp elt [⟨tg, iter, ifs, 0⟩, ⟨tg1, iter1, ifs1, 0⟩] scope pos) (some (.Name y py)) spos.line X.env = pure true) (hi : DI X tg iter wi) (ok : BlkOk X.N X.env.scope scope own) (hv : ∀ i ∈ vs1, i ∈ own.map (·.2)) (hp : GPat X.K (own.map (·.2)) g wg) (hp1 : GPat X.K vs1 g1 wg1)
    (hg : ∀ (s : Shared) (H : Hp) (C : Addr) (cl : List (Str × Addr)) (fp : List Addr), PG (X.blk s H scope (compEnvC scope cl C X.env) fp) tg g) (ht : ∀ (s : Shared) (H : Hp) (C : Addr) (cl : List (Str × Addr)) (fp : List Addr), DTs (X.blk s H scope (compEnvC scope cl C X.env) fp) ifs tt)
    (hi1 : ∀ (s : Shared) (H : Hp) (C : Addr) (cl : List (Str × Addr)) (fp : List Addr), DI (X.blk s H scope (compEnvC scope cl C X.env) fp) tg1 iter1 wi1)
    (hg1 : ∀ (s : Shared) (H : Hp) (C : Addr) (cl : List (Str × Addr)) (fp : List Addr), PG (X.blk s H scope (compEnvC scope cl C X.env) fp) tg1 g1) (ht1 : ∀ (s : Shared) (H : Hp) (C : Addr) (cl : List (Str × Addr)) (fp : List Addr), DTs (X.blk s H scope (compEnvC scope cl C X.env) fp) ifs1 tt1)
    (he : ∀ (s : Shared) (H : Hp) (C : Addr) (cl : List (Str × Addr)) (fp : List Addr), DE (X.blk s H scope (compEnvC scope cl C X.env) fp) elt te) (hs : ∀ x, foldedSetIterable iter X.env x = pure x := by intro _; rfl) (hs1 : ∀ env x, foldedSetIterable iter1 env x = pure x := by intro _ _; rfl) :
    DS X (.Assign [.Name y py] (.ListComp elt [⟨tg, iter, ifs, 0⟩, ⟨tg1, iter1, ifs1, 0⟩] scope pos) spos) (wAsg (wLc2 wi wg tt wi1 wg1 tt1 te (own.map (·.2)) vs1) (wgName i)) :=
  ⟨wkS (ps_setLc2 hc hN hy hyl hsw hi.p ok hv hg (fun s H C cl fp => (ht s H C cl fp).p) (fun s H C cl fp => (hi1 s H C cl fp).p) hg1 (fun s H C cl fp => (ht1 s H C cl fp).p) (fun s H C cl fp => (he s H C cl fp).p) hs hs1) fun D σ H ⟨ρ, μ, G, W, hr, hm, hw, htl⟩ => llc2 hp hp1 hr hm hw fun L acc μ' H' G' f u e m => by
    obtain ⟨G2, m2, e2, r2⟩ := m.freezeL u
    exact htl.nx _ _ _ _ _ f (e.trans e2) ((hr.mono (e.trans e2)).set i r2) m2⟩
end
end Dl
namespace Dl
open PySem L2
/-- two sources that change nothing -/
theorem lc2_go {its : List D} {g : WG} {tt : WT} {wi1 : WI} {g1 : WG} {tt1 : WT} {te : WE} {vs vs1 : List Nat} {fin : Addr → List D → Store → Prop} {ρ : Env} {μ : Store} (env : D → Env) (src : D → List D) (f : D → D → Option D)
    (hz : (its.flatMap fun d => (src d).filterMap (f d)).length ≤ sizeLine)
    (h : ∀ (i : Nat) (d : D) (μ' : Store) (C : Env → List D → Store → Prop) (E : Store → Prop), its[i]? = some d → Sub μ μ' → C (env d) (src d) μ' → g d (wipeE ρ vs) μ' fun ρ2 μ2 => tt ρ2 μ2 fun b μ3 => if b = true then wi1 ρ2 μ3 (C ρ2) else E μ3)
    (k : ∀ (i : Nat) (d : D) (j : Nat) (d1 : D) (μ' : Store) (R : D → Store → Prop) (R' : Store → Prop), its[i]? = some d → (src d)[j]? = some d1 → Sub μ μ' → (∀ y, f d d1 = some y → R y μ') → (f d d1 = none → R' μ') →
      g1 d1 (wipeE (env d) vs1) μ' fun ρ6 μ6 => tt1 ρ6 μ6 fun b μ7 => if b = true then te ρ6 μ7 R else R' μ7)
    (q : ∀ L, μ L = none → fin L (its.flatMap fun d => (src d).filterMap (f d)) (setS μ L (.lst (its.flatMap fun d => (src d).filterMap (f d))))) : lcBody2 its g tt wi1 g1 tt1 te vs vs1 fin ρ μ := by
  intro L hL
  have sub : ∀ acc, Sub μ (setS μ L (.lst acc)) := fun acc a c e => by
    have : a ≠ L := by rintro rfl; rw [hL] at e; cases e
    rw [setS_ne this]; exact e
  refine ⟨fun i acc μ' => acc = (its.take i).flatMap (fun d => (src d).filterMap (f d)) ∧ μ' = setS μ L (.lst acc), ⟨rfl, rfl⟩, ?_, ?_⟩
  · rintro i d acc μ' hd hu ⟨rfl, rfl⟩
    obtain ⟨hi, hd2⟩ := List.getElem?_eq_some_iff.mp hd
    have ht : its.take (i + 1) = its.take i ++ [d] := by rw [List.take_add_one, hd]; rfl
    have htot : its.flatMap (fun d => (src d).filterMap (f d)) = (its.take i).flatMap (fun d => (src d).filterMap (f d)) ++ ((src d).filterMap (f d) ++ (its.drop (i + 1)).flatMap (fun d => (src d).filterMap (f d))) := by
      conv => lhs; rw [← List.take_append_drop i its, List.drop_eq_getElem_cons hi, hd2]
      rw [List.flatMap_append, List.flatMap_cons]
    refine h i d _ _ _ hd (sub _) ⟨fun j acc1 μ5 => acc1 = (its.take i).flatMap (fun d => (src d).filterMap (f d)) ++ ((src d).take j).filterMap (f d) ∧ μ5 = setS μ L (.lst acc1), _, setS_same, ⟨by simp, rfl⟩, ?_, ?_⟩
    · rintro j d1 acc1 μ5 hd1 hu1 ⟨rfl, rfl⟩
      have ht1 : (src d).take (j + 1) = (src d).take j ++ [d1] := by rw [List.take_add_one, hd1]; rfl
      have hlen : ((its.take i).flatMap (fun d => (src d).filterMap (f d)) ++ ((src d).take (j + 1)).filterMap (f d)).length ≤ sizeLine := by
        rw [htot] at hz
        rw [List.length_append] at hz ⊢
        rw [List.length_append] at hz
        have : (((src d).take (j + 1)).filterMap (f d)).length ≤ ((src d).filterMap (f d)).length := by
          conv => rhs; rw [← List.take_append_drop (j + 1) (src d), List.filterMap_append, List.length_append]
          omega
        omega
      refine k i d j d1 _ _ _ hd hd1 (sub _) (fun y hy => ⟨_, setS_same, ?_, ?_, ?_⟩) (fun hn => ⟨_, setS_same, ?_, rfl⟩)
      · rw [ht1, List.filterMap_append] at hlen
        simp only [List.length_append, List.filterMap_cons, List.filterMap_nil, hy, List.length_cons, List.length_nil] at hlen ⊢
        omega
      · rw [ht1, List.filterMap_append, List.append_assoc]
        simp [hy]
      · rw [setS_setS]
      · rw [ht1, List.filterMap_append]
        simp [hn]
    · rintro acc1 μ5 _ ⟨rfl, rfl⟩
      refine ⟨?_, rfl⟩
      rw [ht, List.flatMap_append, List.take_length]
      simp
  · rintro acc μ' _ ⟨rfl, rfl⟩
    rw [List.take_length]
    exact q L hL
end Dl

namespace Dl
open PySem L2
/-! ### plain values as data, and their equality -/
structure Enc (α : Type) [DecidableEq α] where
  enc : α → D
  py : α → PyData
  ok : ∀ a, pyD (enc a) = some (py a)
  lay : ∀ a, (py a).canLay0 = true
  n : Nat
  dep : ∀ a, (py a).depth ≤ n
  eqv : ∀ a b, PyData.eqv (py a) (py b) = decide (a = b)
theorem enc_shaped {α : Type} [DecidableEq α] (E : Enc α) (h : E.n ≤ 64) (a : α) : SeqAt.shaped (E.py a) = true := by
  unfold SeqAt.shaped
  rw [E.lay, decide_eq_true (Nat.le_trans (E.dep a) h)]
  rfl
theorem encs_ok {α : Type} [DecidableEq α] (E : Enc α) : ∀ as : List α, pyDs (as.map E.enc) = some (as.map E.py)
  | [] => by rw [List.map_nil, List.map_nil, pyDs]
  | a :: as => by rw [List.map_cons, pyDs, E.ok, encs_ok E as]; rfl
theorem encs_lay {α : Type} [DecidableEq α] (E : Enc α) : ∀ as : List α, PyData.canLayAll0 (as.map E.py) = true
  | [] => by rw [List.map_nil, PyData.canLayAll0]
  | a :: as => by rw [List.map_cons, PyData.canLayAll0, E.lay, encs_lay E as]; rfl
theorem encs_dep {α : Type} [DecidableEq α] (E : Enc α) : ∀ as : List α, PyData.depthAll (as.map E.py) ≤ E.n
  | [] => by rw [List.map_nil, PyData.depthAll]; exact Nat.zero_le _
  | a :: as => by rw [List.map_cons, PyData.depthAll]; exact Nat.max_le.mpr ⟨E.dep a, encs_dep E as⟩
theorem encs_eqv {α : Type} [DecidableEq α] (E : Enc α) : ∀ as bs : List α, PyData.eqvAll (as.map E.py) (bs.map E.py) = decide (as = bs)
  | [], [] => by simp [PyData.eqvAll]
  | [], b :: bs => by simp [PyData.eqvAll]
  | a :: as, [] => by simp [PyData.eqvAll]
  | a :: as, b :: bs => by
    rw [List.map_cons, List.map_cons, PyData.eqvAll, E.eqv, encs_eqv E as bs]
    by_cases h : a = b <;> by_cases k : as = bs <;> simp [h, k]
def eInt : Enc Int := ⟨.int, .int, fun _ => by rw [pyD], fun _ => by rw [PyData.canLay0], 0, fun _ => by rw [PyData.depth]; exact Nat.le_refl _, fun a b => by rw [PyData.eqv]; rfl⟩
def eNat : Enc Nat := ⟨fun n => .int n, fun n => .int n, fun _ => by rw [pyD], fun _ => by rw [PyData.canLay0], 0, fun _ => by rw [PyData.depth]; exact Nat.le_refl _, fun a b => by
  rw [PyData.eqv]
  by_cases h : a = b
  · simp [h]
  · have : ¬ ((a : Int) = (b : Int)) := by omega
    simp [h, this]⟩
def eTup {α : Type} [DecidableEq α] (E : Enc α) : Enc (List α) := ⟨fun as => .tup (as.map E.enc), fun as => .tuple (as.map E.py), fun as => by rw [pyD, encs_ok]; rfl, fun as => by rw [PyData.canLay0]; exact encs_lay E as, E.n + 1,
  fun as => by rw [PyData.depth]; exact Nat.succ_le_succ (encs_dep E as), fun as bs => by rw [PyData.eqv]; exact encs_eqv E as bs⟩
def eLst {α : Type} [DecidableEq α] (E : Enc α) : Enc (List α) := ⟨fun as => .lst (as.map E.enc), fun as => .list (as.map E.py), fun as => by rw [pyD, encs_ok]; rfl, fun as => by rw [PyData.canLay0]; exact encs_lay E as, E.n + 1,
  fun as => by rw [PyData.depth]; exact Nat.succ_le_succ (encs_dep E as), fun as bs => by rw [PyData.eqv]; exact encs_eqv E as bs⟩
def ePair {α β : Type} [DecidableEq α] [DecidableEq β] (E : Enc α) (F : Enc β) : Enc (α × β) := ⟨fun p => .tup [E.enc p.1, F.enc p.2], fun p => .tuple [E.py p.1, F.py p.2], fun p => by rw [pyD, pyDs, E.ok, pyDs, F.ok, pyDs]; rfl,
  fun p => by rw [PyData.canLay0, PyData.canLayAll0, E.lay, PyData.canLayAll0, F.lay, PyData.canLayAll0]; rfl, max E.n F.n + 1,
  fun p => by
    rw [PyData.depth, PyData.depthAll, PyData.depthAll, PyData.depthAll]
    have h1 := E.dep p.1
    have h2 := F.dep p.2
    omega,
  fun p q => by
    rw [PyData.eqv, PyData.eqvAll, E.eqv, PyData.eqvAll, F.eqv, PyData.eqvAll]
    obtain ⟨a, b⟩ := p
    obtain ⟨c, d⟩ := q
    by_cases h : a = c <;> by_cases k : b = d <;> simp [h, k]⟩
theorem scD_enc {d e : D} (h : scD d e = none ∨ ∃ b, scD d e = some b) : True := trivial
/-- == and != over plain values -/
theorem oEq_enc {α : Type} [DecidableEq α] (E : Enc α) (h : E.n ≤ 64) (a b : α) (hs : scD (E.enc a) (E.enc b) = none) (μ : Store) (P : D → Store → Prop) (hr : ∀ x : α, ∀ p, E.enc x ≠ .ref p) : oEq (E.enc a) (E.enc b) μ P = P (.bl (decide (a = b))) μ := by
  have e1 : ∀ x, pyS μ (E.enc x) = some (E.py x) := fun x => by
    have := E.ok x
    unfold pyS
    cases q : E.enc x with
    | ref p => exact absurd q (hr x p)
    | _ => rw [q] at this; exact this
  unfold oEq
  rw [hs, e1, e1]
  dsimp only
  rw [enc_shaped E h, enc_shaped E h, E.eqv]
  simp
theorem oNe_enc {α : Type} [DecidableEq α] (E : Enc α) (h : E.n ≤ 64) (a b : α) (hs : scD (E.enc a) (E.enc b) = none) (μ : Store) (P : D → Store → Prop) (hr : ∀ x : α, ∀ p, E.enc x ≠ .ref p) : oNe (E.enc a) (E.enc b) μ P = P (.bl (!decide (a = b))) μ := by
  have e1 : ∀ x, pyS μ (E.enc x) = some (E.py x) := fun x => by
    have := E.ok x
    unfold pyS
    cases q : E.enc x with
    | ref p => exact absurd q (hr x p)
    | _ => rw [q] at this; exact this
  unfold oNe
  rw [hs, e1, e1]
  dsimp only
  rw [enc_shaped E h, enc_shaped E h, E.eqv]
  simp
theorem oEq_tup {α : Type} [DecidableEq α] (E : Enc α) (h : E.n + 1 ≤ 64) (a b : List α) (μ : Store) (P : D → Store → Prop) : oEq (.tup (a.map E.enc)) (.tup (b.map E.enc)) μ P = P (.bl (decide (a = b))) μ := oEq_enc (eTup E) h a b rfl μ P fun _ _ z => nomatch z
theorem oNe_tup {α : Type} [DecidableEq α] (E : Enc α) (h : E.n + 1 ≤ 64) (a b : List α) (μ : Store) (P : D → Store → Prop) : oNe (.tup (a.map E.enc)) (.tup (b.map E.enc)) μ P = P (.bl (!decide (a = b))) μ := oNe_enc (eTup E) h a b rfl μ P fun _ _ z => nomatch z
theorem oEq_lst {α : Type} [DecidableEq α] (E : Enc α) (h : E.n + 1 ≤ 64) (a b : List α) (μ : Store) (P : D → Store → Prop) : oEq (.lst (a.map E.enc)) (.lst (b.map E.enc)) μ P = P (.bl (decide (a = b))) μ := oEq_enc (eLst E) h a b rfl μ P fun _ _ z => nomatch z
theorem oNe_lst {α : Type} [DecidableEq α] (E : Enc α) (h : E.n + 1 ≤ 64) (a b : List α) (μ : Store) (P : D → Store → Prop) : oNe (.lst (a.map E.enc)) (.lst (b.map E.enc)) μ P = P (.bl (!decide (a = b))) μ := oNe_enc (eLst E) h a b rfl μ P fun _ _ z => nomatch z
/-! ### list.pop(i) -/
section
variable {X : Cx}
def oPopAt : OM := fun x ds μ P => match x, ds with
  | .ref a, [.int i] => (match μ a with
    | some (.lst xs) => (-(2 ^ 63) ≤ i ∧ i < 2 ^ 63) ∧ ∃ k y, seqIndex? i xs.length = some k ∧ xs[k]? = some y ∧ P y (setS μ a (.lst (xs.eraseIdx k)))
    | _ => False)
  | _, _ => False
theorem rps_erase {K : PySem.W.Frag} {G : Hp} : ∀ {k : Nat} {ds : List D} {vs : List V}, Rps K G ds vs → Rps K G (ds.eraseIdx k) (vs.eraseIdx k)
  | _, _, _, .nil => by simp; exact .nil
  | 0, _, _, .cons _ r => r
  | k + 1, _, _, .cons a r => .cons a (rps_erase (k := k) r)
theorem bm_popat : BMok X "pop" "list" oPopAt := ⟨_, _, F.plainAttrs_list, F.slot_list_pop, F.type_list_pop, mt_popAt, fun {x ds μ P G H v vs Q} h m rx rs t => by
  unfold oPopAt at h
  split at h
  · rename_i a i
    cases rx
    cases rs with | cons r1 r2 =>
    cases r1
    cases r2
    cases q : μ a with
    | none => rw [q] at h; exact h.elim
    | some c =>
      rw [q] at h
      cases c with
      | lst xs =>
        obtain ⟨h0, ws, h1, r⟩ := m.st a _ q
        obtain ⟨⟨b1, b2⟩, k, y, hk, hy, p⟩ := h
        obtain ⟨v, hv, rv⟩ := r.getL hy
        exact ⟨a, ws, i, k, v, rfl, rfl, h1, b1, b2, by rw [← r.length]; exact hk, hv, t _ _ _ _ _ p (Ex.refl _) (m.write h0 ⟨_, upd_same, rps_erase r⟩) rv⟩
      | _ => exact h.elim
  · exact h.elim⟩
end
end Dl

namespace Dl
open PySem L2
/-! ### defs with defaults, methods, classes -/
section
variable {P : Program} {w : World} {K : PySem.W.Frag} {mg : Str → Option Value} {base : Heap}
/-- a def of the text with its defaults dsV -/
structure FnAt (K : PySem.W.Frag) (x qual : Str) (st : Stmt) (dsV : List Value) (f : Addr) (fd : FuncData) : Prop where
  ex : ∃ (oc : Value) (od : Option Addr) (dV kV doc pm : Value) (an : Option Addr) (cdv ct : Value) (osl : Array (Option Value)), fd = PySem.W.fnOf x qual (defArgs st) (defBody st) (defScope st) dV kV doc pm an cdv ct ∧
    K.lookup f = some ⟨oc, od, .func fd, osl⟩ ∧ PySem.W.codeIn K cdv qual = true ∧ ((dsV = [] ∧ dV = .none) ∨ dsV ≠ [] ∧ ∃ (T : Addr) (o : Obj) (n : Nat), dV = .ref T ∧ K.lookup T = some o ∧ o.data = .seq dsV.toArray n)
theorem FnAt.mk0 {x qual : Str} {st : Stmt} {f : Addr} {oc : Value} {od an : Option Addr} {osl : Array (Option Value)} {kV doc pm cdv ct : Value} (l : K.lookup f = some ⟨oc, od, .func (PySem.W.fnOf x qual (defArgs st) (defBody st) (defScope st) .none kV doc pm an cdv ct), osl⟩) (c : PySem.W.codeIn K cdv qual = true) :
    FnAt K x qual st [] f (PySem.W.fnOf x qual (defArgs st) (defBody st) (defScope st) .none kV doc pm an cdv ct) := ⟨⟨oc, od, .none, kV, doc, pm, an, cdv, ct, osl, rfl, l, c, .inl ⟨rfl, rfl⟩⟩⟩
theorem FnAt.mkD {x qual : Str} {st : Stmt} {f T : Addr} {oc tc : Value} {od an td : Option Addr} {osl tsl : Array (Option Value)} {kV doc pm cdv ct : Value} {dsV : List Value} {n : Nat}
    (l : K.lookup f = some ⟨oc, od, .func (PySem.W.fnOf x qual (defArgs st) (defBody st) (defScope st) (.ref T) kV doc pm an cdv ct), osl⟩) (c : PySem.W.codeIn K cdv qual = true) (d : K.lookup T = some ⟨tc, td, .seq dsV.toArray n, tsl⟩) (hne : dsV ≠ []) :
    FnAt K x qual st dsV f (PySem.W.fnOf x qual (defArgs st) (defBody st) (defScope st) (.ref T) kV doc pm an cdv ct) := ⟨⟨oc, od, .ref T, kV, doc, pm, an, cdv, ct, osl, rfl, l, c, .inr ⟨hne, T, _, n, rfl, d, rfl⟩⟩⟩
theorem FnAt.ok {x qual : Str} {st : Stmt} {dsV : List Value} {f : Addr} {fd : FuncData} {N ps : List Str} {k : Nat} {d : DSp} {ws : WS} (F : FnAt K x qual st dsV f fd) (S : FnScope N ps (defScope st)) (len : ∀ ds μ Q, d ds μ Q → ds.length = ps.length)
    (hb : ∀ (cdv : Value) (A : Around) (outer : List PySem.Env) (s : Shared) (H : Hp) (E : XK), Room k (A.deeper (PyProof.Rows.envOfC qual (defScope st) s.heap.objs.size f cdv)) → DSs (cxOf CX0 P w K mg base N qual (defScope st) f cdv A outer s H E).nox (defBody st) ws)
    (ok : ∀ ds μ Q, d ds μ Q → ws { nx := fun _ μ' => ∃ μ2, Sub μ2 μ' ∧ Q .non μ2, rt := Q } (startD N ds) μ) : FnOk P w K mg base CX0 (k + 1) f fd ps (LSp K d) := by
  obtain ⟨oc, od, dV, kV, doc, pm, an, cdv, ct, osl, rfl, lk, hcd, _⟩ := F.ex
  refine fn_of lk hcd S (fun vs H Q E ⟨ds, μ, G, R, r, m, h, t⟩ => by rw [← r.length]; exact len _ _ _ h) fun A outer s H vs Q E hr ⟨ds, μ, G, R, r, m, h, t⟩ => ?_
  exact ⟨_, (hb cdv A outer s H E hr).p.nox, startD N ds, μ, G, _, env_start r, m, ok ds μ R h, ⟨fun ρ' μ' σ' H' G' ⟨μ2, sb, p⟩ e _ m' => t _ _ _ _ _ p e (m'.sub sb) .non, fun d μ' v H' G' p e m' r' => t _ _ _ _ _ p e m' r', fun _ _ _ _ _ p => p.elim, fun _ _ _ _ _ p => p.elim⟩⟩
theorem FnAt.binds0 {x qual : Str} {st : Stmt} {f : Addr} {fd : FuncData} {ps : List Str} (F : FnAt K x qual st [] f fd) (h : ∀ (kV doc pm : Value) (an : Option Addr) (cdv ct : Value) (us : List Value), us.length = ps.length → bindArgs (PySem.W.fnOf x qual (defArgs st) (defBody st) (defScope st) .none kV doc pm an cdv ct) ⟨us, []⟩ = pure (ps.zip us)) : Binds K fd ps [] := by
  obtain ⟨oc, od, dV, kV, doc, pm, an, cdv, ct, osl, rfl, lk, hcd, e⟩ := F.ex
  intro s us X hl
  rw [List.append_nil] at hl ⊢
  rcases e with ⟨_, rfl⟩ | ⟨e, _⟩
  · exact .of_eq (h kV doc pm an cdv ct us hl)
  · exact (e rfl).elim
theorem FnAt.binds {x qual : Str} {st : Stmt} {dsV ds : List Value} {f : Addr} {fd : FuncData} {ps : List Str} (n : Nat) (F : FnAt K x qual st dsV f fd) (hne : dsV ≠ []) (hn : ps.length = n + ds.length) (h : ∀ (T : Addr) (kV doc pm : Value) (an : Option Addr) (cdv ct : Value) (us : List Value), us.length = n →
      ∃ k, bindArgs (PySem.W.fnOf x qual (defArgs st) (defBody st) (defScope st) (.ref T) kV doc pm an cdv ct) ⟨us, []⟩ = (seqItems? (.ref T) >>= k) ∧ k (some dsV.toArray) = pure (ps.zip (us ++ ds))) : Binds K fd ps ds := by
  obtain ⟨oc, od, dV, kV, doc, pm, an, cdv, ct, osl, rfl, lk, hcd, e⟩ := F.ex
  intro s us X hl
  rcases e with ⟨e, _⟩ | ⟨_, T, o, n, rfl, hT2, hd⟩
  · exact (hne e).elim
  · obtain ⟨k, h1, h2⟩ := h T kV doc pm an cdv ct us (by rw [List.length_append] at hl; omega)
    exact PySem.W.binds_K X rfl hT2 hd h1 h2
/-- .. under its name -/
structure DefD (K : PySem.W.Frag) (mg : Str → Option Value) (x : Str) (st : Stmt) (dsV : List Value) : Prop where
  ex : ∃ (f : Addr) (fd : FuncData), FnAt K x x st dsV f fd ∧ mg x = some (.ref f) ∧ PySem.W.keepIn K (.ref f) = true
/-- a method of a class -/
structure MetAt (K : PySem.W.Frag) (C : Addr) (m qual : Str) (st : Stmt) (dsV : List Value) : Prop where
  ex : ∃ (f : Addr) (fd : FuncData), Meth K C m f ∧ FnAt K m qual st dsV f fd
structure ClsAt (K : PySem.W.Frag) (mg : Str → Option Value) (x : Str) (C : Addr) : Prop where
  cl : Cls K C
  g : mg x = some (.ref C)
  mks : PySem.W.makesIn K C = true
  kp : PySem.W.keepIn K (.ref C) = true
structure DMak (P : Program) (w : World) (K : PySem.W.Frag) (mg : Str → Option Value) (base : Heap) (k : Nat) (x : Str) (C : Addr) (d : DSp) (dds : List D) : Prop where
  ex : ∃ (f : Addr) (fd : FuncData) (ps : List Str) (ds : List Value) (dvs : List V), Mk K C f ∧ FnOk P w K mg base CX0 k f fd ps (LSp K d) ∧ mg x = some (.ref C) ∧ Binds K fd ps ds ∧ Vals dvs ds ∧ ∀ G, Rps K G dds dvs
structure DMet (P : Program) (w : World) (K : PySem.W.Frag) (mg : Str → Option Value) (base : Heap) (k : Nat) (C : Addr) (m : Str) (d : DSp) (dds : List D) : Prop where
  ex : ∃ (f : Addr) (fd : FuncData) (ps : List Str) (ds : List Value) (dvs : List V), Cls K C ∧ Meth K C m f ∧ FnOk P w K mg base CX0 k f fd ps (LSp K d) ∧ Binds K fd ps ds ∧ Vals dvs ds ∧ ∀ G, Rps K G dds dvs
end
section
variable {X : Cx} {j k : Nat} {x m : Str} {C : Addr} {d : DSp} {dds : List D} {p pos apos : Pos} {e o : Expr} {es : List Expr} {wa : WA} {wo : WE}
theorem de_mak (c : DMak X.prog X.w X.K X.mg X.base k x C d dds) (hr : Room j X.A) (hk : k + 1 ≤ j) (hg : Gl X x) (ha : DA X (e :: es) wa) (hdb : (x == ("__debug__" : Str)) = false := by decide)
    (he : starEach (e :: es) X.env = (false, eval e X.env) :: starEach es X.env := by rfl) (hpl : (backTo pos (starEach es X.env)).any (·.1) = false := by rfl) : DE X (.Call (.Name x p) (e :: es) [] pos) (wMake C d dds wa) := by
  obtain ⟨f, fd, ps, ds, dvs, M, F, m, b, vd, rd⟩ := c.ex
  exact de_make M F (hr.mono hk) hg m b vd rd ha hdb he hpl
theorem de_mak0 (c : DMak X.prog X.w X.K X.mg X.base k x C d dds) (hr : Room j X.A) (hk : k + 1 ≤ j) (hg : Gl X x) (hdb : (x == ("__debug__" : Str)) = false := by decide) : DE X (.Call (.Name x p) [] [] pos) (wMake C d dds wANil) := by
  obtain ⟨f, fd, ps, ds, dvs, M, F, m, b, vd, rd⟩ := c.ex
  exact de_make0 M F (hr.mono hk) hg m b vd rd hdb
theorem de_makM (c : DMak X.prog X.w X.K X.mg X.base k x C d dds) (hr : Room j X.A) (hk : k + 1 ≤ j) (hg : Gl X x) (ha : DA X (e :: es) wa) (hdb : (x == ("__debug__" : Str)) = false := by decide)
    (he : starEach (e :: es) X.env = (false, eval e X.env) :: starEach es X.env := by rfl) (hpl : (backTo pos (starEach es X.env)).any (·.1) = false := by rfl) : DE X (.Call (.Name x p) (e :: es) [] pos) (wMakeM C d dds wa) := by
  obtain ⟨f, fd, ps, ds, dvs, M, F, m, b, vd, rd⟩ := c.ex
  exact de_makeM M F (hr.mono hk) hg m b vd rd ha hdb he hpl
theorem de_mak0M (c : DMak X.prog X.w X.K X.mg X.base k x C d dds) (hr : Room j X.A) (hk : k + 1 ≤ j) (hg : Gl X x) (hdb : (x == ("__debug__" : Str)) = false := by decide) : DE X (.Call (.Name x p) [] [] pos) (wMakeM C d dds wANil) := by
  obtain ⟨f, fd, ps, ds, dvs, M, F, m, b, vd, rd⟩ := c.ex
  exact de_make0M M F (hr.mono hk) hg m b vd rd hdb
theorem de_met {pl : Sem Bool} (c : DMet X.prog X.w X.K X.mg X.base k C m d dds) (hr : Room j X.A) (hk : k ≤ j) (ho : DE X o wo) (ha : DA X (e :: es) wa)
    (hst : starEach (e :: es) X.env = (false, eval e X.env) :: starEach es X.env := by rfl) (hpl : (backTo pos (starEach es X.env)).any (·.1) = false := by rfl)
    (ht : eval (.Call (.Attribute o m apos) (e :: es) [] pos) X.env = (do
      let ov ← eval o X.env
      standAt apos.atName
      let (f, first) ← holding [ov] (getMethod ov m pl)
      callWith pos f first (backTo pos (starEach (e :: es) X.env)) (backToKw pos (keywordEach [] X.env))) := by rfl) : DE X (.Call (.Attribute o m apos) (e :: es) [] pos) (wMeth C m d dds wo wa) := by
  obtain ⟨f, fd, ps, ds, dvs, hc, hm, F, b, vd, rd⟩ := c.ex
  exact de_meth (pl := pl) ho hc hm F (hr.mono hk) b vd rd ha hst hpl ht
theorem de_met0 {pl : Sem Bool} (c : DMet X.prog X.w X.K X.mg X.base k C m d dds) (hr : Room j X.A) (hk : k ≤ j) (ho : DE X o wo)
    (ht : eval (.Call (.Attribute o m apos) [] [] pos) X.env = (do
      let ov ← eval o X.env
      standAt apos.atName
      let (f, first) ← holding [ov] (getMethod ov m pl)
      callWith pos f first (backTo pos (starEach [] X.env)) (backToKw pos (keywordEach [] X.env))) := by rfl) : DE X (.Call (.Attribute o m apos) [] [] pos) (wMeth C m d dds wo wANil) := by
  obtain ⟨f, fd, ps, ds, dvs, hc, hm, F, b, vd, rd⟩ := c.ex
  exact de_meth0 (pl := pl) ho hc hm F (hr.mono hk) b vd rd ht
/-- what is never reached -/
def wNeverE : WE := fun _ _ _ => False
theorem de_never {e : Expr} : DE X e wNeverE := ⟨⟨fun _ _ _ _ _ _ ⟨_, _, _, _, _, _, h, _⟩ => h.elim⟩⟩
def wNeverT : WT := fun _ _ _ => False
theorem dt_never {e : Expr} : DT X e wNeverT := ⟨⟨fun _ _ _ _ _ _ ⟨_, _, _, _, _, _, h, _⟩ => h.elim⟩⟩
/-- a class by its name -/
theorem de_cls {x : Str} {C : Addr} {p : Pos} (c : ClsAt X.K X.mg x C) (hg : Gl X x := by rfl) (hd : (x == ("__debug__" : Str)) = false := by decide) : DE X (.Name x p) (wC (.ref C)) := de_c (pe_glob hg c.g (show RelV (.ref C) (.ref C) from rfl) hd) fun _ => .ref C
/-- a tuple of texts that the top holds -/
theorem de_gt {x : Str} {ys : List Str} {p : Pos} (h : ∃ (T : Addr) (o : Obj) (n : Nat) (us : List Value), X.mg x = some (.ref T) ∧ X.K.lookup T = some o ∧ o.cls = .type "tuple" ∧ o.data = .seq us.toArray n ∧ Vals (ys.map V.str) us ∧ us.length ≤ sizeLine) (hg : Gl X x := by rfl) (hd : (x == ("__debug__" : Str)) = false := by decide) :
    DE X (.Name x p) (wC (.tup (ys.map .str))) := by
  obtain ⟨T, o, n, us, hm, hT, hc, hda, hv, hz⟩ := h
  have rps : ∀ (G : Hp) (ys : List Str), Rps X.K G (ys.map D.str) (ys.map V.str) := fun G ys => by
    induction ys with
    | nil => exact .nil
    | cons y r ih => exact .cons (.str y) ih
  exact de_c (pe_glob hg hm (show RelV (.ref T) (.ref T) from rfl) hd) fun G => .tup (.inr ⟨o, us.toArray, n, hT, hc, hda, by simpa using hz, by simpa using hv⟩) (rps G ys)
end
/-! ### each under its name, callable with so many arguments -/
section
variable {P : Program} {w : World} {K : PySem.W.Frag} {mg : Str → Option Value} {base : Heap}
theorem DefD.cal {x : Str} {st : Stmt} {dsV ds : List Value} {dvs : List V} {dds : List D} {N ps : List Str} {k : Nat} {d : DSp} {ws : WS} (D : DefD K mg x st dsV) (S : FnScope N ps (defScope st)) (len : ∀ ds μ Q, d ds μ Q → ds.length = ps.length)
    (hb : ∀ {f : Addr} (cdv : Value) (A : Around) (outer : List PySem.Env) (s : Shared) (H : Hp) (E : XK), Room k (A.deeper (PyProof.Rows.envOfC x (defScope st) s.heap.objs.size f cdv)) → DSs (cxOf CX0 P w K mg base N x (defScope st) f cdv A outer s H E).nox (defBody st) ws)
    (ok : ∀ ds μ Q, d ds μ Q → ws { nx := fun _ μ' => ∃ μ2, Sub μ2 μ' ∧ Q .non μ2, rt := Q } (startD N ds) μ) (b : ∀ {f fd}, FnAt K x x st dsV f fd → Binds K fd ps ds) (vd : Vals dvs ds) (rd : ∀ G, Rps K G dds dvs) : DCal P w K mg base (k + 1) x d dds := by
  obtain ⟨f, fd, F, m, kp⟩ := D.ex
  exact ⟨f, fd, ps, ds, dvs, F.ok S len (hb (f := f)) ok, m, kp, b F, vd, rd⟩
theorem MetAt.met {C : Addr} {m qual : Str} {st : Stmt} {dsV ds : List Value} {dvs : List V} {dds : List D} {N ps : List Str} {k : Nat} {d : DSp} {ws : WS} (D : MetAt K C m qual st dsV) (c : Cls K C) (S : FnScope N ps (defScope st)) (len : ∀ ds μ Q, d ds μ Q → ds.length = ps.length)
    (hb : ∀ {f : Addr} (cdv : Value) (A : Around) (outer : List PySem.Env) (s : Shared) (H : Hp) (E : XK), Room k (A.deeper (PyProof.Rows.envOfC qual (defScope st) s.heap.objs.size f cdv)) → DSs (cxOf CX0 P w K mg base N qual (defScope st) f cdv A outer s H E).nox (defBody st) ws)
    (ok : ∀ ds μ Q, d ds μ Q → ws { nx := fun _ μ' => ∃ μ2, Sub μ2 μ' ∧ Q .non μ2, rt := Q } (startD N ds) μ) (b : ∀ {f fd}, FnAt K m qual st dsV f fd → Binds K fd ps ds) (vd : Vals dvs ds) (rd : ∀ G, Rps K G dds dvs) : DMet P w K mg base (k + 1) C m d dds := by
  obtain ⟨f, fd, me, F⟩ := D.ex
  exact ⟨f, fd, ps, ds, dvs, c, me, F.ok S len (hb (f := f)) ok, b F, vd, rd⟩
theorem MetAt.mak {x : Str} {C : Addr} {qual : Str} {st : Stmt} {dsV ds : List Value} {dvs : List V} {dds : List D} {N ps : List Str} {k : Nat} {d : DSp} {ws : WS} (D : MetAt K C "__init__" qual st dsV) (c : ClsAt K mg x C) (S : FnScope N ps (defScope st)) (len : ∀ ds μ Q, d ds μ Q → ds.length = ps.length)
    (hb : ∀ {f : Addr} (cdv : Value) (A : Around) (outer : List PySem.Env) (s : Shared) (H : Hp) (E : XK), Room k (A.deeper (PyProof.Rows.envOfC qual (defScope st) s.heap.objs.size f cdv)) → DSs (cxOf CX0 P w K mg base N qual (defScope st) f cdv A outer s H E).nox (defBody st) ws)
    (ok : ∀ ds μ Q, d ds μ Q → ws { nx := fun _ μ' => ∃ μ2, Sub μ2 μ' ∧ Q .non μ2, rt := Q } (startD N ds) μ) (b : ∀ {f fd}, FnAt K "__init__" qual st dsV f fd → Binds K fd ps ds) (vd : Vals dvs ds) (rd : ∀ G, Rps K G dds dvs) : DMak P w K mg base (k + 1) x C d dds := by
  obtain ⟨f, fd, me, F⟩ := D.ex
  exact ⟨f, fd, ps, ds, dvs, ⟨c.mks, me.at_, me.fn, c.kp⟩, F.ok S len (hb (f := f)) ok, c.g, b F, vd, rd⟩
end
end Dl

namespace Dl
open PySem L2
section
variable {X : Cx}
/-! ### {k: v for ..}, made to change -/
def dcBody (its : List D) (g : WG) (tt : WT) (wk wv : WE) (vs : List Nat) (fin : Addr → List (Key × D) → Store → Prop) (ρ : Env) (μ1 : Store) : Prop := its.length ≤ sizeLine ∧ ∀ L, μ1 L = none → ∃ I : Nat → List (Key × D) → Store → Prop, I 0 [] (setS μ1 L (.dct [])) ∧
  (∀ i d acc μ', its[i]? = some d → μ' L = some (.dct acc) → I i acc μ' → g d (wipeE ρ vs) μ' fun ρ2 μ2 => tt ρ2 μ2 fun b μ3 => if b = true then wk ρ2 μ3 fun x μ4 => wv ρ2 μ4 fun y μ5 => ∃ k, keyD x = some k ∧ μ5 L = some (.dct acc) ∧ acc.length < sizeLine ∧ I (i + 1) (putD acc k y) (setS μ5 L (.dct (putD acc k y)))
    else μ3 L = some (.dct acc) ∧ I (i + 1) acc μ3) ∧
  ∀ acc μ', μ' L = some (.dct acc) → I its.length acc μ' → fin L acc μ'
def wDcM (wi : WI) (g : WG) (tt : WT) (wk wv : WE) (vs : List Nat) : WE := fun ρ μ P => wi ρ μ fun its μ1 => dcBody its g tt wk wv vs (fun L _ μ' => P (.ref L) μ') ρ μ1
theorem ldc {K : PySem.W.Frag} {wi : WI} {g : TG} {wg : WG} {tt : WT} {wk wv : WE} {vs : List Nat} {fin : Addr → List (Key × D) → Store → Prop} {σ : L2.St} {H : Hp} {Q : VK} {ρ : Env} {μ : Store} {G : Hp} (hg : GPat K vs g wg) (he : EnvR K G ρ σ) (hm : Sm K μ G H)
    (hw : wi ρ μ fun its μ1 => dcBody its wg tt wk wv vs fin ρ μ1) (hf : ∀ L acc μ' H' G', fin L acc μ' → μ' L = some (.dct acc) → Ex G G' → Sm K μ' G' H' → Q (.ref L) H') : tDc (LI K wi) g (LT K tt) (LE K wk) (LE K wv) vs σ H Q := by
  refine ⟨ρ, μ, G, _, he, hm, hw, ?_⟩
  rintro its μ1 H1 G1 J ⟨hz, hI⟩ e1 m1 hJ L hL
  obtain ⟨I, h0, hturn, hend⟩ := hI L (m1.nn hL)
  refine ⟨fun i m H' => m = its.length - i ∧ i ≤ its.length ∧ ∃ acc μ' G', Ex G1 G' ∧ Sm K μ' G' H' ∧ μ' L = some (.dct acc) ∧ I i acc μ',
    ⟨its.length, by simp, Nat.zero_le _, [], _, G1, Ex.refl _, m1.write (c := .dct []) (m1.ex.nn hL) ⟨[], upd_same, rfl, .nil⟩, setS_same, h0⟩, ?_⟩
  rintro i m H' ⟨rfl, hi, acc, μ', G', e', hm', uD, hI⟩
  obtain ⟨wgo, wstop⟩ := hJ i H' G' μ' e' hm'
  by_cases hlt : i < its.length
  · obtain ⟨go, yl⟩ := wgo hlt
    refine .inr ⟨go, fun H2 => ∃ acc2 μ2 G2, Ex G1 G2 ∧ Sm K μ2 G2 H2 ∧ μ2 L = some (.dct acc2) ∧ I (i + 1) acc2 μ2, fun H2 ⟨a, b, c, x1, x2, x3, x5⟩ => ⟨its.length - (i + 1), by omega, rfl, hlt, a, b, c, x1, x2, x3, x5⟩, fun x H2 hy => ?_⟩
    obtain ⟨G3, d, hd, e3, m3, r3⟩ := yl x H2 hy
    have heW : EnvR K G3 (wipeE ρ vs) (L2.wipe σ vs) := ((((he.mono e1).mono e').mono e3)).wipe vs
    refine hg heW m3 r3 (hturn i d acc μ' hd uD hI) fun ρ4 μ4 σ4 H4 G4 p4 e4 he4 hm4 q4 => ⟨q4.trans (wipe_wipe fun _ h => h), ρ4, μ4, G4, _, he4, hm4, p4, fun b μ5 H5 G5 p5 e5 m5 => ?_⟩
    have eG : Ex G1 G5 := ((e'.trans e3).trans e4).trans e5
    cases b with
    | true =>
      rw [if_pos rfl] at p5
      refine iteT ?_
      refine ⟨ρ4, μ5, G5, _, he4.mono e5, m5, p5, fun x6 μ6 v6 H6 G6 p6 e6 m6 r6 => ⟨ρ4, μ6, G6, _, (he4.mono e5).mono e6, m6, p6, fun y μ7 v7 H7 G7 p7 e7 m7 r7 => ?_⟩⟩
      obtain ⟨k, hk, u7, hzl, hI7⟩ := p7
      obtain ⟨h0, kvs, h1, ek, rr⟩ := m7.st L _ u7
      obtain ⟨i1, i2⟩ := putD_keys (k := k) r7 ek rr
      exact ⟨kvs, k, keyD_ok hk (r6.mono e7), h1, by rw [len_keys ek]; exact hzl, putD acc k y, _, G7, (eG.trans e6).trans e7, m7.write (c := .dct (putD acc k y)) h0 ⟨_, upd_same, i1, i2⟩, setS_same, hI7⟩
    | false =>
      rw [if_neg Bool.false_ne_true] at p5
      refine iteF ?_
      exact ⟨acc, μ5, G5, eG, m5, p5.1, p5.2⟩
  · have ei : i = its.length := by omega
    subst ei
    exact .inl ⟨wstop (Nat.le_refl _), hf _ _ _ _ _ (hend acc μ' uD hI) uD (e1.trans e') hm'⟩
theorem de_dcM {kx vx tg iter : Expr} {ifs : List Expr} {scope : Scope} {own : List (Str × Nat)} {pos : Pos} {wi : WI} {g : TG} {wg : WG} {tt : WT} {wk wv : WE} (hc : X.calm = true) (hN : X.N.Nodup) (hi : DI X tg iter wi) (ok : BlkOk X.N X.env.scope scope own) (hp : GPat X.K (own.map (·.2)) g wg)
    (hg : ∀ (s : Shared) (H : Hp) (C : Addr) (cl : List (Str × Addr)) (fp : List Addr), PG (X.blk s H scope (compEnvC scope cl C X.env) fp) tg g) (ht : ∀ (s : Shared) (H : Hp) (C : Addr) (cl : List (Str × Addr)) (fp : List Addr), DTs (X.blk s H scope (compEnvC scope cl C X.env) fp) ifs tt)
    (hk : ∀ (s : Shared) (H : Hp) (C : Addr) (cl : List (Str × Addr)) (fp : List Addr), DE (X.blk s H scope (compEnvC scope cl C X.env) fp) kx wk)
    (he : ∀ (s : Shared) (H : Hp) (C : Addr) (cl : List (Str × Addr)) (fp : List Addr), DE (X.blk s H scope (compEnvC scope cl C X.env) fp) vx wv) (hs : ∀ x, foldedSetIterable iter X.env x = pure x := by intro _; rfl) :
    DE X (.DictComp kx vx [⟨tg, iter, ifs, 0⟩] scope pos) (wDcM wi wg tt wk wv (own.map (·.2))) :=
  ⟨wkE (pe_dc hc hN hi.p ok hg (fun s H C cl fp => (ht s H C cl fp).p) (fun s H C cl fp => (hk s H C cl fp).p) (fun s H C cl fp => (he s H C cl fp).p) hs) fun σ H Q ⟨ρ, μ, G, P, hr, hm, hw, htl⟩ => ldc hp hr hm hw fun L acc μ' H' G' f u e m => htl _ _ _ _ _ f e m (.ref L)⟩
/-! ### over the keys of a dict that is only looked through -/
def tLockR (t : TE) : TE := fun σ H Q => t σ H fun v H1 => ∃ d kvs, v = .ref d ∧ H1 d = some (.dK kvs) ∧ ∀ od, Q v (upd H1 d (.frz od (.dK kvs)))
theorem pe_lockR {e : Expr} {t : TE} (h : PE X e t) : PE X e (tLockR t) := by
  refine ⟨fun pins s σ H Q I hw => thn (h.run pins s σ H _ I hw) fun v s1 ⟨x, H1, I1, r, d, kvs, ex, hd, q⟩ => ?_⟩
  obtain ⟨od, I2⟩ := I1.lock hd trivial
  exact ⟨x, _, I2, r, q od⟩
def keyV : Key → D
  | .inl i => .int i
  | .inr s => .str s
theorem keyV_ok {K : PySem.W.Frag} {G : Hp} : ∀ k : Key, Rp K G (keyV k) (kV k)
  | .inl i => .int i
  | .inr s => .str s
def wiKeysF (we : WE) : WI := fun ρ μ P => we ρ μ fun d μ1 => match d with
  | .ref a => (match μ1 a with | some (.dct kvs) => P (kvs.map fun kv => keyV kv.1) (delS μ1 a) | _ => False)
  | _ => False
theorem walk_k {K : PySem.W.Frag} {G : Hp} {d : Addr} {o : Obj} {kvs : List (Key × V)} {ds : List (Key × D)} (h : G d = some (.frz o (.dK kvs))) (e : kvs.map (·.1) = ds.map (·.1)) : Walk K G (Itk d o kvs) (ds.map fun kv => keyV kv.1) := fun i H G2 μ e2 m => by
  have hd := (e2.trans m.ex) _ _ h
  have hl : (ds.map fun kv => keyV kv.1).length = kvs.length := by rw [List.length_map]; exact (len_keys e).symm
  rw [hl]
  refine ⟨fun hi => ⟨⟨hd, hi⟩, fun x H' y => ?_⟩, fun hi => ⟨hd, hi⟩⟩
  obtain ⟨rfl, k, v, hk, rfl⟩ := y
  refine ⟨G2, keyV k, ?_, Ex.refl _, m, keyV_ok k⟩
  have h1 : (kvs.map (·.1))[i]? = some k := by rw [List.getElem?_map, hk]; rfl
  rw [e, List.getElem?_map] at h1
  rw [List.getElem?_map]
  cases q : ds[i]? with
  | none => rw [q] at h1; cases h1
  | some kv => rw [q] at h1; cases h1; rfl
theorem di_keysF {tg e : Expr} {we : WE} (h : DE X e we) : DI X tg e (wiKeysF we) :=
  ⟨wkI (pi_keys (pe_lockR h.p)) fun σ H R ⟨ρ, μ, G, P, he, hm, hw, ht⟩ => ⟨ρ, μ, G, _, he, hm, hw, fun x μ1 v H1 G1 p e1 m r => by
    split at p
    · rename_i a
      cases r
      split at p
      · rename_i kvs q
        obtain ⟨h0, vs, h1, ek, rr⟩ := m.st a _ q
        refine ⟨a, vs, rfl, h1, fun od => ⟨a, od, rfl, .inl ⟨vs, upd_same, ?_⟩⟩⟩
        have m2 : Sm X.K (delS μ1 a) (upd G1 a (.frz od (.dK vs))) (upd H1 a (.frz od (.dK vs))) := by
          refine ⟨m.ex.upd2 a _, fun b c hb => ?_⟩
          have hne : b ≠ a := by rintro rfl; rw [delS_same] at hb; cases hb
          rw [delS_ne hne] at hb
          obtain ⟨k1, k2⟩ := m.st b c hb
          exact ⟨by rw [upd_ne hne]; exact k1, k2.mono (Ex.new h0) (upd_ne hne)⟩
        exact ht _ _ _ _ _ p (e1.trans (Ex.new h0)) m2 (walk_k upd_same ek)
      · exact p.elim
    · exact p.elim⟩⟩
end
end Dl
namespace Dl
open PySem L2
section
variable {X : Cx}
/-! ### isinstance(x, (list, tuple)) -/
def lt2 : List D := [.ty "list", .ty "tuple"]
def lt2V : List V := [.ty "list", .ty "tuple"]
def lt2U : List Value := [.type "list", .type "tuple"]
theorem lt2_ok {K : PySem.W.Frag} {G : Hp} {xs : List V} (r : Rps K G lt2 xs) : xs = lt2V := by
  cases r with | cons r1 r2 =>
  cases r2 with | cons r2 r3 =>
  cases r1
  cases r2
  cases r3
  rfl
theorem lt2_vals {us : List Value} (r : Vals lt2V us) : us = lt2U := by
  obtain ⟨u1, u2, rfl, r1, r2⟩ := vals2 r
  have e1 : u1 = Value.type "list" := r1
  have e2 : u2 = Value.type "tuple" := r2
  rw [e1, e2]
  rfl
theorem kitTwo (K : PySem.W.Frag) (m : String) (hm : m ∈ ["NoneType", "bool", "int", "str", "tuple", "list", "dict"]) : PySem.W.kitAny K (.type m) lt2U = some (isTy m "list" || isTy m "tuple") := by
  have h1 := tyTab K "list" m (by simp) hm
  have h2 := tyTab K "tuple" m (by simp) hm
  unfold lt2U PySem.W.kitAny
  rw [h1]
  generalize isTy m "list" = a
  generalize isTy m "tuple" = b at h2 ⊢
  cases a
  · dsimp only
    unfold PySem.W.kitAny
    rw [h2]
    cases b <;> rfl
  · rfl
def oIsiS : OC := fun ds μ P => ∃ d ts, ds = [d, .tup ts] ∧ ts = lt2 ∧ ∃ m, tyD μ d = some m ∧ P (.bl (isTy m "list" || isTy m "tuple")) μ
theorem cs_isiS : CallS X (.builtin "isinstance") oIsiS := by
  refine ⟨_, CallR_or call_isiT call_isiK, ?_⟩
  intro ds μ P G H vs Q h m r t
  obtain ⟨d, ts, rfl, rfl, n, hn, p⟩ := h
  cases r with | cons r1 r2 =>
  cases r2 with | cons r2 r3 =>
  cases r3
  cases r2 with | tup hx r2 =>
  have hxs := lt2_ok r2
  subst hxs
  rcases hx with hx | ⟨o, its, k, h1, h2, h3, h4, h5⟩
  · exact .inl ⟨_, _, lt2V, _, lt2U, _, rfl, m.ex _ _ hx, .cons (.ty _) (.cons (.ty _) .nil), tyD_ok hn m r1, kitTwo _ _ (tyD_mem hn), t _ _ _ _ _ p (Ex.refl _) m (.bl _)⟩
  · have hus := lt2_vals h5
    obtain ⟨oc, od, dat, sl⟩ := o
    have e1 : oc = .type "tuple" := h2
    have e2 : dat = .seq its k := h3
    subst e1
    subst e2
    have e3 : its = lt2U.toArray := by rw [← hus, Array.toArray_toList]
    rw [e3] at h1
    exact .inr ⟨_, _, od, lt2U, k, sl, _, _, rfl, h1, tyD_ok hn m r1, kitTwo _ _ (tyD_mem hn), t _ _ _ _ _ p (Ex.refl _) m (.bl _)⟩
end
end Dl

namespace Dl
open PySem L2 PySem.W PySem.Calls PyProof.Rows
section
variable {prog : Program} {w : World} {A : Around} {E : Value → Shared → Prop} {s : Shared} {K : Frag} {x C : Addr} {ox : Obj} {od : Option Obj} {name : Str} {T id : String}
theorem ifBoundB {M : Model} {args : List Value} {Q : Option Value → Shared → Prop} (S : Slot T name id) (X : K.In s.heap) (I : InstAt s.heap x ox C od) (hs : findIn K (.ref C) name = some (some (.builtin id)))
    (h : wpAny M A (call (.builtin id) (.ref x :: args)) (fun v => Q (some v)) E s) : wpAny M A (callSpecialIfBound? (.ref x) name args) Q E s := by
  simp only [callSpecialIfBound?, bindSpecialIfBound?]
  refine wpAny_holding (wpAny_bind (wpAny_bind (wpAny_bind (I.type.here ((looks_findIn X hs).here ?_)))))
  simp only [S.bind]
  refine wpAny_bind (wpAny_askSetting (wpAny_ite ?_))
  have fin : wpAny M A (call (.builtin id) ([.ref x] ++ args) >>= fun v => pure (some v)) Q E s :=
    wpAny_bind (wpAny_mono h (fun v s' h' => wpAny_pure h') fun _ _ h' => h')
  split
  · exact wpAny_bind (wpAny_pure (wpAny_pure fin))
  · exact wpAny_tryCatch (wpAny_bind (wpAny_pure (wpAny_pure fin)))
theorem check_ne {M : Model} {b : Value} {Q : Unit → Shared → Prop} (X : K.In s.heap) (I : InstAt s.heap x ox C od) (hob : subIn K (.ref C) (.type "object") = some true) (hq : Q () s) :
    wpAny M A (checkBuiltinCall "object.__ne__" ⟨[.ref x, b], []⟩) Q E s := by
  simp only [checkBuiltinCall, F.cmpKind_ne, F.cmpSplit_ne]
  refine wpAny_bind ?_
  unfold isInstance
  refine wpAny_bind (I.type.here ((looks_subIn X hob).here ?_))
  have ha := F.cmpArgs_ne (.ref x) b
  cases hsig : Manifest.signature? "object.__ne__" with
  | none => exact wpAny_pure hq
  | some sig =>
    simp only [argsOk, hsig] at ha
    have h2 : Bind.checkArgs "object.__ne__" sig ⟨[.ref x, b], []⟩ = pure () := ha
    show wpAny M A (Bind.checkArgs "object.__ne__" sig ⟨[.ref x, b], []⟩) Q E _
    rw [h2]; exact wpAny_pure hq
theorem objNe_K {f : Addr} {b : Value} (X : K.In s.heap) (I : InstAt s.heap x ox C od) (hu : A.units < cLine) (hs : findIn K (.ref C) "__eq__" = some (some (.ref f))) (hf : isFn K (.ref f) = true) {Q : Fin → Shared → Prop}
    (hcall : wpAny (model prog w) A (call (.ref f) [.ref x, b]) (fun v s' => ∃ c, v = .bool c ∧ Q (.done (.ret (.bool (!c)))) s') E s) :
    wpAny (model prog w) A (Builtin.«object.__ne__» ⟨[.ref x, b], []⟩) Q E s := by
  unfold Builtin.«object.__ne__»
  repeat (first
    | with_reducible refine wpAny_cRoomFor hu ?_
    | (refine wpAny_bind (m := callSpecialIfBound? (.ref x) (Str.ofString "__eq__") [b])
        (ifBound_K X I hs hf (wpAny_mono hcall (fun r s' hr => by
          obtain ⟨c, rfl, hq⟩ := hr
          repeat (first | exact hq | exact wpAny_pure hq | exact wpAny_truthy_bool hq | (refine wpAny_bind (m := truthy (.bool _)) (wpAny_truthy_bool ?_)) | wp_step)) fun _ _ e => e)))
    | wp_step)
theorem ne_K {f : Addr} {b tb : Value} {Q : Value → Shared → Prop} (S : Slot T "__ne__" "object.__ne__") (hu : A.units + 1 < cLine) (X : K.In s.heap) (I : InstAt s.heap x ox C od) (hb : Looks (model prog w) s.heap (typeOf b) tb) (hn : notFirst K C tb = true)
    (hsn : findIn K (.ref C) "__ne__" = some (some (.builtin "object.__ne__"))) (hob : subIn K (.ref C) (.type "object") = some true) (hs : findIn K (.ref C) "__eq__" = some (some (.ref f))) (hf : isFn K (.ref f) = true)
    (h : wpAny (model prog w) A.in1 (call (.ref f) [.ref x, b]) (fun v s' => ∃ c, v = .bool c ∧ Q (.bool (!c)) s') E s) : wpAny (model prog w) A (richCompare .NotEq (.ref x) b) Q E s := by
  have one : wpAny (model prog w) A (tryCompare (.ref x) (cmpInfo .NotEq).2.1 b) (fun r s' => ∃ v, r = some v ∧ Q v s') E s := by
    rw [cmpInfo_NotEq]
    simp only [tryCompare]
    refine wpAny_bind (ifBoundB S X I hsn (wpAny_call (codeAny_call_builtin S.plain F.cmpEntry_ne (check_ne X I hob (objNe_K (A := A.in1) X I hu hs hf (wpAny_mono h (fun v s' hv => ?_) fun _ _ e => e))))))
    obtain ⟨c, rfl, hq⟩ := hv
    first | exact ⟨c, rfl, wpAny_pure ⟨_, rfl, hq⟩⟩ | exact ⟨c, rfl, wpAny_pure (wpAny_pure ⟨_, rfl, hq⟩)⟩ | exact ⟨c, rfl, ⟨_, rfl, hq⟩⟩
  unfold richCompare
  simp only [oneThing_ref]
  refine wpAny_holding (wpAny_bind (wpAny_cRoomFor (Nat.lt_of_succ_lt hu) ?_))
  refine wpAny_bind (I.type.here (wpAny_bind (hb.here ?_)))
  split
  · rename_i q
    have e : subIn K tb (.ref C) = some false := by
      rcases Bool.or_eq_true_iff.mp hn with e | e
      · rw [beq_iff_eq.mp e] at q; simp at q
      · exact beq_iff_eq.mp e
    refine wpAny_bind ((looks_subIn X e).here ?_)
    simp only [Bool.false_eq_true, if_false]
    refine wpAny_bind (wpAny_mono one (fun r s' z => ?_) fun _ _ e => e)
    obtain ⟨v, rfl, hq⟩ := z
    exact wpAny_pure hq
  · refine wpAny_bind (wpAny_pure ?_)
    simp only [Bool.false_eq_true, if_false]
    refine wpAny_bind (wpAny_mono one (fun r s' z => ?_) fun _ _ e => e)
    obtain ⟨v, rfl, hq⟩ := z
    exact wpAny_pure hq
end
end Dl

namespace Dl
open PySem L2
section
variable {X : Cx}
/-! ### == of two instances whose class tells it -/
theorem op_own {k : Nat} {C f : Addr} {fd : FuncData} {ps : List Str} {sp : Sp} (F : FnOk X.prog X.w X.K X.mg X.base CX0 k f fd ps sp) (hr : Room k X.A)
    (hs : PySem.W.findIn X.K (.ref C) "__eq__" = some (some (.ref f))) (hf : PySem.W.isFn X.K (.ref f) = true) (hb : Binds X.K fd ps []) :
    OpR X (compareOp .Eq) (fun x y H Q => ∃ a b dx dy fs gs, x = .ref a ∧ y = .ref b ∧ H a = some (.ins C dx fs) ∧ H b = some (.ins C dy gs) ∧ sp [.ref a, .ref b] H (fun v H' => (∃ b, v = .bl b) ∧ Q v H') E0) := by
  intro pins s σ H x y v u Q I rx ry d
  obtain ⟨a, b, dx, dy, fs, gs, rfl, rfl, ha, hb', hsp⟩ := d
  cases rx
  cases ry
  obtain ⟨mA, J, _⟩ := ins_get I.hok ha
  obtain ⟨mB, J', _⟩ := ins_get I.hok hb'
  obtain ⟨od, J, _⟩ := J.look
  obtain ⟨od', J', _⟩ := J'.look
  obtain ⟨m, hF⟩ := I.fr
  show wpAny (model X.prog X.w) X.A (richCompare .Eq _ _) (EP X pins σ Q) X.xe s
  refine PySem.W.cmp_K (op := .Eq) (tb := .ref C) hr.units0 hF I.ok.mod.kin J J'.type (by simp [PySem.W.notFirst]) hs hf ?_
  have hl := F.len _ _ _ _ hsp
  have r2 : Vals [V.ref a, V.ref b] [Value.ref a, Value.ref b] := .cons rfl (.cons rfl .nil)
  refine wpAny_call (codeAny_mono (F.run X.A X.stack s H ⟨[.ref a, .ref b], []⟩ [.ref a, .ref b] [.ref a, .ref b] _ E0 hr I.env0 (by
    have := hb s [.ref a, .ref b] I.kIn (by simpa using hl)
    simpa using this) r2 hsp) fun r s' hq => ?_)
  cases r with
  | error e => exact pass0 pins σ H s e s' I hq
  | ok fl =>
    cases fl with
    | ret w =>
      obtain ⟨z, H', I', rz, ⟨bb, ez⟩, q⟩ := I.after hq
      subst ez
      cases rz
      exact ⟨.bl bb, H', I', rfl, q⟩
    | next => exact False.elim hq
    | brk => exact False.elim hq
    | cont => exact False.elim hq
def oOwn (C : Addr) (d : DSp) : OD := fun x y μ P => (∃ fs, insD μ x = some (C, fs)) ∧ (∃ gs, insD μ y = some (C, gs)) ∧ d [x, y] μ fun r μ' => (∃ b, r = .bl b) ∧ P r μ'
theorem os_own {k j : Nat} {C : Addr} {d : DSp} (c : DMet X.prog X.w X.K X.mg X.base k C "__eq__" d []) (hr : Room j X.A) (hk : k ≤ j) : OpS X (compareOp .Eq) (oOwn C d) := by
  obtain ⟨f, fd, ps, ds, dvs, hc, hm, F, b, vd, rd⟩ := c.ex
  have e1 : dvs = [] := by
    cases rd (fun _ => none)
    rfl
  subst e1
  cases vd
  refine ⟨_, op_own F (hr.mono hk) hm.at_ hm.fn b, ?_⟩
  intro x y μ P G H v u Q h m rx ry t
  obtain ⟨⟨fs, h1⟩, ⟨gs, h2⟩, p⟩ := h
  obtain ⟨a, dx, xs, rfl, q1, _⟩ := insD_ok h1 m rx
  obtain ⟨a2, dy, ys, rfl, q2, _⟩ := insD_ok h2 m ry
  refine ⟨a, a2, dx, dy, xs, ys, rfl, rfl, q1, q2, [x, y], μ, G, _, .cons rx (.cons ry .nil), m, p, ?_⟩
  rintro r μ' w H' G' ⟨⟨bb, rfl⟩, pr⟩ e m' rr
  have e2 : w = .bl bb := by cases rr; rfl
  exact ⟨⟨bb, e2⟩, t _ _ _ _ _ pr e m' rr⟩
end
end Dl

namespace Dl
open PySem L2
section
variable {X : Cx}
theorem op_ownNe {k : Nat} {C f : Addr} {fd : FuncData} {ps : List Str} {sp : Sp} {T : String} (S : Slot T "__ne__" "object.__ne__") (F : FnOk X.prog X.w X.K X.mg X.base CX0 k f fd ps sp) (hr : Room (k + 1) X.A)
    (hsn : PySem.W.findIn X.K (.ref C) "__ne__" = some (some (.builtin "object.__ne__"))) (hob : PySem.W.subIn X.K (.ref C) (.type "object") = some true)
    (hs : PySem.W.findIn X.K (.ref C) "__eq__" = some (some (.ref f))) (hf : PySem.W.isFn X.K (.ref f) = true) (hb : Binds X.K fd ps []) :
    OpR X (compareOp .NotEq) (fun x y H Q => ∃ a b dx dy fs gs, x = .ref a ∧ y = .ref b ∧ H a = some (.ins C dx fs) ∧ H b = some (.ins C dy gs) ∧ sp [.ref a, .ref b] H (fun v H' => ∃ b, v = .bl b ∧ Q (.bl (!b)) H') E0) := by
  intro pins s σ H x y v u Q I rx ry d
  obtain ⟨a, b, dx, dy, fs, gs, rfl, rfl, ha, hb', hsp⟩ := d
  cases rx
  cases ry
  obtain ⟨mA, J, _⟩ := ins_get I.hok ha
  obtain ⟨mB, J', _⟩ := ins_get I.hok hb'
  obtain ⟨od, J, _⟩ := J.look
  obtain ⟨od', J', _⟩ := J'.look
  have hr1 := hr.in1
  show wpAny (model X.prog X.w) X.A (richCompare .NotEq _ _) (EP X pins σ Q) X.xe s
  refine ne_K S (tb := .ref C) (by have := hr.un; omega) I.kIn J J'.type (by simp [PySem.W.notFirst]) hsn hob hs hf ?_
  have hl := F.len _ _ _ _ hsp
  have r2 : Vals [V.ref a, V.ref b] [Value.ref a, Value.ref b] := .cons rfl (.cons rfl .nil)
  have e := I.env0
  have e0 : Env0 X.prog X.w X.K X.mg X.base X.A.in1 X.stack s H := ⟨e.frames, e.mod, e.bs, e.bsz, e.funs, e.frf, e.hok, e.bare⟩
  refine wpAny_call (codeAny_mono (F.run X.A.in1 X.stack s H ⟨[.ref a, .ref b], []⟩ [.ref a, .ref b] [.ref a, .ref b] _ E0 hr1 e0 (by
    have := hb s [.ref a, .ref b] I.kIn (by simpa using hl)
    simpa using this) r2 hsp) fun r s' hq => ?_)
  cases r with
  | error e => exact pass0 pins σ H s e s' I hq
  | ok fl =>
    cases fl with
    | ret w =>
      obtain ⟨z, H', I', rz, bb, ez, q⟩ := I.after hq
      subst ez
      cases rz
      exact ⟨bb, rfl, .bl (!bb), H', I', rfl, q⟩
    | next => exact False.elim hq
    | brk => exact False.elim hq
    | cont => exact False.elim hq
def oOwnNe (C : Addr) (d : DSp) : OD := fun x y μ P => (∃ fs, insD μ x = some (C, fs)) ∧ (∃ gs, insD μ y = some (C, gs)) ∧ d [x, y] μ fun r μ' => ∃ b, r = .bl b ∧ P (.bl (!b)) μ'
theorem os_ownNe {k j : Nat} {C : Addr} {d : DSp} {T : String} (S : Slot T "__ne__" "object.__ne__") (hsn : PySem.W.findIn X.K (.ref C) "__ne__" = some (some (.builtin "object.__ne__"))) (hob : PySem.W.subIn X.K (.ref C) (.type "object") = some true)
    (c : DMet X.prog X.w X.K X.mg X.base k C "__eq__" d []) (hr : Room j X.A) (hk : k + 1 ≤ j) : OpS X (compareOp .NotEq) (oOwnNe C d) := by
  obtain ⟨f, fd, ps, ds, dvs, hc, hm, F, b, vd, rd⟩ := c.ex
  have e1 : dvs = [] := by
    cases rd (fun _ => none)
    rfl
  subst e1
  cases vd
  refine ⟨_, op_ownNe S F (hr.mono hk) hsn hob hm.at_ hm.fn b, ?_⟩
  intro x y μ P G H v u Q h m rx ry t
  obtain ⟨⟨fs, h1⟩, ⟨gs, h2⟩, p⟩ := h
  obtain ⟨a, dx, xs, rfl, q1, _⟩ := insD_ok h1 m rx
  obtain ⟨a2, dy, ys, rfl, q2, _⟩ := insD_ok h2 m ry
  refine ⟨a, a2, dx, dy, xs, ys, rfl, rfl, q1, q2, [x, y], μ, G, _, .cons rx (.cons ry .nil), m, p, ?_⟩
  rintro r μ' w H' G' ⟨bb, rfl, pr⟩ e m' rr
  have e2 : w = .bl bb := by cases rr; rfl
  exact ⟨bb, e2, t _ _ _ _ _ pr e m' (.bl _)⟩
end
end Dl

namespace Dl
open PySem L2
section
variable {X : Cx}
/-! ### a text times an int -/
def repS (s : Str) (n : Nat) : Str := ⟨(List.replicate n s.cps.toList).flatten.toArray⟩
theorem foldl_repA {α : Type} (a : Array α) : ∀ (k : Nat) (acc : Array α), List.foldl (fun x1 x2 => x1 ++ x2) acc (List.replicate k a) = acc ++ (List.replicate k a.toList).flatten.toArray
  | 0, acc => by simp
  | k + 1, acc => by
    rw [List.replicate_succ, List.foldl_cons, foldl_repA a k, List.replicate_succ, List.flatten_cons]
    rw [Array.append_assoc]
    congr 1
    apply Array.ext'
    simp
def oMulS : OD := fun x y μ P => match x, y with
  | .str s, .int n => (-(2 ^ 62) ≤ n ∧ n < 2 ^ 62) ∧ s.length * n.toNat ≤ 1000000 ∧ P (.str (repS s n.toNat)) μ
  | _, _ => False
theorem os_mulS : OpS X (binaryOp .Mult) oMulS := by
  refine ⟨fun x y H Q => ∃ s n, x = .str s ∧ y = .int n ∧ (-(2 ^ 62) ≤ n ∧ n < 2 ^ 62) ∧ s.length * n.toNat ≤ 1000000 ∧ Q (.str (repS s n.toNat)) H, ?_, ?_⟩
  · intro pins s σ H x y v u Q I rx ry h
    obtain ⟨z, n, rfl, rfl, hn, hl, q⟩ := h
    obtain ⟨t, rfl⟩ := rx
    obtain ⟨t', rfl⟩ := ry
    have hr : (decide (n < -(2 ^ 63 : Int)) || decide (n ≥ 2 ^ 63)) = false := by
      rw [decide_eq_false (by omega), decide_eq_false (by omega)]
      rfl
    have hlen : (repS z n.toNat).length = z.length * n.toNat := by
      show (repS z n.toNat).cps.size = z.cps.size * n.toNat
      unfold repS
      simp [Nat.mul_comm]
    have hbig : (1000000 : Nat) ≤ sizeLine := by decide
    refine P.mul_str hr ?_ ?_ ?_
    · intro h1 h2 h3
      have hz : 0 < z.length := by
        have e : (z.length == 0) = false := by
          cases e : (z.length == 0) with
          | false => rfl
          | true => rw [e] at h2; simp at h2
        have := beq_eq_false_iff_ne.mp e
        omega
      have hn1 : 1 ≤ n := by omega
      have h4 : (z.length : Int) * n ≤ 1000000 := by
        have e : ((z.length * n.toNat : Nat) : Int) = (z.length : Int) * n := by rw [Int.natCast_mul, Int.toNat_of_nonneg (by omega)]
        omega
      have h5 : (z.length : Int) ≤ 1000000 := by
        have : (z.length : Int) * 1 ≤ (z.length : Int) * n := Int.mul_le_mul_of_nonneg_left hn1 (by omega)
        omega
      have h6 : n ≤ 1000000 := by
        have : 1 * n ≤ (z.length : Int) * n := Int.mul_le_mul_of_nonneg_right (by omega) (by omega)
        omega
      have h7 : (1000000 : Int) ≤ (2 ^ 63 - 1) / n := by
        refine (Int.le_ediv_iff_mul_le (by omega)).mpr ?_
        omega
      omega
    · intro _ _
      have : z.length * n.toNat ≤ sizeLine := Nat.le_trans hl hbig
      first | exact PyProof.Rows.notLong this | exact notLong this | (unfold Builtin.Str.tooLong; simp; omega)
    · by_cases h1 : n < 1
      · rw [if_pos h1]
        have e : n.toNat = 0 := by omega
        rw [e] at q
        exact ⟨by decide, ⟨.str (repS z 0), H, I.tok _, ⟨_, rfl⟩, q⟩⟩
      · rw [if_neg h1]
        by_cases h2 : (n == 1 || z.length == 0) = true
        · rw [if_pos h2]
          have e : repS z n.toNat = z := by
            rcases Bool.or_eq_true_iff.mp h2 with h3 | h3
            · have e1 : n.toNat = 1 := by have := beq_iff_eq.mp h3; omega
              rw [e1]
              unfold repS
              simp
            · have e1 : z.cps.size = 0 := beq_iff_eq.mp h3
              have e2 : z.cps.toList = [] := by simpa using e1
              have e3 : z.cps = #[] := by simpa using e1
              unfold repS
              rw [e2]
              cases z
              simp at e3
              simp [e3]
          rw [e] at q
          exact ⟨.str z, H, I, ⟨_, rfl⟩, q⟩
        · rw [if_neg h2]
          have e : (⟨(List.replicate n.toNat z.cps).foldl (· ++ ·) #[]⟩ : Str) = repS z n.toNat := by
            unfold repS
            rw [foldl_repA]
            simp
          rw [e]
          exact ⟨by rw [hlen]; omega, ⟨.str (repS z n.toNat), H, I.tok _, ⟨_, rfl⟩, q⟩⟩
  · intro x y μ P G H v u Q h m rx ry t
    unfold oMulS at h
    split at h
    · cases rx
      cases ry
      exact ⟨_, _, rfl, rfl, h.1, h.2.1, t _ _ _ _ _ h.2.2 (Ex.refl _) m (.str _)⟩
    · exact h.elim
/-! ### < of texts -/
def oLtS : OD := fun x y μ P => match x, y with
  | .str i, .str j => P (.bl (decide (i.cps.toList < j.cps.toList))) μ
  | _, _ => False
theorem os_ltS : OpS X (compareOp .Lt) oLtS := by
  refine ⟨_, op_lt_str, ?_⟩
  intro x y μ P G H v u Q h m rx ry t
  unfold oLtS at h
  split at h
  · cases rx
    cases ry
    exact ⟨_, _, rfl, rfl, t _ _ _ _ _ h (Ex.refl _) m (.bl _)⟩
  · exact h.elim
/-! ### split -/
def oSplit : OM := fun x ds μ P => match x, ds with
  | .str a, [.str b] => (b.length == 0) = false ∧ a.length + 2 ≤ sizeLine ∧ P (.lst ((Txt.split a b).map .str)) μ
  | _, _ => False
theorem bm_split : BMok X "split" "str" oSplit := ⟨_, _, F.plainAttrs_str, F.slot_str_split, F.type_str_split, mt_split, fun {x ds μ P G H v vs Q} h m rx rs t => by
  unfold oSplit at h
  split at h
  · cases rx
    cases rs with | cons r1 r2 =>
    cases r1
    cases r2
    obtain ⟨h1, h2, p⟩ := h
    exact ⟨_, _, rfl, rfl, h1, h2, new_lst m (rps_strs _) p t⟩
  · exact h.elim⟩
/-! ### zip -/
def zipD (xs ys : List D) : List D := List.zipWith (fun x y => .tup [x, y]) xs ys
theorem zipD_length {xs ys : List D} : (zipD xs ys).length = min xs.length ys.length := List.length_zipWith
theorem zipD_get {xs ys : List D} {i : Nat} {x y : D} (hx : xs[i]? = some x) (hy : ys[i]? = some y) : (zipD xs ys)[i]? = some (.tup [x, y]) := by
  unfold zipD
  rw [List.getElem?_zipWith, hx, hy]
theorem zip_pair {K : PySem.W.Frag} {μ : Store} {G H : Hp} {T : Addr} {d e : D} {x y : V} (m : Sm K μ G H) (hT : H T = none) (r : Rp K G d x) (r2 : Rp K G e y) :
    ∃ G3, Ex G G3 ∧ Sm K μ G3 (upd H T (.tup [x, y])) ∧ Rp K G3 (.tup [d, e]) (.ref T) := by
  obtain ⟨m2, e2⟩ := m.frozen hT (.tup [x, y])
  exact ⟨_, e2, m2, .tup (.inl upd_same) (.cons (r.mono e2) (.cons (r2.mono e2) .nil))⟩
theorem walk_z {K : PySem.W.Frag} {G : Hp} {a b : Addr} {xs ys : List V} {ds es : List D} (h : ∀ H, Ex G H → SqL K H a xs) (h2 : ∀ H, Ex G H → SqL K H b ys) (r : Rps K G ds xs) (r2 : Rps K G es ys) : Walk K G (Itz K a b) (zipD ds es) := fun i H G2 μ e m => by
  have sq := h H (e.trans m.ex)
  have sq2 := h2 H (e.trans m.ex)
  have l1 := r.length
  have l2 := r2.length
  rw [zipD_length]
  refine ⟨fun hi => ⟨⟨xs, ys, xs[i]'(by omega), ys[i]'(by omega), sq, sq2, List.getElem?_eq_getElem _, List.getElem?_eq_getElem _⟩, fun x H' y => ?_⟩, fun hi => ⟨xs, ys, sq, sq2, by omega⟩⟩
  obtain ⟨T, u, v, rfl, hT, rfl, hu, hv⟩ := y
  obtain ⟨d, hd, rd⟩ := r.getR (hu xs sq)
  obtain ⟨d2, hd2, rd2⟩ := r2.getR (hv ys sq2)
  obtain ⟨G3, e3, m3, r3⟩ := zip_pair m hT (rd.mono e) (rd2.mono e)
  exact ⟨G3, _, zipD_get hd hd2, e3, m3, r3⟩
theorem walk_zt {K : PySem.W.Frag} {G : Hp} {a b : Addr} {xs ys : List V} {ds es : List D} (h : TupAt K G a xs) (h2 : TupAt K G b ys) (r : Rps K G ds xs) (r2 : Rps K G es ys) : Walk K G (RZ.ItzT K a b) (zipD ds es) := fun i H G2 μ e m => by
  have sq := h.sq (e.trans m.ex)
  have sq2 := h2.sq (e.trans m.ex)
  have l1 := r.length
  have l2 := r2.length
  rw [zipD_length]
  refine ⟨fun hi => ⟨⟨xs, ys, xs[i]'(by omega), ys[i]'(by omega), sq, sq2, List.getElem?_eq_getElem _, List.getElem?_eq_getElem _⟩, fun x H' y => ?_⟩, fun hi => ⟨xs, ys, sq, sq2, by omega⟩⟩
  obtain ⟨T, u, v, rfl, hT, rfl, hu, hv⟩ := y
  obtain ⟨d, hd, rd⟩ := r.getR (hu xs sq)
  obtain ⟨d2, hd2, rd2⟩ := r2.getR (hv ys sq2)
  obtain ⟨G3, e3, m3, r3⟩ := zip_pair m hT (rd.mono e) (rd2.mono e)
  exact ⟨G3, _, zipD_get hd hd2, e3, m3, r3⟩
def wiZip (wa : WA) : WI := fun ρ μ P => wa ρ μ fun ds μ1 => match ds with
  | [.tup xs, .tup ys] => P (zipD xs ys) μ1
  | [.lst xs, .lst ys] => P (zipD xs ys) μ1
  | _ => False
theorem di_zip {e e2 : Expr} {wa : WA} {p pos tpos : Pos} {elts : List Expr} {kk : Nat} (hg : Gl X "zip") (hm : X.mg "zip" = none) (ha : DA X [e, e2] wa)
    (hs : starEach [e, e2] X.env = (false, eval e X.env) :: starEach [e2] X.env := by rfl) (hpl : (backTo pos (starEach [e2] X.env)).any (·.1) = false := by rfl) :
    DI X (.Tuple elts kk tpos) (.Call (.Name "zip" p) [e, e2] [] pos) (wiZip wa) :=
  ⟨wkI (RZ.pi_zipA hg hm ha.p hs hpl) fun σ H R ⟨ρ, μ, G, P, he, hm, hw, ht⟩ => ⟨ρ, μ, G, _, he, hm, hw, fun ds μ1 vs H1 G1 p e m r => by
    split at p
    · cases r with | cons r1 r2 =>
      cases r2 with | cons r2 r3 =>
      cases r3
      cases r1 with | tup h1 r1 =>
      cases r2 with | tup h2 r2 =>
      exact ⟨_, _, _, _, rfl, .inr ⟨h1.sq m.ex, h2.sq m.ex, ht _ _ _ _ _ p e m (walk_zt h1 h2 r1 r2)⟩⟩
    · cases r with | cons r1 r2 =>
      cases r2 with | cons r2 r3 =>
      cases r3
      cases r1 with | lst h1 r1 =>
      cases r2 with | lst h2 r2 =>
      exact ⟨_, _, _, _, rfl, .inl ⟨lst_sq m.ex h1, lst_sq m.ex h2, ht _ _ _ _ _ p e m (walk_z (fun H' e' => lst_sq e' h1) (fun H' e' => lst_sq e' h2) r1 r2)⟩⟩
    · exact p.elim⟩⟩
/-! ### list(range(n)) -/
def wLstRg1 (we : WE) : WE := fun ρ μ P => we ρ μ fun d μ1 => match d with
  | .int n => (-(2 ^ 62) ≤ n ∧ n ≤ 1000000) ∧ P (.lst (rng 0 n.toNat)) μ1
  | _ => False
theorem rps_rg {K : PySem.W.Frag} {G : Hp} (a b : Int) : Rps K G (rng a (b - a).toNat) (rgV a b) := by
  unfold rng rgV
  generalize List.range (b - a).toNat = l
  induction l with
  | nil => exact .nil
  | cons i l ih => exact .cons (.int _) ih
theorem de_listRg1 {e : Expr} {we : WE} {p p2 pos pos2 : Pos} (hc : X.calm = true) (hg : Gl X "list") (hm : X.mg "list" = none) (hg2 : Gl X "range") (hm2 : X.mg "range" = none) (h : DE X e we)
    (na : starEach [e] X.env = (false, eval e X.env) :: starEach [] X.env := by rfl) (na2 : starEach [.Call (.Name "range" p2) [e] [] pos2] X.env = (false, eval (.Call (.Name "range" p2) [e] [] pos2) X.env) :: starEach [] X.env := by rfl) :
    DE X (.Call (.Name "list" p) [.Call (.Name "range" p2) [e] [] pos2] [] pos) (wLstRg1 we) :=
  ⟨wkE (pe_listRg hc hg hm (prg_1 hg2 hm2 h.p na) na2) fun σ H Q ⟨ρ, μ, G, P, he, hm, hw, ht⟩ => ⟨ρ, μ, G, _, he, hm, hw, fun d μ1 v H1 G1 p e m r => by
    split at p
    · cases r
      rename_i n
      refine ⟨n, rfl, ⟨by omega, by omega, by omega, by omega, by omega⟩, ?_⟩
      refine new_lst m ?_ p.2 (ht.mono e)
      have := rps_rg (K := X.K) (G := G1) 0 n
      rwa [Int.sub_zero] at this
    · exact p.elim⟩⟩
/-! ### isinstance(x, C) of an instance of C -/
def oIsC (C : Addr) : OC := fun ds μ P => ∃ d fs, ds = [d, .ref C] ∧ insD μ d = some (C, fs) ∧ P (.bl true) μ
theorem cs_isC {C : Addr} (c : C8.InsC X.K C) : CallS X (.builtin "isinstance") (oIsC C) := by
  refine ⟨_, C8.call_isC c, ?_⟩
  intro ds μ P G H vs Q h m r t
  obtain ⟨d, fs, rfl, h1, p⟩ := h
  cases r with | cons r1 r2 =>
  cases r2 with | cons r2 r3 =>
  cases r3
  cases r2
  obtain ⟨a, dx, xs, rfl, q1, _⟩ := insD_ok h1 m r1
  exact ⟨a, dx, xs, rfl, q1, t _ _ _ _ _ p (Ex.refl _) m (.bl _)⟩
/-! ### a comprehension within a comprehension -/
theorem relabel_free {env : PySem.Env} : ∀ {names : List (Str × NameKind)} {x : Str}, (names.lookup x = some .cell ∨ names.lookup x = some .free) →
    ((names.map fun (n, k) => if (k == NameKind.free && env.scope.kind == .function && env.kindOf n == some .cell) then (n, NameKind.cell) else (n, k)).lookup x = some .cell ∨
      (names.map fun (n, k) => if (k == NameKind.free && env.scope.kind == .function && env.kindOf n == some .cell) then (n, NameKind.cell) else (n, k)).lookup x = some .free)
  | [], _, h => by simp at h
  | (n, k) :: r, x, h => by
    have ih := @relabel_free env r x
    show List.lookup x ((if (k == NameKind.free && env.scope.kind == .function && env.kindOf n == some .cell) = true then (n, NameKind.cell) else (n, k)) :: _) = _ ∨ List.lookup x ((if (k == NameKind.free && env.scope.kind == .function && env.kindOf n == some .cell) = true then (n, NameKind.cell) else (n, k)) :: _) = _
    cases hx : x == n with
    | true =>
      simp only [List.lookup_cons, hx] at h
      by_cases hc : (k == NameKind.free && env.scope.kind == .function && env.kindOf n == some .cell) = true
      · rw [if_pos hc]; simp [List.lookup_cons, hx]
      · rw [if_neg hc]; simp only [List.lookup_cons, hx]; exact h
    | false =>
      simp only [List.lookup_cons, hx] at h
      by_cases hc : (k == NameKind.free && env.scope.kind == .function && env.kindOf n == some .cell) = true
      · rw [if_pos hc]; simp only [List.lookup_cons, hx]; exact ih h
      · rw [if_neg hc]; simp only [List.lookup_cons, hx]; exact ih h
theorem blk_relabel {N : List Str} {sc scope : Scope} {own : List (Str × Nat)} {env : PySem.Env} (h : BlkOk N sc scope own) : BlkOk N (relabel sc env) scope own :=
  ⟨h.kind, h.uniq, h.ix, fun y hy e => relabel_free (h.free y hy e), h.own⟩
/-! ### a list taken apart -/
def wgLst (n : Nat) (g : WGs) : WG := fun d ρ μ P => match d with | .lst ds => ds.length = n ∧ g ds ρ μ P | _ => False
theorem gp_lst {K : PySem.W.Frag} {vs : List Nat} {n : Nat} {gs : TGs} {wgs : WGs} (hs : GPats K vs gs wgs) : GPat K vs (gLst K n gs) (wgLst n wgs) := fun {v σ H Q ρ μ G d P} he hm r hw k => by
  cases r with
  | lst h1 r1 => exact ⟨_, _, rfl, lst_sq hm.ex h1, by rw [← r1.length]; exact hw.1, hs he hm r1 hw.2 k⟩
  | _ => exact hw.elim
/-! ### x = e, the list frozen -/
def wAsgF (we : WE) (g : WG) : WS := fun W ρ μ => we ρ μ fun d μ1 => ∃ d' μ', Fz d μ1 d' μ' ∧ g d' ρ μ' W.nx
theorem ds_asgF {tg e : Expr} {pos : Pos} {we : WE} {g : WG} (h : DE X e we) (k : DG X tg g) (hs : swapsWithSole [tg] e pos.line X.env = pure false := by rfl) (hw : swappedStores [tg] e X.env = pure none := by rfl)
    (h1 : (assignEach [tg] X.env).map (·.2) = [assign tg X.env] := by rfl) : DS X (.Assign [tg] e pos) (wAsgF we g) := ⟨wkS (ps_asg h.p k.p hs hw h1) fun D σ H ⟨ρ, μ, G, W, he, hm, hw, ht⟩ =>
  ⟨ρ, μ, G, _, he, hm, hw, fun d μ1 v H1 G1 ⟨d', μ2, fz, p⟩ e m r => by
    obtain ⟨G2, e2, m2, r2⟩ := fz.ok m r
    exact ⟨ρ, μ2, G2, d', _, he.mono (e.trans e2), m2, r2, p, (show TellsN X.K G2 W.nx D.nx from fun a b c d f g x => ht.nx a b c d f g ((e.trans e2).trans x))⟩⟩⟩
theorem ds_setF {i : Nat} {x : Str} {pos pos' : Pos} {e : Expr} {we : WE} (hN : X.N.Nodup) (hi : X.N[i]? = some x) (hx : Loc X.env.scope x) (h : DE X e we) (hs : swapsWithSole [.Name x pos'] e pos.line X.env = pure false := by rfl) (hw : swappedStores [.Name x pos'] e X.env = pure none := by rfl)
    (h1 : (assignEach [.Name x pos'] X.env).map (·.2) = [assign (.Name x pos') X.env] := by rfl) (hf : X.fn x = true ∨ X.env.scope.names.lookup x = some .local := by first | exact .inl rfl | exact .inr rfl | assumption) :
    DS X (.Assign [.Name x pos'] e pos) (wAsgF we (wgName i)) := ds_asgF h (dg_pat (pg_name hN hi hx hf) (gp_name (vs := [i]) (by simp))) hs hw h1
/-! ### *xs among arguments and in displays -/
def wAStar (we : WE) (wr : WA) : WA := fun ρ μ P => we ρ μ fun d μ1 => match seqA μ1 d with | some xs => wr ρ μ1 fun ys μ2 => P (xs ++ ys) μ2 | none => False
theorem da_star {e : Expr} {es : List Expr} {p : Pos} {we : WE} {wr : WA} (h : DE X e we) (k : DA X es wr) (hs : starEach (.Starred e p :: es) X.env = (true, eval e X.env) :: starEach es X.env := by rfl) : DA X (.Starred e p :: es) (wAStar we wr) :=
  ⟨wkA (StX.pa_star h.p k.p hs) fun σ H Q ⟨ρ, μ, G, P, he, hm, hw, ht⟩ => ⟨ρ, μ, G, _, he, hm, hw, fun d μ1 v H1 G1 p1 e1 m1 r1 => by
    split at p1
    · rename_i xs q
      obtain ⟨a, vs, rfl, h1, rr⟩ := seqA_ok q m1 r1
      exact ⟨a, vs, rfl, h1.symm, ρ, μ1, G1, _, he.mono e1, m1, p1, fun ys μ2 ws H2 G2 p2 e2 m2 r2 => ht _ _ _ _ _ p2 (e1.trans e2) m2 ((rr.mono e2).append r2)⟩
    · exact p1.elim⟩⟩
theorem kit_self {K : PySem.W.Frag} {C : Addr} : PySem.W.kitOne K (.ref C) (.ref C) = some true := by
  unfold PySem.W.kitOne
  rw [if_pos]
  first | exact beq_self_eq_true _ | simp | rfl | (show decide _ = true; simp)
end
end Dl

namespace Dl
open PySem L2
theorem units65 {k : Nat} {A : Around} (r : Room k A) : A.units + 65 < cLine := by have := r.un; omega
section
variable {X : Cx}
/-! ### in, over lists of plain data of any depth -/
def oInPW (f : Bool → Bool) : OD := fun x y μ P => match pyS μ x, pyS μ y with
  | some d, some (.list ds) => SeqAt.shaped d = true ∧ SeqAt.shaped (.list ds) = true ∧ P (.bl (f (ds.any fun z => PyData.eqv z d))) μ
  | _, _ => False
def oInP : OD := oInPW fun b => b
def oNotInP : OD := oInPW fun b => !b
theorem os_inP (hu : X.A.units + 65 < cLine) : OpS X (compareOp .In) oInP := by
  refine ⟨_, op_inD hu, ?_⟩
  intro x y μ P G H v u Q h m rx ry t
  unfold oInP oInPW at h
  split at h
  · rename_i d ds h1 h2
    exact ⟨d, ds, pyS_ok m rx h1, pyS_ok m ry h2, h.1, h.2.1, t _ _ _ _ _ h.2.2 (Ex.refl _) m (.bl _)⟩
  · exact h.elim
theorem os_notInP (hu : X.A.units + 65 < cLine) : OpS X (compareOp .NotIn) oNotInP := by
  refine ⟨_, op_notInD hu, ?_⟩
  intro x y μ P G H v u Q h m rx ry t
  unfold oNotInP oInPW at h
  split at h
  · rename_i d ds h1 h2
    exact ⟨d, ds, pyS_ok m rx h1, pyS_ok m ry h2, h.1, h.2.1, t _ _ _ _ _ h.2.2 (Ex.refl _) m (.bl _)⟩
  · exact h.elim
theorem encs_any {α : Type} [DecidableEq α] (E : Enc α) (a : α) (as : List α) : ((as.map E.py).any fun z => PyData.eqv z (E.py a)) = decide (a ∈ as) := by
  induction as with
  | nil => rfl
  | cons x r ih =>
    rw [List.map_cons, List.any_cons, ih, E.eqv, Bool.eq_iff_iff]
    simp only [Bool.or_eq_true, decide_eq_true_eq, List.mem_cons]
    exact ⟨fun h => h.imp Eq.symm id, fun h => h.imp Eq.symm id⟩
theorem oInPW_lst {α : Type} [DecidableEq α] (E : Enc α) (h : E.n + 1 ≤ 64) (hr : ∀ x : α, ∀ p, E.enc x ≠ .ref p) (f : Bool → Bool) (a : α) (as : List α) (μ : Store) (P : D → Store → Prop) :
    oInPW f (E.enc a) (.lst (as.map E.enc)) μ P = P (.bl (f (decide (a ∈ as)))) μ := by
  have e1 : pyS μ (E.enc a) = some (E.py a) := by
    have := E.ok a
    unfold pyS
    cases q : E.enc a with
    | ref p => exact absurd q (hr a p)
    | _ => rw [q] at this; exact this
  have e2 : pyS μ (.lst (as.map E.enc)) = some (.list (as.map E.py)) := by
    show pyD _ = _
    rw [pyD, encs_ok]; rfl
  unfold oInPW
  rw [e1, e2]
  dsimp only
  rw [enc_shaped E (by omega), show SeqAt.shaped (.list (as.map E.py)) = true from enc_shaped (eLst E) h as, encs_any]
  simp
end
end Dl

namespace Dl
open PySem L2 PySem.Spec PyProof.Rows
/-! ### errors of the text: their making -/
/-- the base class of the text's errors: its __init__ is ValueError's -/
structure VeB (K : PySem.W.Frag) (mg : Str → Option Value) (x : Str) : Prop where
  ex : ∃ B : Addr, mg x = some (.ref B) ∧ PySem.W.specialIn K (.ref B) "__getattribute__" = some (some (.builtin "type.__getattribute__")) ∧ PySem.W.readsIn K B (.type "type") = true ∧
    PySem.W.findCls K (.ref B) (.type "type") "__init__" = some (.val (.builtin "ValueError.__init__"))
section
variable {X : Cx} {e : Expr} {es : List Expr} {ta : TA} {p1 p2 pos : Pos} {x : Str}
theorem pe_binit {pl : Sem Bool} (V : VeB X.K X.mg x) (hg : Gl X x) (ha : PA X (e :: es) ta) (hdb : (x == ("__debug__" : Str)) = false := by decide)
    (hc : eval (.Call (.Attribute (.Name x p1) "__init__" p2) (e :: es) [] pos) X.env = (do
      let ov ← eval (.Name x p1) X.env
      standAt p2.atName
      let (f, first) ← holding [ov] (getMethod ov "__init__" pl)
      callWith pos f first (backTo pos (starEach (e :: es) X.env)) (backToKw pos (keywordEach [] X.env))) := by rfl)
    (he : starEach (e :: es) X.env = (false, eval e X.env) :: starEach es X.env := by rfl) (hpl : (backTo pos (starEach es X.env)).any (·.1) = false := by rfl) :
    PE X (.Call (.Attribute (.Name x p1) "__init__" p2) (e :: es) [] pos) (tVeI X.K ta) := by
  obtain ⟨B, gB, ga, rd, at_⟩ := V.ex
  refine ⟨fun pins s σ H Q I h => ?_⟩
  refine PySem.W.methodCall_KW (ld_glob I hg gB ?_ hdb) hc
  refine PySem.W.method_cls I.kIn ga (PySem.W.cls_value I.kIn rd at_ (by decide +kernel) ?_)
  show wpAny _ _ (callWith pos (Value.builtin "ValueError.__init__") [] (backTo pos (starEach (e :: es) X.env)) []) _ _ _
  refine PyProof.Rows.callWith_method1 (thn (ha.run pos pins _ σ H _ (I.tok _) h) fun us s1 ⟨vs, H1, I1, r1, a, C, ws, ev, hl, T, ea, q⟩ => ?_) he hpl
  subst ev
  cases r1 with
  | @cons _ u0 _ ur ra rw' =>
    obtain rfl : u0 = Value.ref a := ra
    have hlen : ur.length ≤ sizeLine := by
      rw [← Paired.length rw', sizeLine_eq]
      omega
    exact oinit_ok T I1 ea hlen fun s' J => ⟨.non, H1, J, rfl, q⟩
end
/-- an error without fields is let go -/
theorem mk_endN {X : Cx} {pins : List (Addr × Obj)} {σ : L2.St} {H1 H2 : Hp} {Q : XK} {hp hp2 h2 : Heap} {g1 g2 : Array GenState} {d1 d2 : Drawn} {t1 t2 : Nat} {os1 os2 : OsState} {a C : Addr} (T : Raises X (.ref C)) (I1 : Inv X pins σ H1 ⟨hp, g1, d1, t1, os1⟩)
    (ha : hp.objs.size ≤ a) (k : ∀ b o, hp.get? b = some o → hp2.get? b = some o) (un : Un (frs X.stack) [] (upd H1 a (exo a C none)) H2 hp2 h2) (hok : HOk X.prog X.w H2 h2) (ho : os2 = os1) (hb : AllBare g2)
    (ea : H2 a = some (exo a C none)) (q : Q (.ref C) none (del H2 a)) : MkP X pins σ Q (.ref a) ⟨h2, g2, d2, t2, os2⟩ := by
  obtain ⟨t0, hoe⟩ := exo_at hok ea
  have hn : H1 a = none := I1.hok.fresh ha
  obtain ⟨G, g1', g2'⟩ := restrict h2 fun b => decide (b ≠ a)
  have gk : ∀ b, b ≠ a → G.get? b = h2.get? b := fun b hb => g1' b (decide_eq_true hb)
  have ge : G.get? a = none := g2' a (by simp)
  have nha : ∀ {b : Addr} {o : Obj}, hp.get? b = some o → b ≠ a := fun {b o} z => Nat.ne_of_lt (Nat.lt_of_lt_of_le (Heap.lt_size z) ha)
  have up : ∀ {b : Addr}, b ≠ a → H1 b = none → upd H1 a (exo a C none) b = none := fun {b} hb n => by rw [upd_ne hb]; exact n
  have U : Un (frs X.stack) [] H1 (del H2 a) hp G := {
    keep := fun b o z n hf hx => by
      rw [gk b (nha z)]
      exact un.keep b o (k b o z) (up (nha z) n) hf hx
    slot := fun b o z n hf hx => by
      rw [gk b (nha z)]
      exact un.slot b o (k b o z) (up (nha z) n) hf hx
    free := fun b o z n hx => by
      rw [del_ne (nha z)]
      exact un.free b o (k b o z) (up (nha z) n) hx
    there := fun b o z hx => by
      rw [gk b (nha z)]
      exact un.there b o (k b o z) hx
    tups := fun b xs z => by
      rw [del_ne (ne_of_none z hn)]
      exact un.tups b xs (by rw [upd_ne (ne_of_none z hn)]; exact z)
    frzs := fun b o v z => by
      rw [del_ne (ne_of_none z hn)]
      exact un.frzs b o v (by rw [upd_ne (ne_of_none z hn)]; exact z)
    tbls := fun b ps z => by
      rw [del_ne (ne_of_none z hn)]
      exact un.tbls b ps (by rw [upd_ne (ne_of_none z hn)]; exact z) }
  have hok3 : HOk X.prog X.w (del H2 a) G := fun b o z => by
    have hba : b ≠ a := fun e => by
      rw [e, del_same] at z
      cases z
    rw [del_ne hba] at z
    have noa : ∀ {c : Addr}, H2 c = some (.own b) → c ≠ a := fun {c} hc => at_ne ea hc exo_own
    exact (hok b o z).stay (fun c v hc y => by
        have hca : c ≠ a := by
          rcases hc with hc | hc
          · rw [hc]
            exact hba
          · exact noa hc
        rw [gk c hca]
        exact y)
      (fun c hc => by rw [del_ne (noa hc)]; exact hc) (fun c xs hc => by rw [del_ne (at_ne ea hc exo_tup)]; exact hc)
  have J : Inv X pins σ (del H2 a) ⟨G, g2, d2, t2, os2⟩ := I1.call' (ch := []) ho U hok3 hb (fun b z => absurd z (by simp))
  exact ⟨a, _, _, ⟨G, g2, d2, t2, os2⟩, _, .ref C, none, rfl, J, fun b o z => by
    by_cases hba : b = a
    · rw [hba, ge] at z
      cases z
    · exact (gk b hba).symm.trans z, ge, hoe, ⟨rfl, rfl⟩, rfl, rfl, del_same, rfl, hb, T, q⟩
/-- what an error's __init__ does -/
def SpI0 (C : Addr) : Sp := fun vs H Q _ => ∃ a, vs = [V.ref a] ∧ H a = some (exo a C none) ∧ Q .non H
def SpI1 (C : Addr) (f : Str) : Sp := fun vs H Q _ => ∃ a v, vs = [V.ref a, v] ∧ H a = some (exo a C none) ∧ ∀ dx, H dx = none → dx ≠ a → Q .non (upd (upd H dx (exd dx [(f, v)])) a (exo a C (some dx)))
structure DExc (P : Program) (w : World) (K : PySem.W.Frag) (mg : Str → Option Value) (base : Heap) (k : Nat) (x : Str) (C : Addr) (f : Option Str) : Prop where
  ex : ∃ (fI : Addr) (fd : FuncData) (ps : List Str), OexC K C ∧ PySem.W.findIn K (.ref C) "__init__" = some (some (.ref fI)) ∧ PySem.W.typeIn K (.ref fI) = some (.type "function") ∧ mg x = some (.ref C) ∧ Binds K fd ps [] ∧
    FnOk P w K mg base CX0 k fI fd ps (match f with | none => SpI0 C | some f => SpI1 C f)
section
variable {X : Cx} {j k : Nat} {x : Str} {C : Addr} {p pos : Pos}
/-- C() -/
theorem pmk_0 (c : DExc X.prog X.w X.K X.mg X.base k x C none) (hr : Room j X.A) (hk : k + 1 ≤ j) (hg : Gl X x) (hdb : (x == ("__debug__" : Str)) = false := by decide) : PMk X (.Call (.Name x p) [] [] pos) (fun σ H Q => Q (.ref C) none H) := by
  obtain ⟨fI, fd, ps, T, iC, tI, hm, hb, F1⟩ := c.ex
  intro pins s σ H Q I h
  obtain ⟨nm, q, N, bs, bm, sn, sub, ab, col, dd, k0, k1, k2, k3, k5, hC, hbm⟩ := T.cls
  refine wpAny_Call_Name_kw (ld_glob I hg hm ?_ hdb)
  refine PySem.W.callWith_K0 I.kIn T.kC ?_
  show wpAny _ _ (call (.ref C) []) _ _ _
  obtain ⟨hp, g, dr, tk, os⟩ := s
  have hsz : hp.objs.size ≤ hp.objs.size + 1 := Nat.le_succ _
  have hn : H (hp.objs.size + 1) = none := I.hok.fresh hsz
  have kk : ∀ b o, hp.get? b = some o → ((hp.push (PySem.W.kdv_tup [])).push (PySem.HandSPX.excO C hp.objs.size)).get? b = some o := fun b o e => Heap.get?_push_of_some _ (Heap.get?_push_of_some _ e)
  have hget : ((hp.push (PySem.W.kdv_tup [])).push (PySem.HandSPX.excO C hp.objs.size)).get? (hp.objs.size + 1) = some (PySem.HandSPX.excO C hp.objs.size) := by heap_get
  have I2 : Inv X pins σ (upd H (hp.objs.size + 1) (exo (hp.objs.size + 1) C none)) ⟨(hp.push (PySem.W.kdv_tup [])).push (PySem.HandSPX.excO C hp.objs.size), g, dr, tk, os⟩ :=
    I.laid (t' := tk) (a := hp.objs.size + 1) (o := exo (hp.objs.size + 1) C none) (h' := (hp.push (PySem.W.kdv_tup [])).push (PySem.HandSPX.excO C hp.objs.size)) kk hsz (exo_ok hget)
  let G2 := upd H (hp.objs.size + 1) (exo (hp.objs.size + 1) C none)
  have hq : SpI0 C [V.ref (hp.objs.size + 1)] G2 (fun v H2 => v = .non ∧ H2 = G2) (fun _ _ _ => False) := ⟨_, rfl, upd_same, rfl, rfl⟩
  have r2 : Vals [V.ref (hp.objs.size + 1)] [Value.ref (hp.objs.size + 1)] := .cons rfl .nil
  have hl : [Value.ref (hp.objs.size + 1)].length = ps.length := by
    have e := r2.length
    rw [F1.len _ _ _ _ hq] at e
    exact e.symm
  refine wpAny_call (PySem.HandSPX.call_own F.excBase_ValueError (fun Y => PySem.HandSPX.refsVE_contains Y bm hbm) (I.kIn _ _ hC) (PySem.W.looks_findIn I.kIn iC) (fun self => PySem.W.bind_fn I.kIn self tI) (by decide)
    (codeAny_mono (F1.run _ X.stack _ _ ⟨[Value.ref (hp.objs.size + 1)], []⟩ [Value.ref (hp.objs.size + 1)] _ _ (fun _ _ _ => False) ((hr.mono hk).make C [] []) (I2.env0.make C [] []) (by have := hb _ [Value.ref (hp.objs.size + 1)] I2.kIn (by simpa using hl); simpa using this) r2 hq) fun r s' hq' => ?_))
  cases r with
  | error er => exact pass0 pins σ _ _ er s' I2 hq'
  | ok fl =>
    cases fl with
    | ret u =>
      obtain ⟨v, H2, os2, bare2, un2, hok2, rv, ev, eH⟩ := hq'
      subst ev
      obtain ⟨h2, g2, d2, t2, os'⟩ := s'
      refine ⟨rv, mk_endN (raises_own T.exC T.tyC) I hsz kk un2 hok2 os2 bare2 (by rw [eH]; exact upd_same) ?_⟩
      have e : del H2 (hp.objs.size + 1) = H := by
        rw [eH]
        funext b
        by_cases hb : b = hp.objs.size + 1
        · rw [hb, del_same, hn]
        · rw [del_ne hb]
          exact upd_ne hb
      rw [e]
      exact h
    | next => exact False.elim hq'
    | brk => exact False.elim hq'
    | cont => exact False.elim hq'
end
/-! ### readings that may raise -/
/-- an error's fields: its class and what they hold -/
def XRp (K : PySem.W.Frag) (G : Hp) (fs : List (Str × D)) (d : Option Addr) : Prop := (d = none ∧ fs = []) ∨ ∃ (dd : Addr) (vs : List (Str × V)), d = some dd ∧ G dd = some (.xd vs) ∧ vs.map (·.1) = fs.map (·.1) ∧ Rps K G (fs.map (·.2)) (vs.map (·.2))
theorem XRp.mono {K : PySem.W.Frag} {G G' : Hp} {fs : List (Str × D)} {d : Option Addr} (e : Ex G G') (h : XRp K G fs d) : XRp K G' fs d := by
  rcases h with h | ⟨dd, vs, h1, h2, h3, h4⟩
  · exact .inl h
  · exact .inr ⟨dd, vs, h1, e _ _ h2, h3, h4.mono e⟩
abbrev WRx := Addr → List (Str × D) → Env → Store → Prop
abbrev WSx := WRx → WEnds → Env → Store → Prop
abbrev WEx := WRx → Env → Store → (D → Store → Prop) → Prop
def TellsX (K : PySem.W.Frag) (G : Hp) (R : WRx) (W : WX) : Prop := ∀ C fs d ρ' μ' σ' H' G', R C fs ρ' μ' → Ex G G' → EnvR K G' ρ' σ' → Sm K μ' G' H' → XRp K G' fs d → W (.ref C) d σ' H'
theorem TellsX.mono {K : PySem.W.Frag} {G G' : Hp} {R : WRx} {W : WX} (e : Ex G G') (h : TellsX K G R W) : TellsX K G' R W := fun a b c d f g i j r x y z => h a b c d f g i j r (e.trans x) y z
def LSx (K : PySem.W.Frag) (W : WX) (w : WSx) : TS := fun D σ H => ∃ ρ μ G We R, EnvR K G ρ σ ∧ Sm K μ G H ∧ w R We ρ μ ∧ TellsS K G We D ∧ TellsX K G R W
def LEx (K : PySem.W.Frag) (W : WX) (w : WEx) : TE := fun σ H Q => ∃ ρ μ G P R, EnvR K G ρ σ ∧ Sm K μ G H ∧ w R ρ μ P ∧ Tells K G P Q ∧ TellsX K G R W
structure XE (X : Cx) (W : WX) (e : Expr) (w : WEx) : Prop where
  p : PE X e (LEx X.K W w)
structure XS (X : Cx) (W : WX) (st : Stmt) (w : WSx) : Prop where
  p : PS X st (LSx X.K W w)
structure XSs (X : Cx) (W : WX) (st : List Stmt) (w : WSx) : Prop where
  p : PSs X st (LSx X.K W w)
section
variable {X : Cx} {W : WX} {st : Stmt} {rest a b : List Stmt} {e : Expr} {pos : Pos} {w : WS} {u v : WSx} {we : WE} {wx : WEx} {t : WT}
/-- what raises nothing -/
def xN (w : WS) : WSx := fun _ We ρ μ => w We ρ μ
theorem xs_of (h : DS X st w) : XS X W st (xN w) := ⟨wkS h.p fun D σ H ⟨ρ, μ, G, We, R, he, hm, hw, ht, _⟩ => ⟨ρ, μ, G, We, he, hm, hw, ht⟩⟩
theorem xss_of (h : DSs X rest w) : XSs X W rest (xN w) := ⟨wkSs h.p fun D σ H ⟨ρ, μ, G, We, R, he, hm, hw, ht, _⟩ => ⟨ρ, μ, G, We, he, hm, hw, ht⟩⟩
def xSeq (u v : WSx) : WSx := fun R We ρ μ => u R { We with nx := v R We } ρ μ
theorem xss_cons (h : XS X W st u) (k : XSs X W rest v) : XSs X W (st :: rest) (xSeq u v) := ⟨wkSs (pss_cons h.p k.p) fun D σ H ⟨ρ, μ, G, We, R, he, hm, hw, ht, tx⟩ =>
  ⟨ρ, μ, G, { We with nx := v R We }, R, he, hm, hw, ⟨fun ρ' μ' σ' H' G' p e r m => ⟨ρ', μ', G', We, R, r, m, p, ht.mono e, tx.mono e⟩, ht.rt, ht.bk, ht.ct⟩, tx⟩⟩
theorem xss_one (h : XS X W st u) : XSs X W [st] u := ⟨pss_one h.p⟩
def xIf (t : WT) (u v : WSx) : WSx := fun R We ρ μ => t ρ μ fun b μ1 => if b = true then u R We ρ μ1 else v R We ρ μ1
theorem xs_if {c : Expr} (hc : DT X c t) (ha : XSs X W a u) (hb : XSs X W b v) : XS X W (.If c a b pos) (xIf t u v) := ⟨wkS (ps_if hc.p ha.p hb.p) fun D σ H ⟨ρ, μ, G, We, R, he, hm, hw, ht, tx⟩ =>
  ⟨ρ, μ, G, _, he, hm, hw, fun k μ1 H1 G1 p e m => by
    cases k with
    | true => rw [if_pos rfl] at p ⊢; exact ⟨ρ, μ1, G1, We, R, he.mono e, m, p, ht.mono e, tx.mono e⟩
    | false => rw [if_neg Bool.false_ne_true] at p ⊢; exact ⟨ρ, μ1, G1, We, R, he.mono e, m, p, ht.mono e, tx.mono e⟩⟩⟩
/-- a statement that is an expression, a return, x = e of an expression that may raise -/
def xDrop (wx : WEx) : WSx := fun R We ρ μ => wx R ρ μ fun _ μ1 => We.nx ρ μ1
theorem xs_expr (h : XE X W e wx) (hs : swapsWith e none pos.line X.env = pure false := by rfl) : XS X W (.Expr e pos) (xDrop wx) := ⟨wkS (ps_expr h.p hs) fun D σ H ⟨ρ, μ, G, We, R, he, hm, hw, ht, tx⟩ =>
  ⟨ρ, μ, G, _, R, he, hm, hw, fun d μ' v H' G' p e m r => ht.nx _ _ _ _ _ p e (he.mono e) m, tx⟩⟩
def xRet (wx : WEx) : WSx := fun R We ρ μ => wx R ρ μ fun d μ1 => ∃ d' μ', Fz d μ1 d' μ' ∧ We.rt d' μ'
theorem xs_ret (h : XE X W e wx) : XS X W (.Return (some e) pos) (xRet wx) := ⟨wkS (ps_ret h.p) fun D σ H ⟨ρ, μ, G, We, R, he, hm, hw, ht, tx⟩ =>
  ⟨ρ, μ, G, _, R, he, hm, hw, fun d μ' v H' G' ⟨d', μ2, fz, p⟩ e m r => by
    obtain ⟨G2, e2, m2, r2⟩ := fz.ok m r
    exact ht.rt _ _ _ _ _ p (e.trans e2) m2 r2, tx⟩⟩
def xAsg (wx : WEx) (g : WG) : WSx := fun R We ρ μ => wx R ρ μ fun d μ1 => g d ρ μ1 We.nx
theorem xs_asg {tg : Expr} {g : WG} (h : XE X W e wx) (k : DG X tg g) (hs : swapsWithSole [tg] e pos.line X.env = pure false := by rfl) (hw : swappedStores [tg] e X.env = pure none := by rfl)
    (h1 : (assignEach [tg] X.env).map (·.2) = [assign tg X.env] := by rfl) : XS X W (.Assign [tg] e pos) (xAsg wx g) := ⟨wkS (ps_asg h.p k.p hs hw h1) fun D σ H ⟨ρ, μ, G, We, R, he, hm, hw, ht, tx⟩ =>
  ⟨ρ, μ, G, _, R, he, hm, hw, fun d μ1 v H1 G1 p e m r => ⟨ρ, μ1, G1, d, _, he.mono e, m, r, p, (show TellsN X.K G1 We.nx D.nx from fun a b c d f g x => ht.nx a b c d f g (e.trans x))⟩, tx⟩⟩
theorem xs_set {i : Nat} {x : Str} {pos' : Pos} (hN : X.N.Nodup) (hi : X.N[i]? = some x) (hx : Loc X.env.scope x) (h : XE X W e wx) (hs : swapsWithSole [.Name x pos'] e pos.line X.env = pure false := by rfl) (hw : swappedStores [.Name x pos'] e X.env = pure none := by rfl)
    (h1 : (assignEach [.Name x pos'] X.env).map (·.2) = [assign (.Name x pos') X.env] := by rfl) (hf : X.fn x = true ∨ X.env.scope.names.lookup x = some .local := by first | exact .inl rfl | exact .inr rfl | assumption) :
    XS X W (.Assign [.Name x pos'] e pos) (xAsg wx (wgName i)) := xs_asg h (dg_pat (pg_name hN hi hx hf) (gp_name (vs := [i]) (by simp))) hs hw h1
/-! ### raise -/
variable {j k : Nat} {x : Str} {C : Addr} {p p' : Pos}
def xRaise0 (C : Addr) : WSx := fun R _ ρ μ => R C [] ρ μ
theorem xs_raise0 (hc : X.calm = true) (tk : Takes X W) (c : DExc X.prog X.w X.K X.mg X.base k x C none) (hr : Room j X.A) (hk : k + 1 ≤ j) (hg : Gl X x) (hdb : (x == ("__debug__" : Str)) = false := by decide) :
    XS X W (.Raise (some (.Call (.Name x p) [] [] p')) none pos) (xRaise0 C) := ⟨wkS (ps_raise hc tk (pmk_0 c hr hk hg hdb)) fun D σ H ⟨ρ, μ, G, We, R, he, hm, hw, ht, tx⟩ => tx _ _ _ _ _ _ _ _ hw (Ex.refl _) he hm (.inl ⟨rfl, rfl⟩)⟩
def xRaise1 (C : Addr) (f : Str) (we : WE) : WSx := fun R _ ρ μ => we ρ μ fun d μ1 => R C [(f, d)] ρ μ1
theorem xs_raise1 {f : Str} (hc : X.calm = true) (tk : Takes X W) (c : DExc X.prog X.w X.K X.mg X.base k x C (some f)) (hr : Room j X.A) (hk : k + 1 ≤ j) (hg : Gl X x) (ha : DE X e we) (hdb : (x == ("__debug__" : Str)) = false := by decide)
    (he : starEach [e] X.env = (false, eval e X.env) :: starEach [] X.env := by rfl) :
    XS X W (.Raise (some (.Call (.Name x p) [e] [] p')) none pos) (xRaise1 C f we) := by
  obtain ⟨fI, fd, ps, T, iC, tI, hm, hb, F1⟩ := c.ex
  have hpm := pmk_oex (X := X) (CX := CX0) (p := p) (pos := p') T iC tI F1 (hr.mono hk) hb .nil pass0 hg hm (da_cons ha da_nil he).p hdb he (by rfl)
  refine ⟨wkS (ps_raise hc tk hpm) fun D σ H ⟨ρ, μ, G, We, R, he, hm, hw, ht, tx⟩ => ?_⟩
  refine ⟨ρ, μ, G, fun ds μ1 => match ds with | [d] => R C [(f, d)] ρ μ1 | _ => False, he, hm, hw, fun ds μ1 vs H1 G1 p1 e1 m1 r1 => ?_⟩
  dsimp only at p1
  split at p1
  · cases r1 with | cons ra rb =>
    rename_i d v ws
    cases rb
    refine ⟨(by decide : 1 ≤ 1000), fun a ha => ?_⟩
    refine ⟨a, v, rfl, upd_same, fun dx hdx hne => ⟨rfl, dx, [(f, v)], upd_same, ?_, ?_, ?_⟩⟩
    · rw [upd_ne hne]; exact upd_same
    · rwa [upd_ne hne] at hdx
    · rw [upd_ne hne] at hdx
      have e3 : upd (del (upd (upd (upd H1 a (exo a C none)) dx (exd dx [(f, v)])) a (exo a C (some dx))) a) dx (.xd [(f, v)]) = upd H1 dx (.xd [(f, v)]) := by
        funext b
        by_cases h1 : b = dx
        · rw [h1, upd_same, upd_same]
        · rw [upd_ne h1, upd_ne h1]
          by_cases h2 : b = a
          · rw [h2, del_same, ha]
          · rw [del_ne h2, upd_ne h2, upd_ne h1, upd_ne h2]
      rw [e3]
      obtain ⟨m2, e2⟩ := m1.frozen hdx (.xd [(f, v)])
      exact tx _ _ _ _ _ _ _ _ p1 (e1.trans e2) (he.mono (e1.trans e2)) m2 (.inr ⟨dx, _, rfl, upd_same, rfl, .cons (ra.mono e2) .nil⟩)
  · exact p1.elim
end
/-! ### promises that may raise -/
abbrev DSpX := List D → Store → (D → Store → Prop) → (Addr → List (Str × D) → Store → Prop) → Prop
def TellsE (K : PySem.W.Frag) (G : Hp) (R : Addr → List (Str × D) → Store → Prop) (E : XK) : Prop := ∀ C fs d μ' H' G', R C fs μ' → Ex G G' → Sm K μ' G' H' → XRp K G' fs d → E (.ref C) d H'
def LSpX (K : PySem.W.Frag) (d : DSpX) : Sp := fun vs H Q E => ∃ ds μ G P R, Rps K G ds vs ∧ Sm K μ G H ∧ d ds μ P R ∧ Tells K G P Q ∧ TellsE K G R E
structure DCalX (P : Program) (w : World) (K : PySem.W.Frag) (mg : Str → Option Value) (base : Heap) (k : Nat) (x : Str) (d : DSpX) (dds : List D) : Prop where
  ex : ∃ (f : Addr) (fd : FuncData) (ps : List Str) (ds : List Value) (dvs : List V), FnOk P w K mg base (L2.CX P w) k f fd ps (LSpX K d) ∧ mg x = some (.ref f) ∧ PySem.W.keepIn K (.ref f) = true ∧ Binds K fd ps ds ∧ Vals dvs ds ∧ ∀ G, Rps K G dds dvs
structure DMakX (P : Program) (w : World) (K : PySem.W.Frag) (mg : Str → Option Value) (base : Heap) (k : Nat) (x : Str) (C : Addr) (d : DSpX) (dds : List D) : Prop where
  ex : ∃ (f : Addr) (fd : FuncData) (ps : List Str) (ds : List Value) (dvs : List V), Mk K C f ∧ FnOk P w K mg base (L2.CX P w) k f fd ps (LSpX K d) ∧ mg x = some (.ref C) ∧ Binds K fd ps ds ∧ Vals dvs ds ∧ ∀ G, Rps K G dds dvs
structure DMetX (P : Program) (w : World) (K : PySem.W.Frag) (mg : Str → Option Value) (base : Heap) (k : Nat) (C : Addr) (m : Str) (d : DSpX) (dds : List D) : Prop where
  ex : ∃ (f : Addr) (fd : FuncData) (ps : List Str) (ds : List Value) (dvs : List V), Cls K C ∧ Meth K C m f ∧ FnOk P w K mg base (L2.CX P w) k f fd ps (LSpX K d) ∧ Binds K fd ps ds ∧ Vals dvs ds ∧ ∀ G, Rps K G dds dvs
section
variable {P : Program} {w : World} {K : PySem.W.Frag} {mg : Str → Option Value} {base : Heap}
/-- what a raising def's frame wishes -/
abbrev WofE (E : XK) : WX := fun cls d _ H => E cls d H
theorem takesF {N : List Str} {qual : Str} {scope : Scope} {f : Addr} {cd : Value} {A : Around} {outer : List PySem.Env} {s : Shared} {H : Hp} {E : XK} : Takes (cxOf (L2.CX P w) P w K mg base N qual scope f cd A outer s H E) (WofE E) := takes_of rfl rfl rfl rfl
theorem FnAt.okX {x qual : Str} {st : Stmt} {dsV : List Value} {f : Addr} {fd : FuncData} {N ps : List Str} {k : Nat} {d : DSpX} {ws : WSx} (F : FnAt K x qual st dsV f fd) (S : FnScope N ps (defScope st)) (len : ∀ ds μ Q R, d ds μ Q R → ds.length = ps.length)
    (hb : ∀ (cdv : Value) (A : Around) (outer : List PySem.Env) (s : Shared) (H : Hp) (E : XK), Room k (A.deeper (PyProof.Rows.envOfC qual (defScope st) s.heap.objs.size f cdv)) → XSs (cxOf (L2.CX P w) P w K mg base N qual (defScope st) f cdv A outer s H E) (WofE E) (defBody st) ws)
    (ok : ∀ ds μ Q R, d ds μ Q R → ws (fun C fs _ μ' => ∃ μ2, Sub μ2 μ' ∧ R C fs μ2) { nx := fun _ μ' => ∃ μ2, Sub μ2 μ' ∧ Q .non μ2, rt := Q } (startD N ds) μ) : FnOk P w K mg base (L2.CX P w) (k + 1) f fd ps (LSpX K d) := by
  obtain ⟨oc, od, dV, kV, doc, pm, an, cdv, ct, osl, rfl, lk, hcd, _⟩ := F.ex
  refine fn_of lk hcd S (fun vs H Q E ⟨ds, μ, G, Q', R, r, m, h, t, te⟩ => by rw [← r.length]; exact len _ _ _ _ h) fun A outer s H vs Q E hr ⟨ds, μ, G, Q', R, r, m, h, t, te⟩ => ?_
  exact ⟨_, (hb cdv A outer s H E hr).p, startD N ds, μ, G, _, _, env_start r, m, ok ds μ Q' R h, ⟨fun ρ' μ' σ' H' G' ⟨μ2, sb, p⟩ e _ m' => t _ _ _ _ _ p e (m'.sub sb) .non, fun d μ' v H' G' p e m' r' => t _ _ _ _ _ p e m' r', fun _ _ _ _ _ p => p.elim, fun _ _ _ _ _ p => p.elim⟩,
    fun C fs d ρ' μ' σ' H' G' ⟨μ2, sb, p⟩ e _ m' xr => te _ _ _ _ _ _ p e (m'.sub sb) xr⟩
theorem passesF {N : List Str} {qual : Str} {scope : Scope} {f : Addr} {cd : Value} {A : Around} {outer : List PySem.Env} {s : Shared} {H : Hp} {E : XK} {X : Cx} (h : X = cxOf (L2.CX P w) P w K mg base N qual scope f cd A outer s H E) : PassesOwn (model X.prog X.w) X.A X.env X.xe := by
  subst h
  exact passes_of (K := fun e s'' => L2.CX P w outer H s E e s'') rfl
theorem Fun.at {x qual : Str} {st : Stmt} {f : Addr} {fd : FuncData} (F : Fun K x qual st f fd) : FnAt K x qual st [] f fd := by
  obtain ⟨oc, od, kV, doc, pm, an, cdv, ct, osl, rfl, lk, hcd⟩ := F.ex
  exact FnAt.mk0 lk hcd
theorem DefAt.calX {x : Str} {st : Stmt} {N ps : List Str} {k : Nat} {d : DSpX} {ws : WSx} (D : DefAt K mg x st) (S : FnScope N ps (defScope st)) (len : ∀ ds μ Q R, d ds μ Q R → ds.length = ps.length)
    (hb : ∀ {f : Addr} (cdv : Value) (A : Around) (outer : List PySem.Env) (s : Shared) (H : Hp) (E : XK), Room k (A.deeper (PyProof.Rows.envOfC x (defScope st) s.heap.objs.size f cdv)) → XSs (cxOf (L2.CX P w) P w K mg base N x (defScope st) f cdv A outer s H E) (WofE E) (defBody st) ws)
    (ok : ∀ ds μ Q R, d ds μ Q R → ws (fun C fs _ μ' => ∃ μ2, Sub μ2 μ' ∧ R C fs μ2) { nx := fun _ μ' => ∃ μ2, Sub μ2 μ' ∧ Q .non μ2, rt := Q } (startD N ds) μ)
    (h : ∀ (kV doc pm : Value) (an : Option Addr) (cdv ct : Value) (us : List Value), us.length = ps.length → bindArgs (PySem.W.fnOf x x (defArgs st) (defBody st) (defScope st) .none kV doc pm an cdv ct) ⟨us, []⟩ = pure (ps.zip us)) : DCalX P w K mg base (k + 1) x d [] := by
  obtain ⟨f, fd, F, m⟩ := D.ex
  exact ⟨f, fd, ps, [], [], (Fun.at F).okX S len (hb (f := f)) ok, m, F.kp, F.binds h, .nil, fun _ => .nil⟩
/-- a promise that asks for nothing -/
theorem DefAt.cal0 {x : Str} {st : Stmt} {N ps : List Str} {k : Nat} {d : DSp} (D : DefAt K mg x st) (S : FnScope N ps (defScope st)) (no : ∀ ds μ Q, ¬ d ds μ Q)
    (h : ∀ (kV doc pm : Value) (an : Option Addr) (cdv ct : Value) (us : List Value), us.length = ps.length → bindArgs (PySem.W.fnOf x x (defArgs st) (defBody st) (defScope st) .none kV doc pm an cdv ct) ⟨us, []⟩ = pure (ps.zip us)) : DCal P w K mg base (k + 1) x d [] := by
  obtain ⟨f, fd, F, m⟩ := D.ex
  refine ⟨f, fd, ps, [], [], ?_, m, F.kp, F.binds h, .nil, fun _ => .nil⟩
  obtain ⟨oc, od, dV, kV, doc, pm, an, cdv, ct, osl, rfl, lk, hcd, _⟩ := (Fun.at F).ex
  exact fn_of lk hcd S (fun vs H Q E ⟨ds, μ, G, R, r, m, h, t⟩ => (no _ _ _ h).elim) fun A outer s H vs Q E hr ⟨ds, μ, G, R, r, m, h, t⟩ => (no _ _ _ h).elim
theorem DefD.calX {x : Str} {st : Stmt} {dsV ds : List Value} {dvs : List V} {dds : List D} {N ps : List Str} {k : Nat} {d : DSpX} {ws : WSx} (D : DefD K mg x st dsV) (S : FnScope N ps (defScope st)) (len : ∀ ds μ Q R, d ds μ Q R → ds.length = ps.length)
    (hb : ∀ {f : Addr} (cdv : Value) (A : Around) (outer : List PySem.Env) (s : Shared) (H : Hp) (E : XK), Room k (A.deeper (PyProof.Rows.envOfC x (defScope st) s.heap.objs.size f cdv)) → XSs (cxOf (L2.CX P w) P w K mg base N x (defScope st) f cdv A outer s H E) (WofE E) (defBody st) ws)
    (ok : ∀ ds μ Q R, d ds μ Q R → ws (fun C fs _ μ' => ∃ μ2, Sub μ2 μ' ∧ R C fs μ2) { nx := fun _ μ' => ∃ μ2, Sub μ2 μ' ∧ Q .non μ2, rt := Q } (startD N ds) μ) (b : ∀ {f fd}, FnAt K x x st dsV f fd → Binds K fd ps ds) (vd : Vals dvs ds) (rd : ∀ G, Rps K G dds dvs) : DCalX P w K mg base (k + 1) x d dds := by
  obtain ⟨f, fd, F, m, kp⟩ := D.ex
  exact ⟨f, fd, ps, ds, dvs, F.okX S len (hb (f := f)) ok, m, kp, b F, vd, rd⟩
theorem MetAt.metX {C : Addr} {m qual : Str} {st : Stmt} {dsV ds : List Value} {dvs : List V} {dds : List D} {N ps : List Str} {k : Nat} {d : DSpX} {ws : WSx} (D : MetAt K C m qual st dsV) (c : Cls K C) (S : FnScope N ps (defScope st)) (len : ∀ ds μ Q R, d ds μ Q R → ds.length = ps.length)
    (hb : ∀ {f : Addr} (cdv : Value) (A : Around) (outer : List PySem.Env) (s : Shared) (H : Hp) (E : XK), Room k (A.deeper (PyProof.Rows.envOfC qual (defScope st) s.heap.objs.size f cdv)) → XSs (cxOf (L2.CX P w) P w K mg base N qual (defScope st) f cdv A outer s H E) (WofE E) (defBody st) ws)
    (ok : ∀ ds μ Q R, d ds μ Q R → ws (fun C fs _ μ' => ∃ μ2, Sub μ2 μ' ∧ R C fs μ2) { nx := fun _ μ' => ∃ μ2, Sub μ2 μ' ∧ Q .non μ2, rt := Q } (startD N ds) μ) (b : ∀ {f fd}, FnAt K m qual st dsV f fd → Binds K fd ps ds) (vd : Vals dvs ds) (rd : ∀ G, Rps K G dds dvs) : DMetX P w K mg base (k + 1) C m d dds := by
  obtain ⟨f, fd, me, F⟩ := D.ex
  exact ⟨f, fd, ps, ds, dvs, c, me, F.okX S len (hb (f := f)) ok, b F, vd, rd⟩
theorem MetAt.makX {x : Str} {C : Addr} {qual : Str} {st : Stmt} {dsV ds : List Value} {dvs : List V} {dds : List D} {N ps : List Str} {k : Nat} {d : DSpX} {ws : WSx} (D : MetAt K C "__init__" qual st dsV) (c : ClsAt K mg x C) (S : FnScope N ps (defScope st)) (len : ∀ ds μ Q R, d ds μ Q R → ds.length = ps.length)
    (hb : ∀ {f : Addr} (cdv : Value) (A : Around) (outer : List PySem.Env) (s : Shared) (H : Hp) (E : XK), Room k (A.deeper (PyProof.Rows.envOfC qual (defScope st) s.heap.objs.size f cdv)) → XSs (cxOf (L2.CX P w) P w K mg base N qual (defScope st) f cdv A outer s H E) (WofE E) (defBody st) ws)
    (ok : ∀ ds μ Q R, d ds μ Q R → ws (fun C fs _ μ' => ∃ μ2, Sub μ2 μ' ∧ R C fs μ2) { nx := fun _ μ' => ∃ μ2, Sub μ2 μ' ∧ Q .non μ2, rt := Q } (startD N ds) μ) (b : ∀ {f fd}, FnAt K "__init__" qual st dsV f fd → Binds K fd ps ds) (vd : Vals dvs ds) (rd : ∀ G, Rps K G dds dvs) : DMakX P w K mg base (k + 1) x C d dds := by
  obtain ⟨f, fd, me, F⟩ := D.ex
  exact ⟨f, fd, ps, ds, dvs, ⟨c.mks, me.at_, me.fn, c.kp⟩, F.okX S len (hb (f := f)) ok, c.g, b F, vd, rd⟩
end
/-! ### calls that may raise -/
section
variable {X : Cx} {W : WX} {j k : Nat} {x m : Str} {C : Addr} {d : DSpX} {dds : List D} {p pos apos : Pos} {e o : Expr} {es : List Expr} {wa : WA} {wo : WE}
def xCall (d : DSpX) (dds : List D) (wa : WA) : WEx := fun R ρ μ P => wa ρ μ fun ds μ1 => d (ds ++ dds) μ1 P fun C fs μ' => R C fs ρ μ'
theorem tellsE {K : PySem.W.Frag} {G : Hp} {R : WRx} {W : WX} {ρ : Env} {σ : L2.St} (he : EnvR K G ρ σ) (tx : TellsX K G R W) : TellsE K G (fun C fs μ' => R C fs ρ μ') (fun cls d H => W cls d σ H) := fun C fs d μ' H' G' r e m x => tx _ _ _ _ _ _ _ _ r e (he.mono e) m x
theorem xe_cal (tk : Takes X W) (c : DCalX X.prog X.w X.K X.mg X.base k x d dds) (hr : Room j X.A) (hk : k ≤ j) (hg : Gl X x) (ha : DA X (e :: es) wa) (hdb : (x == ("__debug__" : Str)) = false := by decide)
    (he : starEach (e :: es) X.env = (false, eval e X.env) :: starEach es X.env := by rfl) (hpl : (backTo pos (starEach es X.env)).any (·.1) = false := by rfl) : XE X W (.Call (.Name x p) (e :: es) [] pos) (xCall d dds wa) := by
  obtain ⟨f, fd, ps, ds, dvs, F, hm, kp, b, vd, rd⟩ := c.ex
  exact ⟨wkE (pe_callSD (E := L2.WE W) F (hr.mono hk) hg hm kp b vd (fun σ => passAt tk σ) ha.p hdb he hpl) fun σ H Q ⟨ρ, μ, G, P, R, hr, hm, hw, ht, tx⟩ => ⟨ρ, μ, G, _, hr, hm, hw, fun ds μ1 vs H1 G1 p1 e1 m1 r1 =>
    ⟨ds ++ dds, μ1, G1, P, _, r1.append (rd G1), m1, p1, ht.mono e1, tellsE (hr.mono e1) (tx.mono e1)⟩⟩⟩
def tMethS (C : Addr) (m : Str) (sp : Sp) (dvs : List V) (E : L2.St → XK) (to : TE) (t : TA) : TE := fun σ H Q => to σ H fun x H1 => ∃ (a dx : Addr) (fs : List (Str × V)), x = .ref a ∧ H1 a = some (.ins C dx fs) ∧ fs.lookup m = none ∧ t σ H1 fun vs H2 => sp (.ref a :: (vs ++ dvs)) H2 Q (E σ)
theorem pe_methS {f : Addr} {fd : FuncData} {ps : List Str} {sp : Sp} {ds : List Value} {dvs : List V} {E : L2.St → XK} {ta : TE} {t : TA} {CX : CXT} {pl : Sem Bool} (he : PE X o ta) (c : Cls X.K C) (hm : Meth X.K C m f) (F : FnOk X.prog X.w X.K X.mg X.base CX k f fd ps sp) (hr : Room k X.A) (hb : Binds X.K fd ps ds) (hd : Vals dvs ds) (hx : ∀ σ, PassesAt CX X σ (E σ)) (ha : PA X (e :: es) t)
    (hst : starEach (e :: es) X.env = (false, eval e X.env) :: starEach es X.env := by rfl) (hpl : (backTo pos (starEach es X.env)).any (·.1) = false := by rfl)
    (ht : eval (.Call (.Attribute o m apos) (e :: es) [] pos) X.env = (do
      let ov ← eval o X.env
      standAt apos.atName
      let (f, first) ← holding [ov] (getMethod ov m pl)
      callWith pos f first (backTo pos (starEach (e :: es) X.env)) (backToKw pos (keywordEach [] X.env))) := by rfl) :
    PE X (.Call (.Attribute o m apos) (e :: es) [] pos) (tMethS C m sp dvs E ta t) := by
  refine ⟨fun pins s σ H Q I h => ?_⟩
  refine PySem.W.methodCall_KW (pl := pl) (thn (he.run pins s σ H _ I h) fun u s1 ⟨x, H1, I1, rx, a, dx, fs, ex, ea, l, q⟩ => ?_) ht
  subst ex
  obtain rfl : u = Value.ref a := rx
  refine getmeth_ok I1 ea c hm l ?_
  refine PySem.W.callWith_K (first := [.ref a]) (h₀ := X.base) I.ok.mod.kin hm.kp (thn (ha.run pos pins s1 σ H1 _ I1 q) fun us s2 ⟨vs, H2, I2, r, q2⟩ => ⟨I2.kIn, ?_⟩) hst hpl
  exact run_fnSD (us := .ref a :: us) (vs := .ref a :: vs) F hr hb hd (hx σ) I2 (.cons rfl r) q2
def xMeth (C : Addr) (m : Str) (d : DSpX) (dds : List D) (wo : WE) (wa : WA) : WEx := fun R ρ μ P => wo ρ μ fun x μ1 => match insD μ1 x with
  | some (C', fs) => C' = C ∧ look fs m = none ∧ wa ρ μ1 fun ds μ2 => d (x :: (ds ++ dds)) μ2 P fun C fs μ' => R C fs ρ μ'
  | none => False
theorem xe_met {pl : Sem Bool} (tk : Takes X W) (c : DMetX X.prog X.w X.K X.mg X.base k C m d dds) (hr : Room j X.A) (hk : k ≤ j) (ho : DE X o wo) (ha : DA X (e :: es) wa)
    (hst : starEach (e :: es) X.env = (false, eval e X.env) :: starEach es X.env := by rfl) (hpl : (backTo pos (starEach es X.env)).any (·.1) = false := by rfl)
    (ht : eval (.Call (.Attribute o m apos) (e :: es) [] pos) X.env = (do
      let ov ← eval o X.env
      standAt apos.atName
      let (f, first) ← holding [ov] (getMethod ov m pl)
      callWith pos f first (backTo pos (starEach (e :: es) X.env)) (backToKw pos (keywordEach [] X.env))) := by rfl) : XE X W (.Call (.Attribute o m apos) (e :: es) [] pos) (xMeth C m d dds wo wa) := by
  obtain ⟨f, fd, ps, ds, dvs, hc, hm, F, b, vd, rd⟩ := c.ex
  refine ⟨wkE (pe_methS (pl := pl) (E := L2.WE W) ho.p hc hm F (hr.mono hk) b vd (fun σ => passAt tk σ) ha.p hst hpl ht) fun σ H Q ⟨ρ, μ, G, P, R, hr, hm, hw, htl, tx⟩ => ⟨ρ, μ, G, _, hr, hm, hw, fun x μ1 v1 H1 G1 p1 e1 m1 r1 => ?_⟩⟩
  split at p1
  · rename_i C' fs q
    obtain ⟨rfl, hl, p⟩ := p1
    obtain ⟨a, dx, vs, rfl, h1, k1, r2⟩ := insD_ok q m1 r1
    refine ⟨a, dx, vs, rfl, h1, by rw [lookup_look]; exact (look_keys (k := m) k1 r2).2 hl, ⟨ρ, μ1, G1, _, hr.mono e1, m1, p, fun ds μ2 vs2 H2 G2 p2 e2 m2 r3 => ⟨x :: (ds ++ dds), μ2, G2, P, _, .cons (r1.mono e2) (r3.append (rd G2)), m2, p2, htl.mono (e1.trans e2), tellsE ((hr.mono e1).mono e2) (tx.mono (e1.trans e2))⟩⟩⟩
  · exact p1.elim
theorem run_makeS {CX : CXT} {f : Addr} {fd : FuncData} {ps : List Str} {sp : Sp} {ds : List Value} {dvs : List V} {E : L2.St → XK} {pins : List (Addr × Obj)} {σ : L2.St} {H : Hp} {s : Shared} {Q : VK} {us : List Value} {vs : List V} (M : Mk X.K C f) (F : FnOk X.prog X.w X.K X.mg X.base CX k f fd ps sp) (hr : Room (k + 1) X.A) (hb : Binds X.K fd ps ds) (hd : Vals dvs ds)
    (hx : PassesAt CX X σ (E σ)) (I : Inv X pins σ H s) (r : Vals vs us)
    (h : ∀ x dx, H x = none → H dx = none → dx ≠ x → sp (.ref x :: (vs ++ dvs)) (upd (upd H dx (.own x)) x (.ins C dx [])) (fun v H2 => v = .non ∧ Q (.ref x) H2) (E σ)) :
    wpAny (model X.prog X.w) X.A (call (.ref C) us) (EP X pins σ Q) X.xe s := by
  have hq := h (s.heap.objs.size + 1) s.heap.objs.size (I.hok.fresh (Nat.le_succ _)) (I.hok.fresh (Nat.le_refl _)) (Nat.ne_of_lt (Nat.lt_succ_self _))
  have I2 := Inv.made (C := C) I
  have r2 : Vals (V.ref (s.heap.objs.size + 1) :: (vs ++ dvs)) (Value.ref (s.heap.objs.size + 1) :: (us ++ ds)) := .cons rfl (r.append hd)
  have hl : (Value.ref (s.heap.objs.size + 1) :: us ++ ds).length = ps.length := by
    have e := r2.length
    rw [F.len _ _ _ _ hq] at e
    exact e.symm
  refine wpAny_call (make_map (f := f) I.kIn M.makes M.init (beq_iff_eq.mp M.fn) (codeAny_mono (F.run _ X.stack _ _ ⟨Value.ref (s.heap.objs.size + 1) :: us, []⟩ (Value.ref (s.heap.objs.size + 1) :: (us ++ ds)) _ _ (E σ) (hr.make C us [])
    (I2.env0.make C us []) (hb _ (Value.ref (s.heap.objs.size + 1) :: us) I2.kIn hl) r2 hq) fun r s' hq' => ?_))
  cases r with
  | error e => exact hx pins _ _ e s' I2 hq'
  | ok fl =>
    cases fl with
    | ret u =>
      obtain ⟨v, H', I3, rv, ev, q3⟩ := I2.after hq'
      subst ev
      exact ⟨rv, ⟨V.ref (s.heap.objs.size + 1), H', I3, rfl, q3⟩⟩
    | next => exact False.elim hq'
    | brk => exact False.elim hq'
    | cont => exact False.elim hq'
def xMake (C : Addr) (d : DSpX) (dds : List D) (wa : WA) : WEx := fun R ρ μ P => wa ρ μ fun ds μ1 => ∀ x, μ1 x = none → d (.ref x :: (ds ++ dds)) (setS μ1 x (.ins C [])) (fun r μ2 => r = .non ∧ ∃ fs, μ2 x = some (.ins C fs) ∧ P (.obj C fs) (delS μ2 x)) fun C fs μ' => R C fs ρ μ'
theorem xe_mak (tk : Takes X W) (c : DMakX X.prog X.w X.K X.mg X.base k x C d dds) (hr : Room j X.A) (hk : k + 1 ≤ j) (hg : Gl X x) (ha : DA X (e :: es) wa) (hdb : (x == ("__debug__" : Str)) = false := by decide)
    (he : starEach (e :: es) X.env = (false, eval e X.env) :: starEach es X.env := by rfl) (hpl : (backTo pos (starEach es X.env)).any (·.1) = false := by rfl) : XE X W (.Call (.Name x p) (e :: es) [] pos) (xMake C d dds wa) := by
  obtain ⟨f, fd, ps, ds, dvs, M, F, hm, b, vd, rd⟩ := c.ex
  refine ⟨⟨fun pins s σ H Q I h => ?_⟩⟩
  refine wpAny_Call_Name_kw (ld_glob I hg hm ?_ hdb)
  obtain ⟨ρ, μ, G, P, R, he', hm', hw, ht, tx⟩ := h
  refine PySem.W.callWith_K (h₀ := X.base) I.ok.mod.kin M.kp (thn (ha.p.run pos pins s σ H (fun vs H1 => ∀ x dx, H1 x = none → H1 dx = none → dx ≠ x → LSpX X.K d (.ref x :: (vs ++ dvs)) (upd (upd H1 dx (.own x)) x (.ins C dx [])) (fun v H2 => v = .non ∧ Q (.ref x) H2) (fun cls d H => W cls d σ H)) I
    ⟨ρ, μ, G, _, he', hm', hw, fun ds μ1 vs H1 G1 p1 e1 m1 r1 => fun x dx hx hdx hn => ⟨_, _, G1, _, _, .cons (.ref x) (r1.append (rd G1)), made_sm m1 hx hdx hn, p1 x (m1.nn hx), fun r μ2 v H2 G2 ⟨er, fs, q, p⟩ e2 m2 rv => by
      subst er
      cases rv
      obtain ⟨G3, m3, e3, r3⟩ := m2.freezeI q
      exact ⟨rfl, ht _ _ _ _ _ p ((e1.trans e2).trans e3) m3 r3⟩, tellsE (he'.mono e1) (tx.mono e1)⟩⟩) fun us s1 ⟨vs, H1, I1, r, q⟩ => ⟨I1.kIn, ?_⟩) he hpl
  exact run_makeS (E := L2.WE W) M F (hr.mono hk) b vd (passAt tk σ) I1 r q
end
/-! ### the __init__ of an error -/
section
variable {P : Program} {w : World} {K : PySem.W.Frag} {mg : Str → Option Value} {base : Heap} {qual y f t : Str} {st : Stmt} {fI C : Addr} {fd : FuncData} {k : Nat} {p6 p7 p8 p9 p10 : Pos}
theorem visP {N ps : List Str} {sc : Scope} (S : FnScope N ps sc) {x : Str} (h : x ∈ ps) : Vis sc x := by
  rcases S.par x h with h | h
  · exact .inl h
  · exact .inr (.inl h)
theorem exc_fn0 {e1 : Expr} (F : FnAt K "__init__" qual st [] fI fd) (S : FnScope ["self"] ["self"] (defScope st)) (T : OexC K C) (hb : defBody st = [.Expr e1 p6])
    (h1 : ∀ (f : Addr) (cdv : Value) (A : Around) (outer : List PySem.Env) (s : Shared) (H : Hp) (E : XK), PE (cxOf CX0 P w K mg base ["self"] qual (defScope st) f cdv A outer s H E) e1 (tVeI K (tCons (tVar 0) (tCons (tC (.str t)) tNil))))
    (hs : ∀ env : PySem.Env, swapsWith e1 none p6.line env = pure false) : FnOk P w K mg base CX0 (k + 1) fI fd ["self"] (SpI0 C) := by
  obtain ⟨oc, od, dV, kV, doc, pm, an, cdv, ct, osl, rfl, lk, hcd, _⟩ := F.ex
  refine fn_of lk hcd S (fun vs H Q E ⟨a, e, _⟩ => by rw [e]; rfl) fun A outer s H vs Q E hr ⟨a, e, ha, q⟩ => ?_
  rw [hb]
  refine ⟨_, pss_one (ps_expr (h1 _ _ _ _ _ _ _) (hs _)), ?_⟩
  subst e
  exact ⟨_, rfl, a, C, [.str t], rfl, (by decide : 1 ≤ 1000), T, ha, q⟩
theorem exc_fn1 {e1 : Expr} (F : FnAt K "__init__" qual st [] fI fd) (S : FnScope ["self", y] ["self", y] (defScope st)) (T : OexC K C) (hno : PySem.W.findIn K (.ref C) f = some none)
    (hb : defBody st = [.Expr e1 p6, .Assign [.Attribute (.Name "self" p7) f p8] (.Name y p9) p10])
    (h1 : ∀ (f : Addr) (cdv : Value) (A : Around) (outer : List PySem.Env) (s : Shared) (H : Hp) (E : XK), PE (cxOf CX0 P w K mg base ["self", y] qual (defScope st) f cdv A outer s H E) e1 (tVeI K (tCons (tVar 0) (tCons (tC (.str t)) tNil))))
    (hs : ∀ env : PySem.Env, swapsWith e1 none p6.line env = pure false) (hy : (y == ("__debug__" : Str)) = false) (hy2 : (y == ("__classdict__" : Str)) = false) : FnOk P w K mg base CX0 (k + 1) fI fd ["self", y] (SpI1 C f) := by
  obtain ⟨oc, od, dV, kV, doc, pm, an, cdv, ct, osl, rfl, lk, hcd, _⟩ := F.ex
  refine fn_of lk hcd S (fun vs H Q E ⟨a, v, e, _⟩ => by rw [e]; rfl) fun A outer s H vs Q E hr ⟨a, v, e, ha, q⟩ => ?_
  rw [hb]
  refine ⟨_, pss_cons (ps_expr (h1 _ _ _ _ _ _ _) (hs _)) (pss_one (ps_ost (pe_var (i := 0) rfl (visP S (by simp)) (by decide) (by decide)) (pe_var (i := 1) rfl (visP S (by simp)) hy hy2))), ?_⟩
  subst e
  exact ⟨_, rfl, a, C, [.str t], rfl, (by decide : 1 ≤ 1000), T, ha, _, rfl, _, rfl, a, C, rfl, T, hno, .inl ⟨ha, q⟩⟩
end
/-! ### try: .. except X as e: .. -/
def oIsE (K : PySem.W.Frag) (a : Addr) (cls : Value) (d : Option Addr) : OC := fun ds μ P => ∃ (C B : Addr) (fs : List (Str × D)) (b : Bool), ds = [.exc a d C fs, .ref B] ∧ cls = .ref C ∧ L2.ExcC K C ∧ PySem.W.kitOne K (.ref C) (.ref B) = some b ∧ P (.bl b) μ
def rIsE2 (K : PySem.W.Frag) (a : Addr) (cls : Value) (d : Option Addr) : List V → Hp → VK → Prop := fun xs H Q => ∃ (C B : Addr) (b : Bool), xs = [.ref a, .ref B] ∧ cls = .ref C ∧ L2.ExcC K C ∧ (∀ dd, d = some dd → ∃ fs, H dd = some (.xd fs)) ∧ PySem.W.kitOne K (.ref C) (.ref B) = some b ∧ Q (.bl b) H
theorem call_isE2 {X : Cx} {a : Addr} {cls : Value} {d : Option Addr} {oe : Obj} {pn : List (Addr × Obj)} (hz : Zc cls d oe) (hf : ∃ vs, oe.data = .fields vs) : CallR (X.suite a ((a, oe) :: pn)) (.builtin "isinstance") (rIsE2 X.K a cls d) := by
  intro pins s σ H xs us Q I r h
  obtain ⟨C, B, b, rfl, rfl, c, hx, e, q⟩ := h
  cases r with
  | cons rx rr =>
    cases rr with
    | cons rt rr =>
      cases rr
      cases rx
      rename_i u
      have eu : u = Value.ref B := rt
      subst eu
      obtain ⟨hget, _⟩ := I.pin (a, oe) (List.mem_append.mpr (.inl List.mem_cons_self))
      obtain ⟨vs, hv⟩ := hf
      have J : ∃ od, PySem.W.InstAt s.heap a oe C od := by
        cases d with
        | none =>
          refine ⟨none, ?_⟩
          obtain ⟨oc, od, oda, osl⟩ := oe
          obtain ⟨h1, h2⟩ := hz
          dsimp only at h1 h2 hv
          subst h1 h2 hv
          exact ⟨hget, rfl, rfl, trivial⟩
        | some dd =>
          obtain ⟨fs, ea⟩ := hx dd rfl
          have hx : ObjOk X.prog X.w H s.heap dd (.xd fs) := I.hok dd _ ea
          obtain ⟨mA, hns, hr⟩ := hx
          obtain ⟨od, ho, hl⟩ := lookIn_ns hns
          exact ⟨some od, hget, hz.1, by unfold PySem.W.notCls; rw [hv] <;> rfl, by rw [hz.2]; exact ho⟩
      obtain ⟨od, J⟩ := J
      obtain ⟨cd, hc, _⟩ := PySem.W.any_some c.hd
      exact PySem.W.kia_one (PySem.W.kitx_exc (by rw [hc]; rfl) c.hg c.hk c.hs c.ha c.hn c.ht c.hm) I.kIn J e (fun z => nomatch z) fun tk => ⟨.bl b, H, I.kept (t' := tk) fun _ _ z => z, rfl, q⟩
theorem exc_hx {K : PySem.W.Frag} {G H : Hp} {a C : Addr} {d : Option Addr} {fs : List (Str × D)} {v : V} {μ : Store} (m : Sm K μ G H) (r : Rp K G (.exc a d C fs) v) : v = .ref a ∧ ∀ dd, d = some dd → ∃ vs, H dd = some (.xd vs) ∧ vs.map (·.1) = fs.map (·.1) ∧ Rps K G (fs.map (·.2)) (vs.map (·.2)) := by
  cases r with
  | excN => exact ⟨rfl, fun _ z => nomatch z⟩
  | excD h k r => exact ⟨rfl, fun dd z => by cases z; exact ⟨_, m.ex _ _ h, k, r⟩⟩
theorem cs_isE {X : Cx} {a : Addr} {cls : Value} {d : Option Addr} {oe : Obj} {pn : List (Addr × Obj)} (hz : Zc cls d oe) (hf : ∃ vs, oe.data = .fields vs) : CallS (X.suite a ((a, oe) :: pn)) (.builtin "isinstance") (oIsE X.K a cls d) := by
  refine ⟨_, call_isE2 hz hf, ?_⟩
  intro ds μ P G H vs Q h m r t
  obtain ⟨C, B, fs, b, rfl, rfl, c, e, p⟩ := h
  cases r with | cons r1 r2 =>
  cases r2 with | cons r2 r3 =>
  cases r3
  cases r2
  obtain ⟨rfl, hx⟩ := exc_hx m r1
  exact ⟨C, B, b, rfl, rfl, c, fun dd z => (hx dd z).imp fun _ h => h.1, e, t _ _ _ _ _ p (Ex.refl _) m (.bl _)⟩
/-- e.f of the error that the suite holds -/
def wXf (K : PySem.W.Frag) (a : Addr) (cls : Value) (d : Option Addr) (f : Str) (we : WE) : WE := fun ρ μ P => we ρ μ fun x μ1 => ∃ (C dd : Addr) (fs : List (Str × D)) (v : D), x = .exc a d C fs ∧ d = some dd ∧ cls = .ref C ∧ L2.ExcC K C ∧ PySem.W.findIn K (.ref C) f = some none ∧ look fs f = some v ∧ P v μ1
theorem de_xf {X : Cx} {a : Addr} {cls : Value} {d : Option Addr} {oe : Obj} {pn : List (Addr × Obj)} {e : Expr} {we : WE} {pos : Pos} {f : Str} (hz : Zc cls d oe) (hf : ∃ vs, oe.data = .fields vs) (h : DE (X.suite a ((a, oe) :: pn)) e we)
    (hb : attributeBase e f X.env (eval e X.env) = eval e X.env := by rfl) : DE (X.suite a ((a, oe) :: pn)) (.Attribute e f pos) (wXf X.K a cls d f we) := by
  refine ⟨⟨fun pins s σ H Q I h2 => ?_⟩⟩
  refine attr_of hb (thn (h.p.run pins s σ H (fun x H1 => x = .ref a ∧ ∃ (C dd : Addr) (fs : List (Str × V)) (v : V), d = some dd ∧ cls = .ref C ∧ L2.ExcC X.K C ∧ PySem.W.findIn X.K (.ref C) f = some none ∧ H1 dd = some (.xd fs) ∧ fs.lookup f = some v ∧ Q v H1) I ?_) fun u s1 hh => ?_)
  · obtain ⟨ρ, μ, G, P, he, hm, hw, ht⟩ := h2
    refine ⟨ρ, μ, G, _, he, hm, hw, fun x μ1 v1 H1 G1 p1 e1 m1 r1 => ?_⟩
    obtain ⟨C, dd, fs, v, rfl, rfl, rfl, c, hno, hl, p⟩ := p1
    obtain ⟨rfl, hx⟩ := exc_hx m1 r1
    obtain ⟨vs, ea, k1, r2⟩ := hx dd rfl
    obtain ⟨v2, hv2, rv⟩ := (look_keys (k := f) k1 r2).1 v hl
    exact ⟨rfl, C, dd, vs, v2, rfl, rfl, c, hno, ea, by rw [lookup_look]; exact hv2, ht _ _ _ _ _ p e1 m1 rv⟩
  · obtain ⟨x, H1, I1, rx, ex, C, dd, fs, v, ed, ec, c, hno, ea, l, q⟩ := hh
    subst ex
    obtain rfl : u = Value.ref a := rx
    subst ec
    subst ed
    obtain ⟨ha, _⟩ := I1.pin (a, oe) (List.mem_append_left _ List.mem_cons_self)
    obtain ⟨vs, hd⟩ := hf
    have hx : ObjOk X.prog X.w H1 s1.heap dd (.xd fs) := I1.hok dd _ ea
    obtain ⟨mA, hns, hr⟩ := hx
    obtain ⟨od, ho, hl⟩ := lookIn_ns hns
    obtain ⟨u, hu, ru⟩ := RelO.some_of (v := v) (o := mA f) (by rw [← l]; exact hr f)
    have J : PySem.W.InstAt s1.heap a oe C (some od) := ⟨ha, hz.1, by unfold PySem.W.notCls; rw [hd] <;> rfl, by rw [hz.2]; exact ho⟩
    exact HandSPX.exc_get I1.kIn J c.hg c.hk c.hs (PySem.W.findObj_own c.hd hno rfl (by rw [hl, hu])) (handed_of ru) ⟨v, H1, I1.tok _, ru, q⟩
/-- the catch: every error of the body is of the class Cc -/
def wTryAs (K : PySem.W.Frag) (Cc : Addr) (i : Nat) (wb : WSx) (ws : Addr → Value → Option Addr → WS) : WS := fun W ρ μ =>
  wb (fun C fs ρ' μ' => PySem.W.exmOne K (.ref C) (.ref Cc) = some true ∧ ∀ a d, (d = none → fs = []) → ws a (.ref C) d { nx := fun ρ2 μ2 => W.nx (ρ2.set i none) μ2, rt := W.rt, bk := fun ρ2 μ2 => W.bk (ρ2.set i none) μ2, ct := fun ρ2 μ2 => W.ct (ρ2.set i none) μ2 } (ρ'.set i (some (.exc a d C fs))) μ') W ρ μ
theorem ds_tryAs {X : Cx} {x n : Str} {Cc : Addr} {i : Nat} {body suite : List Stmt} {b₀ : Stmt} {np pos pos' : Pos} {wb : WSx} {ws : Addr → Value → Option Addr → WS} (hs : X.stack = X.env :: X.outer) (hf : X.env.frame = some X.env.locals) (hN : X.N.Nodup) (hi : X.N[i]? = some n) (hln : X.env.kindOf n = some .local) (hc : Names X x (.ref Cc))
    (hb : ∀ (W : WX) (pn : List (Addr × Obj)) (xe : Value → Shared → Prop), Takes (X.tr pn xe) W → PassesOwn (model X.prog X.w) X.A X.env xe → XSs (X.tr pn xe) W body wb)
    (hsu : ∀ (a : Addr) (oe : Obj) (cls : Value) (d : Option Addr) (pn : List (Addr × Obj)), Zc cls d oe → (∃ vs, oe.data = .fields vs) → DSs (X.suite a ((a, oe) :: pn)) (b₀ :: suite) (ws a cls d)) :
    DS X (.Try body [.ExceptHandler (some (.Name x np)) (some n) (b₀ :: suite) pos'] [] [] pos) (wTryAs X.K Cc i wb ws) := by
  refine ⟨wkS (ps_try_as (tb := fun W => LSx X.K W wb) (ts := fun a cls d => LS X.K (ws a cls d)) (Wout := fun _ _ _ _ => False) hs hf hN hi hln hc takes0 (fun W pn xe tk po => (hb W pn xe tk po).p) (fun a oe cls d pn hz hfl => (hsu a oe cls d pn hz hfl).p)) fun D σ H ⟨ρ, μ, G, W, he, hm, hw, ht⟩ => ?_⟩
  refine ⟨ρ, μ, G, W, _, he, hm, hw, ht, fun C fs d ρ' μ' σ' H' G' p e er m xr => ?_⟩
  obtain ⟨h1, h2⟩ := p
  refine ⟨true, h1, fun _ a ha => ⟨_, μ', G', _, er.set i ?_, m, h2 a d (fun z => by rcases xr with ⟨_, h⟩ | ⟨dd, _, h, _⟩; exact h; rw [h] at z; cases z), ⟨fun ρ2 μ2 σ2 H2 G2 p e2 r m2 => ht.nx _ _ _ _ _ p (e.trans e2) (r.unset i) m2, fun d μ2 v H2 G2 p e2 m2 r => ht.rt _ _ _ _ _ p (e.trans e2) m2 r,
    fun ρ2 μ2 σ2 H2 G2 p e2 r m2 => ht.bk _ _ _ _ _ p (e.trans e2) (r.unset i) m2, fun ρ2 μ2 σ2 H2 G2 p e2 r m2 => ht.ct _ _ _ _ _ p (e.trans e2) (r.unset i) m2⟩⟩, fun z => nomatch z⟩
  rcases xr with ⟨rfl, rfl⟩ | ⟨dd, vs, rfl, g, k, r⟩
  · exact .excN a C
  · exact .excD g k r
/-! ### a sign in a text -/
def oInCW (f : Bool → Bool) : OD := fun x y μ P => ∃ (c : Nat) (z : Str), x = .str ⟨#[c]⟩ ∧ y = .str z ∧ P (.bl (f (decide (c ∈ z.cps.toList)))) μ
def oInC : OD := oInCW fun b => b
def oNotInC : OD := oInCW fun b => !b
theorem os_inC {X : Cx} : OpS X (compareOp .In) oInC := by
  refine ⟨_, op_in_sign, ?_⟩
  intro x y μ P G H v u Q h m rx ry t
  obtain ⟨c, z, rfl, rfl, p⟩ := h
  cases rx; cases ry
  exact ⟨c, z, rfl, rfl, t _ _ _ _ _ p (Ex.refl _) m (.bl _)⟩
theorem os_notInC {X : Cx} : OpS X (compareOp .NotIn) oNotInC := by
  refine ⟨_, op_notIn_sign, ?_⟩
  intro x y μ P G H v u Q h m rx ry t
  obtain ⟨c, z, rfl, rfl, p⟩ := h
  cases rx; cases ry
  exact ⟨c, z, rfl, rfl, t _ _ _ _ _ p (Ex.refl _) m (.bl _)⟩
/-! ### facts of the errors' classes -/
theorem kit_ref {K : PySem.W.Frag} {C B : Addr} {b : Bool} (hd : PySem.W.hasDictIn K B = true) (ty : PySem.W.typeIn K (.ref B) = some (.type "type")) (su : PySem.W.subIn K (.ref C) (.ref B) = some b) (hcb : C = B → b = true) : PySem.W.kitOne K (.ref C) (.ref B) = some b := by
  unfold PySem.W.kitOne
  by_cases e : C = B
  · rw [if_pos (by rw [e]; exact beq_self_eq_true _), hcb e]
  · rw [if_neg (by intro z; exact e (Value.ref.inj (beq_iff_eq.mp z)))]
    obtain ⟨cd, hc, _⟩ := PySem.W.any_some hd
    have e2 : ((PySem.W.clsIn K B).isSome && PySem.W.typeIn K (.ref B) == some (.type "type")) = true := by rw [hc, ty] <;> rfl
    show (if ((PySem.W.clsIn K B).isSome && PySem.W.typeIn K (.ref B) == some (.type "type")) = true then PySem.W.subIn K (.ref C) (.ref B) else none) = some b
    rw [if_pos e2]
    exact su
theorem de_ecls {X : Cx} {x : Str} {C : Addr} {p : Pos} (g : X.mg x = some (.ref C)) (hg : Gl X x := by rfl) (hd : (x == ("__debug__" : Str)) = false := by decide) : DE X (.Name x p) (wC (.ref C)) := de_c (pe_glob hg g (show RelV (.ref C) (.ref C) from rfl) hd) fun _ => .ref C
theorem oexC_mk {K : PySem.W.Frag} {nm q : Str} {C N : Addr} {bs bm : List Value} {sn : List Str} {sub : List Value} {ab : Bool} {col : Option Bool} {dd : Option Addr} {k0 k1 k2 k3 k5 : Option Value} (l : K.lookup C = some (excClassObj nm q C N bs bm true sn sub ab col dd k0 k1 k2 k3 k5 "ValueError.__new__")) (h : PySem.HandSPX.refsVE bm = true)
    (sa : PySem.W.findIn K (.ref C) "__setattr__" = some (some (.builtin "object.__setattr__"))) (exC : PySem.W.subIn K (.ref C) (.type "BaseException") = some true) (tyC : PySem.W.typeIn K (.ref C) = some (.type "type")) (kC : PySem.W.keepIn K (.ref C) = true) : OexC K C :=
  ⟨⟨nm, q, N, bs, bm, sn, sub, ab, col, dd, k0, k1, k2, k3, k5, l, h⟩, sa, exC, tyC, kC⟩
end Dl

namespace Dl
open PySem L2
section
variable {X : Cx}
/-! ### a dict that is only read from now on -/
def wLkD (we : WE) : WE := fun ρ μ P => we ρ μ fun d μ1 => match d with
  | .ref a => (match μ1 a with | some (.dct kvs) => P (.dcl kvs) (delS μ1 a) | _ => False)
  | _ => False
theorem lock_sm {K : PySem.W.Frag} {μ : Store} {G H : Hp} {a : Addr} {kvs : List (Key × D)} (m : Sm K μ G H) (q : μ a = some (.dct kvs)) : ∃ vs : List (Key × V), G a = none ∧ H a = some (.dK vs) ∧ vs.map (·.1) = kvs.map (·.1) ∧
    ∀ od, Sm K (delS μ a) (upd G a (.frz od (.dK vs))) (upd H a (.frz od (.dK vs))) ∧ Ex G (upd G a (.frz od (.dK vs))) ∧ Rp K (upd G a (.frz od (.dK vs))) (.dcl kvs) (.ref a) := by
  obtain ⟨h0, vs, h1, ek, rr⟩ := m.st a _ q
  refine ⟨vs, h0, h1, ek, fun od => ⟨⟨m.ex.upd2 a _, fun b c hb => ?_⟩, Ex.new h0, .dcl upd_same ek (rr.mono (Ex.new h0))⟩⟩
  have hne : b ≠ a := by rintro rfl; rw [delS_same] at hb; cases hb
  rw [delS_ne hne] at hb
  obtain ⟨k1, k2⟩ := m.st b c hb
  exact ⟨by rw [upd_ne hne]; exact k1, k2.mono (Ex.new h0) (upd_ne hne)⟩
theorem de_lkD {e : Expr} {we : WE} (h : DE X e we) : DE X e (wLkD we) :=
  ⟨wkE (pe_lockR h.p) fun σ H Q ⟨ρ, μ, G, P, he, hm, hw, ht⟩ => ⟨ρ, μ, G, _, he, hm, hw, fun x μ1 v H1 G1 p e1 m r => by
    split at p
    · rename_i a
      cases r
      split at p
      · rename_i kvs q
        obtain ⟨vs, h0, h1, ek, k⟩ := lock_sm m q
        refine ⟨a, vs, rfl, h1, fun od => ?_⟩
        obtain ⟨m2, e2, r2⟩ := k od
        exact ht _ _ _ _ _ p (e1.trans e2) m2 r2
      · exact p.elim
    · exact p.elim⟩⟩
/-- its keys, one behind another -/
def wiKeysL (we : WE) : WI := fun ρ μ P => we ρ μ fun d μ1 => match d with
  | .dcl kvs => P (kvs.map fun kv => keyV kv.1) μ1
  | _ => False
theorem di_keysL {tg e : Expr} {we : WE} (h : DE X e we) : DI X tg e (wiKeysL we) :=
  ⟨wkI (pi_keys h.p) fun σ H R ⟨ρ, μ, G, P, he, hm, hw, ht⟩ => ⟨ρ, μ, G, _, he, hm, hw, fun x μ1 v H1 G1 p e1 m r => by
    split at p
    · rename_i kvs
      cases r with
      | dcl h1 ek rr => exact ⟨_, _, rfl, .inl ⟨_, m.ex _ _ h1, ht _ _ _ _ _ p e1 m (walk_k h1 ek)⟩⟩
    · exact p.elim⟩⟩
/-! ### key in dict -/
def dctD (μ : Store) : D → Option (List (Key × D))
  | .dct kvs => some kvs
  | .dcl kvs => some kvs
  | .ref a => (match μ a with | some (.dct kvs) => some kvs | _ => none)
  | _ => none
theorem dctD_ok {K : PySem.W.Frag} {μ : Store} {G H : Hp} {d : D} {v : V} {kvs : List (Key × D)} (h : dctD μ d = some kvs) (m : Sm K μ G H) (r : Rp K G d v) :
    ∃ a kv, v = .ref a ∧ Rd H a (.dK kv) ∧ kv.map (·.1) = kvs.map (·.1) ∧ Rps K G (kvs.map (·.2)) (kv.map (·.2)) := by
  cases r with
  | dct h1 k r1 => cases h; exact ⟨_, _, rfl, .inl (m.ex _ _ h1), k, r1⟩
  | dcl h1 k r1 => cases h; exact ⟨_, _, rfl, .inr ⟨_, m.ex _ _ h1⟩, k, r1⟩
  | ref a =>
    unfold dctD at h
    dsimp only at h
    cases q : μ a with
    | none => rw [q] at h; cases h
    | some c =>
      rw [q] at h
      cases c with
      | dct xs => cases h; obtain ⟨_, kv, h1, k, r1⟩ := m.st a _ q; exact ⟨a, kv, rfl, .inl h1, k, r1⟩
      | _ => cases h
  | _ => cases h
def oInDW (f : Bool → Bool) : OD := fun x y μ P => match dctD μ y, keyD x with
  | some kvs, some k => P (.bl (f (look kvs k).isSome)) μ
  | _, _ => False
def oInD : OD := oInDW fun b => b
def oNotInD : OD := oInDW fun b => !b
theorem inD_ok {f : Bool → Bool} {x y : D} {μ : Store} {P : D → Store → Prop} {G H : Hp} {v u : V} {Q : VK} (h : oInDW f x y μ P) (m : Sm X.K μ G H) (rx : Rp X.K G x v) (ry : Rp X.K G y u) (t : Tells X.K G P Q) : ∃ a o, u = .ref a ∧ DGet H a v o ∧ Q (.bl (f o.isSome)) H := by
  unfold oInDW at h
  split at h
  · rename_i kvs k h1 h2
    obtain ⟨a, kv, rfl, hr, ek, rr⟩ := dctD_ok h1 m ry
    have ek2 := keyD_ok h2 rx
    subst ek2
    refine ⟨a, valV kv k, rfl, .inl ⟨_, _, hr, rfl, rfl⟩, ?_⟩
    obtain ⟨l1, l2⟩ := look_keys (k := k) ek rr
    have e : (valV kv k).isSome = (look kvs k).isSome := by
      rw [valV_look]
      cases q : look kvs k with
      | none => rw [l2 q]; rfl
      | some d => obtain ⟨w, hw, _⟩ := l1 d q; rw [hw]; rfl
    rw [e]
    exact t _ _ _ _ _ h (Ex.refl _) m (.bl _)
  · exact h.elim
theorem op_inD (hu : X.A.units + 1 < cLine) : OpR X (compareOp .In) (fun x y H Q => ∃ a o, y = .ref a ∧ DGet H a x o ∧ Q (.bl o.isSome) H) := by
  intro pins s σ H x y v u Q I rx ry h
  obtain ⟨a, o, rfl, g, q⟩ := h
  cases ry
  exact d_in hu I g rx fun s' I' => ⟨.bl o.isSome, H, I', rfl, q⟩
theorem op_notInD (hu : X.A.units + 1 < cLine) : OpR X (compareOp .NotIn) (fun x y H Q => ∃ a o, y = .ref a ∧ DGet H a x o ∧ Q (.bl (!o.isSome)) H) := by
  intro pins s σ H x y v u Q I rx ry h
  obtain ⟨a, o, rfl, g, q⟩ := h
  cases ry
  exact d_notIn hu I g rx fun s' I' => ⟨.bl (!o.isSome), H, I', rfl, q⟩
theorem os_inD (hu : X.A.units + 1 < cLine) : OpS X (compareOp .In) oInD := ⟨_, op_inD hu, fun h m rx ry t => inD_ok h m rx ry t⟩
theorem os_notInD (hu : X.A.units + 1 < cLine) : OpS X (compareOp .NotIn) oNotInD := ⟨_, op_notInD hu, fun h m rx ry t => inD_ok h m rx ry t⟩
end
/-! ### an expression that only looks through a dict that else changes: the slot i holds it meanwhile as locked; nothing that changes may be asked -/
def plainD : D → Prop
  | .non => True
  | .bl _ => True
  | .int _ => True
  | .str _ => True
  | _ => False
def wLkI (i : Nat) (we : WE) : WE := fun ρ μ P => ∃ a kvs, ρ.getD i none = some (.ref a) ∧ μ a = some (.dct kvs) ∧ we (ρ.set i (some (.dcl kvs))) (fun _ => none) fun d _ => plainD d ∧ P d μ
theorem rp_plain {K : PySem.W.Frag} {G G' : Hp} {d : D} {v : V} (h : plainD d) (r : Rp K G d v) : Rp K G' d v := by
  cases r <;> first | exact h.elim | constructor
theorem de_lkI {X : Cx} {e : Expr} {we : WE} {i : Nat} (h : DE X e we) : DE X e (wLkI i we) := by
  refine ⟨wkE (pe_lock h.p) fun σ H Q ⟨ρ, μ, G, P, he, hm, ⟨a, kvs, hi, ha, hw⟩, ht⟩ => ?_⟩
  obtain ⟨h0, vs, h1, ek, rr⟩ := hm.st a _ ha
  refine ⟨a, .dK vs, h1, trivial, fun od => ?_⟩
  -- all cells are held meanwhile as they stand
  have hG1 : ∃ G1 : Hp, G1 = fun b => if b = a then some (.frz od (.dK vs)) else match μ b with | some _ => H b | none => G b := ⟨_, rfl⟩
  obtain ⟨G1, hG1⟩ := hG1
  have e1 : Ex G G1 := fun b o hb => by
    have hne : b ≠ a := by rintro rfl; rw [h0] at hb; cases hb
    rw [hG1]
    show (if b = a then _ else match μ b with | some _ => H b | none => G b) = some o
    rw [if_neg hne]
    cases q : μ b with
    | none => exact hb
    | some c => exact hm.ex _ _ hb
  have x1 : Ex G1 (upd H a (.frz od (.dK vs))) := fun b o hb => by
    rw [hG1] at hb
    have hb : (if b = a then some (HO.frz od (.dK vs)) else match μ b with | some _ => H b | none => G b) = some o := hb
    by_cases hne : b = a
    · subst hne; rw [if_pos rfl] at hb; rw [upd_same]; exact hb
    · rw [if_neg hne] at hb
      rw [upd_ne hne]
      cases q : μ b with
      | none => rw [q] at hb; exact hm.ex _ _ hb
      | some c => rw [q] at hb; exact hb
  have ga : G1 a = some (.frz od (.dK vs)) := by rw [hG1]; exact if_pos rfl
  obtain ⟨u, hu1, hu2⟩ := he.2 i _ (getD_some hi)
  cases hu2
  have he1 : EnvR X.K G1 (ρ.set i (some (.dcl kvs))) σ := by
    have := (he.mono e1).set i (.dcl ga ek (rr.mono e1) : Rp X.K G1 (.dcl kvs) (.ref a))
    have es : σ.set i (some (.ref a)) = σ := by
      apply List.ext_getElem?
      intro j
      by_cases hj : i = j
      · subst hj
        have hl : i < σ.length := (List.getElem?_eq_some_iff.mp hu1).1
        rw [List.getElem?_set_self hl, hu1]
      · rw [List.getElem?_set_ne hj]
    rw [es] at this
    exact this
  refine ⟨_, fun _ => none, G1, _, he1, ⟨x1, fun b c z => nomatch z⟩, hw, fun d μ' v H' G' ⟨pd, p⟩ e' m' r => ?_⟩
  have keepC : ∀ b c, b ≠ a → μ b = some c → H' b = H b := fun b c hne q => by
    have hg : G1 b = H b := by
      rw [hG1]
      show (if b = a then _ else match μ b with | some _ => H b | none => G b) = _
      rw [if_neg hne, q]
    cases z : H b with
    | none => obtain ⟨_, k⟩ := hm.st b c q; obtain ⟨o, ho⟩ := k.there; rw [z] at ho; cases ho
    | some o => exact m'.ex _ _ (e' _ _ (hg.trans z))
  refine ⟨m'.ex _ _ (e' _ _ ga), ht d μ v _ G p (Ex.refl _) ⟨fun b o hb => ?_, fun b c q => ?_⟩ (rp_plain pd r)⟩
  · have hne : b ≠ a := by rintro rfl; rw [h0] at hb; cases hb
    rw [upd_ne hne]
    exact m'.ex _ _ (e' _ _ (e1 _ _ hb))
  · by_cases hne : b = a
    · subst hne
      rw [ha] at q
      cases q
      exact ⟨h0, vs, upd_same, ek, rr⟩
    · obtain ⟨k1, k2⟩ := hm.st b c q
      exact ⟨k1, k2.mono (Ex.refl _) (by rw [upd_ne hne]; exact keepC b c hne q)⟩
end Dl

namespace Dl
open PySem L2 PySem.Spec PyProof.Rows
/-! ### defs below which no repr is under way: the texts of lists and tuples -/
structure FnG (P : Program) (w : World) (K : PySem.W.Frag) (mg : Str → Option Value) (base : Heap) (k : Nat) (f : Addr) (fd : FuncData) (ps : List Str) (sp : Sp) : Prop where
  len : ∀ vs H Q E, sp vs H Q E → vs.length = ps.length
  go : ∀ (A : Around) (outer : List PySem.Env) (s : Shared) (H : Hp) (args : Args) (us : List Value) (vs : List V) (Q : VK) (E : XK), A.guards = some [] → Room k A → Env0 P w K mg base A outer s H → BindsTo s fd args (ps.zip us) → Vals vs us → sp vs H Q E →
    codeAny (model P w) A (.call (.ref f) args) (CR CX0 outer P w H s Q E) s
theorem leaves_G {P : Program} {w : World} {K : PySem.W.Frag} {mg : Str → Option Value} {base : Heap} {N : List Str} {qual : Str} {sc : Scope} {f : Addr} {cdv : Value} {A : Around} {outer : List PySem.Env} {s s' : Shared} {H : Hp} {Q : VK} {E : XK} {fl : Flow}
    (h : SP (cxOf CX0 P w K mg base N qual sc f cdv A outer s H E) [] { nx := fun _ H' => Q .non H', rt := Q } fl s') : match (fl : Flow) with | .ret u => CE outer P w H s Q u s' | .next => CE outer P w H s Q .none s' | _ => False := by
  have fin : ∀ {σ' : L2.St} {H' : Hp} {v : V} {u : Value}, Inv (cxOf CX0 P w K mg base N qual sc f cdv A outer s H E) [] σ' H' s' → RelV v u → Q v H' → CE outer P w H s Q u s' := fun J rv q => ⟨_, _, J.os, J.bare, J.base, J.hok, rv, q⟩
  cases fl with
  | ret u => exact let ⟨v, σ', H', J, rv, q⟩ := h; fin J rv q
  | next => exact let ⟨σ', H', J, q⟩ := h; fin (v := V.non) (u := Value.none) J rfl q
  | brk => exact let ⟨_, _, _, q⟩ := h; q.elim
  | cont => exact let ⟨_, _, _, q⟩ := h; q.elim
section
variable {P : Program} {w : World} {K : PySem.W.Frag} {mg : Str → Option Value} {base : Heap}
theorem FnAt.okG {x qual : Str} {st : Stmt} {dsV : List Value} {f : Addr} {fd : FuncData} {N ps : List Str} {k : Nat} {d : DSp} {ws : WS} (F : FnAt K x qual st dsV f fd) (S : FnScope N ps (defScope st)) (len : ∀ ds μ Q, d ds μ Q → ds.length = ps.length)
    (hb : ∀ (cdv : Value) (A : Around) (outer : List PySem.Env) (s : Shared) (H : Hp) (E : XK), A.guards = some [] → Room k (A.deeper (PyProof.Rows.envOfC qual (defScope st) s.heap.objs.size f cdv)) → DSs (cxOf CX0 P w K mg base N qual (defScope st) f cdv A outer s H E).nox (defBody st) ws)
    (ok : ∀ ds μ Q, d ds μ Q → ws { nx := fun _ μ' => ∃ μ2, Sub μ2 μ' ∧ Q .non μ2, rt := Q } (startD N ds) μ) : FnG P w K mg base (k + 1) f fd ps (LSp K d) := by
  obtain ⟨oc, od, dV, kV, doc, pm, an, cdv, ct, osl, rfl, lk, hcd, _⟩ := F.ex
  have len2 : ∀ vs H Q E, LSp K d vs H Q E → vs.length = ps.length := fun vs H Q E ⟨ds, μ, G, R, r, m, h, t⟩ => by rw [← r.length]; exact len _ _ _ h
  refine ⟨len2, fun A outer s H args us vs Q E hg hr e0 bd rv hsp => ?_⟩
  have nl := len2 _ _ _ _ hsp
  have KH : K.In s.heap := e0.mod.kin.keeps fun b o z => (e0.bs b o z).1
  have NL : s.heap.NoLimit := e0.mod.nolimit.keeps fun b o z => (e0.bs b o z).1
  have kinds : ∀ y ∈ ps.zip us, (defScope st).names.lookup y.1 = some .local ∨ ((defScope st).names.lookup y.1 = some .cell ∧ ((cellsFrom (s.heap.objs.size + 1) (defScope st).names []).lookup y.1).isSome = true) := by
    rintro ⟨n, v⟩ hy
    exact (S.par n (List.of_mem_zip hy).1).imp id fun q => ⟨q, PySem.W.cellsFrom_some _ _ _ (.inl q)⟩
  obtain ⟨ds, μ, G, R, rr, m, hd, t⟩ := hsp
  have body := hb cdv A outer s H E hg (hr.deeper _)
  have Lq : LS K ws { nx := fun _ H' => Q .non H', rt := Q } (L2.start N vs) H := ⟨startD N ds, μ, G, _, env_start rr, m, ok ds μ R hd, ⟨fun ρ' μ' σ' H' G' ⟨μ2, sb, p⟩ e _ m' => t _ _ _ _ _ p e (m'.sub sb) .non, fun d μ' v H' G' p e m' r' => t _ _ _ _ _ p e m' r', fun _ _ _ _ _ p => p.elim, fun _ _ _ _ _ p => p.elim⟩⟩
  refine codeAny_call_function hr.depth (KH _ _ lk) rfl S.co S.gen rfl (PySem.W.codeRec_of KH hcd) (bd _ _ _ _ (wpAny_newFunctionEnv_cells S.kind kinds fun env he s1 x => ?_))
  subst he
  have I0 := inv_start (CX := CX0) (E := E) S hr.hd e0 nl rv x
  refine ⟨NL.keeps x.toInCall.keep, codeAny_func (wpAny_mono (body.p.nox.run [] s1 _ H _ I0 Lq) (fun fl s' hs => ?_) fun e s' hs => hs)⟩
  have z := leaves_G hs
  cases fl <;> first | exact z | exact z.elim
end
section
variable {X : Cx} {k j : Nat} {f : Addr} {fd : FuncData} {ps : List Str} {sp : Sp} {dvs : List V} {ds : List Value} {x : Str} {p pos : Pos} {e : Expr} {es : List Expr} {t : TA} {d : DSp} {dds : List D} {wa : WA}
theorem run_G {pins : List (Addr × Obj)} {σ : L2.St} {H : Hp} {s : Shared} {Q : VK} {us : List Value} {vs : List V} (F : FnG X.prog X.w X.K X.mg X.base k f fd ps sp) (hg : X.A.guards = some []) (hr : Room k X.A) (hb : Binds X.K fd ps ds) (hd : Vals dvs ds)
    (I : Inv X pins σ H s) (r : Vals vs us) (h : sp (vs ++ dvs) H Q E0) : wpAny (model X.prog X.w) X.A (call (.ref f) us) (EP X pins σ Q) X.xe s := by
  have r2 := r.append hd
  have nl : (us ++ ds).length = ps.length := r2.length.symm.trans (F.len _ _ _ _ h)
  refine wpAny_call (codeAny_mono (F.go X.A X.stack s H ⟨us, []⟩ _ _ Q E0 hg hr I.env0 (hb s us I.kIn nl) r2 h) fun r s' hq => ?_)
  match r, hq with
  | .error e, hq => exact hq.elim
  | .ok (.ret u), hq => exact I.after hq
theorem pe_callG (F : FnG X.prog X.w X.K X.mg X.base k f fd ps sp) (hgd : X.A.guards = some []) (hr : Room k X.A) (hg : Gl X x) (hm : X.mg x = some (.ref f)) (hk : PySem.W.keepIn X.K (.ref f) = true) (hb : Binds X.K fd ps ds) (hd : Vals dvs ds)
    (ha : PA X (e :: es) t) (hdb : (x == ("__debug__" : Str)) = false := by decide) (he : starEach (e :: es) X.env = (false, eval e X.env) :: starEach es X.env := by rfl) (hpl : (backTo pos (starEach es X.env)).any (·.1) = false := by rfl) :
    PE X (.Call (.Name x p) (e :: es) [] pos) (tCall sp dvs E0 t) :=
  ⟨fun pins s σ H Q I h => wpAny_Call_Name_kw (ld_glob I hg hm (PySem.W.callWith_K (h₀ := X.base) I.ok.mod.kin hk (thn (ha.run pos pins s σ H _ I h) fun us s1 ⟨vs, H1, I1, r, q⟩ => ⟨I1.kIn, run_G F hgd hr hb hd I1 r q⟩) he hpl) hdb)⟩
structure DCalG (P : Program) (w : World) (K : PySem.W.Frag) (mg : Str → Option Value) (base : Heap) (k : Nat) (x : Str) (d : DSp) (dds : List D) : Prop where
  ex : ∃ (f : Addr) (fd : FuncData) (ps : List Str) (ds : List Value) (dvs : List V), FnG P w K mg base k f fd ps (LSp K d) ∧ mg x = some (.ref f) ∧ PySem.W.keepIn K (.ref f) = true ∧ Binds K fd ps ds ∧ Vals dvs ds ∧ ∀ G, Rps K G dds dvs
theorem DefAt.calG {P : Program} {w : World} {K : PySem.W.Frag} {mg : Str → Option Value} {base : Heap} {x : Str} {st : Stmt} {N ps : List Str} {k : Nat} {d : DSp} {ws : WS} (D : DefAt K mg x st) (S : FnScope N ps (defScope st)) (len : ∀ ds μ Q, d ds μ Q → ds.length = ps.length)
    (hb : ∀ {f : Addr} (cdv : Value) (A : Around) (outer : List PySem.Env) (s : Shared) (H : Hp) (E : XK), A.guards = some [] → Room k (A.deeper (PyProof.Rows.envOfC x (defScope st) s.heap.objs.size f cdv)) → DSs (cxOf CX0 P w K mg base N x (defScope st) f cdv A outer s H E).nox (defBody st) ws)
    (ok : ∀ ds μ Q, d ds μ Q → ws { nx := fun _ μ' => ∃ μ2, Sub μ2 μ' ∧ Q .non μ2, rt := Q } (startD N ds) μ)
    (h : ∀ (kV doc pm : Value) (an : Option Addr) (cdv ct : Value) (us : List Value), us.length = ps.length → bindArgs (PySem.W.fnOf x x (defArgs st) (defBody st) (defScope st) .none kV doc pm an cdv ct) ⟨us, []⟩ = pure (ps.zip us)) : DCalG P w K mg base (k + 1) x d [] := by
  obtain ⟨f, fd, F, m⟩ := D.ex
  exact ⟨f, fd, ps, [], [], (Fun.at F).okG S len (hb (f := f)) ok, m, F.kp, F.binds h, .nil, fun _ => .nil⟩
theorem de_calG (C : DCalG X.prog X.w X.K X.mg X.base k x d dds) (hgd : X.A.guards = some []) (hr : Room j X.A) (hk : k ≤ j) (hg : Gl X x) (ha : DA X (e :: es) wa) (hdb : (x == ("__debug__" : Str)) = false := by decide)
    (he : starEach (e :: es) X.env = (false, eval e X.env) :: starEach es X.env := by rfl) (hpl : (backTo pos (starEach es X.env)).any (·.1) = false := by rfl) : DE X (.Call (.Name x p) (e :: es) [] pos) (wCall d dds wa) := by
  obtain ⟨f, fd, ps, ds, dvs, F, m, kp, b, vd, rd⟩ := C.ex
  exact ⟨wkE (pe_callG F hgd (hr.mono hk) hg m kp b vd ha.p hdb he hpl) fun σ H Q ⟨ρ, μ, G, P, hr, hm, hw, ht⟩ => ⟨ρ, μ, G, _, hr, hm, hw, fun ds μ1 vs H1 G1 p1 e1 m1 r1 => ⟨ds ++ dds, μ1, G1, P, r1.append (rd G1), m1, p1, ht.mono e1⟩⟩⟩
end
/-! ### repr of plain data of any depth -/
def reprOk (p : PyData) : Prop := p.showable = true ∧ p.hasDict = false ∧ p.depth ≤ 64 ∧ p.shown.length ≤ sizeLine
section
variable {X : Cx}
theorem call_reprC (hg : X.A.guards = some []) (hu : X.A.units + 66 < cLine) : CallR X (.builtin "repr") (fun xs H Q => ∃ (a : Addr) (p : PyData), xs = [.ref a] ∧ Dp X.K H (.ref a) p ∧ reprOk p ∧ Q (.str p.shown) H) := by
  intro pins s σ H xs us Q I r h
  obtain ⟨a, p, rfl, hd, ⟨h1, h2, h3, h4⟩, q⟩ := h
  obtain ⟨u, rfl, ru⟩ := vals1 r
  cases ru
  obtain ⟨as, rs⟩ := Dp.reads I p _ _ hd rfl
  refine PySem.repr_of_reads' rs h1 (fun z => by rw [h2] at z; cases z) hg (by omega) (fun _ _ z => z) (fun h' u tk k => ?_) h4
  exact ⟨.str p.shown, H, I.kept (t' := tk) k, ⟨_, rfl⟩, q⟩
/-- .. of a list or a tuple -/
def oReprP : OC := fun ds μ P => match ds with
  | [.tup xs] => (match pyD (.tup xs) with | some p => reprOk p ∧ P (.str p.shown) μ | none => False)
  | [.lst xs] => (match pyD (.lst xs) with | some p => reprOk p ∧ P (.str p.shown) μ | none => False)
  | [.ref a] => (match pyS μ (.ref a) with | some p => reprOk p ∧ P (.str p.shown) μ | none => False)
  | _ => False
theorem reprP_ok {ds : List D} {μ : Store} {P : D → Store → Prop} {G H : Hp} {vs : List V} {Q : VK} (h : oReprP ds μ P) (m : Sm X.K μ G H) (r : Rps X.K G ds vs) (t : Tells X.K G P Q) :
    ∃ (a : Addr) (p : PyData), vs = [.ref a] ∧ Dp X.K H (.ref a) p ∧ reprOk p ∧ Q (.str p.shown) H := by
  unfold oReprP at h
  split at h
  · split at h
    · rename_i xs p hp
      cases r with
      | cons r1 r2 =>
        cases r2
        have k := pyD_ok m.ex r1 hp
        cases r1 with
        | tup h1 r1 => exact ⟨_, p, rfl, k, h.1, t _ _ _ _ _ h.2 (Ex.refl _) m (.str _)⟩
    · exact h.elim
  · split at h
    · rename_i xs p hp
      cases r with
      | cons r1 r2 =>
        cases r2
        have k := pyD_ok m.ex r1 hp
        cases r1 with
        | lst h1 r1 => exact ⟨_, p, rfl, k, h.1, t _ _ _ _ _ h.2 (Ex.refl _) m (.str _)⟩
    · exact h.elim
  · split at h
    · rename_i a p hp
      cases r with
      | cons r1 r2 =>
        cases r2
        have k := pyS_ok m r1 hp
        cases r1 with
        | ref a => exact ⟨_, p, rfl, k, h.1, t _ _ _ _ _ h.2 (Ex.refl _) m (.str _)⟩
    · exact h.elim
  · exact h.elim
def oReprA : OC := fun ds μ P => oRepr ds μ P ∨ oReprP ds μ P
theorem cs_reprA (hg : X.A.guards = some []) (hu : X.A.units + 66 < cLine) : CallS X (.builtin "repr") oReprA := by
  obtain ⟨r, hr, hs⟩ := cs_repr (X := X)
  refine ⟨_, CallR_or hr (call_reprC hg hu), fun {ds μ P G H vs Q} h m rs t => ?_⟩
  rcases h with h | h
  · exact .inl (hs h m rs t)
  · exact .inr (reprP_ok h m rs t)
end
/-! ### the head, for a law that prints lists and tuples -/
section
theorem law_goG {P : Program} {w : World} {K : PySem.W.Frag} {mg mb : Str → Option Value} {k : Nat} {fa a : Addr} {fd : FuncData} {x : Str} {sp : Sp} {s1 : Shared} {vs : List Value} {ns : List Int}
    (KX : K.In s1.heap) (nsG : s1.heap.Ns mainGlobals mg) (nsB : s1.heap.Ns builtinsNs mb) (hbb : ∀ x : Str, x ≠ "__name__" → mb x = bootBuiltins x) (lim : s1.heap.NoLimit) (hgen : s1.gens = #[])
    (ha : s1.heap.get? a = some { cls := .type "list", data := .seq vs.toArray }) (hi : IntsAre vs ns) (hl : ns.length ≤ sizeLine) (hr : Room k callerA)
    (F : ∀ base : Heap, K.In base → base.Ns mainGlobals mg → FnG P w K mg base k fa fd [x] sp) (hbind : ∀ (s : Shared) (u : Value), BindsTo s fd ⟨[u], []⟩ [(x, u)])
    (hsp : ∀ H : Hp, Only H → SqL K H a (ns.map V.int) → sp [.ref a] H (fun v _ => v = .bl true) E0) :
    codeAny (model P w) callerA (.call (.ref fa) ⟨[.ref a], []⟩) (fun r s' => r = .ok (.ret (.bool true)) ∧ OldK s1.heap s'.heap ∧ s'.os = s1.os ∧ AllBare s'.gens) s1 := by
  -- the abstract heap: nothing, or the script alone, which stays as it is
  have main : ∀ H : Hp, Only H → SqL K H a (ns.map V.int) → HOk P w H s1.heap → (∀ b, H b ≠ none → b = a ∧ K.lookup a = none) →
      codeAny (model P w) callerA (.call (.ref fa) ⟨[.ref a], []⟩) (fun r s' => r = .ok (.ret (.bool true)) ∧ OldK s1.heap s'.heap ∧ s'.os = s1.os ∧ AllBare s'.gens) s1 := by
    intro H hO hS hok hA
    have up : ∀ {b : Addr} {o : Obj}, s1.heap.get? b = some o → H b = none → (hidT s1.heap H).get? b = some o := fun z n => hidT_get z n
    have dictFree : ∀ {b : Addr} {o : Obj} {es : Array DictEntry} {ep : Nat}, s1.heap.get? b = some o → o.data = .dict es ep → H b = none := by
      intro b o es ep z dd
      cases q : H b with
      | none => rfl
      | some u =>
        have eb := (hA b (by rw [q]; simp)).1
        subst eb
        rw [ha] at z
        cases z
        cases dd
    have nsUp : ∀ {b : Addr} {m : Str → Option Value}, s1.heap.Ns b m → (hidT s1.heap H).Ns b m := fun ⟨o, es, ep, z, dd, r⟩ => ⟨o, es, ep, up z (dictFree z dd), dd, r⟩
    have KH : K.In (hidT s1.heap H) := by
      intro b o z
      refine up (KX b o z) ?_
      cases q : H b with
      | none => rfl
      | some u =>
        obtain ⟨rfl, n⟩ := hA b (by rw [q]; simp)
        rw [n] at z
        cases z
    have hM : Mod K mg (hidT s1.heap H) := ⟨KH, nsUp nsG, ⟨mb, nsUp nsB, hbb⟩, let ⟨mc, h1, h2⟩ := lim; ⟨mc, nsUp h1, h2⟩⟩
    have env : Env0 P w K mg (hidT s1.heap H) callerA [] s1 H := ⟨rfl, hM, fun b o z => of_hidT z, Nat.le_of_eq (hidT_size _ _), trivial, fun b hb => (by cases hb), hok, .of_eq hgen⟩
    refine codeAny_mono ((F _ KH (nsUp nsG)).go callerA [] s1 H ⟨[.ref a], []⟩ [.ref a] [.ref a] _ E0 rfl hr env (hbind s1 (.ref a)) (.cons rfl .nil) (hsp H hO hS)) fun r s' h => ?_
    match r, h with
    | .error e, h => exact h.elim
    | .ok .next, h => exact h.elim
    | .ok .brk, h => exact h.elim
    | .ok .cont, h => exact h.elim
    | .ok (.ret u), h =>
      obtain ⟨v, H', os, bare, un, hok', ru, q⟩ := h
      have qv : v = .bl true := q
      subst qv
      have eu : u = Value.bool true := ru
      subst eu
      refine ⟨rfl, OldK.of_keep fun b o z => ?_, os, bare⟩
      cases q : H b with
      | none => exact un.keep b o z q (fun t => by cases t) (by simp)
      | some c =>
        rcases hO b with n | ⟨ob, xs, n⟩
        · rw [q] at n; cases n
        · obtain ⟨e1, _⟩ := hok b _ n
          obtain ⟨e2, _⟩ := hok' b _ (un.frzs b ob _ n)
          rw [z] at e1
          cases e1
          exact e2
  have rv := vals_ints hi
  cases hk : K.lookup a with
  | some o =>
    have z := KX a o hk
    rw [ha] at z
    cases z
    exact main (fun _ => none) (fun _ => .inl rfl) (.inr ⟨_, vs.toArray, _, hk, rfl, rfl, rfl, by rw [List.size_toArray, hi.length]; exact hl, by simpa using rv⟩) (fun b u t => nomatch t) (fun b t => absurd rfl t)
  | none =>
    have here : ∀ b u, (if b = a then some (HO.frz { cls := .type "list", data := .seq vs.toArray } (.lst (ns.map V.int))) else none) = some u → b = a ∧ u = HO.frz { cls := .type "list", data := .seq vs.toArray } (.lst (ns.map V.int)) := by
      intro b u t
      by_cases hb : b = a
      · rw [if_pos hb] at t; cases t; exact ⟨hb, rfl⟩
      · rw [if_neg hb] at t; cases t
    refine main (fun b => if b = a then some (.frz { cls := .type "list", data := .seq vs.toArray } (.lst (ns.map V.int))) else none) (fun b => ?_) (.inl (.inr ⟨{ cls := .type "list", data := .seq vs.toArray }, if_pos rfl⟩)) (fun b u t => ?_) (fun b t => ?_)
    · by_cases hb : b = a
      · exact .inr ⟨_, _, if_pos hb⟩
      · exact .inl (if_neg hb)
    · obtain ⟨rfl, rfl⟩ := here b u t
      exact ⟨ha, by rw [List.length_map]; exact hl, vs, _, rv, ha⟩
    · by_cases hb : b = a
      · exact ⟨hb, hk⟩
      · exact absurd (if_neg hb) t
theorem walk_ofG {l : PySem.W.OpenLaw} {n k : Nat} {q : Program} {loose : List Str} {XP : (Str → Option Value) → Heap → Prop} {YP : World → Heap → Prop} {d : DefRec} {K : Params → PySem.W.Frag} {sp : World → Sp} {x : Str}
    (hn : l.most = some n) (hn2 : n ≤ sizeLine) (hdf : d.params.defaults = []) (hr : Room k callerA) (hY : ∀ (w : World) (h : Heap), YP w h → (K w.params).In h)
    (F : ∀ (w : World) (mg : Str → Option Value) (fa : Addr) (h : Heap), (K w.params).In h → h.Ns mainGlobals mg → mg d.name = some (.ref fa) → ∃ fd : FuncData, (∀ (s : Shared) (u : Value), BindsTo s fd ⟨[u], []⟩ [(x, u)]) ∧
      ∀ base : Heap, (K w.params).In base → base.Ns mainGlobals mg → FnG l.prog w (K w.params) mg base k fa fd [x] (sp w))
    (hsp : ∀ (w : World) (H : Hp) (a : Addr) (ns : List Int), ns.length ≤ n → Only H → SqL (K w.params) H a (ns.map V.int) → sp w [.ref a] H (fun v _ => v = .bl true) E0) : PySem.W.WalkO q loose XP YP l.row.toRowW d [] (fun f vs => PySem.call f vs) := by
  refine Att.attach_call hn hdf fun w s0 s1 mg mb fa o pm cd doc a vs ns G Y ho hd hcd hmg hobj hints hlen hgen => ?_
  have KX := hY w _ Y
  obtain ⟨fd, hb, hF⟩ := F w mg fa _ KX G.T.g hmg
  exact law_goG KX G.T.g G.T.b G.T.builtins G.T.nolimit hgen hobj hints (Nat.le_trans hlen hn2) hr hF hb fun H hO hS => hsp w H a ns hlen hO hS
end
end Dl

namespace Dl
open PySem L2
section
variable {X : Cx} {j k : Nat} {x m : Str} {C : Addr} {d : DSp} {dds : List D} {p pos apos : Pos} {e o : Expr} {es : List Expr} {wa : WA} {wo : WE}
/-! ### a class that a local name holds, called -/
def wMakeL (i : Nat) (C : Addr) (d : DSp) (dds : List D) (wa : WA) : WE := fun ρ μ P => ρ.getD i none = some (.ref C) ∧ wMake C d dds wa ρ μ P
theorem de_makL {n : Str} (i : Nat) (c : DMak X.prog X.w X.K X.mg X.base k n C d dds) (hr : Room j X.A) (hk : k + 1 ≤ j) (hN : X.N[i]? = some x) (hv : Vis X.env.scope x) (ha : DA X (e :: es) wa) (hdb : (x == ("__debug__" : Str)) = false := by decide)
    (hcd : (x == ("__classdict__" : Str)) = false := by decide) (he : starEach (e :: es) X.env = (false, eval e X.env) :: starEach es X.env := by rfl) (hpl : (backTo pos (starEach es X.env)).any (·.1) = false := by rfl) : DE X (.Call (.Name x p) (e :: es) [] pos) (wMakeL i C d dds wa) := by
  obtain ⟨f, fd, ps, ds, dvs, M, F, m, b, vd, rd⟩ := c.ex
  refine ⟨⟨fun pins s σ H Q I h => ?_⟩⟩
  obtain ⟨ρ, μ, G, P, hr', hm', ⟨hi, hw⟩, ht⟩ := h
  obtain ⟨u, hu1, hu2⟩ := hr'.2 i _ (getD_some hi)
  cases hu2
  have hh : tMake C (LSp X.K d) dvs E0 (LA X.K wa) σ H Q := lmake (fun σ H Q h => h) σ H Q ⟨ρ, μ, G, P, hr', hm', hw, ht⟩ rd
  refine wpAny_Call_Name_kw (thn ((pe_var (pos := p) hN hv hdb hcd).run pins s σ H (fun v H1 => v = .ref C ∧ H1 = H) I ⟨.ref C, hu1, rfl, rfl⟩) fun u s1 ⟨v, H1, I1, r1, q1⟩ => ?_)
  obtain ⟨rfl, rfl⟩ := q1
  cases r1
  exact PySem.W.callWith_K (h₀ := X.base) I.ok.mod.kin M.kp (thn (ha.p.run pos pins s1 σ _ _ I1 hh) fun us s2 ⟨vs, H2, I2, r, q⟩ => ⟨I2.kIn, run_make M F (hr.mono hk) b vd pass0 I2 r q⟩) he hpl
/-! ### a classmethod -/
structure CmAt (K : PySem.W.Frag) (C : Addr) (m qual : Str) (st : Stmt) (dsV : List Value) : Prop where
  ex : ∃ (mc : Value) (p g : Addr) (fd : FuncData), ClX.CRead K C mc ∧ ClX.CMet K C mc m p g ∧ FnAt K m qual st dsV g fd
structure DCme (P : Program) (w : World) (K : PySem.W.Frag) (mg : Str → Option Value) (base : Heap) (k : Nat) (C : Addr) (m : Str) (d : DSp) (dds : List D) : Prop where
  ex : ∃ (mc : Value) (p g : Addr) (fd : FuncData) (ps : List Str) (ds : List Value) (dvs : List V), ClX.CRead K C mc ∧ ClX.CMet K C mc m p g ∧ FnOk P w K mg base CX0 k g fd ps (LSp K d) ∧ Binds K fd ps ds ∧ Vals dvs ds ∧ ∀ G, Rps K G dds dvs
theorem CmAt.cme {P : Program} {w : World} {K : PySem.W.Frag} {mg : Str → Option Value} {base : Heap} {C : Addr} {m qual : Str} {st : Stmt} {dsV ds : List Value} {dvs : List V} {dds : List D} {N ps : List Str} {k : Nat} {d : DSp} {ws : WS} (D : CmAt K C m qual st dsV) (S : FnScope N ps (defScope st)) (len : ∀ ds μ Q, d ds μ Q → ds.length = ps.length)
    (hb : ∀ {f : Addr} (cdv : Value) (A : Around) (outer : List PySem.Env) (s : Shared) (H : Hp) (E : XK), Room k (A.deeper (PyProof.Rows.envOfC qual (defScope st) s.heap.objs.size f cdv)) → DSs (cxOf CX0 P w K mg base N qual (defScope st) f cdv A outer s H E).nox (defBody st) ws)
    (ok : ∀ ds μ Q, d ds μ Q → ws { nx := fun _ μ' => ∃ μ2, Sub μ2 μ' ∧ Q .non μ2, rt := Q } (startD N ds) μ) (b : ∀ {f fd}, FnAt K m qual st dsV f fd → Binds K fd ps ds) (vd : Vals dvs ds) (rd : ∀ G, Rps K G dds dvs) : DCme P w K mg base (k + 1) C m d dds := by
  obtain ⟨mc, p, g, fd, r, c, F⟩ := D.ex
  exact ⟨mc, p, g, fd, ps, ds, dvs, r, c, F.ok S len (hb (f := g)) ok, b F, vd, rd⟩
def wCMe (C : Addr) (d : DSp) (dds : List D) (wo : WE) (wa : WA) : WE := fun ρ μ P => wo ρ μ fun x μ1 => x = .ref C ∧ wa ρ μ1 fun ds μ2 => d (.ref C :: (ds ++ dds)) μ2 P
theorem de_cme {pl : Sem Bool} (c : DCme X.prog X.w X.K X.mg X.base k C m d dds) (hr : Room j X.A) (hk : k ≤ j) (ho : DE X o wo) (ha : DA X (e :: es) wa)
    (hst : starEach (e :: es) X.env = (false, eval e X.env) :: starEach es X.env := by rfl) (hpl : (backTo pos (starEach es X.env)).any (·.1) = false := by rfl)
    (ht : eval (.Call (.Attribute o m apos) (e :: es) [] pos) X.env = (do
      let ov ← eval o X.env
      standAt apos.atName
      let (f, first) ← holding [ov] (getMethod ov m pl)
      callWith pos f first (backTo pos (starEach (e :: es) X.env)) (backToKw pos (keywordEach [] X.env))) := by rfl) : DE X (.Call (.Attribute o m apos) (e :: es) [] pos) (wCMe C d dds wo wa) := by
  obtain ⟨mc, q, g, fd, ps, ds, dvs, r, cm, F, b, vd, rd⟩ := c.ex
  refine ⟨wkE (ClX.pe_cmeth (pl := pl) ho.p r cm (F.raw b vd) (hr.mono hk) pass0 ha.p hst hpl ht) fun σ H Q ⟨ρ, μ, G, P, he, hm, hw, htl⟩ => ⟨ρ, μ, G, _, he, hm, hw, fun x μ1 v1 H1 G1 p1 e1 m1 r1 => ?_⟩⟩
  obtain ⟨rfl, p1⟩ := p1
  cases r1
  exact ⟨rfl, ρ, μ1, G1, _, he.mono e1, m1, p1, fun ds μ2 vs H2 G2 p2 e2 m2 r2 => ⟨.ref C :: (ds ++ dds), μ2, G2, P, .cons (.ref C) (r2.append (rd G2)), m2, p2, htl.mono (e1.trans e2)⟩⟩
/-! ### str, len, + of instances whose class tells them -/
theorem met_run {A : Around} {pins : List (Addr × Obj)} {σ : L2.St} {H : Hp} {s : Shared} {f : Addr} {fd : FuncData} {ps : List Str} {sp : Sp} {us : List Value} {vs : List V} {Q : VK} (F : FnOk X.prog X.w X.K X.mg X.base CX0 k f fd ps sp) (hA : Room k A) (hf : A.frames = X.A.frames) (hb : Binds X.K fd ps [])
    (I : Inv X pins σ H s) (r : Vals vs us) (h : sp vs H Q E0) : wpAny (model X.prog X.w) A (call (.ref f) us) (EP X pins σ Q) X.xe s := by
  have e := I.env0
  have env : Env0 X.prog X.w X.K X.mg X.base A X.stack s H := ⟨hf.trans e.frames, e.mod, e.bs, e.bsz, e.funs, e.frf, e.hok, e.bare⟩
  have nl : (us ++ []).length = ps.length := by rw [List.append_nil, ← r.length]; exact F.len _ _ _ _ h
  have bd := hb s us I.kIn nl
  rw [List.append_nil] at bd
  refine wpAny_call (codeAny_mono (F.run A X.stack s H ⟨us, []⟩ us vs Q E0 hA env bd r h) fun r s' hq => ?_)
  match r, hq with
  | .error e, hq => exact hq.elim
  | .ok (.ret u), hq => exact I.after hq
theorem met_un {K : PySem.W.Frag} {dvs : List V} (rd : ∀ G, Rps K G [] dvs) : dvs = [] := by
  cases rd (fun _ => none)
  rfl
def oStrOwn (C : Addr) (d : DSp) : OC := fun ds μ P => ∃ x fs, ds = [x] ∧ insD μ x = some (C, fs) ∧ d [x] μ fun r μ' => ∃ s, r = .str s ∧ P (.str s) μ'
theorem cs_strOwn (c : DMet X.prog X.w X.K X.mg X.base k C "__str__" d []) (hr : Room j X.A) (hk : k + 2 ≤ j) : CallS X (.type "str") (oStrOwn C d) := by
  obtain ⟨f, fd, ps, ds, dvs, hc, hm, F, b, vd, rd⟩ := c.ex
  obtain rfl := met_un rd
  cases vd
  have hr2 : Room (k + 2) X.A := hr.mono hk
  refine ⟨fun xs H Q => ∃ a dx fs, xs = [.ref a] ∧ H a = some (.ins C dx fs) ∧ LSp X.K d [.ref a] H (fun v H' => ∃ s, v = .str s ∧ Q (.str s) H') E0, ?_, ?_⟩
  · rintro pins s σ H xs us Q I r ⟨a, dx, fs, rfl, ha, hsp⟩
    obtain ⟨u, rfl, ru⟩ := vals1 r
    cases ru
    obtain ⟨mA, J, _⟩ := ins_get I.hok ha
    obtain ⟨od, J, _⟩ := J.look
    refine PySem.W.kso_call (by have := hr2.un; show X.A.units + 1 + 1 < _; omega) I.kIn J hm.at_ hm.fn (thn (met_run (vs := [.ref a]) F (hr2.in1.in1) rfl b I (.cons rfl .nil) hsp) ?_)
    rintro u s' ⟨v, H', I', rv, z, rfl, q⟩
    obtain ⟨t, rfl⟩ := rv
    exact ⟨.str z, H', I', ⟨t, rfl⟩, q⟩
  · rintro ds μ P G H vs Q ⟨x, fs, rfl, hi, hd⟩ m r t
    cases r with
    | cons r1 r2 =>
      cases r2
      obtain ⟨a, dx, ws, rfl, h1, _⟩ := insD_ok hi m r1
      exact ⟨a, dx, ws, rfl, h1, [x], μ, G, _, .cons r1 .nil, m, hd, fun r μ' v H' G' ⟨z, er, p⟩ e' m' rr => by subst er; cases rr; exact ⟨z, rfl, t _ _ _ _ _ p e' m' (.str z)⟩⟩
def oLenOwn (C : Addr) (d : DSp) : OC := fun ds μ P => ∃ x fs, ds = [x] ∧ insD μ x = some (C, fs) ∧ d [x] μ fun r μ' => ∃ n : Int, r = .int n ∧ (0 ≤ n ∧ n < 2 ^ 63) ∧ P (.int n) μ'
theorem cs_lenOwn (c : DMet X.prog X.w X.K X.mg X.base k C "__len__" d []) (hr : Room j X.A) (hk : k + 1 ≤ j) : CallS X (.builtin "len") (oLenOwn C d) := by
  obtain ⟨f, fd, ps, ds, dvs, hc, hm, F, b, vd, rd⟩ := c.ex
  obtain rfl := met_un rd
  cases vd
  have hr2 : Room (k + 1) X.A := hr.mono hk
  refine ⟨fun xs H Q => ∃ a dx fs, xs = [.ref a] ∧ H a = some (.ins C dx fs) ∧ LSp X.K d [.ref a] H (fun v H' => ∃ n : Int, v = .int n ∧ (0 ≤ n ∧ n < 2 ^ 63) ∧ Q (.int n) H') E0, ?_, ?_⟩
  · rintro pins s σ H xs us Q I r ⟨a, dx, fs, rfl, ha, hsp⟩
    obtain ⟨u, rfl, ru⟩ := vals1 r
    cases ru
    obtain ⟨mA, J, _⟩ := ins_get I.hok ha
    obtain ⟨od, J, _⟩ := J.look
    obtain ⟨mm, hF⟩ := I.fr
    refine PySem.W.len_K hF I.ok.mod.kin J hm.at_ hm.fn (thn (met_run (vs := [.ref a]) F hr2.in1 rfl b I (.cons rfl .nil) hsp) ?_)
    rintro u s' ⟨v, H', I', rv, z, rfl, hz, q⟩
    obtain ⟨t, rfl⟩ := rv
    exact ⟨hz, .int z, H', I'.tok _, ⟨_, rfl⟩, q⟩
  · rintro ds μ P G H vs Q ⟨x, fs, rfl, hi, hd⟩ m r t
    cases r with
    | cons r1 r2 =>
      cases r2
      obtain ⟨a, dx, ws, rfl, h1, _⟩ := insD_ok hi m r1
      exact ⟨a, dx, ws, rfl, h1, [x], μ, G, _, .cons r1 .nil, m, hd, fun r μ' v H' G' ⟨z, er, hz, p⟩ e' m' rr => by subst er; cases rr; exact ⟨z, rfl, hz, t _ _ _ _ _ p e' m' (.int z)⟩⟩
def oAddOwn (C : Addr) (d : DSp) : OD := fun x y μ P => (∃ fs, insD μ x = some (C, fs)) ∧ (∃ gs, insD μ y = some (C, gs)) ∧ d [x, y] μ fun r μ' => (∃ gs, r = .obj C gs) ∧ P r μ'
theorem os_addOwn (c : DMet X.prog X.w X.K X.mg X.base k C "__add__" d []) (hsf : PySem.W.selfFirst X.K C = true) (hr : Room j X.A) (hk : k ≤ j) : OpS X (binaryOp .Add) (oAddOwn C d) := by
  obtain ⟨f, fd, ps, ds, dvs, hc, hm, F, b, vd, rd⟩ := c.ex
  obtain rfl := met_un rd
  cases vd
  have hr2 : Room k X.A := hr.mono hk
  refine ⟨fun x y H Q => ∃ a b dx dy fs gs, x = .ref a ∧ y = .ref b ∧ H a = some (.ins C dx fs) ∧ H b = some (.ins C dy gs) ∧ LSp X.K d [.ref a, .ref b] H (fun v H' => (∃ q, v = .ref q) ∧ Q v H') E0, ?_, ?_⟩
  · rintro pins s σ H x y v u Q I rx ry ⟨a, b', dx, dy, fs, gs, rfl, rfl, ha, hb', hsp⟩
    cases rx
    cases ry
    obtain ⟨mA, J, _⟩ := ins_get I.hok ha
    obtain ⟨mB, J', _⟩ := ins_get I.hok hb'
    obtain ⟨od, J, _⟩ := J.look
    obtain ⟨od', J', _⟩ := J'.look
    obtain ⟨mm, hF⟩ := I.fr
    refine PySem.W.binop_K (op := .Add) hF I.ok.mod.kin J J'.type hsf hm.at_ hm.fn (thn (met_run (vs := [.ref a, .ref b']) F hr2 rfl b I (.cons rfl (.cons rfl .nil)) hsp) ?_)
    rintro u s' ⟨v, H', I', rv, ⟨z, rfl⟩, q⟩
    cases rv
    exact ⟨.ref z, H', I', rfl, q⟩
  · rintro x y μ P G H v u Q ⟨⟨fs, h1⟩, ⟨gs, h2⟩, hd⟩ m rx ry t
    obtain ⟨a, dx, xs, rfl, q1, _⟩ := insD_ok h1 m rx
    obtain ⟨a2, dy, ys, rfl, q2, _⟩ := insD_ok h2 m ry
    refine ⟨a, a2, dx, dy, xs, ys, rfl, rfl, q1, q2, [x, y], μ, G, _, .cons rx (.cons ry .nil), m, hd, ?_⟩
    rintro r μ' w H' G' ⟨⟨hs, rfl⟩, pr⟩ e m' rr
    exact ⟨(by cases rr; exact ⟨_, rfl⟩), t _ _ _ _ _ pr e m' rr⟩
/-! ### dict(pairs) -/
def pairD : D → Option (Key × D)
  | .tup [k, v] => (keyD k).map fun q => (q, v)
  | _ => none
def pairsD : List D → Option (List (Key × D))
  | [] => some []
  | x :: r => match pairD x, pairsD r with | some a, some b => some (a :: b) | _, _ => none
def oDictM : OC := fun ds μ P => match ds with
  | [d] => match (seqR μ d).bind pairsD with | some kvs => ∀ p, μ p = none → P (.ref p) (setS μ p (.dct (mergeD [] kvs))) | none => False
  | _ => False
theorem prs_ok {K : PySem.W.Frag} {G H : Hp} (e : Ex G H) : ∀ {xs : List D} {vs : List V} {kvs : List (Key × D)}, pairsD xs = some kvs → Rps K G xs vs →
    ∃ (ps : List Addr) (kv : List (Key × V)), vs = ps.map V.ref ∧ Paired (fun p q => SqT K H p [kV q.1, q.2]) ps kv ∧ kv.map (·.1) = kvs.map (·.1) ∧ Rps K G (kvs.map (·.2)) (kv.map (·.2))
  | [], _, _, h, r => by
    cases r
    cases h
    exact ⟨[], [], rfl, .nil, rfl, .nil⟩
  | d :: ds, _, kvs, h, r => by
    cases r with
    | cons h1 r =>
      have h' : (match pairD d, pairsD ds with | some a, some b => some (a :: b) | _, _ => none) = some kvs := h
      cases q : pairD d with
      | none => rw [q] at h'; cases h'
      | some a =>
        cases q2 : pairsD ds with
        | none => rw [q, q2] at h'; cases h'
        | some b =>
          rw [q, q2] at h'
          cases h'
          obtain ⟨ps, kv, rfl, pp, ek, rr⟩ := prs_ok e q2 r
          unfold pairD at q
          split at q
          · rename_i k v
            cases h1 with
            | tup ht rt =>
              cases rt with
              | cons rk rt =>
                cases rt with
                | cons rv rn =>
                  cases rn
                  cases qk : keyD k with
                  | none => rw [qk] at q; cases q
                  | some ky =>
                    rw [qk] at q
                    cases q
                    have := keyD_ok qk rk
                    subst this
                    exact ⟨_ :: ps, (ky, _) :: kv, rfl, .cons (ht.sq e) pp, by simp [ek], .cons rv rr⟩
          · cases q
theorem cs_dictM (hc : X.calm = true) : CallS X (.type "dict") oDictM := by
  refine ⟨_, call_dictP hc, fun {ds μ P G H vs Q} h m r t => ?_⟩
  unfold oDictM at h
  match ds, r, h with
  | [d], .cons r1 .nil, h =>
    have h : (match (seqR μ d).bind pairsD with | some kvs => ∀ p, μ p = none → P (.ref p) (setS μ p (.dct (mergeD [] kvs))) | none => False) := h
    cases q : seqR μ d with
    | none => rw [q] at h; exact h.elim
    | some xs =>
      rw [q] at h
      have h : (match pairsD xs with | some kvs => ∀ p, μ p = none → P (.ref p) (setS μ p (.dct (mergeD [] kvs))) | none => False) := h
      cases q2 : pairsD xs with
      | none => rw [q2] at h; exact h.elim
      | some kvs =>
        rw [q2] at h
        obtain ⟨a, ws, rfl, hs, rs⟩ := seqR_ok q m r1
        obtain ⟨ps, kv, rfl, pp, ek, rr⟩ := prs_ok m.ex q2 rs
        refine ⟨a, ps, kv, rfl, hs, pp, fun p hp => ?_⟩
        obtain ⟨i1, i2⟩ := merge_ok (K := X.K) (G := G) (ds := []) (kvs := []) ek rr rfl .nil
        exact t _ _ _ _ _ (h p (m.nn hp)) (Ex.refl _) (m.write (c := .dct (mergeD [] kvs)) (m.ex.nn hp) ⟨_, upd_same, i1, i2⟩) (.ref p)
end
end Dl
namespace Dl
open PySem L2
theorem units66 {k : Nat} {A : Around} (r : Room k A) : A.units + 66 < cLine := by have := r.un; omega
/-- the empty tuple of the top -/
def EmT (K : PySem.W.Frag) (t : Addr) : Prop := ∃ (o : Obj) (n : Nat), K.lookup t = some o ∧ o.cls = .type "tuple" ∧ o.data = .seq #[] n
theorem EmT.rp {K : PySem.W.Frag} {t : Addr} {G : Hp} (h : EmT K t) : Rp K G (.tup []) (.ref t) := by
  obtain ⟨o, n, h1, h2, h3⟩ := h
  exact .tup (.inr ⟨o, #[], n, h1, h2, h3, Nat.zero_le _, .nil⟩) .nil
end Dl
namespace Dl
open PySem L2
section
variable {X : Cx}
def oExtend : OM := fun x ds μ P => match x, ds with
  | .ref a, [d] => (match μ a, seqL μ d with | some (.lst xs), some ys => xs.length + ys.length ≤ sizeLine ∧ P .non (setS μ a (.lst (xs ++ ys))) | _, _ => False)
  | _, _ => False
theorem bm_extend : BMok X "extend" "list" oExtend := ⟨_, _, F.plainAttrs_list, F.slot_list_extend, F.type_list_extend, mt_extend, fun {x ds μ P G H v vs Q} h m rx rs t => by
  unfold oExtend at h
  split at h
  · rename_i a d
    cases rx
    cases rs with | cons r1 r2 =>
    cases r2
    split at h
    · rename_i xs ys q1 q2
      obtain ⟨h0, ws, h1, r⟩ := m.st a _ q1
      obtain ⟨b, zs, rfl, hb, rb⟩ := seqL_ok q2 m r1
      obtain ⟨hz, p⟩ := h
      exact ⟨a, b, ws, zs, rfl, rfl, h1, hb, by rw [← r.length, ← rb.length]; exact hz, t _ _ _ _ _ p (Ex.refl _) (m.write h0 ⟨_, upd_same, r.append rb⟩) .non⟩
    · exact h.elim
  · exact h.elim⟩
end
end Dl
namespace Dl
open PySem L2
/-- a value that from now on stays as it is -/
def wFzE (we : WE) : WE := fun ρ μ P => we ρ μ fun d μ1 => ∃ d' μ', Fz d μ1 d' μ' ∧ P d' μ'
theorem de_fzE {X : Cx} {e : Expr} {we : WE} (h : DE X e we) : DE X e (wFzE we) :=
  ⟨wkE h.p fun σ H Q ⟨ρ, μ, G, P, he, hm, hw, ht⟩ => ⟨ρ, μ, G, _, he, hm, hw, fun d μ1 v H1 G1 ⟨d', μ', fz, p⟩ e1 m1 r1 => by
    obtain ⟨G', e2, m2, r2⟩ := fz.ok m1 r1
    exact ht _ _ _ _ _ p (e1.trans e2) m2 r2⟩⟩
end Dl

namespace Dl
open PySem L2
/-! ### over a list that may change, but does not meanwhile -/
theorem walkR {K : PySem.W.Frag} {a : Addr} {xs : List D} {i : Nat} {H G : Hp} {μ : Store} (m : Sm K μ G H) (h : μ a = some (.lst xs)) :
    (i < xs.length → (Itl K a).go i H ∧ ∀ x H', (Itl K a).yld i H x H' → ∃ d, xs[i]? = some d ∧ H' = H ∧ Rp K G d x) ∧ (xs.length ≤ i → (Itl K a).stop i H) := by
  obtain ⟨_, ws, h1, r⟩ := m.st a _ h
  have sq : SqL K H a ws := SqL.of h1
  refine ⟨fun hi => ⟨⟨ws, ws[i]'(by rw [← r.length]; exact hi), sq, by simp [← r.length, hi]⟩, fun x H' y => ?_⟩, fun hi => ⟨ws, sq, by rw [← r.length]; exact hi⟩⟩
  obtain ⟨rfl, y⟩ := y
  obtain ⟨d, hd, rd⟩ := r.getR (y ws sq)
  exact ⟨d, hd, rfl, rd⟩
def lcBodyR (a : Addr) (its : List D) (g : WG) (tt : WT) (te : WE) (vs : List Nat) (fin : Addr → List D → Store → Prop) (ρ : Env) (μ1 : Store) : Prop := its.length ≤ sizeLine ∧ ∀ L, μ1 L = none → ∃ I : Nat → List D → Store → Prop, I 0 [] (setS μ1 L (.lst [])) ∧ (∀ i acc μ', I i acc μ' → μ' a = some (.lst its)) ∧
  (∀ i d acc μ', its[i]? = some d → μ' L = some (.lst acc) → I i acc μ' → g d (wipeE ρ vs) μ' fun ρ2 μ2 => tt ρ2 μ2 fun b μ3 => if b = true then te ρ2 μ3 fun y μ4 => μ4 L = some (.lst acc) ∧ I (i + 1) (acc ++ [y]) (setS μ4 L (.lst (acc ++ [y]))) else μ3 L = some (.lst acc) ∧ I (i + 1) acc μ3) ∧
  ∀ acc μ', acc.length ≤ its.length → μ' L = some (.lst acc) → I its.length acc μ' → fin L acc μ'
def wLcR (we : WE) (g : WG) (tt : WT) (te : WE) (vs : List Nat) : WE := fun ρ μ P => we ρ μ fun d μ1 => ∃ a xs, d = .ref a ∧ μ1 a = some (.lst xs) ∧ lcBodyR a xs g tt te vs (fun L acc μ' => P (.lst acc) (delS μ' L)) ρ μ1
theorem llcR {K : PySem.W.Frag} {we : WE} {g : TG} {wg : WG} {tt : WT} {te : WE} {vs : List Nat} {fin : Addr → List D → Store → Prop} {σ : L2.St} {H : Hp} {Q : VK} {ρ : Env} {μ : Store} {G : Hp} (hg : GPat K vs g wg) (he : EnvR K G ρ σ) (hm : Sm K μ G H)
    (hw : we ρ μ fun d μ1 => ∃ a xs, d = .ref a ∧ μ1 a = some (.lst xs) ∧ lcBodyR a xs wg tt te vs fin ρ μ1)
    (hf : ∀ L acc μ' H' G', fin L acc μ' → μ' L = some (.lst acc) → Ex G G' → Sm K μ' G' H' → Q (.ref L) H') : tLc (iSeq K (LE K we)) g (LT K tt) (LE K te) vs σ H Q := by
  refine ⟨ρ, μ, G, _, he, hm, hw, ?_⟩
  rintro d0 μ1 v1 H1 G1 ⟨a, its, rfl, ha, hz, hI⟩ e1 m1 r1
  cases r1
  obtain ⟨_, ws, h1, _⟩ := m1.st a _ ha
  refine .inl ⟨a, rfl, ⟨ws, SqL.of h1⟩, ?_⟩
  intro L hL
  obtain ⟨I, h0, hkeep, hturn, hend⟩ := hI L (m1.nn hL)
  refine ⟨fun i m H' => m = its.length - i ∧ i ≤ its.length ∧ ∃ acc μ' G', Ex G1 G' ∧ Sm K μ' G' H' ∧ μ' L = some (.lst acc) ∧ acc.length ≤ i ∧ I i acc μ',
    ⟨its.length, by simp, Nat.zero_le _, [], _, G1, Ex.refl _, m1.write (c := .lst []) (m1.ex.nn hL) ⟨[], upd_same, .nil⟩, setS_same, Nat.le_refl _, h0⟩, ?_⟩
  rintro i m H' ⟨rfl, hi, acc, μ', G', e', hm', uD, hl, hI⟩
  obtain ⟨wgo, wstop⟩ := walkR (i := i) hm' (hkeep _ _ _ hI)
  by_cases hlt : i < its.length
  · obtain ⟨go, yl⟩ := wgo hlt
    refine .inr ⟨go, fun H2 => ∃ acc2 μ2 G2, Ex G1 G2 ∧ Sm K μ2 G2 H2 ∧ μ2 L = some (.lst acc2) ∧ acc2.length ≤ i + 1 ∧ I (i + 1) acc2 μ2, fun H2 ⟨a, b, c, x1, x2, x3, x4, x5⟩ => ⟨its.length - (i + 1), by omega, rfl, hlt, a, b, c, x1, x2, x3, x4, x5⟩, fun x H2 hy => ?_⟩
    obtain ⟨d, hd, rfl, r3⟩ := yl x H2 hy
    have heW : EnvR K G' (wipeE ρ vs) (L2.wipe σ vs) := (((he.mono e1).mono e')).wipe vs
    refine hg heW hm' r3 (hturn i d acc μ' hd uD hI) fun ρ4 μ4 σ4 H4 G4 p4 e4 he4 hm4 q4 => ⟨q4.trans (wipe_wipe fun _ h => h), ρ4, μ4, G4, _, he4, hm4, p4, fun b μ5 H5 G5 p5 e5 m5 => ?_⟩
    have eG : Ex G1 G5 := (e'.trans e4).trans e5
    cases b with
    | true =>
      rw [if_pos rfl] at p5
      refine iteT ?_
      refine ⟨ρ4, μ5, G5, _, he4.mono e5, m5, p5, fun y μ6 v6 H6 G6 p6 e6 m6 r6 => ?_⟩
      obtain ⟨h0, xs, h1, rr⟩ := m6.st L _ p6.1
      exact ⟨xs, h1, by rw [← rr.length]; omega, acc ++ [y], _, G6, eG.trans e6, m6.write (c := .lst (acc ++ [y])) h0 ⟨_, upd_same, rr.append (.cons r6 .nil)⟩, setS_same, by rw [List.length_append]; simp; omega, p6.2⟩
    | false =>
      rw [if_neg Bool.false_ne_true] at p5
      refine iteF ?_
      exact ⟨acc, μ5, G5, eG, m5, p5.1, by omega, p5.2⟩
  · have ei : i = its.length := by omega
    subst ei
    exact .inl ⟨wstop (Nat.le_refl _), hf _ _ _ _ _ (hend acc μ' hl uD hI) uD (e1.trans e') hm'⟩
section
variable {X : Cx} {elt tg iter : Expr} {ifs : List Expr} {scope : Scope} {own : List (Str × Nat)} {pos : Pos} {we : WE} {g : TG} {wg : WG} {tt : WT} {te : WE}
theorem de_lcR (hc : X.calm = true) (hN : X.N.Nodup) (hi : DE X iter we) (ok : BlkOk X.N X.env.scope scope own) (hp : GPat X.K (own.map (·.2)) g wg)
    (hg : ∀ (s : Shared) (H : Hp) (C : Addr) (cl : List (Str × Addr)) (fp : List Addr), PG (X.blk s H scope (compEnvC scope cl C X.env) fp) tg g) (ht : ∀ (s : Shared) (H : Hp) (C : Addr) (cl : List (Str × Addr)) (fp : List Addr), DTs (X.blk s H scope (compEnvC scope cl C X.env) fp) ifs tt)
    (he : ∀ (s : Shared) (H : Hp) (C : Addr) (cl : List (Str × Addr)) (fp : List Addr), DE (X.blk s H scope (compEnvC scope cl C X.env) fp) elt te) (hs : ∀ x, foldedSetIterable iter X.env x = pure x := by intro _; rfl) :
    DE X (.ListComp elt [⟨tg, iter, ifs, 0⟩] scope pos) (wLcR we wg tt te (own.map (·.2))) :=
  ⟨wkE (pe_lc hc hN (pi_seq hi.p) ok hg (fun s H C cl fp => (ht s H C cl fp).p) (fun s H C cl fp => (he s H C cl fp).p) hs) fun σ H Q ⟨ρ, μ, G, P, hr, hm, hw, htl⟩ => llcR hp hr hm hw fun L acc μ' H' G' f u e m => by
    obtain ⟨G2, m2, e2, r2⟩ := m.freezeL u
    exact htl _ _ _ _ _ f (e.trans e2) m2 r2⟩
theorem ds_setLcR {i : Nat} {y : Str} {py spos : Pos} (hc : X.calm = true) (hN : X.N.Nodup) (hy : X.N[i]? = some y) (hyl : X.env.scope.names.lookup y = some .local)
    (hsw : swapsWith (.ListComp elt [⟨tg, iter, ifs, 0⟩] scope pos) (some (.Name y py)) spos.line X.env = pure true) (hi : DE X iter we) (ok : BlkOk X.N X.env.scope scope own) (hp : GPat X.K (own.map (·.2)) g wg)
    (hg : ∀ (s : Shared) (H : Hp) (C : Addr) (cl : List (Str × Addr)) (fp : List Addr), PG (X.blk s H scope (compEnvC scope cl C X.env) fp) tg g) (ht : ∀ (s : Shared) (H : Hp) (C : Addr) (cl : List (Str × Addr)) (fp : List Addr), DTs (X.blk s H scope (compEnvC scope cl C X.env) fp) ifs tt)
    (he : ∀ (s : Shared) (H : Hp) (C : Addr) (cl : List (Str × Addr)) (fp : List Addr), DE (X.blk s H scope (compEnvC scope cl C X.env) fp) elt te) (hs : ∀ x, foldedSetIterable iter X.env x = pure x := by intro _; rfl) :
    DS X (.Assign [.Name y py] (.ListComp elt [⟨tg, iter, ifs, 0⟩] scope pos) spos) (wAsg (wLcR we wg tt te (own.map (·.2))) (wgName i)) :=
  ⟨wkS (ps_setLc hc hN hy hyl hsw (pi_seq hi.p) ok hg (fun s H C cl fp => (ht s H C cl fp).p) (fun s H C cl fp => (he s H C cl fp).p) hs) fun D σ H ⟨ρ, μ, G, W, hr, hm, hw, htl⟩ => llcR hp hr hm hw fun L acc μ' H' G' f u e m => by
    obtain ⟨G2, m2, e2, r2⟩ := m.freezeL u
    exact htl.nx _ _ _ _ _ f (e.trans e2) ((hr.mono (e.trans e2)).set i r2) m2⟩
/-- for .. in such a list -/
def forBodyR (a : Addr) (its : List D) (g : WG) (wb : WS) (W : WEnds) (ρ : Env) (μ1 : Store) : Prop := ∃ I : Nat → Env → Store → Prop, I 0 ρ μ1 ∧ (∀ i ρ' μ', I i ρ' μ' → μ' a = some (.lst its)) ∧
  (∀ i d ρ' μ', its[i]? = some d → I i ρ' μ' → g d ρ' μ' fun ρ2 μ2 => wb { W with nx := I (i + 1), ct := I (i + 1), bk := W.nx } ρ2 μ2) ∧ ∀ ρ' μ', I its.length ρ' μ' → W.nx ρ' μ'
def wForR (we : WE) (g : WG) (wb : WS) : WS := fun W ρ μ => we ρ μ fun d μ1 => ∃ a xs, d = .ref a ∧ μ1 a = some (.lst xs) ∧ forBodyR a xs g wb W ρ μ1
theorem ds_forR {body : List Stmt} {wgg : WG} {wb : WS} (hp : PassesOwn (model X.prog X.w) X.A X.env X.xe) (hc : X.calm = true) (hi : DE X iter we) (hg : DG X tg wgg) (hb : DSs X body wb)
    (hs : ∀ x, foldedSetIterable iter X.env x = pure x := by intro _; rfl) : DS X (.For tg iter body [] pos) (wForR we wgg wb) := by
  refine ⟨wkS (ps_for hp hc (pi_seq hi.p) hg.p hb.p hs) fun D σ H ⟨ρ, μ, G, W, he, hm, hw, ht⟩ => ⟨ρ, μ, G, _, he, hm, hw, ?_⟩⟩
  rintro d0 μ1 v1 H1 G1 ⟨a, its, rfl, ha, I, h0, hkeep, hturn, hend⟩ e1 m1 r1
  cases r1
  obtain ⟨_, ws, h1, _⟩ := m1.st a _ ha
  refine .inl ⟨a, rfl, ⟨ws, SqL.of h1⟩, ?_⟩
  refine ⟨fun i m σ' H' => m = its.length - i ∧ i ≤ its.length ∧ ∃ ρ' μ' G', Ex G1 G' ∧ EnvR X.K G' ρ' σ' ∧ Sm X.K μ' G' H' ∧ I i ρ' μ', ⟨its.length, by simp, Nat.zero_le _, ρ, μ1, G1, Ex.refl _, he.mono e1, m1, h0⟩, ?_⟩
  rintro i m σ' H' ⟨rfl, hi, ρ', μ', G', e', he', hm', hI⟩
  obtain ⟨wgo, wstop⟩ := walkR (i := i) hm' (hkeep _ _ _ hI)
  by_cases hlt : i < its.length
  · obtain ⟨go, yl⟩ := wgo hlt
    refine .inr ⟨go, fun σ2 H2 => ∃ ρ2 μ2 G2, Ex G1 G2 ∧ EnvR X.K G2 ρ2 σ2 ∧ Sm X.K μ2 G2 H2 ∧ I (i + 1) ρ2 μ2, fun σ2 H2 ⟨ρ2, μ2, G2, a, b, c, d⟩ => ⟨its.length - (i + 1), by omega, rfl, hlt, ρ2, μ2, G2, a, b, c, d⟩, fun x H2 hy => ?_⟩
    obtain ⟨d, hd, rfl, r3⟩ := yl x H2 hy
    refine ⟨ρ', μ', G', d, _, he', hm', r3, hturn i d ρ' μ' hd hI, fun ρ4 μ4 σ4 H4 G4 p4 e4 he4 hm4 => ?_⟩
    have eG : Ex G1 G4 := e'.trans e4
    refine ⟨ρ4, μ4, G4, _, he4, hm4, p4, ⟨fun ρ5 μ5 σ5 H5 G5 p5 e5 he5 hm5 => ⟨ρ5, μ5, G5, eG.trans e5, he5, hm5, p5⟩, fun d5 μ5 v5 H5 G5 p5 e5 hm5 r5 => ht.rt _ _ _ _ _ p5 ((e1.trans eG).trans e5) hm5 r5,
      fun ρ5 μ5 σ5 H5 G5 p5 e5 he5 hm5 => ht.nx _ _ _ _ _ p5 ((e1.trans eG).trans e5) he5 hm5, fun ρ5 μ5 σ5 H5 G5 p5 e5 he5 hm5 => ⟨ρ5, μ5, G5, eG.trans e5, he5, hm5, p5⟩⟩⟩
  · have ei : i = its.length := by omega
    subst ei
    exact .inl ⟨wstop (Nat.le_refl _), ht.nx _ _ _ _ _ (hend ρ' μ' hI) (e1.trans e') he' hm'⟩
end
end Dl

namespace Dl
open PySem L2
section
variable {X : Cx}
/-! ### list(d.items()) -/
def dctM (μ : Store) : D → Option (List (Key × D))
  | .dct kvs => some kvs
  | .ref a => (match μ a with | some (.dct kvs) => some kvs | _ => none)
  | _ => none
theorem dctM_ok {K : PySem.W.Frag} {μ : Store} {G H : Hp} {d : D} {v : V} {kvs : List (Key × D)} (h : dctM μ d = some kvs) (m : Sm K μ G H) (r : Rp K G d v) :
    ∃ a kv, v = .ref a ∧ H a = some (.dK kv) ∧ kv.map (·.1) = kvs.map (·.1) ∧ Rps K G (kvs.map (·.2)) (kv.map (·.2)) := by
  cases r with
  | dct h1 k r1 => cases h; exact ⟨_, _, rfl, m.ex _ _ h1, k, r1⟩
  | ref a =>
    unfold dctM at h
    dsimp only at h
    cases q : μ a with
    | none => rw [q] at h; cases h
    | some c =>
      rw [q] at h
      cases c with
      | dct ds =>
        cases h
        obtain ⟨_, kv, h1, k, r1⟩ := m.st a _ q
        exact ⟨a, kv, rfl, h1, k, r1⟩
      | lst _ => cases h
      | ins _ _ => cases h
  | _ => cases h
def itD (kv : Key × D) : D := .tup [keyV kv.1, kv.2]
theorem its_ok {K : PySem.W.Frag} {G G' H' : Hp} (e : Ex G G') : ∀ {ts : List Addr} {kv : List (Key × V)} {ds : List (Key × D)}, Paired (fun (t : Addr) (q : Key × V) => H' t = some (.tup [kV q.1, q.2])) ts kv → (∀ t ∈ ts, G' t = H' t) → kv.map (·.1) = ds.map (·.1) → Rps K G (ds.map (·.2)) (kv.map (·.2)) → Rps K G' (ds.map itD) (ts.map V.ref)
  | _, _, ds, .nil, _, ek, r => by
    cases ds with
    | nil => exact .nil
    | cons _ _ => cases ek
  | t :: ts, q :: kv, ds, .cons h p, hg, ek, r => by
    cases ds with
    | nil => cases ek
    | cons x ds =>
      simp only [List.map_cons, List.cons.injEq] at ek
      cases r with
      | cons r1 r =>
        refine .cons ?_ (its_ok e p (fun t ht => hg t (List.mem_cons_of_mem _ ht)) ek.2 r)
        have h1 : G' t = some (.tup [kV q.1, q.2]) := by rw [hg t List.mem_cons_self]; exact h
        rw [ek.1] at h1
        exact .tup (.inl h1) (.cons (keyV_ok _) (.cons (r1.mono e) .nil))
def wLstItems (we : WE) : WE := fun ρ μ P => we ρ μ fun d μ1 => match dctM μ1 d with
  | some kvs => P (.lst (kvs.map itD)) μ1
  | none => False
theorem de_listItems {e : Expr} {we : WE} {p apos cpos pos : Pos} (hc : X.calm = true) (he : DE X e we) (hg : Gl X "list") (hm : X.mg "list" = none) (hbase : attributeBase e "items" X.env (eval e X.env) = eval e X.env := by rfl) (hline : (apos.endLine == cpos.line) = true := by rfl)
    (hs : starEach [.Call (.Attribute e "items" apos) [] [] cpos] X.env = (false, eval (.Call (.Attribute e "items" apos) [] [] cpos) X.env) :: starEach [] X.env := by rfl) :
    DE X (.Call (.Name "list" p) [.Call (.Attribute e "items" apos) [] [] cpos] [] pos) (wLstItems we) :=
  ⟨wkE (LiI.pe_listItems hc he.p hg hm (by decide +kernel) hbase hline hs) fun σ H Q ⟨ρ, μ, G, P, hr, hm, hw, ht⟩ => ⟨ρ, μ, G, _, hr, hm, hw, fun x μ1 v H1 G1 p e1 m r => by
    split at p
    · rename_i kvs q
      obtain ⟨a, kv, rfl, h1, ek, rr⟩ := dctM_ok q m r
      refine ⟨a, kv, rfl, h1, fun H' b ts hk hb hts hnb hL hP => ?_⟩
      classical
      have old : ∀ t, H1 t = none → G1 t = none := fun t h => m.ex.nn h
      let G' : Hp := fun t => if t = b ∨ t ∈ ts then H' t else G1 t
      have eG : Ex G1 G' := fun t o h => by
        have hn : ¬ (t = b ∨ t ∈ ts) := by
          rintro (rfl | h2)
          · rw [old _ hb] at h; cases h
          · rw [old _ (hts t h2)] at h; cases h
        show (if t = b ∨ t ∈ ts then H' t else G1 t) = some o
        rw [if_neg hn]
        exact h
      have m' : Sm X.K μ1 G' H' := by
        refine ⟨fun t o h => ?_, fun t c h => ?_⟩
        · by_cases hn : t = b ∨ t ∈ ts
          · have h : (if t = b ∨ t ∈ ts then H' t else G1 t) = some o := h
            rw [if_pos hn] at h
            exact h
          · have h : (if t = b ∨ t ∈ ts then H' t else G1 t) = some o := h
            rw [if_neg hn] at h
            exact hk _ _ (m.ex _ _ h)
        · obtain ⟨k1, k2⟩ := m.st t c h
          obtain ⟨o, ho⟩ := k2.there
          have hn : ¬ (t = b ∨ t ∈ ts) := by
            rintro (rfl | h2)
            · rw [hb] at ho; cases ho
            · rw [hts t h2] at ho; cases ho
          refine ⟨?_, k2.mono eG ((hk _ _ ho).trans ho.symm)⟩
          show (if t = b ∨ t ∈ ts then H' t else G1 t) = none
          rw [if_neg hn]
          exact k1
      refine ht _ _ _ _ _ p (e1.trans eG) m' (.lst ?_ (its_ok eG hP (fun t h => ?_) ek rr))
      · show (if b = b ∨ b ∈ ts then H' b else G1 b) = _
        rw [if_pos (.inl rfl)]
        exact hL
      · show (if t = b ∨ t ∈ ts then H' t else G1 t) = _
        rw [if_pos (.inr h)]
    · exact p.elim⟩⟩
end
end Dl

namespace L2
open PySem PySem.Spec PyProof.Rows
/-! ### [a, *d.values()] -/
theorem collect_src {prog : Program} {w : World} {A : Around} {E : Value → Shared → Prop} {s : Shared} {T : String} {r d : Addr} {n : Nat} {P : Nat → Value → Prop} {OK : Heap → Prop} {Q : List Value → Shared → Prop}
    (K : PySem.W.KdlSrc prog w T r d n P OK) (hh : A.handled = none) (hok : OK s.heap) (hn : n ≤ sizeLine)
    (hQ : ∀ h' tk acc, (∀ b o, s.heap.get? b = some o → h'.get? b = some o) → ItemsOf P acc n → Q acc.toList { s with heap := h', toks := tk }) :
    wpAny (model prog w) A (collect (.ref r)) Q E s := by
  unfold collect
  refine wpAny_bind (wpAny_runValue (codeAny_builtin F.entry_proto_collect ?_))
  rw [Around.under_plainId F.plain_proto_collect _]
  show wpAny _ A.in1 (newList [] >>= fun l => again (.builtin "list.__iadd__" ⟨[l, .ref r], []⟩)) _ _ s
  refine wpAny_bind (wpAny_newObj_type ?_)
  refine wpAny_pure ⟨plainId_quiet F.plain_list_iadd _, codeAny_builtin F.entry_list_iadd ?_⟩
  rw [Around.under_plainId F.plain_list_iadd _]
  show wpAny _ A.in1 (Builtin.List.listExtendWith (.ref s.heap.objs.size) (.ref r) (.ref s.heap.objs.size)) _ _ _
  have hS : (s.heap.push { cls := .type "list", data := .seq ([] : List Value).toArray }).get? s.heap.objs.size = some { cls := .type "list", data := .seq #[] 0 } := Heap.get?_push_size _ rfl
  have hlt := K.there _ hok
  have e1 : s.heap.objs.size ≠ r := Nat.ne_of_gt hlt.1
  have e2 : s.heap.objs.size ≠ d := Nat.ne_of_gt hlt.2
  have fin' : ∀ h' tk acc c', (∀ b o, b ≠ s.heap.objs.size → (s.heap.push { cls := .type "list", data := .seq ([] : List Value).toArray }).get? b = some o → h'.get? b = some o) → h'.get? s.heap.objs.size = some { cls := .type "list", dict := none, data := .seq acc c', slots := #[] } → ItemsOf P acc n → wpAny (model prog w) A (match Value.ref s.heap.objs.size with
      | Value.ref a => do
        match (← load a).data with
          | Data.seq xs _ => pure xs.toList
          | _ => unsupported "internal:collect"
      | _ => unsupported "internal:collect") Q E { s with heap := h', toks := tk } := fun h' tk acc c' hk hS' hacc => by
    show wpAny (model prog w) A (load s.heap.objs.size >>= _) _ _ _
    refine wpAny_bind (wpAny_load hS' ?_)
    exact wpAny_pure (hQ _ _ _ (fun b o e => hk b o (Nat.ne_of_lt (Heap.lt_size e)) (Heap.get?_push_of_some _ e)) hacc)
  refine wpAny_mono (PySem.W.kdl_extend (A := A) (R := fun r s' => r = .ok (.ret (.ref s.heap.objs.size)) ∧ ∃ h' tk acc c', s' = { s with heap := h', toks := tk } ∧ (∀ b o, b ≠ s.heap.objs.size → (s.heap.push { cls := .type "list", data := .seq ([] : List Value).toArray }).get? b = some o → h'.get? b = some o) ∧ h'.get? s.heap.objs.size = some { cls := .type "list", dict := none, data := .seq acc c', slots := #[] } ∧ ItemsOf P acc n)
    (s := { s with heap := s.heap.push { cls := .type "list", data := .seq ([] : List Value).toArray } }) K hh (K.keep _ _ hok fun b _ o e => Heap.get?_push_of_some _ e) s.heap.objs.size e1 e2 (.ref s.heap.objs.size) 0 hS (fun h' tk acc' c' hk hS' hacc => ⟨rfl, h', tk, acc', c', rfl, hk, hS', hacc⟩) hn) (fun fin s' h => ?_) (fun e s' h => ?_)
  · cases fin with
    | done f =>
      obtain ⟨e, h', tk, acc, c', rfl, h1, h2, h3⟩ := h
      cases e
      exact fin' _ _ _ _ h1 h2 h3
    | again c' => exact ⟨h.1, codeAny_mono h.2 fun r s'' hr => by obtain ⟨rfl, h', tk, acc, c', rfl, h1, h2, h3⟩ := hr; exact fin' _ _ _ _ h1 h2 h3⟩
  · exact absurd h.1 (by simp)
def tStarVals (td : TE) (t : TA) : TA := fun σ H Q => td σ H fun x H1 => ∃ d kvs, x = V.ref d ∧ H1 d = some (.dK kvs) ∧ t σ H1 fun ys H2 => Q (kvs.map (·.2) ++ ys) H2
theorem vals_of {kvs : List (Key × V)} {vs : List (Key × Value)} (r : KV kvs vs) : Vals (kvs.map (·.2)) (vs.map (·.2)) := by
  unfold KV at r
  induction r with
  | nil => exact .nil
  | cons h _ ih => exact .cons h.2 ih
theorem pa_starVals {X : Cx} {o : Expr} {es : List Expr} {td : TE} {t : TA} {p apos mpos : Pos} (hc : X.calm = true) (hd : PE X o td) (hr : PA X es t) (hbase : attributeBase o "values" X.env (eval o X.env) = eval o X.env := by rfl) (hline : (apos.endLine == mpos.line) = true := by rfl)
    (hs : starEach (.Starred (.Call (.Attribute o "values" apos) [] [] mpos) p :: es) X.env = (true, eval (.Call (.Attribute o "values" apos) [] [] mpos) X.env) :: starEach es X.env := by rfl) :
    PA X (.Starred (.Call (.Attribute o "values" apos) [] [] mpos) p :: es) (tStarVals td t) := by
  refine ⟨fun pos pins s σ H Q I h => ?_⟩
  refine PySem.W.items_star (wpAny_Call_method0_late hbase hline (thn (hd.run pins s σ H _ I h) fun v s1 ⟨x, H1, I1, r1, a, kvs, ex, ha, q⟩ => ?_)) hs
  subst ex
  obtain rfl : v = Value.ref a := r1
  obtain ⟨hz, hsys, vs, rel, dof⟩ := I1.hok a _ ha
  obtain ⟨ep, dat⟩ := dof.dictAt
  have dat' := dat
  obtain ⟨ob, es', ho, ex, hdat, hko, hpr, hnd⟩ := dat'
  refine ⟨"dict", "dict.values", F.plainAttrs_dict, F.slot_dict_values, F.type_dict_values, ⟨ob, ho, ex.1⟩, fun b e => ?_, Calls.callWith_builtin rfl (PySem.evalArgs_none ?_)⟩
  · cases e
    exact ⟨ob, ho, ex.2.1⟩
  refine call_meetsIn F.slot_dict_values ⟨ob, ho, ex.1⟩ F.entry_dict_values (F.args_dict_values_1 _) (meets_dict_values (mixKind X.prog X.w) a hsys) ⟨⟨vs, dof⟩, ?_⟩
  have k1 : ∀ b u, s1.heap.get? b = some u → (s1.heap.push { cls := .type "dict_values", data := .fields #[.ref a] }).get? b = some u := fun b u e => Heap.get?_push_of_some _ e
  have dat1 : (s1.heap.push { cls := .type "dict_values", data := .fields #[.ref a] }).DictAt (mixKind X.prog X.w) a vs ep := dat.keep k1
  have hv : (s1.heap.push { cls := .type "dict_values", data := .fields #[.ref a] }).IsValuesView s1.heap.objs.size a := ⟨_, Heap.get?_push_size _ rfl, rfl, rfl⟩
  have lk : kvs.length = vs.length := KV.length rel
  unfold PySem.W.StarOf notIterableAtAll
  refine wpAny_bind (wpAny_specialOf (T := "dict_values") ⟨_, Heap.get?_push_size _ rfl, rfl⟩ PySem.F.slot_dict_values_iter.lookup (wpAny_pure ⟨rfl, ?_⟩))
  refine collect_src (PySem.W.kdl_values (knd := mixKind X.prog X.w) (kvs := vs) (ep := ep)) (I1.ok.hd hc) ⟨hv, dat1⟩ (by omega) fun h' tk acc hk hacc => ?_
  have I2 : Inv X pins σ H1 { s1 with heap := h', toks := tk } := I1.kept (t' := tk) fun b o e => hk b o (k1 b o e)
  have ea : acc.toList = vs.map (·.2) := PySem.W.kdl_vals_eq acc.toList (by rw [Array.length_toList]; exact hacc.1) fun j v e => hacc.2 j v (by rw [← Array.getElem?_toList]; exact e)
  rw [ea]
  exact thn (hr.run pos pins _ σ H1 _ I2 q) fun ws s3 ⟨vs3, H3, I3, r3, q3⟩ => ⟨kvs.map (·.2) ++ vs3, H3, I3, (vals_of rel).append r3, q3⟩
end L2
namespace Dl
open PySem L2
section
variable {X : Cx}
def wAStarVals (we : WE) (wr : WA) : WA := fun ρ μ P => we ρ μ fun d μ1 => match dctM μ1 d with
  | some kvs => wr ρ μ1 fun ys μ2 => P (kvs.map (·.2) ++ ys) μ2
  | none => False
theorem da_starVals {o : Expr} {es : List Expr} {p apos mpos : Pos} {we : WE} {wr : WA} (hc : X.calm = true) (h : DE X o we) (k : DA X es wr) (hbase : attributeBase o "values" X.env (eval o X.env) = eval o X.env := by rfl) (hline : (apos.endLine == mpos.line) = true := by rfl)
    (hs : starEach (.Starred (.Call (.Attribute o "values" apos) [] [] mpos) p :: es) X.env = (true, eval (.Call (.Attribute o "values" apos) [] [] mpos) X.env) :: starEach es X.env := by rfl) : DA X (.Starred (.Call (.Attribute o "values" apos) [] [] mpos) p :: es) (wAStarVals we wr) :=
  ⟨wkA (pa_starVals hc h.p k.p hbase hline hs) fun σ H Q ⟨ρ, μ, G, P, he, hm, hw, ht⟩ => ⟨ρ, μ, G, _, he, hm, hw, fun d μ1 v H1 G1 p1 e1 m1 r1 => by
    split at p1
    · rename_i kvs q
      obtain ⟨a, kv, rfl, h1, ek, rr⟩ := dctM_ok q m1 r1
      exact ⟨a, kv, rfl, h1, ρ, μ1, G1, _, he.mono e1, m1, p1, fun ys μ2 ws H2 G2 p2 e2 m2 r2 => ht _ _ _ _ _ p2 (e1.trans e2) m2 ((rr.mono e2).append r2)⟩
    · exact p1.elim⟩⟩
/-! ### range(i, j, -1) -/
def rngD (lo : Int) (n : Nat) : List D := (List.range n).map fun i => .int (lo - (i : Nat))
theorem rngD_length {lo : Int} {n : Nat} : (rngD lo n).length = n := by simp [rngD]
theorem rngD_get {lo : Int} {n i : Nat} (h : i < n) : (rngD lo n)[i]? = some (.int (lo - (i : Nat))) := by simp [rngD, h]
theorem walk_rd {K : PySem.W.Frag} {G : Hp} {lo : Int} {n : Nat} : Walk K G (Itc lo (-1) n) (rngD lo n) := fun i H G2 μ e m => by
  rw [rngD_length]
  refine ⟨fun hi => ⟨hi, fun x H' y => ?_⟩, fun hi => hi⟩
  obtain ⟨rfl, rfl⟩ := y
  have e2 : lo + (i : Nat) * (-1 : Int) = lo - (i : Nat) := by omega
  rw [e2]
  exact ⟨G2, _, rngD_get hi, Ex.refl _, m, .int _⟩
def wiRngD (wa : WA) : WI := fun ρ μ P => wa ρ μ fun ds μ1 => match ds with | [.int i, .int j, .int k] => (k = -1 ∧ -(2 ^ 62) ≤ i ∧ i < 2 ^ 62 ∧ -(2 ^ 62) ≤ j ∧ j < 2 ^ 62) ∧ P (rngD i (i - j).toNat) μ1 | _ => False
theorem di_rangeD {tg a b c : Expr} {wa : WA} {p pos : Pos} (hg : Gl X "range") (hm : X.mg "range" = none) (ha : DA X [a, b, c] wa) (hs : starEach [a, b, c] X.env = (false, eval a X.env) :: starEach [b, c] X.env := by rfl) (hpl : (backTo pos (starEach [b, c] X.env)).any (·.1) = false := by rfl) :
    DI X tg (.Call (.Name "range" p) [a, b, c] [] pos) (wiRngD wa) :=
  ⟨wkI (pi_range3 hg hm ha.p hs hpl) fun σ H R ⟨ρ, μ, G, P, he, hm, hw, ht⟩ => ⟨ρ, μ, G, _, he, hm, hw, fun ds μ1 vs H1 G1 p e m r => by
    match ds, r, p with
    | [.int i, .int j, .int k], .cons (.int _) (.cons (.int _) (.cons (.int _) .nil)), p =>
      obtain ⟨⟨rfl, h1, h2, h3, h4⟩, p⟩ := p
      exact ⟨i, j, -1, _, rfl, RgC.neg h1 h2 h3 h4, ht _ _ _ _ _ p e m walk_rd⟩⟩⟩
/-! ### {} -/
def wDctM : WE := fun _ μ P => ∀ p, μ p = none → P (.ref p) (setS μ p (.dct []))
theorem de_dctM {pos : Pos} : DE X (.Dict [] [] pos) wDctM :=
  ⟨wkE pe_dnewK fun σ H Q ⟨ρ, μ, G, P, he, hm, hw, ht⟩ => fun p hp => ht _ _ _ _ _ (hw p (hm.nn hp)) (Ex.refl _) (hm.write (c := .dct []) (hm.ex.nn hp) ⟨[], upd_same, rfl, .nil⟩) (.ref p)⟩
end
end Dl

namespace L2
open PySem PySem.Spec PyProof.Rows
section
variable {X : Cx}
def rInTp (K : PySem.W.Frag) (f : Bool → Bool) : R2 := fun x y H Q => ∃ d ds, Dp K H x d ∧ Dp K H y (.tuple ds) ∧ SeqAt.shaped d = true ∧ SeqAt.shaped (.tuple ds) = true ∧ Q (.bl (f (ds.any fun z => PyData.eqv z d))) H
theorem op_inTp (hu : X.A.units + 65 < cLine) : OpR X (compareOp .In) (rInTp X.K fun b => b) := by
  intro pins s σ H x y v u Q I rx ry h
  obtain ⟨d, ds, hd, he, sd, se, q⟩ := h
  obtain ⟨as, r1⟩ := Dp.reads I d x v hd rx
  obtain ⟨bs, r2⟩ := Dp.reads I (.tuple ds) y u he ry
  exact SeqAt.in_tuple_reads r2 r1 (SeqAt.canLay_of_shaped se) (SeqAt.canLay_of_shaped sd) (room_in_shaped sd hu) ⟨.bl _, H, I, rfl, q⟩
theorem op_notInTp (hu : X.A.units + 65 < cLine) : OpR X (compareOp .NotIn) (rInTp X.K fun b => !b) := by
  intro pins s σ H x y v u Q I rx ry h
  obtain ⟨d, ds, hd, he, sd, se, q⟩ := h
  obtain ⟨as, r1⟩ := Dp.reads I d x v hd rx
  obtain ⟨bs, r2⟩ := Dp.reads I (.tuple ds) y u he ry
  exact SeqAt.notIn_tuple_reads r2 r1 (SeqAt.canLay_of_shaped se) (SeqAt.canLay_of_shaped sd) (room_in_shaped sd hu) ⟨.bl _, H, I, rfl, q⟩
end
end L2
namespace Dl
open PySem L2
section
variable {X : Cx}
/-! ### in, over tuples of plain data of any depth -/
def oInTW (f : Bool → Bool) : OD := fun x y μ P => match pyS μ x, pyS μ y with
  | some d, some (.tuple ds) => SeqAt.shaped d = true ∧ SeqAt.shaped (.tuple ds) = true ∧ P (.bl (f (ds.any fun z => PyData.eqv z d))) μ
  | _, _ => False
def oInT : OD := oInTW fun b => b
def oNotInT : OD := oInTW fun b => !b
theorem os_inT (hu : X.A.units + 65 < cLine) : OpS X (compareOp .In) oInT := by
  refine ⟨_, op_inTp hu, ?_⟩
  intro x y μ P G H v u Q h m rx ry t
  unfold oInT oInTW at h
  split at h
  · rename_i d ds h1 h2
    exact ⟨d, ds, pyS_ok m rx h1, pyS_ok m ry h2, h.1, h.2.1, t _ _ _ _ _ h.2.2 (Ex.refl _) m (.bl _)⟩
  · exact h.elim
theorem os_notInT (hu : X.A.units + 65 < cLine) : OpS X (compareOp .NotIn) oNotInT := by
  refine ⟨_, op_notInTp hu, ?_⟩
  intro x y μ P G H v u Q h m rx ry t
  unfold oNotInT oInTW at h
  split at h
  · rename_i d ds h1 h2
    exact ⟨d, ds, pyS_ok m rx h1, pyS_ok m ry h2, h.1, h.2.1, t _ _ _ _ _ h.2.2 (Ex.refl _) m (.bl _)⟩
  · exact h.elim
theorem oInTW_tup {α : Type} [DecidableEq α] (E : Enc α) (h : E.n + 1 ≤ 64) (hr : ∀ x : α, ∀ p, E.enc x ≠ .ref p) (f : Bool → Bool) (a : α) (as : List α) (μ : Store) (P : D → Store → Prop) :
    oInTW f (E.enc a) (.tup (as.map E.enc)) μ P = P (.bl (f (decide (a ∈ as)))) μ := by
  have e1 : pyS μ (E.enc a) = some (E.py a) := by
    have := E.ok a
    unfold pyS
    cases q : E.enc a with
    | ref p => exact absurd q (hr a p)
    | _ => rw [q] at this; exact this
  have e2 : pyS μ (.tup (as.map E.enc)) = some (.tuple (as.map E.py)) := by
    show pyD _ = _
    rw [pyD, encs_ok]; rfl
  unfold oInTW
  rw [e1, e2]
  dsimp only
  rw [enc_shaped E (by omega), show SeqAt.shaped (.tuple (as.map E.py)) = true from enc_shaped (eTup E) h as, encs_any]
  simp
end
end Dl

namespace L2
open PySem PySem.Spec PyProof.Rows HT
/-! ### t[::-1], t a tuple -/
section
variable {prog : Program} {w : World} {A : Around} {E : Value → Shared → Prop} {s : Shared}
theorem sliceApplied_rev {sl : Addr} {vs : Value} {n : Nat} {Q : Int × Int × Nat → Shared → Prop} (hs : s.heap.IsSliceOf sl .none .none vs) (ps : IsPart vs (some (-1)))
    (h : Q ((n : Int) - 1, -1, n) s) : wpAny (model prog w) A (Builtin.Slice.sliceApplied (.ref sl) (pure (n : Int))) Q E s := by
  obtain ⟨os, hos, hcs, hds⟩ := id hs
  unfold Builtin.Slice.sliceApplied Builtin.Slice.sliceFields
  refine wpAny_bind (wpAny_bind (wpAny_field hos hds (x := .none) rfl (wpAny_bind (wpAny_field hos hds (x := .none) rfl (wpAny_bind (wpAny_field hos hds (x := vs) rfl (wpAny_pure ?_)))))))
  refine wpAny_bind (slicePart_ ps ?_)
  show wpAny _ _ (if ((-1 : Int) == 0) = true then _ else _) _ _ s
  rw [if_neg (by decide)]
  refine wpAny_bind (slicePart_none (wpAny_bind (slicePart_none (wpAny_bind (wpAny_pure ?_)))))
  have e : Builtin.Slice.slicePlaces ((n : Int) - 1) (-1) (-1) = n := by
    unfold Builtin.Slice.slicePlaces
    rw [if_neg (by decide)]
    by_cases h0 : n = 0
    · subst h0
      rw [if_neg (by decide)]
      rfl
    · rw [if_pos (by omega), show (-(-1) : Int) = 1 by decide, Int.ediv_one]
      omega
  show wpAny _ _ (pure ((n : Int) - 1, (-1 : Int), Builtin.Slice.slicePlaces ((n : Int) - 1) (-1) (-1))) _ _ s
  rw [e]
  exact wpAny_pure h
theorem pick_rev (xs : Array Value) : ((List.range xs.size).filterMap fun (m : Nat) => xs[(((xs.size : Int) - 1) + (m : Int) * (-1)).toNat]?).toArray = xs.toList.reverse.toArray := by
  congr 1
  apply List.ext_getElem?
  intro i
  have hfm : (List.range xs.size).filterMap (fun (m : Nat) => xs[(((xs.size : Int) - 1) + (m : Int) * (-1)).toNat]?) = (List.range xs.size).map fun m => xs.toList.reverse.getD m .none := by
    have gen : ∀ l : List Nat, (∀ m ∈ l, m < xs.size) → l.filterMap (fun (m : Nat) => xs[(((xs.size : Int) - 1) + (m : Int) * (-1)).toNat]?) = l.map fun m => xs.toList.reverse.getD m .none := by
      intro l
      induction l with
      | nil => intro _; rfl
      | cons m r ih =>
        intro hm
        have hmx := hm m List.mem_cons_self
        have e1 : (((xs.size : Int) - 1) + (m : Int) * (-1)).toNat = xs.size - 1 - m := by omega
        have e2 : xs[xs.size - 1 - m]? = some (xs.toList.reverse.getD m .none) := by
          rw [List.getD_eq_getElem?_getD, List.getElem?_reverse (by simpa using hmx)]
          simp only [Array.length_toList, Array.getElem?_toList]
          rw [Array.getElem?_eq_getElem (show xs.size - 1 - m < xs.size by omega)]
          rfl
        rw [List.filterMap_cons, e1, e2, List.map_cons, ih fun x hx => hm x (List.mem_cons_of_mem _ hx)]
    exact gen _ fun m hm => List.mem_range.mp hm
  rw [hfm, List.getElem?_map]
  by_cases hi : i < xs.size
  · rw [List.getElem?_range hi]
    show some (xs.toList.reverse.getD i .none) = _
    rw [List.getD_eq_getElem?_getD, List.getElem?_eq_getElem (by simpa using hi)]
    rfl
  · rw [List.getElem?_eq_none (by simpa using hi), List.getElem?_eq_none (by simpa using hi)]
    rfl
theorem getItem_tuple_rev {t sl : Addr} {items : Array Value} {vs : Value} {Q : Value → Shared → Prop} (ht : IsTup s.heap t items) (hs : s.heap.IsSliceOf sl .none .none vs) (ps : IsPart vs (some (-1)))
    (h : Q (.ref s.heap.objs.size) { s with heap := s.heap.push { cls := .type "tuple", data := .seq items.toList.reverse.toArray } })
    (hsz : items.size ≤ sizeLine) : wpAny (model prog w) A (getItem (.ref t) (.ref sl)) Q E s := by
  have htake : sizeOk (.seq items.toList.reverse.toArray) := by
    show items.toList.reverse.toArray.size ≤ sizeLine
    rw [List.size_toArray, List.length_reverse, Array.length_toList]
    exact hsz
  obtain ⟨os, hos, hcs, hds⟩ := id hs
  have hTs : s.TypeIs (.ref sl) "slice" := ⟨os, hos, hcs⟩
  unfold getItem
  try with_reducible refine wpAny_holding ?_
  first | refine wpAny_bind (wpAny_pure ?_) | skip
  refine wpAny_bind (wpAny_sequenceKey ht.typeIs (by decide) ?_)
  refine wpAny_bind (wpAny_callSpecial?_slot (name := Str.ofString "__getitem__") ht.typeIs PyProof.Rows.slot_tuple_getitem
    (wpAny_call_entry PyProof.Rows.slot_tuple_getitem ht.typeIs entry_tuple_getitem ?_ (args_tuple_getitem _ _)))
  show wpAny _ _ (Builtin.Tuple.tupleItemsOf (.ref t) >>= _) _ _ s
  refine wpAny_bind (tupleItemsOf_ ht ?_)
  refine wpAny_bind (wpAny_typeOf hTs ?_)
  rw [if_pos (by decide)]
  refine wpAny_bind (sliceApplied_rev hs ps ?_)
  have hno : ¬ ((((items.size : Int) - 1) == 0 && (-1 : Int) == 1 && items.size == items.size) = true) := by
    rw [show ((-1 : Int) == 1) = false by decide, Bool.and_false, Bool.false_and]
    exact Bool.false_ne_true
  show wpAny _ _ (if (((items.size : Int) - 1) == 0 && (-1 : Int) == 1 && items.size == items.size) = true then _ else _) _ _ s
  rw [if_neg hno, pick_rev]
  first
    | exact wpAny_bind (m := Builtin.Tuple.tupleExact _) (wpAny_newObj_type (wpAny_pure ⟨_, rfl, wpAny_pure h⟩) htake)
    | exact wpAny_bind (m := Builtin.Tuple.tupleExact _) (wpAny_newObj_type (wpAny_bind (wpAny_pure (wpAny_pure ⟨_, rfl, wpAny_pure h⟩))) htake)
    | exact wpAny_bind (wpAny_bind (m := Builtin.Tuple.tupleExact _) (wpAny_newObj_type (wpAny_pure (wpAny_pure ⟨_, rfl, wpAny_pure h⟩)) htake))
    | exact wpAny_bind (wpAny_bind (m := Builtin.Tuple.tupleExact _) (wpAny_newObj_type (wpAny_pure ⟨_, rfl, wpAny_pure h⟩) htake))
end
def tRevT (K : PySem.W.Frag) (te : TE) : TE := fun σ H Q => te σ H fun x H1 => ∃ a xs, x = .ref a ∧ SqT K H1 a xs ∧ ∀ p, H1 p = none → Q (.ref p) (upd H1 p (.tup xs.reverse))
theorem pe_revT {X : Cx} {e : Expr} {te : TE} {k : Nat} {p1 p2 p3 pos : Pos} (he : PE X e te) : PE X (.Subscript e (.Slice none none (some (.UnaryOp .USub (.Constant (.int 1) k p1) p2)) p3) pos) (tRevT X.K te) := by
  refine ⟨fun pins s σ H Q I h => ?_⟩
  refine Subscript_ (thn (he.run pins s σ H _ I h) fun v s1 ⟨x, H1, I1, r1, q1⟩ => ?_)
  obtain ⟨a, xs, ex, hx, q⟩ := q1
  subst ex
  cases r1
  have hst : PO X (some (.UnaryOp .USub (.Constant (.int 1) k p1) p2)) (tPart (tUn (rU fun i => .int (-i)) (tC (.int 1)))) := po_some (pe_un un_neg pe_int)
  refine wpAny_Slice ?_
  rw [evalPart_none]
  refine wpAny_pure ?_
  refine wpAny_pure ?_
  refine thn (hst.run pins s1 σ H1 (fun o H4 => o = some (-1) ∧ H4 = H1) I1 ⟨1, rfl, -1, rfl, rfl, rfl⟩) fun vs s4 ⟨o, H4, I4, ps, eo, e4⟩ => ?_
  subst eo e4
  have I5 : Inv X pins σ H4 { s4 with heap := s4.heap.push { cls := .type "slice", data := .fields #[.none, .none, vs] } } := I4.kept (t' := s4.toks) fun b ob q => Heap.get?_push_of_some _ q
  obtain ⟨its, r, ht, hz⟩ := I5.tuple hx
  have hlen := r.length
  show wpAny (model X.prog X.w) X.A (subscriptTail e (.Slice none none (some (.UnaryOp .USub (.Constant (.int 1) k p1) p2)) p3) (.ref a) (.ref s4.heap.objs.size)) (EP X pins σ Q) X.xe { s4 with heap := s4.heap.push { cls := .type "slice", data := .fields #[.none, .none, vs] } }
  refine tail_any (ops := [.ref a, .ref s4.heap.objs.size]) (show IsTup _ _ _ from ht).typeIs (PyProof.Rows.slot_tuple_getitem.lookup) ?_ (by with_unfolding_all rfl)
  refine getItem_tuple_rev ht (Heap.IsSliceOf.new _ .none .none vs) ps ?_ (by rw [List.size_toArray]; omega)
  refine ⟨.ref _, _, I5.laid (t' := s4.toks) (o := .tup xs.reverse) (fun b ob q => Heap.get?_push_of_some _ q) (Nat.le_refl _) ?_, rfl, q _ (I5.hok.fresh (Nat.le_refl _))⟩
  exact ⟨by rw [List.length_reverse]; exact hz, _, r.reverse, IsTup.new _ _⟩
end L2
namespace Dl
open PySem L2
section
variable {X : Cx}
def wRevTp (we : WE) : WE := fun ρ μ P => we ρ μ fun d μ1 => match d with | .tup xs => P (.tup xs.reverse) μ1 | _ => False
theorem de_revTp {e : Expr} {we : WE} {k : Nat} {p1 p2 p3 pos : Pos} (h : DE X e we) : DE X (.Subscript e (.Slice none none (some (.UnaryOp .USub (.Constant (.int 1) k p1) p2)) p3) pos) (wRevTp we) :=
  ⟨wkE (pe_revT h.p) fun σ H Q ⟨ρ, μ, G, P, he, hm, hw, ht⟩ => ⟨ρ, μ, G, _, he, hm, hw, fun d μ1 v H1 G1 p e m r => by
    split at p
    · cases r with | tup h1 r1 =>
      exact ⟨_, _, rfl, h1.sq m.ex, fun q hq => new_tup m (rps_rev r1) p (ht.mono e) q hq⟩
    · exact p.elim⟩⟩
end
end Dl

namespace L2
open PySem PySem.Spec PyProof.Rows
/-! ### zip of a tuple and a list -/
def ItzM (K : PySem.W.Frag) (a b : Addr) : It :=
  ⟨fun i H => ∃ (xs ys : List V) (x y : V), SqT K H a xs ∧ SqL K H b ys ∧ xs[i]? = some x ∧ ys[i]? = some y,
    fun i H v H' => ∃ T x y, v = .ref T ∧ H T = none ∧ H' = upd H T (.tup [x, y]) ∧ (∀ xs, SqT K H a xs → xs[i]? = some x) ∧ ∀ ys, SqL K H b ys → ys[i]? = some y,
    fun i H => ∃ xs ys : List V, SqT K H a xs ∧ SqL K H b ys ∧ (xs.length ≤ i ∨ ys.length ≤ i)⟩
theorem drawsT_end {prog : Program} {w : World} {A : Around} (hh : A.handled = none) (it t : Addr) (items : Array Value) {i : Nat} (hi : items.size ≤ i) :
    Draws prog w A it [it, t] i (fun j v => items[j]? = some v) (fun j h => i ≤ j ∧ h.IsTupleIter it t i ∧ h.IsTuple t items) where
  live := fun _ _ st => let ⟨o, ho, _⟩ := st.2.1; ⟨o, ho⟩
  frame := fun _ _ _ st hk => ⟨st.1, st.2.1.at fun o e => hk it (by simp) o e, st.2.2.at fun o e => hk t (by simp) o e⟩
  item := fun j s Q E hj st hQ => absurd st.1 (by omega)
  done := fun s Q E st hE => wpAny_nextOf_tuple_end hh st.2.1 st.2.2 (by simp; omega) hE
theorem drawsL_end {prog : Program} {w : World} {A : Around} (hh : A.handled = none) (it t : Addr) (items : Array Value) {i : Nat} (hi : items.size ≤ i) :
    Draws prog w A it [it, t] i (fun j v => items[j]? = some v) (fun j h => i ≤ j ∧ h.IsListIter it t i ∧ h.IsList t items) where
  live := fun _ _ st => let ⟨o, ho, _⟩ := st.2.1; ⟨o, ho⟩
  frame := fun _ _ _ st hk => ⟨st.1, st.2.1.at fun o e => hk it (by simp) o e, st.2.2.at fun o e => hk t (by simp) o e⟩
  item := fun j s Q E hj st hQ => absurd st.1 (by omega)
  done := fun s Q E st hE => wpAny_nextOf_list_end hh st.2.1 st.2.2 (by simp; omega) hE
theorem apart_sep {z TI TO i1 i2 a b : Addr} (D : ZipApart z TI TO i1 i2 a b) : ZipSep2 z TI TO i1 i2 [i1, a] [i2, b] where
  TIz := D.TIz
  TOz := D.TOz
  TITO := D.TITO
  TIi1 := D.TIi1
  mem1 := by simp
  zf1 := by simp; exact ⟨Ne.symm D.i1z, Ne.symm D.l1z⟩
  Tf1 := by simp; exact ⟨D.TOi1, Ne.symm D.l1TO⟩
  TIi2 := D.TIi2
  mem2 := by simp
  zf2 := by simp; exact ⟨Ne.symm D.i2z, Ne.symm D.l2z⟩
  Tf2 := by simp; exact ⟨D.TOi2, Ne.symm D.l2TO⟩
  sep1_2 := by simp; exact ⟨D.i12, Ne.symm D.l2i1⟩
  sep2_1 := by simp; exact ⟨Ne.symm D.i12, Ne.symm D.l1i2⟩
theorem turn_zipM {P : Program} {w : World} {K : PySem.W.Frag} {elts : List Expr} {kk : Nat} {tpos : Pos} {a b z TI TO i1 i2 : Addr} (D : ZipApart z TI TO i1 i2 a b) :
    Turn P w K (.Tuple elts kk tpos) (ItzM K a b) [z, TI, TO, i1, i2] z (fun i h => IsZip h z TI TO .none ∧ IsPair h TI (.ref i1) (.ref i2) ∧ (∃ x y, IsPair h TO x y) ∧ h.IsTupleIter i1 a i ∧ h.IsListIter i2 b i) where
  mem := by simp
  obj := fun i h st c hc => by
    obtain ⟨hz, hTI, ⟨x, y, hTO⟩, ⟨o1, e1, _, d1⟩, ⟨o2, e2, _, d2⟩⟩ := st
    have e' : c = z ∨ c = TI ∨ c = TO ∨ c = i1 ∨ c = i2 := by simpa using hc
    rcases e' with q | q | q | q | q
    · rw [q]; exact ⟨_, hz, fun v q => nomatch q⟩
    · rw [q]; exact ⟨_, hTI, fun v q => nomatch q⟩
    · rw [q]; exact ⟨_, hTO, fun v q => nomatch q⟩
    · rw [q]; exact ⟨o1, e1, fun v q => by rw [d1] at q; cases q⟩
    · rw [q]; exact ⟨o2, e2, fun v q => by rw [d2] at q; cases q⟩
  keep := fun i h h' st k => by
    obtain ⟨hz, hTI, ⟨x, y, hTO⟩, h1, h2⟩ := st
    exact ⟨k z (by simp) _ hz, k TI (by simp) _ hTI, ⟨x, y, k TO (by simp) _ hTO⟩, h1.at fun o q => k i1 (by simp) o q, h2.at fun o q => k i2 (by simp) o q⟩
  item := by
    intro X hP hw hK hc i pins s σ H E I hf st hg
    subst hP hw hK
    obtain ⟨hz, hTI, ⟨x0, y0, hTO⟩, h1, h2⟩ := st
    obtain ⟨xs, ys, x, y, hqx, hqy, hx, hy⟩ := hg
    obtain ⟨its, rv, p, _⟩ := I.tuple hqx
    obtain ⟨its2, rv2, p2, _⟩ := I.list hqy
    obtain ⟨u, hu, ru⟩ := rv.get hx
    obtain ⟨u2, hu2, ru2⟩ := rv2.get hy
    have hzl : z < s.heap.objs.size := Heap.lt_size hz
    have g1 : its.toArray[i]? = some u := by simpa using hu
    have g2 : its2.toArray[i]? = some u2 := by simpa using hu2
    refine wpAny_pyNext_zipD2_item (apart_sep D) (Draws.tuple (A := X.A.in1) (I.ok.hd hc) i1 a D.l1i1 its.toArray) (Draws.list (A := X.A.in1) (I.ok.hd hc) i2 b D.l2i2 its2.toArray) hz hTI hTO ⟨h1, p⟩ ⟨h2, p2.isList⟩ (Array.getElem?_eq_some_iff.mp g1).1 (Array.getElem?_eq_some_iff.mp g2).1 fun v1 v2 h' tk y1 y2 z' TO' b1 b2 hT hsz hk => ?_
    obtain rfl : v1 = u := Option.some.inj (y1.symm.trans g1)
    obtain rfl : v2 = u2 := Option.some.inj (y2.symm.trans g2)
    refine ⟨_, rfl, wpAny_letOwnedTupleGo_zip (s := { s with heap := h', toks := tk }) z' fun h'' z'' sb => ?_⟩
    have hT2 : h''.get? s.heap.objs.size = some { cls := .type "tuple", data := .seq #[v1, v2] } := (sb.2 _ (Nat.ne_of_gt hzl)).trans hT
    have new : ObjOk X.prog X.w (upd H s.heap.objs.size (.tup [x, y])) h'' s.heap.objs.size (.tup [x, y]) :=
      ⟨by show 2 ≤ sizeLine; decide, [v1, v2], .cons ru (.cons ru2 .nil), ⟨_, hT2, rfl, _, rfl⟩⟩
    have I1 : Inv X pins σ (upd H s.heap.objs.size (.tup [x, y])) { s with heap := h'', toks := tk } :=
      I.turnedNew (t' := tk) (ch := [z, TI, TO, i1, i2]) (fun c o hb q => (sb.2 c (fun q' => hb (by simp [q']))).trans (hk c o (fun q' => hb (by simp [q'])) (fun q' => hb (by simp [q'])) (fun q' => hb (by simp [q'])) (fun q' => hb (by simp [q'])) q)) hf (Nat.le_refl _) new
    refine ⟨.ref s.heap.objs.size, _, I1, rfl, ⟨_, x, y, rfl, I.hok.fresh (Nat.le_refl _), rfl, fun l hl => by rw [I.tuple_inj hl hqx]; exact hx, fun l hl => by rw [I.list_inj hl hqy]; exact hy⟩, ⟨z'', ?_, ⟨v1, v2, ?_⟩, ?_, ?_⟩, fun c hcm => ?_⟩
    · exact (sb.2 _ D.TIz).trans (hk _ _ D.TIz D.TITO D.TIi1 D.TIi2 hTI)
    · exact (sb.2 _ D.TOz).trans TO'
    · exact b1.1.at fun o q => (sb.2 _ D.i1z).trans q
    · exact b2.1.at fun o q => (sb.2 _ D.i2z).trans q
    · have hlt : c < s.heap.objs.size := by
        have e' : c = z ∨ c = TI ∨ c = TO ∨ c = i1 ∨ c = i2 := by simpa using hcm
        rcases e' with q | q | q | q | q
        · rw [q]; exact hzl
        · rw [q]; exact Heap.lt_size hTI
        · rw [q]; exact Heap.lt_size hTO
        · rw [q]; obtain ⟨_, e1, _⟩ := h1; exact Heap.lt_size e1
        · rw [q]; obtain ⟨_, e2, _⟩ := h2; exact Heap.lt_size e2
      rw [upd_ne (Nat.ne_of_lt hlt)]
      exact (hf c hcm).1
  done := by
    intro X hP hw hK hc i pins s σ H E I hf st hg
    subst hP hw hK
    obtain ⟨hz, hTI, ⟨x0, y0, hTO⟩, h1, h2⟩ := st
    obtain ⟨xs, ys, hqx, hqy, hend⟩ := hg
    obtain ⟨its, rv, p, _⟩ := I.tuple hqx
    obtain ⟨its2, rv2, p2, _⟩ := I.list hqy
    have l1 := rv.length
    have l2 := rv2.length
    have z1 : its.toArray.size = its.length := by simp
    have z2 : its2.toArray.size = its2.length := by simp
    by_cases g1 : its.toArray.size ≤ i
    · by_cases g2 : its2.toArray.size ≤ i
      · exact wpAny_pyNext_zipD2_end (apart_sep D) (drawsT_end (A := X.A.in1) (I.ok.hd hc) i1 a its.toArray g1) (drawsL_end (A := X.A.in1) (I.ok.hd hc) i2 b its2.toArray g2) hz hTI hTO ⟨Nat.le_refl _, h1, p⟩ ⟨Nat.le_refl _, h2, p2.isList⟩ (Nat.le_refl _) (Nat.le_refl _) (.inl rfl) fun h' tk hk => ⟨rfl, I.turnedL (t' := tk) (ch := [z, TI, TO, i1, i2]) (fun c o hb q =>
          hk c o (fun q' => hb (by simp [q'])) (fun q' => hb (by simp [q'])) (fun q' => hb (by simp [q'])) (fun q' => hb (by simp [q'])) q) hf⟩
      · exact wpAny_pyNext_zipD2_end (apart_sep D) (drawsT_end (A := X.A.in1) (I.ok.hd hc) i1 a its.toArray g1) (Draws.list (A := X.A.in1) (I.ok.hd hc) i2 b D.l2i2 its2.toArray) hz hTI hTO ⟨Nat.le_refl _, h1, p⟩ ⟨h2, p2.isList⟩ (Nat.le_refl _) (by omega) (.inl rfl) fun h' tk hk => ⟨rfl, I.turnedL (t' := tk) (ch := [z, TI, TO, i1, i2]) (fun c o hb q =>
          hk c o (fun q' => hb (by simp [q'])) (fun q' => hb (by simp [q'])) (fun q' => hb (by simp [q'])) (fun q' => hb (by simp [q'])) q) hf⟩
    · have g2 : its2.toArray.size ≤ i := by omega
      exact wpAny_pyNext_zipD2_end (apart_sep D) (Draws.tuple (A := X.A.in1) (I.ok.hd hc) i1 a D.l1i1 its.toArray) (drawsL_end (A := X.A.in1) (I.ok.hd hc) i2 b its2.toArray g2) hz hTI hTO ⟨h1, p⟩ ⟨Nat.le_refl _, h2, p2.isList⟩ (by omega) (Nat.le_refl _) (.inr rfl) fun h' tk hk => ⟨rfl, I.turnedL (t' := tk) (ch := [z, TI, TO, i1, i2]) (fun c o hb q =>
        hk c o (fun q' => hb (by simp [q'])) (fun q' => hb (by simp [q'])) (fun q' => hb (by simp [q'])) (fun q' => hb (by simp [q'])) q) hf⟩
  self := fun A i s Q E st h => wpAny_pyIter_zip st.1 h
def iZipM (K : PySem.W.Frag) (ta : TA) : TI := fun σ H R => ta σ H fun vs H1 => ∃ a b xs ys, vs = [.ref a, .ref b] ∧ SqT K H1 a xs ∧ SqL K H1 b ys ∧ R (ItzM K a b) H1
theorem pi_zipM {X : Cx} {e e2 : Expr} {ta : TA} {p pos tpos : Pos} {elts : List Expr} {kk : Nat} (hg : Gl X "zip") (hm : X.mg "zip" = none) (ha : PA X [e, e2] ta)
    (hs : starEach [e, e2] X.env = (false, eval e X.env) :: starEach [e2] X.env := by rfl) (hpl : (backTo pos (starEach [e2] X.env)).any (·.1) = false := by rfl) :
    PI X (.Tuple elts kk tpos) (.Call (.Name "zip" p) [e, e2] [] pos) (iZipM X.K ta) := by
  refine ⟨fun pins s σ H R I h => ?_⟩
  refine Call_ (ld_blt I hg hm PyProof.Rows.boot_zip (PyProof.Rows.callWith_type1 (thn (ha.run pos pins s σ H _ I h) fun us s1 ⟨vs, H1, I1, r1, q1⟩ => ?_) hs hpl))
  obtain ⟨a, b, xs, ys, ex, hqx, hqy, q⟩ := q1
  subst ex
  cases r1 with
  | cons r rr =>
    cases rr with
    | cons r' rr =>
      cases rr
      cases r
      cases r'
      obtain ⟨its, rv, p1, _⟩ := I1.tuple hqx
      obtain ⟨its2, rv2, p2, _⟩ := I1.list hqy
      obtain ⟨o1, ho1, _⟩ := id p1
      have la : a < s1.heap.objs.size := Heap.lt_size ho1
      have lb : b < s1.heap.objs.size := p2.lt
      refine zip_begins2 (begins_tuple a its.toArray) (begins_list b its2.toArray) p1 p2.isList fun h' hz hTI hTO h1 h2 hsz hk => wpAny_pyIter_zip hz ?_
      have I2 : Inv X pins σ H1 { s1 with heap := h' } := I1.kept (t' := s1.toks) hk
      refine ⟨s1.heap.objs.size + 4, [s1.heap.objs.size + 4, s1.heap.objs.size + 2, s1.heap.objs.size + 3, s1.heap.objs.size, s1.heap.objs.size + 1], _, _, H1, rfl, I2, turn_zipM (PySem.W.ktu_apart s1.heap.objs.size a b la lb), ⟨hz, hTI, ⟨_, _, hTO⟩, ⟨_, h1, rfl, rfl⟩, ⟨_, h2, rfl, rfl⟩⟩, fun c hcm => ?_, q⟩
      have e' : c = s1.heap.objs.size + 4 ∨ c = s1.heap.objs.size + 2 ∨ c = s1.heap.objs.size + 3 ∨ c = s1.heap.objs.size ∨ c = s1.heap.objs.size + 1 := by simpa using hcm
      have hle : s1.heap.objs.size ≤ c := by
        rcases e' with z | z | z | z | z <;> rw [z] <;> first | exact Nat.le_add_right _ _ | exact Nat.le_refl _
      exact I1.fpOk hle (I1.hok.fresh hle)
end L2
namespace Dl
open PySem L2
section
variable {X : Cx}
theorem walk_zm {K : PySem.W.Frag} {G : Hp} {a b : Addr} {xs ys : List V} {ds es : List D} (h : TupAt K G a xs) (h2 : ∀ H, Ex G H → SqL K H b ys) (r : Rps K G ds xs) (r2 : Rps K G es ys) : Walk K G (ItzM K a b) (zipD ds es) := fun i H G2 μ e m => by
  have sq := h.sq (e.trans m.ex)
  have sq2 := h2 H (e.trans m.ex)
  have l1 := r.length
  have l2 := r2.length
  rw [zipD_length]
  refine ⟨fun hi => ⟨⟨xs, ys, xs[i]'(by omega), ys[i]'(by omega), sq, sq2, List.getElem?_eq_getElem _, List.getElem?_eq_getElem _⟩, fun x H' y => ?_⟩, fun hi => ⟨xs, ys, sq, sq2, by omega⟩⟩
  obtain ⟨T, u, v, rfl, hT, rfl, hu, hv⟩ := y
  obtain ⟨d, hd, rd⟩ := r.getR (hu xs sq)
  obtain ⟨d2, hd2, rd2⟩ := r2.getR (hv ys sq2)
  obtain ⟨G3, e3, m3, r3⟩ := zip_pair m hT (rd.mono e) (rd2.mono e)
  exact ⟨G3, _, zipD_get hd hd2, e3, m3, r3⟩
def wiZipM (wa : WA) : WI := fun ρ μ P => wa ρ μ fun ds μ1 => match ds with
  | [.tup xs, .lst ys] => P (zipD xs ys) μ1
  | _ => False
theorem di_zipM {e e2 : Expr} {wa : WA} {p pos tpos : Pos} {elts : List Expr} {kk : Nat} (hg : Gl X "zip") (hm : X.mg "zip" = none) (ha : DA X [e, e2] wa)
    (hs : starEach [e, e2] X.env = (false, eval e X.env) :: starEach [e2] X.env := by rfl) (hpl : (backTo pos (starEach [e2] X.env)).any (·.1) = false := by rfl) :
    DI X (.Tuple elts kk tpos) (.Call (.Name "zip" p) [e, e2] [] pos) (wiZipM wa) :=
  ⟨wkI (pi_zipM hg hm ha.p hs hpl) fun σ H R ⟨ρ, μ, G, P, he, hm, hw, ht⟩ => ⟨ρ, μ, G, _, he, hm, hw, fun ds μ1 vs H1 G1 p e m r => by
    split at p
    · cases r with | cons r1 r2 =>
      cases r2 with | cons r2 r3 =>
      cases r3
      cases r1 with | tup h1 r1 =>
      cases r2 with | lst h2 r2 =>
      exact ⟨_, _, _, _, rfl, h1.sq m.ex, lst_sq m.ex h2, ht _ _ _ _ _ p e m (walk_zm h1 (fun H' e' => lst_sq e' h2) r1 r2)⟩
    · exact p.elim⟩⟩
end
end Dl

namespace L2
open PySem PySem.Spec PySem.Calls PyProof.Rows
/-! ### two sets of ints compared -/
theorem entry_set_ne : entryFor table "set.__ne__" = some Builtin.«frozenset.__ne__» :=
  entryFor_alias (id' := "frozenset.__ne__") (by kernel_rfl) rfl (by decide +kernel) (by kernel_rfl)
section
variable {P : Program} {w : World} {A : Around} {E : Value → Shared → Prop} {s : Shared} {a b : Addr} {S T : Int → Bool} {n m : Nat}
theorem int_key {e : Int × Value} (h : (∃ k, (intKind P w).is k e.2 = true ∧ e.1 = (intKind P w).hash k) ∧ e.2.scannable = true) : ∃ k t, e.2 = Value.int k t := by
  obtain ⟨⟨k, hk, _⟩, _⟩ := h
  obtain ⟨i, v⟩ := e
  dsimp only at hk ⊢
  cases v with
  | int i t => exact ⟨i, t, rfl⟩
  | _ => cases hk
theorem walk_ints (ha : s.heap.SetOf (intKind P w) a S n) (hb : s.heap.SetOf (intKind P w) b T m) {Q : List (Int × Value) → Shared → Prop}
    (h : ∀ es : List (Int × Value), ElemsOf (intKind P w) es → (∀ k, S k = true ↔ ∃ e ∈ es, (intKind P w).is k e.2 = true) → Q es s) : wpAny (model P w) A (Builtin.Frozenset.walkUnseen a b) Q E s := by
  obtain ⟨o, es, ep, t, ho, hx, hd, hel, hm, hsz, hf, hn⟩ := ha
  obtain ⟨o2, es2, ep2, t2, ho2, hx2, hd2, hel2, hm2, hsz2, hf2, hn2⟩ := hb
  unfold Builtin.Frozenset.walkUnseen
  refine wpAny_bind (wpAny_setEntries_of ho hd hf ?_)
  refine wpAny_bind (wpAny_setEntries_of ho2 hd2 hf2 ?_)
  refine wpAny_bind ?_
  refine wpAny_forIn_list _ (fun rest r s' => r.1 = none ∧ s' = s ∧ ∀ y ∈ rest, ∃ k t, y.2 = Value.int k t) _ ?_ ?_ _ _ ⟨rfl, rfl, fun y hy => ?_⟩
  · rintro v rest r s' ⟨hr, rfl, hall⟩
    obtain ⟨k, t, e⟩ := hall v List.mem_cons_self
    have rest' : ∀ y ∈ rest, ∃ k t, y.2 = Value.int k t := fun u hu => hall u (List.mem_cons_of_mem _ hu)
    obtain ⟨h', y⟩ := v
    dsimp only at e ⊢
    subst e
    unfold Builtin.Frozenset.quietEq
    refine wpAny_bind (wpAny_pure ?_)
    exact wpAny_pure ⟨rfl, rfl, rest'⟩
  · rintro ⟨r1, r2⟩ s' ⟨hr, rfl, _⟩
    simp only at hr
    subst hr
    exact wpAny_pure (h es.toList hel hm)
  · rcases List.mem_append.mp hy with q | q
    · exact int_key (hel y q)
    · exact int_key (hel2 y q)
theorem subset_ints {id : String} (ha : s.heap.SetOf (intKind P w) a S n) (hb : s.heap.SetOf (intKind P w) b T m) (hnm : n = m) {Q : Bool → Shared → Prop}
    (h : ∀ r : Bool, (r = true ↔ ∀ k, S k = true → T k = true) → Q r s) : wpAny (model P w) A (Builtin.Frozenset.subsetOf id a b) Q E s := by
  have ⟨o, es, ep, t, ho, hx, hd, hel, hm, hsz, hf, hn⟩ := ha
  have ⟨o2, es2, ep2, t2, ho2, hx2, hd2, hel2, hm2, hsz2, hf2, hn2⟩ := hb
  unfold Builtin.Frozenset.subsetOf Builtin.Frozenset.sizeOf
  refine wpAny_bind (wpAny_bind (wpAny_setEntries_of ho hd hf (wpAny_pure ?_)))
  refine wpAny_bind (wpAny_bind (wpAny_setEntries_of ho2 hd2 hf2 (wpAny_pure ?_)))
  refine wp_if_neg (by omega) ?_
  refine wpAny_bind (wpAny_setEpoch_of ho hd hf ?_)
  refine wpAny_bind (walk_ints ha hb fun ws hw1 hw2 => ?_)
  refine wpAny_bind ?_
  refine wpAny_forIn_list _ (fun rest r s' => r.1 = none ∧ s' = s ∧ ElemsOf (intKind P w) rest ∧ ((∀ k, S k = true → T k = true) ↔ ∀ k, (∃ e ∈ rest, (intKind P w).is k e.2 = true) → T k = true)) _ ?_ ?_ _ _ ⟨rfl, rfl, hw1, ?_⟩
  · rintro v rest r s' ⟨hr, rfl, hel', hq⟩
    obtain ⟨⟨k, hk, hh⟩, sc⟩ := hel'.head
    obtain ⟨h', y⟩ := v
    dsimp only at hh hk sc ⊢
    subst hh
    refine wpAny_bind (wpAny_holding (wpAny_setFind_of hk sc hb fun f hf2 => ?_))
    cases hT : T k with
    | true =>
      rw [hT] at hf2
      have hn : f.isNone = false := by cases f <;> first | rfl | cases hf2
      rw [hn]
      simp only [Bool.false_eq_true, if_false]
      unfold Builtin.Frozenset.unchanged
      refine wpAny_bind ?_
      refine wpAny_bind (wpAny_setEpoch_of ho hd hf ?_)
      simp only [bne_self_eq_false, Bool.false_eq_true, if_false]
      refine wpAny_pure ?_
      refine wpAny_pure ⟨rfl, rfl, hel'.tail, hq.trans ⟨fun q k' ⟨e, he, h1⟩ => q k' ⟨e, List.mem_cons_of_mem _ he, h1⟩, fun q k' ⟨e, he, h1⟩ => ?_⟩⟩
      rcases List.mem_cons.mp he with rfl | he
      · have e1 := KeyKind.is_eq_decide hk k'
        rw [e1] at h1
        rw [of_decide_eq_true h1]; exact hT
      · exact q k' ⟨e, he, h1⟩
    | false =>
      rw [hT] at hf2
      have hn : f.isNone = true := by cases f <;> first | rfl | cases hf2
      rw [hn]
      simp only [if_true]
      refine wpAny_pure ?_
      refine wpAny_pure (h false ⟨(fun q => nomatch q), fun q => ?_⟩)
      have := hq.mp q k ⟨_, List.mem_cons_self, hk⟩
      rw [hT] at this; cases this
  · rintro ⟨r1, r2⟩ s' ⟨hr, rfl, _, hq⟩
    simp only at hr
    subst hr
    exact wpAny_pure (h true ⟨fun _ => hq.mpr (fun k ⟨e, he, _⟩ => nomatch he), fun _ => rfl⟩)
  · constructor
    · intro q k hk; exact q k ((hw2 k).mpr hk)
    · intro q k hk; exact q k ((hw2 k).mp hk)

theorem sub_ss : isSubtype (.type "set") (.type "set") = pure true := by rw [isSubtype_type]; kernel_rfl
theorem sub_sf : isSubtype (.type "set") (.type "frozenset") = pure false := by rw [isSubtype_type]; kernel_rfl
theorem anySet_set {a : Addr} {Q : Bool → Shared → Prop} (hT : s.TypeIs (.ref a) "set") (h : Q true s) : wpAny (model P w) A (Builtin.Frozenset.isAnySet (.ref a)) Q E s := by
  unfold Builtin.Frozenset.isAnySet orM
  refine wpAny_bind (wpAny_isInstance hT sub_ss ?_)
  exact wpAny_pure h
theorem set_ne_at (ha : s.heap.SetOf (intKind P w) a S n) (hb : s.heap.SetOf (intKind P w) b T m) (hu : A.units < cLine) {Q : Value → Shared → Prop}
    (h : ∀ r : Bool, (r = false ↔ n = m ∧ ∀ k, S k = true → T k = true) → Q (.bool r) s) : wpAny (model P w) A (compareOp .NotEq (.ref a) (.ref b)) Q E s := by
  have hTa := ha.typeIs
  have hTb := hb.typeIs
  have ⟨o, es, ep, t, ho, hx, hd, hel, hm, hsz, hf, hn⟩ := ha
  have ⟨o2, es2, ep2, t2, ho2, hx2, hd2, hel2, hm2, hsz2, hf2, hn2⟩ := hb
  refine wpAny_richCompare_same_room (op := .NotEq) hTa hTb F.slot_set_ne (wpAny_call_entry F.slot_set_ne hTa entry_set_ne ?_ (F.args_set_ne_2 _ _)) hu
  unfold Builtin.«frozenset.__ne__»
  refine wpAny_bind (m := Builtin.Frozenset.slot1 "__ne__" _) (wpAny_pure ?_)
  refine wpAny_bind (anySet_set hTb ?_)
  dsimp only [Bool.not_true]
  refine wp_if_neg (by decide) ?_
  unfold Builtin.Frozenset.addrOf Builtin.Frozenset.sizeOf
  refine wpAny_bind (wpAny_pure ?_)
  refine wpAny_bind (wpAny_pure ?_)
  refine wpAny_bind (wpAny_bind (wpAny_setEntries_of ho hd hf (wpAny_pure ?_)))
  refine wpAny_bind (wpAny_bind (wpAny_setEntries_of ho2 hd2 hf2 (wpAny_pure ?_)))
  have fin : ∀ r : Bool, (r = true ↔ n = m ∧ ∀ k, S k = true → T k = true) → wpAny (model P w) A.in1 (ret (.bool !r)) (fun fin s' => ∃ v, fin = .done (.ret v) ∧ v ≠ .notImplemented ∧ Q v s') E s := fun r hr => by
    refine wpAny_pure ⟨_, rfl, (by intro e; cases e), h _ ?_⟩
    cases r with
    | true => exact ⟨fun _ => hr.mp rfl, fun _ => rfl⟩
    | false => exact ⟨(fun e => nomatch e), fun q => nomatch hr.mpr q⟩
  by_cases hs : es.size = es2.size
  · refine wpAny_bind (wp_if_neg (by simp [hs]) ?_)
    refine wpAny_bind ?_
    unfold andM
    refine wpAny_bind (wpAny_isInstance hTa sub_sf ?_)
    refine wpAny_pure ?_
    refine wp_if_neg (by decide) ?_
    refine subset_ints ha hb (by omega) fun r hr => fin r ?_
    exact hr.trans ⟨fun q => ⟨by omega, q⟩, fun q => q.2⟩
  · refine wpAny_bind (wp_if_pos (by simp [hs]) ?_)
    refine wpAny_pure (fin false ⟨(fun e => nomatch e), fun q => ?_⟩)
    exact absurd q.1 (by omega)
end
/-! ### over the hand layer -/
theorem fold_mem : ∀ (l σ : List Int) (k : Int), k ∈ l.foldl step_dedup σ ↔ k ∈ σ ∨ k ∈ l
  | [], σ, k => by simp
  | x :: l, σ, k => by
    rw [List.foldl_cons, fold_mem l, List.mem_cons]
    unfold step_dedup
    by_cases h : (σ.any (· == x)) = true
    · rw [if_pos h]
      have hx : x ∈ σ := by
        obtain ⟨y, h1, h2⟩ := List.any_eq_true.mp h
        rw [← eq_of_beq h2]; exact h1
      constructor
      · rintro (q | q)
        · exact .inl q
        · exact .inr (.inr q)
      · rintro (q | rfl | q)
        · exact .inl q
        · exact .inl hx
        · exact .inr q
    · rw [if_neg h, List.mem_append, List.mem_singleton]
      constructor
      · rintro ((q | q) | q)
        · exact .inl q
        · exact .inr (.inl q)
        · exact .inr (.inr q)
      · rintro (q | q | q)
        · exact .inl (.inl q)
        · exact .inl (.inr q)
        · exact .inr q
theorem fold_nodup : ∀ (l σ : List Int), σ.Nodup → (l.foldl step_dedup σ).Nodup
  | [], σ, h => h
  | x :: l, σ, h => by
    rw [List.foldl_cons]
    refine fold_nodup l _ ?_
    unfold step_dedup
    by_cases q : (σ.any (· == x)) = true
    · rw [if_pos q]; exact h
    · rw [if_neg q, List.nodup_append]
      refine ⟨h, by simp, fun a ha b hb e => q ?_⟩
      simp only [List.mem_singleton] at hb
      subst e; subst hb
      exact List.any_eq_true.mpr ⟨_, ha, by simp⟩
theorem int_len : ∀ {l m : List Int}, l.Nodup → (∀ x ∈ l, x ∈ m) → l.length ≤ m.length
  | [], _, _, _ => Nat.zero_le _
  | x :: l, m, hn, hs => by
    rw [List.nodup_cons] at hn
    have hx := hs x List.mem_cons_self
    have h1 := int_len (l := l) (m := m.erase x) hn.2 fun y hy => (List.mem_erase_of_ne (show y ≠ x from fun e => hn.1 (e ▸ hy))).mpr (hs y (List.mem_cons_of_mem _ hy))
    rw [List.length_erase_of_mem hx] at h1
    have := List.length_pos_of_mem hx
    rw [List.length_cons]
    omega
theorem int_eqlen {l m : List Int} (h1 : l.Nodup) (hs : ∀ x ∈ l, x ∈ m) (hl : m.length ≤ l.length) : ∀ x ∈ m, x ∈ l := by
  intro x hx
  by_cases q : x ∈ l
  · exact q
  · have := int_len (l := x :: l) (m := m) (List.nodup_cons.mpr ⟨q, h1⟩) fun y hy => by
      rcases List.mem_cons.mp hy with rfl | hy
      · exact hx
      · exact hs y hy
    rw [List.length_cons] at this
    omega
section
variable {X : Cx}
/-- set(xs), xs a list of ints -/
def rSetI (K : PySem.W.Frag) : List V → Hp → VK → Prop := fun vs H Q => ∃ (l : Addr) (ns : List Int), vs = [V.ref l] ∧ SqL K H l (ns.map V.int) ∧ ns.length < 4000 ∧
  ∀ (p : Addr) (S : Int → Bool) (L : List Int), H p = none → L.Nodup → (∀ k, k ∈ L ↔ k ∈ ns) → (∀ k, S k = true ↔ k ∈ L) → Q (.ref p) (upd H p (.set S L.length))
theorem cr_setI (hc : X.calm = true) : CallR X (.type "set") (rSetI X.K) := by
  intro pins s σ H xs us Q I r h
  obtain ⟨l, ns, rfl, hl, hz, q⟩ := h
  rw [Vals.ref1 r]
  obtain ⟨its, rv, pl, hz2⟩ := I.list hl
  have hn : H s.heap.objs.size = none := I.hok.fresh (Nat.le_refl _)
  have hle : its.toArray.size = ns.length := by rw [List.size_toArray, ← rv.length, List.length_map]
  refine call_set_list (I.ok.hd hc) pl.isList (ns := ns) (by simpa using rv.ints) (by unfold scanBound; omega) fun h' tk hS hk => ?_
  rw [hle] at hS
  have em : firstMet (fun i => ns.getD i 0) ns.length = ns.foldl step_dedup [] := by
    unfold firstMet
    congr 1
    apply List.ext_getElem?
    intro i
    rw [List.getElem?_map]
    by_cases hi : i < ns.length
    · rw [List.getElem?_range hi, List.getElem?_eq_getElem hi]
      show some (ns.getD i 0) = _
      rw [List.getD_eq_getElem?_getD, List.getElem?_eq_getElem hi]; rfl
    · rw [List.getElem?_eq_none (by simpa using hi), List.getElem?_eq_none (by omega)]; rfl
  rw [em] at hS
  refine ⟨.ref s.heap.objs.size, upd H s.heap.objs.size (.set _ _), I.laid (t' := tk) (fun b o e => hk b o (Heap.lt_size e) e) (Nat.le_refl _) hS, rfl, q _ _ _ hn (fold_nodup ns [] List.nodup_nil) (fun k => by rw [fold_mem]; simp) fun k => ?_⟩
  rw [List.any_eq_true]
  constructor
  · rintro ⟨y, h1, h2⟩; rw [← eq_of_beq h2]; exact h1
  · intro h1; exact ⟨k, h1, by simp⟩
/-- != of two of them -/
def rSetNe : R2 := fun x y H Q => ∃ (a b : Addr) (S T : Int → Bool) (n m : Nat), x = V.ref a ∧ y = V.ref b ∧ H a = some (.set S n) ∧ H b = some (.set T m) ∧ ∀ r : Bool, (r = false ↔ n = m ∧ ∀ k, S k = true → T k = true) → Q (.bl r) H
theorem or_setNe (hu : X.A.units + 1 < cLine) : OpR X (compareOp .NotEq) rSetNe := by
  intro pins s σ H x y v u Q I rx ry h
  obtain ⟨a, b, S, T, n, m, rfl, rfl, ha, hb, q⟩ := h
  cases rx
  cases ry
  exact set_ne_at (I.hok a _ ha) (I.hok b _ hb) (by omega) fun r hr => ⟨.bl r, H, I, rfl, q r hr⟩
end
end L2
namespace Dl
open PySem L2
section
variable {X : Cx} {a b : Expr} {wa wb : WE}
def intsOf : List D → Option (List Int)
  | [] => some []
  | .int i :: r => (intsOf r).map (i :: ·)
  | _ :: _ => none
theorem intsOf_rps {K : PySem.W.Frag} {G : Hp} : ∀ {ds : List D} {vs : List V} {ns : List Int}, intsOf ds = some ns → Rps K G ds vs → vs = ns.map V.int
  | [], _, _, h, .nil => by cases h; rfl
  | d :: r, _, ns, h, .cons h1 h2 => by
    cases d with
    | int i =>
      rw [intsOf] at h
      cases q : intsOf r with
      | none => rw [q] at h; cases h
      | some ms =>
        rw [q] at h
        cases h
        cases h1
        rw [intsOf_rps q h2]; rfl
    | _ => cases h
/-- set(a) != set(b), both lists of ints -/
def sameI (ns ms : List Int) : Bool := ns.all (fun k => decide (k ∈ ms)) && ms.all (fun k => decide (k ∈ ns))
def setB (P : D → Store → Prop) (ns : List Int) (ds : List D) (μ : Store) : Prop := match ds with
  | [y] => ∃ ys ms, seqR μ y = some ys ∧ intsOf ys = some ms ∧ ms.length < 4000 ∧ P (.bl (!sameI ns ms)) μ
  | _ => False
def setA (wb : WE) (P : D → Store → Prop) (ρ : Env) (ds : List D) (μ : Store) : Prop := match ds with
  | [x] => ∃ xs ns, seqR μ x = some xs ∧ intsOf xs = some ns ∧ ns.length < 4000 ∧ wb ρ μ fun y μ2 => setB P ns [y] μ2
  | _ => False
def wSetNe (wa wb : WE) : WE := fun ρ μ P => wa ρ μ fun x μ1 => setA wb P ρ [x] μ1
theorem lsetNe : ∀ σ H Q, LE X.K (wSetNe wa wb) σ H Q → tOp rSetNe (tCB (rSetI X.K) (LA X.K (wACons wa wANil))) (tCB (rSetI X.K) (LA X.K (wACons wb wANil))) σ H Q := fun σ H Q ⟨ρ, μ, G, P, he, hm, hw, ht⟩ => by
  refine ⟨ρ, μ, G, setA wb P ρ, he, hm, hw, fun ds μ1 vs H1 G1 p1 e1 m1 r1 => ?_⟩
  match ds, r1, p1 with
  | [x], .cons rx .nil, p1 =>
    obtain ⟨xs, ns, h1, h2, h3, h4⟩ := p1
    obtain ⟨l, ws, rfl, hl, rw1⟩ := seqR_ok h1 m1 rx
    have e := intsOf_rps h2 rw1
    subst e
    refine ⟨l, ns, rfl, hl, h3, fun p S L hp hLn hLm hS => ?_⟩
    obtain ⟨m2, e2⟩ := m1.frozen hp (.set S L.length)
    refine ⟨ρ, μ1, _, setB P ns, (he.mono e1).mono e2, m2, h4, fun ds μ3 vs H3 G3 p3 e3 m3 r3 => ?_⟩
    match ds, r3, p3 with
    | [y], .cons ry .nil, p3 =>
      obtain ⟨ys, ms, k1, k2, k3, k4⟩ := p3
      obtain ⟨l2, ws2, rfl, hl2, rw2⟩ := seqR_ok k1 m3 ry
      have e := intsOf_rps k2 rw2
      subst e
      refine ⟨l2, ms, rfl, hl2, k3, fun p' S' L' hp' hLn' hLm' hS' => ?_⟩
      obtain ⟨m4, e4⟩ := m3.frozen hp' (.set S' L'.length)
      have hH : (upd H3 p' (.set S' L'.length)) p = some (.set S L.length) := m4.ex _ _ (e4 _ _ (e3 _ _ upd_same))
      refine ⟨p, p', S, S', _, _, rfl, rfl, hH, upd_same, fun r hr => ?_⟩
      have er : r = !sameI ns ms := by
        have h5 : (L.length = L'.length ∧ ∀ k, S k = true → S' k = true) ↔ sameI ns ms = true := by
          unfold sameI
          rw [Bool.and_eq_true, List.all_eq_true, List.all_eq_true]
          constructor
          · rintro ⟨q1, q2⟩
            have q3 : ∀ k ∈ L, k ∈ L' := fun k hk => (hS' k).mp (q2 k ((hS k).mpr hk))
            have q4 := int_eqlen hLn q3 (by omega)
            exact ⟨fun k hk => decide_eq_true ((hLm' k).mp (q3 k ((hLm k).mpr hk))), fun k hk => decide_eq_true ((hLm k).mp (q4 k ((hLm' k).mpr hk)))⟩
          · rintro ⟨q1, q2⟩
            have q3 : ∀ k ∈ L, k ∈ L' := fun k hk => (hLm' k).mpr (of_decide_eq_true (q1 k ((hLm k).mp hk)))
            have q4 : ∀ k ∈ L', k ∈ L := fun k hk => (hLm k).mpr (of_decide_eq_true (q2 k ((hLm' k).mp hk)))
            exact ⟨Nat.le_antisymm (int_len hLn q3) (int_len hLn' q4), fun k hk => (hS' k).mpr (q3 k ((hS k).mp hk))⟩
        rw [h5] at hr
        cases r with
        | true =>
          cases q : sameI ns ms with
          | true => exact absurd (hr.mpr q) (by decide)
          | false => rfl
        | false => rw [hr.mp rfl]; rfl
      subst er
      exact ht _ _ _ _ _ k4 (((e1.trans e2).trans e3).trans e4) m4 (.bl _)
theorem dt_setNe {p q p1 p2 pos : Pos} (hc : X.calm = true) (hu : X.A.units + 1 < cLine) (hg : Gl X "set") (hmm : X.mg "set" = none) (ha : DE X a wa) (hb : DE X b wb) (na : starEach [a] X.env = (false, eval a X.env) :: starEach [] X.env := by rfl) (nb : starEach [b] X.env = (false, eval b X.env) :: starEach [] X.env := by rfl)
    (hm : behindInMarks .NotEq (.Call (.Name "set" p2) [b] [] q) = false := by exact nomark _) :
    DT X (.Compare (.Call (.Name "set" p1) [a] [] p) [.NotEq] [.Call (.Name "set" p2) [b] [] q] pos) (wB (wSetNe wa wb)) := by
  refine ⟨wkT (pt_cmpR (or_setNe hu) (pe_callTy (cr_setI hc) hg hmm PyProof.Rows.boot_set (da_cons ha da_nil na).p (by decide) (by decide) na rfl) (pe_callTy (cr_setI hc) hg hmm PyProof.Rows.boot_set (da_cons hb da_nil nb).p (by decide) (by decide) nb rfl) hm) fun σ H Q ⟨ρ, μ, G, P, he, hm, hw, ht⟩ => lsetNe σ H _ ⟨ρ, μ, G, _, he, hm, hw, fun d μ' v H' G' p e m r => ?_⟩⟩
  cases d with
  | bl k => cases r; exact ⟨k, rfl, ht k μ' H' G' p e m⟩
  | _ => exact p.elim
theorem de_setNe {p q p1 p2 pos : Pos} (hc : X.calm = true) (hu : X.A.units + 1 < cLine) (hg : Gl X "set") (hmm : X.mg "set" = none) (ha : DE X a wa) (hb : DE X b wb) (na : starEach [a] X.env = (false, eval a X.env) :: starEach [] X.env := by rfl) (nb : starEach [b] X.env = (false, eval b X.env) :: starEach [] X.env := by rfl)
    (hm : behindInMarks .NotEq (.Call (.Name "set" p2) [b] [] q) = false := by exact nomark _) :
    DE X (.Compare (.Call (.Name "set" p1) [a] [] p) [.NotEq] [.Call (.Name "set" p2) [b] [] q] pos) (wSetNe wa wb) :=
  ⟨wkE (pe_cmpR (or_setNe hu) (pe_callTy (cr_setI hc) hg hmm PyProof.Rows.boot_set (da_cons ha da_nil na).p (by decide) (by decide) na rfl) (pe_callTy (cr_setI hc) hg hmm PyProof.Rows.boot_set (da_cons hb da_nil nb).p (by decide) (by decide) nb rfl) hm) lsetNe⟩
end
end Dl

namespace Dl
open PySem L2
section
variable {P : Program} {w : World} {K : PySem.W.Frag} {mg : Str → Option Value} {base : Heap}
/-- a method's promise that asks for nothing -/
theorem MetAt.met0 {C : Addr} {m qual : Str} {st : Stmt} {N ps : List Str} {k : Nat} {d : DSp} (D : MetAt K C m qual st []) (c : Cls K C) (S : FnScope N ps (defScope st)) (no : ∀ ds μ Q, ¬ d ds μ Q)
    (b : ∀ {f fd}, FnAt K m qual st [] f fd → Binds K fd ps []) : DMet P w K mg base (k + 1) C m d [] := by
  obtain ⟨f, fd, me, F⟩ := D.ex
  refine ⟨f, fd, ps, [], [], c, me, ?_, b F, .nil, fun _ => .nil⟩
  obtain ⟨oc, od, dV, kV, doc, pm, an, cdv, ct, osl, rfl, lk, hcd, _⟩ := F.ex
  exact fn_of lk hcd S (fun vs H Q E ⟨ds, μ, G, R, r, m, h, t⟩ => (no _ _ _ h).elim) fun A outer s H vs Q E hr ⟨ds, μ, G, R, r, m, h, t⟩ => (no _ _ _ h).elim
end
section
variable {X : Cx}
/-- list(d): its keys -/
def oListK : OC := fun ds μ P => match ds with
  | [d] => (match dctD μ d with | some kvs => P (.lst (kvs.map fun kv => keyV kv.1)) μ | none => False)
  | _ => False
theorem keys_rps {K : PySem.W.Frag} {G : Hp} : ∀ {kv : List (Key × V)} {ds : List (Key × D)}, kv.map (·.1) = ds.map (·.1) → Rps K G (ds.map fun q => keyV q.1) (kv.map fun q => kV q.1)
  | [], [], _ => .nil
  | [], _ :: _, e => by cases e
  | _ :: _, [], e => by cases e
  | a :: kv, b :: ds, e => by
    simp only [List.map_cons, List.cons.injEq] at e ⊢
    rw [e.1]
    exact .cons (keyV_ok _) (keys_rps e.2)
theorem cs_listK (hc : X.calm = true) : CallS X (.type "list") oListK := by
  refine ⟨_, call_listD hc, fun {ds μ P G H vs Q} h m r t => ?_⟩
  unfold oListK at h
  split at h
  · rename_i d
    split at h
    · rename_i kvs q
      cases r with
      | cons r1 r2 =>
        cases r2
        obtain ⟨a, kv, rfl, hr, ek, rr⟩ := dctD_ok q m r1
        refine ⟨a, kv, rfl, hr, new_lst m (keys_rps ek) h t⟩
    · exact h.elim
  · exact h.elim
/-- len(d) -/
def oLenK : OC := fun ds μ P => match ds with
  | [d] => (match dctD μ d with | some kvs => P (.int kvs.length) μ | none => False)
  | _ => False
theorem call_lenR : CallR X (.builtin "len") (fun xs H Q => ∃ a kvs, xs = [V.ref a] ∧ Rd H a (.dK kvs) ∧ Q (.int kvs.length) H) := by
  intro pins s σ H xs us Q I r h
  obtain ⟨a, kvs, rfl, ha, q⟩ := h
  obtain ⟨u, rfl, ru⟩ := vals1 r
  cases ru
  exact d_len I ha fun t s' I' => ⟨.int kvs.length, H, I', ⟨t, rfl⟩, q⟩
theorem cs_lenK : CallS X (.builtin "len") oLenK := by
  refine ⟨_, call_lenR, fun {ds μ P G H vs Q} h m r t => ?_⟩
  unfold oLenK at h
  split at h
  · rename_i d
    split at h
    · rename_i kvs q
      cases r with
      | cons r1 r2 =>
        cases r2
        obtain ⟨a, kv, rfl, hr, ek, rr⟩ := dctD_ok q m r1
        exact ⟨a, kv, rfl, hr, by rw [len_keys ek]; exact t _ _ _ _ _ h (Ex.refl _) m (.int _)⟩
    · exact h.elim
  · exact h.elim
end
end Dl

namespace L2
open PySem PySem.Spec PyProof.Rows
/-! ### zip of two texts -/
def ItzS (x y : Str) : It :=
  ⟨fun i _ => i < x.cps.size ∧ i < y.cps.size,
    fun i H v H' => ∃ T c d, v = .ref T ∧ H T = none ∧ H' = upd H T (.tup [.str ⟨#[c]⟩, .str ⟨#[d]⟩]) ∧ x.cps[i]? = some c ∧ y.cps[i]? = some d,
    fun i _ => x.cps.size ≤ i ∨ y.cps.size ≤ i⟩
theorem str_at {h h' : Heap} {it : Addr} {ty : String} {x : Str} {t : Tok} {i : Nat} (st : h.IsStrIter it ty x t i) (k : ∀ o, h.get? it = some o → h'.get? it = some o) : h'.IsStrIter it ty x t i :=
  let ⟨o, ho, r⟩ := st; ⟨o, k o ho, r⟩
theorem turn_zipS {P : Program} {w : World} {K : PySem.W.Frag} {elts : List Expr} {kk : Nat} {tpos : Pos} {x y : Str} {t1 t2 : Tok} {z TI TO i1 i2 : Addr} (D : ZipSep2 z TI TO i1 i2 [i1] [i2]) :
    Turn P w K (.Tuple elts kk tpos) (ItzS x y) [z, TI, TO, i1, i2] z (fun i h => (i ≤ x.cps.size ∧ i ≤ y.cps.size) ∧ IsZip h z TI TO .none ∧ IsPair h TI (.ref i1) (.ref i2) ∧ (∃ x y, IsPair h TO x y) ∧ h.IsStrIter i1 (strIterType x) x t1 i ∧ h.IsStrIter i2 (strIterType y) y t2 i) where
  mem := by simp
  obj := fun i h st c hc => by
    obtain ⟨_, hz, hTI, ⟨x, y, hTO⟩, ⟨o1, e1, _, d1⟩, ⟨o2, e2, _, d2⟩⟩ := st
    have e' : c = z ∨ c = TI ∨ c = TO ∨ c = i1 ∨ c = i2 := by simpa using hc
    rcases e' with q | q | q | q | q
    · rw [q]; exact ⟨_, hz, fun v q => nomatch q⟩
    · rw [q]; exact ⟨_, hTI, fun v q => nomatch q⟩
    · rw [q]; exact ⟨_, hTO, fun v q => nomatch q⟩
    · rw [q]; exact ⟨o1, e1, fun v q => by rw [d1] at q; cases q⟩
    · rw [q]; exact ⟨o2, e2, fun v q => by rw [d2] at q; cases q⟩
  keep := fun i h h' st k => by
    obtain ⟨hb, hz, hTI, ⟨x, y, hTO⟩, h1, h2⟩ := st
    exact ⟨hb, k z (by simp) _ hz, k TI (by simp) _ hTI, ⟨x, y, k TO (by simp) _ hTO⟩, str_at h1 fun o q => k i1 (by simp) o q, str_at h2 fun o q => k i2 (by simp) o q⟩
  item := by
    intro X hP hw hK hc i pins s σ H E I hf st hg
    subst hP hw hK
    obtain ⟨hb, hz, hTI, ⟨x0, y0, hTO⟩, h1, h2⟩ := st
    have hzl : z < s.heap.objs.size := Heap.lt_size hz
    refine wpAny_pyNext_zipD2_item D (Draws.text (A := X.A.in1) (I.ok.hd hc) i1 x t1) (Draws.text (A := X.A.in1) (I.ok.hd hc) i2 y t2) hz hTI hTO h1 h2 hg.1 hg.2 fun v1 v2 h' tk y1 y2 z' TO' b1 b2 hT hsz hk => ?_
    obtain ⟨c, u1, hcx, rfl⟩ := y1
    obtain ⟨d, u2, hdy, rfl⟩ := y2
    refine ⟨_, rfl, wpAny_letOwnedTupleGo_zip (s := { s with heap := h', toks := tk }) z' fun h'' z'' sb => ?_⟩
    have hT2 : h''.get? s.heap.objs.size = some { cls := .type "tuple", data := .seq #[.str ⟨#[c]⟩ u1, .str ⟨#[d]⟩ u2] } := (sb.2 _ (Nat.ne_of_gt hzl)).trans hT
    have new : ObjOk X.prog X.w (upd H s.heap.objs.size (.tup [.str ⟨#[c]⟩, .str ⟨#[d]⟩])) h'' s.heap.objs.size (.tup [.str ⟨#[c]⟩, .str ⟨#[d]⟩]) :=
      ⟨by show 2 ≤ sizeLine; decide, [.str ⟨#[c]⟩ u1, .str ⟨#[d]⟩ u2], .cons ⟨_, rfl⟩ (.cons ⟨_, rfl⟩ .nil), ⟨_, hT2, rfl, _, rfl⟩⟩
    have I1 : Inv X pins σ (upd H s.heap.objs.size (.tup [.str ⟨#[c]⟩, .str ⟨#[d]⟩])) { s with heap := h'', toks := tk } :=
      I.turnedNew (t' := tk) (ch := [z, TI, TO, i1, i2]) (fun c o hb q => (sb.2 c (fun q' => hb (by simp [q']))).trans (hk c o (fun q' => hb (by simp [q'])) (fun q' => hb (by simp [q'])) (fun q' => hb (by simp [q'])) (fun q' => hb (by simp [q'])) q)) hf (Nat.le_refl _) new
    refine ⟨.ref s.heap.objs.size, _, I1, rfl, ⟨_, c, d, rfl, I.hok.fresh (Nat.le_refl _), rfl, hcx, hdy⟩, ⟨⟨hg.1, hg.2⟩, z'', ?_, ⟨.str ⟨#[c]⟩ u1, .str ⟨#[d]⟩ u2, ?_⟩, ?_, ?_⟩, fun c hcm => ?_⟩
    · exact (sb.2 _ D.TIz).trans (hk _ _ D.TIz D.TITO D.TIi1 D.TIi2 hTI)
    · exact (sb.2 _ D.TOz).trans TO'
    · exact str_at b1 fun o q => (sb.2 _ (Ne.symm D.zi1)).trans q
    · exact str_at b2 fun o q => (sb.2 _ (Ne.symm D.zi2)).trans q
    · have hlt : c < s.heap.objs.size := by
        have e' : c = z ∨ c = TI ∨ c = TO ∨ c = i1 ∨ c = i2 := by simpa using hcm
        rcases e' with q | q | q | q | q
        · rw [q]; exact hzl
        · rw [q]; exact Heap.lt_size hTI
        · rw [q]; exact Heap.lt_size hTO
        · rw [q]; obtain ⟨_, e1, _⟩ := h1; exact Heap.lt_size e1
        · rw [q]; obtain ⟨_, e2, _⟩ := h2; exact Heap.lt_size e2
      rw [upd_ne (Nat.ne_of_lt hlt)]
      exact (hf c hcm).1
  done := by
    intro X hP hw hK hc i pins s σ H E I hf st hg
    subst hP hw hK
    obtain ⟨hb, hz, hTI, ⟨x0, y0, hTO⟩, h1, h2⟩ := st
    refine wpAny_pyNext_zipD2_end D (Draws.text (A := X.A.in1) (I.ok.hd hc) i1 x t1) (Draws.text (A := X.A.in1) (I.ok.hd hc) i2 y t2) hz hTI hTO h1 h2 hb.1 hb.2 (by rcases hg with q | q; exact .inl (Nat.le_antisymm hb.1 q); exact .inr (Nat.le_antisymm hb.2 q)) fun h' tk hk => ⟨rfl, I.turnedL (t' := tk) (ch := [z, TI, TO, i1, i2]) (fun c o hb q =>
          hk c o (fun q' => hb (by simp [q'])) (fun q' => hb (by simp [q'])) (fun q' => hb (by simp [q'])) (fun q' => hb (by simp [q'])) q) hf⟩
  self := fun A i s Q E st h => wpAny_pyIter_zip st.2.1 h
def iZipS (K : PySem.W.Frag) (ta : TA) : TI := fun σ H R => ta σ H fun vs H1 => ∃ x y : Str, vs = [.str x, .str y] ∧ R (ItzS x y) H1
theorem sep_s (n : Nat) : ZipSep2 (n + 4) (n + 2) (n + 3) n (n + 1) [n] [n + 1] where
  TIz := by show (n + 2 : Nat) ≠ n + 4; omega
  TOz := by show (n + 3 : Nat) ≠ n + 4; omega
  TITO := by show (n + 2 : Nat) ≠ n + 3; omega
  TIi1 := by show (n + 2 : Nat) ≠ n; omega
  mem1 := by simp
  zf1 := by simp
  Tf1 := by simp
  TIi2 := by show (n + 2 : Nat) ≠ n + 1; omega
  mem2 := by simp
  zf2 := by simp
  Tf2 := by simp
  sep1_2 := by simp
  sep2_1 := by simp
theorem pi_zipS {X : Cx} {e e2 : Expr} {ta : TA} {p pos tpos : Pos} {elts : List Expr} {kk : Nat} (hg : Gl X "zip") (hm : X.mg "zip" = none) (ha : PA X [e, e2] ta)
    (hs : starEach [e, e2] X.env = (false, eval e X.env) :: starEach [e2] X.env := by rfl) (hpl : (backTo pos (starEach [e2] X.env)).any (·.1) = false := by rfl) :
    PI X (.Tuple elts kk tpos) (.Call (.Name "zip" p) [e, e2] [] pos) (iZipS X.K ta) := by
  refine ⟨fun pins s σ H R I h => ?_⟩
  refine Call_ (ld_blt I hg hm PyProof.Rows.boot_zip (PyProof.Rows.callWith_type1 (thn (ha.run pos pins s σ H _ I h) fun us s1 ⟨vs, H1, I1, r1, q1⟩ => ?_) hs hpl))
  obtain ⟨x, y, ex, q⟩ := q1
  subst ex
  cases r1 with
  | cons r rr =>
    cases rr with
    | cons r' rr =>
      cases rr
      obtain ⟨t1, rfl⟩ := r
      obtain ⟨t2, rfl⟩ := r'
      refine zip_begins2 (begins_text x t1) (begins_text y t2) trivial trivial fun h' hz hTI hTO h1 h2 hsz hk => wpAny_pyIter_zip hz ?_
      have I2 : Inv X pins σ H1 { s1 with heap := h' } := I1.kept (t' := s1.toks) hk
      refine ⟨s1.heap.objs.size + 4, [s1.heap.objs.size + 4, s1.heap.objs.size + 2, s1.heap.objs.size + 3, s1.heap.objs.size, s1.heap.objs.size + 1], _, _, H1, rfl, I2, turn_zipS (sep_s s1.heap.objs.size), ⟨⟨Nat.zero_le _, Nat.zero_le _⟩, hz, hTI, ⟨_, _, hTO⟩, ⟨_, h1, rfl, rfl⟩, ⟨_, h2, rfl, rfl⟩⟩, fun c hcm => ?_, q⟩
      have e' : c = s1.heap.objs.size + 4 ∨ c = s1.heap.objs.size + 2 ∨ c = s1.heap.objs.size + 3 ∨ c = s1.heap.objs.size ∨ c = s1.heap.objs.size + 1 := by simpa using hcm
      have hle : s1.heap.objs.size ≤ c := by
        rcases e' with z | z | z | z | z <;> rw [z] <;> first | exact Nat.le_add_right _ _ | exact Nat.le_refl _
      exact I1.fpOk hle (I1.hok.fresh hle)
end L2
namespace Dl
open PySem L2
section
variable {X : Cx}
def zipS (x y : Str) : List D := (List.range (min x.cps.size y.cps.size)).map fun i => .tup [.str ⟨#[x.cps.getD i 0]⟩, .str ⟨#[y.cps.getD i 0]⟩]
theorem walk_zs {K : PySem.W.Frag} {G : Hp} {x y : Str} : Walk K G (ItzS x y) (zipS x y) := fun i H G2 μ e m => by
  unfold zipS
  rw [List.length_map, List.length_range]
  refine ⟨fun hi => ⟨⟨by omega, by omega⟩, fun v H' q => ?_⟩, fun hi => by show _ ∨ _; omega⟩
  obtain ⟨T, c, d, rfl, hT, rfl, hc, hd⟩ := q
  obtain ⟨G3, e3, m3, r3⟩ := zip_pair (d := .str ⟨#[c]⟩) (e := .str ⟨#[d]⟩) m hT (.str _) (.str _)
  refine ⟨G3, _, ?_, e3, m3, r3⟩
  rw [List.getElem?_map, List.getElem?_range (by omega)]
  simp [Array.getD_eq_getD_getElem?, hc, hd]
def wiZipS (wa : WA) : WI := fun ρ μ P => wa ρ μ fun ds μ1 => match ds with
  | [.str x, .str y] => P (zipS x y) μ1
  | _ => False
theorem di_zipS {e e2 : Expr} {wa : WA} {p pos tpos : Pos} {elts : List Expr} {kk : Nat} (hg : Gl X "zip") (hm : X.mg "zip" = none) (ha : DA X [e, e2] wa)
    (hs : starEach [e, e2] X.env = (false, eval e X.env) :: starEach [e2] X.env := by rfl) (hpl : (backTo pos (starEach [e2] X.env)).any (·.1) = false := by rfl) :
    DI X (.Tuple elts kk tpos) (.Call (.Name "zip" p) [e, e2] [] pos) (wiZipS wa) :=
  ⟨wkI (pi_zipS hg hm ha.p hs hpl) fun σ H R ⟨ρ, μ, G, P, he, hm, hw, ht⟩ => ⟨ρ, μ, G, _, he, hm, hw, fun ds μ1 vs H1 G1 p e m r => by
    split at p
    · cases r with | cons r1 r2 =>
      cases r2 with | cons r2 r3 =>
      cases r3
      cases r1
      cases r2
      exact ⟨_, _, rfl, ht _ _ _ _ _ p e m walk_zs⟩
    · exact p.elim⟩⟩
end
end Dl

namespace Dl
open PySem L2
/-! ### a slice of a list, kept as a list that may be changed -/
section
variable {X : Cx} {e : Expr} {we : WE} {pos p2 : Pos}
def wSlM (we : WE) (wl wh : WP) : WE := fun ρ μ P => we ρ μ fun x μ1 => wl ρ μ1 fun l μ2 => wh ρ μ2 fun u μ3 => match seqL μ3 x with
  | some xs => ∀ p, μ3 p = none → P (.ref p) (setS μ3 p (.lst (cutD xs l u)))
  | none => False
theorem de_slM {lo hi : Option Expr} {wl wh : WP} (h : DE X e we) (hl : DP X lo wl) (hh : DP X hi wh) : DE X (.Subscript e (.Slice lo hi none p2) pos) (wSlM we wl wh) := by
  refine ⟨wkE (pe_slice (SlR_or sl_str (SlR_or sl_list sl_tupA)) h.p hl.p hh.p) fun σ H Q ⟨ρ, μ, G, P, he, hm, hw, ht⟩ => ⟨ρ, μ, G, _, he, hm, hw, fun x μ1 v H1 G1 p1 e1 m1 r1 => ⟨ρ, μ1, G1, _, he.mono e1, m1, p1, fun l μ2 H2 G2 p2 e2 m2 => ⟨ρ, μ2, G2, _, (he.mono e1).mono e2, m2, p2, fun u μ3 H3 G3 p3 e3 m3 => ?_⟩⟩⟩⟩
  have r3 := (r1.mono e2).mono e3
  have t3 := ht.mono ((e1.trans e2).trans e3)
  split at p3
  · rename_i xs hx
    obtain ⟨a, ws, rfl, h2, rr⟩ := seqL_ok hx m3 r3
    exact .inr (.inl ⟨_, _, rfl, SqL.of h2, new_lstM m3 (cut_ok rr) p3 t3⟩)
  · exact p3.elim
end
end Dl

namespace L2
open PySem PySem.Spec PyProof.Rows
/-! ### zip of a list and two tuples -/
def Itz3 (K : PySem.W.Frag) (a b c : Addr) : It :=
  ⟨fun i H => ∃ (xs ys zs : List V) (x y z : V), SqL K H a xs ∧ SqT K H b ys ∧ SqT K H c zs ∧ xs[i]? = some x ∧ ys[i]? = some y ∧ zs[i]? = some z,
    fun i H v H' => ∃ T x y z, v = .ref T ∧ H T = none ∧ H' = upd H T (.tup [x, y, z]) ∧ (∀ xs, SqL K H a xs → xs[i]? = some x) ∧ (∀ ys, SqT K H b ys → ys[i]? = some y) ∧ ∀ zs, SqT K H c zs → zs[i]? = some z,
    fun i H => ∃ xs ys zs : List V, SqL K H a xs ∧ SqT K H b ys ∧ SqT K H c zs ∧ (i ≤ xs.length ∧ i ≤ ys.length ∧ i ≤ zs.length) ∧ (i = xs.length ∨ i = ys.length ∨ i = zs.length)⟩
theorem turn_zip3 {P : Program} {w : World} {K : PySem.W.Frag} {elts : List Expr} {kk : Nat} {tpos : Pos} {a b c z TI TO i1 i2 i3 : Addr} (D : ZipSep3 z TI TO i1 i2 i3 [i1, a] [i2, b] [i3, c]) (n1 : a ≠ i1) (n2 : b ≠ i2) (n3 : c ≠ i3) :
    Turn P w K (.Tuple elts kk tpos) (Itz3 K a b c) [z, TI, TO, i1, i2, i3] z (fun i h => IsZip h z TI TO .none ∧ IsTupOf3 h TI (.ref i1) (.ref i2) (.ref i3) ∧ (∃ x y u, IsTupOf3 h TO x y u) ∧ h.IsListIter i1 a i ∧ h.IsTupleIter i2 b i ∧ h.IsTupleIter i3 c i) where
  mem := by simp
  obj := fun i h st q hq => by
    obtain ⟨hz, hTI, ⟨x, y, u, hTO⟩, ⟨o1, e1, _, d1⟩, ⟨o2, e2, _, d2⟩, ⟨o3, e3, _, d3⟩⟩ := st
    have e' : q = z ∨ q = TI ∨ q = TO ∨ q = i1 ∨ q = i2 ∨ q = i3 := by simpa using hq
    rcases e' with r | r | r | r | r | r
    · rw [r]; exact ⟨_, hz, fun v q => nomatch q⟩
    · rw [r]; exact ⟨_, hTI, fun v q => nomatch q⟩
    · rw [r]; exact ⟨_, hTO, fun v q => nomatch q⟩
    · rw [r]; exact ⟨o1, e1, fun v q => by rw [d1] at q; cases q⟩
    · rw [r]; exact ⟨o2, e2, fun v q => by rw [d2] at q; cases q⟩
    · rw [r]; exact ⟨o3, e3, fun v q => by rw [d3] at q; cases q⟩
  keep := fun i h h' st k => by
    obtain ⟨hz, hTI, ⟨x, y, u, hTO⟩, h1, h2, h3⟩ := st
    exact ⟨k z (by simp) _ hz, k TI (by simp) _ hTI, ⟨x, y, u, k TO (by simp) _ hTO⟩, h1.at fun o q => k i1 (by simp) o q, h2.at fun o q => k i2 (by simp) o q, h3.at fun o q => k i3 (by simp) o q⟩
  item := by
    intro X hP hw hK hc i pins s σ H E I hf st hg
    subst hP hw hK
    obtain ⟨hz, hTI, ⟨x0, y0, u0, hTO⟩, h1, h2, h3⟩ := st
    obtain ⟨xs, ys, zs, x, y, u, hqx, hqy, hqz, hx, hy, hu⟩ := hg
    obtain ⟨its, rv, p, _⟩ := I.list hqx
    obtain ⟨its2, rv2, p2, _⟩ := I.tuple hqy
    obtain ⟨its3, rv3, p3, _⟩ := I.tuple hqz
    obtain ⟨v1, hv1, r1⟩ := rv.get hx
    obtain ⟨v2, hv2, r2⟩ := rv2.get hy
    obtain ⟨v3, hv3, r3⟩ := rv3.get hu
    have hzl : z < s.heap.objs.size := Heap.lt_size hz
    have g1 : its.toArray[i]? = some v1 := by simpa using hv1
    have g2 : its2.toArray[i]? = some v2 := by simpa using hv2
    have g3 : its3.toArray[i]? = some v3 := by simpa using hv3
    refine wpAny_pyNext_zipD3_item D (Draws.list (A := X.A.in1) (I.ok.hd hc) i1 a n1 its.toArray) (Draws.tuple (A := X.A.in1) (I.ok.hd hc) i2 b n2 its2.toArray) (Draws.tuple (A := X.A.in1) (I.ok.hd hc) i3 c n3 its3.toArray) hz hTI hTO ⟨h1, p.isList⟩ ⟨h2, p2⟩ ⟨h3, p3⟩ (Array.getElem?_eq_some_iff.mp g1).1 (Array.getElem?_eq_some_iff.mp g2).1 (Array.getElem?_eq_some_iff.mp g3).1 fun w1 w2 w3 h' tk y1 y2 y3 z' TO' b1 b2 b3 hT hsz hk => ?_
    obtain rfl : w1 = v1 := Option.some.inj (y1.symm.trans g1)
    obtain rfl : w2 = v2 := Option.some.inj (y2.symm.trans g2)
    obtain rfl : w3 = v3 := Option.some.inj (y3.symm.trans g3)
    refine ⟨_, rfl, wpAny_letOwnedTupleGo_zip (s := { s with heap := h', toks := tk }) z' fun h'' z'' sb => ?_⟩
    have hT2 : h''.get? s.heap.objs.size = some { cls := .type "tuple", data := .seq #[w1, w2, w3] } := (sb.2 _ (Nat.ne_of_gt hzl)).trans hT
    have new : ObjOk X.prog X.w (upd H s.heap.objs.size (.tup [x, y, u])) h'' s.heap.objs.size (.tup [x, y, u]) :=
      ⟨by show 3 ≤ sizeLine; decide, [w1, w2, w3], .cons r1 (.cons r2 (.cons r3 .nil)), ⟨_, hT2, rfl, _, rfl⟩⟩
    have I1 : Inv X pins σ (upd H s.heap.objs.size (.tup [x, y, u])) { s with heap := h'', toks := tk } :=
      I.turnedNew (t' := tk) (ch := [z, TI, TO, i1, i2, i3]) (fun q o hb r => (sb.2 q (fun q' => hb (by simp [q']))).trans (hk q o (fun q' => hb (by simp [q'])) (fun q' => hb (by simp [q'])) (fun q' => hb (by simp [q'])) (fun q' => hb (by simp [q'])) (fun q' => hb (by simp [q'])) r)) hf (Nat.le_refl _) new
    refine ⟨.ref s.heap.objs.size, _, I1, rfl, ⟨_, x, y, u, rfl, I.hok.fresh (Nat.le_refl _), rfl, fun l hl => by rw [I.list_inj hl hqx]; exact hx, fun l hl => by rw [I.tuple_inj hl hqy]; exact hy, fun l hl => by rw [I.tuple_inj hl hqz]; exact hu⟩, ⟨z'', ?_, ⟨w1, w2, w3, ?_⟩, ?_, ?_, ?_⟩, fun q hqm => ?_⟩
    · exact (sb.2 _ D.TIz).trans (hk _ _ D.TIz D.TITO D.TIi1 D.TIi2 D.TIi3 hTI)
    · exact (sb.2 _ D.TOz).trans TO'
    · exact b1.1.at fun o q => (sb.2 _ (fun e => D.zf1 (by simp [e]))).trans q
    · exact b2.1.at fun o q => (sb.2 _ (fun e => D.zf2 (by simp [e]))).trans q
    · exact b3.1.at fun o q => (sb.2 _ (fun e => D.zf3 (by simp [e]))).trans q
    · have hlt : q < s.heap.objs.size := by
        have e' : q = z ∨ q = TI ∨ q = TO ∨ q = i1 ∨ q = i2 ∨ q = i3 := by simpa using hqm
        rcases e' with r | r | r | r | r | r
        · rw [r]; exact hzl
        · rw [r]; exact Heap.lt_size hTI
        · rw [r]; exact Heap.lt_size hTO
        · rw [r]; obtain ⟨_, e1, _⟩ := h1; exact Heap.lt_size e1
        · rw [r]; obtain ⟨_, e2, _⟩ := h2; exact Heap.lt_size e2
        · rw [r]; obtain ⟨_, e3, _⟩ := h3; exact Heap.lt_size e3
      rw [upd_ne (Nat.ne_of_lt hlt)]
      exact (hf q hqm).1
  done := by
    intro X hP hw hK hc i pins s σ H E I hf st hg
    subst hP hw hK
    obtain ⟨hz, hTI, ⟨x0, y0, u0, hTO⟩, h1, h2, h3⟩ := st
    obtain ⟨xs, ys, zs, hqx, hqy, hqz, ⟨k1, k2, k3⟩, hend⟩ := hg
    obtain ⟨its, rv, p, _⟩ := I.list hqx
    obtain ⟨its2, rv2, p2, _⟩ := I.tuple hqy
    obtain ⟨its3, rv3, p3, _⟩ := I.tuple hqz
    have l1 := rv.length
    have l2 := rv2.length
    have l3 := rv3.length
    have z1 : its.toArray.size = its.length := by simp
    have z2 : its2.toArray.size = its2.length := by simp
    have z3 : its3.toArray.size = its3.length := by simp
    exact wpAny_pyNext_zipD3_end D (Draws.list (A := X.A.in1) (I.ok.hd hc) i1 a n1 its.toArray) (Draws.tuple (A := X.A.in1) (I.ok.hd hc) i2 b n2 its2.toArray) (Draws.tuple (A := X.A.in1) (I.ok.hd hc) i3 c n3 its3.toArray) hz hTI hTO ⟨h1, p.isList⟩ ⟨h2, p2⟩ ⟨h3, p3⟩ (by omega) (by omega) (by omega) (by omega) fun h' tk hk => ⟨rfl, I.turnedL (t' := tk) (ch := [z, TI, TO, i1, i2, i3]) (fun q o hb r =>
      hk q o (fun q' => hb (by simp [q'])) (fun q' => hb (by simp [q'])) (fun q' => hb (by simp [q'])) (fun q' => hb (by simp [q'])) (fun q' => hb (by simp [q'])) r) hf⟩
  self := fun A i s Q E st h => wpAny_pyIter_zip st.1 h
end L2
namespace L2
open PySem PySem.Spec PyProof.Rows
def iZip3 (K : PySem.W.Frag) (ta : TA) : TI := fun σ H R => ta σ H fun vs H1 => ∃ a b c xs ys zs, vs = [.ref a, .ref b, .ref c] ∧ SqL K H1 a xs ∧ SqT K H1 b ys ∧ SqT K H1 c zs ∧ R (Itz3 K a b c) H1
theorem sep_3 (n a b c : Nat) (ha : a < n) (hb : b < n) (hc : c < n) : ZipSep3 (n + 5) (n + 3) (n + 4) n (n + 1) (n + 2) [n, a] [n + 1, b] [n + 2, c] := by
  constructor <;> first | (show (_ : Nat) ≠ _; omega) | (simp; done) | (simp; refine Nat.ne_of_gt ?_; omega)
theorem pi_zip3 {X : Cx} {e e2 e3 : Expr} {ta : TA} {p pos tpos : Pos} {elts : List Expr} {kk : Nat} (hg : Gl X "zip") (hm : X.mg "zip" = none) (ha : PA X [e, e2, e3] ta)
    (hs : starEach [e, e2, e3] X.env = (false, eval e X.env) :: starEach [e2, e3] X.env := by rfl) (hpl : (backTo pos (starEach [e2, e3] X.env)).any (·.1) = false := by rfl) :
    PI X (.Tuple elts kk tpos) (.Call (.Name "zip" p) [e, e2, e3] [] pos) (iZip3 X.K ta) := by
  refine ⟨fun pins s σ H R I h => ?_⟩
  refine Call_ (ld_blt I hg hm PyProof.Rows.boot_zip (PyProof.Rows.callWith_type1 (thn (ha.run pos pins s σ H _ I h) fun us s1 ⟨vs, H1, I1, r1, q1⟩ => ?_) hs hpl))
  obtain ⟨a, b, c, xs, ys, zs, ex, hqx, hqy, hqz, q⟩ := q1
  subst ex
  cases r1 with
  | cons r rr =>
    cases rr with
    | cons r' rr =>
      cases rr with
      | cons r'' rr =>
        cases rr
        cases r
        cases r'
        cases r''
        obtain ⟨its, rv, p1, _⟩ := I1.list hqx
        obtain ⟨its2, rv2, p2, _⟩ := I1.tuple hqy
        obtain ⟨its3, rv3, p3, _⟩ := I1.tuple hqz
        obtain ⟨o2, ho2, _⟩ := id p2
        obtain ⟨o3, ho3, _⟩ := id p3
        have la : a < s1.heap.objs.size := p1.lt
        have lb : b < s1.heap.objs.size := Heap.lt_size ho2
        have lc : c < s1.heap.objs.size := Heap.lt_size ho3
        refine zip_begins3 (begins_list a its.toArray) (begins_tuple b its2.toArray) (begins_tuple c its3.toArray) p1.isList p2 p3 fun h' hz hTI hTO h1 h2 h3 hsz hk => wpAny_pyIter_zip hz ?_
        have I2 : Inv X pins σ H1 { s1 with heap := h' } := I1.kept (t' := s1.toks) hk
        refine ⟨s1.heap.objs.size + 5, [s1.heap.objs.size + 5, s1.heap.objs.size + 3, s1.heap.objs.size + 4, s1.heap.objs.size, s1.heap.objs.size + 1, s1.heap.objs.size + 2], _, _, H1, rfl, I2, turn_zip3 (sep_3 s1.heap.objs.size a b c la lb lc) (Nat.ne_of_lt la) (Nat.ne_of_lt (Nat.lt_succ_of_lt lb)) (Nat.ne_of_lt (Nat.lt_succ_of_lt (Nat.lt_succ_of_lt lc))), ⟨hz, hTI, ⟨_, _, _, hTO⟩, ⟨_, h1, rfl, rfl⟩, ⟨_, h2, rfl, rfl⟩, ⟨_, h3, rfl, rfl⟩⟩, fun d hdm => ?_, q⟩
        have e' : d = s1.heap.objs.size + 5 ∨ d = s1.heap.objs.size + 3 ∨ d = s1.heap.objs.size + 4 ∨ d = s1.heap.objs.size ∨ d = s1.heap.objs.size + 1 ∨ d = s1.heap.objs.size + 2 := by simpa using hdm
        have hle : s1.heap.objs.size ≤ d := by
          rcases e' with z | z | z | z | z | z <;> rw [z] <;> first | exact Nat.le_add_right _ _ | exact Nat.le_refl _
        exact I1.fpOk hle (I1.hok.fresh hle)
end L2
namespace Dl
open PySem L2
section
variable {X : Cx} {tg : Expr} {pos : Pos}
def zip3D (xs ys zs : List D) : List D := (List.range (min xs.length (min ys.length zs.length))).map fun i => .tup [xs.getD i .non, ys.getD i .non, zs.getD i .non]
theorem zip_trip {K : PySem.W.Frag} {μ : Store} {G H : Hp} {T : Addr} {d e f : D} {x y z : V} (m : Sm K μ G H) (hT : H T = none) (r : Rp K G d x) (r2 : Rp K G e y) (r3 : Rp K G f z) :
    ∃ G3, Ex G G3 ∧ Sm K μ G3 (upd H T (.tup [x, y, z])) ∧ Rp K G3 (.tup [d, e, f]) (.ref T) := by
  obtain ⟨m2, e2⟩ := m.frozen hT (.tup [x, y, z])
  exact ⟨_, e2, m2, .tup (.inl upd_same) (.cons (r.mono e2) (.cons (r2.mono e2) (.cons (r3.mono e2) .nil)))⟩
def forBodyZ (a : Addr) (xs ys zs : List D) (g : WG) (wb : WS) (W : WEnds) (ρ : Env) (μ1 : Store) : Prop := ∃ I : Nat → Env → Store → Prop, I 0 ρ μ1 ∧ (∀ i ρ' μ', I i ρ' μ' → μ' a = some (.lst xs)) ∧
  (∀ i x y z ρ' μ', xs[i]? = some x → ys[i]? = some y → zs[i]? = some z → I i ρ' μ' → g (.tup [x, y, z]) ρ' μ' fun ρ2 μ2 => wb { W with nx := I (i + 1), ct := I (i + 1), bk := W.nx } ρ2 μ2) ∧ ∀ ρ' μ', I (min xs.length (min ys.length zs.length)) ρ' μ' → W.nx ρ' μ'
def wForZ (wa : WA) (g : WG) (wb : WS) : WS := fun W ρ μ => wa ρ μ fun ds μ1 => ∃ a xs ys zs, ds = [.ref a, .tup ys, .tup zs] ∧ μ1 a = some (.lst xs) ∧ forBodyZ a xs ys zs g wb W ρ μ1
theorem ds_forZ {elts : List Expr} {kk : Nat} {tpos p pos2 : Pos} {e e2 e3 : Expr} {body : List Stmt} {wgg : WG} {wa : WA} {wb : WS} (hp : PassesOwn (model X.prog X.w) X.A X.env X.xe) (hc : X.calm = true) (hgl : Gl X "zip") (hmz : X.mg "zip" = none) (hz : DA X [e, e2, e3] wa) (hg : DG X (.Tuple elts kk tpos) wgg) (hb : DSs X body wb)
    (hs1 : starEach [e, e2, e3] X.env = (false, eval e X.env) :: starEach [e2, e3] X.env := by rfl) (hpl : (backTo pos2 (starEach [e2, e3] X.env)).any (·.1) = false := by rfl)
    (hs : ∀ x, foldedSetIterable (.Call (.Name "zip" p) [e, e2, e3] [] pos2) X.env x = pure x := by intro _; rfl) : DS X (.For (.Tuple elts kk tpos) (.Call (.Name "zip" p) [e, e2, e3] [] pos2) body [] pos) (wForZ wa wgg wb) := by
  refine ⟨wkS (ps_for hp hc (pi_zip3 hgl hmz hz.p hs1 hpl) hg.p hb.p hs) fun D σ H ⟨ρ, μ, G, W, he, hm, hw, ht⟩ => ⟨ρ, μ, G, _, he, hm, hw, ?_⟩⟩
  rintro d0 μ1 vs H1 G1 ⟨a, xs, ys, zs, rfl, ha, I, h0, hkeep, hturn, hend⟩ e1 m1 r1
  cases r1 with | cons r1 rr =>
  cases rr with | cons r2 rr =>
  cases rr with | cons r3 rr =>
  cases rr
  cases r1
  cases r2 with | tup t2 q2 =>
  cases r3 with | tup t3 q3 =>
  obtain ⟨_, ws, h1, _⟩ := m1.st a _ ha
  refine ⟨a, _, _, ws, _, _, rfl, SqL.of h1, t2.sq m1.ex, t3.sq m1.ex, ?_⟩
  refine ⟨fun i m σ' H' => m = min xs.length (min ys.length zs.length) - i ∧ i ≤ min xs.length (min ys.length zs.length) ∧ ∃ ρ' μ' G', Ex G1 G' ∧ EnvR X.K G' ρ' σ' ∧ Sm X.K μ' G' H' ∧ I i ρ' μ', ⟨min xs.length (min ys.length zs.length) - 0, rfl, Nat.zero_le _, ρ, μ1, G1, Ex.refl _, he.mono e1, m1, h0⟩, ?_⟩
  rintro i m σ' H' ⟨rfl, hi, ρ', μ', G', e', he', hm', hI⟩
  obtain ⟨_, ws2, h2, rw2⟩ := hm'.st a _ (hkeep _ _ _ hI)
  have sq1 : SqL X.K H' a ws2 := SqL.of h2
  have sq2 := t2.sq (e'.trans hm'.ex)
  have sq3 := t3.sq (e'.trans hm'.ex)
  have l1 := rw2.length
  have l2 := q2.length
  have l3 := q3.length
  by_cases hlt : i < min xs.length (min ys.length zs.length)
  · refine .inr ⟨⟨_, _, _, _, _, _, sq1, sq2, sq3, List.getElem?_eq_getElem (by omega), List.getElem?_eq_getElem (by omega), List.getElem?_eq_getElem (by omega)⟩, fun σ2 H2 => ∃ ρ2 μ2 G2, Ex G1 G2 ∧ EnvR X.K G2 ρ2 σ2 ∧ Sm X.K μ2 G2 H2 ∧ I (i + 1) ρ2 μ2, fun σ2 H2 ⟨ρ2, μ2, G2, a, b, c, d⟩ => ⟨_, by omega, rfl, hlt, ρ2, μ2, G2, a, b, c, d⟩, fun x H2 hy => ?_⟩
    obtain ⟨T, u, v, w, rfl, hT, rfl, hu, hv, hw⟩ := hy
    obtain ⟨d1, hd1, rd1⟩ := rw2.getR (hu _ sq1)
    obtain ⟨d2, hd2, rd2⟩ := q2.getR (hv _ sq2)
    obtain ⟨d3, hd3, rd3⟩ := q3.getR (hw _ sq3)
    obtain ⟨G3, e3, m3, r3⟩ := zip_trip hm' hT rd1 (rd2.mono e') (rd3.mono e')
    refine ⟨ρ', μ', G3, _, _, he'.mono e3, m3, r3, hturn i d1 d2 d3 ρ' μ' hd1 hd2 hd3 hI, fun ρ4 μ4 σ4 H4 G4 p4 e4 he4 hm4 => ?_⟩
    have eG : Ex G1 G4 := (e'.trans e3).trans e4
    refine ⟨ρ4, μ4, G4, _, he4, hm4, p4, ⟨fun ρ5 μ5 σ5 H5 G5 p5 e5 he5 hm5 => ⟨ρ5, μ5, G5, eG.trans e5, he5, hm5, p5⟩, fun d5 μ5 v5 H5 G5 p5 e5 hm5 r5 => ht.rt _ _ _ _ _ p5 ((e1.trans eG).trans e5) hm5 r5,
      fun ρ5 μ5 σ5 H5 G5 p5 e5 he5 hm5 => ht.nx _ _ _ _ _ p5 ((e1.trans eG).trans e5) he5 hm5, fun ρ5 μ5 σ5 H5 G5 p5 e5 he5 hm5 => ⟨ρ5, μ5, G5, eG.trans e5, he5, hm5, p5⟩⟩⟩
  · have ei : i = min xs.length (min ys.length zs.length) := by omega
    subst ei
    exact .inl ⟨⟨_, _, _, sq1, sq2, sq3, ⟨by omega, by omega, by omega⟩, by omega⟩, ht.nx _ _ _ _ _ (hend ρ' μ' hI) (e1.trans e') he' hm'⟩
end
end Dl

namespace L2
open PySem PySem.Spec PyProof.Rows
/-! ### sorted of pairs of ints, of any length, tuples of the heap or of the written part -/
inductive PrsAt (K : PySem.W.Frag) (H : Hp) : List V → List (Int × Int) → Prop where
  | nil : PrsAt K H [] []
  | cons {t : Addr} {p : Int × Int} {xs : List V} {ps : List (Int × Int)} (h : SqT K H t [.int p.1, .int p.2]) (r : PrsAt K H xs ps) : PrsAt K H (.ref t :: xs) (p :: ps)
theorem PrsAt.mem {K : PySem.W.Frag} {H : Hp} : ∀ {xs : List V} {ps : List (Int × Int)}, PrsAt K H xs ps → ∀ x ∈ xs, ∃ (t : Addr) (p : Int × Int), x = .ref t ∧ SqT K H t [.int p.1, .int p.2]
  | _, _, .nil, x, h => by cases h
  | _, _, .cons h r, x, hx => by
    rcases List.mem_cons.mp hx with rfl | hx
    · exact ⟨_, _, rfl, h⟩
    · exact r.mem x hx
def rSortedPT (K : PySem.W.Frag) : List V → Hp → VK → Prop := fun vs H Q => ∃ (a : Addr) (xs : List V) (ps : List (Int × Int)), vs = [V.ref a] ∧ SqL K H a xs ∧ PrsAt K H xs ps ∧
  ∀ (zs : List (V × (Int × Int))) p, zs.Perm (xs.zip ps) → (zs.map (·.2)).Pairwise (fun x y => SrtO.lexB y x = false) → H p = none → Q (.ref p) (upd H p (.lst (zs.map (·.1))))
section
variable {X : Cx}
theorem prs_key {pins : List (Addr × Obj)} {s : Shared} {σ : St} {H : Hp} (I : Inv X pins σ H s) {k : V → Int × Int} : ∀ {xs : List V} {ps : List (Int × Int)}, PrsAt X.K H xs ps → (∀ x ∈ xs, ∃ t, x = V.ref t ∧ SqT X.K H t [.int (k x).1, .int (k x).2]) → xs.zip ps = xs.map fun x => (x, k x)
  | _, _, .nil, _ => rfl
  | _, _, .cons (t := t) (p := p) h r, hk => by
    rw [List.zip_cons_cons, List.map_cons, prs_key I r fun x hx => hk x (List.mem_cons_of_mem _ hx)]
    obtain ⟨t', e, h'⟩ := hk (.ref t) List.mem_cons_self
    cases e
    have e := I.tuple_inj h h'
    have e1 : p.1 = (k (.ref t)).1 := by injection e with e _; injection e
    have e2 : p.2 = (k (.ref t)).2 := by injection e with _ e; injection e with e _; injection e
    rw [show k (.ref t) = p from Prod.ext e1.symm e2.symm]
theorem cr_sortedPT : CallR X (.builtin "sorted") (rSortedPT X.K) := by
  intro pins s σ H vs us Q I r h
  obtain ⟨a, xs, ps, rfl, hs, hps, q⟩ := h
  have hk : ∃ k : V → Int × Int, ∀ x ∈ xs, ∃ t, x = V.ref t ∧ SqT X.K H t [.int (k x).1, .int (k x).2] := by
    refine ⟨fun x => Classical.epsilon fun p : Int × Int => ∃ t, x = V.ref t ∧ SqT X.K H t [.int p.1, .int p.2], fun x hx => ?_⟩
    obtain ⟨t, p, e, h⟩ := hps.mem x hx
    exact Classical.epsilon_spec (p := fun p : Int × Int => ∃ t, x = V.ref t ∧ SqT X.K H t [.int p.1, .int p.2]) ⟨p, t, e, h⟩
  obtain ⟨k, hx⟩ := hk
  obtain ⟨its, rv, hl, hz⟩ := I.list hs
  obtain ⟨u, rfl, ru⟩ := vals1 r
  obtain rfl : u = Value.ref a := ru
  obtain ⟨e1, e2⟩ := refs_back rv fun x m => by
    obtain ⟨t, e, _⟩ := hx x m
    exact ⟨t, e⟩
  refine SrtO.sorted_pairsO (k := fun u => k (backV u)) hl.isList (by rw [← rv.length]; exact hz) (fun v hv => ?_) fun h' d out h1 h2 kp hd hn => ?_
  · obtain ⟨t, rfl⟩ := e2 v hv
    have hm : V.ref t ∈ xs := by rw [e1]; exact List.mem_map.mpr ⟨_, hv, rfl⟩
    obtain ⟨t', e, ht⟩ := hx _ hm
    cases e
    obtain ⟨its2, r2, ⟨o, ho, hc, n, hd⟩, _⟩ := I.tuple ht
    obtain ⟨u1, u2, rfl, ri, rj⟩ := vals2 r2
    obtain ⟨t1, rfl⟩ := ri
    obtain ⟨t2, rfl⟩ := rj
    exact ⟨t, o, t1, t2, n, rfl, ho, hc, hd⟩
  · have h3 : ∀ u ∈ out, ∃ a, u = Value.ref a := fun u hu => e2 u (h2.perm.mem_iff.mp hu)
    obtain ⟨n, hn⟩ := hn
    have hb : SrtO.Stb (ltP k) (out.map backV) xs := by
      rw [e1]
      exact SrtO.Stb.map (ltP_swo k) backV h2
    have q2 := q ((out.map backV).map fun x => (x, k x)) d (by rw [prs_key I hps hx]; exact hb.perm.map _) (by
      have := SrtO.srtd_map h1
      rw [List.map_map, List.pairwise_map, List.pairwise_map]
      rw [SrtO.Srtd, List.pairwise_map] at this
      exact this) (I.hok.fresh hd)
    rw [List.map_map, show ((fun x : V × (Int × Int) => x.1) ∘ fun x => (x, k x)) = id from rfl, List.map_id] at q2
    refine ⟨.ref d, upd H d (.lst (out.map backV)), I.laid (t' := s.toks) kp hd ⟨?_, out, n, vals_back h3, hn⟩, rfl, q2⟩
    rw [hb.len]
    exact hz
end
end L2
namespace Dl
open PySem L2
def prI (p : Int × Int) : D := .tup [.int p.1, .int p.2]
def prsD : List D → Option (List (Int × Int))
  | [] => some []
  | .tup [.int i, .int j] :: r => (prsD r).map ((i, j) :: ·)
  | _ => none
theorem prsD_map : ∀ ps : List (Int × Int), prsD (ps.map prI) = some ps
  | [] => rfl
  | p :: ps => by
    rw [List.map_cons]
    show (prsD (ps.map prI)).map _ = _
    rw [prsD_map ps]
    rfl
theorem prsD_ok : ∀ {ds : List D} {ps : List (Int × Int)}, prsD ds = some ps → ds = ps.map prI
  | [], _, h => by cases h; rfl
  | d :: r, ps, h => by
    unfold prsD at h
    split at h
    · rename_i e; cases e
    · rename_i i j r2 e
      cases e
      cases q : prsD r with
      | none => rw [q] at h; cases h
      | some l =>
        rw [q] at h
        cases h
        rw [List.map_cons, ← prsD_ok q]
        rfl
    · cases h
/-- sorted(..) of pairs of ints -/
def oSortP : OC := fun ds μ P => match ds with
  | [d] => match (seqR μ d).bind prsD with
    | some ps => ∀ ps' : List (Int × Int), ps'.Perm ps → ps'.Pairwise (fun x y => SrtO.lexB y x = false) → P (.lst (ps'.map prI)) μ
    | none => False
  | _ => False
theorem prs_at {K : PySem.W.Frag} {G H : Hp} (e : Ex G H) : ∀ {ps : List (Int × Int)} {xs : List V}, Rps K G (ps.map prI) xs → PrsAt K H xs ps ∧ ∀ z ∈ xs.zip ps, Rp K G (prI z.2) z.1
  | [], _, .nil => ⟨.nil, fun z h => by cases h⟩
  | p :: ps, _, .cons h r => by
    obtain ⟨i1, i2⟩ := prs_at e r
    cases h with
    | tup t q =>
      cases q with | cons a q =>
      cases q with | cons b q =>
      cases q
      cases a
      cases b
      refine ⟨.cons (t.sq e) i1, fun z hz => ?_⟩
      rw [List.zip_cons_cons] at hz
      rcases List.mem_cons.mp hz with rfl | hz
      · exact .tup t (.cons (.int _) (.cons (.int _) .nil))
      · exact i2 z hz
theorem rps_zs {K : PySem.W.Frag} {G : Hp} : ∀ {zs : List (V × (Int × Int))}, (∀ z ∈ zs, Rp K G (prI z.2) z.1) → Rps K G ((zs.map (·.2)).map prI) (zs.map (·.1))
  | [], _ => .nil
  | z :: zs, h => .cons (h z List.mem_cons_self) (rps_zs fun y hy => h y (List.mem_cons_of_mem _ hy))
section
variable {X : Cx}
theorem zip_snd : ∀ {xs : List V} {ps : List (Int × Int)}, xs.length = ps.length → (xs.zip ps).map (·.2) = ps
  | [], [], _ => rfl
  | [], _ :: _, h => by simp at h
  | _ :: _, [], h => by simp at h
  | x :: xs, p :: ps, h => by rw [List.zip_cons_cons, List.map_cons, zip_snd (by simpa using h)]
theorem cs_sortP : CallS X (.builtin "sorted") oSortP := by
  refine ⟨_, cr_sortedPT, ?_⟩
  intro ds μ P G H vs Q h m r t
  unfold oSortP at h
  split at h
  · match vs, r with
    | _, .cons r1 .nil =>
      rename_i _ d _
      cases e : seqR μ d with
      | none => rw [e] at h; exact h.elim
      | some xs =>
        rw [e, Option.bind_some] at h
        cases e2 : prsD xs with
        | none => rw [e2] at h; exact h.elim
        | some ps =>
          rw [e2] at h
          obtain ⟨a, ws, rfl, h1, r2⟩ := seqR_ok e m r1
          rw [prsD_ok e2] at r2
          obtain ⟨i1, i2⟩ := prs_at m.ex r2
          have hl : ws.length = ps.length := by have := r2.length; rw [List.length_map] at this; exact this.symm
          refine ⟨a, ws, ps, rfl, h1, i1, fun zs p hp hs hn => ?_⟩
          have r3 := rps_zs fun z hz => i2 z (hp.mem_iff.mp hz)
          refine new_lst m r3 (h _ ?_ hs) t p hn
          have := hp.map (·.2)
          rw [zip_snd hl] at this
          exact this
  · exact h.elim
end
end Dl

namespace Dl
open PySem L2
/-! ### what a name holds is told as unchanging from here on -/
def wFrz (i : Nat) (w : WS) : WS := fun W ρ μ => ∃ d d' μ', ρ.getD i none = some d ∧ Fz d μ d' μ' ∧ w W (ρ.set i (some d')) μ'
theorem set_self {σ : L2.St} {i : Nat} {v : V} (h : σ[i]? = some (some v)) : σ.set i (some v) = σ := by
  apply List.ext_getElem?
  intro j
  by_cases e : i = j
  · subst e
    have hl := (List.getElem?_eq_some_iff.mp h).1
    rw [List.getElem?_set_self hl, h]
  · rw [List.getElem?_set_ne e]
theorem dss_frz {X : Cx} {sts : List Stmt} {w : WS} {i : Nat} (h : DSs X sts w) : DSs X sts (wFrz i w) :=
  ⟨wkSs h.p fun D σ H ⟨ρ, μ, G, W, he, hm, ⟨d, d', μ', hd, hf, hw⟩, ht⟩ => by
    obtain ⟨v, hv, hr⟩ := he.2 i d (getD_some hd)
    obtain ⟨G', e1, m1, r1⟩ := hf.ok hm hr
    have he2 := (he.mono e1).set i r1
    rw [set_self hv] at he2
    exact ⟨_, μ', G', W, he2, m1, hw, ht.mono e1⟩⟩
end Dl

namespace Dl
open PySem L2
/-! ### try .. except X: without a name; a call that may raise, deep in an expression -/
abbrev WAx := WRx → Env → Store → (List D → Store → Prop) → Prop
def LAx (K : PySem.W.Frag) (W : WX) (w : WAx) : TA := fun σ H Q => ∃ ρ μ G P R, EnvR K G ρ σ ∧ Sm K μ G H ∧ w R ρ μ P ∧ TellsA K G P Q ∧ TellsX K G R W
structure XA (X : Cx) (W : WX) (es : List Expr) (w : WAx) : Prop where
  p : PA X es (LAx X.K W w)
section
variable {X : Cx} {W : WX} {e e2 a b : Expr} {es : List Expr} {wx : WEx} {wr : WA} {wax : WAx} {wb : WE} {pos p : Pos} {j k : Nat} {x : Str} {d : DSp} {dds : List D}
def xACons (wx : WEx) (wr : WA) : WAx := fun R ρ μ P => wx R ρ μ fun d μ1 => wr ρ μ1 fun ds μ2 => P (d :: ds) μ2
theorem xa_cons (h : XE X W e wx) (k : DA X es wr) (hs : starEach (e :: es) X.env = (false, eval e X.env) :: starEach es X.env := by rfl) : XA X W (e :: es) (xACons wx wr) :=
  ⟨wkA (pa_cons h.p k.p hs) fun σ H Q ⟨ρ, μ, G, P, R, he, hm, hw, ht, tx⟩ => ⟨ρ, μ, G, _, R, he, hm, hw, fun x μ1 v1 H1 G1 p1 e1 m1 r1 =>
    ⟨ρ, μ1, G1, _, he.mono e1, m1, p1, fun xs μ2 vs H2 G2 p2 e2 m2 r2 => ht _ _ _ _ _ p2 (e1.trans e2) m2 (.cons (r1.mono e2) r2)⟩, tx⟩⟩
def xCallA (d : DSp) (dds : List D) (wax : WAx) : WEx := fun R ρ μ P => wax R ρ μ fun ds μ1 => d (ds ++ dds) μ1 P
theorem xe_calA (C : DCal X.prog X.w X.K X.mg X.base k x d dds) (hr : Room j X.A) (hk : k ≤ j) (hg : Gl X x) (ha : XA X W (e :: es) wax) (hdb : (x == ("__debug__" : Str)) = false := by decide)
    (he : starEach (e :: es) X.env = (false, eval e X.env) :: starEach es X.env := by rfl) (hpl : (backTo pos (starEach es X.env)).any (·.1) = false := by rfl) : XE X W (.Call (.Name x p) (e :: es) [] pos) (xCallA d dds wax) := by
  obtain ⟨f, fd, ps, ds, dvs, F, hm, kp, b, vd, rd⟩ := C.ex
  exact ⟨wkE (pe_call (E := E0) F (hr.mono hk) hg hm kp b vd pass0 ha.p hdb he hpl) fun σ H Q ⟨ρ, μ, G, P, R, hr, hm, hw, ht, tx⟩ => ⟨ρ, μ, G, _, R, hr, hm, hw, fun ds μ1 vs H1 G1 p1 e1 m1 r1 => ⟨ds ++ dds, μ1, G1, P, r1.append (rd G1), m1, p1, ht.mono e1⟩, tx⟩⟩
def xOpL (o : OD) (wx : WEx) (wb : WE) : WEx := fun R ρ μ P => wx R ρ μ fun x μ1 => wb ρ μ1 fun y μ2 => o x y μ2 P
theorem xe_cmpL {op : CmpOp} {o : OD} (ho : OpS X (compareOp op) o) (ha : XE X W a wx) (hb : DE X b wb) (hm : behindInMarks op b = false) : XE X W (.Compare a [op] [b] pos) (xOpL o wx wb) := by
  obtain ⟨r, hr, hs⟩ := ho
  exact ⟨wkE (pe_cmpR hr ha.p hb.p hm) fun σ H Q ⟨ρ, μ, G, P, R, he, hm, hw, ht, tx⟩ => ⟨ρ, μ, G, _, R, he, hm, hw, fun x μ1 v1 H1 G1 p1 e1 m1 r1 => ⟨ρ, μ1, G1, _, he.mono e1, m1, p1, fun y μ2 v2 H2 G2 p2 e2 m2 r2 => hs p2 m2 (r1.mono e2) r2 (ht.mono (e1.trans e2))⟩, tx⟩⟩
/-- a for whose body may raise -/
def forBodyX (its : List D) (g : WG) (wb : WSx) (R : WRx) (W : WEnds) (ρ : Env) (μ1 : Store) : Prop := ∃ I : Nat → Env → Store → Prop, I 0 ρ μ1 ∧
  (∀ i d ρ' μ', its[i]? = some d → I i ρ' μ' → g d ρ' μ' fun ρ2 μ2 => wb R { W with nx := I (i + 1), ct := I (i + 1), bk := W.nx } ρ2 μ2) ∧ ∀ ρ' μ', I its.length ρ' μ' → W.nx ρ' μ'
def xFor (wi : WI) (g : WG) (wb : WSx) : WSx := fun R W ρ μ => wi ρ μ fun its μ1 => forBodyX its g wb R W ρ μ1
theorem xs_for {tg iter : Expr} {body : List Stmt} {wi : WI} {g : WG} {wb : WSx} {pos : Pos} (hp : PassesOwn (model X.prog X.w) X.A X.env X.xe) (hc : X.calm = true) (hi : DI X tg iter wi) (hg : DG X tg g) (hb : XSs X W body wb)
    (hs : ∀ x, foldedSetIterable iter X.env x = pure x := by intro _; rfl) : XS X W (.For tg iter body [] pos) (xFor wi g wb) := by
  refine ⟨wkS (ps_for hp hc hi.p hg.p hb.p hs) fun D σ H ⟨ρ, μ, G, We, R, he, hm, hw, ht, tx⟩ => ⟨ρ, μ, G, _, he, hm, hw, ?_⟩⟩
  rintro its μ1 H1 G1 J ⟨I, h0, hturn, hend⟩ e1 m1 hJ
  refine ⟨fun i m σ' H' => m = its.length - i ∧ i ≤ its.length ∧ ∃ ρ' μ' G', Ex G1 G' ∧ EnvR X.K G' ρ' σ' ∧ Sm X.K μ' G' H' ∧ I i ρ' μ', ⟨its.length, by simp, Nat.zero_le _, ρ, μ1, G1, Ex.refl _, he.mono e1, m1, h0⟩, ?_⟩
  rintro i m σ' H' ⟨rfl, hi, ρ', μ', G', e', he', hm', hI⟩
  obtain ⟨wgo, wstop⟩ := hJ i H' G' μ' e' hm'
  by_cases hlt : i < its.length
  · obtain ⟨go, yl⟩ := wgo hlt
    refine .inr ⟨go, fun σ2 H2 => ∃ ρ2 μ2 G2, Ex G1 G2 ∧ EnvR X.K G2 ρ2 σ2 ∧ Sm X.K μ2 G2 H2 ∧ I (i + 1) ρ2 μ2, fun σ2 H2 ⟨ρ2, μ2, G2, a, b, c, d⟩ => ⟨its.length - (i + 1), by omega, rfl, hlt, ρ2, μ2, G2, a, b, c, d⟩, fun x H2 hy => ?_⟩
    obtain ⟨G3, d, hd, e3, m3, r3⟩ := yl x H2 hy
    refine ⟨ρ', μ', G3, d, _, he'.mono e3, m3, r3, hturn i d ρ' μ' hd hI, fun ρ4 μ4 σ4 H4 G4 p4 e4 he4 hm4 => ?_⟩
    have eG : Ex G1 G4 := (e'.trans e3).trans e4
    refine ⟨ρ4, μ4, G4, _, R, he4, hm4, p4, ⟨fun ρ5 μ5 σ5 H5 G5 p5 e5 he5 hm5 => ⟨ρ5, μ5, G5, eG.trans e5, he5, hm5, p5⟩, fun d5 μ5 v5 H5 G5 p5 e5 hm5 r5 => ht.rt _ _ _ _ _ p5 ((e1.trans eG).trans e5) hm5 r5,
      fun ρ5 μ5 σ5 H5 G5 p5 e5 he5 hm5 => ht.nx _ _ _ _ _ p5 ((e1.trans eG).trans e5) he5 hm5, fun ρ5 μ5 σ5 H5 G5 p5 e5 he5 hm5 => ⟨ρ5, μ5, G5, eG.trans e5, he5, hm5, p5⟩⟩, tx.mono (e1.trans eG)⟩
  · have ei : i = its.length := by omega
    subst ei
    exact .inl ⟨wstop (Nat.le_refl _), ht.nx _ _ _ _ _ (hend ρ' μ' hI) (e1.trans e') he' hm'⟩
/-- the catch, without a name -/
def wTry (K : PySem.W.Frag) (Cc : Addr) (wb : WSx) (ws : WS) : WS := fun W ρ μ => wb (fun C fs ρ' μ' => PySem.W.exmOne K (.ref C) (.ref Cc) = some true ∧ ws W ρ' μ') W ρ μ
theorem ds_try {x : Str} {Cc : Addr} {body suite : List Stmt} {b₀ : Stmt} {np pos pos' : Pos} {wb : WSx} {ws : WS} (hs : X.stack = X.env :: X.outer) (hf : X.env.frame = some X.env.locals) (hc : Names X x (.ref Cc))
    (hb : ∀ (W : WX) (pn : List (Addr × Obj)) (xe : Value → Shared → Prop), Takes (X.tr pn xe) W → PassesOwn (model X.prog X.w) X.A X.env xe → XSs (X.tr pn xe) W body wb)
    (hsu : ∀ (a : Addr) (oe : Obj) (cls : Value) (d : Option Addr) (pn : List (Addr × Obj)), Zc cls d oe → (∃ vs, oe.data = .fields vs) → DSs (X.suite a ((a, oe) :: pn)) (b₀ :: suite) ws) :
    DS X (.Try body [.ExceptHandler (some (.Name x np)) none (b₀ :: suite) pos'] [] [] pos) (wTry X.K Cc wb ws) := by
  refine ⟨wkS (ps_try_only (tb := fun W => LSx X.K W wb) (ts := fun a cls d => LS X.K ws) (Wout := fun _ _ _ _ => False) hs hf hc takes0 (fun W pn xe tk po => (hb W pn xe tk po).p) (fun a oe cls d pn hz hfl => (hsu a oe cls d pn hz hfl).p)) fun D σ H ⟨ρ, μ, G, W, he, hm, hw, ht⟩ => ?_⟩
  refine ⟨ρ, μ, G, W, _, he, hm, hw, ht, fun C fs d ρ' μ' σ' H' G' p e er m xr => ?_⟩
  obtain ⟨h1, h2⟩ := p
  exact ⟨true, h1, fun _ a ha => ⟨ρ', μ', G', W, er, m, h2, ht.mono e⟩, fun z => nomatch z⟩
end
end Dl

namespace Dl
open PySem L2
section
variable {X : Cx}
/-! ### == of an instance whose class tells it and a text -/
theorem op_ownS {k : Nat} {C f : Addr} {fd : FuncData} {ps : List Str} {sp : Sp} (F : FnOk X.prog X.w X.K X.mg X.base CX0 k f fd ps sp) (hr : Room k X.A) (hn : PySem.W.notFirst X.K C (.type "str") = true)
    (hs : PySem.W.findIn X.K (.ref C) "__eq__" = some (some (.ref f))) (hf : PySem.W.isFn X.K (.ref f) = true) (hb : Binds X.K fd ps []) :
    OpR X (compareOp .Eq) (fun x y H Q => ∃ a s dx fs, x = .ref a ∧ y = .str s ∧ H a = some (.ins C dx fs) ∧ sp [.ref a, .str s] H (fun v H' => (∃ b, v = .bl b) ∧ Q v H') E0) := by
  intro pins s σ H x y v u Q I rx ry d
  obtain ⟨a, t, dx, fs, rfl, rfl, ha, hsp⟩ := d
  cases rx
  obtain ⟨tk, rfl⟩ := ry
  obtain ⟨mA, J, _⟩ := ins_get I.hok ha
  obtain ⟨od, J, _⟩ := J.look
  obtain ⟨m, hF⟩ := I.fr
  show wpAny (model X.prog X.w) X.A (richCompare .Eq _ _) (EP X pins σ Q) X.xe s
  refine PySem.W.cmp_K (op := .Eq) (tb := .type "str") hr.units0 hF I.ok.mod.kin J (fun _ _ _ _ _ q => wpAny_typeOf (typeIs_str _ _ _) q) hn hs hf ?_
  have hl := F.len _ _ _ _ hsp
  have r2 : Vals [V.ref a, V.str t] [Value.ref a, Value.str t tk] := .cons rfl (.cons ⟨tk, rfl⟩ .nil)
  refine wpAny_call (codeAny_mono (F.run X.A X.stack s H ⟨[.ref a, .str t tk], []⟩ [.ref a, .str t tk] [.ref a, .str t] _ E0 hr I.env0 (by
    have := hb s [.ref a, .str t tk] I.kIn (by simpa using hl)
    simpa using this) r2 hsp) fun r s' hq => ?_)
  cases r with
  | error e => exact pass0 pins σ H s e s' I hq
  | ok fl =>
    cases fl with
    | ret w =>
      obtain ⟨z, H', I', rz, ⟨bb, ez⟩, q⟩ := I.after hq
      subst ez
      cases rz
      exact ⟨.bl bb, H', I', rfl, q⟩
    | next => exact False.elim hq
    | brk => exact False.elim hq
    | cont => exact False.elim hq
def oOwnS (C : Addr) (d : DSp) : OD := fun x y μ P => (∃ fs, insD μ x = some (C, fs)) ∧ (∃ s, y = .str s) ∧ d [x, y] μ fun r μ' => (∃ b, r = .bl b) ∧ P r μ'
theorem os_ownS {k j : Nat} {C : Addr} {d : DSp} (c : DMet X.prog X.w X.K X.mg X.base k C "__eq__" d []) (hn : PySem.W.notFirst X.K C (.type "str") = true) (hr : Room j X.A) (hk : k ≤ j) : OpS X (compareOp .Eq) (oOwnS C d) := by
  obtain ⟨f, fd, ps, ds, dvs, hc, hm, F, b, vd, rd⟩ := c.ex
  have e1 : dvs = [] := by
    cases rd (fun _ => none)
    rfl
  subst e1
  cases vd
  refine ⟨_, op_ownS F (hr.mono hk) hn hm.at_ hm.fn b, ?_⟩
  intro x y μ P G H v u Q h m rx ry t
  obtain ⟨⟨fs, h1⟩, ⟨s, rfl⟩, p⟩ := h
  obtain ⟨a, dx, xs, rfl, q1, _⟩ := insD_ok h1 m rx
  cases ry
  refine ⟨a, s, dx, xs, rfl, rfl, q1, [x, .str s], μ, G, _, .cons rx (.cons (.str s) .nil), m, p, ?_⟩
  rintro r μ' w H' G' ⟨⟨bb, rfl⟩, pr⟩ e m' rr
  have e2 : w = .bl bb := by cases rr; rfl
  exact ⟨⟨bb, e2⟩, t _ _ _ _ _ pr e m' rr⟩
end
end Dl

namespace PySem.W
open PySem PyProof.Rows
section
variable {prog : Program} {w : World} {A : Around} {E : Value → Shared → Prop} {s : Shared} {K : Frag} {x C L f : Addr} {h₀ : Heap} {m : Str → Option Value} {ox : Obj} {od : Option Obj}
def plainMro (K : Frag) (C : Addr) : Bool := (clsIn K C).any fun cd => cd.mro == [.ref C, .type "object"]
theorem nofill_K {M : Model} {h : Heap} {cd : ClassData} (X : K.In h) (hc : clsIn K C = some cd) (hm : cd.mro = [.ref C, .type "object"]) (h1 : findIn K (.ref C) "__iadd__" = some none) (h2 : findIn K (.type "object") "__iadd__" = some none) : Looks M h (fillsInplaceSlot (.ref C) "add" true) false := by
  intro A Q E s k q
  unfold fillsInplaceSlot
  refine wpAny_bind ((looks_clsIn X hc).andThen (f := fun cd => pure cd.mro) .now A _ E s k ?_)
  rw [hm, List.anyM_cons]
  refine wpAny_bind ?_
  refine wpAny_bind (looks_findIn X h1 A _ E s k ?_)
  dsimp only
  refine wpAny_pure ?_
  rw [if_neg (by decide), List.anyM_cons]
  refine wpAny_bind ?_
  refine wpAny_bind (looks_findIn X h2 A _ E s k ?_)
  dsimp only
  refine wpAny_pure ?_
  rw [if_neg (by decide)]
  exact wpAny_pure q
theorem iop_K {prog : Program} {w : World} {b : Value} {Q : Value → Shared → Prop} (F : Fr h₀ L s.heap m) (X₀ : K.In h₀) (I : InstAt s.heap x ox C od) (hb : Looks (model prog w) s.heap (typeOf b) (.ref C)) (hp : plainMro K C = true)
    (hs : findIn K (.ref C) (PySem.dunder Operator.Add.info.2) = some (some (.ref f))) (hf : isFn K (.ref f) = true) (h1 : findIn K (.ref C) "__iadd__" = some none) (h2 : findIn K (.type "object") "__iadd__" = some none)
    (h : wpAny (model prog w) A (call (.ref f) [.ref x, b]) (CmpBack Q) E s) : wpAny (model prog w) A (inplaceOp .Add (.ref x) b) Q E s := by
  have X := X₀.keeps F.keep
  obtain ⟨cd, hcd, hm⟩ := any_some hp
  have hm : cd.mro = [.ref C, .type "object"] := beq_iff_eq.mp hm
  unfold inplaceOp
  refine wpAny_holding (I.type.here ?_ |> wpAny_bind)
  refine wpAny_bind ((nofill_K X hcd hm h1 h2).here ?_)
  simp only [Bool.false_eq_true, if_false]
  refine wpAny_bind ?_
  unfold binaryOp1
  refine wpAny_bind (I.type.here (wpAny_bind (hb.here (wpAny_bind ((fills_K X hcd hm hs).here ?_)))))
  simp only [beq_self_eq_true, if_true]
  refine wpAny_bind (wpAny_pure ?_)
  simp only [Bool.and_false, Bool.false_eq_true, if_false, Bool.false_and]
  refine wpAny_bind (wpAny_pure ?_)
  simp only [Bool.false_eq_true, if_false]
  refine wpAny_bind (m := tryMethod (.ref x) _ b) ?_
  unfold tryMethod
  refine wpAny_bind (special_fn X I hs (beq_iff_eq.mp hf) (wpAny_mono h (fun v s' hv => ?_) fun _ _ e => e))
  cases v <;> first | exact hv.elim | exact wpAny_pure (wpAny_pure (wpAny_pure hv))
end
end PySem.W
namespace Dl
open PySem L2
section
variable {X : Cx} {k j : Nat} {C : Addr} {d : DSp}
/-! ### += of an instance whose class tells + alone -/
theorem ip_addOwn (c : DMet X.prog X.w X.K X.mg X.base k C "__add__" d []) (hp : PySem.W.plainMro X.K C = true) (h1 : PySem.W.findIn X.K (.ref C) "__iadd__" = some none) (h2 : PySem.W.findIn X.K (.type "object") "__iadd__" = some none) (hr : Room j X.A) (hk : k ≤ j) : IpS X .Add (oAddOwn C d) := by
  obtain ⟨f, fd, ps, ds, dvs, hc, hm, F, b, vd, rd⟩ := c.ex
  obtain rfl := met_un rd
  cases vd
  have hr2 : Room k X.A := hr.mono hk
  refine ⟨fun x y H Q => ∃ a b dx dy fs gs, x = .ref a ∧ y = .ref b ∧ H a = some (.ins C dx fs) ∧ H b = some (.ins C dy gs) ∧ LSp X.K d [.ref a, .ref b] H (fun v H' => (∃ q, v = .ref q) ∧ Q v H') E0, ?_, ?_⟩
  · rintro pins s σ H x y v u Q I rx ry ⟨a, b', dx, dy, fs, gs, rfl, rfl, ha, hb', hsp⟩
    cases rx
    cases ry
    obtain ⟨mA, J, _⟩ := ins_get I.hok ha
    obtain ⟨mB, J', _⟩ := ins_get I.hok hb'
    obtain ⟨od, J, _⟩ := J.look
    obtain ⟨od', J', _⟩ := J'.look
    obtain ⟨mm, hF⟩ := I.fr
    refine PySem.W.iop_K hF I.ok.mod.kin J J'.type hp hm.at_ hm.fn h1 h2 (thn (met_run (vs := [.ref a, .ref b']) F hr2 rfl b I (.cons rfl (.cons rfl .nil)) hsp) ?_)
    rintro u s' ⟨v, H', I', rv, ⟨z, rfl⟩, q⟩
    cases rv
    exact ⟨.ref z, H', I', rfl, q⟩
  · rintro x y μ P G H v u Q ⟨⟨fs, h1⟩, ⟨gs, h2⟩, hd⟩ m rx ry t
    obtain ⟨a, dx, xs, rfl, q1, _⟩ := insD_ok h1 m rx
    obtain ⟨a2, dy, ys, rfl, q2, _⟩ := insD_ok h2 m ry
    refine ⟨a, a2, dx, dy, xs, ys, rfl, rfl, q1, q2, [x, y], μ, G, _, .cons rx (.cons ry .nil), m, hd, ?_⟩
    rintro r μ' w H' G' ⟨⟨hs, rfl⟩, pr⟩ e m' rr
    exact ⟨(by cases rr; exact ⟨_, rfl⟩), t _ _ _ _ _ pr e m' rr⟩
end
end Dl

namespace L2
open PySem PySem.Spec PyProof.Rows
/-! ### f(k = v, ..), keywords alone -/
def pick {α : Type} (is : List Nat) (l : List α) : List α := is.filterMap fun i => l[i]?
theorem Vals.pick {zs : List V} {ws : List Value} (r : Vals zs ws) : ∀ is : List Nat, Vals (pick is zs) (pick is ws)
  | [] => .nil
  | i :: is => by
    have ih := Vals.pick r is
    have hl := r.length
    unfold L2.pick at ih ⊢
    rw [List.filterMap_cons, List.filterMap_cons]
    cases q : zs[i]? with
    | none =>
      have : ws[i]? = none := by
        rw [List.getElem?_eq_none_iff] at q ⊢
        omega
      rw [this]
      exact ih
    | some x =>
      obtain ⟨u, hu, ru⟩ := r.get q
      rw [hu]
      exact .cons ru ih
section
variable {X : Cx} {CX : CXT} {k : Nat} {f : Addr} {fd : FuncData} {ps ks : List Str} {sp : Sp} {E : XK} {x : Str} {p pos : Pos} {kws : List Keyword} {tk : TA} {is : List Nat}
def tCallKK (n : Nat) (is : List Nat) (sp : Sp) (E : XK) (tk : TA) : TE := fun σ H Q => tk σ H fun zs H1 => zs.length = n ∧ sp (pick is zs) H1 Q E
theorem pe_callKK (F : FnOk X.prog X.w X.K X.mg X.base CX k f fd ps sp) (hr : Room k X.A) (hg : Gl X x) (hm : X.mg x = some (.ref f)) (hk : PySem.W.keepIn X.K (.ref f) = true)
    (hb : ∀ (s : Shared) (ws : List Value), X.K.In s.heap → ws.length = ks.length → BindsTo s fd ⟨[], ks.zip ws⟩ (ps.zip (pick is ws))) (hx : Passes CX X E) (hkw : PK X kws tk)
    (hall : (backToKw pos (keywordEach kws X.env)).all (·.1.isSome) = true := by rfl) (hks : (backToKw pos (keywordEach kws X.env)).filterMap (·.1) = ks := by rfl) (hdb : (x == ("__debug__" : Str)) = false := by decide)
    (hpl : ((backTo pos (starEach [] X.env)).any (·.1) || (backToKw pos (keywordEach kws X.env)).any (·.1.isNone)) = false := by rfl) :
    PE X (.Call (.Name x p) [] kws pos) (tCallKK ks.length is sp E tk) := by
  refine ⟨fun pins s σ H Q I h => ?_⟩
  refine wpAny_Call_Name_kw (ld_glob I hg hm ?_ hdb)
  refine PySem.W.callWith_KW0 (h₀ := X.base) I.ok.mod.kin hk hall ?_ hpl
  refine thn (hkw.run pos pins s σ H _ I h) fun ws s2 ⟨zs, H2, I2, rz, l2, q2⟩ => ⟨I2.kIn, ?_⟩
  rw [hks]
  refine wpAny_call (codeAny_mono (F.run X.A X.stack s2 H2 ⟨[], ks.zip ws⟩ (pick is ws) (pick is zs) Q E hr I2.env0 (hb s2 ws I2.kIn (rz.length.symm.trans l2)) (rz.pick is) q2) fun r s' hq => ?_)
  cases r with
  | error e => exact hx pins σ H2 s2 e s' I2 hq
  | ok fl =>
    cases fl with
    | ret u => exact I2.after hq
    | next => exact False.elim hq
    | brk => exact False.elim hq
    | cont => exact False.elim hq
theorem PK.wk {t t' : TA} (h : PK X kws t) (i : ∀ σ H Q, t' σ H Q → t σ H Q) : PK X kws t' := ⟨fun pos pins s σ H Q I q => h.run pos pins s σ H Q I (i σ H Q q)⟩
end
end L2
namespace Dl
open PySem L2
theorem Rps.pick {K : PySem.W.Frag} {G : Hp} {ds : List D} {vs : List V} (r : Rps K G ds vs) : ∀ is : List Nat, Rps K G (L2.pick is ds) (L2.pick is vs)
  | [] => .nil
  | i :: is => by
    have ih := Rps.pick r is
    have hl := r.length
    unfold L2.pick at ih ⊢
    rw [List.filterMap_cons, List.filterMap_cons]
    cases q : ds[i]? with
    | none =>
      have : vs[i]? = none := by
        rw [List.getElem?_eq_none_iff] at q ⊢
        omega
      rw [this]
      exact ih
    | some x =>
      obtain ⟨u, hu, ru⟩ := r.getL q
      rw [hu]
      exact .cons ru ih
/-- the values of the keywords, from the left -/
structure DAK (X : Cx) (kws : List Keyword) (w : WA) : Prop where
  p : PK X kws (LA X.K w)
section
variable {X : Cx} {a : Expr} {wa : WE} {wr : WA} {kws : List Keyword} {nm : Option Str} {kpos : Pos}
theorem dk_nil : DAK X [] wANil := ⟨pk_nil.wk fun σ H Q ⟨ρ, μ, G, P, he, hm, hw, ht⟩ => ht _ _ _ _ _ hw (Ex.refl _) hm .nil⟩
theorem dk_cons (h : DE X a wa) (k : DAK X kws wr) : DAK X (⟨nm, a, kpos⟩ :: kws) (wACons wa wr) :=
  ⟨(pk_cons h.p k.p).wk fun σ H Q ⟨ρ, μ, G, P, he, hm, hw, ht⟩ => ⟨ρ, μ, G, _, he, hm, hw, fun x μ1 v1 H1 G1 p1 e1 m1 r1 =>
    ⟨ρ, μ1, G1, _, he.mono e1, m1, p1, fun xs μ2 vs H2 G2 p2 e2 m2 r2 => ht _ _ _ _ _ p2 (e1.trans e2) m2 (.cons (r1.mono e2) r2)⟩⟩⟩
end
def wCallK (d : DSp) (n : Nat) (is : List Nat) (wa : WA) : WE := fun ρ μ P => wa ρ μ fun ds μ1 => ds.length = n ∧ d (L2.pick is ds) μ1 P
structure DCalK (P : Program) (w : World) (K : PySem.W.Frag) (mg : Str → Option Value) (base : Heap) (k : Nat) (x : Str) (d : DSp) (ks : List Str) (is : List Nat) : Prop where
  ex : ∃ (f : Addr) (fd : FuncData) (ps : List Str), FnOk P w K mg base CX0 k f fd ps (LSp K d) ∧ mg x = some (.ref f) ∧ PySem.W.keepIn K (.ref f) = true ∧ ∀ (s : Shared) (ws : List Value), K.In s.heap → ws.length = ks.length → BindsTo s fd ⟨[], ks.zip ws⟩ (ps.zip (L2.pick is ws))
section
variable {P : Program} {w : World} {K : PySem.W.Frag} {mg : Str → Option Value} {base : Heap}
theorem DefAt.calK {x : Str} {st : Stmt} {N ps ks : List Str} {is : List Nat} {k : Nat} {d : DSp} {ws : WS} (D : DefAt K mg x st) (S : FnScope N ps (defScope st)) (len : ∀ ds μ Q, d ds μ Q → ds.length = ps.length)
    (hb : ∀ {f : Addr} (cdv : Value) (A : Around) (outer : List PySem.Env) (s : Shared) (H : Hp) (E : XK), Room k (A.deeper (PyProof.Rows.envOfC x (defScope st) s.heap.objs.size f cdv)) → DSs (cxOf CX0 P w K mg base N x (defScope st) f cdv A outer s H E).nox (defBody st) ws)
    (ok : ∀ ds μ Q, d ds μ Q → ws { nx := fun _ μ' => ∃ μ2, Sub μ2 μ' ∧ Q .non μ2, rt := Q } (startD N ds) μ)
    (h : ∀ (kV doc pm : Value) (an : Option Addr) (cdv ct : Value) (us : List Value), us.length = ks.length → bindArgs (PySem.W.fnOf x x (defArgs st) (defBody st) (defScope st) .none kV doc pm an cdv ct) ⟨[], ks.zip us⟩ = pure (ps.zip (L2.pick is us))) : DCalK P w K mg base (k + 1) x d ks is := by
  obtain ⟨f, fd, F, m⟩ := D.ex
  refine ⟨f, fd, ps, fn_d F S len (hb (f := f)) ok, m, F.kp, ?_⟩
  obtain ⟨oc, od, kV, doc, pm, an, cdv, ct, osl, rfl, lk, hcd⟩ := F.ex
  exact fun s us _ hl => .of_eq (h kV doc pm an cdv ct us hl)
end
section
variable {X : Cx} {j k : Nat} {x : Str} {d : DSp} {ks : List Str} {is : List Nat} {p pos : Pos} {kws : List Keyword} {wa : WA}
theorem de_calK (C : DCalK X.prog X.w X.K X.mg X.base k x d ks is) (hr : Room j X.A) (hk : k ≤ j) (hg : Gl X x) (ha : DAK X kws wa)
    (hall : (backToKw pos (keywordEach kws X.env)).all (·.1.isSome) = true := by rfl) (hks : (backToKw pos (keywordEach kws X.env)).filterMap (·.1) = ks := by rfl) (hdb : (x == ("__debug__" : Str)) = false := by decide)
    (hpl : ((backTo pos (starEach [] X.env)).any (·.1) || (backToKw pos (keywordEach kws X.env)).any (·.1.isNone)) = false := by rfl) : DE X (.Call (.Name x p) [] kws pos) (wCallK d ks.length is wa) := by
  obtain ⟨f, fd, ps, F, m, kp, b⟩ := C.ex
  exact ⟨wkE (pe_callKK F (hr.mono hk) hg m kp b pass0 ha.p hall hks hdb hpl) fun σ H Q ⟨ρ, μ, G, P, he, hm, hw, ht⟩ => ⟨ρ, μ, G, _, he, hm, hw, fun ds μ1 vs H1 G1 ⟨l1, p1⟩ e1 m1 r1 => ⟨r1.length.symm.trans l1, L2.pick is ds, μ1, G1, P, r1.pick is, m1, p1, ht.mono e1⟩⟩⟩
end
end Dl

namespace L2
open PySem PySem.Spec PyProof.Rows
section
variable {X : Cx} {CX : CXT} {k n : Nat} {f C : Addr} {fd : FuncData} {ps ks : List Str} {sp : Sp} {E : XK} {x m : Str} {p pos apos : Pos} {o : Expr} {kws : List Keyword} {ta : TE} {tk : TA} {g : List Value → List Value → List Value} {gV : List V → List V → List V}
/-- f(k = v, ..) -/
def tCallN0 (n : Nat) (sp : Sp) (gV : List V → List V → List V) (E : XK) (tk : TA) : TE := fun σ H Q => tk σ H fun zs H1 => zs.length = n ∧ sp (gV [] zs) H1 Q E
theorem pe_callN0 (F : FnOk X.prog X.w X.K X.mg X.base CX k f fd ps sp) (hr : Room k X.A) (hg : Gl X x) (hm : X.mg x = some (.ref f)) (hk : PySem.W.keepIn X.K (.ref f) = true) (hb : KBn X.K fd ps 0 ks g gV) (hx : Passes CX X E) (hkw : PK X kws tk)
    (hall : (backToKw pos (keywordEach kws X.env)).all (·.1.isSome) = true := by rfl) (hks : (backToKw pos (keywordEach kws X.env)).filterMap (·.1) = ks := by rfl) (hdb : (x == ("__debug__" : Str)) = false := by decide)
    (hpl : ((backTo pos (starEach [] X.env)).any (·.1) || (backToKw pos (keywordEach kws X.env)).any (·.1.isNone)) = false := by rfl) :
    PE X (.Call (.Name x p) [] kws pos) (tCallN0 ks.length sp gV E tk) := by
  refine ⟨fun pins s σ H Q I h => ?_⟩
  refine wpAny_Call_Name_kw (ld_glob I hg hm ?_ hdb)
  refine PySem.W.callWith_KW0 (h₀ := X.base) I.ok.mod.kin hk hall ?_ hpl
  refine thn (hkw.run pos pins s σ H _ I h) fun ws s2 ⟨zs, H2, I2, rz, l2, q2⟩ => ⟨I2.kIn, ?_⟩
  rw [hks]
  exact run_fnN (us := []) (vs := []) F hr hb hx I2 .nil rz rfl l2 q2
/-- o.m(k = v, ..) -/
def tMethN (C : Addr) (m : Str) (n : Nat) (sp : Sp) (gV : List V → List V → List V) (E : XK) (ta : TE) (tk : TA) : TE := fun σ H Q => ta σ H fun x H1 => ∃ a dx fs, x = .ref a ∧ H1 a = some (.ins C dx fs) ∧ fs.lookup m = none ∧
  tk σ H1 fun zs H2 => zs.length = n ∧ sp (gV [x] zs) H2 Q E
theorem pe_methN {pl : Sem Bool} (he : PE X o ta) (c : Cls X.K C) (hm : Meth X.K C m f) (F : FnOk X.prog X.w X.K X.mg X.base CX k f fd ps sp) (hr : Room k X.A) (hb : KBn X.K fd ps 1 ks g gV) (hx : Passes CX X E) (hkw : PK X kws tk)
    (hall : (backToKw pos (keywordEach kws X.env)).all (·.1.isSome) = true := by rfl) (hks : (backToKw pos (keywordEach kws X.env)).filterMap (·.1) = ks := by rfl)
    (hpl : ((backTo pos (starEach [] X.env)).any (·.1) || (backToKw pos (keywordEach kws X.env)).any (·.1.isNone)) = false := by rfl)
    (ht : eval (.Call (.Attribute o m apos) [] kws pos) X.env = (do
      let ov ← eval o X.env
      standAt apos.atName
      let (f, first) ← holding [ov] (getMethod ov m pl)
      callWith pos f first (backTo pos (starEach [] X.env)) (backToKw pos (keywordEach kws X.env))) := by rfl) :
    PE X (.Call (.Attribute o m apos) [] kws pos) (tMethN C m ks.length sp gV E ta tk) := by
  refine ⟨fun pins s σ H Q I h => ?_⟩
  refine PySem.W.methodCall_KW (pl := pl) (thn (he.run pins s σ H _ I h) fun u s1 ⟨x, H1, I1, rx, a, dx, fs, ex, ea, l, q⟩ => ?_) ht
  subst ex
  obtain rfl : u = Value.ref a := rx
  refine getmeth_ok I1 ea c hm l ?_
  refine PySem.W.callWith_KW0 (first := [.ref a]) (h₀ := X.base) I.ok.mod.kin hm.kp hall ?_ hpl
  refine thn (hkw.run pos pins s1 σ H1 _ I1 q) fun ws s2 ⟨zs, H2, I2, rz, l2, q2⟩ => ⟨I2.kIn, ?_⟩
  rw [hks]
  exact run_fnN (us := [.ref a]) (vs := [.ref a]) F hr hb hx I2 (.cons rfl .nil) rz rfl l2 q2
end
end L2
namespace Dl
open PySem L2
/-! ### keywords, defaults that lack -/
structure KB (K : PySem.W.Frag) (fd : FuncData) (ps : List Str) (n : Nat) (ks : List Str) (is : List Nat) (ds : List Value) : Prop where
  to : ∀ (s : Shared) (us ws : List Value), K.In s.heap → us.length = n → ws.length = ks.length → BindsTo s fd ⟨us, ks.zip ws⟩ (ps.zip (L2.pick is (us ++ ws ++ ds)))
theorem KB.kbn {K : PySem.W.Frag} {fd : FuncData} {ps ks : List Str} {n : Nat} {is : List Nat} {ds : List Value} {dvs : List V} (b : KB K fd ps n ks is ds) (vd : Vals dvs ds) : KBn K fd ps n ks (fun us ws => L2.pick is (us ++ ws ++ ds)) (fun vs zs => L2.pick is (vs ++ zs ++ dvs)) :=
  ⟨b.to, fun r1 r2 => ((r1.append r2).append vd).pick is⟩
section
variable {P : Program} {w : World} {K : PySem.W.Frag} {mg : Str → Option Value} {base : Heap}
theorem FnAt.kb0 {x qual : Str} {st : Stmt} {f : Addr} {fd : FuncData} {ps ks : List Str} {n : Nat} {is : List Nat} (F : FnAt K x qual st [] f fd)
    (h : ∀ (kV doc pm : Value) (an : Option Addr) (cdv ct : Value) (us ws : List Value), us.length = n → ws.length = ks.length → bindArgs (PySem.W.fnOf x qual (defArgs st) (defBody st) (defScope st) .none kV doc pm an cdv ct) ⟨us, ks.zip ws⟩ = pure (ps.zip (L2.pick is (us ++ ws ++ [])))) : KB K fd ps n ks is [] := by
  obtain ⟨oc, od, dV, kV, doc, pm, an, cdv, ct, osl, rfl, lk, hcd, e⟩ := F.ex
  refine ⟨fun s us ws X h1 h2 => ?_⟩
  rcases e with ⟨_, rfl⟩ | ⟨e, _⟩
  · exact .of_eq (h kV doc pm an cdv ct us ws h1 h2)
  · exact (e rfl).elim
theorem FnAt.kbD {x qual : Str} {st : Stmt} {dsV : List Value} {f : Addr} {fd : FuncData} {ps ks : List Str} {n : Nat} {is : List Nat} (F : FnAt K x qual st dsV f fd) (hne : dsV ≠ [])
    (h : ∀ (T : Addr) (kV doc pm : Value) (an : Option Addr) (cdv ct : Value) (us ws : List Value), us.length = n → ws.length = ks.length →
      ∃ k, bindArgs (PySem.W.fnOf x qual (defArgs st) (defBody st) (defScope st) (.ref T) kV doc pm an cdv ct) ⟨us, ks.zip ws⟩ = (seqItems? (.ref T) >>= k) ∧ k (some dsV.toArray) = pure (ps.zip (L2.pick is (us ++ ws ++ dsV)))) : KB K fd ps n ks is dsV := by
  obtain ⟨oc, od, dV, kV, doc, pm, an, cdv, ct, osl, rfl, lk, hcd, e⟩ := F.ex
  refine ⟨fun s us ws X h1 h2 => ?_⟩
  rcases e with ⟨e, _⟩ | ⟨_, T, o, n', rfl, hT2, hd⟩
  · exact (hne e).elim
  · obtain ⟨k, q1, q2⟩ := h T kV doc pm an cdv ct us ws h1 h2
    exact PySem.W.binds_K X rfl hT2 hd q1 q2
structure DCalN (P : Program) (w : World) (K : PySem.W.Frag) (mg : Str → Option Value) (base : Heap) (k : Nat) (x : Str) (d : DSp) (ks : List Str) (is : List Nat) (dds : List D) : Prop where
  ex : ∃ (f : Addr) (fd : FuncData) (ps : List Str) (ds : List Value) (dvs : List V), FnOk P w K mg base CX0 k f fd ps (LSp K d) ∧ mg x = some (.ref f) ∧ PySem.W.keepIn K (.ref f) = true ∧ KB K fd ps 0 ks is ds ∧ Vals dvs ds ∧ ∀ G, Rps K G dds dvs
structure DMetN (P : Program) (w : World) (K : PySem.W.Frag) (mg : Str → Option Value) (base : Heap) (k : Nat) (C : Addr) (m : Str) (d : DSp) (ks : List Str) (is : List Nat) (dds : List D) : Prop where
  ex : ∃ (f : Addr) (fd : FuncData) (ps : List Str) (ds : List Value) (dvs : List V), Cls K C ∧ Meth K C m f ∧ FnOk P w K mg base CX0 k f fd ps (LSp K d) ∧ KB K fd ps 1 ks is ds ∧ Vals dvs ds ∧ ∀ G, Rps K G dds dvs
structure DMakN (P : Program) (w : World) (K : PySem.W.Frag) (mg : Str → Option Value) (base : Heap) (k : Nat) (x : Str) (C : Addr) (d : DSp) (ks : List Str) (is : List Nat) (dds : List D) : Prop where
  ex : ∃ (f : Addr) (fd : FuncData) (ps : List Str) (ds : List Value) (dvs : List V), Mk K C f ∧ FnOk P w K mg base CX0 k f fd ps (LSp K d) ∧ mg x = some (.ref C) ∧ KB K fd ps 1 ks is ds ∧ Vals dvs ds ∧ ∀ G, Rps K G dds dvs
variable {C : Addr} {x m qual : Str} {st : Stmt} {dsV ds : List Value} {dvs : List V} {dds : List D} {N ps ks : List Str} {is : List Nat} {k : Nat} {d : DSp} {ws : WS}
theorem DefD.calN (D : DefD K mg x st dsV) (S : FnScope N ps (defScope st)) (len : ∀ ds μ Q, d ds μ Q → ds.length = ps.length)
    (hb : ∀ {f : Addr} (cdv : Value) (A : Around) (outer : List PySem.Env) (s : Shared) (H : Hp) (E : XK), Room k (A.deeper (PyProof.Rows.envOfC x (defScope st) s.heap.objs.size f cdv)) → DSs (cxOf CX0 P w K mg base N x (defScope st) f cdv A outer s H E).nox (defBody st) ws)
    (ok : ∀ ds μ Q, d ds μ Q → ws { nx := fun _ μ' => ∃ μ2, Sub μ2 μ' ∧ Q .non μ2, rt := Q } (startD N ds) μ) (b : ∀ {f fd}, FnAt K x x st dsV f fd → KB K fd ps 0 ks is ds) (vd : Vals dvs ds) (rd : ∀ G, Rps K G dds dvs) : DCalN P w K mg base (k + 1) x d ks is dds := by
  obtain ⟨f, fd, F, m, kp⟩ := D.ex
  exact ⟨f, fd, ps, ds, dvs, F.ok S len (hb (f := f)) ok, m, kp, b F, vd, rd⟩
theorem MetAt.metN (D : MetAt K C m qual st dsV) (c : Cls K C) (S : FnScope N ps (defScope st)) (len : ∀ ds μ Q, d ds μ Q → ds.length = ps.length)
    (hb : ∀ {f : Addr} (cdv : Value) (A : Around) (outer : List PySem.Env) (s : Shared) (H : Hp) (E : XK), Room k (A.deeper (PyProof.Rows.envOfC qual (defScope st) s.heap.objs.size f cdv)) → DSs (cxOf CX0 P w K mg base N qual (defScope st) f cdv A outer s H E).nox (defBody st) ws)
    (ok : ∀ ds μ Q, d ds μ Q → ws { nx := fun _ μ' => ∃ μ2, Sub μ2 μ' ∧ Q .non μ2, rt := Q } (startD N ds) μ) (b : ∀ {f fd}, FnAt K m qual st dsV f fd → KB K fd ps 1 ks is ds) (vd : Vals dvs ds) (rd : ∀ G, Rps K G dds dvs) : DMetN P w K mg base (k + 1) C m d ks is dds := by
  obtain ⟨f, fd, me, F⟩ := D.ex
  exact ⟨f, fd, ps, ds, dvs, c, me, F.ok S len (hb (f := f)) ok, b F, vd, rd⟩
theorem MetAt.makN (D : MetAt K C "__init__" qual st dsV) (c : ClsAt K mg x C) (S : FnScope N ps (defScope st)) (len : ∀ ds μ Q, d ds μ Q → ds.length = ps.length)
    (hb : ∀ {f : Addr} (cdv : Value) (A : Around) (outer : List PySem.Env) (s : Shared) (H : Hp) (E : XK), Room k (A.deeper (PyProof.Rows.envOfC qual (defScope st) s.heap.objs.size f cdv)) → DSs (cxOf CX0 P w K mg base N qual (defScope st) f cdv A outer s H E).nox (defBody st) ws)
    (ok : ∀ ds μ Q, d ds μ Q → ws { nx := fun _ μ' => ∃ μ2, Sub μ2 μ' ∧ Q .non μ2, rt := Q } (startD N ds) μ) (b : ∀ {f fd}, FnAt K "__init__" qual st dsV f fd → KB K fd ps 1 ks is ds) (vd : Vals dvs ds) (rd : ∀ G, Rps K G dds dvs) : DMakN P w K mg base (k + 1) x C d ks is dds := by
  obtain ⟨f, fd, me, F⟩ := D.ex
  exact ⟨f, fd, ps, ds, dvs, ⟨c.mks, me.at_, me.fn, c.kp⟩, F.ok S len (hb (f := f)) ok, c.g, b F, vd, rd⟩
end
def wCallN (d : DSp) (n : Nat) (is : List Nat) (dds : List D) (wa : WA) : WE := fun ρ μ P => wa ρ μ fun ds μ1 => ds.length = n ∧ d (L2.pick is (ds ++ dds)) μ1 P
def wMethN (C : Addr) (m : Str) (d : DSp) (n : Nat) (is : List Nat) (dds : List D) (wo : WE) (wa : WA) : WE := fun ρ μ P => wo ρ μ fun x μ1 => match insD μ1 x with
  | some (C', fs) => C' = C ∧ look fs m = none ∧ wa ρ μ1 fun ds μ2 => ds.length = n ∧ d (L2.pick is (x :: (ds ++ dds))) μ2 P
  | none => False
def wMakeN (C : Addr) (d : DSp) (n : Nat) (is : List Nat) (dds : List D) (wa : WA) : WE := fun ρ μ P => wa ρ μ fun ds μ1 => ds.length = n ∧ ∀ x, μ1 x = none → d (L2.pick is (.ref x :: (ds ++ dds))) (setS μ1 x (.ins C [])) fun r μ2 => r = .non ∧ ∃ fs, μ2 x = some (.ins C fs) ∧ P (.obj C fs) (delS μ2 x)
section
variable {X : Cx} {j k : Nat} {x m : Str} {C : Addr} {d : DSp} {ks : List Str} {is : List Nat} {dds : List D} {p pos apos : Pos} {o : Expr} {kws : List Keyword} {wo : WE} {wa : WA}
theorem de_calN (c : DCalN X.prog X.w X.K X.mg X.base k x d ks is dds) (hr : Room j X.A) (hk : k ≤ j) (hg : Gl X x) (ha : DAK X kws wa)
    (hall : (backToKw pos (keywordEach kws X.env)).all (·.1.isSome) = true := by rfl) (hks : (backToKw pos (keywordEach kws X.env)).filterMap (·.1) = ks := by rfl) (hdb : (x == ("__debug__" : Str)) = false := by decide)
    (hpl : ((backTo pos (starEach [] X.env)).any (·.1) || (backToKw pos (keywordEach kws X.env)).any (·.1.isNone)) = false := by rfl) : DE X (.Call (.Name x p) [] kws pos) (wCallN d ks.length is dds wa) := by
  obtain ⟨f, fd, ps, ds, dvs, F, m, kp, b, vd, rd⟩ := c.ex
  exact ⟨wkE (pe_callN0 F (hr.mono hk) hg m kp (b.kbn vd) pass0 ha.p hall hks hdb hpl) fun σ H Q ⟨ρ, μ, G, P, he, hm, hw, ht⟩ => ⟨ρ, μ, G, _, he, hm, hw, fun ds μ1 vs H1 G1 ⟨l1, p1⟩ e1 m1 r1 => ⟨r1.length.symm.trans l1, L2.pick is (ds ++ dds), μ1, G1, P, by
    have := (r1.append (rd G1)).pick is
    simpa using this, m1, p1, ht.mono e1⟩⟩⟩
theorem de_metN {pl : Sem Bool} (c : DMetN X.prog X.w X.K X.mg X.base k C m d ks is dds) (hr : Room j X.A) (hk : k ≤ j) (ho : DE X o wo) (ha : DAK X kws wa)
    (hall : (backToKw pos (keywordEach kws X.env)).all (·.1.isSome) = true := by rfl) (hks : (backToKw pos (keywordEach kws X.env)).filterMap (·.1) = ks := by rfl)
    (hpl : ((backTo pos (starEach [] X.env)).any (·.1) || (backToKw pos (keywordEach kws X.env)).any (·.1.isNone)) = false := by rfl)
    (ht : eval (.Call (.Attribute o m apos) [] kws pos) X.env = (do
      let ov ← eval o X.env
      standAt apos.atName
      let (f, first) ← holding [ov] (getMethod ov m pl)
      callWith pos f first (backTo pos (starEach [] X.env)) (backToKw pos (keywordEach kws X.env))) := by rfl) : DE X (.Call (.Attribute o m apos) [] kws pos) (wMethN C m d ks.length is dds wo wa) := by
  obtain ⟨f, fd, ps, ds, dvs, hc, hm, F, b, vd, rd⟩ := c.ex
  exact ⟨wkE (pe_methN (pl := pl) ho.p hc hm F (hr.mono hk) (b.kbn vd) pass0 ha.p hall hks hpl ht) fun σ H Q ⟨ρ, μ, G, P, he, hm, hw, htl⟩ => ⟨ρ, μ, G, _, he, hm, hw, fun x μ1 v1 H1 G1 p1 e1 m1 r1 => by
    split at p1
    · rename_i C' fs q
      obtain ⟨rfl, hl, p⟩ := p1
      obtain ⟨a, dx, vs, rfl, h1, k1, r2⟩ := insD_ok q m1 r1
      refine ⟨a, dx, vs, rfl, h1, by rw [lookup_look]; exact (look_keys (k := _) k1 r2).2 hl, ρ, μ1, G1, _, he.mono e1, m1, p, fun ds μ2 vs2 H2 G2 ⟨l2, p2⟩ e2 m2 r3 => ⟨r3.length.symm.trans l2, L2.pick is (x :: (ds ++ dds)), μ2, G2, P, ?_, m2, p2, htl.mono (e1.trans e2)⟩⟩
      have := (Rps.cons (r1.mono e2) (r3.append (rd G2))).pick is
      simpa using this
    · exact p1.elim⟩⟩
theorem de_makN (c : DMakN X.prog X.w X.K X.mg X.base k x C d ks is dds) (hr : Room j X.A) (hk : k + 1 ≤ j) (hg : Gl X x) (ha : DAK X kws wa)
    (hall : (backToKw pos (keywordEach kws X.env)).all (·.1.isSome) = true := by rfl) (hks : (backToKw pos (keywordEach kws X.env)).filterMap (·.1) = ks := by rfl) (hdb : (x == ("__debug__" : Str)) = false := by decide)
    (hpl : ((backTo pos (starEach [] X.env)).any (·.1) || (backToKw pos (keywordEach kws X.env)).any (·.1.isNone)) = false := by rfl) : DE X (.Call (.Name x p) [] kws pos) (wMakeN C d ks.length is dds wa) := by
  obtain ⟨f, fd, ps, ds, dvs, M, F, m, b, vd, rd⟩ := c.ex
  exact ⟨wkE (pe_makeK0 M F (hr.mono hk) hg m (b.kbn vd) pass0 ha.p hall hks hdb hpl) fun σ H Q ⟨ρ, μ, G, P, he, hm, hw, htl⟩ => ⟨ρ, μ, G, _, he, hm, hw, fun ds μ1 vs H1 G1 ⟨l1, p1⟩ e1 m1 r1 => ⟨rfl, r1.length.symm.trans l1, fun x dx hx hdx hn => ⟨L2.pick is (.ref x :: (ds ++ dds)), _, G1, _, by
    have := (Rps.cons (.ref x) (r1.append (rd G1))).pick is
    simpa using this, made_sm m1 hx hdx hn, p1 x (m1.nn hx), fun r μ2 v H2 G2 ⟨er, fs, q, p⟩ e2 m2 rv => by
    subst er
    cases rv
    obtain ⟨G3, m3, e3, r3⟩ := m2.freezeI q
    exact ⟨rfl, htl _ _ _ _ _ p ((e1.trans e2).trans e3) m3 r3⟩⟩⟩⟩⟩
end
end Dl

namespace Dl
open PySem L2
open PyProof.Rows
/-! ### list(enumerate(x)) -/
section
variable {prog : Program} {w : World} {A : Around} {E : Value → Shared → Prop} {s : Shared}
abbrev EnO (h : Heap) (e it : Addr) (i : Int) (item : Value) (a : Addr) (f : Bool) : Prop :=
  h.get? e = some { cls := .type "enumerate", dict := none, data := .fields #[rawInt a, .bool f, .ref it, rawInt i, .none, item], slots := #[] }
theorem en_alive {a : Addr} {o : Obj} {Q : Option Obj → Shared → Prop} (ho : s.heap.get? a = some o) (h : Q (some o) s) : wpAny (model prog w) A (loadIfAlive a) Q E s := by
  have h' : Q (s.heap.get? a) s := by rw [ho]; exact h
  exact fun _ _ _ => h'
theorem en_next_out {e it a : Addr} {f : Bool} {oa : Obj} {fp : List Addr} {n i : Nat} {P : Nat → Value → Prop} {St : Nat → Heap → Prop} {item : Value} {Q : Option Value → Shared → Prop}
    (D : Draws prog w A.in1 it fp n P St) (he : EnO s.heap e it i item a f) (ha : s.heap.get? a = some oa) (hae : a ≠ e) (hai : a ≠ it) (hst : St i s.heap) (hlt : i < n) (hne : e ≠ it) (hef : e ∉ fp)
    (hQ : ∀ x h' tk, P i x → EnO h' e it ((i : Int) + 1) item a true → St (i + 1) h' →
      h'.get? s.heap.objs.size = some { cls := .type "tuple", data := .seq #[.int i tk, x] } →
      (∀ b o, b ≠ e → b ≠ it → s.heap.get? b = some o → h'.get? b = some o) → Q (some (.ref s.heap.objs.size)) { s with heap := h', toks := tk + 1 }) :
    wpAny (model prog w) A (pyNext (.ref e)) Q E s := by
  have hT : s.TypeIs (.ref e) "enumerate" := ⟨_, he, rfl⟩
  unfold pyNext
  refine wpAny_bind (wpAny_attempt (wpAny_callSpecial?_slot (name := Str.ofString "__next__") hT F.slot_enumerate_next
    (wpAny_call_entry F.slot_enumerate_next hT F.entry_enumerate_next ?_ (F.args_enumerate_next_1 _))))
  obtain ⟨hp, g, d, tk₀, os⟩ := s
  show wpAny _ _ (field (.ref e) 2 >>= _) _ _ _
  refine wpAny_bind (wpAny_field he rfl (x := .ref it) rfl ?_)
  refine wpAny_bind (D.item i _ _ _ hlt hst fun x h₁ tk hPx hit₁ hs₁ => ?_)
  replace hs₁ : Heap.SameBut it hp h₁ := hs₁
  have he₁ : EnO h₁ e it i item a f := (hs₁.2 e hne).trans he
  show wpAny _ _ (field (.ref e) 3 >>= _) _ _ ⟨h₁, g, d, tk, os⟩
  refine wpAny_bind (wpAny_field he₁ rfl (x := rawInt i) rfl ?_)
  show wpAny _ _ (field (.ref e) 4 >>= _) _ _ ⟨h₁, g, d, tk, os⟩
  refine wpAny_bind (wpAny_field he₁ rfl (x := .none) rfl ?_)
  show wpAny _ _ (mkInt i >>= _) _ _ ⟨h₁, g, d, tk, os⟩
  refine wpAny_bind (wpAny_mkInt ?_)
  show wpAny _ _ (setField (.ref e) 3 (rawInt ((i : Int) + 1)) >>= _) _ _ ⟨h₁, g, d, tk + 1, os⟩
  refine wpAny_bind (wpAny_setField_rec he₁ (by simp) fun h₂ he₂ hs₂ => ?_)
  replace hs₂ : Heap.SameBut e h₁ h₂ := hs₂
  replace he₂ : EnO h₂ e it ((i : Int) + 1) item a f := he₂
  show wpAny _ _ (setField (.ref e) 4 .none >>= _) _ _ ⟨h₂, g, d, tk + 1, os⟩
  refine wpAny_bind (wpAny_setField_rec he₂ (by simp) fun h₃ he₃ hs₃ => ?_)
  replace hs₃ : Heap.SameBut e h₂ h₃ := hs₃
  replace he₃ : EnO h₃ e it ((i : Int) + 1) item a f := he₃
  show wpAny _ _ (newTuple [.int i tk, x] >>= _) _ _ ⟨h₃, g, d, tk + 1, os⟩
  refine wpAny_bind (wpAny_newTuple ?_)
  have he₄ : EnO (h₃.push { cls := .type "tuple", data := .seq #[.int i tk, x] }) e it ((i : Int) + 1) item a f := Heap.get?_push_of_some _ he₃
  generalize hh₄ : h₃.push { cls := .type "tuple", data := .seq #[.int i tk, x] } = h₄ at he₄
  have hsz : h₃.objs.size = hp.objs.size := by rw [hs₃.1, hs₂.1, hs₁.1]
  have hel : e < hp.objs.size := Heap.lt_size he
  have ht₄ : h₄.get? hp.objs.size = some { cls := .type "tuple", data := .seq #[.int i tk, x] } := by rw [← hh₄, ← hsz]; exact Heap.get?_push_size _ rfl
  have hk₄ : ∀ b o, b ≠ e → b ≠ it → hp.get? b = some o → h₄.get? b = some o := fun b o hbe hbi hb => by
    rw [← hh₄]; exact Heap.get?_push_of_some _ (hs₃.extBut b o hbe (hs₂.extBut b o hbe (hs₁.extBut b o hbi hb)))
  have hit₄ : St (i + 1) h₄ := D.frame _ _ _ hit₁ fun b hb o y => by
    have hbe : b ≠ e := fun q => hef (q ▸ hb)
    rw [← hh₄]; exact Heap.get?_push_of_some _ (hs₃.extBut b o hbe (hs₂.extBut b o hbe y))
  show wpAny _ _ (Builtin.SmallTypes.ownedTupleIsFree (.ref e) >>= _) _ _ ⟨h₄, g, d, tk + 1, os⟩
  rw [hsz]
  clear hh₄ he₃ hs₃ he₂ hs₂ he₁ hs₁ hit₁ hsz h₃ h₂ h₁
  have ha₄ : h₄.get? a = some oa := hk₄ a oa hae hai ha
  have fin : ∀ h₅ : Heap, EnO h₅ e it ((i : Int) + 1) item a true → Heap.SameBut e h₄ h₅ → Q (some (.ref hp.objs.size)) ⟨h₅, g, d, tk + 1, os⟩ := fun h₅ he₅ hs₅ =>
    hQ x h₅ tk hPx he₅ (D.frame _ _ _ hit₄ fun b hb o y => hs₅.extBut b o (fun q => hef (q ▸ hb)) y) (hs₅.extBut _ _ (Nat.ne_of_gt hel) ht₄) fun b o hbe hbi hb => hs₅.extBut b o hbe (hk₄ b o hbe hbi hb)
  refine wpAny_bind ?_
  unfold Builtin.SmallTypes.ownedTupleIsFree
  refine wpAny_bind (wpAny_field he₄ rfl (x := rawInt a) rfl ?_)
  show wpAny _ _ (loadIfAlive ((a : Int).toNat) >>= _) _ _ _
  rw [Int.toNat_natCast]
  refine wpAny_bind (en_alive ha₄ ?_)
  simp only [Option.isNone_some, Bool.false_eq_true, if_false]
  refine wpAny_bind (wpAny_field he₄ rfl (x := .bool f) rfl ?_)
  cases f with
  | true =>
    rw [if_neg (show ¬ ((Value.bool true != Value.bool true) = true) from Bool.false_ne_true)]
    refine wpAny_pure ?_
    simp only [Bool.false_eq_true, if_false]
    exact wpAny_pure ⟨_, rfl, wpAny_pure (fin h₄ he₄ (Heap.SameBut.refl _ _))⟩
  | false =>
    rw [if_pos (show (Value.bool false != Value.bool true) = true from rfl)]
    refine wpAny_bind (wpAny_setField_rec he₄ (by simp) fun h₅ he₅ hs₅ => ?_)
    replace hs₅ : Heap.SameBut e h₄ h₅ := hs₅
    replace he₅ : EnO h₅ e it ((i : Int) + 1) item a true := he₅
    refine wpAny_pure ?_
    simp only [Bool.false_eq_true, if_false]
    exact wpAny_pure ⟨_, rfl, wpAny_pure (fin h₅ he₅ hs₅)⟩
theorem en_end_out {e it a : Addr} {f : Bool} {fp : List Addr} {n : Nat} {P : Nat → Value → Prop} {St : Nat → Heap → Prop} {i : Int} {item : Value} {Q : Option Value → Shared → Prop}
    (D : Draws prog w A.in1 it fp n P St) (he : EnO s.heap e it i item a f) (hst : St n s.heap)
    (hQ : ∀ h', Heap.ExtBut it s.heap h' → Q none { s with heap := h' }) : wpAny (model prog w) A (pyNext (.ref e)) Q E s := by
  have hT : s.TypeIs (.ref e) "enumerate" := ⟨_, he, rfl⟩
  unfold pyNext
  refine wpAny_bind (wpAny_attempt (wpAny_callSpecial?_slot (name := Str.ofString "__next__") hT F.slot_enumerate_next
    (wpAny_call_entry F.slot_enumerate_next hT F.entry_enumerate_next ?_ (F.args_enumerate_next_1 _))))
  show wpAny _ _ (field (.ref e) 2 >>= _) _ _ _
  refine wpAny_bind (wpAny_field he rfl (x := .ref it) rfl ?_)
  refine wpAny_bind (D.done _ _ _ hst fun h' x he' hx' => ?_)
  obtain ⟨o, ho, hc⟩ := hx'
  refine wpAny_bind (wpAny_isInstance (T := "StopIteration") (b := true) ⟨o, ho, hc⟩ isSubtype_stop ?_)
  exact wpAny_pure (hQ _ he')
/-- the state between two turns -/
def EnSt (h : Heap) (e it S : Addr) (i : Nat) : Prop := (∃ old, IsEnum h e it ((i : Nat) : Int) old) ∨ ∃ a f item oa, EnO h e it ((i : Nat) : Int) item a f ∧ h.get? a = some oa ∧ S < a
theorem EnSt.keep {h h' : Heap} {e it S : Addr} {i : Nat} (x : EnSt h e it S i) (k : ∀ b o, b ≠ S → h.get? b = some o → h'.get? b = some o) (he : e ≠ S) : EnSt h' e it S i := by
  rcases x with ⟨old, x⟩ | ⟨a, f, item, oa, x, y, z⟩
  · exact .inl ⟨old, k _ _ he x⟩
  · exact .inr ⟨a, f, item, oa, k _ _ he x, k _ _ (Nat.ne_of_gt z) y, z⟩
theorem EnSt.live {h : Heap} {e it S : Addr} {i : Nat} (x : EnSt h e it S i) : ∃ o, h.get? e = some o := by
  rcases x with ⟨old, x⟩ | ⟨a, f, item, oa, x, y, z⟩
  · exact ⟨_, x⟩
  · exact ⟨_, x⟩
theorem en_item {e it S : Addr} {fp : List Addr} {n i : Nat} {P : Nat → Value → Prop} {St : Nat → Heap → Prop} {Q : Option Value → Shared → Prop}
    (D : Draws prog w A.in1 it fp n P St) (he : EnSt s.heap e it S i) (heS : e < S) (hiS : it < S) (hS : S < s.heap.objs.size) (hst : St i s.heap) (hlt : i < n) (hne : e ≠ it) (hef : e ∉ fp)
    (hQ : ∀ x h' tk, P i x → EnSt h' e it S (i + 1) → St (i + 1) h' →
      h'.get? s.heap.objs.size = some { cls := .type "tuple", data := .seq #[.int i tk, x] } →
      (∀ b o, b ≠ e → b ≠ it → s.heap.get? b = some o → h'.get? b = some o) → Q (some (.ref s.heap.objs.size)) { s with heap := h', toks := tk + 1 }) :
    wpAny (model prog w) A (pyNext (.ref e)) Q E s := by
  have ei : ((i + 1 : Nat) : Int) = (i : Int) + 1 := by omega
  rcases he with ⟨old, he⟩ | ⟨a, f, item, oa, he, ha, hSa⟩
  · exact wpAny_pyNext_enum_itemD D he hst hlt hne hef fun x h' tk a b c d _ k => hQ x h' tk a (.inr ⟨_, false, x, _, by rw [ei]; exact b, d, hS⟩) c d k
  · have hae : a ≠ e := Nat.ne_of_gt (Nat.lt_trans heS hSa)
    have hai : a ≠ it := Nat.ne_of_gt (Nat.lt_trans hiS hSa)
    exact en_next_out D he ha hae hai hst hlt hne hef fun x h' tk p b c d k => hQ x h' tk p (.inr ⟨a, true, item, oa, by rw [ei]; exact b, k a oa hae hai ha, hSa⟩) c d k
theorem en_done {e it S : Addr} {fp : List Addr} {n i : Nat} {P : Nat → Value → Prop} {St : Nat → Heap → Prop} {Q : Option Value → Shared → Prop}
    (D : Draws prog w A.in1 it fp n P St) (he : EnSt s.heap e it S i) (hst : St n s.heap)
    (hQ : ∀ h', Heap.ExtBut it s.heap h' → Q none { s with heap := h' }) : wpAny (model prog w) A (pyNext (.ref e)) Q E s := by
  rcases he with ⟨old, he⟩ | ⟨a, f, item, oa, he, ha, hSa⟩
  · exact wpAny_pyNext_enum_endD D he hst hQ
  · exact en_end_out D he hst hQ
/-- the pairs made -/
structure EnG (P : Nat → Value → Prop) (lo : Addr) (h : Heap) (as : List Addr) : Prop where
  rise : as.Pairwise (· < ·)
  above : ∀ a ∈ as, lo < a
  pairs : ∀ (j : Nat) (a : Addr), as[j]? = some a → ∃ tk x, P j x ∧ h.get? a = some { cls := .type "tuple", data := .seq #[.int j tk, x] }
theorem EnG.there {P : Nat → Value → Prop} {lo : Addr} {h : Heap} {as : List Addr} (g : EnG P lo h as) {a : Addr} (ha : a ∈ as) : a < h.objs.size := by
  obtain ⟨j, hj⟩ := List.mem_iff_getElem?.mp ha
  obtain ⟨_, _, _, e⟩ := g.pairs j a hj
  exact Heap.lt_size e
end
section
variable {prog : Program} {w : World} {A : Around} {s : Shared} {R : Result → Shared → Prop} {fp : List Addr} {n : Nat} {P : Nat → Value → Prop} {St : Nat → Heap → Prop} {S e it : Addr}
theorem en_loop (D : Draws prog w A.in1.in1 it fp n P St) (heS : e < S) (hiS : it < S) (hne : e ≠ it) (hef : e ∉ fp) (hfp : ∀ b ∈ fp, b < S) (hn : n ≤ sizeLine) (res : Value) {h₁ : Heap}
    (hR : ∀ h' tk acc c as, (∃ o, h'.get? e = some o) → (∀ b o, b ≠ S → b ≠ e → b ≠ it → h₁.get? b = some o → h'.get? b = some o) → h'.get? S = some { cls := .type "list", dict := none, data := .seq acc c, slots := #[] } → as.length = n → EnG P S h' as →
      acc.toList = as.map Value.ref → R (.ok (.ret res)) { s with heap := h', toks := tk }) :
    ∀ (k i : Nat) (h : Heap) (tk c : Nat) (acc : Array Value) (as : List Addr), n - i = k → i ≤ n → EnSt h e it S i → St i h → (∀ b o, b ≠ S → b ≠ e → b ≠ it → h₁.get? b = some o → h.get? b = some o) →
      h.get? S = some { cls := .type "list", dict := none, data := .seq acc c, slots := #[] } → acc.toList = as.map Value.ref → as.length = i → EnG P S h as →
      codeAny (model prog w) A (.builtin "list.extend.loop" ⟨[.ref S, .ref e, res], []⟩) R { s with heap := h, toks := tk } := by
  have hSe : e ≠ S := Nat.ne_of_lt heS
  have hSi : it ≠ S := Nat.ne_of_lt hiS
  intro k
  induction k with
  | zero =>
    intro i h tk c acc as hk hi hes hst hkeep hS hacc hal hG
    have hin : i = n := by omega
    subst hin
    refine codeAny_builtin PySem.F.entry_extend_loop ?_
    rw [Around.under_plainId PySem.F.plain_extend_loop _]
    show wpAny _ A.in1 (pyNext (.ref e) >>= _) _ _ _
    refine wpAny_bind (en_done (s := { s with heap := h, toks := tk }) (A := A.in1) D hes hst fun h' he => ?_)
    refine wpAny_pure (hR h' tk acc c as (let ⟨o, ho⟩ := hes.live; ⟨o, he e o hne ho⟩) (fun b o h1 h2 h3 q => he b o h3 (hkeep b o h1 h2 h3 q)) (he S _ (Ne.symm hSi) hS) hal ⟨hG.rise, hG.above, fun j a hj => ?_⟩ hacc)
    obtain ⟨t, x, p, q⟩ := hG.pairs j a hj
    have := hG.above a (List.mem_of_getElem? hj)
    exact ⟨t, x, p, he a _ (Nat.ne_of_gt (Nat.lt_trans hiS this)) q⟩
  | succ k ih =>
    intro i h tk c acc as hk hi hes hst hkeep hS hacc hal hG
    have hlt : i < n := by omega
    have hsz : acc.size = i := by rw [← Array.length_toList, hacc, List.length_map, hal]
    refine codeAny_builtin PySem.F.entry_extend_loop ?_
    rw [Around.under_plainId PySem.F.plain_extend_loop _]
    show wpAny _ A.in1 (pyNext (.ref e) >>= _) _ _ _
    refine wpAny_bind (en_item (s := { s with heap := h, toks := tk }) (A := A.in1) (S := S) D hes heS hiS (Heap.lt_size hS) hst hlt hne hef fun x h' t hP hes' hst' ht hkp => ?_)
    dsimp only at ht hkp ⊢
    have hS' := hkp S _ (Ne.symm hSe) (Ne.symm hSi) hS
    have up : ∀ b o, b ≠ S → h'.get? b = some o → (h'.update S (Obj.mapSeq (·.push (Value.ref h.objs.size)))).get? b = some o := fun b o hb q => (Heap.get?_update_other _ _ (Ne.symm hb)).trans q
    have hSl : S < h.objs.size := Heap.lt_size hS
    show wpAny _ A.in1 (updateSeq S (·.push (Value.ref h.objs.size)) >>= _) _ _ _
    refine wpAny_bind ?_
    refine wpAny_updateSeq hS' rfl (wpAny_pure ⟨plainId_quiet PySem.F.plain_extend_loop _, ih (i + 1) _ (t + 1) _ (acc.push (Value.ref h.objs.size)) (as ++ [h.objs.size]) (by omega) hlt (hes'.keep up hSe) (D.frame _ _ _ hst' fun b hb o q => up b o (Nat.ne_of_lt (hfp b hb)) q)
      (fun b o h1 h2 h3 q => up b o h1 (hkp b o h2 h3 (hkeep b o h1 h2 h3 q))) (Heap.get?_update_self _ hS' rfl) (by rw [Array.toList_push, hacc, List.map_append]; rfl) (by rw [List.length_append, hal]; rfl) ⟨?_, ?_, ?_⟩⟩) (by rw [hsz]; omega) (by show (acc.push (Value.ref h.objs.size)).size ≤ sizeLine + 1; rw [Array.size_push, hsz]; omega)
    · refine List.pairwise_append.mpr ⟨hG.rise, List.pairwise_singleton _ _, fun a ha b hb => ?_⟩
      rw [List.mem_singleton.mp hb]
      exact hG.there ha
    · intro a ha
      rcases List.mem_append.mp ha with ha | ha
      · exact hG.above a ha
      · rw [List.mem_singleton.mp ha]; exact hSl
    · intro j b hj
      rcases Nat.lt_trichotomy j as.length with h1 | h1 | h1
      · rw [List.getElem?_append_left h1] at hj
        obtain ⟨t2, x2, p, q⟩ := hG.pairs j b hj
        have hb := hG.above b (List.mem_of_getElem? hj)
        exact ⟨t2, x2, p, up b _ (Nat.ne_of_gt hb) (hkp b _ (Nat.ne_of_gt (Nat.lt_trans heS hb)) (Nat.ne_of_gt (Nat.lt_trans hiS hb)) q)⟩
      · subst h1
        have hb : h.objs.size = b := by simpa using hj
        subst hb
        subst hal
        exact ⟨t, x, hP, up _ _ (Nat.ne_of_gt hSl) ht⟩
      · have hnone : (as ++ [h.objs.size])[j]? = none := List.getElem?_eq_none (by rw [List.length_append, List.length_singleton]; omega)
        rw [hnone] at hj; cases hj
end
theorem en_no_len : typeLookup (.type "enumerate") "__len__" = pure none := by rw [typeLookup_type, builtinLookup_eq_fast]; kernel_rfl
theorem en_no_hint : typeLookup (.type "enumerate") "__length_hint__" = pure none := by rw [typeLookup_type, builtinLookup_eq_fast]; kernel_rfl
section
variable {prog : Program} {w : World} {A : Around} {E : Value → Shared → Prop} {s : Shared} {fp : List Addr} {n : Nat} {P : Nat → Value → Prop} {St : Nat → Heap → Prop} {S e it : Addr}
theorem en_extend {R : Result → Shared → Prop} (D : Draws prog w A.in1.in1 it fp n P St) (hes : EnSt s.heap e it S 0) (hst : St 0 s.heap) (heS : e < S) (hiS : it < S) (hne : e ≠ it) (hef : e ∉ fp) (hfp : ∀ b ∈ fp, b < S) (hn : n ≤ sizeLine) (res : Value) (c₀ : Nat)
    (hS : s.heap.get? S = some { cls := .type "list", data := .seq #[] c₀ }) (old : Value) (he : IsEnum s.heap e it 0 old)
    (hR : ∀ h' tk acc c as, (∃ o, h'.get? e = some o) → (∀ b o, b ≠ S → b ≠ e → b ≠ it → s.heap.get? b = some o → h'.get? b = some o) → h'.get? S = some { cls := .type "list", dict := none, data := .seq acc c, slots := #[] } → as.length = n → EnG P S h' as →
      acc.toList = as.map Value.ref → R (.ok (.ret res)) { s with heap := h', toks := tk }) :
    wpAny (model prog w) A.in1 (Builtin.List.listExtendWith (.ref S) (.ref e) res)
      (fun fin s' => match fin with | .done f => R (.ok f) s' | .again c' => c'.quiet = true ∧ codeAny (model prog w) A c' R s') (fun e s' => R (.error e) s') s := by
  have hSe : S ≠ e := Nat.ne_of_gt heS
  have hT : ∀ {s : Shared}, IsEnum s.heap e it 0 old → s.TypeIs (.ref e) "enumerate" := fun he => ⟨_, he, rfl⟩
  unfold Builtin.List.listExtendWith
  refine wpAny_bind (wpAny_typeOf (T := "enumerate") (hT he) ?_)
  have h1 : Builtin.List.listSameRef (.ref S) (.ref e) = false := by simp [Builtin.List.listSameRef, hSe]
  have h2 : (Value.type "enumerate" == Value.type "list") = false := by decide
  have h3 : (Value.type "enumerate" == Value.type "tuple") = false := by decide
  simp only [h1, h2, h3, Bool.or_false, Bool.false_eq_true, if_false]
  refine wpAny_bind (wpAny_pyIter_enum he ?_)
  refine wpAny_bind (wpAny_holding ?_)
  unfold Builtin.List.listLengthHint
  refine wpAny_bind (wpAny_specialOf (hT he) en_no_len ?_)
  show wpAny _ A.in1 (specialOf (Value.ref e) (Str.ofString "__length_hint__") >>= _) _ _ _
  refine wpAny_bind (wpAny_specialOf (hT he) en_no_hint ?_)
  refine wpAny_pure ?_
  show wpAny _ A.in1 (rule "list.extend.makes-room" >>= fun _ => Builtin.List.listTouch (.ref S) >>= fun _ =>
    again (.builtin "list.extend.loop" ⟨[.ref S, .ref e, res], []⟩)) _ _ _
  refine wpAny_bind (wpAny_rule ?_)
  refine wpAny_bind ?_
  show wpAny _ A.in1 (updateSeq S (·.push .none) >>= fun _ => updateSeq S (·.pop)) _ _ _
  refine wpAny_bind (wpAny_updateSeq hS rfl ?_)
  have hS₂ := Heap.get?_update_self (Obj.mapSeq (·.push Value.none)) hS rfl
  refine wpAny_updateSeq (hz := by seq_fits) hS₂ rfl ?_
  have hS₃ := Heap.get?_update_self (Obj.mapSeq (·.pop)) hS₂ rfl
  have oth : ∀ b o, b ≠ S → s.heap.get? b = some o → ((s.heap.update S (Obj.mapSeq (·.push Value.none))).update S (Obj.mapSeq (·.pop))).get? b = some o :=
    fun b o hb q => (Heap.get?_update_other _ _ (Ne.symm hb)).trans ((Heap.get?_update_other _ _ (Ne.symm hb)).trans q)
  refine wpAny_pure ⟨plainId_quiet PySem.F.plain_extend_loop _, ?_⟩
  exact en_loop (s := s) (h₁ := s.heap) D heS hiS hne hef hfp hn res hR n 0 _ s.toks _ #[] [] rfl (Nat.zero_le _) (hes.keep oth (Ne.symm hSe)) (D.frame _ _ _ hst fun b hb o q => oth b o (Nat.ne_of_lt (hfp b hb)) q)
    (fun b o hb _ _ q => oth b o hb q) hS₃ rfl rfl ⟨List.Pairwise.nil, (fun _ ha => nomatch ha), (fun j a hj => by simp at hj)⟩
theorem en_init {R : Result → Shared → Prop} (D : Draws prog w A.in1.in1 it fp n P St) (hst : St 0 s.heap) (heS : e < S) (hiS : it < S) (hne : e ≠ it) (hef : e ∉ fp) (hfp : ∀ b ∈ fp, b < S) (hn : n ≤ sizeLine)
    (hS : s.heap.get? S = some { cls := .type "list", data := .seq #[] }) (old : Value) (he : IsEnum s.heap e it 0 old)
    (hR : ∀ h' tk acc c as, (∃ o, h'.get? e = some o) → (∀ b o, b ≠ S → b ≠ e → b ≠ it → s.heap.get? b = some o → h'.get? b = some o) → h'.get? S = some { cls := .type "list", dict := none, data := .seq acc c, slots := #[] } → as.length = n → EnG P S h' as →
      acc.toList = as.map Value.ref → R (.ok (.ret .none)) { s with heap := h', toks := tk }) :
    wpAny (model prog w) A.in1 (Builtin.«list.__init__» ⟨[.ref S, .ref e], []⟩)
      (fun fin s' => match fin with | .done f => R (.ok f) s' | .again c' => c'.quiet = true ∧ codeAny (model prog w) A c' R s') (fun e s' => R (.error e) s') s := by
  show wpAny _ A.in1 (do let old ← Builtin.List.listItems (.ref S); Builtin.List.listUpdate (.ref S) (fun _ => #[]); letGo old.toList.reverse; Builtin.List.listExtendWith (.ref S) (.ref e) .none) _ _ s
  refine wpAny_bind ?_
  unfold Builtin.List.listItems
  refine wpAny_bind (wpAny_seqItems hS rfl (wpAny_pure ?_))
  show wpAny _ A.in1 (updateSeq S (fun _ => #[]) >>= fun _ => letGo (#[] : Array Value).toList.reverse >>= fun _ => Builtin.List.listExtendWith (.ref S) (.ref e) .none) _ _ s
  refine wpAny_bind (wpAny_updateSeq hS rfl ?_)
  have hS₂ := Heap.get?_update_self (Obj.mapSeq (fun _ => (#[] : Array Value))) hS rfl
  have oth : ∀ b o, b ≠ S → s.heap.get? b = some o → (s.heap.update S (Obj.mapSeq (fun _ => (#[] : Array Value)))).get? b = some o :=
    fun b o hb q => (Heap.get?_update_other _ _ (Ne.symm hb)).trans q
  refine wpAny_bind (wpAny_letGo ?_)
  have he2 := oth e _ (Nat.ne_of_lt heS) he
  refine en_extend (R := R) D (.inl ⟨old, he2⟩) (D.frame _ _ _ hst fun b hb o q => oth b o (Nat.ne_of_lt (hfp b hb)) q) heS hiS hne hef hfp hn .none _ hS₂ old he2 fun h' tk acc c as hv hk hS' hl hG hacc => ?_
  exact hR h' tk acc c as hv (fun b o hb h2 h3 q => hk b o hb h2 h3 (oth b o hb q)) hS' hl hG hacc
theorem en_call {Q : Value → Shared → Prop} (D : Draws prog w A.in1.in1.in1 it fp n P St) (hst : St 0 s.heap) (hne : e ≠ it) (hef : e ∉ fp) (hfp : ∀ b ∈ fp, b < s.heap.objs.size) (hil : it < s.heap.objs.size) (hn : n ≤ sizeLine)
    (old : Value) (he : IsEnum s.heap e it 0 old)
    (hQ : ∀ h' tk acc c as, (∃ o, h'.get? e = some o) → (∀ b o, b ≠ e → b ≠ it → s.heap.get? b = some o → h'.get? b = some o) → h'.get? s.heap.objs.size = some { cls := .type "list", dict := none, data := .seq acc c, slots := #[] } → as.length = n → EnG P s.heap.objs.size h' as →
      acc.toList = as.map Value.ref → Q (.ref s.heap.objs.size) { s with heap := h', toks := tk }) :
    wpAny (model prog w) A (call (.type "list") [.ref e]) Q E s := by
  refine callType_codes (Q₁ := fun obj s₁ => obj = .ref s.heap.objs.size ∧ s₁ = { s with heap := s.heap.push { cls := .type "list", data := .seq #[] } }) PySem.F.called_list (PySem.F.typeCall_list_1 _) PySem.F.entry_list_init
    (code_list_new _ ⟨rfl, rfl⟩) fun obj s₁ h₁ => ?_
  obtain ⟨rfl, rfl⟩ := h₁
  have hS : (s.heap.push { cls := .type "list", data := .seq #[] }).get? s.heap.objs.size = some { cls := .type "list", data := .seq #[] } := Heap.get?_push_size _ rfl
  have hel : e < s.heap.objs.size := Heap.lt_size he
  refine ⟨⟨_, hS, rfl⟩, PySem.F.args_list_init_2 _ _, en_init (A := A.in1) D (D.frame _ _ _ hst fun b _ o q => Heap.get?_push_of_some _ q) hel hil hne hef hfp hn hS old (Heap.get?_push_of_some _ he) (fun h' tk acc c as hv hk hS' hl hG hacc => ?_)⟩
  exact ⟨rfl, hQ h' tk acc c as hv (fun b o h1 h2 q => hk b o (Nat.ne_of_lt (Heap.lt_size q)) h1 h2 (Heap.get?_push_of_some _ q)) hS' hl hG hacc⟩
end
section
theorem call_enumH {prog : Program} {w : World} {A : Around} {E : Value → Shared → Prop} {s : Shared} {v : Value} {o : Obj} {H : Heap → Prop} {Q : Value → Shared → Prop} (B : Begins v o H) (h1 : H s.heap)
    (h : ∀ h', IsEnum h' (s.heap.objs.size + 1) s.heap.objs.size 0 .none → h'.get? s.heap.objs.size = some o → h'.objs.size = s.heap.objs.size + 2 →
      (∀ b o, s.heap.get? b = some o → h'.get? b = some o) → Q (.ref (s.heap.objs.size + 1)) { s with heap := h' }) :
    wpAny (model prog w) A (call (.type "enumerate") [v]) Q E s := by
  refine callType_new F.called_enumerate (by decide) (F.typeCall_enumerate_1 _) (F.newCall_enumerate_1 _) (fun obj => F.args_object_init_2 obj _) F.entry_enumerate_new (meets_enum1 B) ⟨h1, ?_⟩
  have hz : (s.heap.push o).objs.size = s.heap.objs.size + 1 := Heap.size_push ..
  show _ ∧ _
  rw [hz]
  have he : IsEnum ((s.heap.push o).push { cls := .type "enumerate", data := .fields #[.none, .bool false, .ref s.heap.objs.size, rawInt 0, .none, .none] }) (s.heap.objs.size + 1) s.heap.objs.size 0 .none := by
    have := Heap.get?_push_size (s.heap.push o) (o := { cls := .type "enumerate", data := .fields #[.none, .bool false, .ref s.heap.objs.size, rawInt 0, .none, .none] }) rfl
    rw [hz] at this; exact this
  exact ⟨⟨_, he, rfl⟩, h _ he (Heap.get?_push_of_some _ (Heap.get?_push_size _ B.free)) (by rw [Heap.size_push, hz]) fun b o x => Heap.get?_push_of_some _ (Heap.get?_push_of_some _ x)⟩
variable {X : Cx}
def enK {α : Type} (xs : List α) : List (Key × α) := xs.zipIdx.map fun p => (Sum.inl (p.2 : Int), p.1)
theorem enK_length {α : Type} (xs : List α) : (enK xs).length = xs.length := by simp [enK]
theorem enK_get {α : Type} (xs : List α) (j : Nat) : (enK xs)[j]? = (xs[j]?).map fun x => (Sum.inl (j : Int), x) := by
  unfold enK
  rw [List.getElem?_map, List.getElem?_zipIdx]
  cases xs[j]? <;> simp
theorem paired_of {α β : Type} {F : α → β → Prop} : ∀ {xs : List α} {ys : List β}, xs.length = ys.length → (∀ (j : Nat) x y, xs[j]? = some x → ys[j]? = some y → F x y) → Paired F xs ys
  | [], [], _, _ => .nil
  | [], _ :: _, h, _ => by cases h
  | _ :: _, [], h, _ => by cases h
  | x :: xs, y :: ys, h, k => .cons (k 0 x y rfl rfl) (paired_of (Nat.succ.inj h) fun j a b ha hb => k (j + 1) a b (by simpa using ha) (by simpa using hb))
def rLE (xs : List V) (H : Hp) (Q : VK) : Prop := ∀ (H' : Hp) (p : Addr) (ts : List Addr), (∀ b o, H b = some o → H' b = some o) → H p = none → (∀ t ∈ ts, H t = none) → p ∉ ts → H' p = some (.lst (ts.map V.ref)) →
  Paired (fun (t : Addr) (q : Key × V) => H' t = some (.tup [kV q.1, q.2])) ts (enK xs) → Q (.ref p) H'
theorem en_laid {pins : List (Addr × Obj)} {σ : L2.St} {H : Hp} {s : Shared} {h' : Heap} {tk c : Nat} {xs : List V} {its : List Value} {acc : Array Value} {as : List Addr} {Q : VK} (I : Inv X pins σ H s) (hz : xs.length ≤ sizeLine) (rv : Vals xs its)
    (he : ∃ o, h'.get? (s.heap.objs.size + 1) = some o) (hk : ∀ b o, s.heap.get? b = some o → h'.get? b = some o)
    (hS : h'.get? (s.heap.objs.size + 2) = some { cls := .type "list", dict := none, data := .seq acc c, slots := #[] }) (hl : as.length = its.length)
    (hG : EnG (fun i v => its[i]? = some v) (s.heap.objs.size + 2) h' as) (hacc : acc.toList = as.map Value.ref) (q : rLE xs H Q) : ∃ H', Inv X pins σ H' { s with heap := h', toks := tk } ∧ Q (.ref (s.heap.objs.size + 2)) H' := by
  have hlen := rv.length
  obtain ⟨oe, he⟩ := he
  have key : ∀ oi : Obj, (∀ o, ((s.heap.push oi).get? s.heap.objs.size = some o → h'.get? s.heap.objs.size = some o)) → ∃ H', Inv X pins σ H' { s with heap := h', toks := tk } ∧ Q (.ref (s.heap.objs.size + 2)) H' := by
    intro oi hoi
    have z1 : (s.heap.push oi).objs.size = s.heap.objs.size + 1 := Heap.size_push ..
    have z2 : ((s.heap.push oi).push oe).objs.size = s.heap.objs.size + 2 := by rw [Heap.size_push, z1]
    have I2 : Inv X pins σ H { s with heap := (s.heap.push oi).push oe, toks := s.toks } := I.kept fun b ob x => Heap.get?_push_of_some _ (Heap.get?_push_of_some _ x)
    have kk : ∀ b o, ((s.heap.push oi).push oe).get? b = some o → h'.get? b = some o := fun b o x => by
      have hlt : b < s.heap.objs.size + 2 := z2 ▸ Heap.lt_size x
      by_cases e1 : b = s.heap.objs.size + 1
      · subst e1
        have : ((s.heap.push oi).push oe).get? (s.heap.objs.size + 1) = some oe ∨ ((s.heap.push oi).push oe).get? (s.heap.objs.size + 1) = none := by
          unfold Heap.get? Heap.push
          simp only [Array.getElem?_push, Array.size_push]
          simp only [if_true]
          obtain ⟨a, b, c, d⟩ := oe
          cases c <;> first | exact .inl rfl | exact .inr rfl
        rcases this with t | t
        · rw [t] at x; cases x; exact he
        · rw [t] at x; cases x
      · have hb : ((s.heap.push oi).push oe).get? b = (s.heap.push oi).get? b := by
          unfold Heap.get? Heap.push
          simp only [Array.getElem?_push, Array.size_push]
          rw [if_neg e1]
        rw [hb] at x
        by_cases e2 : b = s.heap.objs.size
        · subst e2; exact hoi o x
        · have hb2 : (s.heap.push oi).get? b = s.heap.get? b := by
            unfold Heap.get? Heap.push
            simp only [Array.getElem?_push]
            rw [if_neg e2]
          rw [hb2] at x
          exact hk b o x
    have hG2 : PySem.W.KdxG (mixKind X.prog X.w) (enK its) ((s.heap.push oi).push oe).objs.size h' as := by
      rw [z2]
      refine ⟨hG.rise, hG.above, fun j a ha => ?_⟩
      obtain ⟨t, x, hx, hg⟩ := hG.pairs j a ha
      refine ⟨.int j t, .inl (j : Int), x, ?_, ?_, hg⟩
      · rw [enK_get, hx]; rfl
      · show Value.isInt (j : Int) (.int (j : Int) t) = true
        unfold Value.isInt
        simp
    have kv : KV (enK xs) (enK its) := paired_of (by rw [enK_length, enK_length, hlen]) fun j x y hx hy => by
      rw [enK_get] at hx hy
      cases h1 : xs[j]? with
      | none => rw [h1] at hx; cases hx
      | some a =>
        rw [h1] at hx
        cases hx
        obtain ⟨b, h2, r⟩ := rv.get h1
        rw [h2] at hy
        cases hy
        exact ⟨rfl, r⟩
    obtain ⟨H', k1, k2, k3, k4, k5, k6, J⟩ := LiI.items_laid (tk := tk) (kvs := enK xs) I2 (by rw [enK_length]; exact hz) kv kk (by show h'.get? ((s.heap.push oi).push oe).objs.size = _; rw [z2]; exact hS) (by rw [enK_length]; exact hl) hG2 hacc
    have z2' : ({ s with heap := (s.heap.push oi).push oe, toks := s.toks } : Shared).heap.objs.size = s.heap.objs.size + 2 := z2
    rw [z2'] at k2 k4 k5
    exact ⟨H', J, q H' _ as k1 k2 k3 k4 k5 k6⟩
  cases hi : h'.get? s.heap.objs.size with
  | some oi =>
    refine key oi fun o x => ?_
    have : (s.heap.push oi).get? s.heap.objs.size = some oi ∨ (s.heap.push oi).get? s.heap.objs.size = none := by
      unfold Heap.get? Heap.push
      simp only [Array.getElem?_push, if_true]
      obtain ⟨a, b, c, d⟩ := oi
      cases c <;> first | exact .inl rfl | exact .inr rfl
    rcases this with t | t
    · rw [t] at x; cases x; exact hi
    · rw [t] at x; cases x
  | none =>
    refine key { cls := .type "list", data := .freed } fun o x => ?_
    have : (s.heap.push { cls := .type "list", data := .freed }).get? s.heap.objs.size = none := by
      unfold Heap.get? Heap.push
      simp only [Array.getElem?_push, if_true]
    rw [this] at x
    cases x
def tLE (K : PySem.W.Frag) (ta : TA) : TE := fun σ H Q => ta σ H fun vs H1 => ∃ a xs, vs = [V.ref a] ∧ (SqL K H1 a xs ∨ SqT K H1 a xs) ∧ rLE xs H1 Q
theorem pe_listEnum {e : Expr} {ta : TA} {p p2 cpos pos : Pos} (hc : X.calm = true) (hg : Gl X "list") (hm : X.mg "list" = none) (hg2 : Gl X "enumerate") (hm2 : X.mg "enumerate" = none) (ha : PA X [e] ta)
    (hs2 : starEach [e] X.env = [(false, eval e X.env)] := by rfl)
    (hs : starEach [.Call (.Name "enumerate" p2) [e] [] cpos] X.env = (false, eval (.Call (.Name "enumerate" p2) [e] [] cpos) X.env) :: starEach [] X.env := by rfl) :
    PE X (.Call (.Name "list" p) [.Call (.Name "enumerate" p2) [e] [] cpos] [] pos) (tLE X.K ta) := by
  refine ⟨fun pins s σ H Q I hq => ?_⟩
  refine wpAny_Call_Name_kw (ld_blt I hg hm (show bootBuiltins "list" = some (.type "list") by decide +kernel) ?_)
  refine PyProof.Rows.callWith_type1 ?_ hs rfl
  rw [hs]
  show wpAny _ _ (spliced ((false, eval (.Call (.Name "enumerate" p2) [e] [] cpos) X.env) :: backTo pos (starEach [] X.env))) _ _ s
  refine Calls.spliced_cons ?_
  refine wpAny_Call_Name_kw (ld_blt I hg2 hm2 boot_enumerate (PyProof.Rows.callWith_type1 (thn (ha.run cpos pins s σ H _ I hq) fun us s1 ⟨vs, H1, I1, r1, q1⟩ => ?_) hs2 rfl))
  obtain ⟨a, xs, ex, hsq, q⟩ := q1
  subst ex
  cases r1 with
  | cons r rr =>
    cases rr
    cases r
    rcases hsq with hsq | hsq
    · obtain ⟨its, rv, p', hz⟩ := I1.list hsq
      have hlt : a < s1.heap.objs.size := by obtain ⟨_, e, _⟩ := p'.isList; exact Heap.lt_size e
      have DD : Draws X.prog X.w X.A.in1.in1.in1 s1.heap.objs.size [s1.heap.objs.size, a] its.toArray.size (fun i v => its.toArray[i]? = some v) (fun i h => h.IsListIter s1.heap.objs.size a i ∧ h.IsList a its.toArray) := Draws.list (A := X.A.in1.in1.in1) (show X.A.in1.in1.in1.handled = none from I1.ok.hd hc) s1.heap.objs.size a (Nat.ne_of_lt hlt) its.toArray
      refine call_enumerate_list p'.isList fun h2 he hit hsz hk => ?_
      refine Calls.spliced_nil ?_
      refine en_call (s := { s1 with heap := h2 }) DD ⟨hit, (p'.isList).at fun o x => hk a o x⟩ (Nat.succ_ne_self _) (fun z => (show s1.heap.objs.size + 1 = s1.heap.objs.size ∨ s1.heap.objs.size + 1 = a by simpa using z).elim (fun z => Nat.succ_ne_self _ z) (fun z => absurd hlt (by rw [← z]; exact Nat.not_lt.mpr (Nat.le_succ _)))) (by intro b hb; show b < h2.objs.size; rw [hsz]; exact (show b = s1.heap.objs.size ∨ b = a by simpa using hb).elim (fun z => by rw [z]; exact Nat.lt_succ_of_lt (Nat.lt_succ_self _)) (fun z => by rw [z]; exact Nat.lt_succ_of_lt (Nat.lt_succ_of_lt hlt))) (by show _ < h2.objs.size; rw [hsz]; exact Nat.lt_succ_of_lt (Nat.lt_succ_self _)) (by rw [List.size_toArray]; have := rv.length; omega) _ he fun h' tk acc c as hv hk' hS' hl hG hacc => ?_
      have hsz' : ({ s1 with heap := h2 } : Shared).heap.objs.size = s1.heap.objs.size + 2 := hsz
      rw [hsz'] at hS' hG ⊢
      have hlen := rv.length
      obtain ⟨H', J, q'⟩ := en_laid (tk := tk) I1 (by omega) rv hv (fun b o x => hk' b o (Nat.ne_of_lt (Nat.lt_succ_of_lt (Heap.lt_size x))) (Nat.ne_of_lt (Heap.lt_size x)) (hk b o x)) hS' (by simpa using hl) ⟨hG.rise, hG.above, fun j a ha => let ⟨t, x, h1, h2⟩ := hG.pairs j a ha; ⟨t, x, by simpa using h1, h2⟩⟩ hacc q
      exact ⟨.ref _, H', J, rfl, q'⟩
    · obtain ⟨its, rv, p', hz⟩ := I1.tuple hsq
      have hlt : a < s1.heap.objs.size := by obtain ⟨_, e, _⟩ := p'; exact Heap.lt_size e
      have DD : Draws X.prog X.w X.A.in1.in1.in1 s1.heap.objs.size [s1.heap.objs.size, a] its.toArray.size (fun i v => its.toArray[i]? = some v) (fun i h => h.IsTupleIter s1.heap.objs.size a i ∧ h.IsTuple a its.toArray) := Draws.tuple (A := X.A.in1.in1.in1) (show X.A.in1.in1.in1.handled = none from I1.ok.hd hc) s1.heap.objs.size a (Nat.ne_of_lt hlt) its.toArray
      refine call_enumH (begins_tuple a its.toArray) p' fun h2 he hit hsz hk => ?_
      refine Calls.spliced_nil ?_
      refine en_call (s := { s1 with heap := h2 }) DD ⟨⟨_, hit, rfl, rfl⟩, let ⟨o, h1, h2⟩ := p'; ⟨o, hk a o h1, h2⟩⟩ (Nat.succ_ne_self _) (fun z => (show s1.heap.objs.size + 1 = s1.heap.objs.size ∨ s1.heap.objs.size + 1 = a by simpa using z).elim (fun z => Nat.succ_ne_self _ z) (fun z => absurd hlt (by rw [← z]; exact Nat.not_lt.mpr (Nat.le_succ _)))) (by intro b hb; show b < h2.objs.size; rw [hsz]; exact (show b = s1.heap.objs.size ∨ b = a by simpa using hb).elim (fun z => by rw [z]; exact Nat.lt_succ_of_lt (Nat.lt_succ_self _)) (fun z => by rw [z]; exact Nat.lt_succ_of_lt (Nat.lt_succ_of_lt hlt))) (by show _ < h2.objs.size; rw [hsz]; exact Nat.lt_succ_of_lt (Nat.lt_succ_self _)) (by rw [List.size_toArray]; have := rv.length; omega) _ he fun h' tk acc c as hv hk' hS' hl hG hacc => ?_
      have hsz' : ({ s1 with heap := h2 } : Shared).heap.objs.size = s1.heap.objs.size + 2 := hsz
      rw [hsz'] at hS' hG ⊢
      have hlen := rv.length
      obtain ⟨H', J, q'⟩ := en_laid (tk := tk) I1 (by omega) rv hv (fun b o x => hk' b o (Nat.ne_of_lt (Nat.lt_succ_of_lt (Heap.lt_size x))) (Nat.ne_of_lt (Heap.lt_size x)) (hk b o x)) hS' (by simpa using hl) ⟨hG.rise, hG.above, fun j a ha => let ⟨t, x, h1, h2⟩ := hG.pairs j a ha; ⟨t, x, by simpa using h1, h2⟩⟩ hacc q
      exact ⟨.ref _, H', J, rfl, q'⟩
/-! over data -/
theorem enK_itD (xs : List D) : (enK xs).map itD = enumD xs := by
  unfold enK enumD
  rw [List.map_map]
  rfl
def wLstEnum (we : WE) : WE := fun ρ μ P => we ρ μ fun d μ1 => match seqA μ1 d with
  | some xs => P (.lst (enumD xs)) μ1
  | none => False
theorem de_listEnum {e : Expr} {we : WE} {p p2 cpos pos : Pos} (hc : X.calm = true) (hg : Gl X "list") (hm : X.mg "list" = none) (hg2 : Gl X "enumerate") (hm2 : X.mg "enumerate" = none) (he : DE X e we)
    (hs2 : starEach [e] X.env = [(false, eval e X.env)] := by rfl)
    (hs : starEach [.Call (.Name "enumerate" p2) [e] [] cpos] X.env = (false, eval (.Call (.Name "enumerate" p2) [e] [] cpos) X.env) :: starEach [] X.env := by rfl) :
    DE X (.Call (.Name "list" p) [.Call (.Name "enumerate" p2) [e] [] cpos] [] pos) (wLstEnum we) :=
  ⟨wkE (pe_listEnum hc hg hm hg2 hm2 (da_cons he da_nil hs2).p hs2 hs) fun σ H Q ⟨ρ, μ, G, P, hr, hm, hw, ht⟩ => ⟨ρ, μ, G, fun ds μ1 => match ds with | [d] => (match seqA μ1 d with | some xs => P (.lst (enumD xs)) μ1 | none => False) | _ => False, hr, hm, hw, fun ds μ1 vs H1 G1 p e1 m r => by
    match ds, r, p with
    | [d], .cons r .nil, p =>
    dsimp only at p
    split at p
    · rename_i es q
      obtain ⟨a, xs, rfl, h1, rr⟩ := seqA_ok q m r
      refine ⟨a, xs, rfl, h1, fun H' b ts hk hb hts hnb hL hP => ?_⟩
      classical
      have old : ∀ t, H1 t = none → G1 t = none := fun t h => m.ex.nn h
      let G' : Hp := fun t => if t = b ∨ t ∈ ts then H' t else G1 t
      have eG : Ex G1 G' := fun t o h => by
        have hn : ¬ (t = b ∨ t ∈ ts) := by
          rintro (rfl | h2)
          · rw [old _ hb] at h; cases h
          · rw [old _ (hts t h2)] at h; cases h
        show (if t = b ∨ t ∈ ts then H' t else G1 t) = some o
        rw [if_neg hn]
        exact h
      have m' : Sm X.K μ1 G' H' := by
        refine ⟨fun t o h => ?_, fun t c h => ?_⟩
        · by_cases hn : t = b ∨ t ∈ ts
          · have h : (if t = b ∨ t ∈ ts then H' t else G1 t) = some o := h
            rw [if_pos hn] at h
            exact h
          · have h : (if t = b ∨ t ∈ ts then H' t else G1 t) = some o := h
            rw [if_neg hn] at h
            exact hk _ _ (m.ex _ _ h)
        · obtain ⟨k1, k2⟩ := m.st t c h
          obtain ⟨o, ho⟩ := k2.there
          have hn : ¬ (t = b ∨ t ∈ ts) := by
            rintro (rfl | h2)
            · rw [hb] at ho; cases ho
            · rw [hts t h2] at ho; cases ho
          refine ⟨?_, k2.mono eG ((hk _ _ ho).trans ho.symm)⟩
          show (if t = b ∨ t ∈ ts then H' t else G1 t) = none
          rw [if_neg hn]
          exact k1
      have ek : (enK xs).map (·.1) = (enK es).map (·.1) := by
        unfold enK
        rw [List.map_map, List.map_map]
        apply List.ext_getElem?
        intro j
        rw [List.getElem?_map, List.getElem?_map, List.getElem?_zipIdx, List.getElem?_zipIdx]
        have hl := rr.length
        by_cases hj : j < es.length
        · rw [List.getElem?_eq_getElem hj, List.getElem?_eq_getElem (by omega)]; simp
        · rw [List.getElem?_eq_none (by omega), List.getElem?_eq_none (by omega)]; rfl
      have e2 : ∀ {α : Type} (l : List α), (enK l).map (·.2) = l := fun l => by
        unfold enK
        rw [List.map_map]
        apply List.ext_getElem?
        intro j
        rw [List.getElem?_map, List.getElem?_zipIdx]
        cases l[j]? <;> rfl
      refine ht _ _ _ _ _ p (e1.trans eG) m' (.lst (xs := ts.map V.ref) ?_ ?_)
      · show (if b = b ∨ b ∈ ts then H' b else G1 b) = _
        rw [if_pos (.inl rfl)]
        exact hL
      · rw [← enK_itD]
        refine its_ok eG hP (fun t h => ?_) ek (by rw [e2, e2]; exact rr)
        show (if t = b ∨ t ∈ ts then H' t else G1 t) = _
        rw [if_pos (.inr h)]
    · exact p.elim⟩⟩
end
end Dl

namespace Dl
open PySem L2
/-! ### a list that may be changed is lent to an expression as one that stays -/
mutual
def lfD : D → Bool
  | .non => true
  | .bl _ => true
  | .int _ => true
  | .str _ => true
  | .ty _ => true
  | .ref _ => true
  | .tup xs => lfL xs
  | .obj _ fs => lfF fs
  | .lst _ => false
  | .scr _ => false
  | .dct _ => false
  | .dcl _ => false
  | .exc _ _ _ _ => false
def lfL : List D → Bool
  | [] => true
  | x :: r => lfD x && lfL r
def lfF : List (Str × D) → Bool
  | [] => true
  | (_, x) :: r => lfD x && lfF r
end
theorem lfF_map : ∀ fs : List (Str × D), lfF fs = lfL (fs.map (·.2))
  | [] => by rw [lfF, List.map_nil, lfL]
  | (_, x) :: r => by rw [lfF, List.map_cons, lfL, lfF_map r]
def lfC : Cell → Bool
  | .lst xs => lfL xs
  | .dct kvs => lfL (kvs.map (·.2))
  | .ins _ fs => lfL (fs.map (·.2))
def offH (G : Hp) (p : Addr) : Hp := fun a => if a = p then none else G a
theorem offH_ne {G : Hp} {p a : Addr} (h : a ≠ p) : offH G p a = G a := if_neg h
theorem offH_same {G : Hp} {p : Addr} : offH G p p = none := if_pos rfl
section
variable {K : PySem.W.Frag} {G : Hp} {p : Addr} {xs0 : List V}
mutual
theorem Rp.off (hp : G p = some (.lst xs0)) : ∀ {d : D} {v : V}, Rp K G d v → lfD d = true → Rp K (offH G p) d v
  | _, _, .non, _ => .non
  | _, _, .bl b, _ => .bl b
  | _, _, .int i, _ => .int i
  | _, _, .str s, _ => .str s
  | _, _, .ty n, _ => .ty n
  | _, _, .ref a, _ => .ref a
  | _, _, .tup (a := a) (ds := ds) h r, l => by
    have l2 : lfL ds = true := by rw [lfD] at l; exact l
    refine .tup ?_ (Rps.off hp r l2)
    rcases h with h | h
    · exact .inl (by rw [offH_ne (by rintro rfl; rw [hp] at h; cases h)]; exact h)
    · exact .inr h
  | _, _, .obj (a := a) (ds := ds) h k r, l => by
    have l2 : lfL (ds.map (·.2)) = true := by rw [lfD, lfF_map] at l; exact l
    exact .obj (by rw [offH_ne (by rintro rfl; rw [hp] at h; cases h)]; exact h) k (Rps.off hp r l2)
  | _, _, .lst h r, l => by rw [lfD] at l; cases l
  | _, _, .scr h r, l => by rw [lfD] at l; cases l
  | _, _, .dct h k r, l => by rw [lfD] at l; cases l
  | _, _, .dcl h k r, l => by rw [lfD] at l; cases l
  | _, _, .excN a C, l => by rw [lfD] at l; cases l
  | _, _, .excD h k r, l => by rw [lfD] at l; cases l
theorem Rps.off (hp : G p = some (.lst xs0)) : ∀ {ds : List D} {vs : List V}, Rps K G ds vs → lfL ds = true → Rps K (offH G p) ds vs
  | _, _, .nil, _ => .nil
  | _, _, .cons h r, l => by
    rw [lfL, Bool.and_eq_true] at l
    exact .cons (Rp.off hp h l.1) (Rps.off hp r l.2)
end
theorem CellOk.off {H : Hp} {a : Addr} {c : Cell} (hp : G p = some (.lst xs0)) (x : CellOk K G H a c) (l : lfC c = true) : CellOk K (offH G p) H a c := by
  cases c with
  | lst ds => obtain ⟨xs, h1, r⟩ := x; exact ⟨xs, h1, r.off hp l⟩
  | dct ds => obtain ⟨kvs, h1, k, r⟩ := x; exact ⟨kvs, h1, k, r.off hp l⟩
  | ins C ds => obtain ⟨dx, fs, h1, k, r⟩ := x; exact ⟨dx, fs, h1, k, r.off hp l⟩
end
/-- the value of w, in which the list that the name i holds is lent -/
def wThw (i : Nat) (w : WE) : WE := fun ρ μ P => match ρ.getD i none with
  | some (.ref p) => (match μ p with
    | some (.lst xs) => lfL xs = true ∧ w (ρ.set i (some (.lst xs))) (delS μ p) fun d μ' => lfD d = true ∧ (∀ a c, μ' a = some c → lfC c = true) ∧ P d (setS μ' p (.lst xs))
    | _ => False)
  | _ => w ρ μ P
theorem de_thw {X : Cx} {e : Expr} {w : WE} (i : Nat) (h : DE X e w) : DE X e (wThw i w) :=
  ⟨wkE h.p fun σ H Q ⟨ρ, μ, G, P, he, hm, hw, ht⟩ => by
    unfold wThw at hw
    split at hw
    · rename_i p hρ
      split at hw
      · rename_i ds hμ
        obtain ⟨hl, hw⟩ := hw
        obtain ⟨v, hv, hr⟩ := he.2 i _ (getD_some hρ)
        cases hr
        obtain ⟨G0, xs, hH, rr⟩ := hm.st p _ hμ
        have hm1 : Sm X.K (delS μ p) (upd G p (.lst xs)) H := by
          refine ⟨fun b o q => ?_, fun b c q => ?_⟩
          · by_cases z : b = p
            · subst z; rw [upd_same] at q; rw [hH]; exact q
            · rw [upd_ne z] at q; exact hm.ex b o q
          · by_cases z : b = p
            · subst z; rw [delS_same] at q; cases q
            · rw [delS_ne z] at q
              obtain ⟨k1, k2⟩ := hm.st b c q
              exact ⟨by rw [upd_ne z]; exact k1, k2.mono (Ex.new G0) rfl⟩
        have he2 := (he.mono (Ex.new (o := .lst xs) G0)).set i (d := .lst ds) (v := .ref p) (.lst upd_same (rr.mono (Ex.new G0)))
        rw [set_self hv] at he2
        refine ⟨_, _, _, _, he2, hm1, hw, fun d μ' v H' G' p' e' m' r' => ?_⟩
        obtain ⟨l1, l2, p'⟩ := p'
        have hp : G' p = some (.lst xs) := e' _ _ upd_same
        have eG : Ex G (offH G' p) := fun a o q => by
          have z : a ≠ p := by rintro rfl; rw [G0] at q; cases q
          rw [offH_ne z]
          exact e' _ _ (by rw [upd_ne z]; exact q)
        refine ht d _ v H' _ p' eG ⟨fun a o q => ?_, fun a c q => ?_⟩ (r'.off hp l1)
        · by_cases z : a = p
          · subst z; rw [offH_same] at q; cases q
          · rw [offH_ne z] at q; exact m'.ex a o q
        · by_cases z : a = p
          · subst z
            rw [setS_same] at q
            cases q
            exact ⟨offH_same, xs, m'.ex _ _ hp, rr.mono eG⟩
          · rw [setS_ne z] at q
            obtain ⟨k1, k2⟩ := m'.st a c q
            exact ⟨by rw [offH_ne z]; exact k1, k2.off hp (l2 a c q)⟩
      · exact hw.elim
    · exact ⟨ρ, μ, G, P, he, hm, hw, ht⟩⟩
end Dl

namespace Dl
open PySem L2
/-! ### isinstance and own classes, both answers -/
structure IsoC (K : PySem.W.Frag) (C : Addr) : Prop where
  i : C8.InsC K C
  t : ∀ n ∈ ["bool", "int", "str", "tuple", "list", "dict"], PySem.W.kitOne K (.ref C) (.type n) = some false
  r : ∀ m ∈ ["NoneType", "bool", "int", "str", "tuple", "list", "dict"], PySem.W.kitOne K (.type m) (.ref C) = some false
theorem kit_ty {K : PySem.W.Frag} {C : Addr} {n : String} (hm : PySem.W.kitMeta n = true) (su : PySem.W.subIn K (.ref C) (.type n) = some false) : PySem.W.kitOne K (.ref C) (.type n) = some false := by
  unfold PySem.W.kitOne
  rw [if_neg (show ¬ ((Value.ref C == Value.type n) = true) from Bool.false_ne_true)]
  unfold PySem.W.kitCls
  dsimp only
  rw [if_pos hm]
  exact su
theorem kit_tr {K : PySem.W.Frag} {C : Addr} {m : String} (hd : PySem.W.hasDictIn K C = true) (ty : PySem.W.typeIn K (.ref C) = some (.type "type")) (su : PySem.W.subIn K (.type m) (.ref C) = some false) : PySem.W.kitOne K (.type m) (.ref C) = some false := by
  unfold PySem.W.kitOne
  rw [if_neg (show ¬ ((Value.type m == Value.ref C) = true) from Bool.false_ne_true)]
  obtain ⟨cd, hc, _⟩ := PySem.W.any_some hd
  have e2 : ((PySem.W.clsIn K C).isSome && PySem.W.typeIn K (.ref C) == some (.type "type")) = true := by rw [hc, ty] <;> rfl
  show (if ((PySem.W.clsIn K C).isSome && PySem.W.typeIn K (.ref C) == some (.type "type")) = true then PySem.W.subIn K (.type m) (.ref C) else none) = some false
  rw [if_pos e2]
  exact su
theorem iso_mk {K : PySem.W.Frag} {C : Addr} (i : C8.InsC K C) (hd : PySem.W.hasDictIn K C = true) (ty : PySem.W.typeIn K (.ref C) = some (.type "type"))
    (t1 : PySem.W.subIn K (.ref C) (.type "bool") = some false) (t2 : PySem.W.subIn K (.ref C) (.type "int") = some false) (t3 : PySem.W.subIn K (.ref C) (.type "str") = some false) (t4 : PySem.W.subIn K (.ref C) (.type "tuple") = some false) (t5 : PySem.W.subIn K (.ref C) (.type "list") = some false) (t6 : PySem.W.subIn K (.ref C) (.type "dict") = some false)
    (r0 : PySem.W.subIn K (.type "NoneType") (.ref C) = some false) (r1 : PySem.W.subIn K (.type "bool") (.ref C) = some false) (r2 : PySem.W.subIn K (.type "int") (.ref C) = some false) (r3 : PySem.W.subIn K (.type "str") (.ref C) = some false) (r4 : PySem.W.subIn K (.type "tuple") (.ref C) = some false) (r5 : PySem.W.subIn K (.type "list") (.ref C) = some false) (r6 : PySem.W.subIn K (.type "dict") (.ref C) = some false) : IsoC K C := by
  refine ⟨i, fun n hn => ?_, fun m hm => ?_⟩
  · simp only [List.mem_cons, List.not_mem_nil, or_false] at hn
    rcases hn with rfl | rfl | rfl | rfl | rfl | rfl
    · exact kit_ty (by decide +kernel) t1
    · exact kit_ty (by decide +kernel) t2
    · exact kit_ty (by decide +kernel) t3
    · exact kit_ty (by decide +kernel) t4
    · exact kit_ty (by decide +kernel) t5
    · exact kit_ty (by decide +kernel) t6
  · simp only [List.mem_cons, List.not_mem_nil, or_false] at hm
    rcases hm with rfl | rfl | rfl | rfl | rfl | rfl | rfl
    · exact kit_tr hd ty r0
    · exact kit_tr hd ty r1
    · exact kit_tr hd ty r2
    · exact kit_tr hd ty r3
    · exact kit_tr hd ty r4
    · exact kit_tr hd ty r5
    · exact kit_tr hd ty r6
section
variable {X : Cx} {C : Addr}
theorem ins_tyx {K : PySem.W.Frag} {H : Hp} (c : C8.InsC K C) {a dx : Addr} {fs : List (Str × V)} (h : H a = some (.ins C dx fs)) : TyX K H (.ref a) (.ref C) := .base (TyOf.ins h c.cl c.ha c.hn c.htk c.hm)
/-- isinstance(x, C) -/
def oIsC2 (C : Addr) : OC := fun ds μ P => ∃ d, ds = [d, .ref C] ∧ ((∃ fs, insD μ d = some (C, fs) ∧ P (.bl true) μ) ∨ (∃ m, tyD μ d = some m ∧ P (.bl false) μ))
theorem cs_isC2 (c : IsoC X.K C) : CallS X (.builtin "isinstance") (oIsC2 C) := by
  refine ⟨_, call_isi, ?_⟩
  intro ds μ P G H vs Q h m r t
  obtain ⟨d, rfl, h⟩ := h
  cases r with | cons r1 r2 =>
  cases r2 with | cons r2 r3 =>
  cases r3
  cases r2
  rcases h with ⟨fs, h1, p⟩ | ⟨n, h1, p⟩
  · obtain ⟨a, dx, xs, rfl, q1, _⟩ := insD_ok h1 m r1
    exact ⟨_, _, _, _, _, rfl, .own C, ins_tyx c.i q1, c.i.me, t _ _ _ _ _ p (Ex.refl _) m (.bl _)⟩
  · exact ⟨_, _, _, _, _, rfl, .own C, tyD_ok h1 m r1, c.r _ (tyD_mem h1), t _ _ _ _ _ p (Ex.refl _) m (.bl _)⟩
/-- isinstance(x, T), x plain data or an instance of C -/
def oIsiO (C : Addr) : OC := fun ds μ P => oIsi ds μ P ∨ ∃ d n fs, ds = [d, .ty n] ∧ n ∈ ["bool", "int", "str", "tuple", "list", "dict"] ∧ insD μ d = some (C, fs) ∧ P (.bl false) μ
theorem cs_isiO (c : IsoC X.K C) : CallS X (.builtin "isinstance") (oIsiO C) := by
  refine ⟨_, call_isi, ?_⟩
  intro ds μ P G H vs Q h m r t
  rcases h with h | ⟨d, n, fs, rfl, hn, h1, p⟩
  · match ds, r, h with
    | [d, .ty n], .cons r1 (.cons (.ty _) .nil), h =>
      obtain ⟨hn, h⟩ := h
      split at h
      · rename_i k2 hk
        exact ⟨_, _, _, _, _, rfl, .ty n, tyD_ok hk m r1, tyTab _ _ _ hn (tyD_mem hk), t _ _ _ _ _ h (Ex.refl _) m (.bl _)⟩
      · exact h.elim
  · cases r with | cons r1 r2 =>
    cases r2 with | cons r2 r3 =>
    cases r3
    cases r2
    obtain ⟨a, dx, xs, rfl, q1, _⟩ := insD_ok h1 m r1
    exact ⟨_, _, _, _, _, rfl, .ty n, ins_tyx c.i q1, c.t n hn, t _ _ _ _ _ p (Ex.refl _) m (.bl _)⟩
theorem kitTwoO {K : PySem.W.Frag} (c : IsoC K C) : PySem.W.kitAny K (.ref C) lt2U = some false := by
  have h1 := c.t "list" (by simp)
  have h2 := c.t "tuple" (by simp)
  unfold lt2U PySem.W.kitAny
  rw [h1]
  dsimp only
  unfold PySem.W.kitAny
  rw [h2]
  rfl
/-- isinstance(x, (list, tuple)), x plain data or an instance of C -/
def oIsiSO (C : Addr) : OC := fun ds μ P => oIsiS ds μ P ∨ ∃ d fs, ds = [d, .tup lt2] ∧ insD μ d = some (C, fs) ∧ P (.bl false) μ
theorem cs_isiSO (c : IsoC X.K C) : CallS X (.builtin "isinstance") (oIsiSO C) := by
  refine ⟨_, CallR_or call_isiT call_isiK, ?_⟩
  intro ds μ P G H vs Q h m r t
  have gen : ∀ {d : D} {v : V} {tt : Value} {b : Bool}, ds = [d, .tup lt2] → TyX X.K H v tt → PySem.W.kitAny X.K tt lt2U = some b → (∀ w, vs = [v, w] ∨ True) → P (.bl b) μ → (∃ w, vs = [v, w] ∧ Rp X.K G (.tup lt2) w) →
      (rIsiT X.K vs H Q ∨ rIsiK X.K vs H Q) := by
    intro d v tt b e ty kk _ p hv
    obtain ⟨w, rfl, rw'⟩ := hv
    cases rw' with | tup hx r2 =>
    have hxs := lt2_ok r2
    subst hxs
    rcases hx with hx | ⟨o, its, k, h1, h2, h3, h4, h5⟩
    · exact .inl ⟨_, _, lt2V, _, lt2U, _, rfl, m.ex _ _ hx, .cons (.ty _) (.cons (.ty _) .nil), ty, kk, t _ _ _ _ _ p (Ex.refl _) m (.bl _)⟩
    · have hus := lt2_vals h5
      obtain ⟨oc, od, dat, sl⟩ := o
      have e1 : oc = .type "tuple" := h2
      have e2 : dat = .seq its k := h3
      subst e1
      subst e2
      have e3 : its = lt2U.toArray := by rw [← hus, Array.toArray_toList]
      rw [e3] at h1
      exact .inr ⟨_, _, od, lt2U, k, sl, _, _, rfl, h1, ty, kk, t _ _ _ _ _ p (Ex.refl _) m (.bl _)⟩
  rcases h with ⟨d, ts, rfl, rfl, n, hn, p⟩ | ⟨d, fs, rfl, h1, p⟩
  · cases r with | cons r1 r2 =>
    cases r2 with | cons r2 r3 =>
    cases r3
    exact gen rfl (tyD_ok hn m r1) (kitTwo _ _ (tyD_mem hn)) (fun _ => .inr trivial) p ⟨_, rfl, r2⟩
  · cases r with | cons r1 r2 =>
    cases r2 with | cons r2 r3 =>
    cases r3
    obtain ⟨a, dx, xs, rfl, q1, _⟩ := insD_ok h1 m r1
    exact gen rfl (ins_tyx c.i q1) (kitTwoO c) (fun _ => .inr trivial) p ⟨_, rfl, r2⟩
end
end Dl

namespace Dl
open PySem L2
/-! ### a or b, a and b by the values' truth -/
section
variable {X : Cx} {a b : Expr} {rest : List Expr} {pos : Pos} {wa wb : WE}
def wOrT (wa wb : WE) : WE := fun ρ μ P => wa ρ μ fun d μ1 => match truD μ1 d with
  | some true => okLen d ∧ P d μ1
  | some false => okLen d ∧ wb ρ μ1 P
  | none => False
def wAndT (wa wb : WE) : WE := fun ρ μ P => wa ρ μ fun d μ1 => match truD μ1 d with
  | some true => okLen d ∧ wb ρ μ1 P
  | some false => okLen d ∧ P d μ1
  | none => False
theorem de_orT (ha : DE X a wa) (hb : DE X (.BoolOp .Or (b :: rest) pos) wb) : DE X (.BoolOp .Or (a :: b :: rest) pos) (wOrT wa wb) :=
  ⟨wkE (pe_orT ha.p hb.p) fun σ H Q ⟨ρ, μ, G, P, he, hm, hw, ht⟩ => ⟨ρ, μ, G, _, he, hm, hw, fun d μ1 v H1 G1 p e m r => by
    cases q : truD μ1 d with
    | none => rw [q] at p; exact p.elim
    | some k =>
      rw [q] at p
      cases k with
      | true => exact ⟨true, tru_of q p.1 m r, by rw [if_pos rfl]; exact ht _ _ _ _ _ p.2 e m r⟩
      | false => exact ⟨false, tru_of q p.1 m r, by rw [if_neg Bool.false_ne_true]; exact ⟨ρ, μ1, G1, P, he.mono e, m, p.2, ht.mono e⟩⟩⟩⟩
theorem de_andT (ha : DE X a wa) (hb : DE X (.BoolOp .And (b :: rest) pos) wb) : DE X (.BoolOp .And (a :: b :: rest) pos) (wAndT wa wb) :=
  ⟨wkE (pe_andT ha.p hb.p) fun σ H Q ⟨ρ, μ, G, P, he, hm, hw, ht⟩ => ⟨ρ, μ, G, _, he, hm, hw, fun d μ1 v H1 G1 p e m r => by
    cases q : truD μ1 d with
    | none => rw [q] at p; exact p.elim
    | some k =>
      rw [q] at p
      cases k with
      | true => exact ⟨true, tru_of q p.1 m r, by rw [if_pos rfl]; exact ⟨ρ, μ1, G1, P, he.mono e, m, p.2, ht.mono e⟩⟩
      | false => exact ⟨false, tru_of q p.1 m r, by rw [if_neg Bool.false_ne_true]; exact ht _ _ _ _ _ p.2 e m r⟩⟩⟩
end
end Dl

namespace Dl
open PySem L2
/-! ### a list that may be changed is lent, what is not needed of the store forgotten -/
def wThv (i : Nat) (w : WE) : WE := fun ρ μ P => match ρ.getD i none with
  | some (.ref p) => (match μ p with
    | some (.lst xs) => ∃ μ0, Sub μ0 (delS μ p) ∧ w (ρ.set i (some (.lst xs))) μ0 fun d μ' => lfD d = true ∧ (∀ a c, μ' a = some c → lfC c = true) ∧ P d (setS μ' p (.lst xs))
    | _ => False)
  | _ => w ρ μ P
theorem de_thv {X : Cx} {e : Expr} {w : WE} (i : Nat) (h : DE X e w) : DE X e (wThv i w) :=
  ⟨wkE h.p fun σ H Q ⟨ρ, μ, G, P, he, hm, hw, ht⟩ => by
    unfold wThv at hw
    split at hw
    · rename_i p hρ
      split at hw
      · rename_i ds hμ
        obtain ⟨μ0, hsub, hw⟩ := hw
        obtain ⟨v, hv, hr⟩ := he.2 i _ (getD_some hρ)
        cases hr
        obtain ⟨G0, xs, hH, rr⟩ := hm.st p _ hμ
        have hm1 : Sm X.K (delS μ p) (upd G p (.lst xs)) H := by
          refine ⟨fun b o q => ?_, fun b c q => ?_⟩
          · by_cases z : b = p
            · subst z; rw [upd_same] at q; rw [hH]; exact q
            · rw [upd_ne z] at q; exact hm.ex b o q
          · by_cases z : b = p
            · subst z; rw [delS_same] at q; cases q
            · rw [delS_ne z] at q
              obtain ⟨k1, k2⟩ := hm.st b c q
              exact ⟨by rw [upd_ne z]; exact k1, k2.mono (Ex.new G0) rfl⟩
        have he2 := (he.mono (Ex.new (o := .lst xs) G0)).set i (d := .lst ds) (v := .ref p) (.lst upd_same (rr.mono (Ex.new G0)))
        rw [set_self hv] at he2
        refine ⟨_, _, _, _, he2, hm1.sub hsub, hw, fun d μ' v H' G' p' e' m' r' => ?_⟩
        obtain ⟨l1, l2, p'⟩ := p'
        have hp : G' p = some (.lst xs) := e' _ _ upd_same
        have eG : Ex G (offH G' p) := fun a o q => by
          have z : a ≠ p := by rintro rfl; rw [G0] at q; cases q
          rw [offH_ne z]
          exact e' _ _ (by rw [upd_ne z]; exact q)
        refine ht d _ v H' _ p' eG ⟨fun a o q => ?_, fun a c q => ?_⟩ (r'.off hp l1)
        · by_cases z : a = p
          · subst z; rw [offH_same] at q; cases q
          · rw [offH_ne z] at q; exact m'.ex a o q
        · by_cases z : a = p
          · subst z
            rw [setS_same] at q
            cases q
            exact ⟨offH_same, xs, m'.ex _ _ hp, rr.mono eG⟩
          · rw [setS_ne z] at q
            obtain ⟨k1, k2⟩ := m'.st a c q
            exact ⟨by rw [offH_ne z]; exact k1, k2.off hp (l2 a c q)⟩
      · exact hw.elim
    · exact ⟨ρ, μ, G, P, he, hm, hw, ht⟩⟩
end Dl

namespace Dl
open PySem L2
/-! ### len(set(xs)), xs a list of ints, twins among them or not -/
def rLenS : List V → Hp → VK → Prop := fun vs H Q => ∃ (a : Addr) (S : Int → Bool) (n : Nat), vs = [V.ref a] ∧ H a = some (.set S n) ∧ n < 100000 ∧ Q (.int (n : Nat)) H
theorem cr_lenS {X : Cx} : CallR X (.builtin "len") rLenS := by
  intro pins s σ H xs us Q I r h
  obtain ⟨a, S, n, rfl, ha, hz, q⟩ := h
  rw [Vals.ref1 r]
  have hS : s.heap.SetOf (intKind X.prog X.w) a S n := I.hok a _ ha
  obtain ⟨o, es, ep, t, ho, hex, hd, _, _, _, hf, hn⟩ := hS
  exact call_len_set ho hex hd hf (by rw [hn]; omega) ⟨.int (n : Nat), H, I.tok _, ⟨_, by rw [hn]⟩, q⟩
section
variable {X : Cx} {a : Expr} {wa : WE}
def lenSB (P : D → Store → Prop) (ds : List D) (μ : Store) : Prop := match ds with
  | [x] => ∃ xs ns, seqR μ x = some xs ∧ intsOf xs = some ns ∧ ns.length < 4000 ∧ ∀ n : Nat, n ≤ ns.length → (n = ns.length ↔ ns.Nodup) → P (.int (n : Nat)) μ
  | _ => False
def wLenSet (wa : WE) : WE := fun ρ μ P => wa ρ μ fun x μ1 => lenSB P [x] μ1
theorem dd_len : ∀ (L ns : List Int), L.Nodup → (∀ k, k ∈ L ↔ k ∈ ns) → L.length ≤ ns.length ∧ (L.length = ns.length ↔ ns.Nodup) := by
  intro L ns hL hm
  have h1 := int_len hL fun x hx => (hm x).mp hx
  refine ⟨h1, fun e => ?_, fun hn => Nat.le_antisymm h1 (int_len hn fun x hx => (hm x).mpr hx)⟩
  -- equal lengths: no twins
  have gen : ∀ (m : List Int) (L : List Int), L.Nodup → (∀ k, k ∈ L ↔ k ∈ m) → m.length ≤ L.length → m.Nodup := by
    intro m
    induction m with
    | nil => intro L _ _ _; exact List.nodup_nil
    | cons x m ih =>
      intro L hL hk hl
      rw [List.nodup_cons]
      have hx : x ∈ L := (hk x).mpr List.mem_cons_self
      have hxm : x ∉ m := by
        intro q
        have : L.length ≤ m.length := int_len hL fun y hy => by
          rcases List.mem_cons.mp ((hk y).mp hy) with rfl | h
          · exact q
          · exact h
        rw [List.length_cons] at hl
        omega
      refine ⟨hxm, ih (L.erase x) (hL.erase x) (fun k => ?_) ?_⟩
      · rw [hL.mem_erase_iff, hk k, List.mem_cons]
        constructor
        · rintro ⟨h1, h2 | h2⟩
          · exact absurd h2 h1
          · exact h2
        · intro h
          exact ⟨fun e => hxm (e ▸ h), .inr h⟩
      · rw [List.length_erase_of_mem hx]
        rw [List.length_cons] at hl
        omega
  exact gen ns L hL hm (by omega)
theorem llenS : ∀ σ H Q, LE X.K (wLenSet wa) σ H Q → tCB rLenS (tCons (tCB (rSetI X.K) (LA X.K (wACons wa wANil))) tNil) σ H Q := fun σ H Q ⟨ρ, μ, G, P, he, hm, hw, ht⟩ => by
  show LA X.K (wACons wa wANil) σ H _
  refine ⟨ρ, μ, G, lenSB P, he, hm, hw, fun ds μ1 vs H1 G1 p1 e1 m1 r1 => ?_⟩
  match ds, r1, p1 with
  | [x], .cons rx .nil, p1 =>
    obtain ⟨xs, ns, h1, h2, h3, h4⟩ := p1
    obtain ⟨l, ws, rfl, hl, rw1⟩ := seqR_ok h1 m1 rx
    have e := intsOf_rps h2 rw1
    subst e
    refine ⟨l, ns, rfl, hl, h3, fun p S L hp hLn hLm hS => ?_⟩
    obtain ⟨m2, e2⟩ := m1.frozen hp (.set S L.length)
    obtain ⟨k1, k2⟩ := dd_len L ns hLn hLm
    exact ⟨p, S, L.length, rfl, upd_same, by omega, ht _ _ _ _ _ (h4 _ k1 k2) (e1.trans e2) m2 (.int _)⟩
theorem de_lenSet {p p1 p2 q : Pos} (hc : X.calm = true) (hgl : Gl X "len") (hml : X.mg "len" = none) (hvl : bootBuiltins "len" = some (.builtin "len")) (hg : Gl X "set") (hmm : X.mg "set" = none) (ha : DE X a wa) (na : starEach [a] X.env = (false, eval a X.env) :: starEach [] X.env := by rfl) :
    DE X (.Call (.Name "len" p1) [.Call (.Name "set" p2) [a] [] q] [] p) (wLenSet wa) :=
  ⟨wkE (pe_callB cr_lenS hgl hml hvl (pa_cons (pe_callTy (cr_setI hc) hg hmm PyProof.Rows.boot_set (da_cons ha da_nil na).p (by decide) (by decide) na rfl) pa_nil)) llenS⟩
end
end Dl

namespace L2
open PySem PySem.Spec PyProof.Rows
/-! ### zip of three lists -/
def Itz3L (K : PySem.W.Frag) (a b c : Addr) (na nb nc : Nat) : It :=
  ⟨fun i H => ∃ (xs ys zs : List V) (x y z : V), SqL K H a xs ∧ SqL K H b ys ∧ SqL K H c zs ∧ (xs.length = na ∧ ys.length = nb ∧ zs.length = nc) ∧ xs[i]? = some x ∧ ys[i]? = some y ∧ zs[i]? = some z,
    fun i H v H' => ∃ T x y z, v = .ref T ∧ H T = none ∧ H' = upd H T (.tup [x, y, z]) ∧ (∀ xs, SqL K H a xs → xs[i]? = some x) ∧ (∀ ys, SqL K H b ys → ys[i]? = some y) ∧ ∀ zs, SqL K H c zs → zs[i]? = some z,
    fun i H => ∃ xs ys zs : List V, SqL K H a xs ∧ SqL K H b ys ∧ SqL K H c zs ∧ (xs.length = na ∧ ys.length = nb ∧ zs.length = nc) ∧ (na ≤ i ∨ nb ≤ i ∨ nc ≤ i)⟩
theorem turn_zip3L {P : Program} {w : World} {K : PySem.W.Frag} {elts : List Expr} {kk : Nat} {tpos : Pos} {a b c z TI TO i1 i2 i3 : Addr} {na nb nc : Nat} (D : ZipSep3 z TI TO i1 i2 i3 [i1, a] [i2, b] [i3, c]) (n1 : a ≠ i1) (n2 : b ≠ i2) (n3 : c ≠ i3) :
    Turn P w K (.Tuple elts kk tpos) (Itz3L K a b c na nb nc) [z, TI, TO, i1, i2, i3] z (fun i h => IsZip h z TI TO .none ∧ IsTupOf3 h TI (.ref i1) (.ref i2) (.ref i3) ∧ (∃ x y u, IsTupOf3 h TO x y u) ∧ h.IsListIter i1 a i ∧ h.IsListIter i2 b i ∧ h.IsListIter i3 c i ∧ (i ≤ na ∧ i ≤ nb ∧ i ≤ nc)) where
  mem := by simp
  obj := fun i h st q hq => by
    obtain ⟨hz, hTI, ⟨x, y, u, hTO⟩, ⟨o1, e1, _, d1⟩, ⟨o2, e2, _, d2⟩, ⟨o3, e3, _, d3⟩, _⟩ := st
    have e' : q = z ∨ q = TI ∨ q = TO ∨ q = i1 ∨ q = i2 ∨ q = i3 := by simpa using hq
    rcases e' with r | r | r | r | r | r
    · rw [r]; exact ⟨_, hz, fun v q => nomatch q⟩
    · rw [r]; exact ⟨_, hTI, fun v q => nomatch q⟩
    · rw [r]; exact ⟨_, hTO, fun v q => nomatch q⟩
    · rw [r]; exact ⟨o1, e1, fun v q => by rw [d1] at q; cases q⟩
    · rw [r]; exact ⟨o2, e2, fun v q => by rw [d2] at q; cases q⟩
    · rw [r]; exact ⟨o3, e3, fun v q => by rw [d3] at q; cases q⟩
  keep := fun i h h' st k => by
    obtain ⟨hz, hTI, ⟨x, y, u, hTO⟩, h1, h2, h3, hn⟩ := st
    exact ⟨k z (by simp) _ hz, k TI (by simp) _ hTI, ⟨x, y, u, k TO (by simp) _ hTO⟩, h1.at fun o q => k i1 (by simp) o q, h2.at fun o q => k i2 (by simp) o q, h3.at fun o q => k i3 (by simp) o q, hn⟩
  item := by
    intro X hP hw hK hc i pins s σ H E I hf st hg
    subst hP hw hK
    obtain ⟨hz, hTI, ⟨x0, y0, u0, hTO⟩, h1, h2, h3, hn⟩ := st
    obtain ⟨xs, ys, zs, x, y, u, hqx, hqy, hqz, hln, hx, hy, hu⟩ := hg
    obtain ⟨its, rv, p, _⟩ := I.list hqx
    obtain ⟨its2, rv2, p2, _⟩ := I.list hqy
    obtain ⟨its3, rv3, p3, _⟩ := I.list hqz
    obtain ⟨v1, hv1, r1⟩ := rv.get hx
    obtain ⟨v2, hv2, r2⟩ := rv2.get hy
    obtain ⟨v3, hv3, r3⟩ := rv3.get hu
    have hzl : z < s.heap.objs.size := Heap.lt_size hz
    have g1 : its.toArray[i]? = some v1 := by simpa using hv1
    have g2 : its2.toArray[i]? = some v2 := by simpa using hv2
    have g3 : its3.toArray[i]? = some v3 := by simpa using hv3
    refine wpAny_pyNext_zipD3_item D (Draws.list (A := X.A.in1) (I.ok.hd hc) i1 a n1 its.toArray) (Draws.list (A := X.A.in1) (I.ok.hd hc) i2 b n2 its2.toArray) (Draws.list (A := X.A.in1) (I.ok.hd hc) i3 c n3 its3.toArray) hz hTI hTO ⟨h1, p.isList⟩ ⟨h2, p2.isList⟩ ⟨h3, p3.isList⟩ (Array.getElem?_eq_some_iff.mp g1).1 (Array.getElem?_eq_some_iff.mp g2).1 (Array.getElem?_eq_some_iff.mp g3).1 fun w1 w2 w3 h' tk y1 y2 y3 z' TO' b1 b2 b3 hT hsz hk => ?_
    obtain rfl : w1 = v1 := Option.some.inj (y1.symm.trans g1)
    obtain rfl : w2 = v2 := Option.some.inj (y2.symm.trans g2)
    obtain rfl : w3 = v3 := Option.some.inj (y3.symm.trans g3)
    refine ⟨_, rfl, wpAny_letOwnedTupleGo_zip (s := { s with heap := h', toks := tk }) z' fun h'' z'' sb => ?_⟩
    have hT2 : h''.get? s.heap.objs.size = some { cls := .type "tuple", data := .seq #[w1, w2, w3] } := (sb.2 _ (Nat.ne_of_gt hzl)).trans hT
    have new : ObjOk X.prog X.w (upd H s.heap.objs.size (.tup [x, y, u])) h'' s.heap.objs.size (.tup [x, y, u]) :=
      ⟨by show 3 ≤ sizeLine; decide, [w1, w2, w3], .cons r1 (.cons r2 (.cons r3 .nil)), ⟨_, hT2, rfl, _, rfl⟩⟩
    have I1 : Inv X pins σ (upd H s.heap.objs.size (.tup [x, y, u])) { s with heap := h'', toks := tk } :=
      I.turnedNew (t' := tk) (ch := [z, TI, TO, i1, i2, i3]) (fun q o hb r => (sb.2 q (fun q' => hb (by simp [q']))).trans (hk q o (fun q' => hb (by simp [q'])) (fun q' => hb (by simp [q'])) (fun q' => hb (by simp [q'])) (fun q' => hb (by simp [q'])) (fun q' => hb (by simp [q'])) r)) hf (Nat.le_refl _) new
    refine ⟨.ref s.heap.objs.size, _, I1, rfl, ⟨_, x, y, u, rfl, I.hok.fresh (Nat.le_refl _), rfl, fun l hl => by rw [I.list_inj hl hqx]; exact hx, fun l hl => by rw [I.list_inj hl hqy]; exact hy, fun l hl => by rw [I.list_inj hl hqz]; exact hu⟩, ⟨z'', ?_, ⟨w1, w2, w3, ?_⟩, ?_, ?_, ?_, ?_⟩, fun q hqm => ?_⟩
    · exact (sb.2 _ D.TIz).trans (hk _ _ D.TIz D.TITO D.TIi1 D.TIi2 D.TIi3 hTI)
    · exact (sb.2 _ D.TOz).trans TO'
    · exact b1.1.at fun o q => (sb.2 _ (fun e => D.zf1 (by simp [e]))).trans q
    · exact b2.1.at fun o q => (sb.2 _ (fun e => D.zf2 (by simp [e]))).trans q
    · exact b3.1.at fun o q => (sb.2 _ (fun e => D.zf3 (by simp [e]))).trans q
    · have q1 := (List.getElem?_eq_some_iff.mp hx).1
      have q2 := (List.getElem?_eq_some_iff.mp hy).1
      have q3 := (List.getElem?_eq_some_iff.mp hu).1
      exact ⟨by omega, by omega, by omega⟩
    · have hlt : q < s.heap.objs.size := by
        have e' : q = z ∨ q = TI ∨ q = TO ∨ q = i1 ∨ q = i2 ∨ q = i3 := by simpa using hqm
        rcases e' with r | r | r | r | r | r
        · rw [r]; exact hzl
        · rw [r]; exact Heap.lt_size hTI
        · rw [r]; exact Heap.lt_size hTO
        · rw [r]; obtain ⟨_, e1, _⟩ := h1; exact Heap.lt_size e1
        · rw [r]; obtain ⟨_, e2, _⟩ := h2; exact Heap.lt_size e2
        · rw [r]; obtain ⟨_, e3, _⟩ := h3; exact Heap.lt_size e3
      rw [upd_ne (Nat.ne_of_lt hlt)]
      exact (hf q hqm).1
  done := by
    intro X hP hw hK hc i pins s σ H E I hf st hg
    subst hP hw hK
    obtain ⟨hz, hTI, ⟨x0, y0, u0, hTO⟩, h1, h2, h3, hn⟩ := st
    obtain ⟨xs, ys, zs, hqx, hqy, hqz, ⟨k1, k2, k3⟩, hend⟩ := hg
    obtain ⟨its, rv, p, _⟩ := I.list hqx
    obtain ⟨its2, rv2, p2, _⟩ := I.list hqy
    obtain ⟨its3, rv3, p3, _⟩ := I.list hqz
    have l1 := rv.length
    have l2 := rv2.length
    have l3 := rv3.length
    have z1 : its.toArray.size = its.length := by simp
    have z2 : its2.toArray.size = its2.length := by simp
    have z3 : its3.toArray.size = its3.length := by simp
    exact wpAny_pyNext_zipD3_end D (Draws.list (A := X.A.in1) (I.ok.hd hc) i1 a n1 its.toArray) (Draws.list (A := X.A.in1) (I.ok.hd hc) i2 b n2 its2.toArray) (Draws.list (A := X.A.in1) (I.ok.hd hc) i3 c n3 its3.toArray) hz hTI hTO ⟨h1, p.isList⟩ ⟨h2, p2.isList⟩ ⟨h3, p3.isList⟩ (by omega) (by omega) (by omega) (by omega) fun h' tk hk => ⟨rfl, I.turnedL (t' := tk) (ch := [z, TI, TO, i1, i2, i3]) (fun q o hb r =>
      hk q o (fun q' => hb (by simp [q'])) (fun q' => hb (by simp [q'])) (fun q' => hb (by simp [q'])) (fun q' => hb (by simp [q'])) (fun q' => hb (by simp [q'])) r) hf⟩
  self := fun A i s Q E st h => wpAny_pyIter_zip st.1 h
end L2
namespace L2
open PySem PySem.Spec PyProof.Rows
def iZip3L (K : PySem.W.Frag) (ta : TA) : TI := fun σ H R => ta σ H fun vs H1 => ∃ a b c xs ys zs, vs = [.ref a, .ref b, .ref c] ∧ SqL K H1 a xs ∧ SqL K H1 b ys ∧ SqL K H1 c zs ∧ R (Itz3L K a b c xs.length ys.length zs.length) H1
theorem sep_3L (n a b c : Nat) (ha : a < n) (hb : b < n) (hc : c < n) : ZipSep3 (n + 5) (n + 3) (n + 4) n (n + 1) (n + 2) [n, a] [n + 1, b] [n + 2, c] := by
  constructor <;> first | (show (_ : Nat) ≠ _; omega) | (simp; done) | (simp; refine Nat.ne_of_gt ?_; omega)
theorem pi_zip3L {X : Cx} {e e2 e3 : Expr} {ta : TA} {p pos tpos : Pos} {elts : List Expr} {kk : Nat} (hg : Gl X "zip") (hm : X.mg "zip" = none) (ha : PA X [e, e2, e3] ta)
    (hs : starEach [e, e2, e3] X.env = (false, eval e X.env) :: starEach [e2, e3] X.env := by rfl) (hpl : (backTo pos (starEach [e2, e3] X.env)).any (·.1) = false := by rfl) :
    PI X (.Tuple elts kk tpos) (.Call (.Name "zip" p) [e, e2, e3] [] pos) (iZip3L X.K ta) := by
  refine ⟨fun pins s σ H R I h => ?_⟩
  refine Call_ (ld_blt I hg hm PyProof.Rows.boot_zip (PyProof.Rows.callWith_type1 (thn (ha.run pos pins s σ H _ I h) fun us s1 ⟨vs, H1, I1, r1, q1⟩ => ?_) hs hpl))
  obtain ⟨a, b, c, xs, ys, zs, ex, hqx, hqy, hqz, q⟩ := q1
  subst ex
  cases r1 with
  | cons r rr =>
    cases rr with
    | cons r' rr =>
      cases rr with
      | cons r'' rr =>
        cases rr
        cases r
        cases r'
        cases r''
        obtain ⟨its, rv, p1, _⟩ := I1.list hqx
        obtain ⟨its2, rv2, p2, _⟩ := I1.list hqy
        obtain ⟨its3, rv3, p3, _⟩ := I1.list hqz
        have la : a < s1.heap.objs.size := p1.lt
        have lb : b < s1.heap.objs.size := p2.lt
        have lc : c < s1.heap.objs.size := p3.lt
        refine zip_begins3 (begins_list a its.toArray) (begins_list b its2.toArray) (begins_list c its3.toArray) p1.isList p2.isList p3.isList fun h' hz hTI hTO h1 h2 h3 hsz hk => wpAny_pyIter_zip hz ?_
        have I2 : Inv X pins σ H1 { s1 with heap := h' } := I1.kept (t' := s1.toks) hk
        refine ⟨s1.heap.objs.size + 5, [s1.heap.objs.size + 5, s1.heap.objs.size + 3, s1.heap.objs.size + 4, s1.heap.objs.size, s1.heap.objs.size + 1, s1.heap.objs.size + 2], _, _, H1, rfl, I2, turn_zip3L (sep_3L s1.heap.objs.size a b c la lb lc) (Nat.ne_of_lt la) (Nat.ne_of_lt (Nat.lt_succ_of_lt lb)) (Nat.ne_of_lt (Nat.lt_succ_of_lt (Nat.lt_succ_of_lt lc))), ⟨hz, hTI, ⟨_, _, _, hTO⟩, ⟨_, h1, rfl, rfl⟩, ⟨_, h2, rfl, rfl⟩, ⟨_, h3, rfl, rfl⟩, Nat.zero_le _, Nat.zero_le _, Nat.zero_le _⟩, fun d hdm => ?_, q⟩
        have e' : d = s1.heap.objs.size + 5 ∨ d = s1.heap.objs.size + 3 ∨ d = s1.heap.objs.size + 4 ∨ d = s1.heap.objs.size ∨ d = s1.heap.objs.size + 1 ∨ d = s1.heap.objs.size + 2 := by simpa using hdm
        have hle : s1.heap.objs.size ≤ d := by
          rcases e' with z | z | z | z | z | z <;> rw [z] <;> first | exact Nat.le_add_right _ _ | exact Nat.le_refl _
        exact I1.fpOk hle (I1.hok.fresh hle)
end L2
namespace Dl
open PySem L2
section
variable {X : Cx}
def zip3L (xs ys zs : List D) : List D := (List.range (min xs.length (min ys.length zs.length))).map fun i => .tup [xs.getD i .non, ys.getD i .non, zs.getD i .non]
theorem zip3L_length {xs ys zs : List D} : (zip3L xs ys zs).length = min xs.length (min ys.length zs.length) := by
  unfold zip3L
  rw [List.length_map, List.length_range]
theorem zip3L_get {xs ys zs : List D} {i : Nat} {x y z : D} (hx : xs[i]? = some x) (hy : ys[i]? = some y) (hz : zs[i]? = some z) : (zip3L xs ys zs)[i]? = some (.tup [x, y, z]) := by
  unfold zip3L
  have a := (List.getElem?_eq_some_iff.mp hx).1
  have b := (List.getElem?_eq_some_iff.mp hy).1
  have c := (List.getElem?_eq_some_iff.mp hz).1
  rw [List.getElem?_map, List.getElem?_range (by omega)]
  simp [List.getD_eq_getElem?_getD, hx, hy, hz]
theorem walk_z3L {K : PySem.W.Frag} {G : Hp} {a b c : Addr} {xs ys zs : List V} {ds es fs : List D} (h : ∀ H, Ex G H → SqL K H a xs) (h2 : ∀ H, Ex G H → SqL K H b ys) (h3 : ∀ H, Ex G H → SqL K H c zs) (r : Rps K G ds xs) (r2 : Rps K G es ys) (r3 : Rps K G fs zs) : Walk K G (Itz3L K a b c xs.length ys.length zs.length) (zip3L ds es fs) := fun i H G2 μ e m => by
  have sq := h H (e.trans m.ex)
  have sq2 := h2 H (e.trans m.ex)
  have sq3 := h3 H (e.trans m.ex)
  have l1 := r.length
  have l2 := r2.length
  have l3 := r3.length
  rw [zip3L_length]
  refine ⟨fun hi => ⟨⟨xs, ys, zs, xs[i]'(by omega), ys[i]'(by omega), zs[i]'(by omega), sq, sq2, sq3, ⟨rfl, rfl, rfl⟩, List.getElem?_eq_getElem _, List.getElem?_eq_getElem _, List.getElem?_eq_getElem _⟩, fun x H' y => ?_⟩, fun hi => ⟨xs, ys, zs, sq, sq2, sq3, ⟨rfl, rfl, rfl⟩, by omega⟩⟩
  obtain ⟨T, u, v, w, rfl, hT, rfl, hu, hv, hw⟩ := y
  obtain ⟨d, hd, rd⟩ := r.getR (hu xs sq)
  obtain ⟨d2, hd2, rd2⟩ := r2.getR (hv ys sq2)
  obtain ⟨d3, hd3, rd3⟩ := r3.getR (hw zs sq3)
  obtain ⟨G3, e3, m3, r3⟩ := zip_trip m hT (rd.mono e) (rd2.mono e) (rd3.mono e)
  exact ⟨G3, _, zip3L_get hd hd2 hd3, e3, m3, r3⟩
def wiZip3L (wa : WA) : WI := fun ρ μ P => wa ρ μ fun ds μ1 => match ds with
  | [.lst xs, .lst ys, .lst zs] => P (zip3L xs ys zs) μ1
  | _ => False
theorem di_zip3L {e e2 e3 : Expr} {wa : WA} {p pos tpos : Pos} {elts : List Expr} {kk : Nat} (hg : Gl X "zip") (hm : X.mg "zip" = none) (ha : DA X [e, e2, e3] wa)
    (hs : starEach [e, e2, e3] X.env = (false, eval e X.env) :: starEach [e2, e3] X.env := by rfl) (hpl : (backTo pos (starEach [e2, e3] X.env)).any (·.1) = false := by rfl) :
    DI X (.Tuple elts kk tpos) (.Call (.Name "zip" p) [e, e2, e3] [] pos) (wiZip3L wa) :=
  ⟨wkI (pi_zip3L hg hm ha.p hs hpl) fun σ H R ⟨ρ, μ, G, P, he, hm, hw, ht⟩ => ⟨ρ, μ, G, _, he, hm, hw, fun ds μ1 vs H1 G1 p e m r => by
    split at p
    · cases r with | cons r1 r2 =>
      cases r2 with | cons r2 r3 =>
      cases r3 with | cons r3 r4 =>
      cases r4
      cases r1 with | lst h1 r1 =>
      cases r2 with | lst h2 r2 =>
      cases r3 with | lst h3 r3 =>
      exact ⟨_, _, _, _, _, _, rfl, lst_sq m.ex h1, lst_sq m.ex h2, lst_sq m.ex h3, ht _ _ _ _ _ p e m (walk_z3L (fun H' e' => lst_sq e' h1) (fun H' e' => lst_sq e' h2) (fun H' e' => lst_sq e' h3) r1 r2 r3)⟩
    · exact p.elim⟩⟩
end
end Dl

namespace L2
open PySem PySem.Spec PyProof.Rows
/-! ### try: .. except A as m: .. except B as n: ..: clauses with names, looked at in turn -/
abbrev Cl := Value × Nat × (Addr → Value → Option Addr → TS)
/-- the ends of a clause's suite: its name is gone behind it -/
def Ends.without (D : Ends) (i : Nat) : Ends := ⟨fun σ H => D.nx (σ.set i none) H, D.rt, fun σ H => D.bk (σ.set i none) H, fun σ H => D.ct (σ.set i none) H⟩
def clW (K : PySem.W.Frag) (D : Ends) : List Cl → WX
  | [] => fun _ _ _ _ => False
  | (c, i, ts) :: r => fun cls d σ H => (PySem.W.exmOne K cls c = some true ∧ ∀ a, H a = none → ts a cls d (D.without i) (σ.set i (some (.ref a))) H) ∨ (PySem.W.exmOne K cls c = some false ∧ clW K D r cls d σ H)
inductive Cls2 (X : Cx) : List ExceptHandler → List Cl → Prop
  | nil : Cls2 X [] []
  | cons {x n : Str} {c : Value} {i : Nat} {ts : Addr → Value → Option Addr → TS} {st : Stmt} {sts : List Stmt} {p q : Pos} {hds : List ExceptHandler} {l : List Cl} (nm : Names X x c) (sl : X.N[i]? = some n) (lo : X.env.kindOf n = some .local)
      (su : ∀ (a : Addr) (oe : Obj) (cls : Value) (d : Option Addr) (pn : List (Addr × Obj)), Zc cls d oe → (∃ vs, oe.data = .fields vs) → PSs (X.suite a ((a, oe) :: pn)) (st :: sts) (ts a cls d)) (r : Cls2 X hds l) :
      Cls2 X (.ExceptHandler (some (.Name x p)) (some n) (st :: sts) q :: hds) ((c, i, ts) :: l)
section
variable {X : Cx} {pins : List (Addr × Obj)} {D : Ends}
/-- the state in which clauses are looked at: the exception a of class cls (its dict d) in flight, J the state without it -/
structure Fly (X : Cx) (pins : List (Addr × Obj)) (B : Heap) (sI : Shared) (a : Addr) (cls : Value) (d : Option Addr) (σ : St) (H : Hp) (s : Shared) : Prop where
  ok : X.Ok
  inv : Inv X pins σ H sI
  near : ∀ b o, sI.heap.get? b = some o → b ∉ frs X.stack → B.get? b = some o
  up : sI.heap.UpToSlots s.heap
  fly : HandSPX.FlyingZ B (X.env :: X.outer) a (Zc cls d) s.heap
  free : H a = none
  os : s.os = sI.os
  bare : AllBare s.gens
  loc : a ≠ X.env.locals
  nfs : a ∉ X.fs
theorem Fly.there {B : Heap} {sI s : Shared} {a : Addr} {cls : Value} {d : Option Addr} {σ : St} {H : Hp} (F : Fly X pins B sI a cls d σ H s) :
    ∃ oe vs, s.heap.get? a = some oe ∧ Zc cls d oe ∧ oe.data = .fields vs ∧ Inv (X.suite a ((a, oe) :: (X.pn ++ pins))) [] σ H s := by
  obtain ⟨oe, vs, g, z, dd⟩ := F.fly.there
  have J := F.inv.landed (s' := s) F.near F.fly.1 F.up F.os F.bare
  exact ⟨oe, vs, g, z, dd, J.suite g dd F.free F.loc F.nfs⟩
theorem fly_named (hN : X.N.Nodup) {B : Heap} {sI s : Shared} {a : Addr} {cls : Value} {d : Option Addr} {σ : St} {H : Hp} (F : Fly X pins B sI a cls d σ H s) {hds : List ExceptHandler} {l : List Cl} (C : Cls2 X hds l) :
    clW X.K D l cls d σ H → wpAny (model X.prog X.w) X.A (handleBy (.ref a) X.env hds) (SP X pins D) X.xe s := by
  induction C with
  | nil => intro w; exact w.elim
  | @cons x n c i ts st sts p q hds' l' nm sl lo su r ih =>
    intro w
    obtain ⟨oe, vs, g, z, dd, S⟩ := F.there
    have kin : X.K.In s.heap := S.kIn
    have looks : PySem.W.Looks (model X.prog X.w) s.heap (typeOf (.ref a)) cls := fun A Q E s k q => wpAny_typeOf_ref (k _ _ g) (by rw [z.1]; exact q)
    have named : ∀ {Q E : Value → Shared → Prop}, Q c s → wpAny (model X.prog X.w) (X.A.mark (some (.ref a))) (eval (.Name x p) X.env) Q E s := by
      intro Q E hq
      obtain ⟨gl, nd, m1 | ⟨m1, m2, m3⟩⟩ := nm
      · exact ld_glob (X := X.suite a ((a, oe) :: (X.pn ++ pins))) S gl m1 hq nd
      · exact ld_blt (X := X.suite a ((a, oe) :: (X.pn ++ pins))) S gl m1 m2 hq m3 nd
    refine wpAny_handleBy_cons (codeAny_handlers_test (named ?_)) (by intro e; cases e)
    rcases w with ⟨hit, su'⟩ | ⟨miss, w'⟩
    · refine (PySem.W.exm_one (M := model X.prog X.w) kin looks hit).here ?_
      refine codeAny_handlers_suite_as (HandSPX.lands_againZ F.fly fun h2 fl2 up2 => ?_)
      have F2 : Fly X pins B sI a cls d σ H { s with heap := h2 } := ⟨F.ok, F.inv, F.near, F.up.trans up2, fl2, F.free, F.os, F.bare, F.loc, F.nfs⟩
      obtain ⟨oe2, vs2, g2, z2, dd2, S2⟩ := F2.there
      refine store_ok (X := X.suite a ((a, oe2) :: (X.pn ++ pins))) (v := .ref a) S2 hN sl (.inl lo) rfl (fun s3 S3 => ?_) (.inr lo)
      refine wpAny_mono ((su a oe2 cls d (X.pn ++ pins) z2 ⟨_, dd2⟩).run [] s3 _ H _ S3 (su' a F.free)) (fun f s4 out => ?_) fun _ _ no => no.elim
      -- the name goes
      have drop : ∀ {σ4 : St} {H4 : Hp} {Q : Shared → Prop}, Inv (X.suite a ((a, oe2) :: (X.pn ++ pins))) [] σ4 H4 s4 → (∀ s5, Inv X pins (σ4.set i none) H4 s5 → Q s5) → wpAny (model X.prog X.w) X.A (do bindName X.env n .none; unbindBehindTheSuite X.env n q) (fun _ s5 => Q s5) X.xe s4 :=
        fun {σ4 H4 Q} I4 hq => gone_ok (I4.unsuite F.ok) hN sl lo hq
      match f, out with
      | .ret u, ⟨v4, σ4, H4, I4, rv, q4⟩ => exact drop I4 fun s5 J5 => ⟨_, _, _, J5, rv, q4⟩
      | .next, ⟨σ4, H4, I4, q4⟩ => exact drop I4 fun s5 J5 => ⟨_, _, J5, q4⟩
      | .brk, ⟨σ4, H4, I4, q4⟩ => exact drop I4 fun s5 J5 => ⟨_, _, J5, q4⟩
      | .cont, ⟨σ4, H4, I4, q4⟩ => exact drop I4 fun s5 J5 => ⟨_, _, J5, q4⟩
    · refine (PySem.W.exm_one (M := model X.prog X.w) kin looks miss).here ?_
      exact ih w'
theorem ps_try_named {body : List Stmt} {h₀ : ExceptHandler} {hds : List ExceptHandler} {l : List Cl} {pos : Pos} {tb : WX → TS} (hs : X.stack = X.env :: X.outer) (hf : X.env.frame = some X.env.locals) (hN : X.N.Nodup)
    (hb : ∀ (W : WX) (pn : List (Addr × Obj)) (xe : Value → Shared → Prop), Takes (X.tr pn xe) W → PassesOwn (model X.prog X.w) X.A X.env xe → PSs (X.tr pn xe) body (tb W)) (C : Cls2 X (h₀ :: hds) l) :
    PS X (.Try body (h₀ :: hds) [] [] pos) (fun D σ H => tb (clW X.K D l) D σ H) := by
  refine ⟨fun pins s σ H D I start => wpAny_Try_except ?_⟩
  have frames : X.A.frames = some (X.env :: X.outer) := by rw [I.ok.frames, hs]
  have caught : Takes (X.tr (X.pn ++ pins) (fun e s₁ => wpAny (model X.prog X.w) X.A (noteFrame e X.env) (fun _ s₂ => wpAny (model X.prog X.w) X.A (setFlight e none) (fun _ s₃ => wpAny (model X.prog X.w) X.A (handleBy e X.env (h₀ :: hds)) (SP X pins D) X.xe s₃) X.xe s₂) X.xe s₁)) (clW X.K D l) := by
    rintro u s' ⟨a, B, sI, pins', σ', H', cls, d, rfl, J', near, up, sky, na, os, bare, w⟩
    have sky2 : Sky B (X.env :: X.outer) a (Zc cls d) X.env.locals s'.heap := hs ▸ sky
    show wpAny (model X.prog X.w) X.A (noteFrame (.ref a) X.env) _ _ _
    refine Sky.land Zc.steady frames hf sky2 fun h3 fl up3 => ?_
    obtain ⟨oe, vs, g, _, dd⟩ := fl.there
    have notf : a ∉ frs (X.env :: X.outer) := fun hm => by
      obtain ⟨_, o', g', hnf⟩ := fl.2.2.1.mem hm
      rw [g] at g'; cases g'
      exact hnf _ dd
    refine fly_named hN (B := B) (sI := sI) (s := { s' with heap := h3 }) (cls := cls) (d := d) ⟨I.ok, J'.ofTry I.ok, near, up.trans up3, fl, na, os, bare, fun e => notf ?_, fun hm => notf ?_⟩ C w
    · exact List.mem_filterMap.mpr ⟨X.env, List.mem_cons_self, by rw [hf, e]⟩
    · obtain ⟨e, he, q⟩ := List.mem_filterMap.mp hm
      exact List.mem_filterMap.mpr ⟨e, List.mem_cons_of_mem _ he, q⟩
  refine wpAny_mono ((hb (clW X.K D l) (X.pn ++ pins) _ caught PassesOwn.looking).run [] s σ H D (I.toTry _) start) (fun f s1 out => ?_) fun _ _ x => x
  match f, out with
  | .ret u, ⟨v, σ', H', J, r, q⟩ => exact ⟨v, σ', H', J.ofTry I.ok, r, q⟩
  | .next, ⟨σ', H', J, q⟩ => exact wpAny_execs_nil ⟨σ', H', J.ofTry I.ok, q⟩
  | .brk, ⟨σ', H', J, q⟩ => exact ⟨σ', H', J.ofTry I.ok, q⟩
  | .cont, ⟨σ', H', J, q⟩ => exact ⟨σ', H', J.ofTry I.ok, q⟩
end
end L2
namespace Dl
open PySem L2
/-! ### the same over data -/
def WEnds.without (W : WEnds) (i : Nat) : WEnds := ⟨fun ρ μ => W.nx (ρ.set i none) μ, W.rt, fun ρ μ => W.bk (ρ.set i none) μ, fun ρ μ => W.ct (ρ.set i none) μ⟩
abbrev DCl := Addr × Nat × (Addr → Value → Option Addr → WS)
def wCls (K : PySem.W.Frag) (W : WEnds) : List DCl → WRx
  | [] => fun _ _ _ _ => False
  | (Cc, i, ws) :: r => fun C fs ρ μ => (PySem.W.exmOne K (.ref C) (.ref Cc) = some true ∧ ∀ a d, (d = none → fs = []) → ws a (.ref C) d (W.without i) (ρ.set i (some (.exc a d C fs))) μ) ∨ (PySem.W.exmOne K (.ref C) (.ref Cc) = some false ∧ wCls K W r C fs ρ μ)
def wTryN (K : PySem.W.Frag) (l : List DCl) (wb : WSx) : WS := fun W ρ μ => wb (wCls K W l) W ρ μ
inductive DCls (X : Cx) : List ExceptHandler → List DCl → Prop
  | nil : DCls X [] []
  | cons {x n : Str} {Cc : Addr} {i : Nat} {ws : Addr → Value → Option Addr → WS} {st : Stmt} {sts : List Stmt} {p q : Pos} {hds : List ExceptHandler} {l : List DCl} (nm : Names X x (.ref Cc)) (sl : X.N[i]? = some n) (lo : X.env.kindOf n = some .local)
      (su : ∀ (a : Addr) (oe : Obj) (cls : Value) (d : Option Addr) (pn : List (Addr × Obj)), Zc cls d oe → (∃ vs, oe.data = .fields vs) → DSs (X.suite a ((a, oe) :: pn)) (st :: sts) (ws a cls d)) (r : DCls X hds l) :
      DCls X (.ExceptHandler (some (.Name x p)) (some n) (st :: sts) q :: hds) ((Cc, i, ws) :: l)
def clOf (K : PySem.W.Frag) : List DCl → List Cl := fun l => l.map fun c => (.ref c.1, c.2.1, fun a cls d => LS K (c.2.2 a cls d))
theorem DCls.cl {X : Cx} {hds : List ExceptHandler} {l : List DCl} (h : DCls X hds l) : Cls2 X hds (clOf X.K l) := by
  induction h with
  | nil => exact .nil
  | cons nm sl lo su r ih => exact .cons nm sl lo (fun a oe cls d pn hz hfl => (su a oe cls d pn hz hfl).p) ih
theorem wCls_ok {K : PySem.W.Frag} {G : Hp} {W : WEnds} {D : Ends} (ht : TellsS K G W D) : ∀ (l : List DCl), TellsX K G (wCls K W l) (clW K D (clOf K l))
  | [] => fun C fs d ρ' μ' σ' H' G' p _ _ _ _ => p.elim
  | (Cc, i, ws) :: r => fun C fs d ρ' μ' σ' H' G' p e er m xr => by
    rcases p with ⟨h1, h2⟩ | ⟨h1, h2⟩
    · refine .inl ⟨h1, fun a ha => ?_⟩
      have hd : d = none → fs = [] := fun z => by
        rcases xr with ⟨_, h⟩ | ⟨dd, _, h, _⟩
        · exact h
        · rw [h] at z; cases z
      have held : Rp K G' (.exc a d C fs) (.ref a) := by
        rcases xr with ⟨rfl, rfl⟩ | ⟨dd, vs, rfl, g, k, r⟩
        · exact .excN a C
        · exact .excD g k r
      exact ⟨_, μ', G', _, er.set i held, m, h2 a d hd, ⟨fun _ _ _ _ _ p e2 r2 m2 => ht.nx _ _ _ _ _ p (e.trans e2) (r2.unset i) m2, fun _ _ _ _ _ p e2 m2 r2 => ht.rt _ _ _ _ _ p (e.trans e2) m2 r2,
        fun _ _ _ _ _ p e2 r2 m2 => ht.bk _ _ _ _ _ p (e.trans e2) (r2.unset i) m2, fun _ _ _ _ _ p e2 r2 m2 => ht.ct _ _ _ _ _ p (e.trans e2) (r2.unset i) m2⟩⟩
    · exact .inr ⟨h1, wCls_ok ht r C fs d ρ' μ' σ' H' G' h2 e er m xr⟩
theorem ds_tryN {X : Cx} {body : List Stmt} {h₀ : ExceptHandler} {hds : List ExceptHandler} {l : List DCl} {pos : Pos} {wb : WSx} (hs : X.stack = X.env :: X.outer) (hf : X.env.frame = some X.env.locals) (hN : X.N.Nodup)
    (hb : ∀ (W : WX) (pn : List (Addr × Obj)) (xe : Value → Shared → Prop), Takes (X.tr pn xe) W → PassesOwn (model X.prog X.w) X.A X.env xe → XSs (X.tr pn xe) W body wb) (C : DCls X (h₀ :: hds) l) :
    DS X (.Try body (h₀ :: hds) [] [] pos) (wTryN X.K l wb) :=
  ⟨wkS (ps_try_named (tb := fun W => LSx X.K W wb) hs hf hN (fun W pn xe tk po => (hb W pn xe tk po).p) C.cl) fun D σ H ⟨ρ, μ, G, W, he, hm, hw, ht⟩ => ⟨ρ, μ, G, W, _, he, hm, hw, ht, wCls_ok ht l⟩⟩
end Dl

namespace Dl
open PySem L2
/-! ### raising calls deeper in expressions: e.f, str(e), C.m(..), cls(..) -/
section
variable {X : Cx} {W : WX} {j k : Nat} {x m : Str} {C : Addr} {d : DSpX} {dds : List D} {p pos apos : Pos} {e o : Expr} {es : List Expr} {wa : WA} {wo : WE} {wx : WEx} {wax : WAx}
def xFld (K : PySem.W.Frag) (f : Str) (wx : WEx) : WEx := fun R ρ μ P => wx R ρ μ fun x μ1 => match insD μ1 x with
  | some (C, fs) => FldOk K C f ∧ (match look fs f with | some d => P d μ1 | none => False)
  | none => False
theorem xe_fld {f : Str} (h : XE X W e wx) (hb : attributeBase e f X.env (eval e X.env) = eval e X.env) : XE X W (.Attribute e f pos) (xFld X.K f wx) := ⟨wkE (pe_fld h.p hb) fun σ H Q ⟨ρ, μ, G, P, R, he, hm, hw, ht, tx⟩ =>
  ⟨ρ, μ, G, _, R, he, hm, hw, fun y μ1 v H1 G1 p e1 m1 r => by
    dsimp only at p
    split at p
    · rename_i C fs q
      obtain ⟨a, dx, vs, rfl, h1, kk, r1⟩ := insD_ok q m1 r
      obtain ⟨⟨c, n⟩, p⟩ := p
      split at p
      · rename_i d hd
        obtain ⟨v, h2, r2⟩ := (look_keys (k := f) kk r1).1 d hd
        exact ⟨a, C, dx, vs, v, rfl, h1, c, n, by rw [lookup_look]; exact h2, ht _ _ _ _ _ p e1 m1 r2⟩
      · exact p.elim
    · exact p.elim, tx⟩⟩
def xCB (o : OC) (wax : WAx) : WEx := fun R ρ μ P => wax R ρ μ fun ds μ1 => o ds μ1 P
theorem lxcb {r : List V → Hp → VK → Prop} {o : OC} (hs : ∀ {ds : List D} {μ : Store} {P : D → Store → Prop} {G H : Hp} {vs : List V} {Q : VK}, o ds μ P → Sm X.K μ G H → Rps X.K G ds vs → Tells X.K G P Q → r vs H Q) :
    ∀ σ H Q, LEx X.K W (xCB o wax) σ H Q → tCB r (LAx X.K W wax) σ H Q := fun σ H Q ⟨ρ, μ, G, P, R, he, hm, hw, ht, tx⟩ => ⟨ρ, μ, G, _, R, he, hm, hw, fun ds μ1 vs H1 G1 p1 e1 m1 r1 => hs p1 m1 r1 (ht.mono e1), tx⟩
theorem xe_callB {id : String} {o : OC} (hc : CallS X (.builtin id) o) (hg : Gl X x) (hm : X.mg x = none) (hv : bootBuiltins x = some (.builtin id)) (ha : XA X W (e :: es) wax) (hn : x ≠ "__name__" := by decide) (hdb : (x == ("__debug__" : Str)) = false := by decide)
    (he : starEach (e :: es) X.env = (false, eval e X.env) :: starEach es X.env := by rfl) (hpl : (backTo pos (starEach es X.env)).any (·.1) = false := by rfl) : XE X W (.Call (.Name x p) (e :: es) [] pos) (xCB o wax) := by
  obtain ⟨r, hr, hs⟩ := hc
  exact ⟨wkE (pe_callB hr hg hm hv ha.p hn hdb he hpl) (lxcb hs)⟩
theorem xe_callTy {T : String} {o : OC} (hc : CallS X (.type T) o) (hg : Gl X x) (hm : X.mg x = none) (hv : bootBuiltins x = some (.type T)) (ha : XA X W (e :: es) wax) (hn : x ≠ "__name__" := by decide) (hdb : (x == ("__debug__" : Str)) = false := by decide)
    (he : starEach (e :: es) X.env = (false, eval e X.env) :: starEach es X.env := by rfl) (hpl : (backTo pos (starEach es X.env)).any (·.1) = false := by rfl) : XE X W (.Call (.Name x p) (e :: es) [] pos) (xCB o wax) := by
  obtain ⟨r, hr, hs⟩ := hc
  exact ⟨wkE (pe_callTy hr hg hm hv ha.p hn hdb he hpl) (lxcb hs)⟩
/-! a class that a local name holds, called -/
def xMakeL (i : Nat) (C : Addr) (d : DSpX) (dds : List D) (wa : WA) : WEx := fun R ρ μ P => ρ.getD i none = some (.ref C) ∧ xMake C d dds wa R ρ μ P
theorem xe_makL {n : Str} (i : Nat) (tk : Takes X W) (c : DMakX X.prog X.w X.K X.mg X.base k n C d dds) (hr : Room j X.A) (hk : k + 1 ≤ j) (hN : X.N[i]? = some x) (hv : Vis X.env.scope x) (ha : DA X (e :: es) wa) (hdb : (x == ("__debug__" : Str)) = false := by decide)
    (hcd : (x == ("__classdict__" : Str)) = false := by decide) (he : starEach (e :: es) X.env = (false, eval e X.env) :: starEach es X.env := by rfl) (hpl : (backTo pos (starEach es X.env)).any (·.1) = false := by rfl) : XE X W (.Call (.Name x p) (e :: es) [] pos) (xMakeL i C d dds wa) := by
  obtain ⟨f, fd, ps, ds, dvs, M, F, hm, b, vd, rd⟩ := c.ex
  refine ⟨⟨fun pins s σ H Q I h => ?_⟩⟩
  obtain ⟨ρ, μ, G, P, R, he', hm', ⟨hi, hw⟩, ht, tx⟩ := h
  obtain ⟨u, hu1, hu2⟩ := he'.2 i _ (getD_some hi)
  cases hu2
  refine wpAny_Call_Name_kw (thn ((pe_var (pos := p) hN hv hdb hcd).run pins s σ H (fun v H1 => v = .ref C ∧ H1 = H) I ⟨.ref C, hu1, rfl, rfl⟩) fun u s1 ⟨v, H1, I1, r1, q1⟩ => ?_)
  obtain ⟨rfl, rfl⟩ := q1
  cases r1
  refine PySem.W.callWith_K (h₀ := X.base) I.ok.mod.kin M.kp (thn (ha.p.run pos pins s1 σ _ (fun vs H1 => ∀ x dx, H1 x = none → H1 dx = none → dx ≠ x → LSpX X.K d (.ref x :: (vs ++ dvs)) (upd (upd H1 dx (.own x)) x (.ins C dx [])) (fun v H2 => v = .non ∧ Q (.ref x) H2) (fun cls d H => W cls d σ H)) I1
    ⟨ρ, μ, G, _, he', hm', hw, fun ds μ1 vs H1 G1 p1 e1 m1 r1 => fun x dx hx hdx hn => ⟨_, _, G1, _, _, .cons (.ref x) (r1.append (rd G1)), made_sm m1 hx hdx hn, p1 x (m1.nn hx), fun r μ2 v H2 G2 ⟨er, fs, q, p⟩ e2 m2 rv => by
      subst er
      cases rv
      obtain ⟨G3, m3, e3, r3⟩ := m2.freezeI q
      exact ⟨rfl, ht _ _ _ _ _ p ((e1.trans e2).trans e3) m3 r3⟩, tellsE (he'.mono e1) (tx.mono e1)⟩⟩) fun us s2 ⟨vs, H2, I2, r, q⟩ => ⟨I2.kIn, ?_⟩) he hpl
  exact run_makeS (E := L2.WE W) M F (hr.mono hk) b vd (passAt tk σ) I2 r q
/-! a classmethod that may raise -/
structure DCmeX (P : Program) (w : World) (K : PySem.W.Frag) (mg : Str → Option Value) (base : Heap) (k : Nat) (C : Addr) (m : Str) (d : DSpX) (dds : List D) : Prop where
  ex : ∃ (mc : Value) (p g : Addr) (fd : FuncData) (ps : List Str) (ds : List Value) (dvs : List V), ClX.CRead K C mc ∧ ClX.CMet K C mc m p g ∧ FnOk P w K mg base (L2.CX P w) k g fd ps (LSpX K d) ∧ Binds K fd ps ds ∧ Vals dvs ds ∧ ∀ G, Rps K G dds dvs
def xCMe (C : Addr) (d : DSpX) (dds : List D) (wo : WE) (wa : WA) : WEx := fun R ρ μ P => wo ρ μ fun x μ1 => x = .ref C ∧ wa ρ μ1 fun ds μ2 => d (.ref C :: (ds ++ dds)) μ2 P fun C fs μ' => R C fs ρ μ'
theorem xe_cme {pl : Sem Bool} (tk : Takes X W) (c : DCmeX X.prog X.w X.K X.mg X.base k C m d dds) (hr : Room j X.A) (hk : k ≤ j) (ho : DE X o wo) (ha : DA X (e :: es) wa)
    (hst : starEach (e :: es) X.env = (false, eval e X.env) :: starEach es X.env := by rfl) (hpl : (backTo pos (starEach es X.env)).any (·.1) = false := by rfl)
    (ht : eval (.Call (.Attribute o m apos) (e :: es) [] pos) X.env = (do
      let ov ← eval o X.env
      standAt apos.atName
      let (f, first) ← holding [ov] (getMethod ov m pl)
      callWith pos f first (backTo pos (starEach (e :: es) X.env)) (backToKw pos (keywordEach [] X.env))) := by rfl) : XE X W (.Call (.Attribute o m apos) (e :: es) [] pos) (xCMe C d dds wo wa) := by
  obtain ⟨mc, q, g, fd, ps, ds, dvs, r, cm, F, b, vd, rd⟩ := c.ex
  refine ⟨⟨fun pins s σ H Q I h => ?_⟩⟩
  obtain ⟨ρ, μ, G, P, R, he', hm', hw, htl, tx⟩ := h
  refine PySem.W.methodCall_KW (pl := pl) (thn (ho.p.run pins s σ H (fun x H1 => x = .ref C ∧ LA X.K wa σ H1 fun vs H2 => LSpX X.K d (.ref C :: (vs ++ dvs)) H2 Q (fun cls d H => W cls d σ H)) I
    ⟨ρ, μ, G, _, he', hm', hw, fun y μ1 v1 H1 G1 p1 e1 m1 r1 => by
      obtain ⟨rfl, p1⟩ := p1
      cases r1
      exact ⟨rfl, ρ, μ1, G1, _, he'.mono e1, m1, p1, fun zs μ2 vs H2 G2 p2 e2 m2 r2 => ⟨.ref C :: (zs ++ dds), μ2, G2, P, _, .cons (.ref C) (r2.append (rd G2)), m2, p2, htl.mono (e1.trans e2), tellsE ((he'.mono e1).mono e2) (tx.mono (e1.trans e2))⟩⟩⟩) fun u s1 ⟨y, H1, I1, rx, ey, q1⟩ => ?_) ht
  subst ey
  obtain rfl : u = Value.ref C := rx
  refine ClX.getmethcm_ok I1 r cm fun s2 I2 => ?_
  refine ClX.callwith_cm I2 (ClX.base_none I1 (Nat.le_refl _)) cm.fi (thn (ha.p.run pos _ s2 σ H1 _ I2 q1) fun us s3 ⟨vs, H2, I3, rv, q2⟩ => ⟨⟨ClX.pin_at I3, I3.kIn⟩, ?_⟩) hst hpl
  have raw := F.raw b vd
  suffices z : wpAny (model X.prog X.w) X.A (call (.ref s1.heap.objs.size) us) (EP X ((s1.heap.objs.size, PySem.W.methodObj (.ref g) (.ref C)) :: pins) σ Q) X.xe s3 from thn z fun _ _ y => ClX.unpinE y
  refine wpAny_call (PySem.W.method_call (ClX.pin_at I3) (codeAny_mono (raw X.A X.stack s3 H2 (.ref C :: us) (.ref C :: vs) Q (L2.WE W σ) (hr.mono hk) I3.env0 (.cons rfl rv) q2) fun r s' hq => ?_))
  match r, hq with
  | .error e, hq => exact passAt tk σ _ H2 s3 e s' I3 hq
  | .ok (.ret u), hq => exact I3.after hq
theorem CmAt.cmeX {P : Program} {w : World} {K : PySem.W.Frag} {mg : Str → Option Value} {base : Heap} {C : Addr} {m qual : Str} {st : Stmt} {dsV ds : List Value} {dvs : List V} {dds : List D} {N ps : List Str} {k : Nat} {d : DSpX} {ws : WSx} (D : CmAt K C m qual st dsV) (S : FnScope N ps (defScope st)) (len : ∀ ds μ Q R, d ds μ Q R → ds.length = ps.length)
    (hb : ∀ {f : Addr} (cdv : Value) (A : Around) (outer : List PySem.Env) (s : Shared) (H : Hp) (E : XK), Room k (A.deeper (PyProof.Rows.envOfC qual (defScope st) s.heap.objs.size f cdv)) → XSs (cxOf (L2.CX P w) P w K mg base N qual (defScope st) f cdv A outer s H E) (WofE E) (defBody st) ws)
    (ok : ∀ ds μ Q R, d ds μ Q R → ws (fun C fs _ μ' => ∃ μ2, Sub μ2 μ' ∧ R C fs μ2) { nx := fun _ μ' => ∃ μ2, Sub μ2 μ' ∧ Q .non μ2, rt := Q } (startD N ds) μ) (b : ∀ {f fd}, FnAt K m qual st dsV f fd → Binds K fd ps ds) (vd : Vals dvs ds) (rd : ∀ G, Rps K G dds dvs) : DCmeX P w K mg base (k + 1) C m d dds := by
  obtain ⟨mc, p, g, fd, r, c, F⟩ := D.ex
  exact ⟨mc, p, g, fd, ps, ds, dvs, r, c, F.okX S len (hb (f := g)) ok, b F, vd, rd⟩
/-! what raises nothing; a choice -/
def xNE (w : WE) : WEx := fun _ ρ μ P => w ρ μ P
theorem xe_of {w : WE} (h : DE X e w) : XE X W e (xNE w) := ⟨wkE h.p fun σ H Q ⟨ρ, μ, G, P, R, he, hm, hw, ht, _⟩ => ⟨ρ, μ, G, P, he, hm, hw, ht⟩⟩
def xIfE (t : WT) (u v : WEx) : WEx := fun R ρ μ P => t ρ μ fun b μ1 => if b = true then u R ρ μ1 P else v R ρ μ1 P
theorem xe_if {c a b : Expr} {t : WT} {u v : WEx} (hc : DT X c t) (ha : XE X W a u) (hb : XE X W b v) : XE X W (.IfExp c a b pos) (xIfE t u v) := ⟨wkE (pe_ifExp hc.p ha.p hb.p) fun σ H Q ⟨ρ, μ, G, P, R, he, hm, hw, ht, tx⟩ =>
  ⟨ρ, μ, G, _, he, hm, hw, fun k μ1 H1 G1 p e m => by
    cases k with
    | true => rw [if_pos rfl] at p ⊢; exact ⟨ρ, μ1, G1, P, R, he.mono e, m, p, ht.mono e, tx.mono e⟩
    | false => rw [if_neg Bool.false_ne_true] at p ⊢; exact ⟨ρ, μ1, G1, P, R, he.mono e, m, p, ht.mono e, tx.mono e⟩⟩⟩
end
end Dl

namespace L2
open PySem PySem.Spec PyProof.Rows
/-! ### comprehensions by their clauses; a count of tokens may be known -/
abbrev testsOf (ifs : List Expr) (env : Env) : Sem Bool := forIn ifs true fun c r => if r = true then do let ok ← isTrue c env (eval c env); pure (ForInStep.yield ok) else pure (ForInStep.yield r)
/-- one turn of a clause: rest stands behind its tests -/
def turnOf (c : Code) (tg src : Expr) (ifs : List Expr) (it : Value) (env : Env) (rest : Sem Fin) : Sem Fin := do
  standAt src.pos
  match ← pyNext it with
  | none => pure (.done .next)
  | some v =>
    letOwnedTupleGo tg it v
    assign tg env v
    let ok ← testsOf ifs env
    if ok = true then rest else again c
section
variable {X : Cx} {tg src : Expr} {ifs : List Expr} {g : TG} {tt : TT} {J : It} {fp : List Addr} {it : Addr} {tn : Nat → Heap → Prop} {pins : List (Addr × Obj)} {σ : St} {vs : List Nat} {n0 : Nat} {c : Code} {rest : Sem Fin} {R : Result → Shared → Prop}
def OutE (X : Cx) (R : Result → Shared → Prop) : Value → Shared → Prop := notedBy (model X.prog X.w) X.A X.env fun e s' => R (.error e) s'
/-- what a clause's loop is asked at its turn i, m turns to go at most -/
def TurnOk (X : Cx) (J : It) (g : TG) (tt : TT) (pins : List (Addr × Obj)) (σ : St) (vs : List Nat) (n0 : Nat) (c : Code) (rest : Sem Fin) (R : Result → Shared → Prop) (W : Nat → Nat → Hp → Prop) (i m : Nat) (H : Hp) : Prop :=
  (J.stop i H ∧ ∀ s', Inv X pins σ H s' → n0 ≤ s'.toks → R (.ok .next) s') ∨
  (J.go i H ∧ ∃ (Nx : Hp → Prop) (Em : St → Hp → Prop), (∀ H', Nx H' → ∃ m', m' < m ∧ W (i + 1) m' H') ∧
    (∀ x H', J.yld i H x H' → g x σ H' fun σ2 H2 => wipe σ2 vs = σ ∧ tt σ2 H2 fun b H3 => if b = true then Em σ2 H3 else Nx H3) ∧
    ∀ (more : List (Addr × Obj)) (σ2 : St) (H3 : Hp) (s3 : Shared), Inv X (pins ++ more) σ2 H3 s3 → n0 ≤ s3.toks → wipe σ2 vs = σ → Em σ2 H3 →
      wpAny (model X.prog X.w) X.A rest (fun fin s4 => fin = .again c ∧ ∃ H4, Inv X (pins ++ more) σ H4 s4 ∧ Nx H4) (OutE X R) s3)
theorem clause (hc : X.calm = true) (T : Turn X.prog X.w X.K tg J fp it tn) (pg : PG X tg g) (pt : PTs X ifs tt) (hx : ∀ e s', X.xe e s' → OutE X R e s') (hq : c.quiet = true) (hu : X.A.under c = X.A)
    (hden : (model X.prog X.w).den c = (turnOf c tg src ifs (.ref it) X.env rest).onRaise fun x => do noteFrame x X.env; theTreesLotGoes x)
    (hfp : ∀ b ∈ fp, b ≠ X.env.locals ∧ b ∉ X.fs ∧ (b ∈ X.ex ∨ X.s_0.heap.objs.size ≤ b) ∧ (∀ x d, X.env.cells.lookup x = some d → d ≠ b) ∧ ∀ p ∈ X.pn ++ pins, p.1 ≠ b)
    (W : Nat → Nat → Hp → Prop) (turn : ∀ i m H, W i m H → TurnOk X J g tt pins σ vs n0 c rest R W i m H)
    {m : Nat} {s : Shared} {H : Hp} (I : Inv X pins σ H s) (hn : n0 ≤ s.toks) (st : tn 0 s.heap) (nf : ∀ b ∈ fp, H b = none) (w : W 0 m H) : codeAny (model X.prog X.w) X.A c R s := by
  refine codeAny_loop hq (fun m s1 => ∃ i H1, Inv X pins σ H1 s1 ∧ n0 ≤ s1.toks ∧ tn i s1.heap ∧ (∀ b ∈ fp, H1 b = none) ∧ W i m H1) (fun m s1 h1 => ?_) m ⟨0, H, I, hn, st, nf, w⟩
  obtain ⟨i, H1, I1, n1, st1, nf1, w1⟩ := h1
  rw [hu, hden]
  refine wpAny_noted ?_
  unfold turnOf
  refine wpAny_bind (wpAny_standAt ?_)
  rcases turn i m H1 w1 with ⟨stop, fin⟩ | ⟨go, Nx, Em, hNx, step, emit⟩
  · refine wpAny_bind (wpAny_mono (wpAny_toks_of n1 (T.done X rfl rfl rfl hc i pins s1 σ H1 (fun _ _ => False) I1 (fun b hb => ⟨nf1 b hb, hfp b hb⟩) st1 stop)) (fun r s2 z => ?_) fun _ _ z => z.2.elim)
    obtain ⟨n2, hr, I2⟩ := z
    subst hr
    exact wpAny_pure (fin s2 I2 n2)
  · refine wpAny_bind (wpAny_mono (wpAny_toks_of n1 (T.item X rfl rfl rfl hc i pins s1 σ H1 (fun _ _ => False) I1 (fun b hb => ⟨nf1 b hb, hfp b hb⟩) st1 go)) (fun r s2 z => ?_) fun _ _ z => z.2.elim)
    obtain ⟨n2, u, hr, h2⟩ := z
    subst hr
    refine wpAny_bind (wpAny_mono (wpAny_toks_of n2 h2) (fun _ s3 z => ?_) fun _ _ z => z.2.elim)
    obtain ⟨n3, x, H3, I3, rx, y3, st3, nf3⟩ := z
    have J3 := I3.pinned (fun b hb => ⟨nf3 b hb, hfp b hb⟩) (T.obj _ _ st3)
    refine wpAny_bind (wpAny_mono (wpAny_toks_of n3 (pg.run _ s3 _ H3 x u _ J3 rx (step x H3 y3))) (fun _ s4 z => ?_) fun e s' z => hx e s' z.2)
    obtain ⟨n4, σ4, H4, I4, hw, q4⟩ := z
    refine wpAny_bind (wpAny_mono (wpAny_toks_of n4 (pt.run _ s4 σ4 H4 _ I4 q4)) (fun b s5 z => ?_) fun e s' z => hx e s' z.2)
    obtain ⟨n5, H5, I5, q5⟩ := z
    have next : ∀ {s' : Shared} {H' : Hp}, Inv X (pins ++ pinsAt fp s3.heap) σ H' s' → n0 ≤ s'.toks → Nx H' → ∃ m', m' < m ∧ ∃ i H1, Inv X pins σ H1 s' ∧ n0 ≤ s'.toks ∧ tn i s'.heap ∧ (∀ b ∈ fp, H1 b = none) ∧ W i m' H1 := by
      intro s' H' I' n' nx
      obtain ⟨m', lt, w'⟩ := hNx H' nx
      have still : ∀ b ∈ fp, ∀ o, s3.heap.get? b = some o → s'.heap.get? b = some o ∧ H' b = none := fun b hb o e => by
        obtain ⟨p1, p2, _⟩ := I'.pin (b, o) (List.mem_append_right _ (List.mem_append_right _ (mem_pinsAt hb e)))
        exact ⟨p1, p2⟩
      refine ⟨m', lt, i + 1, H', I'.unpinned, n', T.keep _ _ _ st3 fun b hb o e => (still b hb o e).1, fun b hb => ?_, w'⟩
      obtain ⟨o, e, _⟩ := T.obj _ _ st3 b hb
      exact (still b hb o e).2
    cases b with
    | false => exact wpAny_pure ⟨rfl, next (I5.weak (by rw [← hw, wipe_length]) fun j v e => (by rw [← hw] at e; exact (wipe_some e).1)) n5 q5⟩
    | true =>
      refine wpAny_mono (wpAny_toks_of n5 (emit (pinsAt fp s3.heap) σ4 H5 s5 I5 n5 hw q5)) (fun fin s6 z => ?_) fun _ _ z => z.2
      obtain ⟨n6, e6, H6, I6, nx⟩ := z
      subst e6
      exact ⟨rfl, next I6 n6 nx⟩
/-- a comprehension's frame around its loop: o is the new collection, ho what is known of it -/
theorem comp_open {s : Shared} {H : Hp} {Q : VK} {ce iter : Expr} {gs : List Comprehension} {scope : Scope} {own : List (Str × Nat)} {pos' : Pos} {wi : TI} {use : Option (Value → Sem Unit)} {Qf : Value → Shared → Prop} {newAcc : Sem Value} {o : Obj} {ho : HO} {Pre : It → Addr → Hp → Prop}
    (hcl : clausesOf ce = ⟨tg, iter, ifs, 0⟩ :: gs)
    (hst : ∀ (it acc : Value) (env : Env) (R : Result → Shared → Prop) (s : Shared), codeAny (model X.prog X.w) X.A (.compLoop ce 0 it acc env) R s → wpAny (model X.prog X.w) X.A (pyIter it) (fun it' s' => codeAny (model X.prog X.w) X.A (.compLoop ce 0 it' acc env) R s') (notedBy (model X.prog X.w) X.A env fun x s' => R (.error x) s') s → codeAny (model X.prog X.w) X.A (.compStart ce 0 it acc env) R s)
    (hnew : ∀ (Q : Value → Shared → Prop) (E : Value → Shared → Prop) (s : Shared), Q (.ref s.heap.objs.size) { s with heap := s.heap.push o } → wpAny (model X.prog X.w) X.A newAcc Q E s)
    (hobj : ∀ (H : Hp) (s : Shared), Inv X pins σ H s → ObjOk X.prog X.w (upd H s.heap.objs.size ho) (s.heap.push o) s.heap.objs.size ho)
    (hN : X.N.Nodup) (I : Inv X pins σ H s) (hn : n0 ≤ s.toks) (hi : PI X tg iter wi) (ok : BlkOk X.N X.env.scope scope own) (hs : ∀ x, foldedSetIterable iter X.env x = pure x)
    (h : wi σ H fun J H1 => ∀ D, H1 D = none → Pre J D (upd H1 D ho))
    (body : ∀ (s3 : Shared) (H3 : Hp) (C : Addr) (cl : List (Str × Addr)) (fp : List Addr) (J : It) (it : Addr) (tn : Nat → Heap → Prop) (D : Addr) (s4 : Shared), Inv (X.blk s3 H3 scope (compEnvC scope cl C X.env) fp) [] (wipe σ (own.map (·.2))) H3 s4 → n0 ≤ s4.toks → Turn X.prog X.w X.K tg J fp it tn → tn 0 s4.heap →
      (∀ b ∈ fp, FpOk (X.blk s3 H3 scope (compEnvC scope cl C X.env) fp) [] H3 b) → Pre J D H3 →
      codeAny (model X.prog X.w) X.A (.compLoop ce 0 (.ref it) (.ref D) (compEnvC scope cl C X.env)) (fun r s' => r = .ok .next ∧ ∃ H', Inv (X.blk s3 H3 scope (compEnvC scope cl C X.env) fp) [] (wipe σ (own.map (·.2))) H' s' ∧ Q (.ref D) H') s4)
    (hRR : ∀ D C s' m H', Inv X pins σ H' s' → Q (.ref D) H' → s'.heap.Ns C m → FpOk X pins H' C → compPost (model X.prog X.w) X.A X.xe use Qf (.ref D) C (.ok .next) s') :
    wpAny (model X.prog X.w) X.A (comprehension ce scope X.env pos' newAcc false (eval iter X.env) use) Qf X.xe s := by
  have free : ∀ y ∈ scope.names, y.2 = .free → ∃ c, X.env.cells.lookup y.1 = some c := fun y hy e => (ok.free y hy e).elim (fun k => I.ok.has _ (.inl k)) fun k => I.ok.has _ (.inr k)
  refine wpAny_comprehension_free (use := use) hcl hs (closure_ok free) ok.kind (fun y hy e => by rw [ok.uniq y hy, e]) (wpAny_mono (wpAny_toks_of hn (hi.run pins s σ H _ I h)) (fun xv s1 z => ?_) fun _ _ z => z.2)
  refine wpAny_mono (wpAny_toks_of z.1 z.2) (fun itv s2 z => ?_) fun _ _ z => z.2
  obtain ⟨n2, it, fp, tn, J, H2, e, I2, T, st2, f2, q⟩ := z
  subst e
  refine hnew _ _ s2 (newEnv_comp ?_)
  have old : ∀ b ∈ fp, b < s2.heap.objs.size := fun b hb => by
    obtain ⟨o, e, _⟩ := T.obj _ _ st2 b hb
    exact Heap.lt_size e
  have pre := q s2.heap.objs.size (I2.hok.fresh (Nat.le_refl _))
  generalize hs3 : ({ s2 with heap := s2.heap.push o } : Shared) = s3
  have hp3 : s3.heap = s2.heap.push o := by rw [← hs3]
  have up3 : ∀ b u, s2.heap.get? b = some u → s3.heap.get? b = some u := fun b u e => by rw [hp3]; exact Heap.get?_push_of_some _ e
  have I3 : Inv X pins σ (upd H2 s2.heap.objs.size ho) s3 := by
    rw [← hs3]
    exact I2.laid (t' := s2.toks) (fun b u e => Heap.get?_push_of_some _ e) (Nat.le_refl _) (hobj H2 s2 I2)
  have n3 : n0 ≤ s3.toks := by rw [← hs3]; exact n2
  generalize hD : s2.heap.objs.size = D at pre I3
  generalize hH3 : upd H2 D ho = H3 at pre I3
  have f3 : ∀ b ∈ fp, FpOk X pins H3 b ∧ b < s3.heap.objs.size := fun b hb => by
    refine ⟨⟨?_, (f2 b hb).2⟩, by rw [hp3, Heap.size_push]; exact Nat.lt_succ_of_lt (old b hb)⟩
    rw [← hH3, upd_ne (by rw [← hD]; exact Nat.ne_of_lt (old b hb))]
    exact (f2 b hb).1
  have I4 := block_start I3 ok hN f3
  generalize hcl2 : cellsFrom (s3.heap.objs.size + 1) scope.names (cloFrom X.env.cells scope.names []) = cl at I4
  show codeAny _ _ (.compStart ce 0 (.ref it) (.ref D) (compEnvC scope cl s3.heap.objs.size X.env)) (compPost (model X.prog X.w) X.A X.xe use Qf (.ref D) s3.heap.objs.size) { s3 with heap := pushCells (s3.heap.push { cls := .type "dict", data := .dict #[] }) scope.names }
  have st4 : tn 0 (pushCells (s3.heap.push { cls := .type "dict", data := .dict #[] }) scope.names) := T.keep _ _ _ st2 fun b _ u e => pushCells_keeps _ _ _ _ (Heap.get?_push_of_some _ (up3 b u e))
  have stat : ∀ b ∈ fp, FpOk (X.blk s3 H3 scope (compEnvC scope cl s3.heap.objs.size X.env) fp) [] H3 b := fun b hb =>
    ⟨(f3 b hb).1.1, (I4.ok.exf b hb).1, I4.ok.exfs b hb, .inl hb, fun x c e => (I4.ok.exf b hb).2 x c e, fun p hp => absurd (show p ∈ ([] : List (Addr × Obj)) ++ [] from hp) (by simp)⟩
  have loop := codeAny_mono (R' := compPost (model X.prog X.w) X.A X.xe use Qf (.ref D) s3.heap.objs.size) (body s3 H3 s3.heap.objs.size cl fp J it tn D _ I4 n3 T st4 stat pre) fun r s6 z => by
    obtain ⟨er, H6, I6, q6⟩ := z
    subst er
    have I7 : Inv X pins σ H6 s6 := I3.call' (ch := fp) I6.os I6.base I6.hok I6.bare fun b hb => ⟨(f3 b hb).1.2.2.2.1, (f3 b hb).1.2.1, (f3 b hb).1.2.2.2.2.1, (f3 b hb).1.2.2.2.2.2⟩
    obtain ⟨m, hns, _⟩ := I6.loc
    have nC : H6 s3.heap.objs.size = none := I6.free
    exact hRR D s3.heap.objs.size s6 m H6 I7 q6 hns (I3.fpOk (Nat.le_refl _) nC)
  exact hst _ _ _ _ _ loop (T.self X.A 0 _ _ _ st4 loop)
end
/-! ### [.. for .. in ..] where the element asks for a token -/
section
variable {X : Cx} {elt tg iter : Expr} {ifs : List Expr} {scope : Scope} {own : List (Str × Nat)} {pos spos py : Pos} {wi : TI} {g : TG} {tt : TT} {te : TE}
def preL (g : TG) (tt : TT) (te : TE) (vs : List Nat) (σ : St) (Q : VK) : It → Addr → Hp → Prop := fun J D H => ∃ W : Nat → Nat → Hp → Prop, (∃ m, W 0 m H) ∧ ∀ i m H, W i m H → (J.stop i H ∧ Q (.ref D) H) ∨ (J.go i H ∧ ∃ Nx : Hp → Prop, (∀ H', Nx H' → ∃ m', m' < m ∧ W (i + 1) m' H') ∧
  ∀ x H', J.yld i H x H' → g x (wipe σ vs) H' fun σ2 H2 => wipe σ2 vs = wipe σ vs ∧ tt σ2 H2 fun b H3 => if b = true then te σ2 H3 fun y H4 => ∃ acc, H4 D = some (.lst acc) ∧ acc.length < sizeLine ∧ Nx (upd H4 D (.lst (acc ++ [y]))) else Nx H3)
theorem lc_coreT {pins : List (Addr × Obj)} {s : Shared} {σ : St} {H : Hp} {Q : VK} {pos' : Pos} {use : Option (Value → Sem Unit)} {Qf : Value → Shared → Prop} (hc : X.calm = true) (hN : X.N.Nodup) (I : Inv X pins σ H s) (hn : 1 ≤ s.toks) (hi : PI X tg iter wi) (ok : BlkOk X.N X.env.scope scope own)
    (hg : ∀ (s : Shared) (H : Hp) (C : Addr) (cl : List (Str × Addr)) (fp : List Addr), PG (X.blk s H scope (compEnvC scope cl C X.env) fp) tg g) (ht : ∀ (s : Shared) (H : Hp) (C : Addr) (cl : List (Str × Addr)) (fp : List Addr), PTs (X.blk s H scope (compEnvC scope cl C X.env) fp) ifs tt)
    (he : ∀ (s : Shared) (H : Hp) (C : Addr) (cl : List (Str × Addr)) (fp : List Addr), PET (X.blk s H scope (compEnvC scope cl C X.env) fp) elt te) (hs : ∀ x, foldedSetIterable iter X.env x = pure x) (h : tLc wi g tt te (own.map (·.2)) σ H Q)
    (hRR : ∀ D C s' m H', Inv X pins σ H' s' → Q (.ref D) H' → s'.heap.Ns C m → FpOk X pins H' C → compPost (model X.prog X.w) X.A X.xe use Qf (.ref D) C (.ok .next) s') :
    wpAny (model X.prog X.w) X.A (comprehension (.ListComp elt [⟨tg, iter, ifs, 0⟩] scope pos) scope X.env pos' (newList []) false (eval iter X.env) use) Qf X.xe s := by
  have start : wi σ H fun J H1 => ∀ D, H1 D = none → preL g tt te (own.map (·.2)) σ Q J D (upd H1 D (.lst [])) := h
  refine comp_open (o := { cls := .type "list", data := .seq ([] : List Value).toArray }) (ho := .lst []) rfl (fun _ _ _ _ _ a b => codeAny_compStart_list a b)
    (fun Q E s q => wpAny_newObj_type q (by show 0 ≤ sizeLine; decide)) (fun H s I => ⟨Nat.zero_le _, [], 0, .nil, Heap.get?_push_size _ rfl⟩) hN I hn hi ok hs start ?_ hRR
  intro s3 H3 C cl fp J it tn D s4 I4 n4 T st4 f4 ⟨W, ⟨m0, w0⟩, turn⟩
  refine clause (X := X.blk s3 H3 scope (compEnvC scope cl C X.env) fp) (src := iter) (ifs := ifs) (vs := own.map (·.2)) (rest := (do let _ ← (do let _ ← call (.builtin "list.append") [.ref D, ← eval elt (compEnvC scope cl C X.env)] : Sem Unit); again (.compLoop (.ListComp elt [⟨tg, iter, ifs, 0⟩] scope pos) 0 (.ref it) (.ref D) (compEnvC scope cl C X.env))))
    hc T (hg _ _ _ _ _) (ht _ _ _ _ _) (fun _ _ z => z.elim) rfl rfl rfl (fun b hb => (f4 b hb).2) W (fun i m H5 w5 => ?_) I4 n4 st4 (fun b hb => (f4 b hb).1) w0
  rcases turn i m H5 w5 with ⟨stop, qq⟩ | ⟨go, Nx, hNx, step⟩
  · exact .inl ⟨stop, fun s' I' _ => ⟨rfl, _, I', qq⟩⟩
  · refine .inr ⟨go, Nx, _, hNx, step, fun more σ2 H6 s6 I6 n6 hw em => ?_⟩
    refine wpAny_bind (wpAny_bind (wpAny_mono (he s3 H3 C cl fp _ s6 σ2 H6 _ n6 I6 em) (fun z s7 hz => ?_) fun _ _ z => z.elim))
    obtain ⟨yv, H7, I7, r7, acc, hD, hz7, nx⟩ := hz
    refine wpAny_bind (app_ok (X := X.blk s3 H3 scope (compEnvC scope cl C X.env) fp) I7 hD hz7 r7 fun s8 I8 => wpAny_pure (wpAny_pure ⟨rfl, _, I8.weak (by rw [← hw, wipe_length]) fun j v e => (by rw [← hw] at e; exact (wipe_some e).1), nx⟩))
theorem pst_setLc {i : Nat} {y : Str} (hc : X.calm = true) (hN : X.N.Nodup) (hy : X.N[i]? = some y) (hyl : X.env.scope.names.lookup y = some .local)
    (hsw : swapsWith (.ListComp elt [⟨tg, iter, ifs, 0⟩] scope pos) (some (.Name y py)) spos.line X.env = pure true) (hi : PI X tg iter wi) (ok : BlkOk X.N X.env.scope scope own)
    (hg : ∀ (s : Shared) (H : Hp) (C : Addr) (cl : List (Str × Addr)) (fp : List Addr), PG (X.blk s H scope (compEnvC scope cl C X.env) fp) tg g) (ht : ∀ (s : Shared) (H : Hp) (C : Addr) (cl : List (Str × Addr)) (fp : List Addr), PTs (X.blk s H scope (compEnvC scope cl C X.env) fp) ifs tt)
    (he : ∀ (s : Shared) (H : Hp) (C : Addr) (cl : List (Str × Addr)) (fp : List Addr), PET (X.blk s H scope (compEnvC scope cl C X.env) fp) elt te) (hs : ∀ x, foldedSetIterable iter X.env x = pure x) :
    PST X (.Assign [.Name y py] (.ListComp elt [⟨tg, iter, ifs, 0⟩] scope pos) spos) (tAsg (tLc wi g tt te (own.map (·.2))) (gName i)) := by
  intro pins s σ H D hn I h
  rw [exec_Assign_Name_used _ _ _ _ hsw]
  refine wpAny_bind (wpAny_standAt (wpAny_bind ?_))
  show wpAny _ X.A (comprehension _ scope X.env (firstIterPos [⟨tg, iter, ifs, 0⟩] pos) (newList []) false (eval iter X.env) (some (assign (.Name y py) X.env)) >>= fun _ => pure _) _ _ s
  have h2 : tLc wi g tt te (own.map (·.2)) σ H (fun x H1 => gName i x σ H1 D.nx) := h
  refine wpAny_bind (thn (lc_coreT (Qf := fun _ s' => SP X pins D .next s') hc hN I hn hi ok hg ht he hs h2 fun L C s' m H' I' q hns f => ?_) fun _ s' hq => wpAny_pure (wpAny_pure hq))
  obtain ⟨f0, f1, f2, f3, f4, f5⟩ := f
  show wpAny _ _ (assign (.Name y py) X.env (.ref L)) _ _ _
  refine wpAny_assign_Name (store_ok2 (v := V.ref L) I' hN hy (.inl hyl) rfl (fun s2 I2 w => ?_) (.inr hyl))
  obtain ⟨a, sb, ha⟩ := w
  have ne : C ≠ a := by
    rcases ha with z | z
    · rw [z]; exact f1
    · exact fun e => f4 y a z e.symm
  exact ⟨m, hns.sameBut sb ne, fun h3 sb3 => ⟨_, H', I2.turned (t' := s2.toks) (fun b o hb e => (sb3.2 b hb).trans e) f0 f1 f3 f4 f5, q⟩⟩
end
end L2

namespace L2
open PySem PySem.Spec PyProof.Rows
/-! ### {k: v for a in .. for b in ..} -/
section
variable {prog : Program} {w : World} {A : Around} {R : Result → Shared → Prop} {s : Shared} {kx vx : Expr} {g0 g1 : Comprehension} {scope : Scope} {pos : Pos} {it acc : Value} {env : Env}
/-- the second source begins -/
theorem dict_start1 (ha : g1.is_async = 0) (loop : codeAny (model prog w) A (.compLoop (.DictComp kx vx [g0, g1] scope pos) 1 it acc env) R s)
    (iter : wpAny (model prog w) A (pyIter it) (fun it' s' => codeAny (model prog w) A (.compLoop (.DictComp kx vx [g0, g1] scope pos) 1 it' acc env) R s') (notedBy (model prog w) A env fun x s' => R (.error x) s') s) :
    codeAny (model prog w) A (.compStart (.DictComp kx vx [g0, g1] scope pos) 1 it acc env) R s := by
  obtain ⟨t1, i1, f1, a1⟩ := g1
  cases ha
  refine codeAny_of_tree ?_
  show wpAny _ A ((compStart (.DictComp kx vx [g0, ⟨t1, i1, f1, 0⟩] scope pos) 1 it acc env).onRaise fun x => do noteFrame x env; standAt theWindowsPlace) _ _ s
  refine wpAny_notedAt ?_
  unfold compStart
  show wpAny _ A (ask >>= _) _ _ s
  refine wpAny_bind (wpAny_askSetting (wpAny_ite ?_))
  split
  · first
      | exact wpAny_pure ⟨rfl, loop⟩
      | exact wpAny_bind (wpAny_pure (wpAny_pure ⟨rfl, loop⟩))
  · first
      | exact wpAny_bind (wpAny_rule (wpAny_bind (wpAny_standAt (wpAny_bind (wpAny_mono iter (fun _ _ q => wpAny_pure ⟨rfl, q⟩) fun _ _ q => q)))))
      | (refine wpAny_bind (wpAny_rule ?_)
         show wpAny _ A (standAt i1.pos >>= _) _ _ s
         exact wpAny_bind (wpAny_standAt (wpAny_bind (wpAny_mono iter (fun _ _ q => wpAny_pure ⟨rfl, q⟩) fun _ _ q => q))))
end
section
variable {X : Cx} {kx vx tg iter tg1 iter1 : Expr} {ifs ifs1 : List Expr} {scope : Scope} {own : List (Str × Nat)} {vs1 : List Nat} {pos : Pos} {wi wi1 : TI} {g g1 : TG} {tt tt1 : TT} {tk tv : TE}
def preD2 (g : TG) (tt : TT) (wi1 : TI) (g1 : TG) (tt1 : TT) (tk tv : TE) (vs vs1 : List Nat) (σ : St) (Q : VK) : It → Addr → Hp → Prop := fun J D H => ∃ W : Nat → Nat → Hp → Prop, (∃ m, W 0 m H) ∧ ∀ i m H, W i m H →
  (J.stop i H ∧ Q (.ref D) H) ∨ (J.go i H ∧ ∃ Nx : Hp → Prop, (∀ H', Nx H' → ∃ m', m' < m ∧ W (i + 1) m' H') ∧ ∀ x H', J.yld i H x H' → g x (wipe σ vs) H' fun σ2 H2 => wipe σ2 vs = wipe σ vs ∧ tt σ2 H2 fun b H3 =>
    if b = true then wi1 σ2 H3 fun J1 H4 => ∃ W1 : Nat → Nat → Hp → Prop, (∃ m, W1 0 m H4) ∧ ∀ j k H, W1 j k H →
      (J1.stop j H ∧ Nx H) ∨ (J1.go j H ∧ ∃ Nx1 : Hp → Prop, (∀ H', Nx1 H' → ∃ k', k' < k ∧ W1 (j + 1) k' H') ∧ ∀ x H', J1.yld j H x H' → g1 x (wipe σ2 vs1) H' fun σ3 H5 => wipe σ3 vs1 = wipe σ2 vs1 ∧ tt1 σ3 H5 fun b H6 =>
        if b = true then tk σ3 H6 fun y H7 => tv σ3 H7 fun z H8 => ∃ kvs q, y = kV q ∧ H8 D = some (.dK kvs) ∧ kvs.length < sizeLine ∧ Nx1 (upd H8 D (.dK (putK kvs q z))) else Nx1 H6)
    else Nx H3)
def tDc2 (wi : TI) (g : TG) (tt : TT) (wi1 : TI) (g1 : TG) (tt1 : TT) (tk tv : TE) (vs vs1 : List Nat) : TE := fun σ H Q => wi σ H fun J H1 => ∀ D, H1 D = none → preD2 g tt wi1 g1 tt1 tk tv vs vs1 σ Q J D (upd H1 D (.dK []))
theorem dc2_core {pins : List (Addr × Obj)} {s : Shared} {σ : St} {H : Hp} {Q : VK} {pos' : Pos} {use : Option (Value → Sem Unit)} {Qf : Value → Shared → Prop} (hc : X.calm = true) (hN : X.N.Nodup) (I : Inv X pins σ H s) (hi : PI X tg iter wi) (ok : BlkOk X.N X.env.scope scope own) (hv : ∀ i ∈ vs1, i ∈ own.map (·.2))
    (hg : ∀ (s : Shared) (H : Hp) (C : Addr) (cl : List (Str × Addr)) (fp : List Addr), PG (X.blk s H scope (compEnvC scope cl C X.env) fp) tg g) (ht : ∀ (s : Shared) (H : Hp) (C : Addr) (cl : List (Str × Addr)) (fp : List Addr), PTs (X.blk s H scope (compEnvC scope cl C X.env) fp) ifs tt)
    (hi1 : ∀ (s : Shared) (H : Hp) (C : Addr) (cl : List (Str × Addr)) (fp : List Addr), PI (X.blk s H scope (compEnvC scope cl C X.env) fp) tg1 iter1 wi1)
    (hg1 : ∀ (s : Shared) (H : Hp) (C : Addr) (cl : List (Str × Addr)) (fp : List Addr), PG (X.blk s H scope (compEnvC scope cl C X.env) fp) tg1 g1) (ht1 : ∀ (s : Shared) (H : Hp) (C : Addr) (cl : List (Str × Addr)) (fp : List Addr), PTs (X.blk s H scope (compEnvC scope cl C X.env) fp) ifs1 tt1)
    (hk : ∀ (s : Shared) (H : Hp) (C : Addr) (cl : List (Str × Addr)) (fp : List Addr), PE (X.blk s H scope (compEnvC scope cl C X.env) fp) kx tk) (he : ∀ (s : Shared) (H : Hp) (C : Addr) (cl : List (Str × Addr)) (fp : List Addr), PE (X.blk s H scope (compEnvC scope cl C X.env) fp) vx tv)
    (hs : ∀ x, foldedSetIterable iter X.env x = pure x) (hs1 : ∀ env x, foldedSetIterable iter1 env x = pure x) (h : tDc2 wi g tt wi1 g1 tt1 tk tv (own.map (·.2)) vs1 σ H Q)
    (hRR : ∀ D C s' m H', Inv X pins σ H' s' → Q (.ref D) H' → s'.heap.Ns C m → FpOk X pins H' C → compPost (model X.prog X.w) X.A X.xe use Qf (.ref D) C (.ok .next) s') :
    wpAny (model X.prog X.w) X.A (comprehension (.DictComp kx vx [⟨tg, iter, ifs, 0⟩, ⟨tg1, iter1, ifs1, 0⟩] scope pos) scope X.env pos' newDict false (eval iter X.env) use) Qf X.xe s := by
  have start : wi σ H fun J H1 => ∀ D, H1 D = none → preD2 g tt wi1 g1 tt1 tk tv (own.map (·.2)) vs1 σ Q J D (upd H1 D (.dK [])) := h
  refine comp_open (n0 := 0) (o := { cls := .type "dict", data := .dict #[] }) (ho := .dK []) rfl (fun _ _ _ _ _ a b => codeAny_compStart_dict a b) (fun Q E s q => wpAny_newObj_type q) (fun H s I => dk_empty s.heap I.big) hN I (Nat.zero_le _) hi ok hs start ?_ hRR
  intro s3 H3 C cl fp J it tn D s4 I4 n4 T st4 f4 ⟨W, ⟨m0, w0⟩, turn⟩
  generalize hY : X.blk s3 H3 scope (compEnvC scope cl C X.env) fp = Y at *
  have kg := hg s3 H3 C cl fp
  have kt := ht s3 H3 C cl fp
  have ki1 := hi1 s3 H3 C cl fp
  have kg1 := hg1 s3 H3 C cl fp
  have kt1 := ht1 s3 H3 C cl fp
  have kk := hk s3 H3 C cl fp
  have ke := he s3 H3 C cl fp
  rw [hY] at kg kt ki1 kg1 kt1 kk ke
  have eprog : Y.prog = X.prog := by rw [← hY]
  have ew : Y.w = X.w := by rw [← hY]
  have eK : Y.K = X.K := by rw [← hY]
  have eA : Y.A = X.A := by rw [← hY]
  have eenv : Y.env = compEnvC scope cl C X.env := by rw [← hY]
  have exe : ∀ e s', ¬ Y.xe e s' := by rw [← hY]; exact fun _ _ z => z
  have ec : Y.calm = true := by rw [← hY]; exact hc
  rw [← eprog, ← ew, ← eA, ← eenv]
  rw [← eprog, ← ew, ← eK] at T
  generalize hce : Expr.DictComp kx vx [⟨tg, iter, ifs, 0⟩, ⟨tg1, iter1, ifs1, 0⟩] scope pos = ce
  refine clause (X := Y) (src := iter) (ifs := ifs) (vs := own.map (·.2)) (n0 := 0)
    (rest := (do
      let x ← eval iter1 Y.env
      standAt iter1.pos
      let x ← foldedSetIterable iter1 Y.env x
      let _ ← runOwn (.compStart ce 1 (← holding [x] (pyIter x)) (.ref D) Y.env) Y.env
      again (.compLoop ce 0 (.ref it) (.ref D) Y.env)))
    ec T kg kt (fun _ _ z => (exe _ _ z).elim) (by rw [← hce]; rfl) (by rw [← hce]; rfl) (by rw [← hce]; rfl) (fun b hb => (f4 b hb).2) W (fun i m H5 w5 => ?_) I4 (Nat.zero_le _) st4 (fun b hb => (f4 b hb).1) w0
  rcases turn i m H5 w5 with ⟨stop, qq⟩ | ⟨go, Nx, hNx, step⟩
  · exact .inl ⟨stop, fun s' I' _ => ⟨rfl, _, I', qq⟩⟩
  refine .inr ⟨go, Nx, _, hNx, step, fun more σ2 H6 s6 I6 n6 hw em => ?_⟩
  refine wpAny_bind (wpAny_mono (ki1.run _ s6 σ2 H6 _ I6 em) (fun xv s7 h7 => ?_) fun _ _ z => (exe _ _ z).elim)
  refine wpAny_bind (wpAny_standAt (wpAny_bind (wpAny_of_eq (hs1 _ xv) (wpAny_bind (wpAny_holding (wpAny_mono h7 (fun itv s8 h8 => ?_) fun _ _ z => (exe _ _ z).elim))))))
  obtain ⟨it1, fp1, tn1, J1, H8, ev, I8, T1, st8, f8, W1, ⟨m1, w1⟩, turn1⟩ := h8
  subst ev
  have I9 : Inv Y ([] ++ more) (wipe σ2 vs1) H8 s8 := I8.weak (wipe_length _ _) fun j v e => (wipe_some e).1
  have loop1 : codeAny (model Y.prog Y.w) Y.A (.compLoop ce 1 (.ref it1) (.ref D) Y.env) (fun r s' => r = .ok .next ∧ ∃ H', Inv Y ([] ++ more) (wipe σ2 vs1) H' s' ∧ Nx H') s8 := by
    refine clause (X := Y) (src := iter1) (ifs := ifs1) (vs := vs1) (n0 := 0)
      (rest := (do
        (do
          let kv ← eval kx Y.env
          let vv ← holding [kv] (eval vx Y.env)
          standAt { kx.pos with endLine := vx.pos.endLine, endCol := vx.pos.endCol }
          holding [kv, vv] (dictSet D kv vv) : Sem Unit)
        again (.compLoop ce 1 (.ref it1) (.ref D) Y.env)))
      ec T1 kg1 kt1 (fun _ _ z => (exe _ _ z).elim) (by rw [← hce]; rfl) (by rw [← hce]; rfl) (by rw [← hce]; rfl) (fun b hb => (f8 b hb).2) W1 (fun j k H10 w10 => ?_) I9 (Nat.zero_le _) st8 (fun b hb => (f8 b hb).1) w1
    rcases turn1 j k H10 w10 with ⟨stop, qq⟩ | ⟨go, Nx1, hNx1, step1⟩
    · exact .inl ⟨stop, fun s' I' _ => ⟨rfl, _, I', qq⟩⟩
    refine .inr ⟨go, Nx1, _, hNx1, step1, fun more1 σ3 H11 s11 I11 n11 hw1 em1 => ?_⟩
    refine wpAny_bind (wpAny_bind (wpAny_mono (kk.run _ s11 σ3 H11 _ I11 em1) (fun kv s12 h12 => ?_) fun _ _ z => (exe _ _ z).elim))
    obtain ⟨yk, H12, I12, r12, q12⟩ := h12
    refine wpAny_bind (wpAny_holding (wpAny_mono (ke.run _ s12 σ3 H12 _ I12 q12) (fun vv s13 h13 => ?_) fun _ _ z => (exe _ _ z).elim))
    obtain ⟨yv, H13, I13, r13, kvs, q, ek, hD13, hz13, nx⟩ := h13
    subst ek
    refine wpAny_bind (wpAny_standAt (wpAny_holding (d_dictSet (X := Y) I13 hD13 hz13 r12 r13 fun s14 I14 => ?_)))
    exact wpAny_pure ⟨rfl, _, I14.weak (by rw [← hw1, wipe_length]) fun j v e => (by rw [← hw1] at e; exact (wipe_some e).1), nx⟩
  refine wpAny_bind (wpAny_runOwn ?_)
  rw [Around.mark_none]
  have both : codeAny (model Y.prog Y.w) Y.A (.compStart ce 1 (.ref it1) (.ref D) Y.env) (fun r s' => r = .ok .next ∧ ∃ H', Inv Y ([] ++ more) (wipe σ2 vs1) H' s' ∧ Nx H') s8 := by
    subst hce
    exact dict_start1 rfl loop1 (T1.self Y.A 0 _ _ _ st8 loop1)
  refine codeAny_mono both fun r s' z => ?_
  obtain ⟨er, H', I', nx⟩ := z
  subst er
  have done : wpAny (model Y.prog Y.w) Y.A (again (.compLoop ce 0 (.ref it) (.ref D) Y.env)) (fun fin s4 => fin = .again (.compLoop ce 0 (.ref it) (.ref D) Y.env) ∧ ∃ H4, Inv Y ([] ++ more) (wipe σ (own.map (·.2))) H4 s4 ∧ Nx H4) (OutE Y fun r s' => r = .ok .next ∧ ∃ H', Inv Y [] (wipe σ (own.map (·.2))) H' s' ∧ Q (.ref D) H') s' := by
    refine wpAny_pure ⟨rfl, H', I'.weak (by rw [← hw, wipe_length, wipe_length]) fun j v e => ?_, nx⟩
    rw [← hw] at e
    obtain ⟨e1, e2⟩ := wipe_some e
    rw [wipe_out fun m => e2 (hv j m)]
    exact e1
  first
    | exact done
    | exact wpAny_bind (wpAny_pure done)
theorem pe_dc2 (hc : X.calm = true) (hN : X.N.Nodup) (hi : PI X tg iter wi) (ok : BlkOk X.N X.env.scope scope own) (hv : ∀ i ∈ vs1, i ∈ own.map (·.2))
    (hg : ∀ (s : Shared) (H : Hp) (C : Addr) (cl : List (Str × Addr)) (fp : List Addr), PG (X.blk s H scope (compEnvC scope cl C X.env) fp) tg g) (ht : ∀ (s : Shared) (H : Hp) (C : Addr) (cl : List (Str × Addr)) (fp : List Addr), PTs (X.blk s H scope (compEnvC scope cl C X.env) fp) ifs tt)
    (hi1 : ∀ (s : Shared) (H : Hp) (C : Addr) (cl : List (Str × Addr)) (fp : List Addr), PI (X.blk s H scope (compEnvC scope cl C X.env) fp) tg1 iter1 wi1)
    (hg1 : ∀ (s : Shared) (H : Hp) (C : Addr) (cl : List (Str × Addr)) (fp : List Addr), PG (X.blk s H scope (compEnvC scope cl C X.env) fp) tg1 g1) (ht1 : ∀ (s : Shared) (H : Hp) (C : Addr) (cl : List (Str × Addr)) (fp : List Addr), PTs (X.blk s H scope (compEnvC scope cl C X.env) fp) ifs1 tt1)
    (hk : ∀ (s : Shared) (H : Hp) (C : Addr) (cl : List (Str × Addr)) (fp : List Addr), PE (X.blk s H scope (compEnvC scope cl C X.env) fp) kx tk) (he : ∀ (s : Shared) (H : Hp) (C : Addr) (cl : List (Str × Addr)) (fp : List Addr), PE (X.blk s H scope (compEnvC scope cl C X.env) fp) vx tv)
    (hs : ∀ x, foldedSetIterable iter X.env x = pure x) (hs1 : ∀ env x, foldedSetIterable iter1 env x = pure x) :
    PE X (.DictComp kx vx [⟨tg, iter, ifs, 0⟩, ⟨tg1, iter1, ifs1, 0⟩] scope pos) (tDc2 wi g tt wi1 g1 tt1 tk tv (own.map (·.2)) vs1) := by
  refine ⟨fun pins s σ H Q I h => ?_⟩
  rw [arm_eval_DictComp]
  exact dc2_core hc hN I hi ok hv hg ht hi1 hg1 ht1 hk he hs hs1 h fun D C s' m H' I' q hn f => ⟨m, hn, fun h'' sb => ⟨.ref D, H', I'.turned (t' := s'.toks) (fun b o hb e => (sb.2 b hb).trans e) f.1 f.2.1 f.2.2.2.1 f.2.2.2.2.1 f.2.2.2.2.2, rfl, q⟩⟩
theorem ps_setDc2 {i : Nat} {y : Str} {py spos : Pos} (hc : X.calm = true) (hN : X.N.Nodup) (hy : X.N[i]? = some y) (hyl : X.env.scope.names.lookup y = some .local)
    (hsw : swapsWith (.DictComp kx vx [⟨tg, iter, ifs, 0⟩, ⟨tg1, iter1, ifs1, 0⟩] scope pos) (some (.Name y py)) spos.line X.env = pure true) (hi : PI X tg iter wi) (ok : BlkOk X.N X.env.scope scope own) (hv : ∀ i ∈ vs1, i ∈ own.map (·.2))
    (hg : ∀ (s : Shared) (H : Hp) (C : Addr) (cl : List (Str × Addr)) (fp : List Addr), PG (X.blk s H scope (compEnvC scope cl C X.env) fp) tg g) (ht : ∀ (s : Shared) (H : Hp) (C : Addr) (cl : List (Str × Addr)) (fp : List Addr), PTs (X.blk s H scope (compEnvC scope cl C X.env) fp) ifs tt)
    (hi1 : ∀ (s : Shared) (H : Hp) (C : Addr) (cl : List (Str × Addr)) (fp : List Addr), PI (X.blk s H scope (compEnvC scope cl C X.env) fp) tg1 iter1 wi1)
    (hg1 : ∀ (s : Shared) (H : Hp) (C : Addr) (cl : List (Str × Addr)) (fp : List Addr), PG (X.blk s H scope (compEnvC scope cl C X.env) fp) tg1 g1) (ht1 : ∀ (s : Shared) (H : Hp) (C : Addr) (cl : List (Str × Addr)) (fp : List Addr), PTs (X.blk s H scope (compEnvC scope cl C X.env) fp) ifs1 tt1)
    (hk : ∀ (s : Shared) (H : Hp) (C : Addr) (cl : List (Str × Addr)) (fp : List Addr), PE (X.blk s H scope (compEnvC scope cl C X.env) fp) kx tk) (he : ∀ (s : Shared) (H : Hp) (C : Addr) (cl : List (Str × Addr)) (fp : List Addr), PE (X.blk s H scope (compEnvC scope cl C X.env) fp) vx tv)
    (hs : ∀ x, foldedSetIterable iter X.env x = pure x) (hs1 : ∀ env x, foldedSetIterable iter1 env x = pure x) :
    PS X (.Assign [.Name y py] (.DictComp kx vx [⟨tg, iter, ifs, 0⟩, ⟨tg1, iter1, ifs1, 0⟩] scope pos) spos) (tAsg (tDc2 wi g tt wi1 g1 tt1 tk tv (own.map (·.2)) vs1) (gName i)) := by
  refine ⟨fun pins s σ H D I h => ?_⟩
  rw [exec_Assign_Name_used _ _ _ _ hsw]
  refine wpAny_bind (wpAny_standAt (wpAny_bind ?_))
  show wpAny _ X.A (comprehension _ scope X.env (firstIterPos [⟨tg, iter, ifs, 0⟩, ⟨tg1, iter1, ifs1, 0⟩] pos) newDict false (eval iter X.env) (some (assign (.Name y py) X.env)) >>= fun _ => pure _) _ _ s
  have h2 : tDc2 wi g tt wi1 g1 tt1 tk tv (own.map (·.2)) vs1 σ H (fun x H1 => gName i x σ H1 D.nx) := h
  refine wpAny_bind (thn (dc2_core (Qf := fun _ s' => SP X pins D .next s') hc hN I hi ok hv hg ht hi1 hg1 ht1 hk he hs hs1 h2 fun L C s' m H' I' q hns f => ?_) fun _ s' hq => wpAny_pure (wpAny_pure hq))
  obtain ⟨f0, f1, f2, f3, f4, f5⟩ := f
  show wpAny _ _ (assign (.Name y py) X.env (.ref L)) _ _ _
  refine wpAny_assign_Name (store_ok2 (v := V.ref L) I' hN hy (.inl hyl) rfl (fun s2 I2 w => ?_) (.inr hyl))
  obtain ⟨a, sb, ha⟩ := w
  have ne : C ≠ a := by
    rcases ha with z | z
    · rw [z]; exact f1
    · exact fun e => f4 y a z e.symm
  exact ⟨m, hns.sameBut sb ne, fun h3 sb3 => ⟨_, H', I2.turned (t' := s2.toks) (fun b o hb e => (sb3.2 b hb).trans e) f0 f1 f3 f4 f5, q⟩⟩
theorem swD_true {gs : List Comprehension} {py : Pos} {y : Str} {l : Nat} {env : Env} (hk : env.scope.kind = .function) (hy : env.scope.names.lookup y = some .local) (hl : (py.line == pos.line) = true)
    (ha : (scope.names.any fun (n, k) => n == y && (k == .local || k == .cell)) = false) : swapsWith (.DictComp kx vx gs scope pos) (some (.Name y py)) l env = pure true := by
  have k1 : env.kindOf y = some .local := hy
  have k2 : env.blockKind = .function := by unfold Env.blockKind; rw [hk]; rfl
  unfold swapsWith
  simp only [k2, k1, ha, Expr.pos, hl]
  rfl
end
end L2
namespace Dl
open PySem L2
section
variable {X : Cx} {kx vx tg iter tg1 iter1 : Expr} {ifs ifs1 : List Expr} {scope : Scope} {own : List (Str × Nat)} {vs1 : List Nat} {pos : Pos} {wi wi1 : WI} {g g1 : TG} {wg wg1 : WG} {tt tt1 : WT} {wk wv : WE}
def dcBody2 (its : List D) (g : WG) (tt : WT) (wi1 : WI) (g1 : WG) (tt1 : WT) (wk wv : WE) (vs vs1 : List Nat) (fin : Addr → List (Key × D) → Store → Prop) (ρ : Env) (μ1 : Store) : Prop := ∀ L, μ1 L = none → ∃ I : Nat → List (Key × D) → Store → Prop, I 0 [] (setS μ1 L (.dct [])) ∧
  (∀ i d acc μ', its[i]? = some d → μ' L = some (.dct acc) → I i acc μ' → g d (wipeE ρ vs) μ' fun ρ2 μ2 => tt ρ2 μ2 fun b μ3 => if b = true then wi1 ρ2 μ3 fun its1 μ4 => ∃ (I1 : Nat → List (Key × D) → Store → Prop) (acc4 : List (Key × D)), μ4 L = some (.dct acc4) ∧ I1 0 acc4 μ4 ∧
      (∀ j d1 acc1 μ5, its1[j]? = some d1 → μ5 L = some (.dct acc1) → I1 j acc1 μ5 → g1 d1 (wipeE ρ2 vs1) μ5 fun ρ6 μ6 => tt1 ρ6 μ6 fun b μ7 => if b = true then wk ρ6 μ7 fun x μ8 => wv ρ6 μ8 fun y μ9 => ∃ k acc9, keyD x = some k ∧ μ9 L = some (.dct acc9) ∧ acc9.length < sizeLine ∧ I1 (j + 1) (putD acc9 k y) (setS μ9 L (.dct (putD acc9 k y)))
        else ∃ acc7, μ7 L = some (.dct acc7) ∧ I1 (j + 1) acc7 μ7) ∧
      (∀ acc μ', μ' L = some (.dct acc) → I1 its1.length acc μ' → I (i + 1) acc μ')
    else ∃ acc3, μ3 L = some (.dct acc3) ∧ I (i + 1) acc3 μ3) ∧
  ∀ acc μ', μ' L = some (.dct acc) → I its.length acc μ' → fin L acc μ'
def wDc2 (wi : WI) (g : WG) (tt : WT) (wi1 : WI) (g1 : WG) (tt1 : WT) (wk wv : WE) (vs vs1 : List Nat) : WE := fun ρ μ P => wi ρ μ fun its μ1 => dcBody2 its g tt wi1 g1 tt1 wk wv vs vs1 (fun L acc μ' => P (.ref L) μ') ρ μ1
theorem ldc2 {K : PySem.W.Frag} {vs : List Nat} {σ : L2.St} {H : Hp} {Q : VK} (hg : GPat K vs g wg) (hg1 : GPat K vs1 g1 wg1) (h : LE K (wDc2 wi wg tt wi1 wg1 tt1 wk wv vs vs1) σ H Q) :
    tDc2 (LI K wi) g (LT K tt) (LI K wi1) g1 (LT K tt1) (LE K wk) (LE K wv) vs vs1 σ H Q := by
  obtain ⟨ρ, μ, G, P, he, hm, hw, ht⟩ := h
  refine ⟨ρ, μ, G, _, he, hm, hw, ?_⟩
  rintro its μ1 H1 G1 J hI e1 m1 hJ L hL
  obtain ⟨I, h0, hturn, hend⟩ := hI L (m1.nn hL)
  refine ⟨fun i m H' => m = its.length - i ∧ i ≤ its.length ∧ ∃ acc μ' G', Ex G1 G' ∧ Sm K μ' G' H' ∧ μ' L = some (.dct acc) ∧ I i acc μ',
    ⟨its.length, by simp, Nat.zero_le _, [], _, G1, Ex.refl _, m1.write (c := .dct []) (m1.ex.nn hL) ⟨[], upd_same, rfl, .nil⟩, setS_same, h0⟩, ?_⟩
  rintro i m H' ⟨rfl, hi, acc, μ', G', e', hm', uD, hI⟩
  obtain ⟨wgo, wstop⟩ := hJ i H' G' μ' e' hm'
  by_cases hlt : i < its.length
  · obtain ⟨go, yl⟩ := wgo hlt
    refine .inr ⟨go, fun H2 => ∃ acc2 μ2 G2, Ex G1 G2 ∧ Sm K μ2 G2 H2 ∧ μ2 L = some (.dct acc2) ∧ I (i + 1) acc2 μ2, fun H2 ⟨a, b, c, x1, x2, x3, x5⟩ => ⟨its.length - (i + 1), by omega, rfl, hlt, a, b, c, x1, x2, x3, x5⟩, fun x H2 hy => ?_⟩
    obtain ⟨G3, d, hd, e3, m3, r3⟩ := yl x H2 hy
    have heW : EnvR K G3 (wipeE ρ vs) (L2.wipe σ vs) := (((he.mono e1).mono e').mono e3).wipe vs
    refine hg heW m3 r3 (hturn i d acc μ' hd uD hI) fun ρ4 μ4 σ4 H4 G4 p4 e4 he4 hm4 q4 => ⟨q4.trans (wipe_wipe fun _ h => h), ρ4, μ4, G4, _, he4, hm4, p4, fun b μ5 H5 G5 p5 e5 m5 => ?_⟩
    have eG : Ex G1 G5 := ((e'.trans e3).trans e4).trans e5
    cases b with
    | false =>
      rw [if_neg Bool.false_ne_true] at p5
      refine iteF ?_
      obtain ⟨acc3, u3, hI3⟩ := p5
      exact ⟨acc3, μ5, G5, eG, m5, u3, hI3⟩
    | true =>
      rw [if_pos rfl] at p5
      refine iteT ⟨ρ4, μ5, G5, _, he4.mono e5, m5, p5, fun its1 μ6 H6 G6 J1 p6 e6 m6 hJ1 => ?_⟩
      obtain ⟨I1, acc4, u4, h10, hturn1, hend1⟩ := p6
      refine ⟨fun j k H' => k = its1.length - j ∧ j ≤ its1.length ∧ ∃ acc μ' G', Ex G6 G' ∧ Sm K μ' G' H' ∧ μ' L = some (.dct acc) ∧ I1 j acc μ', ⟨its1.length, by simp, Nat.zero_le _, acc4, μ6, G6, Ex.refl _, m6, u4, h10⟩, ?_⟩
      rintro j k H7 ⟨rfl, hj, acc7, μ7, G7, e7, hm7, u7, hI7⟩
      obtain ⟨wgo1, wstop1⟩ := hJ1 j H7 G7 μ7 e7 hm7
      by_cases hlt1 : j < its1.length
      · obtain ⟨go1, yl1⟩ := wgo1 hlt1
        refine .inr ⟨go1, fun H2 => ∃ acc2 μ2 G2, Ex G6 G2 ∧ Sm K μ2 G2 H2 ∧ μ2 L = some (.dct acc2) ∧ I1 (j + 1) acc2 μ2, fun H2 ⟨a, b, c, x1, x2, x3, x5⟩ => ⟨its1.length - (j + 1), by omega, rfl, hlt1, a, b, c, x1, x2, x3, x5⟩, fun x H8 hy => ?_⟩
        obtain ⟨G8, d1, hd1, e8, m8, r8⟩ := yl1 x H8 hy
        have heW1 : EnvR K G8 (wipeE ρ4 vs1) (L2.wipe σ4 vs1) := ((((he4.mono e5).mono e6).mono e7).mono e8).wipe vs1
        refine hg1 heW1 m8 r8 (hturn1 j d1 acc7 μ7 hd1 u7 hI7) fun ρ9 μ9 σ9 H9 G9 p9 e9 he9 hm9 q9 => ⟨q9.trans (wipe_wipe fun _ h => h), ρ9, μ9, G9, _, he9, hm9, p9, fun b μa Ha Ga pa ea ma => ?_⟩
        have eH : Ex G6 Ga := ((e7.trans e8).trans e9).trans ea
        cases b with
        | true =>
          rw [if_pos rfl] at pa
          refine iteT ⟨ρ9, μa, Ga, _, he9.mono ea, ma, pa, fun x10 μb vb Hb Gb pb eb mb rb => ⟨ρ9, μb, Gb, _, (he9.mono ea).mono eb, mb, pb, fun y μc vc Hc Gc pc ec mc rc => ?_⟩⟩
          obtain ⟨q, acc9, hq, u9, hz, hI9⟩ := pc
          obtain ⟨h0, kvs, h1, ek, rr⟩ := mc.st L _ u9
          obtain ⟨i1, i2⟩ := putD_keys (k := q) rc ek rr
          exact ⟨kvs, q, keyD_ok hq (rb.mono ec), h1, by rw [len_keys ek]; exact hz, putD acc9 q y, _, Gc, (eH.trans eb).trans ec, mc.write (c := .dct (putD acc9 q y)) h0 ⟨_, upd_same, i1, i2⟩, setS_same, hI9⟩
        | false =>
          rw [if_neg Bool.false_ne_true] at pa
          refine iteF ?_
          obtain ⟨acca, ua, hIa⟩ := pa
          exact ⟨acca, μa, Ga, eH, ma, ua, hIa⟩
      · have ej : j = its1.length := by omega
        subst ej
        exact .inl ⟨wstop1 (Nat.le_refl _), acc7, μ7, G7, (eG.trans e6).trans e7, hm7, u7, hend1 acc7 μ7 u7 hI7⟩
  · have ei : i = its.length := by omega
    subst ei
    exact .inl ⟨wstop (Nat.le_refl _), ht _ _ _ _ _ (hend acc μ' uD hI) (e1.trans e') hm' (.ref L)⟩
theorem de_dc2 (hc : X.calm = true) (hN : X.N.Nodup) (hi : DI X tg iter wi) (ok : BlkOk X.N X.env.scope scope own) (hv : ∀ i ∈ vs1, i ∈ own.map (·.2)) (hp : GPat X.K (own.map (·.2)) g wg) (hp1 : GPat X.K vs1 g1 wg1)
    (hg : ∀ (s : Shared) (H : Hp) (C : Addr) (cl : List (Str × Addr)) (fp : List Addr), PG (X.blk s H scope (compEnvC scope cl C X.env) fp) tg g) (ht : ∀ (s : Shared) (H : Hp) (C : Addr) (cl : List (Str × Addr)) (fp : List Addr), DTs (X.blk s H scope (compEnvC scope cl C X.env) fp) ifs tt)
    (hi1 : ∀ (s : Shared) (H : Hp) (C : Addr) (cl : List (Str × Addr)) (fp : List Addr), DI (X.blk s H scope (compEnvC scope cl C X.env) fp) tg1 iter1 wi1)
    (hg1 : ∀ (s : Shared) (H : Hp) (C : Addr) (cl : List (Str × Addr)) (fp : List Addr), PG (X.blk s H scope (compEnvC scope cl C X.env) fp) tg1 g1) (ht1 : ∀ (s : Shared) (H : Hp) (C : Addr) (cl : List (Str × Addr)) (fp : List Addr), DTs (X.blk s H scope (compEnvC scope cl C X.env) fp) ifs1 tt1)
    (hk : ∀ (s : Shared) (H : Hp) (C : Addr) (cl : List (Str × Addr)) (fp : List Addr), DE (X.blk s H scope (compEnvC scope cl C X.env) fp) kx wk) (he : ∀ (s : Shared) (H : Hp) (C : Addr) (cl : List (Str × Addr)) (fp : List Addr), DE (X.blk s H scope (compEnvC scope cl C X.env) fp) vx wv)
    (hs : ∀ x, foldedSetIterable iter X.env x = pure x := by intro _; rfl) (hs1 : ∀ env x, foldedSetIterable iter1 env x = pure x := by intro _ _; rfl) :
    DE X (.DictComp kx vx [⟨tg, iter, ifs, 0⟩, ⟨tg1, iter1, ifs1, 0⟩] scope pos) (wDc2 wi wg tt wi1 wg1 tt1 wk wv (own.map (·.2)) vs1) :=
  ⟨wkE (pe_dc2 hc hN hi.p ok hv hg (fun s H C cl fp => (ht s H C cl fp).p) (fun s H C cl fp => (hi1 s H C cl fp).p) hg1 (fun s H C cl fp => (ht1 s H C cl fp).p) (fun s H C cl fp => (hk s H C cl fp).p) (fun s H C cl fp => (he s H C cl fp).p) hs hs1) fun σ H Q h => ldc2 hp hp1 h⟩
theorem ds_setDc2 {i : Nat} {y : Str} {py spos : Pos} (hc : X.calm = true) (hN : X.N.Nodup) (hy : X.N[i]? = some y) (hyl : X.env.scope.names.lookup y = some .local)
    (hsw : swapsWith (.DictComp kx vx [⟨tg, iter, ifs, 0⟩, ⟨tg1, iter1, ifs1, 0⟩] scope pos) (some (.Name y py)) spos.line X.env = pure true) (hi : DI X tg iter wi) (ok : BlkOk X.N X.env.scope scope own) (hv : ∀ i ∈ vs1, i ∈ own.map (·.2)) (hp : GPat X.K (own.map (·.2)) g wg) (hp1 : GPat X.K vs1 g1 wg1)
    (hg : ∀ (s : Shared) (H : Hp) (C : Addr) (cl : List (Str × Addr)) (fp : List Addr), PG (X.blk s H scope (compEnvC scope cl C X.env) fp) tg g) (ht : ∀ (s : Shared) (H : Hp) (C : Addr) (cl : List (Str × Addr)) (fp : List Addr), DTs (X.blk s H scope (compEnvC scope cl C X.env) fp) ifs tt)
    (hi1 : ∀ (s : Shared) (H : Hp) (C : Addr) (cl : List (Str × Addr)) (fp : List Addr), DI (X.blk s H scope (compEnvC scope cl C X.env) fp) tg1 iter1 wi1)
    (hg1 : ∀ (s : Shared) (H : Hp) (C : Addr) (cl : List (Str × Addr)) (fp : List Addr), PG (X.blk s H scope (compEnvC scope cl C X.env) fp) tg1 g1) (ht1 : ∀ (s : Shared) (H : Hp) (C : Addr) (cl : List (Str × Addr)) (fp : List Addr), DTs (X.blk s H scope (compEnvC scope cl C X.env) fp) ifs1 tt1)
    (hk : ∀ (s : Shared) (H : Hp) (C : Addr) (cl : List (Str × Addr)) (fp : List Addr), DE (X.blk s H scope (compEnvC scope cl C X.env) fp) kx wk) (he : ∀ (s : Shared) (H : Hp) (C : Addr) (cl : List (Str × Addr)) (fp : List Addr), DE (X.blk s H scope (compEnvC scope cl C X.env) fp) vx wv)
    (hs : ∀ x, foldedSetIterable iter X.env x = pure x := by intro _; rfl) (hs1 : ∀ env x, foldedSetIterable iter1 env x = pure x := by intro _ _; rfl) :
    DS X (.Assign [.Name y py] (.DictComp kx vx [⟨tg, iter, ifs, 0⟩, ⟨tg1, iter1, ifs1, 0⟩] scope pos) spos) (wAsg (wDc2 wi wg tt wi1 wg1 tt1 wk wv (own.map (·.2)) vs1) (wgName i)) :=
  ⟨wkS (ps_setDc2 hc hN hy hyl hsw hi.p ok hv hg (fun s H C cl fp => (ht s H C cl fp).p) (fun s H C cl fp => (hi1 s H C cl fp).p) hg1 (fun s H C cl fp => (ht1 s H C cl fp).p) (fun s H C cl fp => (hk s H C cl fp).p) (fun s H C cl fp => (he s H C cl fp).p) hs hs1) fun D σ H ⟨ρ, μ, G, W, hr, hm, hw, htl⟩ =>
    ldc2 hp hp1 ⟨ρ, μ, G, _, hr, hm, hw, fun d μ1 v H1 G1 p e m r => htl.nx _ _ _ _ _ p e ((hr.mono e).set i r) m⟩⟩
end
end Dl

namespace Dl
open PySem L2 PySem.Spec PyProof.Rows
/-! ### C.m(k = v, ..), m a classmethod -/
structure DCmeN (P : Program) (w : World) (K : PySem.W.Frag) (mg : Str → Option Value) (base : Heap) (k : Nat) (C : Addr) (m : Str) (d : DSp) (ks : List Str) (is : List Nat) (dds : List D) : Prop where
  ex : ∃ (mc : Value) (p g : Addr) (fd : FuncData) (ps : List Str) (ds : List Value) (dvs : List V), ClX.CRead K C mc ∧ ClX.CMet K C mc m p g ∧ FnOk P w K mg base CX0 k g fd ps (LSp K d) ∧ KB K fd ps 1 ks is ds ∧ Vals dvs ds ∧ ∀ G, Rps K G dds dvs
theorem CmAt.cmeN {P : Program} {w : World} {K : PySem.W.Frag} {mg : Str → Option Value} {base : Heap} {C : Addr} {m qual : Str} {st : Stmt} {dsV ds : List Value} {dvs : List V} {dds : List D} {N ps ks : List Str} {is : List Nat} {k : Nat} {d : DSp} {ws : WS} (D : CmAt K C m qual st dsV) (S : FnScope N ps (defScope st)) (len : ∀ ds μ Q, d ds μ Q → ds.length = ps.length)
    (hb : ∀ {f : Addr} (cdv : Value) (A : Around) (outer : List PySem.Env) (s : Shared) (H : Hp) (E : XK), Room k (A.deeper (PyProof.Rows.envOfC qual (defScope st) s.heap.objs.size f cdv)) → DSs (cxOf CX0 P w K mg base N qual (defScope st) f cdv A outer s H E).nox (defBody st) ws)
    (ok : ∀ ds μ Q, d ds μ Q → ws { nx := fun _ μ' => ∃ μ2, Sub μ2 μ' ∧ Q .non μ2, rt := Q } (startD N ds) μ) (b : ∀ {f fd}, FnAt K m qual st dsV f fd → KB K fd ps 1 ks is ds) (vd : Vals dvs ds) (rd : ∀ G, Rps K G dds dvs) : DCmeN P w K mg base (k + 1) C m d ks is dds := by
  obtain ⟨mc, p, g, fd, r, c, F⟩ := D.ex
  exact ⟨mc, p, g, fd, ps, ds, dvs, r, c, F.ok S len (hb (f := g)) ok, b F, vd, rd⟩
def wCMeN (C : Addr) (d : DSp) (n : Nat) (is : List Nat) (dds : List D) (wo : WE) (wa : WA) : WE := fun ρ μ P => wo ρ μ fun x μ1 => x = .ref C ∧ wa ρ μ1 fun ds μ2 => ds.length = n ∧ d (L2.pick is (.ref C :: (ds ++ dds))) μ2 P
theorem de_cmeN {X : Cx} {j k : Nat} {m : Str} {C : Addr} {d : DSp} {ks : List Str} {is : List Nat} {dds : List D} {pos apos : Pos} {o : Expr} {kws : List Keyword} {wo : WE} {wa : WA} {pl : Sem Bool} (c : DCmeN X.prog X.w X.K X.mg X.base k C m d ks is dds) (hr : Room j X.A) (hk : k ≤ j) (ho : DE X o wo) (ha : DAK X kws wa)
    (hall : (backToKw pos (keywordEach kws X.env)).all (·.1.isSome) = true := by rfl) (hks : (backToKw pos (keywordEach kws X.env)).filterMap (·.1) = ks := by rfl)
    (hpl : ((backTo pos (starEach [] X.env)).any (·.1) || (backToKw pos (keywordEach kws X.env)).any (·.1.isNone)) = false := by rfl)
    (ht : eval (.Call (.Attribute o m apos) [] kws pos) X.env = (do
      let ov ← eval o X.env
      standAt apos.atName
      let (f, first) ← holding [ov] (getMethod ov m pl)
      callWith pos f first (backTo pos (starEach [] X.env)) (backToKw pos (keywordEach kws X.env))) := by rfl) : DE X (.Call (.Attribute o m apos) [] kws pos) (wCMeN C d ks.length is dds wo wa) := by
  obtain ⟨mc, p, g, fd, ps, ds, dvs, r, cm, F, b, vd, rd⟩ := c.ex
  refine ⟨⟨fun pins s σ H Q I h => ?_⟩⟩
  obtain ⟨ρ, μ, G, P, he, hm, hw, htl⟩ := h
  refine PySem.W.methodCall_KW (pl := pl) (thn (ho.p.run pins s σ H (fun x H1 => x = .ref C ∧ LA X.K wa σ H1 fun zs H2 => zs.length = ks.length ∧ LSp X.K d (L2.pick is (.ref C :: (zs ++ dvs))) H2 Q E0) I
    ⟨ρ, μ, G, _, he, hm, hw, fun y μ1 v1 H1 G1 p1 e1 m1 r1 => by
      obtain ⟨rfl, p1⟩ := p1
      cases r1
      exact ⟨rfl, ρ, μ1, G1, _, he.mono e1, m1, p1, fun zs μ2 vs H2 G2 p2 e2 m2 r2 => ⟨r2.length.symm.trans p2.1, L2.pick is (.ref C :: (zs ++ dds)), μ2, G2, P, (Rps.cons (.ref C) (r2.append (rd G2))).pick is, m2, p2.2, htl.mono (e1.trans e2)⟩⟩⟩) fun u s1 ⟨y, H1, I1, rx, ey, q1⟩ => ?_) ht
  subst ey
  obtain rfl : u = Value.ref C := rx
  refine ClX.getmethcm_ok I1 r cm fun s2 I2 => ?_
  refine PySem.W.callWith_of (first := []) hpl (PySem.W.keeps_M (K := X.K) (q := s1.heap.objs.size) (self := .ref C) cm.fi) (evalArgs_kw2_nil hall (thn (ha.p.run pos _ s2 σ H1 _ I2 q1) fun ws s3 ⟨zs, H2, I3, rz, l2, q2⟩ => ⟨⟨ClX.pin_at I3, I3.kIn⟩, ?_⟩))
  rw [hks]
  suffices z : wpAny (model X.prog X.w) X.A (call (.ref s1.heap.objs.size) [] (ks.zip ws)) (EP X ((s1.heap.objs.size, PySem.W.methodObj (.ref g) (.ref C)) :: pins) σ Q) X.xe s3 from thn z fun _ _ y => ClX.unpinE y
  have rr : Vals (L2.pick is (.ref C :: (zs ++ dvs))) (L2.pick is ([Value.ref C] ++ ws ++ ds)) := by
    have rc : Vals (V.ref C :: (zs ++ dvs)) (Value.ref C :: (ws ++ ds)) := .cons rfl (rz.append vd)
    have := rc.pick is
    simpa using this
  refine wpAny_call (PySem.W.method_call (ClX.pin_at I3) (codeAny_mono (F.run X.A X.stack s3 H2 ⟨[.ref C], ks.zip ws⟩ _ _ Q E0 (hr.mono hk) I3.env0 (b.to s3 [.ref C] ws I3.kIn rfl (rz.length.symm.trans l2)) rr q2) fun r s' hq => ?_))
  match r, hq with
  | .error e, hq => exact hq.elim
  | .ok (.ret u), hq => exact I3.after hq
end Dl

/-! DSs: sorted of texts, any number of them. -/
namespace SrtO
open PySem PyProof.Rows Srt
section
variable {prog : Program} {w : World} {A : Around} {E : Value → Shared → Prop} {s : Shared}
def ltSv (v u : Value) : Bool := decide ((strOf v).cps.toList < (strOf u).cps.toList)
theorem swo_str : Swo ltSv := by
  refine ⟨fun x y h => ?_, fun x y z h1 h2 => ?_⟩
  · have a := of_decide_eq_true (p := (strOf x).cps.toList < (strOf y).cps.toList) h
    exact decide_eq_false (p := (strOf y).cps.toList < (strOf x).cps.toList) (List.lt_asymm a)
  · have a := of_decide_eq_false (p := (strOf y).cps.toList < (strOf x).cps.toList) h1
    have b := of_decide_eq_false (p := (strOf z).cps.toList < (strOf y).cps.toList) h2
    exact decide_eq_false (p := (strOf z).cps.toList < (strOf x).cps.toList) (List.le_trans (show (strOf x).cps.toList ≤ (strOf y).cps.toList from a) (show (strOf y).cps.toList ≤ (strOf z).cps.toList from b))
theorem str_cmp {vs : List Value} {ss : List PySem.Str} (hS : StrsAre vs ss) : Cmp prog w A s oneType' (fun p => p.1 ∈ vs) (lt2 ltSv) := by
  intro p q hm hm'
  obtain ⟨a, t, e⟩ := hS.all _ hm
  obtain ⟨b, u, e'⟩ := hS.all _ hm'
  show wpAny (model prog w) A (keyLt' oneType' p.1 q.1) (fun r s' => s' = s ∧ r = ltSv p.1 q.1) (fun _ _ => False) s
  rw [e, e', keyLt'_oneType]
  exact oneLt_str ⟨rfl, rfl⟩
theorem strs_sortable {a : Addr} {vs : List Value} {ss : List PySem.Str} (hS : StrsAre vs ss) (h2 : 2 ≤ vs.length) : SortableO prog w A s a vs ltSv := by
  intro h' _
  refine ⟨oneType', fun Q E hq => ?_, str_cmp hS⟩
  match vs, hS, h2 with
  | v1 :: v2 :: rest, hS, _ =>
    rw [keyKind_strs hS]
    exact wpAny_pure hq
  | [], _, h => exact absurd h (by decide)
  | [v], _, h => exact absurd h (by simp)
theorem strs_out {vs out : List Value} {ss : List PySem.Str} (hS : StrsAre vs ss) (hs : Srtd ltSv out) (hb : Stb ltSv out vs) : StrsAre out (out.map strOf) ∧ (out.map strOf).Perm ss ∧ sortedS (out.map strOf) = true := by
  refine ⟨strsAre_map _ fun v hv => hS.all v (hb.perm.mem_iff.mp hv), ?_, ?_⟩
  · have q := hb.perm.map strOf
    rw [hS.strs] at q
    exact q
  · refine sortedS_of_pairwise _ (List.pairwise_map.mpr (hs.imp fun {x y} h => ?_))
    rw [PyProof.Rows.ltCps_eq]
    exact h
end
end SrtO
namespace L2
open PySem PySem.Spec PyProof.Rows
/-- sorted(xs), texts, any number of them -/
def rSortedSL (K : PySem.W.Frag) : List V → Hp → VK → Prop := fun vs H Q => ∃ (a : Addr) (ss : List Str), vs = [V.ref a] ∧ SqL K H a (ss.map V.str) ∧
  ∀ (ss' : List Str) (p : Addr), ss'.Perm ss → sortedS ss' = true → H p = none → Q (.ref p) (upd H p (.lst (ss'.map V.str)))
section
variable {X : Cx}
theorem cr_sortedSL : CallR X (.builtin "sorted") (rSortedSL X.K) := by
  intro pins s σ H vs us Q I r h
  obtain ⟨a, ss, rfl, hs, q⟩ := h
  obtain ⟨its, rv, hl, hz⟩ := I.list hs
  rw [Vals.ref1 r]
  have hi := rv.strs
  refine SrtO.sorted_ord SrtO.swo_str hl.isList (by rw [← rv.length]; exact hz) (fun h2 h₁ a' _ _ => SrtO.strs_sortable hi h2) fun out h1 h2 => ?_
  obtain ⟨k1, k2, k3⟩ := SrtO.strs_out hi h1 h2
  obtain ⟨ep, he'⟩ := PyProof.Rows.sortedAll_at s.heap its out.toArray
  have hlen : ((out.map strOf).map V.str).length ≤ sizeLine := by
    rw [List.length_map, k2.length_eq]
    rw [List.length_map] at hz
    exact hz
  exact ⟨.ref _, upd H (s.heap.objs.size + 1) (.lst ((out.map strOf).map V.str)), I.laid (t' := s.toks) (fun _ _ => PyProof.Rows.sortedAll_old) (Nat.le_succ _) ⟨hlen, out, ep, vals_of_strs k1, he'⟩, rfl, q _ _ k2 k3 (I.hok.fresh (Nat.le_succ _))⟩
end
end L2
namespace Dl
open PySem PySem.Spec L2
section
variable {X : Cx}
def oSortedL : OC := fun ds μ P => match ds with
  | [d] => match seqR μ d with
    | some xs => match strsD xs with
        | some ss => ∀ ss' : List Str, ss'.Perm ss → PyProof.Rows.sortedS ss' = true → P (.lst (ss'.map .str)) μ
        | none => False
    | none => False
  | _ => False
theorem cs_sortedL : CallS X (.builtin "sorted") oSortedL := by
  refine ⟨_, cr_sortedSL, ?_⟩
  intro ds μ P G H vs Q h m r t
  unfold oSortedL at h
  split at h
  · match vs, r with
    | _, .cons r1 .nil =>
      split at h
      · rename_i xs e
        obtain ⟨a, ws, rfl, h1, r2⟩ := seqR_ok e m r1
        split at h
        · rename_i ss e3
          exact ⟨a, ss, rfl, by rw [← strsD_ok e3 r2]; exact h1, fun ss' p hp hs hn => new_lst m (rps_strs ss') (h ss' hp hs) t p hn⟩
        · exact h.elim
      · exact h.elim
  · exact h.elim
end
end Dl

/-! DLt: len(set(xs)) of a list of texts, twins among them or not. -/
namespace SetK
open PySem PySem.Spec PyProof.Rows
section
variable {K : Type} [DecidableEq K] [BEq K] [LawfulBEq K]
def stepK (σ : List K) (v : K) : List K := if σ.any (· == v) then σ else σ ++ [v]
theorem stepK_any (σ : List K) (v k : K) : (stepK σ v).any (· == k) = (σ.any (· == k) || decide (k = v)) := by
  unfold stepK
  by_cases h : σ.any (· == v) = true
  · rw [if_pos h]
    by_cases e : k = v
    · subst e; rw [h]; rfl
    · rw [decide_eq_false e, Bool.or_false]
  · rw [if_neg h, List.any_append, List.any_cons, List.any_nil, Bool.or_false]
    congr 1
    by_cases e : k = v
    · subst e; simp
    · rw [decide_eq_false e]; exact beq_eq_false_iff_ne.mpr fun z => e z.symm
theorem stepK_length (σ : List K) (v : K) : (stepK σ v).length = if σ.any (· == v) then σ.length else σ.length + 1 := by
  unfold stepK
  split <;> simp
theorem stepK_mem (σ : List K) (v k : K) : k ∈ stepK σ v ↔ k ∈ σ ∨ k = v := by
  have h := stepK_any σ v k
  have a : ∀ l : List K, l.any (· == k) = true ↔ k ∈ l := fun l => by
    rw [List.any_eq_true]
    exact ⟨fun ⟨y, h1, h2⟩ => by rw [← eq_of_beq h2]; exact h1, fun h1 => ⟨k, h1, by simp⟩⟩
  rw [← a, h, Bool.or_eq_true, a, decide_eq_true_eq]
theorem stepK_nodup (σ : List K) (v : K) (h : σ.Nodup) : (stepK σ v).Nodup := by
  unfold stepK
  by_cases q : σ.any (· == v) = true
  · rw [if_pos q]; exact h
  · rw [if_neg q]
    refine List.nodup_append.mpr ⟨h, by simp, fun x hx y hy e => ?_⟩
    have hy : y = v := by simpa using hy
    subst hy; subst e
    exact q (List.any_eq_true.mpr ⟨x, hx, by simp⟩)
def metK (l : List K) : List K := l.foldl stepK []
theorem fold_memK : ∀ (l σ : List K) (k : K), k ∈ l.foldl stepK σ ↔ k ∈ σ ∨ k ∈ l
  | [], σ, k => by simp
  | v :: l, σ, k => by rw [List.foldl_cons, fold_memK l, stepK_mem, List.mem_cons, or_assoc]
theorem fold_ndK : ∀ (l σ : List K), σ.Nodup → (l.foldl stepK σ).Nodup
  | [], _, h => h
  | v :: l, σ, h => fold_ndK l _ (stepK_nodup σ v h)
theorem len_subK : ∀ {l m : List K}, l.Nodup → (∀ x ∈ l, x ∈ m) → l.length ≤ m.length
  | [], _, _, _ => Nat.zero_le _
  | x :: l, m, hn, hs => by
    rw [List.nodup_cons] at hn
    have h1 := len_subK (l := l) (m := m.erase x) hn.2 fun y hy => (List.mem_erase_of_ne (show y ≠ x from fun e => hn.1 (e ▸ hy))).mpr (hs y (List.mem_cons_of_mem _ hy))
    rw [List.length_erase_of_mem (hs x List.mem_cons_self)] at h1
    have := List.length_pos_of_mem (hs x List.mem_cons_self)
    rw [List.length_cons]
    omega
theorem metK_len (l : List K) : (metK l).length ≤ l.length ∧ ((metK l).length = l.length ↔ l.Nodup) := by
  have hL : (metK l).Nodup := fold_ndK l [] List.nodup_nil
  have hm : ∀ k, k ∈ metK l ↔ k ∈ l := fun k => by unfold metK; rw [fold_memK]; simp
  have h1 := len_subK hL fun x hx => (hm x).mp hx
  refine ⟨h1, fun e => ?_, fun hn => Nat.le_antisymm h1 (len_subK hn fun x hx => (hm x).mpr hx)⟩
  have gen : ∀ (m : List K) (L : List K), L.Nodup → (∀ k, k ∈ L ↔ k ∈ m) → m.length ≤ L.length → m.Nodup := by
    intro m
    induction m with
    | nil => intro L _ _ _; exact List.nodup_nil
    | cons x m ih =>
      intro L hL hk hl
      rw [List.nodup_cons]
      have hx : x ∈ L := (hk x).mpr List.mem_cons_self
      have hxm : x ∉ m := by
        intro q
        have : L.length ≤ m.length := len_subK hL fun y hy => by
          rcases List.mem_cons.mp ((hk y).mp hy) with rfl | h
          · exact q
          · exact h
        rw [List.length_cons] at hl
        omega
      refine ⟨hxm, ih (L.erase x) (hL.erase x) (fun k => ?_) ?_⟩
      · rw [hL.mem_erase_iff, hk k, List.mem_cons]
        constructor
        · rintro ⟨h1, h2 | h2⟩
          · exact absurd h2 h1
          · exact h2
        · intro h
          exact ⟨fun e => hxm (e ▸ h), .inr h⟩
      · rw [List.length_erase_of_mem hx]
        rw [List.length_cons] at hl
        omega
  exact gen l _ hL hm (by omega)
end
section
variable {prog : Program} {w : World} {A : Around} {R : Result → Shared → Prop} {I : Addr} {fp wr : List Addr} {G : Array GenState → Array GenState → Prop} {n : Nat} {P : Nat → Value → Prop} {St : Nat → Shared → Prop}
/-- the set at S takes the items of a walk one by one -/
theorem loopK {K : Type} [DecidableEq K] [BEq K] [LawfulBEq K] {knd : KeyKind prog w K} (W : WalksS prog w A.in1 I fp wr G n P St) (S : Addr) (hSf : S ∉ fp) (xs : List K) (hsz : xs.length = n) (hb : n + 1 < scanBound)
    (hval : ∀ i v, P i v → ∃ k, xs[i]? = some k ∧ knd.is k v = true ∧ v.scannable = true) :
    ∀ (k i : Nat) (s : Shared), n - i = k → i ≤ n → St i s →
      s.heap.SetOf knd S (fun k' => (metK (xs.take i)).any (· == k')) (metK (xs.take i)).length →
      (∀ s', Moved (S :: wr) G s s' → s'.heap.SetOf knd S (fun k' => (metK xs).any (· == k')) (metK xs).length → R (.ok (.ret .none)) s') →
      codeAny (model prog w) A (.builtin "set.update.loop" ⟨[.ref S, .ref I], []⟩) R s := by
  have out : S ∉ wr := fun h => hSf (W.sub _ h)
  have wid : ∀ b ∈ wr, b ∈ S :: wr := fun b hb => List.mem_cons_of_mem _ hb
  have keep : ∀ {s s' : Shared} {F : K → Bool} {m : Nat}, Moved wr G s s' → s.heap.SetOf knd S F m → s'.heap.SetOf knd S F m := fun hm ⟨o, es, ep, t, ho, rest⟩ => ⟨o, es, ep, t, hm.heap S _ out ho, rest⟩
  intro k
  induction k with
  | zero =>
    intro i s hk hi hst hS hR
    have hin : i = n := by omega
    subst hin
    refine codeAny_builtin PyProof.Rows.F.entry_set_update_loop ?_
    rw [Around.under_plainId PyProof.Rows.F.plain_set_update_loop _]
    show wpAny _ A.in1 (pyNext (.ref I) >>= _) _ _ s
    refine wpAny_bind (W.done s _ _ hst fun s' hm => ?_)
    show wpAny _ A.in1 (ret Value.none) _ _ s'
    rw [← hsz, List.take_length] at hS
    exact wpAny_pure (hR s' (hm.mono wid) (keep hm hS))
  | succ k ih =>
    intro i s hk hi hst hS hR
    have hlt : i < n := by omega
    refine codeAny_builtin PyProof.Rows.F.entry_set_update_loop ?_
    rw [Around.under_plainId PyProof.Rows.F.plain_set_update_loop _]
    show wpAny _ A.in1 (pyNext (.ref I) >>= _) _ _ s
    refine wpAny_bind (W.item i s _ _ hlt hst fun v s' hP hst' hm => ?_)
    obtain ⟨x, hx, hkv, hsc⟩ := hval i v hP
    show wpAny _ A.in1 (holding [v] (setAdd S v) >>= _) _ _ s'
    refine wpAny_bind (wpAny_holding ?_)
    unfold setAdd
    refine wpAny_holding ?_
    refine wpAny_bind (knd.pyHash (k := x) hkv ?_)
    have hroom : (metK (xs.take i)).length + 1 < scanBound := by
      have := (metK_len (xs.take i)).1
      rw [List.length_take] at this
      omega
    have hS1 := keep hm hS
    refine wpAny_setAddHashed_of (knd := knd) (s := { s' with toks := s'.toks + 1 }) hkv hsc hS1 hroom fun h' hsb hS2 => ?_
    have et : metK (xs.take (i + 1)) = stepK (metK (xs.take i)) x := by
      unfold metK
      rw [List.take_add_one, hx, List.foldl_append]
      rfl
    have hSi : h'.SetOf knd S (fun k' => (metK (xs.take (i + 1))).any (· == k')) (metK (xs.take (i + 1))).length :=
      SetOf_congr hS2 (fun k' => by rw [et, stepK_any]) (by rw [et, stepK_length])
    refine wpAny_pure ⟨plainId_quiet PyProof.Rows.F.plain_set_update_loop _, ih (i + 1) _ (by omega) hlt (W.frame _ s' _ _ hst' (Nat.le_succ _) fun b hb o e => ?_) hSi fun s'' hm'' hS'' => ?_⟩
    · rw [hsb.2 b (fun h : b = S => hSf (by rw [← h]; exact hb))]; exact e
    · refine hR s'' (Moved.trans W.gtrans ((hm.mono wid).then_heap (Nat.le_succ _) fun b o hb e => ?_) hm'') hS''
      rw [hsb.2 b (fun h : b = S => hb (by rw [h]; exact List.mem_cons_self))]; exact e
end
section
variable {prog : Program} {w : World} {A : Around} {E : Value → Shared → Prop} {s : Shared}
set_option maxHeartbeats 3200000 in
theorem set_of_list {K : Type} [DecidableEq K] [BEq K] [LawfulBEq K] {knd : KeyKind prog w K} {l : Addr} {items : Array Value} {xs : List K} {Q : Value → Shared → Prop}
    (hh : A.handled = none) (hl : s.heap.IsList l items) (hsz : xs.length = items.size) (hb : items.size + 1 < scanBound)
    (hval : ∀ (i : Nat) (v : Value), items[i]? = some v → ∃ k, xs[i]? = some k ∧ knd.is k v = true ∧ v.scannable = true)
    (h : ∀ (h' : Heap) (tk : Nat), h'.SetOf knd s.heap.objs.size (fun k' => (metK xs).any (· == k')) (metK xs).length →
      (∀ b o, b < s.heap.objs.size → s.heap.get? b = some o → h'.get? b = some o) → Q (.ref s.heap.objs.size) { s with heap := h', toks := tk }) :
    wpAny (model prog w) A (call (.type "set") [.ref l]) Q E s := by
  obtain ⟨c, tl, hmro⟩ := PySem.F.called_set.mro
  have hmade := PySem.F.called_set.made
  have hsub := PySem.F.called_set.sub
  refine wpAny_call (codeAny_of_tree ?_)
  show wpAny _ _ (callAny (.type "set") _) _ _ _
  refine wpAny_pure ⟨Code.quiet_builtin _ (by decide +kernel), codeAny_builtin PySem.F.entry_type_call ?_⟩
  rw [Around.under_plain (weight_type_call_type "set" [.ref l] []) rfl]
  have h1 := PySem.F.called_set.notType
  have h2 := PySem.F.called_set.canCreate
  have hct := PySem.F.typeCall_set_1 (.ref l)
  repeat (any_goals (first | assumption | wp_step))
  refine codeAny_mono (code_set_new_1 (.ref l) (E := E) (Q₁ := fun obj s₁ => ∃ led : Bool, obj = .ref s.heap.objs.size ∧ s₁ = { s with heap := s.heap.push { cls := .type "set", dict := none, data := .set #[] 0 (.fresh 0 0 led) } }) fun led => ⟨led, rfl, rfl⟩) fun r s₁ hr => ?_
  match r, hr with
  | .error e, hr => exact hr
  | .ok (.ret obj), hr =>
    obtain ⟨led, rfl, rfl⟩ := hr
    have hS : (s.heap.push { cls := .type "set", dict := none, data := .set #[] 0 (.fresh 0 0 led) }).get? s.heap.objs.size = some { cls := .type "set", dict := none, data := .set #[] 0 (.fresh 0 0 led) } := Heap.get?_push_size _ rfl
    have hT : Shared.TypeIs { s with heap := s.heap.push { cls := .type "set", dict := none, data := .set #[] 0 (.fresh 0 0 led) } } (.ref s.heap.objs.size) "set" := ⟨_, hS, rfl⟩
    have hli := PySem.F.called_set.init.lookup
    have hbi := PySem.F.called_set.init.bind (.ref s.heap.objs.size)
    repeat (any_goals (first | assumption | wp_step))
    refine codeAny_mono (codeAny_call_builtin (R := wants (fun r s₂ => r = .none ∧ ∃ h' tk, s₂ = { s with heap := h', toks := tk } ∧
        h'.SetOf knd s.heap.objs.size (fun k' => (metK xs).any (· == k')) (metK xs).length ∧
        (∀ b o, b < s.heap.objs.size → s.heap.get? b = some o → h'.get? b = some o)) E) PySem.F.called_set.init.plain PySem.F.entry_set_init (check_set_init_1 hT ?_)) fun r₂ s₂ hr₂ => ?_
    · obtain ⟨ol, hol, hcl, nl, hdl⟩ := hl
      obtain ⟨ocls, odict, odata, oslots⟩ := ol
      simp only at hcl hdl
      subst hcl; subst hdl
      have hol' : (s.heap.push { cls := .type "set", dict := none, data := .set #[] 0 (.fresh 0 0 led) }).get? l = some { cls := .type "list", dict := odict, data := .seq items nl, slots := oslots } := Heap.get?_push_of_some _ hol
      have hsls := PySem.F.sub_list_set
      have hslf := PySem.F.sub_list_frozenset
      have hne : (Value.type "list" == Value.type "dict") = false := by decide
      have hl1 : (s.heap.push { cls := .type "set", dict := none, data := .set #[] 0 (.fresh 0 0 led) }).IsList l items := ⟨_, hol', rfl, nl, rfl⟩
      unfold Builtin.«set.__init__» noKeywords Builtin.Frozenset.updateFrom
      generalize hPI : pyIter = PI
      wp_walk
      subst hPI
      refine wpAny_pyIter_list hl1 ?_
      refine wpAny_bind (wpAny_runValue ?_)
      have hlS : l < s.heap.objs.size := Heap.lt_size hol
      have hh3 : A.in1.in1.in1.handled = none := by simp [hh]
      have hsz1 : (s.heap.push { cls := .type "set", dict := none, data := .set #[] 0 (.fresh 0 0 led) }).objs.size = s.heap.objs.size + 1 := Heap.size_push _ _
      have hneI : l ≠ (s.heap.push { cls := .type "set", dict := none, data := .set #[] 0 (.fresh 0 0 led) }).objs.size := by rw [hsz1]; exact Nat.ne_of_lt (Nat.lt_succ_of_lt hlS)
      have hSf : s.heap.objs.size ∉ [(s.heap.push { cls := .type "set", dict := none, data := .set #[] 0 (.fresh 0 0 led) }).objs.size, l] := by
        rw [hsz1]; simp only [List.mem_cons, List.not_mem_nil, or_false, not_or]
        exact ⟨Nat.ne_of_lt (Nat.lt_succ_self _), Nat.ne_of_gt hlS⟩
      refine loopK (knd := knd) ((Walks.list hh3 _ l hneI items).toS) s.heap.objs.size hSf xs hsz hb hval (items.size - 0) 0 _ (by omega) (Nat.zero_le _)
        ⟨⟨_, Heap.get?_push_size _ rfl, rfl, rfl⟩, (hl1.push _)⟩ ?hS0 ?hR
      case hS0 =>
        have hget : ((s.heap.push { cls := .type "set", dict := none, data := .set #[] 0 (.fresh 0 0 led) }).push { cls := .type "list_iterator", data := .fields #[.ref l, .int 0 0] }).get? s.heap.objs.size = some { cls := .type "set", dict := none, data := .set #[] 0 (.fresh 0 0 led) } := Heap.get?_push_of_some _ hS
        exact SetOf_congr ((PyProof.Rows.setObjOf_fresh (knd := knd) led).setOf hget (by unfold scanBound; omega)) (fun _ => rfl) rfl
      case hR =>
        intro s' hm hS'
        obtain ⟨h', g', d', tk', os'⟩ := s'
        have eg : g' = s.gens := hm.gens
        have ed : d' = s.drawn := hm.drawn
        have eo : os' = s.os := hm.os
        subst eg; subst ed; subst eo
        show wpAny _ _ _ _ _ _
        refine wpAny_pure ?_
        show wpAny _ _ (ret Value.none) _ _ _
        refine wpAny_pure ⟨rfl, h', tk', rfl, hS', fun b o hb e => ?_⟩
        refine hm.heap b o ?_ (Heap.get?_push_of_some _ (Heap.get?_push_of_some _ e))
        simp only [List.mem_cons, List.not_mem_nil, or_false, not_or]
        exact ⟨Nat.ne_of_lt hb, by rw [hsz1]; exact Nat.ne_of_lt (Nat.lt_succ_of_lt hb)⟩
    · match r₂, hr₂ with
      | .error e, hr₂ => exact hr₂
      | .ok (.ret r), hr₂ =>
        obtain ⟨rfl, h', tk, rfl, hS', hk'⟩ := hr₂
        repeat (any_goals (first | assumption | wp_step))
        exact h _ _ hS' hk'
end
end SetK
namespace L2
open PySem PySem.Spec PyProof.Rows
section
variable {X : Cx}
theorem strs_key {P : Program} {w : World} : ∀ {us : List Value} {xs : List Str}, StrsAre us xs → ∀ (i : Nat) (v : Value), us[i]? = some v → ∃ k, xs[i]? = some k ∧ (PySem.strKind P w).is k v = true ∧ v.scannable = true
  | _, _, .nil, i, v, h => by simp at h
  | _, _, .cons x t hr, 0, v, h => by
    simp at h
    subst h
    exact ⟨x, rfl, strKind_is _ _ _ _, rfl⟩
  | _, _, .cons x t hr, i + 1, v, h => by
    simp only [List.getElem?_cons_succ] at h ⊢
    exact strs_key hr i v h
/-- len(set(xs)), xs a list of texts -/
def tLenSetX (K : PySem.W.Frag) (ta : TE) : TE := fun σ H Q => ta σ H fun x H1 => ∃ (l : Addr) (xs : List Str), x = .ref l ∧ SqL K H1 l (xs.map V.str) ∧ xs.length < 4000 ∧ ∀ n : Nat, n ≤ xs.length → (n = xs.length ↔ xs.Nodup) → Q (.int n) H1
theorem pe_lenSetX {a : Expr} {ta : TE} {p p2 q pos : Pos} (hc : X.calm = true) (hg : Gl X "len") (hm : X.mg "len" = none) (hg2 : Gl X "set") (hm2 : X.mg "set" = none) (ha : PE X a ta)
    (na : starEach [a] X.env = (false, eval a X.env) :: starEach [] X.env := by rfl) : PE X (.Call (.Name "len" p) [.Call (.Name "set" p2) [a] [] q] [] pos) (tLenSetX X.K ta) := by
  refine ⟨fun pins s σ H Q I h => ?_⟩
  refine Call_ (ld_blt I hg hm boot_len ?_)
  refine PyProof.Rows.callWith_builtin1 (PyProof.Rows.args_cons ?_ rfl) rfl rfl
  refine Call_ (ld_blt I hg2 hm2 boot_set ?_)
  refine PyProof.Rows.callWith_type1 (PyProof.Rows.args_cons (thn (ha.run pins s σ H _ I h) fun v s1 ⟨x, H1, I1, r1, q1⟩ => PyProof.Rows.args_nil ?_) na) na rfl
  obtain ⟨l, xs, rfl, hq, h1, q1⟩ := q1
  cases r1
  obtain ⟨its, r, pl, hz⟩ := I1.list hq
  have hl : its.toArray.size = xs.length := by rw [List.size_toArray, ← r.length, List.length_map]
  refine SetK.set_of_list (knd := PySem.strKind X.prog X.w) (xs := xs) (I1.ok.hd hc) pl.isList hl.symm (by rw [hl]; unfold scanBound; omega) (fun i v hv => strs_key r.strs i v (by rw [← Array.getElem?_toList] at hv; exact hv)) fun h' tk hS hk => ?_
  refine PyProof.Rows.args_nil ?_
  obtain ⟨m1, m2⟩ := SetK.metK_len xs
  obtain ⟨o, es, ep, t, ho, hex, hd, _, _, _, hf, hn⟩ := hS
  have I2 : Inv X pins σ H1 { s1 with heap := h', toks := tk } := I1.kept fun b o e => hk b o (Heap.lt_size e) e
  exact call_len_set ho hex hd hf (by rw [hn]; omega) ⟨.int (SetK.metK xs).length, H1, I2.tok _, ⟨_, by rw [hn]⟩, q1 _ m1 m2⟩
end
end L2
namespace Dl
open PySem PySem.Spec L2
section
variable {X : Cx} {a : Expr} {wa : WE}
def wLenSetX (wa : WE) : WE := fun ρ μ P => wa ρ μ fun x μ1 => ∃ (ds : List D) (xs : List Str), seqR μ1 x = some ds ∧ strsD ds = some xs ∧ xs.length < 4000 ∧ ∀ n : Nat, n ≤ xs.length → (n = xs.length ↔ xs.Nodup) → P (.int (n : Nat)) μ1
theorem de_lenSetX {p p1 p2 q : Pos} (hc : X.calm = true) (hgl : Gl X "len") (hml : X.mg "len" = none) (hg : Gl X "set") (hmm : X.mg "set" = none) (ha : DE X a wa) (na : starEach [a] X.env = (false, eval a X.env) :: starEach [] X.env := by rfl) :
    DE X (.Call (.Name "len" p1) [.Call (.Name "set" p2) [a] [] q] [] p) (wLenSetX wa) :=
  ⟨wkE (pe_lenSetX hc hgl hml hg hmm ha.p na) fun σ H Q ⟨ρ, μ, G, P, he, hm, hw, ht⟩ => ⟨ρ, μ, G, _, he, hm, hw, fun x μ1 v H1 G1 p1 e1 m1 r1 => by
    obtain ⟨ds, xs, h1, h2, h3, h4⟩ := p1
    obtain ⟨l, ws, rfl, hl, rw1⟩ := seqR_ok h1 m1 r1
    have e := strsD_ok h2 rw1
    subst e
    exact ⟨l, xs, rfl, hl, h3, fun n k1 k2 => ht _ _ _ _ _ (h4 n k1 k2) e1 m1 (.int _)⟩⟩⟩
end
end Dl

/-! DRp: text.replace of written texts, where a token is out; statements that put one out. -/
namespace Dl
open PySem PySem.Spec L2 PyProof.Rows
section
variable {X : Cx} {e f o a : Expr} {es : List Expr} {st : Stmt} {rest : List Stmt} {w wo wa : WE} {wr : WA} {ws wu : WS} {pos apos p c0 c1 : Pos}
structure DET (X : Cx) (e : Expr) (w : WE) : Prop where
  p : PET X e (LE X.K w)
structure DAT (X : Cx) (es : List Expr) (w : WA) : Prop where
  p : PAT X es (LA X.K w)
structure DST (X : Cx) (st : Stmt) (w : WS) : Prop where
  p : PST X st (LS X.K w)
structure DSsT (X : Cx) (st : List Stmt) (w : WS) : Prop where
  p : PSsT X st (LS X.K w)
theorem det_of (h : DE X e w) : DET X e w := ⟨CwR.PET.of h.p⟩
theorem dst_of (h : DS X st ws) : DST X st ws := ⟨PST.of h.p⟩
def wReplC (wo : WE) (y z : Str) : WE := fun ρ μ P => wo ρ μ fun d μ1 => ∃ x, d = .str x ∧ x.length + (x.length + 1) * z.length ≤ 16777216 ∧ P (.str (Txt.replace x y z)) μ1
theorem det_repl {y z : Str} {j k : Nat} (ho : DET X o wo) (hyz : (y == z) = false := by decide)
    (hst : starEach [.Constant (.str y) j c0, .Constant (.str z) k c1] X.env = [(false, eval (.Constant (.str y) j c0) X.env), (false, eval (.Constant (.str z) k c1) X.env)] := by rfl)
    (hbase : attributeBase o "replace" X.env (eval o X.env) = eval o X.env := by rfl) (hline : (apos.endLine == pos.line) = true := by rfl) :
    DET X (.Call (.Attribute o "replace" apos) [.Constant (.str y) j c0, .Constant (.str z) k c1] [] pos) (wReplC wo y z) :=
  ⟨fun pins s σ H Q hn I ⟨ρ, μ, G, P, he, hm, hw, ht⟩ => CwR.pet_replT ho.p hyz hst hbase hline pins s σ H Q hn I ⟨ρ, μ, G, _, he, hm, hw, fun d μ1 v H1 G1 p e m r => by
    obtain ⟨x, rfl, hz, q⟩ := p
    cases r
    exact ⟨x, rfl, hz, ht _ _ _ _ _ q e m (.str _)⟩⟩⟩
theorem dat_nil : DAT X [] wANil := ⟨fun pos pins s σ H Q hn I h => (da_nil (X := X)).p.run pos pins s σ H Q I h⟩
theorem dat_cons (h : DET X a wa) (k : DAT X es wr) (hs : starEach (a :: es) X.env = (false, eval a X.env) :: starEach es X.env := by rfl) : DAT X (a :: es) (wACons wa wr) :=
  ⟨fun pos pins s σ H Q hn I ⟨ρ, μ, G, P, he, hm, hw, ht⟩ => pat_cons h.p k.p hs pos pins s σ H Q hn I ⟨ρ, μ, G, _, he, hm, hw, fun x μ1 v1 H1 G1 p1 e1 m1 r1 =>
    ⟨ρ, μ1, G1, _, he.mono e1, m1, p1, fun xs μ2 vs H2 G2 p2 e2 m2 r2 => ht _ _ _ _ _ p2 (e1.trans e2) m2 (.cons (r1.mono e2) r2)⟩⟩⟩
theorem pet_tup {x1} {t : TA} (h : PAT X es t) : PET X (.Tuple es x1 pos) (tTup t) := by
  intro pins s σ H Q hn I hq
  refine wpAny_Tuple_spliced (thn (h pos pins s σ H _ hn I hq) fun us s1 ⟨xs, H1, I1, r, z, q⟩ => ⟨by rw [← r.length]; exact z, ?_⟩)
  have hf : H1 s1.heap.objs.size = none := I1.hok.fresh (Nat.le_refl _)
  exact ⟨.ref s1.heap.objs.size, upd H1 s1.heap.objs.size (.tup xs), I1.laid (t' := s1.toks) (fun b u e => Heap.get?_push_of_some _ e) (Nat.le_refl _) ⟨z, us, r, ⟨_, Heap.get?_push_size _ rfl, rfl, _, rfl⟩⟩, rfl, q _ hf⟩
theorem det_tup {x1} (h : DAT X es wr) : DET X (.Tuple es x1 pos) (wTup wr) :=
  ⟨fun pins s σ H Q hn I ⟨ρ, μ, G, P, he, hm, hw, ht⟩ => pet_tup h.p pins s σ H Q hn I ⟨ρ, μ, G, _, he, hm, hw, fun xs μ1 vs H1 G1 p1 e1 m1 r1 => ⟨by rw [← r1.length]; exact p1.1, new_tup m1 r1 p1.2 (ht.mono e1)⟩⟩⟩
theorem dsst_nil : DSsT X [] wNext := ⟨PSsT.of dss_nil.p⟩
theorem dsst_cons (h : DST X st ws) (k : DSsT X rest wu) : DSsT X (st :: rest) (wSeq ws wu) := ⟨fun pins s σ H D hn I ⟨ρ, μ, G, W, he, hm, hw, ht⟩ => psst_cons h.p k.p pins s σ H D hn I
  ⟨ρ, μ, G, { W with nx := wu W }, he, hm, hw, ⟨fun ρ' μ' σ' H' G' p e r m => ⟨ρ', μ', G', W, r, m, p, ht.mono e⟩, ht.rt, ht.bk, ht.ct⟩⟩⟩
theorem dsst_of (h : DSs X rest ws) : DSsT X rest ws := ⟨PSsT.of h.p⟩
/-- x = [.. for .. in ..] whose element asks for a token -/
theorem dst_setLc {elt tg iter : Expr} {ifs : List Expr} {scope : Scope} {own : List (Str × Nat)} {wi : WI} {g : TG} {wg : WG} {tt : WT} {te : WE} {i : Nat} {y : Str} {py spos : Pos} (hc : X.calm = true) (hN : X.N.Nodup) (hy : X.N[i]? = some y) (hyl : X.env.scope.names.lookup y = some .local)
    (hsw : swapsWith (.ListComp elt [⟨tg, iter, ifs, 0⟩] scope pos) (some (.Name y py)) spos.line X.env = pure true) (hi : DI X tg iter wi) (ok : BlkOk X.N X.env.scope scope own) (hp : GPat X.K (own.map (·.2)) g wg)
    (hg : ∀ (s : Shared) (H : Hp) (C : Addr) (cl : List (Str × Addr)) (fp : List Addr), PG (X.blk s H scope (compEnvC scope cl C X.env) fp) tg g) (ht : ∀ (s : Shared) (H : Hp) (C : Addr) (cl : List (Str × Addr)) (fp : List Addr), DTs (X.blk s H scope (compEnvC scope cl C X.env) fp) ifs tt)
    (he : ∀ (s : Shared) (H : Hp) (C : Addr) (cl : List (Str × Addr)) (fp : List Addr), DET (X.blk s H scope (compEnvC scope cl C X.env) fp) elt te) (hs : ∀ x, foldedSetIterable iter X.env x = pure x := by intro _; rfl) :
    DST X (.Assign [.Name y py] (.ListComp elt [⟨tg, iter, ifs, 0⟩] scope pos) spos) (wAsg (wLc wi wg tt te (own.map (·.2))) (wgName i)) :=
  ⟨fun pins s σ H D hn I ⟨ρ, μ, G, W, hr, hm, hw, htl⟩ => pst_setLc hc hN hy hyl hsw hi.p ok hg (fun s H C cl fp => (ht s H C cl fp).p) (fun s H C cl fp => (he s H C cl fp).p) hs pins s σ H D hn I
    (show tLc (LI X.K wi) g (LT X.K tt) (LE X.K te) (own.map (·.2)) σ H (fun x H1 => gName i x σ H1 D.nx) from llc hp hr hm hw fun L acc μ' H' G' f u e m => by
      obtain ⟨G2, m2, e2, r2⟩ := m.freezeL u
      exact htl.nx _ _ _ _ _ f (e.trans e2) ((hr.mono (e.trans e2)).set i r2) m2)⟩
/-! a call with a written int among its arguments puts a token out -/
def PAb (X : Cx) (es : List Expr) (t : TA) : Prop :=
  ∀ (pos : Pos) (pins : List (Addr × Obj)) (s : Shared) (σ : L2.St) (H : Hp) (Q : List V → Hp → Prop), Inv X pins σ H s → t σ H Q → wpAny (model X.prog X.w) X.A (spliced (backTo pos (starEach es X.env))) (fun us s' => 1 ≤ s'.toks ∧ AP X pins σ Q us s') X.xe s
theorem pab_int {i : Int} {j : Nat} {t : TA} (hr : PA X es t) (hs : starEach (.Constant (.int i) j c0 :: es) X.env = (false, eval (.Constant (.int i) j c0) X.env) :: starEach es X.env := by rfl) : PAb X (.Constant (.int i) j c0 :: es) (tCons (tC (.int i)) t) := by
  intro pos pins s σ H Q I h
  rw [hs]
  show wpAny _ _ (spliced ((false, eval (.Constant (.int i) j c0) X.env) :: backTo pos (starEach es X.env))) _ _ s
  refine Calls.spliced_cons (wpAny_Constant_int ?_)
  refine wpAny_mono (wpAny_toks_of (n := 1) (show 1 ≤ s.toks + 1 by omega) (hr.run pos pins _ σ H _ (I.tok (s.toks + 1)) h)) (fun us s2 q => ?_) fun _ _ z => z.2
  obtain ⟨n2, xs, H2, I2, r2, q2⟩ := q
  exact ⟨n2, .int i :: xs, H2, I2, .cons ⟨_, rfl⟩ r2, q2⟩
theorem pab_cons {te : TE} {t : TA} (ha : PE X e te) (hr : PAb X es t) (hs : starEach (e :: es) X.env = (false, eval e X.env) :: starEach es X.env := by rfl) : PAb X (e :: es) (tCons te t) := by
  intro pos pins s σ H Q I h
  rw [hs]
  show wpAny _ _ (spliced ((false, eval e X.env) :: backTo pos (starEach es X.env))) _ _ s
  refine Calls.spliced_cons (thn (ha.run pins s σ H _ I h) fun u s1 ⟨x, H1, I1, r1, q1⟩ => ?_)
  refine wpAny_mono (hr pos pins s1 σ H1 _ I1 q1) (fun us s2 q => ?_) fun _ _ z => z
  obtain ⟨n2, xs, H2, I2, r2, q2⟩ := q
  exact ⟨n2, x :: xs, H2, I2, .cons r1 r2, q2⟩
structure DAb (X : Cx) (es : List Expr) (w : WA) : Prop where
  p : PAb X es (LA X.K w)
theorem dab_int {i : Int} {j : Nat} (k : DA X es wr) (hs : starEach (.Constant (.int i) j c0 :: es) X.env = (false, eval (.Constant (.int i) j c0) X.env) :: starEach es X.env := by rfl) : DAb X (.Constant (.int i) j c0 :: es) (wACons (wC (.int i)) wr) :=
  ⟨fun pos pins s σ H Q I ⟨ρ, μ, G, P, he, hm, hw, ht⟩ => pab_int k.p hs pos pins s σ H Q I ⟨ρ, μ, G, _, he, hm, hw, fun xs μ2 vs H2 G2 p2 e2 m2 r2 => ht _ _ _ _ _ p2 e2 m2 (.cons (.int i) r2)⟩⟩
theorem dab_cons (h : DE X a wa) (k : DAb X es wr) (hs : starEach (a :: es) X.env = (false, eval a X.env) :: starEach es X.env := by rfl) : DAb X (a :: es) (wACons wa wr) :=
  ⟨fun pos pins s σ H Q I ⟨ρ, μ, G, P, he, hm, hw, ht⟩ => pab_cons h.p k.p hs pos pins s σ H Q I ⟨ρ, μ, G, _, he, hm, hw, fun x μ1 v1 H1 G1 p1 e1 m1 r1 =>
    ⟨ρ, μ1, G1, _, he.mono e1, m1, p1, fun xs μ2 vs H2 G2 p2 e2 m2 r2 => ht _ _ _ _ _ p2 (e1.trans e2) m2 (.cons (r1.mono e2) r2)⟩⟩⟩
/-- x = f(.., 8, ..), and what stands behind it may ask for a token -/
theorem pss_bump {i k : Nat} {x n : Str} {fa : Addr} {fd : FuncData} {ps : List Str} {sp : Sp} {dvs : List V} {ds : List Value} {t : TA} {u : TS} {pos' : Pos} (F : FnOk X.prog X.w X.K X.mg X.base CX0 k fa fd ps sp) (hr : Room k X.A) (hg : Gl X n) (hm : X.mg n = some (.ref fa)) (hk : PySem.W.keepIn X.K (.ref fa) = true) (hb : Binds X.K fd ps ds) (hd : Vals dvs ds)
    (ha : PAb X (e :: es) t) (h2 : PSsT X rest u) (hN : X.N.Nodup) (hi : X.N[i]? = some x) (hx : Loc X.env.scope x) (hs : swapsWith (.Call (.Name n p) (e :: es) [] c0) (some (.Name x pos')) pos.line X.env = pure false := by rfl)
    (hf : X.fn x = true ∨ X.env.scope.names.lookup x = some .local := by first | exact .inl rfl | exact .inr rfl | assumption)
    (hdb : (n == ("__debug__" : Str)) = false := by decide) (he : starEach (e :: es) X.env = (false, eval e X.env) :: starEach es X.env := by rfl) (hpl : (backTo c0 (starEach es X.env)).any (·.1) = false := by rfl) :
    PSs X (.Assign [.Name x pos'] (.Call (.Name n p) (e :: es) [] c0) pos :: rest) (tSeq (tAsg (tCall sp dvs E0 t) (gName i)) u) := by
  refine ⟨fun pins s σ H D I h => ?_⟩
  have h' : t σ H fun vs H1 => sp (vs ++ dvs) H1 (fun y H2 => u D (σ.set i (some y)) H2) E0 := h
  refine wpAny_execs_cons (wpAny_Assign_Name ?_ hs)
  refine wpAny_Call_Name_kw (ld_glob I hg hm ?_ hdb)
  refine PySem.W.callWith_K (h₀ := X.base) I.ok.mod.kin hk (wpAny_mono (ha c0 pins s σ H _ I h') (fun us s1 z => ?_) fun _ _ z => z) he hpl
  obtain ⟨n1, vs, H1, I1, r, q⟩ := z
  refine ⟨I1.kIn, ?_⟩
  refine wpAny_mono (wpAny_toks_of n1 (run_fn F hr hb hd pass0 I1 r q)) (fun v s2 z => ?_) fun _ _ z => z.2
  obtain ⟨n2, y, H2, I2, r2, q2⟩ := z
  refine wpAny_mono (wpAny_toks_of n2 (store_ok (Q := fun _ s3 => Inv X pins (σ.set i (some y)) H2 s3) I2 hN hi hx r2 (fun s3 I3 => I3) hf)) (fun _ s3 z => ?_) fun _ _ z => z.2
  exact h2 pins s3 _ H2 D z.1 z.2 q2
theorem dss_bump {i j k : Nat} {x n : Str} {d : DSp} {dds : List D} {pos' : Pos} (C : DCal X.prog X.w X.K X.mg X.base k n d dds) (hr : Room j X.A) (hk : k ≤ j) (hg : Gl X n) (ha : DAb X (e :: es) wr) (h2 : DSsT X rest wu) (hN : X.N.Nodup) (hi : X.N[i]? = some x) (hx : Loc X.env.scope x)
    (hs : swapsWith (.Call (.Name n p) (e :: es) [] c0) (some (.Name x pos')) pos.line X.env = pure false := by rfl)
    (hf : X.fn x = true ∨ X.env.scope.names.lookup x = some .local := by first | exact .inl rfl | exact .inr rfl | assumption)
    (hdb : (n == ("__debug__" : Str)) = false := by decide) (he : starEach (e :: es) X.env = (false, eval e X.env) :: starEach es X.env := by rfl) (hpl : (backTo c0 (starEach es X.env)).any (·.1) = false := by rfl) :
    DSs X (.Assign [.Name x pos'] (.Call (.Name n p) (e :: es) [] c0) pos :: rest) (wSeq (wAsg (wCall d dds wr) (wgName i)) wu) := by
  obtain ⟨fa, fd, ps, ds, dvs, F, m, kp, b, vd, rd⟩ := C.ex
  exact ⟨wkSs (pss_bump F (hr.mono hk) hg m kp b vd ha.p h2.p hN hi hx hs hf hdb he hpl) fun D σ H ⟨ρ, μ, G, W, hev, hm, hw, ht⟩ =>
    (show LA X.K wr σ H (fun vs H1 => LSp X.K d (vs ++ dvs) H1 (fun y H2 => LS X.K wu D (σ.set i (some y)) H2) E0) from
      ⟨ρ, μ, G, _, hev, hm, hw, fun ds μ1 vs H1 G1 p1 e1 m1 r1 => ⟨ds ++ dds, μ1, G1, _, r1.append (rd G1), m1, p1, fun y μ2 v H2 G2 p2 e2 m2 r2 =>
        ⟨ρ.set i (some y), μ2, G2, W, (hev.mono (e1.trans e2)).set i r2, m2, p2, ht.mono (e1.trans e2)⟩⟩⟩)⟩
end
end Dl

/-! DIx: x in (a, b, c) where x's class tells == and no item's type knows x. -/
namespace L2
open PySem PySem.Spec PyProof.Rows
section
variable {X : Cx}
theorem try_str {A : Around} {s : Shared} {E : Value → Shared → Prop} {Q : Option Value → Shared → Prop} {x : Str} {t : Tok} {a C dx : Addr} (ho : s.heap.get? a = some (PySem.W.instObj C dx)) (h : Q none s) :
    wpAny (model X.prog X.w) A (tryCompare (.str x t) "__eq__" (.ref a)) Q E s := by
  unfold tryCompare
  refine wpAny_bind (wpAny_callSpecialIfBound?_slot (typeIs_str s x t) PyProof.Rows.slot_str_eq (wpAny_call_entry PyProof.Rows.slot_str_eq (typeIs_str s x t) PyProof.Rows.entry_str_eq ?_ (PySem.F.args_str_eq_2 _ _)))
  show wpAny _ _ (asStr? (.ref a) >>= _) _ _ s
  refine wpAny_bind ?_
  simp only [asStr?]
  refine wpAny_bind (wpAny_load ho ?_)
  refine wpAny_pure (wpAny_bind (wpAny_rule ?_))
  exact wpAny_pure ⟨_, rfl, wpAny_pure h⟩
theorem try_non {A : Around} {s : Shared} {E : Value → Shared → Prop} {Q : Option Value → Shared → Prop} {a : Addr} (h : Q none s) :
    wpAny (model X.prog X.w) A (tryCompare .none "__eq__" (.ref a)) Q E s := by
  unfold tryCompare
  refine wpAny_bind (wpAny_callSpecialIfBound?_slot (T := "NoneType") (show s.TypeIs .none "NoneType" from rfl) PySem.F.slot_NoneType_eq (wpAny_call_entry PySem.F.slot_NoneType_eq (show s.TypeIs .none "NoneType" from rfl) PySem.F.entry_NoneType_eq ?_ (PySem.F.args_NoneType_eq_2 _ _)))
  show wpAny _ _ (ret Value.notImplemented) _ _ s
  exact wpAny_pure ⟨_, rfl, wpAny_pure h⟩
theorem try_tup {A : Around} {s : Shared} {E : Value → Shared → Prop} {Q : Option Value → Shared → Prop} {b a : Addr} (hb : s.TypeIs (.ref b) "tuple") (hi : PySem.W.Looks (model X.prog X.w) s.heap (isInstance (.ref a) (.type "tuple")) false) (h : Q none s) :
    wpAny (model X.prog X.w) A (tryCompare (.ref b) "__eq__" (.ref a)) Q E s := by
  unfold tryCompare
  refine wpAny_bind (wpAny_callSpecialIfBound?_slot hb PyProof.Rows.slot_tuple_eq (wpAny_call_entry PyProof.Rows.slot_tuple_eq hb PyProof.Rows.entry_tuple_eq ?_ (PySem.F.args_tuple_eq_2 _ _)))
  show wpAny _ _ (isInstance (.ref a) (.type "tuple") >>= _) _ _ s
  refine wpAny_bind (hi.here ?_)
  exact wpAny_pure ⟨_, rfl, wpAny_pure h⟩
/-- an item that does not know x: its == tells nothing -/
structure Shy (X : Cx) (C a : Addr) (s : Shared) (v : V) (u : Value) (T : String) : Prop where
  ty : s.TypeIs u T
  one : oneThing? .Eq u (.ref a) = none
  sub : PySem.W.subIn X.K (.ref C) (.type T) = some false
  eb : ∀ (A : Around) (E : Value → Shared → Prop) (Q : Bool → Shared → Prop), wpAny (model X.prog X.w) A (richCompare .Eq u (.ref a)) (fun v s' => ∃ r, v = .bool r ∧ Q r s') E s → wpAny (model X.prog X.w) A (eqBool u (.ref a)) Q E s
  tr : ∀ (A : Around) (E : Value → Shared → Prop) (Q : Option Value → Shared → Prop), Q none s → wpAny (model X.prog X.w) A (tryCompare u "__eq__" (.ref a)) Q E s
theorem rc_shy {n : Nat} {C f a dx : Addr} {fd : FuncData} {ps : List Str} {sp : Sp} {fs : List (Str × V)} {A : Around} {pins : List (Addr × Obj)} {s : Shared} {σ : St} {H : Hp} {v : V} {u : Value} {T : String} {Q : Hp → Prop}
    (F : FnOk X.prog X.w X.K X.mg X.base CX0 n f fd ps sp) (hs : PySem.W.findIn X.K (.ref C) "__eq__" = some (some (.ref f))) (hf : PySem.W.isFn X.K (.ref f) = true) (hb : Binds X.K fd ps [])
    (sb : Sub X n A) (I : Inv X pins σ H s) (ha : H a = some (.ins C dx fs)) (rv : RelV v u) (sh : Shy X C a s v u T) (hsp : sp [.ref a, v] H (fun r H' => r = .bl false ∧ Q H') E0) :
    wpAny (model X.prog X.w) A (richCompare .Eq u (.ref a)) (fun r s' => r = .bool false ∧ ∃ H', Inv X pins σ H' s' ∧ Q H') X.xe s := by
  obtain ⟨mA, J0, _⟩ := ins_get I.hok ha
  obtain ⟨od, J, _⟩ := J0.look
  obtain ⟨m, hF⟩ := I.fr
  have KK : X.K.In s.heap := I.ok.mod.kin.keeps hF.keep
  have own : wpAny (model X.prog X.w) A (call (.ref f) [.ref a, u]) (fun r s' => r = .bool false ∧ ∃ H', Inv X pins σ H' s' ∧ Q H') X.xe s := by
    have e0 : Env0 X.prog X.w X.K X.mg X.base A X.stack s H := by
      have e := I.env0
      exact ⟨by rw [sb.fr]; exact e.frames, e.mod, e.bs, e.bsz, e.funs, e.frf, e.hok, e.bare⟩
    have hl := F.len _ _ _ _ hsp
    have r2 : Vals [V.ref a, v] [Value.ref a, u] := .cons rfl (.cons rv .nil)
    refine wpAny_call (codeAny_mono (F.run A X.stack s H ⟨[.ref a, u], []⟩ [.ref a, u] [.ref a, v] _ E0 sb.room e0 (by
      have := hb s [.ref a, u] I.kIn (by simpa using hl)
      simpa using this) r2 hsp) fun r s' hq => ?_)
    match r, hq with
    | .error e, hq => exact pass0 pins σ H s e s' I hq
    | .ok (.ret w), hq =>
      obtain ⟨z, H', I', rz, ez, q⟩ := I.after hq
      subst ez
      cases rz
      exact ⟨rfl, H', I', q⟩
  have one : wpAny (model X.prog X.w) A (tryCompare (.ref a) "__eq__" u) (fun r s' => ∃ w, r = some w ∧ w = .bool false ∧ ∃ H', Inv X pins σ H' s' ∧ Q H') X.xe s := by
    unfold tryCompare
    refine wpAny_bind (PySem.W.ifBound_K KK J hs hf (wpAny_mono own (fun w s' hv => ?_) fun _ _ e => e))
    obtain ⟨rfl, q⟩ := hv
    exact wpAny_pure ⟨_, rfl, rfl, q⟩
  unfold richCompare
  simp only [sh.one]
  refine wpAny_holding (wpAny_bind (wpAny_cRoomFor sb.room.units0 ?_))
  refine wpAny_bind (wpAny_typeOf sh.ty (wpAny_bind (J.type.here ?_)))
  rw [if_pos (show (Value.type T != Value.ref C) = true from rfl)]
  refine wpAny_bind ((PySem.W.looks_subIn KK sh.sub).here ?_)
  simp only [Bool.false_eq_true, if_false]
  refine wpAny_bind (sh.tr _ _ _ ?_)
  simp only [Bool.not_false, if_true]
  refine wpAny_bind (wpAny_mono one (fun r s' z => ?_) fun _ _ e => e)
  obtain ⟨w, rfl, rfl, q⟩ := z
  exact wpAny_pure ⟨rfl, q⟩
/-- which items do not know x -/
def ShyV (X : Cx) (a : Addr) (H : Hp) (v : V) : Prop := v = .non ∨ (∃ x, v = .str x) ∨ ∃ t xs, v = .ref t ∧ SqT X.K H t xs
theorem shy_of {C a dx : Addr} {fs : List (Str × V)} {pins : List (Addr × Obj)} {s : Shared} {σ : St} {H : Hp} {v : V} {u : Value} (s1 : PySem.W.subIn X.K (.ref C) (.type "str") = some false) (s2 : PySem.W.subIn X.K (.ref C) (.type "tuple") = some false) (s3 : PySem.W.subIn X.K (.ref C) (.type "NoneType") = some false)
    (I : Inv X pins σ H s) (ha : H a = some (.ins C dx fs)) (rv : RelV v u) (h : ShyV X a H v) : ∃ T, Shy X C a s v u T := by
  obtain ⟨mA, J0, _⟩ := ins_get I.hok ha
  obtain ⟨od, J, _⟩ := J0.look
  obtain ⟨m, hF⟩ := I.fr
  have KK : X.K.In s.heap := I.ok.mod.kin.keeps hF.keep
  rcases h with rfl | ⟨x, rfl⟩ | ⟨t, xs, rfl, hq⟩
  · cases rv
    refine ⟨"NoneType", rfl, rfl, s3, fun A E Q h => ?_, fun A E Q h => try_non h⟩
    unfold eqBool
    refine wpAny_holding ?_
    show wpAny _ _ (richCompare .Eq .none (.ref a) >>= _) _ _ _
    refine wpAny_bind (wpAny_mono h (fun v s' hv => ?_) fun _ _ x => x)
    obtain ⟨r, rfl, q⟩ := hv
    exact wpAny_truthy_bool q
  · obtain ⟨k, rfl⟩ := rv
    refine ⟨"str", rfl, rfl, s1, fun A E Q h => ?_, fun A E Q h => try_str J0.obj h⟩
    unfold eqBool
    refine wpAny_holding ?_
    show wpAny _ _ (richCompare .Eq (.str x k) (.ref a) >>= _) _ _ _
    refine wpAny_bind (wpAny_mono h (fun v s' hv => ?_) fun _ _ x => x)
    obtain ⟨r, rfl, q⟩ := hv
    exact wpAny_truthy_bool q
  · cases rv
    obtain ⟨its, r, pl, hz⟩ := I.tuple hq
    obtain ⟨o, ho, hc, _⟩ := pl
    have hne : t ≠ a := by
      rintro rfl
      rw [J0.obj] at ho
      cases ho
      cases hc
    refine ⟨"tuple", ⟨o, ho, hc⟩, oneThing_ref _ _ _, s2, fun A E Q h => GQ.eqBool_refG hne h, fun A E Q h => try_tup ⟨o, ho, hc⟩ (J.type.andThen (PySem.W.looks_subIn KK s2)) h⟩
/-- what the items ask for, one after another -/
def chainOwn (X : Cx) (sp : Sp) (C a : Addr) : List V → Hp → (Hp → Prop) → Prop
  | [], H, Q => Q H
  | v :: vs, H, Q => (∃ dx fs, H a = some (.ins C dx fs)) ∧ ShyV X a H v ∧ sp [.ref a, v] H (fun r H' => r = .bl false ∧ chainOwn X sp C a vs H' Q) E0
theorem contains_shy {n : Nat} {C f a t : Addr} {fd : FuncData} {ps : List Str} {sp : Sp} {A : Around} {pins : List (Addr × Obj)} {s : Shared} {σ : St} {H : Hp} {vs : List V} {Q : Hp → Prop} {P : Fin → Shared → Prop}
    (F : FnOk X.prog X.w X.K X.mg X.base CX0 n f fd ps sp) (hs : PySem.W.findIn X.K (.ref C) "__eq__" = some (some (.ref f))) (hf : PySem.W.isFn X.K (.ref f) = true) (hb : Binds X.K fd ps [])
    (s1 : PySem.W.subIn X.K (.ref C) (.type "str") = some false) (s2 : PySem.W.subIn X.K (.ref C) (.type "tuple") = some false) (s3 : PySem.W.subIn X.K (.ref C) (.type "NoneType") = some false)
    (sb : Sub X n A) (I : Inv X pins σ H s) (ht : SqT X.K H t vs) (hq : chainOwn X sp C a vs H Q) (hP : ∀ s' H', Inv X pins σ H' s' → Q H' → P (.done (.ret (.bool false))) s') :
    wpAny (model X.prog X.w) A (Builtin.«tuple.__contains__» ⟨[.ref t, .ref a], []⟩) P X.xe s := by
  obtain ⟨its, r, pl, hz⟩ := I.tuple ht
  show wpAny _ _ (Builtin.Tuple.tupleItemsOf (.ref t) >>= _) _ _ s
  refine wpAny_bind (tupleItemsOf_ pl ?_)
  refine wpAny_bind (forIn_array_ _ (fun rest b s' => b.1 = none ∧ ∃ vs' H', Vals vs' rest ∧ Inv X pins σ H' s' ∧ chainOwn X sp C a vs' H' Q) _ ?_ ?_ its.toArray _ ⟨rfl, vs, H, by simpa using r, I, hq⟩)
  · rintro y rest b s' ⟨hb', vs', H', hv, I', hc⟩
    cases hv with
    | cons rv hv' =>
      rename_i v0 vr
      obtain ⟨⟨dx, fs, ha⟩, hsv, hsp⟩ := hc
      obtain ⟨T, sh⟩ := shy_of s1 s2 s3 I' ha rv hsv
      refine wpAny_bind (sh.eb _ _ _ (wpAny_mono (rc_shy (Q := fun H2 => chainOwn X sp C a vr H2 Q) F hs hf hb sb I' ha rv sh hsp) (fun w s2 z => ?_) fun _ _ z => z))
      obtain ⟨rfl, H2, I2, q2⟩ := z
      refine ⟨false, rfl, ?_⟩
      exact wpAny_pure ⟨rfl, vr, H2, hv', I2, q2⟩
  · rintro ⟨b1, b2⟩ s' ⟨hb', vs', H', hv, I', hc⟩
    cases hv
    simp only at hb'
    subst hb'
    exact wpAny_pure (hP s' H' I' hc)
/-- x in t, no item knows x, and x's own == says no each time -/
def rInOwn (X : Cx) (sp : Sp) (C : Addr) : R2 := fun x y H Q => ∃ a t vs, x = .ref a ∧ y = .ref t ∧ SqT X.K H t vs ∧ chainOwn X sp C a vs H fun H' => Q (.bl false) H'
theorem op_inOwn {n : Nat} {C f : Addr} {fd : FuncData} {ps : List Str} {sp : Sp} (F : FnOk X.prog X.w X.K X.mg X.base CX0 n f fd ps sp) (hs : PySem.W.findIn X.K (.ref C) "__eq__" = some (some (.ref f))) (hf : PySem.W.isFn X.K (.ref f) = true) (hb : Binds X.K fd ps [])
    (s1 : PySem.W.subIn X.K (.ref C) (.type "str") = some false) (s2 : PySem.W.subIn X.K (.ref C) (.type "tuple") = some false) (s3 : PySem.W.subIn X.K (.ref C) (.type "NoneType") = some false) (hr : Room (n + 1) X.A) : OpR X (compareOp .In) (rInOwn X sp C) := by
  intro pins s σ H x y v u Q I rx ry h
  obtain ⟨a, t, vs, rfl, rfl, ht, hq⟩ := h
  cases rx
  cases ry
  obtain ⟨its, r, pl, hz⟩ := I.tuple ht
  have hT : s.TypeIs (.ref t) "tuple" := by
    obtain ⟨o, ho, hc, _⟩ := pl
    exact ⟨o, ho, hc⟩
  show wpAny (model X.prog X.w) X.A (do return Value.bool (← contains (.ref t) (.ref a))) (EP X pins σ Q) X.xe s
  refine wpAny_bind ?_
  unfold contains
  refine wpAny_holding ?_
  refine wpAny_bind (wpAny_specialOf hT slot_tuple_contains.lookup ?_)
  rw [if_neg (by decide)]
  refine wpAny_bind (wpAny_callSpecialUnlessNone?_slot (name := Str.ofString "__contains__") hT slot_tuple_contains
    (wpAny_call_entry slot_tuple_contains hT entry_tuple_contains (contains_shy (n := n) F hs hf hb s1 s2 s3 (show Sub X n X.A.in1 from Sub.in1 ⟨hr, rfl⟩) I ht hq fun s' H' I' q => ?_) (args_tuple_contains _ _)))
  exact ⟨_, rfl, wpAny_truthy_bool (wpAny_pure ⟨.bl false, H', I', rfl, q⟩)⟩
end
end L2
namespace Dl
open PySem PySem.Spec L2
section
variable {X : Cx}
/-- the items that do not know x, each asked by x's own == -/
def chainD (d : DSp) (C : Addr) (x : D) : List D → Store → (Store → Prop) → Prop
  | [], μ, P => P μ
  | v :: vs, μ, P => (∃ fs, insD μ x = some (C, fs)) ∧ (v = .non ∨ (∃ s, v = .str s) ∨ ∃ xs, v = .tup xs) ∧ d [x, v] μ fun r μ' => r = .bl false ∧ chainD d C x vs μ' P
def oInOwn (C : Addr) (d : DSp) : OD := fun x y μ P => (∃ fs, insD μ x = some (C, fs)) ∧ ∃ vs, y = .tup vs ∧ chainD d C x vs μ fun μ' => P (.bl false) μ'
theorem chain_ok {d : DSp} {C a : Addr} {G0 : Hp} {P : D → Store → Prop} {Q : VK} (t : Tells X.K G0 P Q) {x : D} : ∀ (ds : List D) {vs : List V} {μ : Store} {G H : Hp}, chainD d C x ds μ (fun μ' => P (.bl false) μ') → Sm X.K μ G H → Ex G0 G → Rp X.K G x (.ref a) → Rps X.K G ds vs → chainOwn X (LSp X.K d) C a vs H fun H' => Q (.bl false) H'
  | [], _, μ, G, H, h, m, e, rx, rs => by
    cases rs
    exact t _ _ _ _ _ h e m (.bl false)
  | y :: ds, _, μ, G, H, h, m, e, rx, rs => by
    cases rs with
    | cons r rs =>
      obtain ⟨⟨fs, h1⟩, hk, h2⟩ := h
      obtain ⟨a', dx, xs, e1, q1, _⟩ := insD_ok h1 m rx
      cases e1
      refine ⟨⟨dx, xs, q1⟩, ?_, [x, _], μ, G, _, .cons rx (.cons r .nil), m, h2, ?_⟩
      · rcases hk with rfl | ⟨s, rfl⟩ | ⟨ys, rfl⟩
        · cases r
          exact .inl rfl
        · cases r
          exact .inr (.inl ⟨_, rfl⟩)
        · cases r with
          | tup h1 r2 => exact .inr (.inr ⟨_, _, rfl, h1.sq m.ex⟩)
      · rintro r' μ' w H' G' ⟨rfl, hc⟩ e2 m2 rr
        have e3 : w = .bl false := by cases rr; rfl
        exact ⟨e3, chain_ok t ds hc m2 (e.trans e2) (rx.mono e2) (rs.mono e2)⟩
theorem os_inOwn {k j : Nat} {C : Addr} {d : DSp} (c : DMet X.prog X.w X.K X.mg X.base k C "__eq__" d []) (s1 : PySem.W.subIn X.K (.ref C) (.type "str") = some false) (s2 : PySem.W.subIn X.K (.ref C) (.type "tuple") = some false) (s3 : PySem.W.subIn X.K (.ref C) (.type "NoneType") = some false)
    (hr : Room j X.A) (hk : k + 1 ≤ j) : OpS X (compareOp .In) (oInOwn C d) := by
  obtain ⟨f, fd, ps, ds, dvs, hc, hm, F, b, vd, rd⟩ := c.ex
  have e1 : dvs = [] := by
    cases rd (fun _ => none)
    rfl
  subst e1
  cases vd
  refine ⟨_, op_inOwn F hm.at_ hm.fn b s1 s2 s3 (hr.mono hk), ?_⟩
  intro x y μ P G H v u Q h m rx ry t
  obtain ⟨⟨fs, hi⟩, vs, rfl, hch⟩ := h
  obtain ⟨a, dx, xs, rfl, q1, _⟩ := insD_ok hi m rx
  cases ry with
  | tup h1 r2 => exact ⟨a, _, _, rfl, rfl, h1.sq m.ex, chain_ok t _ hch m (Ex.refl _) rx r2⟩
end
end Dl

namespace Lw
open PySem L2 Dl
set_option maxRecDepth 100000
set_option maxHeartbeats 4000000
def top (i : Nat) : Stmt := PySem.Challenge.pw_notchsafe_k36_check_rules_made_and_put.main.body.getD i (.Pass ⟨0, 0, 0, 0⟩)
/-- where the classes stand -/
structure Cs where
  CheckRule : Addr
abbrev s_is_sequence : Stmt := top 8
abbrev s_is_stick : Stmt := top 9
abbrev s_CheckRule_xinit : Stmt := inClass (top 12) 0
abbrev s_law_deal : Stmt := top 16
abbrev s_law_draw : Stmt := top 17
abbrev s_law_put : Stmt := top 15
abbrev s_law_near : Stmt := top 20
abbrev s_law_pick : Stmt := top 18
abbrev s_law_stick : Stmt := top 19
abbrev s_law_rule : Stmt := top 14
abbrev s_need_stick : Stmt := top 10
abbrev s_CheckRule_check_for : Stmt := inClass (top 12) 1
abbrev s_CheckRule_put : Stmt := inClass (top 12) 2
abbrev s_CheckRule_xeq : Stmt := inClass (top 12) 9
abbrev s_CheckRule_xstr : Stmt := inClass (top 12) 10
abbrev s_law : Stmt := top 21
abbrev N_is_sequence : List Str := ["value"]
theorem sc_is_sequence : FnScope N_is_sequence ["value"] (defScope s_is_sequence) := ⟨rfl, rfl, rfl, by decide +kernel, rfl, by decide +kernel, by decide +kernel⟩
abbrev N_is_stick : List Str := ["value", "sign"]
theorem sc_is_stick : FnScope N_is_stick ["value"] (defScope s_is_stick) := ⟨rfl, rfl, rfl, by decide +kernel, rfl, by decide +kernel, by decide +kernel⟩
abbrev N_CheckRule_xinit : List Str := ["self", "checks", "at", "check"]
theorem sc_CheckRule_xinit : FnScope N_CheckRule_xinit ["self", "checks"] (defScope s_CheckRule_xinit) := ⟨rfl, rfl, rfl, by decide +kernel, rfl, by decide +kernel, by decide +kernel⟩
abbrev N_law_deal : List Str := ["_law_script", "_law_base", "_law_cells", "_law_blend", "_law_cell"]
theorem sc_law_deal : FnScope N_law_deal ["_law_script", "_law_base"] (defScope s_law_deal) := ⟨rfl, rfl, rfl, by decide +kernel, rfl, by decide +kernel, by decide +kernel⟩
abbrev N_law_draw : List Str := ["_law_deal_here", "_law_bound", "_law_left"]
theorem sc_law_draw : FnScope N_law_draw ["_law_deal_here", "_law_bound"] (defScope s_law_draw) := ⟨rfl, rfl, rfl, by decide +kernel, rfl, by decide +kernel, by decide +kernel⟩
abbrev N_law_put : List Str := ["_law_checks", "_law_stick_here"]
theorem sc_law_put : FnScope N_law_put ["_law_checks", "_law_stick_here"] (defScope s_law_put) := ⟨rfl, rfl, rfl, by decide +kernel, rfl, by decide +kernel, by decide +kernel⟩
abbrev N_law_near : List Str := ["_law_deal_here", "_law_stick_here", "_law_found", "_law_sign", "_law_form"]
theorem sc_law_near : FnScope N_law_near ["_law_deal_here", "_law_stick_here"] (defScope s_law_near) := ⟨rfl, rfl, rfl, by decide +kernel, rfl, by decide +kernel, by decide +kernel⟩
abbrev N_law_pick : List Str := ["_law_deal_here", "_law_some"]
theorem sc_law_pick : FnScope N_law_pick ["_law_deal_here", "_law_some"] (defScope s_law_pick) := ⟨rfl, rfl, rfl, by decide +kernel, rfl, by decide +kernel, by decide +kernel⟩
abbrev N_law_stick : List Str := ["_law_deal_here", "_law_length", "_law_at"]
theorem sc_law_stick : FnScope N_law_stick ["_law_deal_here", "_law_length"] (defScope s_law_stick) := ⟨rfl, rfl, rfl, by decide +kernel, rfl, by decide +kernel, by decide +kernel⟩
abbrev N_law_rule : List Str := ["_law_deal_here", "_law_most", "_law_wide", "_law_at", "_law_size", "_law_places", "_law_form", "_law_found", "_law_turn", "_law_spot", "_law_left", "_law_check"]
theorem sc_law_rule : FnScope N_law_rule ["_law_deal_here", "_law_most", "_law_wide"] (defScope s_law_rule) := ⟨rfl, rfl, rfl, by decide +kernel, rfl, by decide +kernel, by decide +kernel⟩
abbrev N_need_stick : List Str := ["value"]
theorem sc_need_stick : FnScope N_need_stick ["value"] (defScope s_need_stick) := ⟨rfl, rfl, rfl, by decide +kernel, rfl, by decide +kernel, by decide +kernel⟩
abbrev N_CheckRule_check_for : List Str := ["self", "plain"]
theorem sc_CheckRule_check_for : FnScope N_CheckRule_check_for ["self", "plain"] (defScope s_CheckRule_check_for) := ⟨rfl, rfl, rfl, by decide +kernel, rfl, by decide +kernel, by decide +kernel⟩
abbrev N_CheckRule_put : List Str := ["self", "stick"]
theorem sc_CheckRule_put : FnScope N_CheckRule_put ["self", "stick"] (defScope s_CheckRule_put) := ⟨rfl, rfl, rfl, by decide +kernel, rfl, by decide +kernel, by decide +kernel⟩
abbrev N_CheckRule_xeq : List Str := ["self", "other"]
theorem sc_CheckRule_xeq : FnScope N_CheckRule_xeq ["self", "other"] (defScope s_CheckRule_xeq) := ⟨rfl, rfl, rfl, by decide +kernel, rfl, by decide +kernel, by decide +kernel⟩
abbrev N_CheckRule_xstr : List Str := ["self"]
theorem sc_CheckRule_xstr : FnScope N_CheckRule_xstr ["self"] (defScope s_CheckRule_xstr) := ⟨rfl, rfl, rfl, by decide +kernel, rfl, by decide +kernel, by decide +kernel⟩
abbrev N_law : List Str := ["_law_script", "_law_base", "_law_deal_here", "_law_before", "_law_turn", "_law_checks", "_law_given", "_law_made", "_law_again", "_law_stick_here"]
theorem sc_law : FnScope N_law ["_law_script"] (defScope s_law) := ⟨rfl, rfl, rfl, by decide +kernel, rfl, by decide +kernel, by decide +kernel⟩
/-- what the classes are -/
structure Kf (K : PySem.W.Frag) (c : Cs) : Prop where
  o_CheckRule_checks : FldOk K c.CheckRule "checks"
  o_CheckRule_text : FldOk K c.CheckRule "text"
/-- what the top has left -/
structure Txt (K : PySem.W.Frag) (mg : Str → Option Value) (c : Cs) : Prop where
  kf : Kf K c
  b_abs : mg "abs" = none
  b_all : mg "all" = none
  b_enumerate : mg "enumerate" = none
  b_int : mg "int" = none
  b_isinstance : mg "isinstance" = none
  b_len : mg "len" = none
  b_list : mg "list" = none
  b_max : mg "max" = none
  b_min : mg "min" = none
  b_range : mg "range" = none
  b_repr : mg "repr" = none
  b_str : mg "str" = none
  b_tuple : mg "tuple" = none
  c_NOTCHED : ∃ t, mg "NOTCHED" = some (.str "x" t)
  c_PLAIN : ∃ t, mg "PLAIN" = some (.str "." t)
  k_CheckRule : ClsAt K mg "CheckRule" c.CheckRule
  n_CheckRule : PySem.W.findIn K (.ref c.CheckRule) "__ne__" = some (some (.builtin "object.__ne__"))
  ob_CheckRule : PySem.W.subIn K (.ref c.CheckRule) (.type "object") = some true
  i_CheckRule : C8.InsC K c.CheckRule
  io_CheckRule : IsoC K c.CheckRule
  xs_CheckRule : PySem.W.subIn K (.ref c.CheckRule) (.type "str") = some false
  xt_CheckRule : PySem.W.subIn K (.ref c.CheckRule) (.type "tuple") = some false
  xn_CheckRule : PySem.W.subIn K (.ref c.CheckRule) (.type "NoneType") = some false
  f_is_sequence : DefAt K mg "is_sequence" s_is_sequence
  f_is_stick : DefAt K mg "is_stick" s_is_stick
  f_CheckRule_xinit : MetAt K c.CheckRule "__init__" "CheckRule.__init__" s_CheckRule_xinit []
  f_law_deal : DefAt K mg "_law_deal" s_law_deal
  f_law_draw : DefAt K mg "_law_draw" s_law_draw
  f_law_put : DefAt K mg "_law_put" s_law_put
  f_law_near : DefAt K mg "_law_near" s_law_near
  f_law_pick : DefAt K mg "_law_pick" s_law_pick
  f_law_stick : DefAt K mg "_law_stick" s_law_stick
  f_law_rule : DefAt K mg "_law_rule" s_law_rule
  f_need_stick : DefAt K mg "need_stick" s_need_stick
  f_CheckRule_check_for : MetAt K c.CheckRule "check_for" "CheckRule.check_for" s_CheckRule_check_for []
  f_CheckRule_put : MetAt K c.CheckRule "put" "CheckRule.put" s_CheckRule_put []
  f_CheckRule_xeq : MetAt K c.CheckRule "__eq__" "CheckRule.__eq__" s_CheckRule_xeq []
  f_CheckRule_xstr : MetAt K c.CheckRule "__str__" "CheckRule.__str__" s_CheckRule_xstr []
  f_law : DefAt K mg "law" s_law
/-! ### reading step by step -/
theorem getD_z {ρ : Dl.Env} {d : Option Dl.D} : (d :: ρ).getD 0 none = d := rfl
theorem getD_s {ρ : Dl.Env} {d : Option Dl.D} {n : Nat} : (d :: ρ).getD (n + 1) none = ρ.getD n none := rfl
theorem set_z {ρ : Dl.Env} {d e : Option Dl.D} : (d :: ρ).set 0 e = e :: ρ := rfl
theorem set_s {ρ : Dl.Env} {d e : Option Dl.D} {n : Nat} : (d :: ρ).set (n + 1) e = d :: ρ.set n e := rfl
theorem ret_in {d : D} {μ μ0 : Store} {R : D → Store → Prop} (s : Dl.Sub μ0 μ) (h : R d μ0) : ∃ d' μ', Fz d μ d' μ' ∧ R d' μ' := ⟨d, μ0, .sub s, h⟩
theorem ret_eq {d : D} {μ : Store} {R : D → Store → Prop} (h : R d μ) : ∃ d' μ', Fz d μ d' μ' ∧ R d' μ' := ⟨d, μ, .sub (Dl.Sub.refl _), h⟩
theorem end_eq {μ : Store} {R : D → Store → Prop} (h : R .non μ) : ∃ μ', Dl.Sub μ' μ ∧ R .non μ' := ⟨μ, Dl.Sub.refl _, h⟩
theorem rng_inv {lo : Int} {n i : Nat} {d : D} (h : (rng lo n)[i]? = some d) : i < n ∧ d = .int (lo + (i : Nat)) := by
  by_cases q : i < n
  · rw [rng_get q] at h
    cases h
    exact ⟨q, rfl⟩
  · rw [List.getElem?_eq_none (by rw [rng_length]; omega)] at h
    cases h
/-- a loop by what holds between its turns -/
theorem for_by {its : List D} {g : WG} {wb : WS} {W : WEnds} {ρ : Dl.Env} {μ : Store} (I : Nat → Dl.Env → Store → Prop) (h0 : I 0 ρ μ)
    (ht : ∀ i d ρ' μ', its[i]? = some d → I i ρ' μ' → g d ρ' μ' fun ρ2 μ2 => wb { W with nx := I (i + 1), ct := I (i + 1), bk := W.nx } ρ2 μ2) (he : ∀ ρ' μ', I its.length ρ' μ' → W.nx ρ' μ') : forBody its g wb W ρ μ := ⟨I, h0, ht, he⟩
/-- .. over a range -/
theorem for_rng {lo : Int} {n : Nat} {g : WG} {wb : WS} {W : WEnds} {ρ : Dl.Env} {μ : Store} (I : Nat → Dl.Env → Store → Prop) (h0 : I 0 ρ μ)
    (ht : ∀ (i : Nat) ρ' μ', i < n → I i ρ' μ' → g (.int (lo + (i : Nat))) ρ' μ' fun ρ2 μ2 => wb { W with nx := I (i + 1), ct := I (i + 1), bk := W.nx } ρ2 μ2) (he : ∀ ρ' μ', I n ρ' μ' → W.nx ρ' μ') : forBody (rng lo n) g wb W ρ μ :=
  ⟨I, h0, fun i d ρ' μ' hd h => by
    obtain ⟨h1, rfl⟩ := rng_inv hd
    exact ht i ρ' μ' h1 h, by rw [rng_length]; exact he⟩
theorem le_line {n : Nat} (h : n ≤ 1000000) : n ≤ sizeLine := Nat.le_trans h (by decide)
theorem lc_ix {its : List D} {g : WG} {te : WE} {vs : List Nat} {fin : Addr → List D → Store → Prop} {ρ : Dl.Env} {μ : Store} (ys : List D) (hlen : ys.length = its.length) (hz : its.length ≤ sizeLine)
    (h : ∀ (i : Nat) (d y : D) (μ' : Store) (R : D → Store → Prop), its[i]? = some d → ys[i]? = some y → Dl.Sub μ μ' → R y μ' → g d (wipeE ρ vs) μ' fun ρ2 μ2 => te ρ2 μ2 R)
    (q : ∀ L, μ L = none → fin L ys (setS μ L (.lst ys))) : lcBody its g wYes te vs fin ρ μ := by
  refine ⟨hz, fun L hL => ⟨fun i acc μ' => acc = ys.take i ∧ μ' = setS μ L (.lst acc), ⟨rfl, rfl⟩, ?_, ?_⟩⟩
  · rintro i d acc μ' hd hu ⟨rfl, rfl⟩
    have hi : i < ys.length := by have := (List.getElem?_eq_some_iff.mp hd).1; omega
    have hy : ys[i]? = some ys[i] := List.getElem?_eq_getElem hi
    have sb : Dl.Sub μ (setS μ L (.lst (ys.take i))) := fun a c e => by
      have : a ≠ L := by rintro rfl; rw [hL] at e; cases e
      rw [setS_ne this]; exact e
    refine h i d ys[i] _ _ hd hy sb ⟨setS_same, ?_, ?_⟩
    · rw [List.take_add_one, hy]; rfl
    · rw [setS_setS]
  · rintro acc μ' _ _ ⟨rfl, rfl⟩
    rw [← hlen, List.take_length]
    exact q L hL
theorem oAdd_int {a b : Int} {μ : Store} {P : D → Store → Prop} : oAdd (.int a) (.int b) μ P = P (.int (a + b)) μ := rfl
theorem oAdd_str {a b : Str} {μ : Store} {P : D → Store → Prop} : oAdd (.str a) (.str b) μ P = (a.length + b.length ≤ sizeLine ∧ P (.str (a ++ b)) μ) := rfl
theorem oAdd_tup {a b : List D} {μ : Store} {P : D → Store → Prop} : oAdd (.tup a) (.tup b) μ P = (a.length + b.length ≤ sizeLine ∧ P (.tup (a ++ b)) μ) := rfl
theorem oAdd_lst {a b : List D} {μ : Store} {P : D → Store → Prop} : oAdd (.lst a) (.lst b) μ P = (a.length + b.length ≤ sizeLine ∧ P (.lst (a ++ b)) μ) := rfl
theorem oEq_int {a b : Int} {μ : Store} {P : D → Store → Prop} : oEq (.int a) (.int b) μ P = P (.bl (decide (a = b))) μ := rfl
theorem oNe_int {a b : Int} {μ : Store} {P : D → Store → Prop} : oNe (.int a) (.int b) μ P = P (.bl (!decide (a = b))) μ := rfl
theorem oEq_bl {a b : Bool} {μ : Store} {P : D → Store → Prop} : oEq (.bl a) (.bl b) μ P = P (.bl (a == b)) μ := rfl
theorem oNe_bl {a b : Bool} {μ : Store} {P : D → Store → Prop} : oNe (.bl a) (.bl b) μ P = P (.bl (!(a == b))) μ := rfl
theorem oEq_str {a b : Str} {μ : Store} {P : D → Store → Prop} : oEq (.str a) (.str b) μ P = P (.bl (a == b)) μ := rfl
theorem oNe_str {a b : Str} {μ : Store} {P : D → Store → Prop} : oNe (.str a) (.str b) μ P = P (.bl (!(a == b))) μ := rfl
local macro_rules | `(tactic| walk_at "dx") => `(tactic| simp only [wSeq, wIfS, wB, wTrv, truD, okLen, wOp, wVar, wC, wAsg, wgName, wgCons, wgNil, wgTup, wRet, wRetN, wDrop, wNext, wNever, wBreak, wCont, wACons, wANil, wTup, wLst, wLstM, wCB,
  wAnd, wOr, wNt, wAndV, wOrV, wNotV, wIf, wChain, wIx, oIx, wgSub, oSet, wPar, wPar3, wCall, wYes, wFor, wiSeq, wiRng1, wiRng2, itemsD, wLc, wLcM, wLcG, wLc2, wLc2M, wLcG2, oPopAt, oPop, wRev, wRevM, oAppend, wipeE, insD, seqA, seqR, seqL, setS_same,
  oAdd_int, oAdd_str, oAdd_tup, oAdd_lst, wgLst, wAStar, wAsgF, xN, xSeq, xIf, xDrop, xRet, xAsg, xRaise0, xRaise1, xCall, wTryAs, oSub, oMul, oFdiv, oMod, oPow, oI, oI0, oLt, oLe, oGt, oGe, oEq_int, oNe_int, oEq_bl, oNe_bl, oEq_str, oNe_str, oLen, lenD, oAbs, oInt, oStr, oRepr, oMin, oMax, oAll, oAny, oSum, oTuple, oList, wBM, oJoin, oCount, oIsi, tyD, isTy, oIn, oNotIn, oInW, sqD, seqL, seqR, seqA, wAug, oIAdd, oISub, wJoin, wJs, wFmt, wSl, wNoP, wPart, oSlice, wNeg, oIs, oIsNot, wiEnum, wDisp, wPairs,
  getD_z, getD_s, set_z, set_s, decide_eq_true_eq, Bool.not_eq_true', decide_eq_false_iff_not, List.nil_append, List.cons_append, true_and, and_true, not_true_eq_false, not_false_eq_true, Bool.false_eq_true, Bool.true_eq_false, BEq.rfl, Bool.not_true, Bool.not_false, decide_true, ite_true, ite_false, if_true, if_false])
local macro_rules | `(tactic| walk_at "dxs") => `(tactic| simp only [wSeq, wIfS, wB, wTrv, truD, okLen, wOp, wVar, wC, wAsg, wgName, wgCons, wgNil, wgTup, wRet, wRetN, wDrop, wNext, wNever, wBreak, wCont, wACons, wANil, wTup, wLst, wLstM, wCB,
  wAnd, wOr, wNt, wAndV, wOrV, wNotV, wIf, wChain, wIx, oIx, wgSub, oSet, wPar, wPar3, wCall, wYes, wFor, wiSeq, wiRng1, wiRng2, itemsD, wLc, wLcM, wLcG, wLc2, wLc2M, wLcG2, oPopAt, oPop, wRev, wRevM, oAppend, wipeE, insD, seqA, seqR, seqL, setS_same,
  oAdd_int, oAdd_str, oAdd_tup, oAdd_lst, wgLst, wAStar, wAsgF, xN, xSeq, xIf, xDrop, xRet, xAsg, xRaise0, xRaise1, xCall, wTryAs, oSub, oMul, oFdiv, oMod, oPow, oI, oI0, oLt, oLe, oGt, oGe, oEq_int, oNe_int, oEq_bl, oNe_bl, oEq_str, oNe_str, oLen, lenD, oAbs, oInt, oStr, oRepr, oMin, oMax, oAll, oAny, oSum, oTuple, oList, wBM, oJoin, oCount, oIsi, tyD, isTy, oIn, oNotIn, oInW, sqD, seqL, seqR, seqA, wAug, oIAdd, oISub, wJoin, wJs, wFmt, wSl, wNoP, wPart, oSlice, wNeg, oIs, oIsNot, wiEnum, wDisp, wPairs,
  getD_z, getD_s, set_z, set_s, decide_eq_true_eq, Bool.not_eq_true', decide_eq_false_iff_not, List.nil_append, List.cons_append, true_and, and_true, not_true_eq_false, not_false_eq_true, Bool.false_eq_true, Bool.true_eq_false, BEq.rfl, Bool.not_true, Bool.not_false, decide_true, ite_true, ite_false, if_true, if_false, *])
/-! ### the law's own promise -/
def spL : DSp := fun ds μ Q => ∃ ns : List Int, ds = [.scr (ns.map .int)] ∧ ns.length ≤ 63 ∧ ∀ μ', Q (.bl true) μ'
theorem len_spL : ∀ ds μ Q, spL ds μ Q → ds.length = 1 := by
  rintro ds μ Q ⟨ns, rfl, _⟩
  rfl
theorem rps_ints {K : PySem.W.Frag} {G : Hp} : ∀ ns : List Int, Rps K G (ns.map D.int) (ns.map V.int)
  | [] => .nil
  | n :: ns => .cons (.int n) (rps_ints ns)
theorem lsp_law {K : PySem.W.Frag} {H : Hp} {a : Addr} {ns : List Int} (hl : ns.length ≤ 63) (hO : Only H) (hS : SqL K H a (ns.map V.int)) {E : XK} : LSp K spL [.ref a] H (fun v _ => v = .bl true) E := by
  have hs : ScrAt K H a (ns.map V.int) := by
    rcases hS with h | h
    · rcases h with h | ⟨o, h⟩
      · rcases hO a with h2 | ⟨o, xs, h2⟩
        · rw [h2] at h; cases h
        · rw [h2] at h; cases h
      · exact .inl ⟨o, h⟩
    · exact .inr h
  refine ⟨[.scr (ns.map .int)], fun _ => none, H, fun d _ => d = .bl true, .cons (.scr hs (rps_ints ns)) .nil, ⟨fun _ _ h => h, fun _ _ h => nomatch h⟩, ⟨ns, rfl, hl, fun _ => rfl⟩, ?_⟩
  rintro d μ' v H' G' rfl _ _ r
  cases r
  rfl

/-! ### the source of draws -/
def BoxV (d : List D) : Prop := ∃ a s t : Int, d = [.int a, .int s, .int t] ∧ 0 ≤ a ∧ (0 ≤ s ∧ s < 4294967296) ∧ 0 ≤ t
theorem atI_ints {ns : List Int} {k : Int} (h0 : 0 ≤ k) (h1 : k < ns.length) : ∃ z, atI (ns.map D.int) k = some (.int z) := by
  obtain ⟨j, rfl⟩ : ∃ j : Nat, k = (j : Int) := ⟨k.toNat, by omega⟩
  have hj : j < ns.length := by omega
  exact ⟨ns[j], atI_nat (by simp [hj])⟩
theorem em_lo {a b : Int} (h : 0 < b) : 0 ≤ a % b := Int.emod_nonneg _ (by omega)
theorem em_hi {a b : Int} (h : 0 < b) : a % b < b := Int.emod_lt_of_pos _ h
theorem at3_0 {a b c : D} : atI [a, b, c] 0 = some a := rfl
theorem at3_1 {a b c : D} : atI [a, b, c] 1 = some b := rfl
theorem at3_2 {a b c : D} : atI [a, b, c] 2 = some c := rfl
theorem at2_0 {a b : D} : atI [a, b] 0 = some a := rfl
theorem at2_1 {a b : D} : atI [a, b] 1 = some b := rfl
theorem ix2_0 : ixN 2 0 = some 0 := rfl
theorem ix2_1 : ixN 2 1 = some 1 := rfl
theorem ix3_0 : ixN 3 0 = some 0 := rfl
theorem ix3_1 : ixN 3 1 = some 1 := rfl
theorem ix3_2 : ixN 3 2 = some 2 := rfl

def ch : Nat → Nat → Nat
  | _, 0 => 1
  | 0, _ + 1 => 0
  | n + 1, k + 1 => ch n k + ch n (k + 1)
theorem ch0 (n : Nat) : ch n 0 = 1 := by cases n <;> rfl
theorem ch_zero : ∀ n k : Nat, n < k → ch n k = 0
  | 0, _ + 1, _ => rfl
  | n + 1, k + 1, h => by
    show ch n k + ch n (k + 1) = 0
    rw [ch_zero n k (by omega), ch_zero n (k + 1) (by omega)]
theorem ch_row : ∀ n k : Nat, (k + 1) * ch n (k + 1) + k * ch n k = n * ch n k
  | 0, 0 => by decide
  | 0, k + 1 => by show (k + 2) * 0 + (k + 1) * 0 = 0 * 0; omega
  | n + 1, 0 => by
    have h := ch_row n 0
    have e1 : ch n 0 = 1 := by cases n <;> rfl
    rw [e1] at h
    show (0 + 1) * (ch n 0 + ch n (0 + 1)) + 0 * 1 = (n + 1) * 1
    rw [e1]
    omega
  | n + 1, k + 1 => by
    have h1 := ch_row n k
    have h2 := ch_row n (k + 1)
    show (k + 1 + 1) * (ch n (k + 1) + ch n (k + 1 + 1)) + (k + 1) * (ch n k + ch n (k + 1)) = (n + 1) * (ch n k + ch n (k + 1))
    simp only [Nat.add_mul, Nat.mul_add, Nat.one_mul] at h1 h2 ⊢
    omega
theorem ch_self : ∀ n : Nat, ch n n = 1
  | 0 => rfl
  | n + 1 => by
    show ch n n + ch n (n + 1) = 1
    rw [ch_self n, ch_zero n (n + 1) (by omega)]
theorem ch_le : ∀ n k : Nat, ch n k ≤ 2 ^ n
  | 0, 0 => by decide
  | 0, _ + 1 => Nat.zero_le _
  | n + 1, 0 => by rw [ch0]; exact Nat.one_le_two_pow
  | n + 1, k + 1 => by
    show ch n k + ch n (k + 1) ≤ 2 ^ (n + 1)
    have h1 := ch_le n k
    have h2 := ch_le n (k + 1)
    rw [Nat.pow_succ]
    omega
theorem ch_one : ∀ n : Nat, ch n 1 = n
  | 0 => rfl
  | n + 1 => by
    show ch n 0 + ch n 1 = n + 1
    rw [ch_one n, ch0]
    omega
theorem log_le {n k : Nat} (h : n ≤ 2 ^ k) (hk : k < 1920 := by decide) : n.log2 < 1920 := by
  by_cases e : n = 0
  · subst e; decide
  · have h2 : n.log2 ≤ k := by
      have := Nat.log2_self_le e
      exact (Nat.pow_le_pow_iff_right (by decide)).mp (Nat.le_trans this h)
    omega
theorem ch_sym : ∀ {n k : Nat}, k ≤ n → ch n (n - k) = ch n k
  | 0, 0, _ => rfl
  | n + 1, 0, _ => by rw [Nat.sub_zero, ch_self, ch0]
  | n + 1, k + 1, h => by
    by_cases e : n = k
    · subst e
      rw [Nat.sub_self, ch0, ch_self]
    · have h1 : ch n (n - k) = ch n k := ch_sym (by omega)
      have h2 : ch n (n - (k + 1)) = ch n (k + 1) := ch_sym (by omega)
      have e3 : n + 1 - (k + 1) = (n - (k + 1)) + 1 := by omega
      rw [e3]
      show ch n (n - (k + 1)) + ch n (n - (k + 1) + 1) = ch n k + ch n (k + 1)
      rw [show n - (k + 1) + 1 = n - k by omega, h1, h2, Nat.add_comm]
def rowD (n : Nat) : List D := (List.range (n + 1)).map fun j => .int (ch n j)
theorem rowD_len (n : Nat) : (rowD n).length = n + 1 := by simp [rowD]
theorem rowD_at {n : Nat} {j : Nat} (h : j ≤ n) : atI (rowD n) (j : Int) = some (.int (ch n j)) := atI_nat (by unfold rowD; rw [List.getElem?_map, List.getElem?_range (by omega)]; rfl)
theorem rowD_step (n : Nat) : [D.int 1] ++ (rng 0 n).map (fun d => match d with | .int z => D.int (ch n z.toNat + ch n (z.toNat + 1)) | d => d) ++ [D.int 1] = rowD (n + 1) := by
  unfold rowD rng
  rw [List.range_succ_eq_map, List.range_succ, List.map_cons, List.map_map, List.map_map, List.map_append, ch0]
  simp only [List.map_cons, List.map_nil, List.cons_append, List.nil_append, List.append_assoc]
  have e : ch (n + 1) (n + 1) = 1 := ch_self _
  congr 1
  congr 1
  · apply List.map_congr_left
    intro j _
    show D.int (ch n (0 + (j : Int)).toNat + ch n ((0 + (j : Int)).toNat + 1)) = D.int ((ch n j + ch n (j + 1) : Nat) : Int)
    rw [Int.zero_add, Int.toNat_natCast, Int.natCast_add]
  · show [D.int 1] = [D.int ((ch (n + 1) (n + 1) : Nat) : Int)]
    rw [e]
    rfl

/-! ### sticks: texts of . and x -/
def sg (b : Bool) : Nat := if b then 120 else 46
def stk (bs : List Bool) : Str := ⟨(bs.map sg).toArray⟩
theorem stk_nil : ("" : Str) = stk [] := by decide +kernel
theorem stk_p : ("." : Str) = stk [false] := by decide +kernel
theorem stk_x : ("x" : Str) = stk [true] := by decide +kernel
theorem stk_cps (bs : List Bool) : (stk bs).cps = (bs.map sg).toArray := rfl
theorem str_ext {a b : Str} (h : a.cps.toList = b.cps.toList) : a = b := by
  cases a; cases b; simp at h; simp [h]
theorem app_cps (a b : Str) : (a ++ b).cps = a.cps ++ b.cps := rfl
theorem stk_app (a b : List Bool) : stk a ++ stk b = stk (a ++ b) := str_ext (by rw [app_cps]; simp [stk])
theorem stk_len (a : List Bool) : (stk a).length = a.length := by show (stk a).cps.size = _; simp [stk]
theorem sg_inj {a b : Bool} (h : sg a = sg b) : a = b := by cases a <;> cases b <;> first | rfl | exact absurd h (by decide)
theorem map_sg_inj : ∀ {a b : List Bool}, a.map sg = b.map sg → a = b
  | [], [], _ => rfl
  | [], _ :: _, h => by simp at h
  | _ :: _, [], h => by simp at h
  | x :: a, y :: b, h => by
    simp only [List.map_cons, List.cons.injEq] at h
    rw [sg_inj h.1, map_sg_inj h.2]
theorem stk_inj {a b : List Bool} (h : stk a = stk b) : a = b := map_sg_inj (by have := congrArg (fun s : Str => s.cps.toList) h; simpa [stk] using this)
theorem stk_beq (a b : List Bool) : (stk a == stk b) = decide (a = b) := by
  by_cases h : a = b
  · subst h; simp
  · rw [decide_eq_false h, beq_eq_false_iff_ne]
    exact fun q => h (stk_inj q)
theorem chars_stk (a : List Bool) : chars (stk a) = a.map fun b => .str (stk [b]) := by
  simp [chars, stk]
/-- how many are notched -/
def cnt : List Bool → Nat
  | [] => 0
  | true :: r => cnt r + 1
  | false :: r => cnt r
theorem cnt_le : ∀ bs : List Bool, cnt bs ≤ bs.length
  | [] => Nat.le_refl _
  | true :: r => Nat.succ_le_succ (cnt_le r)
  | false :: r => Nat.le_succ_of_le (cnt_le r)
theorem cnt_app : ∀ a b : List Bool, cnt (a ++ b) = cnt a + cnt b
  | [], b => by simp [cnt]
  | true :: a, b => by show cnt (a ++ b) + 1 = cnt a + 1 + cnt b; rw [cnt_app a b]; omega
  | false :: a, b => by show cnt (a ++ b) = cnt a + cnt b; exact cnt_app a b
theorem cnt_not : ∀ bs : List Bool, cnt (bs.map (!·)) + cnt bs = bs.length
  | [] => rfl
  | true :: r => by
    have := cnt_not r
    show cnt (r.map (!·)) + (cnt r + 1) = r.length + 1
    omega
  | false :: r => by
    have := cnt_not r
    show cnt (r.map (!·)) + 1 + cnt r = r.length + 1
    omega
open Builtin.Str StrLaws in
theorem occ_cnt (s : Str) (c limit : Nat) : ∀ (m lo : Nat) (st : Array Nat × Nat), st.snd ≤ lo → st.fst.size + m ≤ limit →
    (forIn (List.range' lo m) st (occBody s ⟨#[c]⟩ s.length limit)).run.fst.size = st.fst.size + (List.range' lo m).countP (fun i => decide (s.cps.toList[i]? = some c))
  | 0, lo, st, _, _ => rfl
  | m + 1, lo, st, h1, h2 => by
    rw [List.range'_succ, List.forIn_cons]
    unfold occBody
    by_cases hc : s.cps.toList[lo]? = some c
    · have h3 := (subAt_one s c lo).mpr hc
      rw [if_pos ⟨⟨⟨by omega, h1⟩, h3.1⟩, h3.2⟩, List.countP_cons_of_pos (by simpa using hc)]
      have ih := occ_cnt s c limit m (lo + 1) (st.fst.push lo, lo + (⟨#[c]⟩ : Str).length) (Nat.le_refl _) (by simp; omega)
      refine Eq.trans ih ?_
      simp
      omega
    · have h3 : ¬ (((st.fst.size < limit ∧ st.snd ≤ lo) ∧ lo + (⟨#[c]⟩ : Str).length ≤ s.length) ∧ subAt s ⟨#[c]⟩ lo = true) := fun h => hc ((subAt_one s c lo).mp ⟨h.1.2, h.2⟩)
      rw [if_neg h3, List.countP_cons_of_neg (by simpa using hc)]
      exact occ_cnt s c limit m (lo + 1) (st.fst, st.snd) (by show st.snd ≤ lo + 1; omega) (by show st.fst.size + m ≤ limit; omega)
theorem countP_at (c : Nat) : ∀ (l : List Nat) (n : Nat), l.length ≤ n → (List.range n).countP (fun i => decide (l[i]? = some c)) = l.countP (fun x => decide (x = c))
  | [], n, _ => by simp
  | a :: l, 0, h => by simp at h
  | a :: l, n + 1, h => by
    rw [List.range_succ_eq_map, List.countP_cons, List.countP_map, List.countP_cons]
    have ih := countP_at c l n (by simpa using h)
    have e : ((fun i => decide ((a :: l)[i]? = some c)) ∘ Nat.succ) = fun i => decide (l[i]? = some c) := by funext i; simp
    rw [e, ih]
    simp
theorem count_one (s : Str) (c : Nat) : Txt.count s ⟨#[c]⟩ = ((s.cps.toList.countP (fun x => decide (x = c)) : Nat) : Int) := by
  unfold Txt.count
  rw [StrLaws.occ_eq, Array.length_toList, occ_cnt s c (s.length + 1) (s.length + 1 - 0) 0 (#[], 0) (Nat.le_refl _) (by simp), ← List.range_eq_range', countP_at c _ _ (by show s.cps.toList.length ≤ s.cps.size + 1 - 0; simp)]
  simp
theorem count_x (bs : List Bool) : Txt.count (stk bs) (stk [true]) = ((cnt bs : Nat) : Int) := by
  have e : stk [true] = ⟨#[120]⟩ := rfl
  rw [e, count_one]
  congr 1
  induction bs with
  | nil => rfl
  | cons b r ih =>
    have h : (stk (b :: r)).cps.toList = sg b :: (stk r).cps.toList := by simp [stk]
    rw [h, List.countP_cons, ih]
    cases b <;> rfl
theorem join_eqS (y : Str) (parts : List Str) : Txt.join y parts = Str.join y parts := StrLaws.glued_eq_join y parts
/-- the texts one behind the other -/
theorem join_stk : ∀ f : List (List Bool), Txt.join (stk []) (f.map stk) = stk f.flatten
  | [] => by rw [join_eqS]; rfl
  | [x] => by rw [join_eqS]; simp [Str.join]
  | x :: y :: r => by
    have ih := join_stk (y :: r)
    rw [join_eqS] at ih ⊢
    show stk x ++ stk [] ++ Str.join (stk []) ((y :: r).map stk) = _
    rw [ih, stk_app, stk_app]
    simp
theorem flat_one : ∀ bs : List Bool, (bs.map fun b => [b]).flatten = bs
  | [] => rfl
  | b :: r => by rw [List.map_cons, List.flatten_cons, flat_one r]; rfl
theorem join_one (bs : List Bool) : Txt.join (stk []) (bs.map fun b => stk [b]) = stk bs := by
  have h := join_stk (bs.map fun b => [b])
  rw [List.map_map] at h
  rw [flat_one] at h
  exact h
theorem lens_one (bs : List Bool) : ((bs.map fun b => stk [b]).map (·.length)).sum = bs.length := by
  induction bs with
  | nil => rfl
  | cons b r ih => rw [List.map_cons, List.map_cons, List.sum_cons, ih, stk_len]; simp; omega
theorem strs_one (bs : List Bool) : strsD (bs.map fun b => D.str (stk [b])) = some (bs.map fun b => stk [b]) := by
  have h := strsD_map (bs.map fun b => stk [b])
  rw [List.map_map] at h
  exact h
theorem tyM_str {μ : Store} {s : Str} : tyM "str" μ (.str s) = True := by simp [tyM]
/-- all but the cell at p as it was -/
def Mut (p : Addr) (μ μ' : Store) : Prop := ∀ a c, a ≠ p → μ a = some c → μ' a = some c
theorem Mut.set {p : Addr} {μ : Store} {c : Cell} : Mut p μ (setS μ p c) := fun a d h q => by rw [setS_ne h]; exact q
theorem Mut.refl {p : Addr} {μ : Store} : Mut p μ μ := fun _ _ _ q => q
theorem Mut.trans {p : Addr} {a b c : Store} (h : Mut p a b) (k : Mut p b c) : Mut p a c := fun x d n q => k x d n (h x d n q)
/-- where it is notched -/
def idxFrom : Nat → List Bool → List Nat
  | _, [] => []
  | k, true :: r => k :: idxFrom (k + 1) r
  | k, false :: r => idxFrom (k + 1) r
theorem idx_length : ∀ (k : Nat) (bs : List Bool), (idxFrom k bs).length = cnt bs
  | _, [] => rfl
  | k, true :: r => by show (idxFrom (k + 1) r).length + 1 = cnt r + 1; rw [idx_length]
  | k, false :: r => idx_length (k + 1) r
theorem in_px (b : Bool) : inD (.str (stk [b])) [.str (stk [false]), .str (stk [true])] = true := by cases b <;> decide +kernel
def xPick (d : D) : Option D := match d with | .tup [.int i, .str s] => if s = stk [true] then some (.int i) else none | _ => none
theorem stk_one_eq {b : Bool} : (stk [b] = stk [true]) = (b = true) := propext ⟨fun h => by have := stk_inj h; simpa using this, fun h => by rw [h]⟩
theorem enum_pick : ∀ (k : Nat) (bs : List Bool), (((bs.map fun b => D.str (stk [b])).zipIdx k).map fun p => D.tup [.int (p.2 : Nat), p.1]).filterMap xPick = (idxFrom k bs).map fun i => D.int (i : Nat)
  | _, [] => rfl
  | k, true :: r => by
    have ih := enum_pick (k + 1) r
    rw [List.map_cons, List.zipIdx_cons, List.map_cons, List.filterMap_cons]
    have e : xPick (D.tup [.int (k : Nat), .str (stk [true])]) = some (.int (k : Nat)) := by simp [xPick]
    simp only [e, ih]
    rfl
  | k, false :: r => by
    have ih := enum_pick (k + 1) r
    rw [List.map_cons, List.zipIdx_cons, List.map_cons, List.filterMap_cons]
    have e : xPick (D.tup [.int (k : Nat), .str (stk [false])]) = none := by
      have : ¬ (stk [false] = stk [true]) := fun h => by have := stk_inj h; simp at this
      simp [xPick, this]
    simp only [e, ih]
    rfl
theorem enum_stk (bs : List Bool) : enumD (chars (stk bs)) = ((bs.map fun b => D.str (stk [b])).zipIdx.map fun p => D.tup [.int (p.2 : Nat), p.1]) := by rw [chars_stk]; rfl
theorem enum_at {bs : List Bool} {i : Nat} {d : D} (h : (enumD (chars (stk bs)))[i]? = some d) : ∃ b, bs[i]? = some b ∧ d = .tup [.int (i : Nat), .str (stk [b])] := by
  rw [enum_stk, List.getElem?_map, List.getElem?_zipIdx, List.getElem?_map] at h
  cases q : bs[i]? with
  | none => rw [q] at h; cases h
  | some b =>
    rw [q] at h
    simp at h
    exact ⟨b, rfl, h.symm⟩
/-- its number among those with as many notches -/
def num : List Bool → Nat
  | [] => 0
  | true :: r => ch r.length (cnt r + 1) + num r
  | false :: r => num r
theorem num_drop_le : ∀ (bs : List Bool) (i : Nat), num (bs.drop i) ≤ num bs
  | bs, 0 => Nat.le_refl _
  | [], _ + 1 => Nat.le_refl _
  | true :: r, i + 1 => by
    have := num_drop_le r i
    show num (r.drop i) ≤ ch r.length (cnt r + 1) + num r
    omega
  | false :: r, i + 1 => num_drop_le r i
/-- the stick with a number -/
def mk : Nat → Nat → Nat → List Bool
  | 0, _, _ => []
  | l + 1, n, r => if r < ch l n then false :: mk l n r else true :: mk l (n - 1) (r - ch l n)
theorem mk_length : ∀ l n r, (mk l n r).length = l
  | 0, _, _ => rfl
  | l + 1, n, r => by
    unfold mk
    split <;> simp [mk_length l]
theorem num_lt : ∀ bs : List Bool, num bs < ch bs.length (cnt bs)
  | [] => by decide
  | true :: r => by
    have := num_lt r
    show ch r.length (cnt r + 1) + num r < ch r.length (cnt r) + ch r.length (cnt r + 1)
    omega
  | false :: r => by
    have h := num_lt r
    show num r < ch (r.length + 1) (cnt r)
    cases q : cnt r with
    | zero => rw [q] at h; rw [ch0] at h ⊢; exact h
    | succ k => rw [q] at h; show num r < ch r.length k + ch r.length (k + 1); omega
theorem mk_num : ∀ bs : List Bool, mk bs.length (cnt bs) (num bs) = bs
  | [] => rfl
  | true :: r => by
    show (if ch r.length (cnt r + 1) + num r < ch r.length (cnt r + 1) then _ else true :: mk r.length (cnt r + 1 - 1) (ch r.length (cnt r + 1) + num r - ch r.length (cnt r + 1))) = _
    rw [if_neg (by omega), Nat.add_sub_cancel_left, Nat.add_sub_cancel, mk_num r]
  | false :: r => by
    show (if num r < ch r.length (cnt r) then false :: mk r.length (cnt r) (num r) else _) = _
    rw [if_pos (num_lt r), mk_num r]
theorem num_not : ∀ bs : List Bool, num (bs.map (!·)) + num bs + 1 = ch bs.length (cnt bs)
  | [] => rfl
  | true :: r => by
    have ih := num_not r
    show num (r.map (!·)) + (ch r.length (cnt r + 1) + num r) + 1 = ch r.length (cnt r) + ch r.length (cnt r + 1)
    omega
  | false :: r => by
    have ih := num_not r
    have hc := cnt_not r
    have hl := cnt_le r
    show ch (r.map (!·)).length (cnt (r.map (!·)) + 1) + num (r.map (!·)) + num r + 1 = ch (r.length + 1) (cnt r)
    rw [List.length_map]
    cases q : cnt r with
    | zero =>
      rw [q] at ih hc
      rw [ch0] at ih
      rw [ch_zero _ _ (by omega), ch0]
      omega
    | succ k =>
      rw [q] at ih hc hl
      have e : cnt (r.map (!·)) + 1 = r.length - k := by omega
      rw [e, ch_sym (by omega)]
      show ch r.length k + num (r.map (!·)) + num r + 1 = ch r.length k + ch r.length (k + 1)
      omega

/-- a reading that leaves the store but for what is dropped -/
def qAny (μ : Store) (Q : D → Store → Prop) (d : D) : Prop := ∀ μ', Dl.Sub μ μ' → Q d μ'

def sD (bs : List Bool) : D := .str (stk bs)
theorem sg_lt (b : Bool) : sg b < 0x110000 := by cases b <;> decide
theorem stk_ok (bs : List Bool) : PyData.strOk (stk bs) = true := by
  unfold PyData.strOk
  rw [stk_cps, List.all_toArray, List.all_map, List.all_eq_true]
  intro b _
  exact decide_eq_true (sg_lt b)
def eStk : Enc (List Bool) := ⟨sD, fun bs => .str (stk bs), fun _ => by rw [sD, pyD], fun bs => by rw [PyData.canLay0]; exact stk_ok bs, 0, fun _ => by rw [PyData.depth]; exact Nat.le_refl _, fun a b => by rw [PyData.eqv]; exact stk_beq a b⟩
/-- all sticks of a length, ascending -/
def allS : Nat → List (List Bool)
  | 0 => [[]]
  | n + 1 => (allS n).map (false :: ·) ++ (allS n).map (true :: ·)
theorem allS_length : ∀ n, (allS n).length = 2 ^ n
  | 0 => rfl
  | n + 1 => by simp only [allS, List.length_append, List.length_map, allS_length n, Nat.pow_succ]; omega
theorem allS_mem : ∀ {n : Nat} {bs : List Bool}, bs ∈ allS n → bs.length = n
  | 0, bs, h => by simp [allS] at h; simp [h]
  | n + 1, bs, h => by
    simp only [allS, List.mem_append, List.mem_map] at h
    rcases h with ⟨x, hx, rfl⟩ | ⟨x, hx, rfl⟩ <;> simp [allS_mem hx]
def mid (n : Nat) : List (List Bool) := (allS n).filter fun bs => decide (cnt bs = n / 2)
theorem count_ch : ∀ n k : Nat, ((allS n).filter fun bs => decide (cnt bs = k)).length = ch n k
  | 0, 0 => rfl
  | 0, k + 1 => rfl
  | n + 1, 0 => by
    simp only [allS, List.filter_append, List.length_append, List.filter_map, List.length_map]
    have e1 : (fun bs : List Bool => decide (cnt bs = 0)) ∘ (fun x => false :: x) = fun bs => decide (cnt bs = 0) := by funext x; rfl
    have e2 : (fun bs : List Bool => decide (cnt bs = 0)) ∘ (fun x => true :: x) = fun _ => false := by funext x; show decide (cnt x + 1 = 0) = false; simp
    rw [e1, e2, count_ch n 0, ch0, ch0]
    simp
  | n + 1, k + 1 => by
    simp only [allS, List.filter_append, List.length_append, List.filter_map, List.length_map]
    have e1 : (fun bs : List Bool => decide (cnt bs = k + 1)) ∘ (fun x => false :: x) = fun bs => decide (cnt bs = k + 1) := by funext x; rfl
    have e2 : (fun bs : List Bool => decide (cnt bs = k + 1)) ∘ (fun x => true :: x) = fun bs => decide (cnt bs = k) := by funext x; show decide (cnt x + 1 = k + 1) = decide (cnt x = k); simp
    rw [e1, e2, count_ch n k, count_ch n (k + 1)]
    show ch n (k + 1) + ch n k = ch n k + ch n (k + 1)
    omega
theorem pow_small {n : Nat} (h : n ≤ 12) : 2 ^ n ≤ 4096 := Nat.le_trans (Nat.pow_le_pow_right (by decide) h) (by decide)

/-! ### the source of draws -/
def DealAt (μ : Store) (p q : Addr) : Prop := p ≠ q ∧ ∃ (xs : List Nat) (b : Nat), μ p = some (.lst [.ref q, .int b]) ∧ μ q = some (.lst (xs.map eNat.enc)) ∧ xs.length ≤ 1000
def Mut2 (p q : Addr) (μ μ' : Store) : Prop := ∀ a c, a ≠ p → a ≠ q → μ a = some c → μ' a = some c
theorem Mut2.refl {p q : Addr} {μ : Store} : Mut2 p q μ μ := fun _ _ _ _ h => h
theorem Mut2.trans {p q : Addr} {a b c : Store} (h : Mut2 p q a b) (k : Mut2 p q b c) : Mut2 p q a c := fun x d h1 h2 h3 => k x d h1 h2 (h x d h1 h2 h3)
theorem Mut2.setP {p q : Addr} {μ : Store} {c : Cell} : Mut2 p q μ (setS μ p c) := fun a d h1 _ h3 => by rw [setS_ne h1]; exact h3
theorem Mut2.setQ {p q : Addr} {μ : Store} {c : Cell} : Mut2 p q μ (setS μ q c) := fun a d _ h2 h3 => by rw [setS_ne h2]; exact h3
theorem oNe_refL {α : Type} [DecidableEq α] (E : Enc α) (h : E.n + 1 ≤ 64) {q : Addr} {as bs : List α} {μ : Store} (hq : μ q = some (.lst (as.map E.enc))) {P : D → Store → Prop} : oNe (.ref q) (.lst (bs.map E.enc)) μ P = P (.bl (!decide (as = bs))) μ := by
  have e1 : pyS μ (.ref q) = some ((eLst E).py as) := by unfold pyS; dsimp only; rw [hq]; dsimp only; rw [encs_ok]; rfl
  have e2 : pyS μ (.lst (bs.map E.enc)) = some ((eLst E).py bs) := (eLst E).ok bs
  unfold oNe
  rw [show scD (D.ref q) (.lst (bs.map E.enc)) = none from rfl, e1, e2]
  dsimp only
  rw [enc_shaped (eLst E) h, enc_shaped (eLst E) h, (eLst E).eqv]
  simp
theorem last_at {xs : List Nat} {x : Nat} : atI ((xs ++ [x]).map eNat.enc) (-1) = some (.int (x : Nat)) := by
  rw [List.map_append]
  unfold atI ixN
  simp
  have e : (-1 + ((xs.length : Int) + 1)).toNat = xs.length := by omega
  rw [if_pos (by omega)]
  simp [e]
  rfl

def eTxt : Enc {s : Str // PyData.strOk s = true} := ⟨fun s => .str s.1, fun s => .str s.1, fun _ => by rw [pyD], fun s => by rw [PyData.canLay0]; exact s.2, 0, fun _ => by rw [PyData.depth]; exact Nat.le_refl _, fun a b => by
  rw [PyData.eqv]
  by_cases h : a = b
  · subst h; simp
  · have h2 : ¬ a.1 = b.1 := fun z => h (Subtype.ext z)
    simp [h, h2]⟩

/-! ### check signs -/
def plc (n : Nat) : Nat := if n = 0 then 0 else n.log2 + 1
theorem plc_eq {f n : Nat} (h1 : f = 0 ∨ 2 ^ (f - 1) ≤ n) (h2 : n < 2 ^ f) : f = plc n := by
  unfold plc
  by_cases h : n = 0
  · subst h
    rw [if_pos rfl]
    rcases h1 with h1 | h1
    · exact h1
    · have : 0 < 2 ^ (f - 1) := Nat.pow_pos (by decide); omega
  · rw [if_neg h]
    have h3 := (Nat.log2_lt h).mpr h2
    rcases h1 with rfl | h1
    · simp at h2; omega
    · have h4 := (Nat.le_log2 h).mpr h1
      omega
theorem plc_lt (n : Nat) : n < 2 ^ plc n := by
  unfold plc
  by_cases h : n = 0
  · subst h; decide
  · rw [if_neg h]; exact (Nat.log2_lt h).mp (Nat.lt_succ_self _)
theorem plc_le (n : Nat) : plc n ≤ n := by
  unfold plc
  by_cases h : n = 0
  · rw [if_pos h]; omega
  · rw [if_neg h]
    have h1 := Nat.log2_self_le h
    have h2 : n.log2 < 2 ^ n.log2 := Nat.lt_two_pow_self
    omega
def bin : Nat → Nat → List Bool
  | 0, _ => []
  | i + 1, n => decide (n / 2 ^ i % 2 = 1) :: bin i n
theorem bin_length : ∀ i n, (bin i n).length = i
  | 0, _ => rfl
  | i + 1, n => by simp [bin, bin_length i n]
/-- every notch of the one is notched in the other -/
def subB : List Bool → List Bool → Bool
  | [], _ => true
  | _, [] => true
  | a :: as, b :: bs => (!a || b) && subB as bs
theorem subB_app : ∀ {a b c d : List Bool}, a.length = b.length → subB (a ++ c) (b ++ d) = (subB a b && subB c d)
  | [], [], c, d, _ => by simp [subB]
  | x :: a, y :: b, c, d, h => by
    simp only [List.cons_append, subB]
    rw [subB_app (by simpa using h), Bool.and_assoc]
theorem subB_bin : ∀ {i n m : Nat}, subB (bin i n) (bin i m) = true → n % 2 ^ i ≤ m % 2 ^ i
  | 0, n, m, _ => by simp [Nat.mod_one]
  | i + 1, n, m, h => by
    simp only [bin, subB, Bool.and_eq_true, Bool.or_eq_true, Bool.not_eq_true', decide_eq_false_iff_not, decide_eq_true_eq] at h
    have ih := subB_bin h.2
    rw [Nat.pow_succ, Nat.mod_mul, Nat.mod_mul]
    have h1 : n / 2 ^ i % 2 ≤ m / 2 ^ i % 2 := by
      rcases h.1 with h | h
      · have := Nat.mod_lt (n / 2 ^ i) (show 0 < 2 by decide); omega
      · have := Nat.mod_lt (n / 2 ^ i) (show 0 < 2 by decide); omega
    exact Nat.add_le_add ih (Nat.mul_le_mul_left _ h1)
theorem subB_cnt : ∀ {a b : List Bool}, a.length = b.length → subB a b = true → cnt a ≤ cnt b ∧ (a ≠ b → cnt a < cnt b)
  | [], [], _, _ => ⟨Nat.le_refl _, fun h => absurd rfl h⟩
  | x :: a, y :: b, h, hs => by
    simp only [subB, Bool.and_eq_true] at hs
    obtain ⟨i1, i2⟩ := subB_cnt (by simpa using h) hs.2
    cases x <;> cases y
    · refine ⟨i1, fun q => i2 fun z => q (by rw [z])⟩
    · show cnt a ≤ cnt b + 1 ∧ (_ → cnt a < cnt b + 1)
      exact ⟨by omega, fun _ => by omega⟩
    · simp at hs
    · show cnt a + 1 ≤ cnt b + 1 ∧ (_ → cnt a + 1 < cnt b + 1)
      exact ⟨by omega, fun q => by have := i2 fun z => q (by rw [z]); omega⟩
def chk (bs : List Bool) : List Bool := bs ++ bin (plc bs.length) (bs.length - cnt bs)
theorem chk_length (bs : List Bool) : (chk bs).length = bs.length + plc bs.length := by simp [chk, bin_length]
theorem chk_not_sub {a b : List Bool} (hl : a.length = b.length) (hne : a ≠ b) : subB (chk a) (chk b) = false := by
  rw [Bool.eq_false_iff]
  intro h
  unfold chk at h
  rw [subB_app hl, Bool.and_eq_true, hl] at h
  have h1 := (subB_cnt hl h.1).2 hne
  have h2 := subB_bin h.2
  have ha := cnt_le a
  have hb := cnt_le b
  have hp := plc_lt b.length
  rw [Nat.mod_eq_of_lt (by omega), Nat.mod_eq_of_lt (by omega)] at h2
  omega
theorem count_p (bs : List Bool) : Txt.count (stk bs) (stk [false]) = ((bs.length - cnt bs : Nat) : Int) := by
  have e : stk [false] = ⟨#[46]⟩ := rfl
  rw [e, count_one]
  congr 1
  induction bs with
  | nil => rfl
  | cons b r ih =>
    have h : (stk (b :: r)).cps.toList = sg b :: (stk r).cps.toList := by simp [stk]
    have hc := cnt_le r
    rw [h, List.countP_cons, ih]
    cases b
    · show r.length - cnt r + 1 = r.length + 1 - cnt r
      omega
    · show r.length - cnt r + 0 = r.length + 1 - (cnt r + 1)
      omega
theorem cut_stk (bs : List Bool) (n : Nat) (h : n ≤ bs.length) : cutS (stk bs) none (some (n : Int)) = stk (bs.take n) := by
  apply str_ext
  unfold cutS
  have hl := stk_len bs
  simp only [hl, HT.sIx_none, HT.sIx_nat, List.drop_zero, Nat.sub_zero, Nat.min_eq_left h]
  simp [stk, List.map_take]
theorem repr_small {bs : List Bool} (h : bs.length ≤ 10000) : (reprText (stk bs)).length ≤ sizeLine := by
  have := StrLaws.reprText_len (stk bs) (fun c hc => by
    have hc2 : c ∈ bs.map sg := by simpa [stk] using hc
    obtain ⟨a, _, rfl⟩ := List.mem_map.mp hc2
    exact Nat.lt_of_lt_of_le (sg_lt a) (by decide))
  rw [stk_len] at this
  exact le_line (by omega)
theorem empty_stk (bs : List Bool) : Str.empty ++ stk bs = stk bs := by
  rw [show Str.empty = stk [] from rfl, stk_app]
  rfl
/-- a way to add -/
def wayA (C : Addr) : D := .obj C [("how", .str "add"), ("most", .non), ("part", .non)]
theorem goes_eq : ∀ {a b : List Bool}, a.length = b.length → (List.range a.length).all (fun i => decide (a[i]? = b[i]?) || decide (b[i]? = some true)) = subB a b
  | [], [], _ => rfl
  | x :: a, y :: b, h => by
    have ih := goes_eq (a := a) (b := b) (by simpa using h)
    rw [List.length_cons, List.range_succ_eq_map, List.all_cons, List.all_map]
    simp only [Function.comp_def, List.getElem?_cons_succ, List.getElem?_cons_zero, Nat.succ_eq_add_one]
    rw [ih]
    cases x <;> cases y <;> simp [subB]

theorem stk_at {b : List Bool} {i : Nat} {x : Bool} (h : b[i]? = some x) : atI (stk b).cps.toList ((i : Nat) : Int) = some (sg x) := atI_nat (by simp [stk, h])
theorem one_stk (x : Bool) : (⟨#[sg x]⟩ : Str) = stk [x] := rfl
theorem zero_add_nat (i : Nat) : (0 : Int) + (i : Int) = (i : Nat) := by omega
theorem fm_congr {α β : Type} {f g : α → Option β} : ∀ {l : List α}, (∀ x ∈ l, f x = g x) → l.filterMap f = l.filterMap g
  | [], _ => rfl
  | a :: l, h => by
    rw [List.filterMap_cons, List.filterMap_cons, h a List.mem_cons_self, fm_congr fun x hx => h x (List.mem_cons_of_mem _ hx)]
theorem fm_if {α β : Type} (p : α → Bool) (h : α → β) : ∀ l : List α, l.filterMap (fun i => if p i = true then some (h i) else none) = (l.filter p).map h
  | [] => rfl
  | a :: l => by
    rw [List.filterMap_cons, List.filter_cons]
    by_cases q : p a = true
    · simp only [q, if_true, List.map_cons, fm_if p h l]
    · have q' : p a = false := by simpa using q
      simp only [q', Bool.false_eq_true, if_false, fm_if p h l]
theorem enum_range (a : List Bool) : enumD (chars (stk a)) = (List.range a.length).map fun i => D.tup [.int (i : Nat), .str (stk [a.getD i false])] := by
  apply List.ext_getElem?
  intro i
  rw [enum_stk, List.getElem?_map, List.getElem?_zipIdx, List.getElem?_map, List.getElem?_map]
  by_cases h : i < a.length
  · rw [List.getElem?_eq_getElem h, List.getElem?_range h]
    simp [h]
  · rw [List.getElem?_eq_none (by omega), List.getElem?_eq_none (by simpa using h)]
    rfl
def nw (a b : List Bool) (i : Nat) : Bool := decide (a[i]? = some true) && !decide (b[i]? = some true)
theorem nw_all : ∀ {a b : List Bool}, a.length = b.length → (List.range a.length).all (fun i => !nw a b i) = subB a b
  | [], [], _ => rfl
  | x :: a, y :: b, h => by
    have ih := nw_all (a := a) (b := b) (by simpa using h)
    rw [List.length_cons, List.range_succ_eq_map, List.all_cons, List.all_map]
    have e : ((fun i => !nw (x :: a) (y :: b) i) ∘ Nat.succ) = fun i => !nw a b i := by funext i; simp [nw]
    rw [e, ih]
    cases x <;> cases y <;> simp [nw, subB]
theorem nil_all (p : Nat → Bool) (l : List Nat) : decide (l.filter p = []) = l.all fun i => !p i := by
  rw [Bool.eq_iff_iff, decide_eq_true_eq, List.filter_eq_nil_iff, List.all_eq_true]
  simp
def nwF (b : List Bool) (d : D) : Option D := match d with | .tup [.int i, .str s] => if (decide (s = stk [true]) && !decide (b[i.toNat]? = some true)) = true then some (.int i) else none | _ => none
theorem nw_pick (a b : List Bool) : (enumD (chars (stk a))).filterMap (nwF b) = ((List.range a.length).filter (nw a b)).map eNat.enc := by
  rw [enum_range, List.filterMap_map, ← fm_if]
  apply fm_congr
  intro i hi
  have hi2 : i < a.length := by simpa using hi
  show (if (decide (stk [a.getD i false] = stk [true]) && !decide (b[((i : Nat) : Int).toNat]? = some true)) = true then some (D.int (i : Nat)) else none) = if nw a b i = true then some (eNat.enc i) else none
  have e : decide (stk [a.getD i false] = stk [true]) = decide (a[i]? = some true) := by
    rw [List.getElem?_eq_getElem hi2, List.getD_eq_getElem?_getD, List.getElem?_eq_getElem hi2]
    rw [Bool.eq_iff_iff]
    simp [stk_one_eq]
  rw [e]
  rfl
/-- the places where two differ -/
def dif (a b : List Bool) : List Nat := (List.range a.length).filter fun i => !decide (a[i]? = b[i]?)
theorem dif_all {a b : List Bool} (h : a.length = b.length) : (dif a b).all (fun i => decide (b[i]? = some true)) = subB a b := by
  rw [← goes_eq h]
  unfold dif
  rw [List.all_filter]
  congr 1
  funext i
  cases decide (a[i]? = b[i]?) <;> simp
def difF (a b : List Bool) (d : D) : Option D := match d with | .int i => if (!decide (a[i.toNat]? = b[i.toNat]?)) = true then some (.int i) else none | _ => none
theorem dif_pick (a b : List Bool) : (rng 0 a.length).filterMap (difF a b) = (dif a b).map eNat.enc := by
  unfold rng dif
  rw [List.filterMap_map, ← fm_if]
  apply fm_congr
  intro i _
  show (if (!decide (a[((0 : Int) + (i : Nat)).toNat]? = b[((0 : Int) + (i : Nat)).toNat]?)) = true then some (D.int (0 + (i : Nat))) else none) = _
  rw [zero_add_nat]
  rfl

/-! ### rules of checks -/
structure OkR (cs : List (List Bool)) (w : Nat) : Prop where
  pos : 0 < cs.length
  few : cs.length ≤ 100
  wp : 0 < w
  wl : w ≤ 100
  all : ∀ b ∈ cs, b.length = w
def ruleT (cs : List (List Bool)) : Str := Txt.join " " (cs.map stk)
def ruleD (C : Addr) (cs : List (List Bool)) : D := .obj C [("checks", .tup (cs.map sD)), ("text", .str (ruleT cs))]
theorem lk_ch {a b : D} : look [(("checks" : Str), a), ("text", b)] "checks" = some a := by rfl
theorem lk_tx {a b : D} : look [(("checks" : Str), a), ("text", b)] "text" = some b := by rfl
def cf (cs : List (List Bool)) (p : Nat) : List Bool := cs.getD (p % cs.length) []
theorem cf_get {cs : List (List Bool)} (h : 0 < cs.length) (p : Nat) : cs[p % cs.length]? = some (cf cs p) := by
  have h2 := Nat.mod_lt p h
  unfold cf
  rw [List.getD_eq_getElem?_getD, List.getElem?_eq_getElem h2]
  rfl
theorem cf_mem {cs : List (List Bool)} (h : 0 < cs.length) (p : Nat) : cf cs p ∈ cs := List.mem_of_getElem? (cf_get h p)
def cost (cs : List (List Bool)) (p f : Nat) : Option Nat := if subB (cf cs p) (cf cs (p - f)) = true then some (f + (cnt (cf cs (p - f)) - cnt (cf cs p))) else none
def mD : Option Int → D
  | none => .non
  | some m => .int m
def nD : Option Nat → D
  | none => .non
  | some m => .int m
def okS (cs : List (List Bool)) (most : Option Int) (p f : Nat) : Bool := match cost cs p f with
  | some x => (match most with | none => true | some m => decide ((x : Int) ≤ m))
  | none => false
def row (cs : List (List Bool)) (most : Option Int) (f n : Nat) : List (Nat × Nat) := ((List.range n).filter fun j => okS cs most (f + j) f).map fun j => (f + j, f)
def steps (cs : List (List Bool)) (most : Option Int) (n : Nat) : List (Nat × Nat) := (List.range n).flatMap fun i => row cs most (i + 1) cs.length
def pD (p : Nat × Nat) : D := .tup [.int p.1, .int p.2]
def mn : List Nat → Option Nat
  | [] => none
  | x :: r => match mn r with | none => some x | some y => some (if y < x then y else x)
theorem mn_none : ∀ {l : List Nat}, mn l = none → l = []
  | [], _ => rfl
  | x :: r, h => by
    unfold mn at h
    split at h <;> cases h
theorem mn_some : ∀ {l : List Nat} {m : Nat}, mn l = some m → m ∈ l ∧ ∀ y ∈ l, m ≤ y
  | [], _, h => by cases h
  | x :: r, m, h => by
    unfold mn at h
    split at h
    · rename_i q
      cases h
      have := mn_none q
      subst this
      simp
    · rename_i y q
      obtain ⟨i1, i2⟩ := mn_some q
      cases h
      split
      · refine ⟨List.mem_cons_of_mem _ i1, fun z hz => ?_⟩
        rcases List.mem_cons.mp hz with rfl | hz
        · omega
        · exact i2 z hz
      · refine ⟨List.mem_cons_self, fun z hz => ?_⟩
        rcases List.mem_cons.mp hz with rfl | hz
        · omega
        · have := i2 z hz; omega
theorem mn_eq {l : List Nat} {m : Nat} (h : m ∈ l) (k : ∀ y ∈ l, m ≤ y) : mn l = some m := by
  cases q : mn l with
  | none => rw [mn_none q] at h; cases h
  | some x =>
    obtain ⟨i1, i2⟩ := mn_some q
    have h1 := i2 m h
    have h2 := k x i1
    rw [show x = m by omega]
def fu (cs : List (List Bool)) (most : Option Int) : Option Nat := mn ((steps cs most cs.length).map (·.1))
def lf (cs : List (List Bool)) (most : Option Int) (l : Nat) : Option Nat := (List.range l).find? (fun i => (List.range (i + 1)).any fun j => okS cs most (i + 1) (j + 1)) |>.map (· + 1)
theorem idx_lt : ∀ {k : Nat} {a : List Bool} {i : Nat}, i ∈ idxFrom k a → i < k + a.length
  | _, [], _, h => by cases h
  | k, true :: r, i, h => by
    rcases List.mem_cons.mp h with rfl | h
    · simp
    · have := idx_lt h; rw [List.length_cons]; omega
  | k, false :: r, i, h => by have := idx_lt (k := k + 1) (a := r) h; rw [List.length_cons]; omega
theorem idx_all : ∀ {k : Nat} {a b p : List Bool}, p.length = k → a.length = b.length → (idxFrom k a).all (fun i => decide ((p ++ b)[i]? = some true)) = subB a b
  | _, [], _, _, _, _ => rfl
  | k, x :: a, y :: b, p, hp, hl => by
    have ih := idx_all (k := k + 1) (a := a) (b := b) (p := p ++ [y]) (by simp [hp]) (by simpa using hl)
    rw [List.append_assoc, List.singleton_append] at ih
    have e : (p ++ y :: b)[k]? = some y := by rw [List.getElem?_append_right (by omega), hp, Nat.sub_self]; rfl
    cases x with
    | true =>
      show (k :: idxFrom (k + 1) a).all _ = _
      rw [List.all_cons, ih, e]
      cases y <;> simp [subB]
    | false =>
      show (idxFrom (k + 1) a).all _ = _
      rw [ih]
      simp [subB]
theorem steps_mem {cs : List (List Bool)} {most : Option Int} {p f : Nat} : (p, f) ∈ steps cs most cs.length ↔ 1 ≤ f ∧ f ≤ cs.length ∧ f ≤ p ∧ p < f + cs.length ∧ okS cs most p f = true := by
  unfold steps row
  simp only [List.mem_flatMap, List.mem_range, List.mem_map, List.mem_filter, Prod.mk.injEq]
  constructor
  · rintro ⟨i, hi, j, ⟨hj, ho⟩, rfl, rfl⟩
    exact ⟨by omega, by omega, by omega, by omega, ho⟩
  · rintro ⟨h1, h2, h3, h4, h5⟩
    refine ⟨f - 1, by omega, p - f, ⟨by omega, ?_⟩, by omega, by omega⟩
    rw [show f - 1 + 1 = f by omega, show f + (p - f) = p by omega]
    exact h5
theorem okS_le {cs : List (List Bool)} {most : Option Int} {p f q g : Nat} (h1 : p % cs.length = q % cs.length) (h2 : (p - f) % cs.length = (q - g) % cs.length) (h3 : g ≤ f) (h : okS cs most p f = true) : okS cs most q g = true := by
  unfold okS cost cf at h ⊢
  rw [h1, h2] at h
  split at h
  · rename_i x hx
    split at hx
    · rename_i hs
      rw [if_pos hs]
      cases hx
      cases most with
      | none => rfl
      | some m =>
        simp only [decide_eq_true_eq] at h ⊢
        omega
    · cases hx
  · cases h
/-- what is unsafe at all is so among the steps -/
theorem steps_low {cs : List (List Bool)} {most : Option Int} {p f : Nat} (hc : 0 < cs.length) (h1 : 1 ≤ f) (h2 : f ≤ p) (h : okS cs most p f = true) : ∃ q g, (q, g) ∈ steps cs most cs.length ∧ q ≤ p := by
  generalize hn : cs.length = n at hc
  have hg1 := Nat.mod_lt (f - 1) hc
  have hg2 := Nat.div_add_mod (f - 1) n
  generalize hgd : (f - 1) % n + 1 = g
  have hgf : g ≤ f := by have := Nat.mod_le (f - 1) n; omega
  have hfm : f = g + n * ((f - 1) / n) := by omega
  have hr1 := Nat.mod_lt (p - g) hc
  have hr2 := Nat.div_add_mod (p - g) n
  generalize hqd : g + (p - g) % n = q
  have hq : q ≤ p := by have := Nat.mod_le (p - g) n; omega
  have hpm : p = q + n * ((p - g) / n) := by omega
  refine ⟨q, g, ?_, hq⟩
  rw [← hn, steps_mem, hn]
  refine ⟨by omega, by omega, by omega, by omega, ?_⟩
  refine okS_le (p := p) (f := f) ?_ ?_ hgf h
  · rw [hn]
    conv => lhs; rw [hpm]
    rw [Nat.add_mul_mod_self_left]
  · rw [hn]
    have e : p - g = (p - f) + n * ((f - 1) / n) := by omega
    have e2 : p - g = (q - g) + n * ((p - g) / n) := by omega
    have e3 : (p - g) % n = (p - f) % n := by rw [e, Nat.add_mul_mod_self_left]
    have e4 : (p - g) % n = (q - g) % n := by
      conv => lhs; rw [e2]
      rw [Nat.add_mul_mod_self_left]
    rw [← e3, e4]
def unS (cs : List (List Bool)) (most : Option Int) (p : Nat) : Prop := ∃ f, 1 ≤ f ∧ f ≤ p ∧ okS cs most p f = true
theorem fu_some {cs : List (List Bool)} {most : Option Int} {m : Nat} (hc : 0 < cs.length) (h : fu cs most = some m) : unS cs most m ∧ m < 2 * cs.length ∧ ∀ p, unS cs most p → m ≤ p := by
  obtain ⟨h1, h2⟩ := mn_some h
  obtain ⟨⟨p, f⟩, h3, rfl⟩ := List.mem_map.mp h1
  obtain ⟨a, b, c, d, e⟩ := steps_mem.mp h3
  refine ⟨⟨f, a, c, e⟩, by show p < _; omega, ?_⟩
  rintro q ⟨g, k1, k2, k3⟩
  obtain ⟨q', g', k4, k5⟩ := steps_low hc k1 k2 k3
  have := h2 q' (List.mem_map.mpr ⟨(q', g'), k4, rfl⟩)
  exact Nat.le_trans this k5
theorem fu_none {cs : List (List Bool)} {most : Option Int} (hc : 0 < cs.length) (h : fu cs most = none) : ∀ p, ¬ unS cs most p := by
  rintro q ⟨g, k1, k2, k3⟩
  obtain ⟨q', g', k4, k5⟩ := steps_low hc k1 k2 k3
  have e := mn_none h
  rw [List.map_eq_nil_iff] at e
  rw [e] at k4
  cases k4
theorem unS_any {cs : List (List Bool)} {most : Option Int} {i : Nat} : ((List.range (i + 1)).any fun j => okS cs most (i + 1) (j + 1)) = true ↔ unS cs most (i + 1) := by
  rw [List.any_eq_true]
  constructor
  · rintro ⟨j, hj, h⟩
    exact ⟨j + 1, by omega, by have := List.mem_range.mp hj; omega, h⟩
  · rintro ⟨f, h1, h2, h3⟩
    exact ⟨f - 1, List.mem_range.mpr (by omega), by rw [show f - 1 + 1 = f by omega]; exact h3⟩
theorem lf_some {cs : List (List Bool)} {most : Option Int} {l m : Nat} (h : lf cs most l = some m) : unS cs most m ∧ 1 ≤ m ∧ m ≤ l ∧ ∀ p, unS cs most p → m ≤ p := by
  unfold lf at h
  cases q : (List.range l).find? (fun i => (List.range (i + 1)).any fun j => okS cs most (i + 1) (j + 1)) with
  | none => rw [q] at h; cases h
  | some i =>
    rw [q] at h
    have h : i + 1 = m := by simpa using h
    subst h
    obtain ⟨h1, as, bs, h2, h3⟩ := List.find?_eq_some_iff_append.mp q
    have hi : i ∈ List.range l := by rw [h2]; simp
    refine ⟨unS_any.mp h1, by omega, by have := List.mem_range.mp hi; omega, ?_⟩
    intro p hp
    have hp1 : 1 ≤ p := by obtain ⟨f, a, b, _⟩ := hp; omega
    refine Decidable.byContradiction fun hlt => ?_
    have hlt : p - 1 < i := by omega
    have hmem : p - 1 ∈ as := by
      have hlen : as.length = i := by
        have e : (List.range l)[as.length]? = some i := by rw [h2, List.getElem?_append_right (Nat.le_refl _), Nat.sub_self]; rfl
        have e2 := List.getElem?_eq_some_iff.mp e
        obtain ⟨a, b⟩ := e2
        rw [List.getElem_range] at b
        exact b
      have e : as[p - 1]? = some (p - 1) := by
        have e1 : (List.range l)[p - 1]? = some (p - 1) := by rw [List.getElem?_range (by have := List.mem_range.mp hi; omega)]
        rw [h2, List.getElem?_append_left (by omega)] at e1
        exact e1
      exact List.mem_of_getElem? e
    have h4 := h3 _ hmem
    rw [show p - 1 + 1 = p by omega] at h4
    have h5 := unS_any (cs := cs) (most := most) (i := p - 1)
    rw [show p - 1 + 1 = p by omega] at h5
    rw [h5.mpr hp] at h4
    cases h4
theorem lf_none {cs : List (List Bool)} {most : Option Int} {l : Nat} (h : lf cs most l = none) : ∀ p, p ≤ l → ¬ unS cs most p := by
  intro p hp hu
  have hp1 : 1 ≤ p := by obtain ⟨f, a, b, _⟩ := hu; omega
  unfold lf at h
  rw [Option.map_eq_none_iff, List.find?_eq_none] at h
  refine h (p - 1) (List.mem_range.mpr (by omega)) ?_
  have h5 := unS_any (cs := cs) (most := most) (i := p - 1)
  rw [show p - 1 + 1 = p by omega] at h5 ⊢
  exact h5.mpr hu
/-- the program's first and the law's -/
theorem fu_lf {cs : List (List Bool)} {most : Option Int} {l : Nat} (hc : 0 < cs.length) (hl : 2 * cs.length ≤ l + 1) : fu cs most = lf cs most l := by
  cases h1 : fu cs most with
  | none =>
    cases h2 : lf cs most l with
    | none => rfl
    | some m => exact absurd (lf_some h2).1 (fu_none hc h1 m)
  | some m =>
    obtain ⟨a, b, d⟩ := fu_some hc h1
    cases h2 : lf cs most l with
    | none => exact absurd a (lf_none h2 m (by omega))
    | some k =>
      obtain ⟨e, f1, f2, g⟩ := lf_some h2
      have := d k e
      have := g m a
      rw [show m = k by omega]
theorem okS_all {cs : List (List Bool)} (n : Nat) (hn : cs.length = n) (hc : 0 < n) : okS cs none n n = true := by
  unfold okS cost cf
  rw [Nat.sub_self, hn, Nat.mod_self, Nat.zero_mod, if_pos]
  have : ∀ a : List Bool, subB a a = true := fun a => by induction a with | nil => rfl | cons x r ih => simp [subB, ih]
  exact this _
theorem fu_all {cs : List (List Bool)} (hc : 0 < cs.length) : ∃ m, fu cs none = some m ∧ m ≤ cs.length := by
  have hu : unS cs none cs.length := ⟨cs.length, hc, Nat.le_refl _, okS_all _ rfl hc⟩
  cases h : fu cs none with
  | none => exact absurd hu (fu_none hc h _)
  | some m => exact ⟨m, rfl, (fu_some hc h).2.2 _ hu⟩
theorem row_snoc {cs : List (List Bool)} {most : Option Int} {f n : Nat} : row cs most f (n + 1) = row cs most f n ++ if okS cs most (f + n) f = true then [(f + n, f)] else [] := by
  unfold row
  rw [List.range_succ, List.filter_append, List.map_append]
  congr 1
  by_cases h : okS cs most (f + n) f = true
  · rw [if_pos h]; simp [h]
  · rw [if_neg h]; simp [h]
theorem steps_snoc {cs : List (List Bool)} {most : Option Int} {n : Nat} : steps cs most (n + 1) = steps cs most n ++ row cs most (n + 1) cs.length := by
  unfold steps
  rw [List.range_succ, List.flatMap_append]
  simp
theorem row_length {cs : List (List Bool)} {most : Option Int} {f n : Nat} : (row cs most f n).length ≤ n := by
  unfold row
  rw [List.length_map]
  exact Nat.le_trans (List.length_filter_le _ _) (by simp)
theorem steps_length {cs : List (List Bool)} {most : Option Int} : ∀ n : Nat, (steps cs most n).length ≤ n * cs.length
  | 0 => by simp [steps]
  | n + 1 => by
    rw [steps_snoc, List.length_append, Nat.succ_mul]
    have := steps_length (cs := cs) (most := most) n
    have := row_length (cs := cs) (most := most) (f := n + 1) (n := cs.length)
    omega
theorem mD_is {m : Option Int} : (match mD m with | .non => true | _ => false) = m.isNone := by cases m <;> rfl
theorem nD_is {m : Option Nat} : (match nD m with | .non => true | _ => false) = m.isNone := by cases m <;> rfl
theorem nD_not {m : Option Nat} : (match nD m with | .non => false | _ => true) = m.isSome := by cases m <;> rfl
theorem sDs_length {cs : List (List Bool)} : (cs.map sD).length = cs.length := List.length_map _
theorem mod_nat (p n : Nat) : ((p : Int) % (n : Nat)) = ((p % n : Nat) : Int) := by omega

def putS (cs : List (List Bool)) (s : List Bool) : List Bool := s ++ cf cs (s.length - cnt s)
def oneS (p l : Nat) : List Bool := List.replicate p false ++ List.replicate (l - p) true
def othS (f p l : Nat) : List Bool := List.replicate f true ++ (List.replicate (p - f) false ++ List.replicate (l - p) true)
theorem cnt_rep : ∀ (n : Nat) (b : Bool), cnt (List.replicate n b) = if b then n else 0
  | 0, b => by cases b <;> rfl
  | n + 1, true => by rw [List.replicate_succ]; show cnt (List.replicate n true) + 1 = _; rw [cnt_rep n true]; rfl
  | n + 1, false => by rw [List.replicate_succ]; show cnt (List.replicate n false) = _; rw [cnt_rep n false]; rfl
theorem oneS_len {p l : Nat} (h : p ≤ l) : (oneS p l).length = l := by simp [oneS]; omega
theorem othS_len {f p l : Nat} (h1 : f ≤ p) (h : p ≤ l) : (othS f p l).length = l := by simp [othS]; omega
theorem oneS_cnt {p l : Nat} : cnt (oneS p l) = l - p := by simp [oneS, cnt_app, cnt_rep]
theorem othS_cnt {f p l : Nat} : cnt (othS f p l) = f + (l - p) := by simp [othS, cnt_app, cnt_rep]
theorem repS_stk (b : Bool) (n : Nat) : repS (stk [b]) n = stk (List.replicate n b) := by
  apply str_ext
  unfold repS
  simp [stk]
theorem subB_refl : ∀ a : List Bool, subB a a = true
  | [] => rfl
  | x :: r => by simp [subB, subB_refl r]
theorem subB_f : ∀ (n : Nat) (b : List Bool), subB (List.replicate n false) b = true
  | 0, _ => rfl
  | n + 1, [] => rfl
  | n + 1, x :: b => by rw [List.replicate_succ]; simp [subB, subB_f n b]
theorem one_in_oth {f p l : Nat} (h1 : f ≤ p) : subB (oneS p l) (othS f p l) = true := by
  unfold oneS othS
  rw [← List.append_assoc, subB_app (by simp; omega), subB_f, subB_refl]
  rfl
theorem one_ne_oth {f p l : Nat} (h0 : 1 ≤ f) (h1 : f ≤ p) : oneS p l ≠ othS f p l := by
  obtain ⟨f', rfl⟩ : ∃ k, f = k + 1 := ⟨f - 1, by omega⟩
  obtain ⟨p', rfl⟩ : ∃ k, p = k + 1 := ⟨p - 1, by omega⟩
  intro h
  have := congrArg List.head? h
  simp [oneS, othS, List.replicate_succ] at this
def frd (cs : List (List Bool)) (most : Option Int) (l : Nat) : Option (Nat × Nat) := (steps cs most cs.length).find? fun pf => decide (pf.1 ≤ l)
def frdD (cs : List (List Bool)) (l : Nat) : Option (Nat × Nat) → D
  | none => .non
  | some (p, f) => .tup [.str (stk (putS cs (oneS p l))), .str (stk (putS cs (othS f p l)))]

/-! ### ways -/
inductive How where
  | add | lose | mix
  deriving DecidableEq
def howS : How → Str
  | .add => "add" | .lose => "lose" | .mix => "mixed"
structure W3 where
  how : How
  most : Option Nat
  part : Option (List Nat)
  deriving DecidableEq
def nD' : Option Nat → D
  | none => .non
  | some m => .int m
def ptD : Option (List Nat) → D
  | none => .non
  | some l => .tup (l.map eNat.enc)
def paD : Option (List Nat) → D
  | none => .non
  | some l => .lst (l.map eNat.enc)
def wayD (C : Addr) (w : W3) : D := .obj C [("how", .str (howS w.how)), ("most", nD' w.most), ("part", ptD w.part)]
theorem lk_how {a b d : D} : look [(("how" : Str), a), ("most", b), ("part", d)] "how" = some a := by rfl
theorem lk_most {a b d : D} : look [(("how" : Str), a), ("most", b), ("part", d)] "most" = some b := by rfl
theorem lk_part {a b d : D} : look [(("how" : Str), a), ("most", b), ("part", d)] "part" = some d := by rfl
theorem lk_lets {a b d : D} : look [(("how" : Str), a), ("most", b), ("part", d)] "lets" = none := by rfl
theorem lk_can {a b d : D} : look [(("how" : Str), a), ("most", b), ("part", d)] "can" = none := by rfl
theorem how_add (h : How) : (howS h == ("add" : Str)) = decide (h = .add) := by cases h <;> decide +kernel
theorem how_mix (h : How) : (howS h == ("mixed" : Str)) = decide (h = .mix) := by cases h <;> decide +kernel
theorem how_in (h : How) : inD (.str (howS h)) [.str "add", .str "lose", .str "mixed"] = true := by cases h <;> decide +kernel
/-- what the places are, each once, ascending -/
def nrm (l : List Nat) : List Nat := (List.range 1000).filter fun i => decide (i ∈ l)
theorem nrm_mem {l : List Nat} (h : ∀ i ∈ l, i < 1000) {i : Nat} : i ∈ nrm l ↔ i ∈ l := by
  unfold nrm
  rw [List.mem_filter, List.mem_range, decide_eq_true_eq]
  exact ⟨fun q => q.2, fun q => ⟨h i q, q⟩⟩
theorem nrm_sorted (l : List Nat) : (nrm l).Pairwise (· < ·) := List.Pairwise.filter _ List.pairwise_lt_range
theorem sorted_eq : ∀ {a b : List Nat}, a.Pairwise (· < ·) → b.Pairwise (· < ·) → (∀ i, i ∈ a ↔ i ∈ b) → a = b
  | [], [], _, _, _ => rfl
  | [], y :: b, _, _, h => by have := (h y).mpr List.mem_cons_self; cases this
  | x :: a, [], _, _, h => by have := (h x).mp List.mem_cons_self; cases this
  | x :: a, y :: b, ha, hb, h => by
    have h1 := List.pairwise_cons.mp ha
    have h2 := List.pairwise_cons.mp hb
    have e : x = y := by
      have p1 := (h x).mp List.mem_cons_self
      have p2 := (h y).mpr List.mem_cons_self
      rcases List.mem_cons.mp p1 with e | p1
      · exact e
      · rcases List.mem_cons.mp p2 with e | p2
        · exact e.symm
        · have := h1.1 y p2; have := h2.1 x p1; omega
    subst e
    rw [sorted_eq h1.2 h2.2 fun i => ?_]
    constructor
    · intro q
      have := h1.1 i q
      rcases List.mem_cons.mp ((h i).mp (List.mem_cons_of_mem _ q)) with e | r
      · omega
      · exact r
    · intro q
      have := h2.1 i q
      rcases List.mem_cons.mp ((h i).mpr (List.mem_cons_of_mem _ q)) with e | r
      · omega
      · exact r
theorem nrm_rev (l : List Nat) : nrm l.reverse = nrm l := by unfold nrm; simp
theorem lk_cls {a b d : D} : look [(("how" : Str), a), ("most", b), ("part", d)] "__eq__" = none := by rfl
def okM : Option Nat → Nat → Bool
  | none, _ => true
  | some m, n => decide (n ≤ m)
def okP : Option (List Nat) → List Nat → Bool
  | none, _ => true
  | some l, is => is.all fun i => decide (i ∈ l)
def okH : How → List Bool → List Bool → List Nat → Bool
  | .add, _, b, is => is.all fun i => decide (b[i]? = some true)
  | .lose, a, _, is => is.all fun i => decide (a[i]? = some true)
  | .mix, _, _, _ => true
def letsW (w : W3) (a b : List Bool) (is : List Nat) : Bool := okM w.most is.length && (okP w.part is && okH w.how a b is)
def canW (w : W3) (a b : List Bool) : Bool := decide (a.length = b.length) && letsW w a b (dif a b)
theorem in_nats (i : Nat) (l : List Nat) : inD (.int (i : Nat)) (l.map eNat.enc) = decide (i ∈ l) := by
  unfold inD inV
  induction l with
  | nil => rfl
  | cons x r ih =>
    simp only [List.map_cons] at ih ⊢
    rw [List.any_cons, ih]
    have e : eqV (toV (.int (x : Nat))) (toV (.int (i : Nat))) = decide (i = x) := by
      show ((x : Int) == (i : Int)) = _
      rw [Bool.eq_iff_iff]
      simp
      omega
    rw [Bool.eq_iff_iff]
    simp [eNat, e]
theorem putD_fst {κ β : Type} [DecidableEq κ] (acc : List (κ × β)) (k : κ) (v : β) : (putD acc k v).map (·.1) = if k ∈ acc.map (·.1) then acc.map (·.1) else acc.map (·.1) ++ [k] := by
  unfold putD
  by_cases h : k ∈ acc.map (·.1)
  · rw [if_pos h, if_pos]
    · rw [List.map_map]
      apply List.map_congr_left
      intro kv _
      show (if kv.1 = k then (kv.1, v) else kv).1 = kv.1
      split <;> rfl
    · rw [List.any_eq_true]
      obtain ⟨kv, h1, h2⟩ := List.mem_map.mp h
      exact ⟨kv, h1, decide_eq_true h2⟩
  · rw [if_neg h, if_neg]
    · rw [List.map_append]; rfl
    · rw [List.any_eq_true]
      rintro ⟨kv, h1, h2⟩
      exact h (List.mem_map.mpr ⟨kv, h1, of_decide_eq_true h2⟩)
theorem putD_len {κ β : Type} [DecidableEq κ] (acc : List (κ × β)) (k : κ) (v : β) : (putD acc k v).length ≤ acc.length + 1 := by
  unfold putD
  split
  · rw [List.length_map]; omega
  · simp
def keyN (n : Nat) : Key := .inl (n : Int)
theorem keyN_inj {a b : Nat} (h : keyN a = keyN b) : a = b := by
  have : (a : Int) = (b : Int) := by injection h
  omega

/-! ### any values -/
def isStk (s : Str) : Bool := decide (0 < s.cps.toList.length) && s.cps.toList.all fun c => decide (c = 46 ∨ c = 120)
def stkV : D → Bool
  | .str s => isStk s
  | _ => false
def AnyV : D → Prop
  | .str s => s.length ≤ 100000 ∧ PyData.strOk s = true
  | .non => True | .bl _ => True | .int _ => True | .lst _ => True | .tup _ => True
  | _ => False
theorem isStk_stk {bs : List Bool} (h : bs ≠ []) : isStk (stk bs) = true := by
  have h1 : 0 < bs.length := List.length_pos_iff.mpr h
  unfold isStk
  rw [Bool.and_eq_true, List.all_eq_true]
  refine ⟨decide_eq_true (by simpa [stk] using h1), fun c hc => ?_⟩
  obtain ⟨b, _, rfl⟩ := List.mem_map.mp (show c ∈ bs.map sg by simpa [stk] using hc)
  cases b <;> decide
theorem stk_of {s : Str} (h : isStk s = true) : ∃ bs, s = stk bs ∧ bs ≠ [] := by
  unfold isStk at h
  rw [Bool.and_eq_true, List.all_eq_true, decide_eq_true_eq] at h
  obtain ⟨h1, h2⟩ := h
  refine ⟨s.cps.toList.map fun c => decide (c = 120), ?_, fun z => by rw [List.map_eq_nil_iff] at z; rw [z] at h1; simp at h1⟩
  apply str_ext
  unfold stk
  simp only [List.map_map]
  have : ∀ l : List Nat, (∀ c ∈ l, decide (c = 46 ∨ c = 120) = true) → l.map (sg ∘ fun c => decide (c = 120)) = l := fun l => by
    induction l with
    | nil => intro _; rfl
    | cons c r ih =>
      intro hl
      rw [List.map_cons, ih fun x hx => hl x (List.mem_cons_of_mem _ hx)]
      have := of_decide_eq_true (hl c List.mem_cons_self)
      rcases this with rfl | rfl <;> rfl
  simpa using (this s.cps.toList h2).symm
theorem in_any (c : Nat) : inD (.str ⟨#[c]⟩) [.str (stk [false]), .str (stk [true])] = decide (c = 46 ∨ c = 120) := by
  unfold inD inV
  have e : ∀ d : Nat, eqV (V.str ⟨#[d]⟩) (V.str ⟨#[c]⟩) = decide (c = d) := fun d => by
    show ((⟨#[d]⟩ : Str) == ⟨#[c]⟩) = _
    rw [Bool.eq_iff_iff]
    simp only [beq_iff_eq, decide_eq_true_eq]
    constructor
    · intro h; injection h with h; simpa using h.symm
    · rintro rfl; rfl
  show (eqV (V.str ⟨#[46]⟩) (V.str ⟨#[c]⟩) || (eqV (V.str ⟨#[120]⟩) (V.str ⟨#[c]⟩) || false)) = _
  rw [e, e, Bool.or_false, Bool.eq_iff_iff]
  simp
theorem anyV_ty {v : D} {μ : Store} (h : AnyV v) : ∃ m, tyD μ v = some m ∧ isTy m "str" = (match v with | .str _ => true | _ => false) := by
  cases v <;> first | exact h.elim | exact ⟨_, rfl, rfl⟩

def eCh : Enc {c : Nat // c < 0x110000} := ⟨fun c => .str ⟨#[c.1]⟩, fun c => .str ⟨#[c.1]⟩, fun _ => by rw [pyD], fun c => by rw [PyData.canLay0]; unfold PyData.strOk; simpa using c.2, 0, fun _ => by rw [PyData.depth]; exact Nat.le_refl _, fun a b => by
  rw [PyData.eqv]
  by_cases h : a = b
  · subst h; simp
  · have h2 : ¬ a.1 = b.1 := fun z => h (Subtype.ext z)
    simp [h, h2]⟩
theorem chs_eq (L : List Nat) (h : ∀ c ∈ L, c < 0x110000) (μ : Store) (P : D → Store → Prop) : oEq (.lst (L.map fun c => .str ⟨#[c]⟩)) (.lst []) μ P = P (.bl (decide (L = []))) μ := by
  obtain ⟨L', rfl⟩ : ∃ L' : List {c : Nat // c < 0x110000}, L = L'.map (·.1) := ⟨L.attach.map fun c => ⟨c.1, h c.1 c.2⟩, by rw [List.map_map]; simp⟩
  rw [List.map_map]
  show oEq (.lst (L'.map eCh.enc)) (.lst (([] : List {c : Nat // c < 0x110000}).map eCh.enc)) μ P = _
  rw [oEq_lst eCh (by decide)]
  congr 2
  exact decide_eq_decide.mpr (List.map_eq_nil_iff).symm
theorem strOk_mem {s : Str} (h : PyData.strOk s = true) : ∀ c ∈ s.cps.toList, c < 0x110000 := by
  unfold PyData.strOk at h
  intro c hc
  rw [Array.all_eq_true'] at h
  have := h c (by simpa using hc)
  simpa using this

/-! ### loops and comprehensions over coded lists -/
theorem map_at {α : Type} {enc : α → D} {xs : List α} {i : Nat} {d : D} (h : (xs.map enc)[i]? = some d) : ∃ a, xs[i]? = some a ∧ d = enc a := by
  rw [List.getElem?_map] at h
  cases q : xs[i]? with
  | none => rw [q] at h; cases h
  | some a => rw [q] at h; cases h; exact ⟨a, rfl, rfl⟩
theorem enum_ty {α : Type} {enc : α → D} {xs : List α} {i : Nat} {d : D} (h : (enumD (xs.map enc))[i]? = some d) : ∃ a, xs[i]? = some a ∧ d = .tup [.int (i : Nat), enc a] := by
  have hi := (List.getElem?_eq_some_iff.mp h).1
  rw [enumD_length, List.length_map] at hi
  have hg : (xs.map enc)[i]? = some (enc xs[i]) := by rw [List.getElem?_map, List.getElem?_eq_getElem hi]; rfl
  rw [enumD_get hg] at h
  cases h
  exact ⟨xs[i], List.getElem?_eq_getElem hi, rfl⟩
theorem for_ty {α : Type} {enc : α → D} {xs : List α} {g : WG} {wb : WS} {W : WEnds} {ρ : Dl.Env} {μ : Store} (I : Nat → Dl.Env → Store → Prop) (h0 : I 0 ρ μ)
    (ht : ∀ i a ρ' μ', xs[i]? = some a → I i ρ' μ' → g (enc a) ρ' μ' fun ρ2 μ2 => wb { W with nx := I (i + 1), ct := I (i + 1), bk := W.nx } ρ2 μ2) (he : ∀ ρ' μ', I xs.length ρ' μ' → W.nx ρ' μ') : forBody (xs.map enc) g wb W ρ μ :=
  for_by I h0 (fun i d ρ' μ' hd hi => by obtain ⟨a, ha, rfl⟩ := map_at hd; exact ht i a ρ' μ' ha hi) (by rw [List.length_map]; exact he)
theorem for_en {α : Type} {enc : α → D} {xs : List α} {g : WG} {wb : WS} {W : WEnds} {ρ : Dl.Env} {μ : Store} (I : Nat → Dl.Env → Store → Prop) (h0 : I 0 ρ μ)
    (ht : ∀ i a ρ' μ', xs[i]? = some a → I i ρ' μ' → g (.tup [.int (i : Nat), enc a]) ρ' μ' fun ρ2 μ2 => wb { W with nx := I (i + 1), ct := I (i + 1), bk := W.nx } ρ2 μ2) (he : ∀ ρ' μ', I xs.length ρ' μ' → W.nx ρ' μ') : forBody (enumD (xs.map enc)) g wb W ρ μ :=
  for_by I h0 (fun i d ρ' μ' hd hi => by obtain ⟨a, ha, rfl⟩ := enum_ty hd; exact ht i a ρ' μ' ha hi) (by rw [enumD_length, List.length_map]; exact he)
theorem lc_ty {α : Type} {enc : α → D} {xs : List α} {g : WG} {tt : WT} {te : WE} {vs : List Nat} {fin : Addr → List D → Store → Prop} {ρ : Dl.Env} {μ : Store} (f : α → Option D) (hz : xs.length ≤ sizeLine)
    (h : ∀ (i : Nat) (a : α) (μ' : Store) (R : D → Store → Prop) (R' : Store → Prop), xs[i]? = some a → Dl.Sub μ μ' → (∀ y, f a = some y → R y μ') → (f a = none → R' μ') → g (enc a) (wipeE ρ vs) μ' fun ρ2 μ2 => tt ρ2 μ2 fun b μ3 => if b = true then te ρ2 μ3 R else R' μ3)
    (q : ∀ L, μ L = none → fin L (xs.filterMap f) (setS μ L (.lst (xs.filterMap f)))) : lcBody (xs.map enc) g tt te vs fin ρ μ := by
  refine ⟨by rw [List.length_map]; exact hz, fun L hL => ⟨fun i acc μ' => acc = (xs.take i).filterMap f ∧ μ' = setS μ L (.lst acc), ⟨rfl, rfl⟩, ?_, ?_⟩⟩
  · rintro i d acc μ' hd hu ⟨rfl, rfl⟩
    obtain ⟨a, ha, rfl⟩ := map_at hd
    have sb : Dl.Sub μ (setS μ L (.lst ((xs.take i).filterMap f))) := fun b c e => by
      have : b ≠ L := by rintro rfl; rw [hL] at e; cases e
      rw [setS_ne this]; exact e
    have et : (xs.take (i + 1)).filterMap f = (xs.take i).filterMap f ++ (f a).toList := by
      rw [List.take_add_one, ha, List.filterMap_append]
      congr 1
    refine h i a _ _ _ ha sb (fun y hy => ?_) (fun hn => ?_)
    · refine ⟨setS_same, ?_, by rw [setS_setS]⟩
      rw [et, hy]; rfl
    · refine ⟨setS_same, ?_, ?_⟩
      · rw [et, hn]; simp
      · rfl
  · rintro acc μ' _ _ ⟨rfl, rfl⟩
    rw [List.length_map, List.take_length]
    exact q L hL
theorem lcR_ty {α : Type} {enc : α → D} {xs : List α} {p : Addr} {g : WG} {tt : WT} {te : WE} {vs : List Nat} {fin : Addr → List D → Store → Prop} {ρ : Dl.Env} {μ : Store} (hp : μ p = some (.lst (xs.map enc))) (f : α → Option D) (hz : xs.length ≤ sizeLine)
    (h : ∀ (i : Nat) (a : α) (μ' : Store) (R : D → Store → Prop) (R' : Store → Prop), xs[i]? = some a → Dl.Sub μ μ' → (∀ y, f a = some y → R y μ') → (f a = none → R' μ') → g (enc a) (wipeE ρ vs) μ' fun ρ2 μ2 => tt ρ2 μ2 fun b μ3 => if b = true then te ρ2 μ3 R else R' μ3)
    (q : ∀ L, μ L = none → fin L (xs.filterMap f) (setS μ L (.lst (xs.filterMap f)))) : lcBodyR p (xs.map enc) g tt te vs fin ρ μ := by
  refine ⟨by rw [List.length_map]; exact hz, fun L hL => ⟨fun i acc μ' => acc = (xs.take i).filterMap f ∧ μ' = setS μ L (.lst acc), ⟨rfl, rfl⟩, ?_, ?_, ?_⟩⟩
  · rintro i acc μ' ⟨rfl, rfl⟩
    rw [setS_ne (by rintro rfl; rw [hL] at hp; cases hp)]
    exact hp
  · rintro i d acc μ' hd hu ⟨rfl, rfl⟩
    obtain ⟨a, ha, rfl⟩ := map_at hd
    have sb : Dl.Sub μ (setS μ L (.lst ((xs.take i).filterMap f))) := fun b c e => by
      have : b ≠ L := by rintro rfl; rw [hL] at e; cases e
      rw [setS_ne this]; exact e
    have et : (xs.take (i + 1)).filterMap f = (xs.take i).filterMap f ++ (f a).toList := by
      rw [List.take_add_one, ha, List.filterMap_append]
      congr 1
    refine h i a _ _ _ ha sb (fun y hy => ?_) (fun hn => ?_)
    · refine ⟨setS_same, ?_, by rw [setS_setS]⟩
      rw [et, hy]; rfl
    · refine ⟨setS_same, ?_, ?_⟩
      · rw [et, hn]; simp
      · rfl
  · rintro acc μ' _ _ ⟨rfl, rfl⟩
    rw [List.length_map, List.take_length]
    exact q L hL
theorem lcR_tm {α : Type} {enc : α → D} {xs : List α} {p : Addr} {g : WG} {te : WE} {vs : List Nat} {fin : Addr → List D → Store → Prop} {ρ : Dl.Env} {μ : Store} (hp : μ p = some (.lst (xs.map enc))) (f : α → D) (hz : xs.length ≤ sizeLine)
    (h : ∀ (i : Nat) (a : α) (μ' : Store) (R : D → Store → Prop), xs[i]? = some a → Dl.Sub μ μ' → R (f a) μ' → g (enc a) (wipeE ρ vs) μ' fun ρ2 μ2 => te ρ2 μ2 R)
    (q : ∀ L, μ L = none → fin L (xs.map f) (setS μ L (.lst (xs.map f)))) : lcBodyR p (xs.map enc) g wYes te vs fin ρ μ := by
  have e : xs.filterMap (fun a => some (f a)) = xs.map f := by rw [show (fun a => some (f a)) = some ∘ f from rfl, List.filterMap_eq_map]
  refine lcR_ty hp (fun a => some (f a)) hz (fun i a μ' R R' ha sb hR _ => ?_) (by rw [e]; exact q)
  have := h i a μ' R ha sb (hR _ rfl)
  simpa only [wYes, if_true] using this
theorem lc_tm {α : Type} {enc : α → D} {xs : List α} {g : WG} {te : WE} {vs : List Nat} {fin : Addr → List D → Store → Prop} {ρ : Dl.Env} {μ : Store} (f : α → D) (hz : xs.length ≤ sizeLine)
    (h : ∀ (i : Nat) (a : α) (μ' : Store) (R : D → Store → Prop), xs[i]? = some a → Dl.Sub μ μ' → R (f a) μ' → g (enc a) (wipeE ρ vs) μ' fun ρ2 μ2 => te ρ2 μ2 R)
    (q : ∀ L, μ L = none → fin L (xs.map f) (setS μ L (.lst (xs.map f)))) : lcBody (xs.map enc) g wYes te vs fin ρ μ := by
  have e : xs.filterMap (fun a => some (f a)) = xs.map f := by rw [show (fun a => some (f a)) = some ∘ f from rfl, List.filterMap_eq_map]
  refine lc_ty (fun a => some (f a)) hz (fun i a μ' R R' ha sb hR _ => ?_) (by rw [e]; exact q)
  have := h i a μ' R ha sb (hR _ rfl)
  simpa only [wYes, if_true] using this
theorem cutD_take (xs : List D) (i : Nat) : cutD xs none (some (i : Int)) = xs.take i := by
  unfold cutD
  rw [HT.sIx_none, HT.sIx_nat, List.drop_zero, Nat.sub_zero]
  rw [← List.take_eq_take_min]
theorem cutD_drop (xs : List D) (i : Nat) : cutD xs (some (i : Int)) none = xs.drop i := by
  unfold cutD
  rw [HT.sIx_none, HT.sIx_nat]
  by_cases h : i ≤ xs.length
  · rw [Nat.min_eq_left h]
    exact List.take_of_length_le (by simp)
  · rw [Nat.min_eq_right (by omega), List.drop_eq_nil_of_le (Nat.le_refl _), List.drop_eq_nil_of_le (by omega)]
    simp
theorem blsD_fn {α : Type} (xs : List α) (g : α → Bool) : blsD (xs.map fun a => D.bl (g a)) = some (xs.map g) := by
  have h := blsD_map (xs.map g)
  rw [List.map_map] at h
  exact h
theorem oAll_map {α : Type} (xs : List α) (g : α → Bool) (μ : Store) (P : D → Store → Prop) : oAll [.lst (xs.map fun a => .bl (g a))] μ P = P (.bl (xs.all g)) μ := by
  unfold oAll
  show (match (some (xs.map fun a => D.bl (g a))).bind blsD with | some ns => P (.bl (ns.all id)) μ | none => False) = _
  rw [Option.bind_some, blsD_fn]
  simp only [List.all_map]
  rfl
theorem oAny_map {α : Type} (xs : List α) (g : α → Bool) (μ : Store) (P : D → Store → Prop) : oAny [.lst (xs.map fun a => .bl (g a))] μ P = P (.bl (xs.any g)) μ := by
  unfold oAny
  show (match (some (xs.map fun a => D.bl (g a))).bind blsD with | some ns => P (.bl (ns.any id)) μ | none => False) = _
  rw [Option.bind_some, blsD_fn]
  simp only [List.any_map]
  rfl
local macro_rules | `(tactic| walk_at "dy") => `(tactic| simp only [wSeq, wIfS, wB, wTrv, truD, okLen, wOp, wVar, wC, wAsg, wgName, wgCons, wgNil, wgTup, wRet, wRetN, wDrop, wNext, wNever, wBreak, wCont, wACons, wANil, wTup, wLst, wLstM, wCB, wAnd, wOr, wNt, wAndV, wOrV, wNotV, wIf, wChain, wIx, oIx, wgSub, oSet, wPar, wPar3, wCall, wYes, wFor, wiSeq, wiRng1, wiRng2, itemsD, wLc, wLcM, wLcG, wLc2, wLc2M, wLcG2, oPopAt, oPop, wRev, wRevM, oAppend, wipeE, insD, seqA, seqR, seqL, setS_same, oAdd_int, oAdd_str, oAdd_tup, oAdd_lst, wgLst, wAStar, wAsgF, xN, xSeq, xIf, xDrop, xRet, xAsg, xRaise0, xRaise1, xCall, wTryAs, oSub, oMul, oFdiv, oMod, oPow, oI, oI0, oLt, oLe, oGt, oGe, oEq_int, oNe_int, oEq_bl, oNe_bl, oEq_str, oNe_str, oLen, lenD, oAbs, oInt, oStr, oRepr, oMin, oMax, oSum, oTuple, oList, wBM, oJoin, oCount, oIsi, tyD, isTy, oIn, oNotIn, oInW, sqD, seqL, seqR, seqA, wAug, oIAdd, oISub, wJoin, wJs, wFmt, wSl, wNoP, wPart, oSlice, wNeg, oIs, oIsNot, wiEnum, wDisp, wPairs, getD_z, getD_s, set_z, set_s, decide_eq_true_eq, Bool.not_eq_true', decide_eq_false_iff_not, List.nil_append, List.cons_append, true_and, and_true, not_true_eq_false, not_false_eq_true, Bool.false_eq_true, Bool.true_eq_false, BEq.rfl, Bool.not_true, Bool.not_false, decide_true, ite_true, ite_false, if_true, if_false, oAll_map, oAny_map, oAdd_int, cutD_take, cutD_drop, at2_0, at2_1, tyM_str, wLkD, wDcM, wiKeysL, wFzE, oInD, oNotInD, oInDW, dctD, keyD, wMakeL, wCMe, oExtend])
local macro_rules | `(tactic| walk_at "sz") => `(tactic| repeat (refine And.intro (by first | with_reducible rfl | assumption | exact le_line (by omega) | omega) ?_))
theorem log_small {n : Nat} (h : n < 10000000) : ((n : Nat) : Int).natAbs.log2 < 1920 := by
  rw [Int.natAbs_natCast]
  by_cases h0 : n = 0
  · subst h0; decide
  · exact (Nat.log2_lt h0).mpr (Nat.lt_of_lt_of_le h (Nat.le_trans (by decide : 10000000 ≤ 2 ^ 24) (Nat.pow_le_pow_right (by decide) (by decide))))
/-- a dict made of distinct keys -/
theorem dc_ty {α : Type} {enc : α → D} {xs : List α} {g : WG} {tt : WT} {wk wv : WE} {vs : List Nat} {fin : Addr → List (Key × D) → Store → Prop} {ρ : Dl.Env} {μ : Store} (kd vf : α → D) (kf : α → Key) (hk : ∀ a, keyD (kd a) = some (kf a)) (hn : (xs.map kf).Nodup) (hz : xs.length < sizeLine)
    (h : ∀ (i : Nat) (a : α) (μ' : Store) (R : D → D → Store → Prop) (R' : Store → Prop), xs[i]? = some a → Dl.Sub μ μ' → R (kd a) (vf a) μ' → g (enc a) (wipeE ρ vs) μ' fun ρ2 μ2 => tt ρ2 μ2 fun b μ3 => if b = true then wk ρ2 μ3 fun x μ4 => wv ρ2 μ4 fun y μ5 => R x y μ5 else R' μ3)
    (q : ∀ L, μ L = none → fin L (xs.map fun a => (kf a, vf a)) (setS μ L (.dct (xs.map fun a => (kf a, vf a))))) : dcBody (xs.map enc) g tt wk wv vs fin ρ μ := by
  refine ⟨by rw [List.length_map]; exact Nat.le_of_lt hz, fun L hL => ⟨fun i acc μ' => acc = (xs.take i).map (fun a => (kf a, vf a)) ∧ μ' = setS μ L (.dct acc), ⟨rfl, rfl⟩, ?_, ?_⟩⟩
  · rintro i d acc μ' hd hu ⟨rfl, rfl⟩
    obtain ⟨a, ha, rfl⟩ := map_at hd
    have hi := (List.getElem?_eq_some_iff.mp ha).1
    have sb : Dl.Sub μ (setS μ L (.dct ((xs.take i).map fun a => (kf a, vf a)))) := fun b c e => by
      have : b ≠ L := by rintro rfl; rw [hL] at e; cases e
      rw [setS_ne this]; exact e
    refine h i a _ (fun x y μ5 => ∃ k, keyD x = some k ∧ μ5 L = some (.dct ((xs.take i).map fun a => (kf a, vf a))) ∧ ((xs.take i).map fun a => (kf a, vf a)).length < sizeLine ∧ _) _ ha sb ⟨kf a, hk a, setS_same, ?_, ?_, ?_⟩
    · rw [List.length_map, List.length_take]; omega
    · unfold putD
      rw [if_neg]
      · rw [List.take_add_one, ha]; simp
      · rw [List.any_eq_true]
        rintro ⟨kv, h1, h2⟩
        obtain ⟨x, hx, rfl⟩ := List.mem_map.mp h1
        obtain ⟨j, hj⟩ := List.mem_iff_getElem?.mp hx
        rw [List.getElem?_take] at hj
        split at hj
        · rename_i hji
          have e1 : (xs.map kf)[j]? = some (kf a) := by rw [List.getElem?_map, hj, ← of_decide_eq_true h2]; rfl
          have e2 : (xs.map kf)[i]? = some (kf a) := by rw [List.getElem?_map, ha]; rfl
          have := (List.getElem?_inj (by rw [List.length_map]; omega) hn).mp (e1.trans e2.symm)
          omega
        · cases hj
    · rw [setS_setS]
  · rintro acc μ' _ ⟨rfl, rfl⟩
    rw [List.length_map, List.take_length]
    exact q L hL
theorem getS {α : Type} {xs : List α} {i : Nat} {a : α} (h : xs[i]? = some a) : i < xs.length ∧ a ∈ xs := ⟨(List.getElem?_eq_some_iff.mp h).1, List.mem_of_getElem? h⟩

/-! ### reading by constructors: no match is opened before its value is known -/
def opD {α : Type} (o : Option α) (P : α → Prop) : Prop := match o with | some d => P d | none => False
def bD (d : D) (μ : Store) (P : Bool → Store → Prop) : Prop := match d with | .bl k => P k μ | _ => False
def trvD (d : D) (μ : Store) (P : Bool → Store → Prop) : Prop := match truD μ d with | some k => okLen d ∧ P k μ | none => False
def chD (d : D) (S F : Prop) : Prop := match d with | .bl true => S | .bl false => F | _ => False
def ntD (d : D) (P : Bool → Prop) : Prop := match d with | .bl b => P b | _ => False
def fldD (K : PySem.W.Frag) (f : Str) (x : D) (μ : Store) (P : D → Prop) : Prop := match insD μ x with
  | some (C, fs) => FldOk K C f ∧ opD (look fs f) P
  | none => False
def stfD (K : PySem.W.Frag) (f : Str) (x y : D) (μ : Store) (N : Store → Prop) : Prop := match x with
  | .ref a => match μ a with | some (.ins C fs) => FldOk K C f ∧ fs.length < 1000 ∧ N (setS μ a (.ins C (put fs f y))) | _ => False
  | _ => False
def mthD (C : Addr) (m : Str) (x : D) (μ : Store) (S : Prop) : Prop := match insD μ x with
  | some (C', fs) => C' = C ∧ look fs m = none ∧ S
  | none => False
def fmD (d : D) (P : Str → Prop) : Prop := match d with
  | .str s => s.length ≤ sizeLine ∧ P s
  | .int i => i.natAbs.log2 < 1920 ∧ P (Str.ofString (toString i))
  | _ => False
def jsD (d : D) (P : Str → Prop) : Prop := match d with | .str y => P y | _ => False
def inI (d : D) (P : Int → Prop) : Prop := match d with | .int i => P i | _ => False
section
variable {K : PySem.W.Frag} {ρ : Dl.Env} {μ : Store} {P : D → Store → Prop} {PB : Bool → Store → Prop} {PA : List D → Store → Prop} {W : WEnds} {w u v : WE} {wa : WA} {N : Store → Prop}
theorem opD_some {α : Type} {d : α} {P : α → Prop} : opD (some d) P = P d := rfl
theorem bD_bl {b : Bool} : bD (.bl b) μ PB = PB b μ := rfl
theorem chD_t {S F : Prop} : chD (.bl true) S F = S := rfl
theorem chD_f {S F : Prop} : chD (.bl false) S F = F := rfl
theorem chD_b {S F : Prop} {b : Bool} : chD (.bl b) S F = if b = true then S else F := by cases b <;> simp [chD]
theorem ntD_bl {b : Bool} {P : Bool → Prop} : ntD (.bl b) P = P b := rfl
theorem trv_bl {b : Bool} : trvD (.bl b) μ PB = PB b μ := by simp [trvD, truD, okLen]
theorem trv_non : trvD (.non) μ PB = PB false μ := by simp [trvD, truD, okLen]
theorem trv_int {i : Int} : trvD (.int i) μ PB = PB (i != 0) μ := by simp [trvD, truD, okLen]
theorem trv_tup {xs : List D} : trvD (.tup xs) μ PB = PB (!xs.isEmpty) μ := by simp [trvD, truD, okLen]
theorem trv_lst {xs : List D} : trvD (.lst xs) μ PB = PB (!xs.isEmpty) μ := by simp [trvD, truD, okLen]
theorem trv_str {s : Str} : trvD (.str s) μ PB = (s.length ≤ sizeLine ∧ PB ((s.length : Int) != 0) μ) := rfl
theorem dz_B : wB w ρ μ PB = w ρ μ fun d μ1 => bD d μ1 PB := rfl
theorem dz_Trv : wTrv w ρ μ PB = w ρ μ fun d μ1 => trvD d μ1 PB := rfl
theorem dz_AndV : wAndV w u ρ μ P = w ρ μ fun d μ1 => chD d (u ρ μ1 P) (P (.bl false) μ1) := rfl
theorem dz_OrV : wOrV w u ρ μ P = w ρ μ fun d μ1 => chD d (P (.bl true) μ1) (u ρ μ1 P) := by
  unfold wOrV
  congr 1
  funext d μ1
  cases d <;> first | rfl | (rename_i b; cases b <;> rfl)
theorem dz_NotV : wNotV w ρ μ P = w ρ μ fun d μ1 => ntD d fun b => P (.bl (!b)) μ1 := rfl
theorem dz_Chain {o o' : OD} : wChain o o' w u v ρ μ P = w ρ μ fun x μ1 => u ρ μ1 fun y μ2 => o x y μ2 fun z μ3 => chD z (v ρ μ3 fun q μ4 => o' y q μ4 P) (P (.bl false) μ3) := rfl
theorem dz_Fld {f : Str} : wFld K f w ρ μ P = w ρ μ fun x μ1 => fldD K f x μ1 fun d => P d μ1 := by
  unfold wFld fldD
  congr 1
  funext x μ1
  cases insD μ1 x with
  | none => rfl
  | some p => obtain ⟨C, fs⟩ := p; dsimp only; cases look fs f <;> rfl
theorem fld_obj {f : Str} {C : Addr} {fs : List (Str × D)} {P : D → Prop} : fldD K f (.obj C fs) μ P = (FldOk K C f ∧ opD (look fs f) P) := rfl
theorem fld_ref {f : Str} {C a : Addr} {fs : List (Str × D)} {P : D → Prop} (h : μ a = some (.ins C fs)) : fldD K f (.ref a) μ P = (FldOk K C f ∧ opD (look fs f) P) := by unfold fldD insD; dsimp only; rw [h]
theorem dz_SetF {f : Str} : wSetF K f w u W ρ μ = u ρ μ fun y μ1 => w ρ μ1 fun x μ2 => stfD K f x y μ2 fun μ3 => W.nx ρ μ3 := rfl
theorem stf_ref {f : Str} {C a : Addr} {fs : List (Str × D)} {y : D} (h : μ a = some (.ins C fs)) : stfD K f (.ref a) y μ N = (FldOk K C f ∧ fs.length < 1000 ∧ N (setS μ a (.ins C (put fs f y)))) := by unfold stfD; dsimp only; rw [h]
theorem dz_Meth {C : Addr} {m : Str} {d : DSp} {dds : List D} : wMeth C m d dds w wa ρ μ P = w ρ μ fun x μ1 => mthD C m x μ1 (wa ρ μ1 fun ds μ2 => d (x :: (ds ++ dds)) μ2 P) := rfl
theorem mth_obj {C C' : Addr} {m : Str} {fs : List (Str × D)} {S : Prop} : mthD C m (.obj C' fs) μ S = (C' = C ∧ look fs m = none ∧ S) := rfl
theorem mth_ref {C C' a : Addr} {m : Str} {fs : List (Str × D)} {S : Prop} (h : μ a = some (.ins C' fs)) : mthD C m (.ref a) μ S = (C' = C ∧ look fs m = none ∧ S) := by unfold mthD insD; dsimp only; rw [h]
theorem dz_iSeq : wiSeq w ρ μ PA = w ρ μ fun d μ1 => opD (itemsD d) fun xs => PA xs μ1 := by
  unfold wiSeq
  congr 1
  funext d μ1
  cases itemsD d <;> rfl
theorem dz_iEnum : wiEnum w ρ μ PA = w ρ μ fun d μ1 => opD (itemsD d) fun xs => PA (enumD xs) μ1 := by
  unfold wiEnum
  congr 1
  funext d μ1
  cases itemsD d <;> rfl
theorem items_lst {xs : List D} : itemsD (.lst xs) = some xs := rfl
theorem sqA_lst {xs : List D} : seqA μ (.lst xs) = some xs := rfl
theorem items_tup {xs : List D} : itemsD (.tup xs) = some xs := rfl
theorem sqA_tup {xs : List D} : seqA μ (.tup xs) = some xs := rfl
theorem items_scr {xs : List D} : itemsD (.scr xs) = some xs := rfl
theorem sqA_scr {xs : List D} : seqA μ (.scr xs) = some xs := rfl
theorem sqR_lst {xs : List D} : seqR μ (.lst xs) = some xs := rfl
theorem sqR_scr {xs : List D} : seqR μ (.scr xs) = some xs := rfl
theorem sqL_lst {xs : List D} : seqL μ (.lst xs) = some xs := rfl
theorem items_str {s : Str} : itemsD (.str s) = some (chars s) := rfl
theorem sqL_ref {a : Addr} {xs : List D} (h : μ a = some (.lst xs)) : seqL μ (.ref a) = some xs := by unfold seqL; dsimp only; rw [h]
theorem sqR_ref {a : Addr} {xs : List D} (h : μ a = some (.lst xs)) : seqR μ (.ref a) = some xs := by unfold seqR seqL; dsimp only; rw [h]
theorem sqA_ref {a : Addr} {xs : List D} (h : μ a = some (.lst xs)) : seqA μ (.ref a) = some xs := by unfold seqA seqR seqL; dsimp only; rw [h]
theorem dz_AStar {wr : WA} : wAStar w wr ρ μ PA = w ρ μ fun d μ1 => opD (seqA μ1 d) fun xs => wr ρ μ1 fun ys μ2 => PA (xs ++ ys) μ2 := by
  unfold wAStar
  congr 1
  funext d μ1
  cases seqA μ1 d <;> rfl
theorem dz_tuple {d : D} : oTuple [d] μ P = opD (seqA μ d) fun xs => P (.tup xs) μ := by
  unfold oTuple
  dsimp only
  cases seqA μ d <;> rfl
theorem dz_list {d : D} : oList [d] μ P = opD (seqA μ d) fun xs => P (.lst xs) μ := by
  unfold oList
  dsimp only
  cases seqA μ d <;> rfl
theorem dz_listM {d : D} : oListM [d] μ P = opD (seqA μ d) fun xs => ∀ p, μ p = none → P (.ref p) (setS μ p (.lst xs)) := by
  unfold oListM
  dsimp only
  cases seqA μ d <;> rfl
theorem dz_sum {d : D} : oSum [d] μ P = opD ((seqR μ d).bind intsD) fun ns => P (.int ns.sum) μ := by
  unfold oSum
  dsimp only
  cases (seqR μ d).bind intsD <;> rfl
theorem dz_max2 {i j : Int} : oMax [.int i, .int j] μ P = P (.int (if j > i then j else i)) μ := rfl
theorem dz_min2 {i j : Int} : oMin [.int i, .int j] μ P = P (.int (if j < i then j else i)) μ := rfl
theorem dz_maxL {xs : List D} : oMax [.lst xs] μ P = opD (intsD xs) fun ns => 0 < ns.length ∧ ∀ m, m ∈ ns → (∀ y, y ∈ ns → y ≤ m) → P (.int m) μ := by
  unfold oMax
  dsimp only [seqR, seqL, Option.bind_some]
  cases intsD xs <;> rfl
theorem dz_Fmt : wFmt w ρ μ P = w ρ μ fun d μ1 => fmD d fun s => P (.str s) μ1 := by
  unfold wFmt
  congr 1
theorem fm_str {s : Str} {P : Str → Prop} : fmD (.str s) P = (s.length ≤ sizeLine ∧ P s) := rfl
theorem fm_int {i : Int} {P : Str → Prop} : fmD (.int i) P = (i.natAbs.log2 < 1920 ∧ P (Str.ofString (toString i))) := rfl
theorem dz_Js0 {acc : Str} : wJs [] acc ρ μ P = P (.str acc) μ := rfl
theorem dz_Js {acc : Str} {ws : List WE} : wJs (w :: ws) acc ρ μ P = w ρ μ fun d μ1 => jsD d fun y => (acc ++ y).length ≤ sizeLine ∧ wJs ws (acc ++ y) ρ μ1 P := rfl
theorem js_str {s : Str} {P : Str → Prop} : jsD (.str s) P = P s := rfl
theorem dz_Part {PO : Option Int → Store → Prop} : wPart w ρ μ PO = w ρ μ fun d μ1 => inI d fun i => PO (some i) μ1 := rfl
theorem inI_int {i : Int} {P : Int → Prop} : inI (.int i) P = P i := rfl
theorem dz_Neg : wNeg w ρ μ P = w ρ μ fun d μ1 => inI d fun i => P (.int (-i)) μ1 := rfl
theorem len_str {s : Str} : oLen [.str s] μ P = (s.length ≤ sizeLine ∧ P (.int (s.length : Int)) μ) := rfl
theorem len_tup {xs : List D} : oLen [.tup xs] μ P = P (.int (xs.length : Int)) μ := by simp [oLen, lenD, okLen]
theorem len_lst {xs : List D} : oLen [.lst xs] μ P = P (.int (xs.length : Int)) μ := by simp [oLen, lenD, okLen]
theorem len_scr {xs : List D} : oLen [.scr xs] μ P = P (.int (xs.length : Int)) μ := by simp [oLen, lenD, okLen]
theorem len_ref {a : Addr} {xs : List D} (h : μ a = some (.lst xs)) : oLen [.ref a] μ P = P (.int (xs.length : Int)) μ := by simp [oLen, lenD, okLen, h]
theorem ix_tup {xs : List D} {i : Int} : oIx (.tup xs) (.int i) μ P = opD (atI xs i) fun d => P d μ := by
  unfold oIx
  dsimp only [seqA, seqR, seqL]
  cases atI xs i <;> rfl
theorem ix_lst {xs : List D} {i : Int} : oIx (.lst xs) (.int i) μ P = opD (atI xs i) fun d => P d μ := by
  unfold oIx
  dsimp only [seqA, seqR, seqL]
  cases atI xs i <;> rfl
theorem ix_scr {xs : List D} {i : Int} : oIx (.scr xs) (.int i) μ P = opD (atI xs i) fun d => P d μ := by
  unfold oIx
  dsimp only [seqA, seqR, seqL]
  cases atI xs i <;> rfl
theorem ix_str {s : Str} {i : Int} : oIx (.str s) (.int i) μ P = opD (atI s.cps.toList i) fun c => s.length ≤ sizeLine ∧ P (.str ⟨#[c]⟩) μ := by
  unfold oIx
  dsimp only
  cases atI s.cps.toList i <;> rfl
theorem ix_dct {kvs : List (Key × D)} {y : D} : oIx (.dct kvs) y μ P = opD ((keyD y).bind (look kvs)) fun d => P d μ := by
  unfold oIx
  dsimp only [seqA, seqR, seqL]
  cases (keyD y).bind (look kvs) <;> rfl
theorem ix_dcl {kvs : List (Key × D)} {y : D} : oIx (.dcl kvs) y μ P = opD ((keyD y).bind (look kvs)) fun d => P d μ := by
  unfold oIx
  dsimp only [seqA, seqR, seqL]
  cases (keyD y).bind (look kvs) <;> rfl
theorem ix_ref {a : Addr} {xs : List D} {i : Int} (h : μ a = some (.lst xs)) : oIx (.ref a) (.int i) μ P = opD (atI xs i) fun d => P d μ := by
  have e := sqA_ref h
  unfold oIx
  dsimp only
  rw [e]
  dsimp only
  first | done | (cases atI xs i <;> rfl)
theorem ix_refD {a : Addr} {kvs : List (Key × D)} {y : D} (h : μ a = some (.dct kvs)) : oIx (.ref a) y μ P = opD ((keyD y).bind (look kvs)) fun d => P d μ := by
  have e : seqA μ (.ref a) = none := by unfold seqA seqR seqL; dsimp only; rw [h]
  unfold oIx
  dsimp only
  rw [e]
  dsimp only
  rw [h]
  dsimp only
  cases (keyD y).bind (look kvs) <;> rfl
theorem dz_AStarVals {wr : WA} : wAStarVals w wr ρ μ PA = w ρ μ fun d μ1 => opD (dctM μ1 d) fun kvs => wr ρ μ1 fun ys μ2 => PA (kvs.map (·.2) ++ ys) μ2 := by
  unfold wAStarVals
  congr 1
  funext d μ1
  cases dctM μ1 d <;> rfl
theorem dz_LstItems : wLstItems w ρ μ P = w ρ μ fun d μ1 => opD (dctM μ1 d) fun kvs => P (.lst (kvs.map itD)) μ1 := by
  unfold wLstItems
  congr 1
  funext d μ1
  cases dctM μ1 d <;> rfl
theorem dctM_ref {a : Addr} {kvs : List (Key × D)} (h : μ a = some (.dct kvs)) : dctM μ (.ref a) = some kvs := by unfold dctM; dsimp only; rw [h]
theorem dz_count {a b : Str} : oCount (.str a) [.str b] μ P = P (.int (Txt.count a b)) μ := rfl
theorem dctM_dct {kvs : List (Key × D)} : dctM μ (.dct kvs) = some kvs := rfl
theorem key_int {i : Int} : keyD (.int i) = some (.inl i) := rfl
theorem key_str {s : Str} : keyD (.str s) = some (.inr s) := rfl
theorem oLt_int {i j : Int} : oLt (.int i) (.int j) μ P = P (.bl (decide (i < j))) μ := rfl
theorem oLe_int {i j : Int} : oLe (.int i) (.int j) μ P = P (.bl (decide (i ≤ j))) μ := rfl
theorem oGt_int {i j : Int} : oGt (.int i) (.int j) μ P = P (.bl (decide (j < i))) μ := rfl
theorem oGe_int {i j : Int} : oGe (.int i) (.int j) μ P = P (.bl (decide (j ≤ i))) μ := rfl
theorem oSub_int {i j : Int} : oSub (.int i) (.int j) μ P = P (.int (i - j)) μ := rfl
theorem oFdiv_int {i j : Int} : oFdiv (.int i) (.int j) μ P = ((0 < j ∧ j < 1073741824) ∧ P (.int (i / j)) μ) := rfl
theorem oMod_int {i j : Int} : oMod (.int i) (.int j) μ P = (0 < j ∧ P (.int (i % j)) μ) := rfl
theorem oInt_int {i : Int} : oInt [.int i] μ P = P (.int i) μ := rfl
theorem oInt_bl {b : Bool} : oInt [.bl b] μ P = P (.int (if b then 1 else 0)) μ := rfl
theorem oInt_str {s : Str} : oInt [.str s] μ P = opD (PySem.intText? s) fun n => s.length ≤ 640 ∧ P (.int n) μ := by
  unfold oInt
  dsimp only
  cases PySem.intText? s <;> rfl
theorem oStr_int {i : Int} : oStr [.int i] μ P = (i.natAbs.log2 < 1920 ∧ P (.str (Str.ofString (toString i))) μ) := rfl
theorem oStr_str {s : Str} : oStr [.str s] μ P = P (.str s) μ := rfl
theorem oAbs_int {i : Int} : oAbs [.int i] μ P = P (.int (if i < 0 then -i else i)) μ := rfl
theorem dz_isi {d : D} {n : String} : oIsi [d, .ty n] μ P = (n ∈ ["bool", "int", "str", "tuple", "list", "dict"] ∧ opD (tyD μ d) fun m => P (.bl (isTy m n)) μ) := by
  unfold oIsi
  dsimp only
  cases tyD μ d <;> rfl
theorem ty_non : tyD μ (.non) = some "NoneType" := rfl
theorem ty_bl {b : Bool} : tyD μ (.bl b) = some "bool" := rfl
theorem ty_int {i : Int} : tyD μ (.int i) = some "int" := rfl
theorem ty_str {s : Str} : tyD μ (.str s) = some "str" := rfl
theorem ty_tup {xs : List D} : tyD μ (.tup xs) = some "tuple" := rfl
theorem ty_lst {xs : List D} : tyD μ (.lst xs) = some "list" := rfl
theorem sl_tup {xs : List D} {lo hi : Option Int} : oSlice (.tup xs) lo hi μ P = P (.tup (cutD xs lo hi)) μ := rfl
theorem sl_lst {xs : List D} {lo hi : Option Int} : oSlice (.lst xs) lo hi μ P = P (.lst (cutD xs lo hi)) μ := rfl
theorem sl_str {s : Str} {lo hi : Option Int} : oSlice (.str s) lo hi μ P = (s.length ≤ sizeLine ∧ P (.str (cutS s lo hi)) μ) := rfl
theorem oIn_tup {x : D} {xs : List D} : oIn x (.tup xs) μ P = (flatD x = true ∧ xs.all flatD = true ∧ P (.bl (inD x xs)) μ) := by cases x <;> rfl
theorem oNotIn_tup {x : D} {xs : List D} : oNotIn x (.tup xs) μ P = (flatD x = true ∧ xs.all flatD = true ∧ P (.bl (!inD x xs)) μ) := by cases x <;> rfl
theorem oIn_lst {x : D} {xs : List D} : oIn x (.lst xs) μ P = (flatD x = true ∧ xs.all flatD = true ∧ P (.bl (inD x xs)) μ) := by cases x <;> rfl
theorem oNotIn_lst {x : D} {xs : List D} : oNotIn x (.lst xs) μ P = (flatD x = true ∧ xs.all flatD = true ∧ P (.bl (!inD x xs)) μ) := by cases x <;> rfl
theorem oIn_scr {x : D} {xs : List D} : oIn x (.scr xs) μ P = (flatD x = true ∧ xs.all flatD = true ∧ P (.bl (inD x xs)) μ) := by cases x <;> rfl
theorem oNotIn_scr {x : D} {xs : List D} : oNotIn x (.scr xs) μ P = (flatD x = true ∧ xs.all flatD = true ∧ P (.bl (!inD x xs)) μ) := by cases x <;> rfl
theorem dz_split {a b : Str} : oSplit (.str a) [.str b] μ P = ((b.length == 0) = false ∧ a.length + 2 ≤ sizeLine ∧ P (.lst ((Txt.split a b).map .str)) μ) := rfl
theorem app_ref {a : Addr} {xs : List D} {d : D} (h : μ a = some (.lst xs)) : oAppend (.ref a) [d] μ P = (xs.length < sizeLine ∧ P .non (setS μ a (.lst (xs ++ [d])))) := by unfold oAppend; dsimp only; rw [h]
theorem ext_ref {a : Addr} {xs ys : List D} (h : μ a = some (.lst xs)) : oExtend (.ref a) [.lst ys] μ P = (xs.length + ys.length ≤ sizeLine ∧ P .non (setS μ a (.lst (xs ++ ys)))) := by unfold oExtend seqL; dsimp only; rw [h]
theorem pop_ref {a : Addr} {xs : List D} {y : D} (h : μ a = some (.lst (xs ++ [y]))) : oPop (.ref a) [] μ P = P y (setS μ a (.lst xs)) := by
  unfold oPop
  dsimp only
  rw [h]
  dsimp only
  rw [List.dropLast_concat]
  have e : (xs ++ [y])[(xs ++ [y]).length - 1]? = some y := by simp
  rw [e]
  exact propext ⟨fun ⟨z, h1, h2⟩ => by cases h1; exact h2, fun q => ⟨y, rfl, q⟩⟩
theorem tyM_lref {a : Addr} {xs : List D} (h : μ a = some (.lst xs)) : tyM "list" μ (.ref a) := .inr (.inl ⟨rfl, _, sqL_ref h⟩)
end
theorem ity_NoneType_bool : isTy "NoneType" "bool" = false := by decide
theorem ity_NoneType_int : isTy "NoneType" "int" = false := by decide
theorem ity_NoneType_str : isTy "NoneType" "str" = false := by decide
theorem ity_NoneType_tuple : isTy "NoneType" "tuple" = false := by decide
theorem ity_NoneType_list : isTy "NoneType" "list" = false := by decide
theorem ity_NoneType_dict : isTy "NoneType" "dict" = false := by decide
theorem ity_bool_bool : isTy "bool" "bool" = true := by decide
theorem ity_bool_int : isTy "bool" "int" = true := by decide
theorem ity_bool_str : isTy "bool" "str" = false := by decide
theorem ity_bool_tuple : isTy "bool" "tuple" = false := by decide
theorem ity_bool_list : isTy "bool" "list" = false := by decide
theorem ity_bool_dict : isTy "bool" "dict" = false := by decide
theorem ity_int_bool : isTy "int" "bool" = false := by decide
theorem ity_int_int : isTy "int" "int" = true := by decide
theorem ity_int_str : isTy "int" "str" = false := by decide
theorem ity_int_tuple : isTy "int" "tuple" = false := by decide
theorem ity_int_list : isTy "int" "list" = false := by decide
theorem ity_int_dict : isTy "int" "dict" = false := by decide
theorem ity_str_bool : isTy "str" "bool" = false := by decide
theorem ity_str_int : isTy "str" "int" = false := by decide
theorem ity_str_str : isTy "str" "str" = true := by decide
theorem ity_str_tuple : isTy "str" "tuple" = false := by decide
theorem ity_str_list : isTy "str" "list" = false := by decide
theorem ity_str_dict : isTy "str" "dict" = false := by decide
theorem ity_tuple_bool : isTy "tuple" "bool" = false := by decide
theorem ity_tuple_int : isTy "tuple" "int" = false := by decide
theorem ity_tuple_str : isTy "tuple" "str" = false := by decide
theorem ity_tuple_tuple : isTy "tuple" "tuple" = true := by decide
theorem ity_tuple_list : isTy "tuple" "list" = false := by decide
theorem ity_tuple_dict : isTy "tuple" "dict" = false := by decide
theorem ity_list_bool : isTy "list" "bool" = false := by decide
theorem ity_list_int : isTy "list" "int" = false := by decide
theorem ity_list_str : isTy "list" "str" = false := by decide
theorem ity_list_tuple : isTy "list" "tuple" = false := by decide
theorem ity_list_list : isTy "list" "list" = true := by decide
theorem ity_list_dict : isTy "list" "dict" = false := by decide
theorem ity_dict_bool : isTy "dict" "bool" = false := by decide
theorem ity_dict_int : isTy "dict" "int" = false := by decide
theorem ity_dict_str : isTy "dict" "str" = false := by decide
theorem ity_dict_tuple : isTy "dict" "tuple" = false := by decide
theorem ity_dict_list : isTy "dict" "list" = false := by decide
theorem ity_dict_dict : isTy "dict" "dict" = true := by decide
theorem tym_bool : (("bool" : String) ∈ ["bool", "int", "str", "tuple", "list", "dict"]) = True := eq_true (by decide)
theorem tym_int : (("int" : String) ∈ ["bool", "int", "str", "tuple", "list", "dict"]) = True := eq_true (by decide)
theorem tym_str : (("str" : String) ∈ ["bool", "int", "str", "tuple", "list", "dict"]) = True := eq_true (by decide)
theorem tym_tuple : (("tuple" : String) ∈ ["bool", "int", "str", "tuple", "list", "dict"]) = True := eq_true (by decide)
theorem tym_list : (("list" : String) ∈ ["bool", "int", "str", "tuple", "list", "dict"]) = True := eq_true (by decide)
theorem tym_dict : (("dict" : String) ∈ ["bool", "int", "str", "tuple", "list", "dict"]) = True := eq_true (by decide)
local macro_rules | `(tactic| walk_at "dz") => `(tactic| try simp only [dz_split, wDctM, wiRngD, wiZip, wiZipM, wiZipS, wiZip3L, wRevTp, dz_AStarVals, dz_LstItems, dctM_dct, dz_count, wLcR, wForR, wMake, wMakeM, wSeq, wIfS, wOp, wVar, wC, wAsg, wgName, wgCons, wgNil, wgTup, wgLst, wRet, wRetN, wDrop, wNext, wNever, wBreak, wCont, wACons, wANil, wTup, wLst, wLstM, wCB, wAnd, wOr, wNt, wIf, wIx, wgSub, wPar, wPar3, wCall, wYes, wFor, wLc, wLcM, wLcG, wLc2, wLc2M, wLcG2, wipeE, wBM, wJoin, wSl, wSlM, wNoP, wAsgF, wAug, oIAdd, oISub, wDcM, wMakeL, wCMe, wFzE, wLkD, wiKeysL, xN, xSeq, xIf, xDrop, xRet, xAsg, xRaise0, xRaise1, xCall, oIs, oIsNot, wiRng1, wiRng2, setS_same, oAdd_int, oAdd_str, oAdd_tup, oAdd_lst, oEq_int, oNe_int, oEq_bl, oNe_bl, oEq_str, oNe_str, getD_z, getD_s, set_z, set_s, decide_eq_true_eq, Bool.not_eq_true', decide_eq_false_iff_not, List.nil_append, List.cons_append, true_and, and_true, not_true_eq_false, not_false_eq_true, Bool.false_eq_true, Bool.true_eq_false, BEq.rfl, Bool.not_true, Bool.not_false, decide_true, ite_true, ite_false, if_true, if_false, oAll_map, oAny_map, cutD_take, cutD_drop, at2_0, at2_1, tyM_str, opD_some, bD_bl, chD_t, chD_f, chD_b, ntD_bl, trv_bl, trv_non, trv_int, trv_tup, trv_lst, trv_str, dz_B, dz_Trv, dz_AndV, dz_OrV, dz_NotV, dz_Chain, dz_Fld, fld_obj, dz_SetF, dz_Meth, mth_obj, dz_iSeq, dz_iEnum, items_lst, sqA_lst, items_tup, sqA_tup, items_scr, sqA_scr, sqR_lst, sqR_scr, sqL_lst, items_str, dz_AStar, dz_tuple, dz_list, dz_listM, dz_sum, dz_max2, dz_min2, dz_maxL, dz_Fmt, fm_str, fm_int, dz_Js0, dz_Js, js_str, dz_Part,  inI_int, dz_Neg, len_str, len_tup, len_lst, len_scr, ix_tup, ix_lst, ix_scr, ix_str, ix_dct, ix_dcl, key_int, key_str, oLt_int, oLe_int, oGt_int, oGe_int, oSub_int, oFdiv_int, oMod_int, oInt_int, oInt_bl, oInt_str, oStr_int, oStr_str, oAbs_int, dz_isi, ty_non, ty_bl, ty_int, ty_str, ty_tup, ty_lst, sl_tup, sl_lst, sl_str, oIn_tup, oNotIn_tup, oIn_lst, oNotIn_lst, oIn_scr, oNotIn_scr, ity_NoneType_bool, ity_NoneType_int, ity_NoneType_str, ity_NoneType_tuple, ity_NoneType_list, ity_NoneType_dict, ity_bool_bool, ity_bool_int, ity_bool_str, ity_bool_tuple, ity_bool_list, ity_bool_dict, ity_int_bool, ity_int_int, ity_int_str, ity_int_tuple, ity_int_list, ity_int_dict, ity_str_bool, ity_str_int, ity_str_str, ity_str_tuple, ity_str_list, ity_str_dict, ity_tuple_bool, ity_tuple_int, ity_tuple_str, ity_tuple_tuple, ity_tuple_list, ity_tuple_dict, ity_list_bool, ity_list_int, ity_list_str, ity_list_tuple, ity_list_list, ity_list_dict, ity_dict_bool, ity_dict_int, ity_dict_str, ity_dict_tuple, ity_dict_list, ity_dict_dict, tym_bool, tym_int, tym_str, tym_tuple, tym_list, tym_dict])
local macro_rules | `(tactic| walk_at "lt") => `(tactic| repeat (refine And.intro (by first | exact le_line (Nat.le_of_ble_eq_true rfl) | exact tyM_lref setS_same | with_reducible rfl) ?_))

/-! ### entries of books -/
abbrev Ent := Nat × List Bool
def entD (e : Ent) : D := .tup [.int (e.1 : Nat), .str (stk e.2)]
def dig (n : Nat) : Str := Str.ofString (toString ((n : Nat) : Int))
def lineE (e : Ent) : Str := dig e.1 ++ (" " : Str) ++ stk e.2
def txtE (es : List Ent) : Str := Txt.join ("\n" : Str) (es.map lineE)
structure Good (es : List Ent) : Prop where
  sz : es.length ≤ 300
  num : ∀ e ∈ es, e.1 < 10000000
  st : ∀ e ∈ es, e.2 ≠ [] ∧ e.2.length ≤ 1000
  nn : (es.map (·.1)).Nodup
  ns : (es.map (·.2)).Nodup
  ln : ∀ e ∈ es, ∀ e' ∈ es, e.2.length = e'.2.length
theorem Good.sub {es fs : List Ent} (h : Good es) (s : fs.Sublist es) : Good fs :=
  ⟨Nat.le_trans s.length_le h.sz, fun e k => h.num e (s.subset k), fun e k => h.st e (s.subset k), h.nn.sublist (s.map _), h.ns.sublist (s.map _), fun e k e' k' => h.ln e (s.subset k) e' (s.subset k')⟩
theorem Good.perm {es fs : List Ent} (h : Good es) (s : fs.Perm es) : Good fs :=
  ⟨s.length_eq ▸ h.sz, fun e k => h.num e (s.mem_iff.mp k), fun e k => h.st e (s.mem_iff.mp k), (s.map _).nodup_iff.mpr h.nn, (s.map _).nodup_iff.mpr h.ns, fun e k e' k' => h.ln e (s.mem_iff.mp k) e' (s.mem_iff.mp k')⟩
theorem Good.nil : Good [] := ⟨by simp, by simp, by simp, by simp, by simp, by simp⟩
theorem nodup_fst {α β : Type} {es : List (α × β)} (h : (es.map (·.1)).Nodup) {a b : α × β} (ha : a ∈ es) (hb : b ∈ es) (e : a.1 = b.1) : a = b := by
  induction es with
  | nil => cases ha
  | cons x r ih =>
    rw [List.map_cons, List.nodup_cons] at h
    rcases List.mem_cons.mp ha with rfl | ha'
    · rcases List.mem_cons.mp hb with rfl | hb'
      · rfl
      · exact absurd (List.mem_map.mpr ⟨b, hb', e.symm⟩) h.1
    · rcases List.mem_cons.mp hb with rfl | hb'
      · exact absurd (List.mem_map.mpr ⟨a, ha', e⟩) h.1
      · exact ih h.2 ha' hb'
theorem nodup_snd {α β : Type} {es : List (α × β)} (h : (es.map (·.2)).Nodup) {a b : α × β} (ha : a ∈ es) (hb : b ∈ es) (e : a.2 = b.2) : a = b := by
  induction es with
  | nil => cases ha
  | cons x r ih =>
    rw [List.map_cons, List.nodup_cons] at h
    rcases List.mem_cons.mp ha with rfl | ha'
    · rcases List.mem_cons.mp hb with rfl | hb'
      · rfl
      · exact absurd (List.mem_map.mpr ⟨b, hb', e.symm⟩) h.1
    · rcases List.mem_cons.mp hb with rfl | hb'
      · exact absurd (List.mem_map.mpr ⟨a, ha', e⟩) h.1
      · exact ih h.2 ha' hb'
theorem nodup_get {α β : Type} {es : List α} {f : α → β} (h : (es.map f).Nodup) {i j : Nat} {a b : α} (ha : es[i]? = some a) (hb : es[j]? = some b) (e : f a = f b) : i = j := by
  have h1 : (es.map f)[i]? = some (f a) := by rw [List.getElem?_map, ha]; rfl
  have h2 : (es.map f)[j]? = some (f b) := by rw [List.getElem?_map, hb]; rfl
  have hi := (List.getElem?_eq_some_iff.mp h1).1
  exact List.getElem?_inj hi h |>.mp (by rw [h1, h2, e])
/-- ascending -/
def insE (e : Ent) : List Ent → List Ent
  | [] => [e]
  | x :: r => if e.1 ≤ x.1 then e :: x :: r else x :: insE e r
def srtE : List Ent → List Ent
  | [] => []
  | e :: r => insE e (srtE r)
theorem insE_perm (e : Ent) : ∀ es, (insE e es).Perm (e :: es)
  | [] => .refl _
  | x :: r => by
    unfold insE
    split
    · exact .refl _
    · exact ((insE_perm e r).cons x).trans (.swap e x r)
theorem srtE_perm : ∀ es, (srtE es).Perm es
  | [] => .refl _
  | e :: r => (insE_perm e _).trans ((srtE_perm r).cons e)
theorem insE_sorted (e : Ent) : ∀ {es : List Ent}, es.Pairwise (fun a b => a.1 ≤ b.1) → (insE e es).Pairwise (fun a b => a.1 ≤ b.1)
  | [], _ => List.pairwise_singleton _ _
  | x :: r, h => by
    have h1 := List.pairwise_cons.mp h
    unfold insE
    split
    · rename_i q
      refine List.pairwise_cons.mpr ⟨fun y hy => ?_, h⟩
      rcases List.mem_cons.mp hy with rfl | hy
      · exact q
      · exact Nat.le_trans q (h1.1 y hy)
    · rename_i q
      refine List.pairwise_cons.mpr ⟨fun y hy => ?_, insE_sorted e h1.2⟩
      rcases List.mem_cons.mp ((insE_perm e r).mem_iff.mp hy) with rfl | hy
      · omega
      · exact h1.1 y hy
theorem srtE_sorted : ∀ es, (srtE es).Pairwise (fun a b => a.1 ≤ b.1)
  | [] => .nil
  | e :: r => insE_sorted e (srtE_sorted r)
def Asc (es : List Ent) : Prop := es.Pairwise (fun a b => a.1 < b.1)
theorem asc_of {es : List Ent} (h : es.Pairwise (fun a b => a.1 ≤ b.1)) (n : (es.map (·.1)).Nodup) : Asc es := by
  have n2 := List.pairwise_map.mp n
  exact (h.and n2).imp fun ⟨a, b⟩ => Nat.lt_of_le_of_ne a b
theorem srtE_asc {es : List Ent} (n : (es.map (·.1)).Nodup) : Asc (srtE es) := asc_of (srtE_sorted es) (((srtE_perm es).map _).nodup_iff.mpr n)
theorem asc_eq : ∀ {a b : List Ent}, Asc a → Asc b → a.Perm b → a = b
  | [], b, _, _, p => by rw [List.nil_perm.mp p]
  | x :: a, [], _, _, p => by cases List.perm_nil.mp p
  | x :: a, y :: b, ha, hb, p => by
    have h1 := List.pairwise_cons.mp ha
    have h2 := List.pairwise_cons.mp hb
    have e : x = y := by
      rcases List.mem_cons.mp (p.mem_iff.mp List.mem_cons_self) with e | q
      · exact e
      · rcases List.mem_cons.mp (p.mem_iff.mpr List.mem_cons_self) with e | r
        · exact e.symm
        · have := h1.1 y r; have := h2.1 x q; omega
    subst e
    rw [asc_eq h1.2 h2.2 (List.Perm.cons_inv p)]
theorem srtE_of {es : List Ent} (h : Asc es) : srtE es = es := asc_eq (srtE_asc (h.imp (fun q => Nat.ne_of_lt q) |> List.pairwise_map.mpr)) h (srtE_perm es)
theorem srtE_good {es : List Ent} (h : Good es) : Good (srtE es) := h.perm (srtE_perm es)
theorem asc_get {es : List Ent} (h : Asc es) {i j : Nat} {a b : Ent} (ha : es[i]? = some a) (hb : es[j]? = some b) (hij : i < j) : a.1 < b.1 := by
  obtain ⟨hi, rfl⟩ := List.getElem?_eq_some_iff.mp ha
  obtain ⟨hj, rfl⟩ := List.getElem?_eq_some_iff.mp hb
  exact List.pairwise_iff_getElem.mp h i j hi hj hij
/-- ints, ascending: one way alone -/
theorem ints_asc : ∀ {a b : List Int}, a.Pairwise (· ≤ ·) → b.Pairwise (· ≤ ·) → a.Perm b → a = b
  | [], b, _, _, p => by rw [List.nil_perm.mp p]
  | x :: a, [], _, _, p => by cases List.perm_nil.mp p
  | x :: a, y :: b, ha, hb, p => by
    have h1 := List.pairwise_cons.mp ha
    have h2 := List.pairwise_cons.mp hb
    have e : x = y := by
      rcases List.mem_cons.mp (p.mem_iff.mp List.mem_cons_self) with e | q
      · exact e
      · rcases List.mem_cons.mp (p.mem_iff.mpr List.mem_cons_self) with e | r
        · exact e.symm
        · have := h1.1 y r; have := h2.1 x q; omega
    subst e
    rw [ints_asc h1.2 h2.2 (List.Perm.cons_inv p)]
/-! ### texts of numbers and of books -/
theorem str_ln (x : Str) : x.length = x.cps.toList.length := by simp [Str.length]
theorem str_app_assoc (a b c : Str) : a ++ b ++ c = a ++ (b ++ c) := str_ext (by simp [app_cps])
theorem str_app_len (a b : Str) : (a ++ b).length = a.length + b.length := by rw [str_ln, str_ln, str_ln, app_cps]; simp
theorem str_emp (a : Str) : Str.empty ++ a = a := str_ext (by rw [app_cps]; simp [Str.empty])
theorem str_nil (a : Str) : ("" : Str) ++ a = a := by
  have e : ("" : Str) = Str.empty := by decide +kernel
  rw [e]
  exact str_emp a
theorem dig_tl (n : Nat) : (dig n).cps.toList = TL.numL n := TL.tl_num n
theorem dig_len {n : Nat} (h : n < 10000000) : (dig n).length ≤ 7 := by
  rw [str_ln, dig_tl]
  exact TL.numL_len (k := 7) (by decide) (by omega)
theorem numL_head : ∀ {n : Nat}, 0 < n → ∃ a r, TL.numL n = a :: r ∧ a ≠ 48
  | n, h => by
    by_cases q : n < 10
    · exact ⟨48 + n, [], TL.numL_lt q, by omega⟩
    · obtain ⟨a, r, e, ha⟩ := numL_head (n := n / 10) (by omega)
      exact ⟨a, r ++ [48 + n % 10], by rw [TL.numL_step (by omega), e]; rfl, ha⟩
termination_by n => n
theorem dig_inj {a b : Nat} (h : dig a = dig b) : a = b := TL.numL_inj (by rw [← dig_tl, ← dig_tl, h])
theorem join_snoc (y x : Str) : ∀ {l : List Str}, l ≠ [] → Txt.join y (l ++ [x]) = Txt.join y l ++ y ++ x
  | [], h => (h rfl).elim
  | [a], _ => by rw [join_eqS, join_eqS]; rfl
  | a :: b :: r, _ => by
    have ih := join_snoc y x (l := b :: r) (by simp)
    rw [join_eqS, join_eqS] at ih ⊢
    show a ++ y ++ Str.join y ((b :: r) ++ [x]) = a ++ y ++ Str.join y (b :: r) ++ y ++ x
    rw [ih, str_app_assoc (a ++ y) _ y, str_app_assoc (a ++ y) _ x]
theorem txt_nil : txtE [] = Str.empty := by unfold txtE; rw [join_eqS]; rfl
theorem txt_one (e : Ent) : txtE [e] = lineE e := by unfold txtE; rw [join_eqS]; rfl
theorem txt_snoc {es : List Ent} (h : es ≠ []) (e : Ent) : txtE (es ++ [e]) = txtE es ++ ("\n" : Str) ++ lineE e := by
  unfold txtE
  rw [List.map_append]
  exact join_snoc _ _ (by simpa using h)
theorem line_len {e : Ent} (h1 : e.1 < 10000000) (h2 : e.2.length ≤ 1000) : (lineE e).length ≤ 1008 := by
  have := dig_len h1
  unfold lineE
  rw [str_app_len, str_app_len, stk_len]
  have : (" " : Str).length = 1 := by decide +kernel
  omega
theorem txt_len {es : List Ent} (h : Good es) : (txtE es).length ≤ es.length * 1009 := by
  unfold txtE
  rw [join_eqS]
  refine Nat.le_trans (StrLaws.join_length_le _ _) ?_
  have hs : ∀ l : List Ent, (∀ e ∈ l, e.1 < 10000000 ∧ e.2.length ≤ 1000) → ((l.map lineE).map (·.length)).sum ≤ l.length * 1008 := by
    intro l
    induction l with
    | nil => intro _; simp
    | cons e r ih =>
      intro hl
      have := ih fun e he => hl e (List.mem_cons_of_mem _ he)
      obtain ⟨h1, h2⟩ := hl e List.mem_cons_self
      have := line_len h1 h2
      simp only [List.map_cons, List.sum_cons, List.length_cons]
      omega
  have := hs es fun e he => ⟨h.num e he, (h.st e he).2⟩
  have e1 : ("\n" : Str).length = 1 := by decide +kernel
  rw [e1, List.length_map]
  omega
theorem txt_small {es : List Ent} (h : Good es) : (txtE es).length ≤ 302700 := by
  have := txt_len h
  have := h.sz
  omega
theorem tl_free_line {e : Ent} : 10 ∉ (lineE e).cps.toList := by
  unfold lineE
  rw [app_cps, app_cps]
  simp only [Array.toList_append, List.mem_append, not_or, dig_tl]
  refine ⟨⟨TL.numL_free (by omega), by decide +kernel⟩, ?_⟩
  intro h
  have h2 : (10 : Nat) ∈ e.2.map sg := by simpa [stk] using h
  obtain ⟨b, _, hb⟩ := List.mem_map.mp h2
  cases b <;> simp [sg] at hb
theorem split_txt {es : List Ent} (h : es ≠ []) : Txt.split (txtE es) ("\n" : Str) = es.map lineE := by
  unfold txtE
  refine TL.split_join (s := 10) (S := []) (by decide +kernel) (by decide +kernel) (by simpa using h) fun p hp => ?_
  obtain ⟨e, _, rfl⟩ := List.mem_map.mp hp
  exact tl_free_line
theorem split_line (e : Ent) : Txt.split (lineE e) (" " : Str) = [dig e.1, stk e.2] := by
  have e1 : lineE e = Txt.join (" " : Str) [dig e.1, stk e.2] := by rw [join_eqS]; rfl
  rw [e1]
  refine TL.split_join (s := 32) (S := []) (by decide +kernel) (by decide +kernel) (by simp) fun p hp => ?_
  simp only [List.mem_cons, List.not_mem_nil, or_false] at hp
  rcases hp with rfl | rfl
  · rw [show TL.tl (dig e.1) = TL.numL e.1 from dig_tl _]
    exact TL.numL_free (by omega)
  · intro h
    have h2 : (32 : Nat) ∈ e.2.map sg := by simpa [stk] using h
    obtain ⟨b, _, hb⟩ := List.mem_map.mp h2
    cases b <;> simp [sg] at hb
theorem line_inj {a b : Ent} (h : lineE a = lineE b) : a = b := by
  have := split_line a
  rw [h, split_line b] at this
  simp only [List.cons.injEq, and_true] at this
  exact Prod.ext (dig_inj this.1.symm) (stk_inj this.2.symm)
theorem line_ne (e : Ent) : lineE e ≠ Str.empty := fun h => by
  have := congrArg (fun x : Str => x.cps.toList) h
  unfold lineE at this
  simp only [app_cps, Array.toList_append, dig_tl] at this
  have h2 := TL.numL_ne e.1
  cases q : TL.numL e.1 with
  | nil => exact h2 q
  | cons a r => rw [q] at this; simp [Str.empty] at this
theorem map_line_inj : ∀ {a b : List Ent}, a.map lineE = b.map lineE → a = b
  | [], [], _ => rfl
  | [], _ :: _, h => by simp at h
  | _ :: _, [], h => by simp at h
  | x :: a, y :: b, h => by
    simp only [List.map_cons, List.cons.injEq] at h
    rw [line_inj h.1, map_line_inj h.2]
theorem txt_ne {es : List Ent} (h : es ≠ []) : txtE es ≠ Str.empty := fun q => by
  have h2 := split_txt h
  rw [q] at h2
  have h3 : Txt.split Str.empty ("\n" : Str) = [Str.empty] := by decide +kernel
  rw [h3] at h2
  cases es with
  | nil => exact h rfl
  | cons e r =>
    simp only [List.map_cons, List.cons.injEq] at h2
    exact line_ne e h2.1.symm
theorem txt_inj {a b : List Ent} (h : txtE a = txtE b) : a = b := by
  by_cases ha : a = []
  · subst ha
    by_cases hb : b = []
    · exact hb.symm
    · rw [txt_nil] at h; exact absurd h.symm (txt_ne hb)
  · by_cases hb : b = []
    · subst hb; rw [txt_nil] at h; exact absurd h (txt_ne ha)
    · have := split_txt ha
      rw [h, split_txt hb] at this
      exact (map_line_inj this).symm
/-! ### books as data -/
def lenB : List Ent → Nat
  | [] => 0
  | e :: _ => e.2.length
def bkF (es : List Ent) : List (Str × D) := [("entries", .tup (es.map entD)), ("length", .int (lenB es : Nat)), ("text", .str (txtE es))]
def bkD (C : Addr) (es : List Ent) : D := .obj C (bkF es)
theorem lk_ent {a b d : D} : look [(("entries" : Str), a), ("length", b), ("text", d)] "entries" = some a := by rfl
theorem lk_len {a b d : D} : look [(("entries" : Str), a), ("length", b), ("text", d)] "length" = some b := by rfl
theorem lk_txt {a b d : D} : look [(("entries" : Str), a), ("length", b), ("text", d)] "text" = some d := by rfl
theorem lk_bno {a b d : D} {m : Str} (h1 : (("entries" : Str) = m) = False) (h2 : (("length" : Str) = m) = False) (h3 : (("text" : Str) = m) = False) : look [(("entries" : Str), a), ("length", b), ("text", d)] m = none := by
  simp only [look, h1, h2, h3, if_false]
theorem atI_hd {x : D} {xs : List D} : atI (x :: xs) 0 = some x := atI_nat (j := 0) rfl
theorem pb1 {a : D} : put [] ("entries" : Str) a = [(("entries" : Str), a)] := by rfl
theorem pb2 {a b : D} : put [(("entries" : Str), a)] ("length" : Str) b = [(("entries" : Str), a), ("length", b)] := by rfl
theorem pb3 {a b d : D} : put [(("entries" : Str), a), ("length", b)] ("text" : Str) d = [(("entries" : Str), a), ("length", b), ("text", d)] := by rfl
theorem lb1 {a : D} : look [(("entries" : Str), a)] "entries" = some a := by rfl
theorem lb2 {a b : D} : look [(("entries" : Str), a), ("length", b)] "entries" = some a := by rfl
theorem len_mem {es : List Ent} (h : Good es) {e : Ent} (he : e ∈ es) : e.2.length = lenB es := by
  cases es with
  | nil => cases he
  | cons x r => exact h.ln e he x List.mem_cons_self
theorem lenB_le {es : List Ent} (h : Good es) : lenB es ≤ 1000 := by
  cases es with
  | nil => exact Nat.zero_le _
  | cons x r => exact (h.st x List.mem_cons_self).2
theorem sorted_nums (es : List Ent) (μ : Store) (P : D → Store → Prop) (h : P (.lst ((srtE es).map fun e => .int (e.1 : Nat))) μ) : oSorted [.lst (es.map fun e => .int (e.1 : Nat))] μ P := by
  unfold oSorted
  have e : intsD (es.map fun e => D.int (e.1 : Nat)) = some (es.map fun e => ((e.1 : Nat) : Int)) := by
    have q := intsD_map (es.map fun e => ((e.1 : Nat) : Int))
    rw [List.map_map] at q
    exact q
  show (match seqR μ (.lst (es.map fun e => .int (e.1 : Nat))) with | some xs => _ | none => False)
  dsimp only [seqR, seqL]
  rw [e]
  intro ns' hp hs
  have : ns' = (srtE es).map fun e => ((e.1 : Nat) : Int) := by
    refine ints_asc hs ?_ (hp.trans (((srtE_perm es).map _).symm))
    exact List.pairwise_map.mpr ((srtE_sorted es).imp fun q => by omega)
  rw [this, List.map_map]
  exact h
def unT : D → D
  | .tup xs => .lst xs
  | d => d
def seqF : D → Option (List D)
  | .lst xs => some xs
  | .tup xs => some xs
  | _ => none
theorem seqF_seqA {μ : Store} {d : D} {xs : List D} (h : seqF d = some xs) : seqA μ d = some xs := by
  cases d <;> first | (cases h; done) | (cases h; rfl)
theorem seqF_items {d : D} {xs : List D} (h : seqF d = some xs) : itemsD d = some xs := by
  cases d <;> first | (cases h; done) | (cases h; rfl)
theorem keys_put {es : List Ent} (h : (es.map (·.1)).Nodup) (e : Ent) (he : e.1 ∉ es.map (·.1)) : putD (es.map fun e => (keyN e.1, D.str (stk e.2))) (keyN e.1) (.str (stk e.2)) = (es ++ [e]).map fun e => (keyN e.1, D.str (stk e.2)) := by
  unfold putD
  rw [if_neg, List.map_append]
  · rfl
  · rw [List.any_eq_true]
    rintro ⟨kv, h1, h2⟩
    obtain ⟨x, hx, rfl⟩ := List.mem_map.mp h1
    exact he (List.mem_map.mpr ⟨x, hx, keyN_inj (of_decide_eq_true h2)⟩)
theorem keys_look {es : List Ent} (h : (es.map (·.1)).Nodup) {e : Ent} (he : e ∈ es) : look (es.map fun e => (keyN e.1, D.str (stk e.2))) (keyN e.1) = some (.str (stk e.2)) := by
  induction es with
  | nil => cases he
  | cons x r ih =>
    rw [List.map_cons, List.nodup_cons] at h
    rw [List.map_cons]
    unfold look
    by_cases q : keyN x.1 = keyN e.1
    · rw [if_pos q]
      rcases List.mem_cons.mp he with rfl | hr
      · rfl
      · exact absurd (List.mem_map.mpr ⟨e, hr, (keyN_inj q).symm⟩) h.1
    · rw [if_neg q]
      rcases List.mem_cons.mp he with rfl | hr
      · exact absurd rfl q
      · exact ih h.2 hr

theorem txt_beq (a b : List Ent) : (txtE a == txtE b) = decide (a = b) := by
  by_cases h : a = b
  · subst h; simp
  · rw [decide_eq_false h, beq_eq_false_iff_ne]
    exact fun q => h (txt_inj q)
theorem cut_drop (bs : List Bool) (n : Nat) (h : n ≤ bs.length) : cutS (stk bs) (some (n : Int)) none = stk (bs.drop n) := by
  apply str_ext
  unfold cutS
  have hl := stk_len bs
  simp only [hl, HT.sIx_none, HT.sIx_nat, Nat.min_eq_left h]
  simp [stk, List.map_drop]
  exact List.take_of_length_le (by simp)
theorem cut_any (bs : List Bool) (n : Nat) : cutS (stk bs) none (some (n : Int)) = stk (bs.take n) := by
  by_cases h : n ≤ bs.length
  · exact cut_stk bs n h
  · apply str_ext
    unfold cutS
    have hl := stk_len bs
    simp only [hl, HT.sIx_none, HT.sIx_nat, List.drop_zero, Nat.sub_zero, Nat.min_eq_right (show bs.length ≤ n by omega)]
    rw [List.take_of_length_le (by simp [stk]), List.take_of_length_le (show bs.length ≤ n by omega)]
theorem cutd_any (bs : List Bool) (n : Nat) : cutS (stk bs) (some (n : Int)) none = stk (bs.drop n) := by
  by_cases h : n ≤ bs.length
  · exact cut_drop bs n h
  · apply str_ext
    unfold cutS
    have hl := stk_len bs
    simp only [hl, HT.sIx_none, HT.sIx_nat, Nat.min_eq_right (show bs.length ≤ n by omega)]
    rw [List.drop_eq_nil_of_le (show bs.length ≤ n by omega)]
    simp [stk]
def shE (at_ : Nat) (e : Ent) : Ent := (e.1, e.2.take at_ ++ e.2.drop (at_ + 1))

/-! ### frauds -/
def prD (p : Nat × Nat) : D := .tup [.int (p.1 : Nat), .int (p.2 : Nat)]
def frOf (es : List Ent) (w : W3) (a : Ent) : List (Nat × Nat) := es.filterMap fun b => if a.1 ≠ b.1 ∧ canW w a.2 b.2 = true then some (a.1, b.1) else none
def frs (es : List Ent) (w : W3) : List (Nat × Nat) := es.flatMap (frOf es w)
theorem fmap_len {α β : Type} (f : α → Option β) (l : List α) : (l.filterMap f).length ≤ l.length := List.length_filterMap_le f l
theorem flat_len {α β : Type} (f : α → List β) {n : Nat} : ∀ l : List α, (∀ a ∈ l, (f a).length ≤ n) → (l.flatMap f).length ≤ l.length * n
  | [], _ => by simp
  | a :: r, h => by
    rw [List.flatMap_cons, List.length_append, List.length_cons, Nat.add_mul]
    have := h a List.mem_cons_self
    have := flat_len f r fun b hb => h b (List.mem_cons_of_mem _ hb)
    omega
theorem frs_len (es : List Ent) (w : W3) : (frs es w).length ≤ es.length * es.length := flat_len _ es fun _ _ => fmap_len _ _
theorem frs_lenT (es : List Ent) (w : W3) (i : Nat) : ((es.take i).flatMap (frOf es w)).length ≤ es.length * es.length := by
  refine Nat.le_trans (flat_len (n := es.length) _ (es.take i) fun _ _ => fmap_len _ _) (Nat.mul_le_mul_right _ ?_)
  rw [List.length_take]
  omega
theorem frs_mem {es : List Ent} {w : W3} {p : Nat × Nat} : p ∈ frs es w ↔ ∃ a ∈ es, ∃ b ∈ es, a.1 ≠ b.1 ∧ canW w a.2 b.2 = true ∧ p = (a.1, b.1) := by
  unfold frs frOf
  rw [List.mem_flatMap]
  constructor
  · rintro ⟨a, ha, h⟩
    obtain ⟨b, hb, e⟩ := List.mem_filterMap.mp h
    split at e
    · rename_i q
      exact ⟨a, ha, b, hb, q.1, q.2, (Option.some.inj e).symm⟩
    · cases e
  · rintro ⟨a, ha, b, hb, h1, h2, rfl⟩
    exact ⟨a, ha, List.mem_filterMap.mpr ⟨b, hb, if_pos ⟨h1, h2⟩⟩⟩
/-- the greatest of some numbers and 0 -/
def mx0 : List Int → Int
  | [] => 0
  | x :: r => if mx0 r ≤ x then x else mx0 r
theorem mx0_nn : ∀ l, 0 ≤ mx0 l
  | [] => Int.le_refl _
  | x :: r => by have := mx0_nn r; unfold mx0; split <;> omega
theorem mx0_mem : ∀ l, mx0 l ∈ 0 :: l
  | [] => List.mem_cons_self
  | x :: r => by
    have := mx0_mem r
    unfold mx0
    split
    · simp
    · rcases List.mem_cons.mp this with h | h
      · rw [h]; simp
      · exact List.mem_cons_of_mem _ (List.mem_cons_of_mem _ h)
theorem mx0_le : ∀ {l : List Int} {y : Int}, y ∈ 0 :: l → y ≤ mx0 l
  | l, y, h => by
    rcases List.mem_cons.mp h with rfl | h
    · exact mx0_nn l
    · induction l with
      | nil => cases h
      | cons x r ih =>
        unfold mx0
        rcases List.mem_cons.mp h with rfl | h
        · split <;> omega
        · have := ih (List.mem_cons_of_mem _ h) h
          split <;> omega
theorem mx0_eq {l : List Int} {m : Int} (h1 : m ∈ 0 :: l) (h2 : ∀ y ∈ 0 :: l, y ≤ m) : m = mx0 l := by
  have := mx0_le h1
  have := h2 _ (mx0_mem l)
  omega
def rsd (es : List Ent) (w : W3) : Int := mx0 ((frs es w).map fun p => ((p.2 : Nat) : Int) - ((p.1 : Nat) : Int))
def orgs (es : List Ent) (w : W3) (s : List Bool) : List Nat := es.filterMap fun a => if canW w a.2 s = true then some a.1 else none

theorem orgs_len (es : List Ent) (w : W3) (s : List Bool) : (orgs es w s).length ≤ es.length := fmap_len _ _
theorem orgs_mem {es : List Ent} {w : W3} {s : List Bool} {n : Nat} : n ∈ orgs es w s ↔ ∃ a ∈ es, canW w a.2 s = true ∧ n = a.1 := by
  unfold orgs
  rw [List.mem_filterMap]
  constructor
  · rintro ⟨a, ha, e⟩
    split at e
    · rename_i q
      exact ⟨a, ha, q, (Option.some.inj e).symm⟩
    · cases e
  · rintro ⟨a, ha, h, rfl⟩
    exact ⟨a, ha, if_pos h⟩
/-- the first and the last -/
def endsD : List Nat → D
  | [] => .non
  | a :: r => .tup [.int (a : Nat), .int (((a :: r).getLast (by simp) : Nat) : Int)]
theorem atI_last {xs : List D} (h : xs ≠ []) : atI xs (-1) = some (xs.getLast h) := by
  rcases List.eq_nil_or_concat xs with rfl | ⟨ys, y, rfl⟩
  · exact absurd rfl h
  · unfold atI ixN
    simp
    have e : (-1 + ((ys.length : Int) + 1)).toNat = ys.length := by omega
    rw [if_pos (by omega)]
    simp [e]
theorem last_map (l : List Nat) (h : l ≠ []) : atI (l.map eNat.enc) (-1) = some (.int ((l.getLast h : Nat) : Int)) := by
  rw [atI_last (by simpa using h), List.getLast_map]
  rfl

/-! ### repr of coded things -/
structure Shw {α : Type} [DecidableEq α] (E : Enc α) (P : α → Prop) (n : Nat) : Prop where
  sh : ∀ a, P a → (E.py a).showable = true
  ln : ∀ a, P a → (E.py a).shown.length ≤ n
theorem Shw.ok {α : Type} [DecidableEq α] {E : Enc α} {P : α → Prop} {n : Nat} (S : Shw E P n) (h : E.n ≤ 64) (hz : n ≤ 1000000) {a : α} (ha : P a) : reprOk (E.py a) :=
  ⟨S.sh a ha, PyData.hasDict_of_canLay _ (E.lay a), Nat.le_trans (E.dep a) h, le_line (Nat.le_trans (S.ln a ha) hz)⟩
theorem shw_all {α : Type} [DecidableEq α] {E : Enc α} {P : α → Prop} {n : Nat} (S : Shw E P n) : ∀ {l : List α}, (∀ a ∈ l, P a) → PyData.showableAll (l.map E.py) = true ∧ (PyData.shownAll (l.map E.py)).length = l.length ∧ ∀ x ∈ PyData.shownAll (l.map E.py), x.length ≤ n
  | [], _ => ⟨by rw [List.map_nil, PyData.showableAll], by rw [List.map_nil, PyData.shownAll]; rfl, by rw [List.map_nil, PyData.shownAll]; intro x hx; cases hx⟩
  | a :: r, h => by
    obtain ⟨h1, h2, h3⟩ := shw_all S (l := r) fun b hb => h b (List.mem_cons_of_mem _ hb)
    have ha := h a List.mem_cons_self
    refine ⟨?_, ?_, ?_⟩
    · rw [List.map_cons, PyData.showableAll, S.sh a ha, h1]; rfl
    · rw [List.map_cons, PyData.shownAll, List.length_cons, h2, List.length_cons]
    · rw [List.map_cons, PyData.shownAll]
      intro x hx
      rcases List.mem_cons.mp hx with rfl | hx
      · exact S.ln a ha
      · exact h3 x hx
theorem sum_le_len {n : Nat} : ∀ {ts : List Str}, (∀ x ∈ ts, x.length ≤ n) → (ts.map (·.length)).sum ≤ ts.length * n
  | [], _ => by simp
  | t :: r, h => by
    have h1 := h t List.mem_cons_self
    have h2 := sum_le_len fun x hx => h x (List.mem_cons_of_mem _ hx)
    rw [List.map_cons, List.sum_cons, List.length_cons, Nat.add_mul]
    omega
theorem tupT_len {ts : List Str} {n : Nat} (h : ∀ x ∈ ts, x.length ≤ n) : (tupleText ts).length ≤ ts.length * (n + 2) + 3 := by
  unfold tupleText
  rw [str_app_len, str_app_len]
  have e1 : (("(" : String) : Str).length = 1 := rfl
  have e3 : (((if ts.length == 1 then ",)" else ")" : String) : Str)).length ≤ 2 := by split <;> decide
  have e2 : ((", " : String) : Str).length = 2 := rfl
  have h1 := StrLaws.join_length_le (", " : Str) ts
  have h2 := sum_le_len h
  rw [e2] at h1
  rw [e1, Nat.mul_add]
  omega
theorem textFrom_le {n : Nat} : ∀ {ts : List Str} {k : Nat} {acc : Str}, (∀ x ∈ ts, x.length ≤ n) → (textFrom k acc ts).length ≤ acc.length + ts.length * (n + 2)
  | [], _, _, _ => by unfold textFrom; simp
  | t :: r, k, acc, h => by
    unfold textFrom
    have h1 := h t List.mem_cons_self
    have h2 := textFrom_le (k := k + 1) (acc := acc ++ (if k > 0 then ", " else "" : String) ++ t) fun x hx => h x (List.mem_cons_of_mem _ hx)
    have e : (((if k > 0 then ", " else "" : String) : Str)).length ≤ 2 := by split <;> decide
    rw [str_app_len, str_app_len] at h2
    rw [List.length_cons, Nat.add_mul]
    omega
theorem lstT_len {ts : List Str} {n : Nat} (h : ∀ x ∈ ts, x.length ≤ n) : (listText ts).length ≤ ts.length * (n + 2) + 3 := by
  unfold listText
  rw [str_app_len]
  have e1 : (("]" : String) : Str).length = 1 := rfl
  have e2 : (("[" : String) : Str).length = 1 := rfl
  have := textFrom_le (k := 0) (acc := ("[" : Str)) h
  rw [e2] at this
  omega
theorem Shw.tup {α : Type} [DecidableEq α] {E : Enc α} {P : α → Prop} {n : Nat} (S : Shw E P n) (m : Nat) : Shw (eTup E) (fun l => l.length ≤ m ∧ ∀ a ∈ l, P a) (m * (n + 2) + 3) :=
  ⟨fun l ⟨_, h⟩ => by show PyData.showable (.tuple (l.map E.py)) = true; rw [PyData.showable]; exact (shw_all S h).1, fun l ⟨hm, h⟩ => by
    show (PyData.shown (.tuple (l.map E.py))).length ≤ _
    rw [PyData.shown]
    obtain ⟨_, h2, h3⟩ := shw_all S h
    have h4 := tupT_len h3
    rw [h2] at h4
    have h5 : l.length * (n + 2) ≤ m * (n + 2) := Nat.mul_le_mul_right _ hm
    omega⟩
theorem Shw.lst {α : Type} [DecidableEq α] {E : Enc α} {P : α → Prop} {n : Nat} (S : Shw E P n) (m : Nat) : Shw (eLst E) (fun l => l.length ≤ m ∧ ∀ a ∈ l, P a) (m * (n + 2) + 3) :=
  ⟨fun l ⟨_, h⟩ => by show PyData.showable (.list (l.map E.py)) = true; rw [PyData.showable]; exact (shw_all S h).1, fun l ⟨hm, h⟩ => by
    show (PyData.shown (.list (l.map E.py))).length ≤ _
    rw [PyData.shown]
    obtain ⟨_, h2, h3⟩ := shw_all S h
    have h4 := lstT_len h3
    rw [h2] at h4
    have h5 : l.length * (n + 2) ≤ m * (n + 2) := Nat.mul_le_mul_right _ hm
    omega⟩
theorem Shw.pair {α β : Type} [DecidableEq α] [DecidableEq β] {E : Enc α} {F : Enc β} {P : α → Prop} {P' : β → Prop} {n k : Nat} (S : Shw E P n) (S' : Shw F P' k) : Shw (ePair E F) (fun p => P p.1 ∧ P' p.2) (n + k + 7) :=
  ⟨fun p ⟨h1, h2⟩ => by show PyData.showable (.tuple [E.py p.1, F.py p.2]) = true; rw [PyData.showable, PyData.showableAll, PyData.showableAll, PyData.showableAll, S.sh _ h1, S'.sh _ h2]; rfl, fun p ⟨h1, h2⟩ => by
    show (PyData.shown (.tuple [E.py p.1, F.py p.2])).length ≤ _
    rw [PyData.shown, PyData.shownAll, PyData.shownAll, PyData.shownAll]
    have a1 := S.ln _ h1
    have a2 := S'.ln _ h2
    unfold tupleText
    rw [str_app_len, str_app_len]
    have e1 : (("(" : String) : Str).length = 1 := rfl
    have e2 : ((", " : String) : Str).length = 2 := rfl
    have h := StrLaws.join_length_le (", " : Str) [(E.py p.1).shown, (F.py p.2).shown]
    rw [e2] at h
    simp only [List.map_cons, List.map_nil, List.sum_cons, List.sum_nil, List.length_cons, List.length_nil] at h ⊢
    have e3 : ((")" : String) : Str).length = 1 := rfl
    rw [e1]
    simp only [show ((0 + 1 + 1 == 1) = false) from rfl, Bool.false_eq_true, if_false]
    rw [e3]
    omega⟩
theorem shw_nat : Shw eNat (fun n => n < 10000000) 7 :=
  ⟨fun n h => by show PyData.showable (.int (n : Nat)) = true; rw [PyData.showable]; exact decide_eq_true (by rw [Int.natAbs_natCast]; exact log_small h), fun n h => by show (PyData.shown (.int (n : Nat))).length ≤ 7; rw [PyData.shown]; exact dig_len h⟩
theorem reprA_tup {α : Type} [DecidableEq α] {E : Enc α} {P : α → Prop} {n m : Nat} (S : Shw E P n) (h : E.n + 1 ≤ 64) (hz : m * (n + 2) + 3 ≤ 1000000) {l : List α} (hm : l.length ≤ m) (ha : ∀ a ∈ l, P a) {μ : Store} {R : D → Store → Prop} (k : R (.str ((eTup E).py l).shown) μ) : oReprA [.tup (l.map E.enc)] μ R := by
  refine .inr ?_
  show match pyD (.tup (l.map E.enc)) with | some p => reprOk p ∧ R (.str p.shown) μ | none => False
  have e : pyD (.tup (l.map E.enc)) = some ((eTup E).py l) := (eTup E).ok l
  rw [e]
  exact ⟨(S.tup m).ok h hz ⟨hm, ha⟩, k⟩
theorem reprA_lst {α : Type} [DecidableEq α] {E : Enc α} {P : α → Prop} {n m : Nat} (S : Shw E P n) (h : E.n + 1 ≤ 64) (hz : m * (n + 2) + 3 ≤ 1000000) {l : List α} (hm : l.length ≤ m) (ha : ∀ a ∈ l, P a) {μ : Store} {R : D → Store → Prop} (k : R (.str ((eLst E).py l).shown) μ) : oReprA [.lst (l.map E.enc)] μ R := by
  refine .inr ?_
  show match pyD (.lst (l.map E.enc)) with | some p => reprOk p ∧ R (.str p.shown) μ | none => False
  have e : pyD (.lst (l.map E.enc)) = some ((eLst E).py l) := (eLst E).ok l
  rw [e]
  exact ⟨(S.lst m).ok h hz ⟨hm, ha⟩, k⟩
theorem reprA_ref {α : Type} [DecidableEq α] {E : Enc α} {P : α → Prop} {n m : Nat} (S : Shw E P n) (h : E.n + 1 ≤ 64) (hz : m * (n + 2) + 3 ≤ 1000000) {l : List α} (hm : l.length ≤ m) (ha : ∀ a ∈ l, P a) {μ : Store} {p : Addr} (hp : μ p = some (.lst (l.map E.enc))) {R : D → Store → Prop} (k : R (.str ((eLst E).py l).shown) μ) : oReprA [.ref p] μ R := by
  refine .inr ?_
  show match pyS μ (.ref p) with | some p => reprOk p ∧ R (.str p.shown) μ | none => False
  have e : pyS μ (.ref p) = some ((eLst E).py l) := by unfold pyS; dsimp only; rw [hp]; dsimp only; rw [encs_ok]; rfl
  rw [e]
  exact ⟨(S.lst m).ok h hz ⟨hm, ha⟩, k⟩
theorem reprA_int {i : Int} {μ : Store} {R : D → Store → Prop} (h : i.natAbs < 10000000) (k : R (.str (Str.ofString (toString i))) μ) : oReprA [.int i] μ R := .inl ⟨log_small h, k⟩

/-! ### draws of books -/
def fzp (μ : Store) (p q : Addr) : D → D
  | .ref r => if r ≠ p ∧ r ≠ q then (match μ r with | some (.lst ys) => .lst ys | _ => .ref r) else .ref r
  | d => d
def eEnt : Enc Ent := ePair eNat eStk
theorem eEnt_enc : eEnt.enc = entD := rfl
theorem fzp_ref {μ : Store} {p q r : Addr} {xs : List D} (h1 : r ≠ p) (h2 : r ≠ q) (h : μ r = some (.lst xs)) : fzp μ p q (.ref r) = .lst xs := by
  unfold fzp
  dsimp only
  rw [if_pos ⟨h1, h2⟩, h]
theorem in_sticks (s : List Bool) (l : List (List Bool)) : inD (.str (stk s)) (l.map sD) = decide (s ∈ l) := by
  unfold inD inV
  induction l with
  | nil => rfl
  | cons x r ih =>
    simp only [List.map_cons] at ih ⊢
    rw [List.any_cons, ih]
    have e : eqV (toV (sD x)) (toV (.str (stk s))) = decide (s = x) := by
      show (stk x == stk s) = _
      rw [stk_beq, decide_eq_decide]
      exact eq_comm
    rw [Bool.eq_iff_iff]
    simp [e]
theorem flat_sticks (l : List (List Bool)) : (l.map sD).all flatD = true := by
  rw [List.all_map, List.all_eq_true]
  intro x _
  rfl
theorem flat_nats (l : List Nat) : (l.map eNat.enc).all flatD = true := by
  rw [List.all_map, List.all_eq_true]
  intro x _
  rfl
theorem last_int (l : List Int) (x : Int) : atI ((l ++ [x]).map D.int) (-1) = some (.int x) := by
  rw [List.map_append]
  unfold atI ixN
  simp
  have e : (-1 + ((l.length : Int) + 1)).toNat = l.length := by omega
  rw [if_pos (by omega)]
  simp [e]
theorem DealAt.set {μ : Store} {p q a : Addr} {c : Cell} (h : DealAt μ p q) (h1 : a ≠ p) (h2 : a ≠ q) : DealAt (setS μ a c) p q := by
  obtain ⟨hpq, xs, b, hp, hq, hz⟩ := h
  exact ⟨hpq, xs, b, by rw [setS_ne (Ne.symm h1)]; exact hp, by rw [setS_ne (Ne.symm h2)]; exact hq, hz⟩
theorem DealAt.del {μ : Store} {p q a : Addr} (h : DealAt μ p q) (h1 : a ≠ p) (h2 : a ≠ q) : DealAt (delS μ a) p q := by
  obtain ⟨hpq, xs, b, hp, hq, hz⟩ := h
  exact ⟨hpq, xs, b, by rw [delS_ne (Ne.symm h1)]; exact hp, by rw [delS_ne (Ne.symm h2)]; exact hq, hz⟩
theorem DealAt.ne {μ : Store} {p q a : Addr} (h : DealAt μ p q) (ha : μ a = none) : a ≠ p ∧ a ≠ q := by
  obtain ⟨hpq, xs, b, hp, hq, hz⟩ := h
  exact ⟨fun e => (by rw [e, hp] at ha; cases ha), fun e => (by rw [e, hq] at ha; cases ha)⟩
theorem Good.snoc {es : List Ent} {n : Nat} {s : List Bool} {l : Nat} (h : Good es) (hz : es.length < 300) (hn : n < 10000000) (hs : s.length = l) (hl : 0 < l ∧ l ≤ 1000) (hall : ∀ e ∈ es, e.2.length = l) (h1 : n ∉ es.map (·.1)) (h2 : s ∉ es.map (·.2)) : Good (es ++ [(n, s)]) := by
  refine ⟨by simp; omega, ?_, ?_, ?_, ?_, ?_⟩
  · intro e he
    rcases List.mem_append.mp he with he | he
    · exact h.num e he
    · simp at he; subst he; exact hn
  · intro e he
    rcases List.mem_append.mp he with he | he
    · exact h.st e he
    · simp at he; subst he; exact ⟨by rintro rfl; simp at hs; omega, by simp only; omega⟩
  · rw [List.map_append]
    exact List.nodup_append.mpr ⟨h.nn, by simp, by rintro a ha b hb rfl; simp at hb; subst hb; exact h1 ha⟩
  · rw [List.map_append]
    exact List.nodup_append.mpr ⟨h.ns, by simp, by rintro a ha b hb rfl; simp at hb; subst hb; exact h2 ha⟩
  · have al : ∀ e ∈ es ++ [(n, s)], e.2.length = l := by
      intro e he
      rcases List.mem_append.mp he with he | he
      · exact hall e he
      · simp at he; subst he; exact hs
    intro e he e' he'
    rw [al e he, al e' he']

theorem canW_eq {u w : W3} (h1 : u.how = w.how) (h2 : u.most = w.most) (h3 : ∀ is, okP u.part is = okP w.part is) (a b : List Bool) : canW u a b = canW w a b := by
  unfold canW letsW
  rw [h1, h2, h3]
def wN (w : W3) : W3 := ⟨w.how, w.most, w.part.map nrm⟩
def PtOk (w : W3) : Prop := ∀ l, w.part = some l → l.length ≤ 500 ∧ ∀ i ∈ l, i < 1000
theorem canW_nrm {w : W3} (h : PtOk w) (a b : List Bool) : canW (wN w) a b = canW w a b := by
  refine canW_eq (u := wN w) (w := w) rfl rfl (fun is => ?_) a b
  unfold wN
  cases q : w.part with
  | none => rfl
  | some l =>
    show (is.all fun i => decide (i ∈ nrm l)) = is.all fun i => decide (i ∈ l)
    congr 1
    funext i
    rw [decide_eq_decide]
    exact nrm_mem (h l q).2
def wayT (w : W3) : D := .tup [.str (howS w.how), nD' w.most, paD w.part]
theorem pairs_ent : ∀ es : List Ent, pairsD (es.map entD) = some (es.map fun e => (keyN e.1, D.str (stk e.2)))
  | [] => rfl
  | e :: r => by
    have h := pairs_ent r
    show (match pairD (entD e), pairsD (r.map entD) with | some a, some b => some (a :: b) | _, _ => none) = _
    rw [h]
    rfl
theorem merge_ent : ∀ (fs es : List Ent), ((fs ++ es).map (·.1)).Nodup → mergeD (fs.map fun e => (keyN e.1, D.str (stk e.2))) (es.map fun e => (keyN e.1, D.str (stk e.2))) = (fs ++ es).map fun e => (keyN e.1, D.str (stk e.2))
  | fs, [], _ => by rw [List.append_nil]; rfl
  | fs, e :: r, h => by
    have h1 : fs ++ e :: r = (fs ++ [e]) ++ r := by simp
    have hk : ((fs ++ [e]).map (·.1)).Nodup := by
      rw [h1, List.map_append] at h
      exact (List.nodup_append.mp h).1
    have hk2 := hk
    rw [List.map_append] at hk2
    have hk3 := List.nodup_append.mp hk2
    have ih := merge_ent (fs ++ [e]) r (by rw [← h1]; exact h)
    unfold mergeD at ih ⊢
    rw [List.map_cons, List.foldl_cons, keys_put hk3.1 e (fun q => hk3.2.2 _ q e.1 (by simp) rfl), ih, h1]
theorem dict_ents {es : List Ent} (h : (es.map (·.1)).Nodup) {μ : Store} {P : D → Store → Prop} (k : ∀ p, μ p = none → P (.ref p) (setS μ p (.dct (es.map fun e => (keyN e.1, D.str (stk e.2)))))) : oDictM [.lst (es.map entD)] μ P := by
  unfold oDictM
  dsimp only
  rw [sqR_lst, Option.bind_some, pairs_ent]
  dsimp only
  have := merge_ent [] es (by simpa using h)
  rw [List.map_nil, List.nil_append] at this
  rw [this]
  exact k
theorem strs_lines : ∀ es : List Ent, strsD (es.map fun e => D.str (lineE e)) = some (es.map lineE)
  | [] => rfl
  | e :: r => by
    have h := strs_lines r
    rw [List.map_cons, strsD, h]
    rfl
theorem lines_len {es : List Ent} (h : Good es) : ((es.map lineE).map (·.length)).sum + (es.map lineE).length * 1 ≤ 302700 := by
  have h1 := sum_le_len (n := 1008) (ts := es.map lineE) (by
    intro x hx
    obtain ⟨e, he, rfl⟩ := List.mem_map.mp hx
    exact line_len (h.num e he) (h.st e he).2)
  have := h.sz
  rw [List.length_map] at h1 ⊢
  omega
/-- a comprehension of draws -/
theorem lc_draw {α : Type} {its : List D} {g : WG} {te : WE} {vs : List Nat} {fin : Addr → List D → Store → Prop} {ρ : Dl.Env} {μ : Store} {p q : Addr} (enc : α → D) (R : α → Prop) (hd : DealAt μ p q) (hz : its.length ≤ sizeLine)
    (h : ∀ (i : Nat) (d : D) (μ' : Store) (S : D → Store → Prop), its[i]? = some (d : D) → DealAt μ' p q → Mut2 p q μ μ' → (∀ a μ2, R a → DealAt μ2 p q → Mut2 p q μ' μ2 → S (enc a) μ2) → g d (wipeE ρ vs) μ' fun ρ2 μ2 => te ρ2 μ2 S)
    (k : ∀ L (l : List α) μ', μ L = none → l.length = its.length → (∀ a ∈ l, R a) → DealAt (delS μ' L) p q → Mut2 p q μ (delS μ' L) → fin L (l.map enc) μ') : lcBody its g wYes te vs fin ρ μ := by
  refine ⟨hz, fun L hL => ⟨fun i acc μ' => ∃ l : List α, l.length = i ∧ acc = l.map enc ∧ (∀ a ∈ l, R a) ∧ DealAt μ' p q ∧ ∀ a z, a ≠ p → a ≠ q → a ≠ L → μ a = some z → μ' a = some z, ?_, ?_, ?_⟩⟩
  · have hn := hd.ne hL
    exact ⟨[], rfl, rfl, by simp, hd.set hn.1 hn.2, fun a z h1 h2 h3 h4 => by rw [setS_ne h3]; exact h4⟩
  · rintro i d acc μ' hi hL' ⟨l, rfl, rfl, hR, hd', hk⟩
    have hn := hd.ne hL
    have hm : Mut2 p q μ μ' := fun a z h1 h2 h3 => hk a z h1 h2 (by rintro rfl; rw [hL] at h3; cases h3) h3
    simp only [wYes, if_true]
    refine h _ d μ' _ hi hd' hm fun a μ2 ha hd2 hm2 => ⟨hm2 _ _ hn.1 hn.2 hL', l ++ [a], by simp, by simp, ?_, hd2.set hn.1 hn.2, fun b z h1 h2 h3 h4 => by rw [setS_ne h3]; exact hm2 b z h1 h2 (hk b z h1 h2 h3 h4)⟩
    intro x hx
    rcases List.mem_append.mp hx with hx | hx
    · exact hR x hx
    · simp only [List.mem_singleton] at hx; subst hx; exact ha
  · rintro acc μ' _ hL' ⟨l, hl, rfl, hR, hd', hk⟩
    have hn := hd.ne hL
    refine k L l μ' hL hl hR (hd'.del hn.1 hn.2) fun a z h1 h2 h3 => ?_
    have h4 : a ≠ L := by rintro rfl; rw [hL] at h3; cases h3
    rw [delS_ne h4]
    exact hk a z h1 h2 h4 h3

theorem lc_rix {its : List D} {g : WG} {tt : WT} {te : WE} {vs : List Nat} {fin : Addr → List D → Store → Prop} {ρ : Dl.Env} {μ : Store} (f : Nat → Option D) (hz : its.length ≤ sizeLine)
    (h : ∀ (i : Nat) (d : D) (μ' : Store) (R : D → Store → Prop) (R' : Store → Prop), its[i]? = some d → Dl.Sub μ μ' → (∀ y, f i = some y → R y μ') → (f i = none → R' μ') → g d (wipeE ρ vs) μ' fun ρ2 μ2 => tt ρ2 μ2 fun b μ3 => if b = true then te ρ2 μ3 R else R' μ3)
    (q : ∀ L, μ L = none → fin L ((List.range its.length).filterMap f) (setS μ L (.lst ((List.range its.length).filterMap f)))) : lcBody its g tt te vs fin ρ μ := by
  refine ⟨hz, fun L hL => ⟨fun i acc μ' => acc = (List.range i).filterMap f ∧ μ' = setS μ L (.lst acc), ⟨rfl, rfl⟩, ?_, ?_⟩⟩
  · rintro i d acc μ' hd hu ⟨rfl, rfl⟩
    have sb : Dl.Sub μ (setS μ L (.lst ((List.range i).filterMap f))) := fun b c e => by
      have : b ≠ L := by rintro rfl; rw [hL] at e; cases e
      rw [setS_ne this]; exact e
    have et : (List.range (i + 1)).filterMap f = (List.range i).filterMap f ++ (f i).toList := by
      rw [List.range_succ, List.filterMap_append]
      congr 1
    refine h i d _ _ _ hd sb (fun y hy => ?_) (fun hn => ?_)
    · refine ⟨setS_same, ?_, by rw [setS_setS]⟩
      rw [et, hy]; rfl
    · refine ⟨setS_same, ?_, ?_⟩
      · rw [et, hn]; simp
      · rfl
  · rintro acc μ' _ _ ⟨rfl, rfl⟩
    exact q L hL
theorem dif_at {a b : List Bool} {i : Nat} (h : i ∈ dif a b) (hl : a.length = b.length) : ∃ x y, a[i]? = some x ∧ b[i]? = some y ∧ x ≠ y := by
  have h := List.mem_filter.mp h
  have hi : i < a.length := by simpa using h.1
  refine ⟨a[i], b[i]'(by omega), List.getElem?_eq_getElem hi, List.getElem?_eq_getElem (by omega), ?_⟩
  have h2 := h.2
  rw [List.getElem?_eq_getElem hi, List.getElem?_eq_getElem (show i < b.length by omega)] at h2
  simpa using h2
theorem nil_filter {l : List Nat} (p : Nat → Bool) : decide (l.filter p = []) = l.all fun i => !p i := by
  rw [Bool.eq_iff_iff, decide_eq_true_eq, List.filter_eq_nil_iff, List.all_eq_true]
  exact ⟨fun h x hx => by simpa using h x hx, fun h x hx => by simpa using h x hx⟩
theorem nNil : D.lst [] = .lst (([] : List Nat).map eNat.enc) := rfl

theorem mx0_snoc (l : List Int) (x : Int) : mx0 (l ++ [x]) = if x > mx0 l then x else mx0 l := by
  induction l with
  | nil =>
    show (if (0 : Int) ≤ x then x else 0) = if x > 0 then x else 0
    repeat' split
    all_goals omega
  | cons y r ih =>
    rw [List.cons_append]
    show (if mx0 (r ++ [x]) ≤ y then y else mx0 (r ++ [x])) = if x > (if mx0 r ≤ y then y else mx0 r) then x else (if mx0 r ≤ y then y else mx0 r)
    rw [ih]
    generalize mx0 r = m
    repeat' split
    all_goals omega
def dfI (p : Nat × Nat) : Int := ((p.2 : Nat) : Int) - ((p.1 : Nat) : Int)
theorem frOf_nrm {w : W3} (h : PtOk w) (es : List Ent) : frOf es (wN w) = frOf es w := by
  funext a
  unfold frOf
  apply fm_congr
  intro b _
  rw [canW_nrm h]
theorem frs_nrm {w : W3} (h : PtOk w) (es : List Ent) : frs es (wN w) = frs es w := by unfold frs; rw [frOf_nrm h]
theorem rsd_nrm {w : W3} (h : PtOk w) (es : List Ent) : rsd es (wN w) = rsd es w := by unfold rsd; rw [frs_nrm h]
def frT (es : List Ent) (w : W3) (a : Ent) (j : Nat) : List (Nat × Nat) := (es.take j).filterMap fun b => if a.1 ≠ b.1 ∧ canW w a.2 b.2 = true then some (a.1, b.1) else none
theorem frT_succ {es : List Ent} {w : W3} {a b : Ent} {j : Nat} (h : es[j]? = some b) : frT es w a (j + 1) = frT es w a j ++ (if a.1 ≠ b.1 ∧ canW w a.2 b.2 = true then some (a.1, b.1) else none).toList := by
  unfold frT
  rw [List.take_add_one, h, List.filterMap_append]
  congr 1
theorem frT_all {es : List Ent} {w : W3} {a : Ent} : frT es w a es.length = frOf es w a := by unfold frT frOf; rw [List.take_length]
theorem frT_len {es : List Ent} {w : W3} {a : Ent} {j : Nat} : (frT es w a j).length ≤ es.length := by
  refine Nat.le_trans (fmap_len _ _) ?_
  rw [List.length_take]
  omega
def frU (es : List Ent) (w : W3) (i : Nat) : List (Nat × Nat) := (es.take i).flatMap (frOf es w)
theorem frU_succ {es : List Ent} {w : W3} {a : Ent} {i : Nat} (h : es[i]? = some a) : frU es w (i + 1) = frU es w i ++ frOf es w a := by
  unfold frU
  rw [List.take_add_one, h, List.flatMap_append]
  simp
theorem frU_all {es : List Ent} {w : W3} : frU es w es.length = frs es w := by unfold frU frs; rw [List.take_length]
theorem frU_len (es : List Ent) (w : W3) (i : Nat) : (frU es w i).length ≤ es.length * es.length := frs_lenT es w i
def ePr : Enc (Nat × Nat) := ePair eNat eNat
theorem shw_pr : Shw ePr (fun p => p.1 < 10000000 ∧ p.2 < 10000000) 21 := Shw.pair shw_nat shw_nat
theorem frs_small {es : List Ent} (ok : Good es) {w : W3} : ∀ p ∈ frs es w, p.1 < 10000000 ∧ p.2 < 10000000 := by
  intro p hp
  obtain ⟨a, ha, b, hb, _, _, rfl⟩ := frs_mem.mp hp
  exact ⟨ok.num a ha, ok.num b hb⟩
theorem rsd_small {es : List Ent} (ok : Good es) {w : W3} : (rsd es w).natAbs < 10000000 := by
  have h := mx0_mem ((frs es w).map fun p => ((p.2 : Nat) : Int) - ((p.1 : Nat) : Int))
  unfold rsd
  rcases List.mem_cons.mp h with e | e
  · rw [e]; decide
  · obtain ⟨p, hp, e⟩ := List.mem_map.mp e
    have := frs_small ok p hp
    rw [← e]
    omega
theorem oEq_refL {α : Type} [DecidableEq α] (E : Enc α) (h : E.n + 1 ≤ 64) {q : Addr} {as bs : List α} {μ : Store} (hq : μ q = some (.lst (as.map E.enc))) {P : D → Store → Prop} : oEq (.ref q) (.lst (bs.map E.enc)) μ P = P (.bl (decide (as = bs))) μ := by
  have e1 : pyS μ (.ref q) = some ((eLst E).py as) := by unfold pyS; dsimp only; rw [hq]; dsimp only; rw [encs_ok]; rfl
  have e2 : pyS μ (.lst (bs.map E.enc)) = some ((eLst E).py bs) := (eLst E).ok bs
  unfold oEq
  dsimp only [scD]
  rw [e1, e2]
  dsimp only
  rw [enc_shaped (eLst E) h, enc_shaped (eLst E) h, (eLst E).eqv]
  simp
theorem shw_n : Shw eNat (fun n => n < 10000000) 7 := shw_nat
theorem orgs_nrm {w : W3} (h : PtOk w) (es : List Ent) (s : List Bool) : orgs es (wN w) s = orgs es w s := by
  unfold orgs
  apply fm_congr
  intro b _
  rw [canW_nrm h]
theorem orgs_small {es : List Ent} (ok : Good es) {w : W3} {s : List Bool} : ∀ n ∈ orgs es w s, n < 10000000 := by
  intro n hn
  obtain ⟨a, ha, _, rfl⟩ := orgs_mem.mp hn
  exact ok.num a ha
theorem oNe_ends (l : List Nat) {μ : Store} {P : D → Store → Prop} (h : P (.bl false) μ) : oNe (endsD l) (endsD l) μ P := by
  cases l with
  | nil => exact h
  | cons a r =>
    have e : endsD (a :: r) = ePr.enc (a, (a :: r).getLast (by simp)) := rfl
    rw [e, oNe_enc ePr (by decide) _ _ rfl _ _ (fun _ _ z => nomatch z)]
    simpa using h
theorem reprA_ends {l : List Nat} (hl : ∀ n ∈ l, n < 10000000) {μ : Store} {R : D → Store → Prop} (k : ∀ s, (l = [] → s = ("None" : Str)) → (∀ a r, l = a :: r → s = (ePr.py (a, (a :: r).getLast (by simp))).shown) → R (.str s) μ) : oReprA [endsD l] μ R := by
  cases l with
  | nil => exact .inl (k _ (fun _ => rfl) (fun a r h => by cases h))
  | cons a r =>
    refine .inr ?_
    have e : pyD (endsD (a :: r)) = some (ePr.py (a, (a :: r).getLast (by simp))) := ePr.ok (a, (a :: r).getLast (by simp))
    show match pyD (endsD (a :: r)) with | some p => reprOk p ∧ R (.str p.shown) μ | none => False
    rw [e]
    exact ⟨shw_pr.ok (by decide) (by decide) ⟨hl a List.mem_cons_self, hl _ (List.getLast_mem _)⟩, k _ (fun h => by cases h) (fun a' r' h => by cases h; rfl)⟩
def endsT (l : List Nat) : Str := match l with
  | [] => "None"
  | a :: r => (ePr.py (a, (a :: r).getLast (by simp))).shown
theorem reprA_endsT {l : List Nat} (hl : ∀ n ∈ l, n < 10000000) {μ : Store} {R : D → Store → Prop} (k : R (.str (endsT l)) μ) : oReprA [endsD l] μ R := by
  refine reprA_ends hl fun s h1 h2 => ?_
  cases l with
  | nil => rw [h1 rfl]; exact k
  | cons a r => rw [h2 a r rfl]; exact k

theorem ruleT_strs (cs : List (List Bool)) : strsD (cs.map sD) = some (cs.map stk) := by
  have h := strsD_map (cs.map stk)
  rw [List.map_map] at h
  exact h
theorem ruleT_len {cs : List (List Bool)} {w : Nat} (ok : OkR cs w) : (ruleT cs).length ≤ 20000 := by
  have h := PySem.StrLaws.join_length_le " " (cs.map stk)
  have h1 := Nat.mul_le_mul ok.few ok.wl
  have e1 : (" " : Str).length = 1 := by decide +kernel
  have hs : ∀ cs : List (List Bool), (∀ b ∈ cs, b.length = w) → ((cs.map stk).map (·.length)).sum = cs.length * w := fun cs => by
    induction cs with
    | nil => intro _; simp
    | cons b r ih =>
      intro h
      simp only [List.map_cons, List.sum_cons, List.length_cons]
      rw [ih (fun b hb => h b (List.mem_cons_of_mem _ hb)), stk_len, h b List.mem_cons_self, Nat.succ_mul]
      omega
  rw [hs cs ok.all, List.length_map, e1] at h
  have hf := ok.few
  have e : ruleT cs = Str.join " " (cs.map stk) := PySem.StrLaws.glued_eq_join " " (cs.map stk)
  rw [e]
  refine Nat.le_trans h ?_
  omega
theorem stk_lt (s : List Bool) : ∀ c ∈ (stk s).cps.toList, c < 16 ^ 8 := by
  intro c hc
  simp [stk] at hc
  rcases hc with ⟨_, rfl⟩ | ⟨_, rfl⟩ <;> decide
theorem shw_stk (n : Nat) : Shw eStk (fun s => s.length ≤ n) (10 * n + 2) :=
  ⟨fun s h => by show PyData.showable (.str (stk s)) = true; rw [PyData.showable], fun s h => by
    show (PyData.shown (.str (stk s))).length ≤ _
    rw [PyData.shown]
    have := StrLaws.reprText_len (stk s) (stk_lt s)
    rw [stk_len] at this
    omega⟩

theorem lf_stks (L : List (List Bool)) : lfL (L.map sD) = true := by
  induction L with
  | nil => rw [List.map_nil, lfL]
  | cons e r ih => rw [List.map_cons, lfL, ih]; rfl
theorem lf_nats (L : List Nat) : lfL (L.map eNat.enc) = true := by
  induction L with
  | nil => rw [List.map_nil, lfL]
  | cons e r ih => rw [List.map_cons, lfL, ih]; rfl
theorem lf_rule {C : Addr} {cs : List (List Bool)} : lfD (ruleD C cs) = true := by
  unfold ruleD
  rw [lfD, lfF, lfF, lfF]
  have h1 : lfD (D.tup (cs.map sD)) = true := by rw [lfD]; exact lf_stks cs
  rw [h1]
  rfl
theorem deal_small {μ : Store} {p q : Addr} (hd : DealAt μ p q) : ∃ μ0 : Store, DealAt μ0 p q ∧ ∀ a z, μ0 a = some z → μ a = some z ∧ lfC z = true := by
  obtain ⟨hpq, xs, b, h1, h2, h3⟩ := hd
  refine ⟨setS (setS (fun _ => none) p (.lst [.ref q, .int b])) q (.lst (xs.map eNat.enc)), ⟨hpq, xs, b, by rw [setS_ne hpq]; exact setS_same, setS_same, h3⟩, fun a z w => ?_⟩
  by_cases e2 : a = q
  · subst e2
    rw [setS_same] at w
    cases w
    exact ⟨h2, lf_nats xs⟩
  · rw [setS_ne e2] at w
    by_cases e1 : a = p
    · subst e1
      rw [setS_same] at w
      cases w
      exact ⟨h1, rfl⟩
    · rw [setS_ne e1] at w
      cases w

def sp_is_sequence (c : Cs) : DSp := fun ds μ Q => ∃ (d : D) (xs : List D), ds = [d] ∧ (d = .lst xs ∨ d = .tup xs) ∧ Q (.bl true) μ
theorem len_is_sequence (c : Cs) : ∀ ds μ Q, sp_is_sequence c ds μ Q → ds.length = 1 := by
  rintro ds μ Q ⟨d, xs, rfl, _⟩
  rfl

def w_is_sequence (K : PySem.W.Frag) (c : Cs) : WS := wRet (wCB oIsiS (wACons (wVar 0) (wACons (wTup (wACons (wC (.ty "list")) (wACons (wC (.ty "tuple")) (wANil)))) (wANil))))
section
variable {P : Program} {w : World} {K : PySem.W.Frag} {mg : Str → Option Value} {base : Heap} {c : Cs}
theorem dv_is_sequence (T : Txt K mg c) {f : Addr} (cdv : Value) (A : Around) (outer : List PySem.Env) (s : Shared) (H : Hp) (E : XK) (hr : Room 0 (A.deeper (PyProof.Rows.envOfC "is_sequence" (defScope s_is_sequence) s.heap.objs.size f cdv))) : DSs (cxOf CX0 P w K mg base N_is_sequence "is_sequence" (defScope s_is_sequence) f cdv A outer s H E).nox (defBody s_is_sequence) (w_is_sequence K c) := by
  have ND := sc_is_sequence.nd
  have hu := hu_of hr
  have hu64 := hr.units
  have hu65 := units65 hr
  exact dss_one (ds_ret (de_callB cs_isiS rfl T.b_isinstance (by decide +kernel) (da_cons (de_var (pv 0)) (da_cons (de_tup (da_cons (de_ty (n := "list") rfl T.b_list (by decide +kernel)) (da_cons (de_ty (n := "tuple") rfl T.b_tuple (by decide +kernel)) (da_nil)))) (da_nil)))))
theorem rd_is_sequence (K : PySem.W.Frag) (c : Cs) : ∀ ds μ Q, sp_is_sequence c ds μ Q → w_is_sequence K c { nx := fun _ μ' => ∃ μ2, Sub μ2 μ' ∧ Q .non μ2, rt := Q } (startD N_is_sequence ds) μ := by
  rintro ds μ Q ⟨d, xs, rfl, rfl | rfl, k⟩
  · show w_is_sequence K c _ [some (.lst xs)] μ
    unfold w_is_sequence
    walk_at "dx"
    refine ⟨by decide, _, _, rfl, rfl, _, rfl, ret_eq ?_⟩
    exact k
  · show w_is_sequence K c _ [some (.tup xs)] μ
    unfold w_is_sequence
    walk_at "dx"
    refine ⟨by decide, _, _, rfl, rfl, _, rfl, ret_eq ?_⟩
    exact k

theorem cal_is_sequence (T : Txt K mg c) : DCal P w K mg base 1 "is_sequence" (sp_is_sequence c) [] := T.f_is_sequence.cal (ps := ["value"]) sc_is_sequence (len_is_sequence c) (fun cdv A outer s H E hr => dv_is_sequence T cdv A outer s H E hr) (rd_is_sequence K c) fun _ _ _ _ _ _ us hl => match us, hl with | [_], _ => rfl
end

def sp_is_stick (c : Cs) : DSp := fun ds μ Q => ∃ bs : List Bool, ds = [.str (stk bs)] ∧ bs ≠ [] ∧ bs.length ≤ 100000 ∧ Q (.bl true) μ
theorem len_is_stick (c : Cs) : ∀ ds μ Q, sp_is_stick c ds μ Q → ds.length = 1 := by
  rintro ds μ Q ⟨bs, rfl, _⟩
  rfl

def w_is_stick (K : PySem.W.Frag) (c : Cs) : WS := wRet (wAndV (wCB oIsi (wACons (wVar 0) (wACons (wC (.ty "str")) (wANil)))) (wAndV (wOp oGt (wCB oLen (wACons (wVar 0) (wANil))) (wC (.int 0))) (wCB oAll (wACons (wLc (wiSeq (wVar 0)) (wgName 1) (wYes) (wOp oIn (wVar 1) (wTup (wACons (wC (.str ".")) (wACons (wC (.str "x")) (wANil))))) [1]) (wANil)))))
section
variable {P : Program} {w : World} {K : PySem.W.Frag} {mg : Str → Option Value} {base : Heap} {c : Cs}
theorem dv_is_stick (T : Txt K mg c) {f : Addr} (cdv : Value) (A : Around) (outer : List PySem.Env) (s : Shared) (H : Hp) (E : XK) (hr : Room 0 (A.deeper (PyProof.Rows.envOfC "is_stick" (defScope s_is_stick) s.heap.objs.size f cdv))) : DSs (cxOf CX0 P w K mg base N_is_stick "is_stick" (defScope s_is_stick) f cdv A outer s H E).nox (defBody s_is_stick) (w_is_stick K c) := by
  have ND := sc_is_stick.nd
  have hu := hu_of hr
  have hu64 := hr.units
  have hu65 := units65 hr
  exact dss_one (ds_ret (de_and (de_callB cs_isi rfl T.b_isinstance (by decide +kernel) (da_cons (de_var (pv 0)) (da_cons (de_ty (n := "str") rfl T.b_str (by decide +kernel)) (da_nil)))) (de_and (de_cmp os_gt (de_callB cs_len rfl T.b_len (by decide +kernel) (da_cons (de_var (pv 0)) (da_nil))) (de_int) (nomark _)) (de_one (de_callB (cs_all rfl) rfl T.b_all (by decide +kernel) (da_cons (de_lc (own := [("sign", 1)]) (g := gName 1) rfl ND (di_seq (de_var (pv 0))) (blkOk_by (own := [("sign", 1)]) (N := N_is_stick) (sc := defScope s_is_stick) (by decide +kernel)) (gp_name (by decide)) (fun _ _ _ _ _ => pg_name (i := 1) ND rfl (by first | exact Or.inl rfl | exact Or.inr rfl)) (fun _ _ _ _ _ => dts_nil) (fun _ _ _ _ _ => de_cmp os_in (de_var (pv 1)) (de_tup (da_cons (de_gs T.c_PLAIN) (da_cons (de_gs T.c_NOTCHED) (da_nil)))) (by rfl))) (da_nil)))))))

theorem rd_is_stick (K : PySem.W.Frag) (c : Cs) : ∀ ds μ Q, sp_is_stick c ds μ Q → w_is_stick K c { nx := fun _ μ' => ∃ μ2, Sub μ2 μ' ∧ Q .non μ2, rt := Q } (startD N_is_stick ds) μ := by
  rintro ds μ Q ⟨bs, rfl, hne, hz, q⟩
  show w_is_stick K c _ [some (.str (stk bs)), none] μ
  have hl : 0 < bs.length := List.length_pos_iff.mpr hne
  unfold w_is_stick
  walk_at "dx"
  simp only [stk_nil, stk_p, stk_x, stk_len, chars_stk]
  have e : decide ((0 : Int) < (bs.length : Int)) = true := by simp; omega
  have hz2 : (bs.map fun b => D.str (stk [b])).length ≤ sizeLine := by rw [List.length_map]; exact le_line (by omega)
  have hz3 : bs.length ≤ sizeLine := le_line (by omega)
  rw [e]
  refine ⟨by decide, hz3, lc_map (fun _ => .bl true) hz2 ?_ ?_⟩
  · intro i d μ' R hd _ hR
    rw [List.getElem?_map] at hd
    cases h : bs[i]? with
    | none => rw [h] at hd; cases hd
    | some b =>
      rw [h] at hd
      cases hd
      walk_at "dx"
      exact ⟨le_line (Nat.le_of_ble_eq_true rfl), rfl, rfl, by rw [in_px b]; exact hR⟩
  · intro L hL
    rw [delS_setS hL]
    have e2 : (some (bs.map fun b => D.str (stk [b])) |>.map (fun l => l.map fun _ => D.bl true)).bind blsD = some (bs.map fun _ => true) := by
      have h := blsD_map (bs.map fun _ => true)
      rw [List.map_map] at h
      show blsD (((bs.map fun b => D.str (stk [b])).map fun _ => D.bl true)) = _
      rw [List.map_map]
      exact h
    have e3 : ((bs.map fun _ => true).all id) = true := by simp
    show match (some ((bs.map fun b => D.str (stk [b])).map fun _ => D.bl true)).bind blsD with | some ns => _ | none => False
    rw [show (some ((bs.map fun b => D.str (stk [b])).map fun _ => D.bl true)).bind blsD = some (bs.map fun _ => true) from e2]
    show ∃ d' μ', Fz (D.bl ((bs.map fun _ => true).all id)) μ d' μ' ∧ Q d' μ'
    rw [e3]
    exact ret_eq q

theorem cal_is_stick (T : Txt K mg c) : DCal P w K mg base 1 "is_stick" (sp_is_stick c) [] := T.f_is_stick.cal (ps := ["value"]) sc_is_stick (len_is_stick c) (fun cdv A outer s H E hr => dv_is_stick T cdv A outer s H E hr) (rd_is_stick K c) fun _ _ _ _ _ _ us hl => match us, hl with | [_], _ => rfl
end
def sp_CheckRule_xinit (c : Cs) : DSp := fun ds μ Q => ∃ (x : Addr) (cs : List (List Bool)) (w : Nat) (d : D), ds = [.ref x, d] ∧ (d = .lst (cs.map sD) ∨ d = .tup (cs.map sD)) ∧ OkR cs w ∧ μ x = some (.ins c.CheckRule []) ∧ Q .non (setS μ x (.ins c.CheckRule [("checks", .tup (cs.map sD)), ("text", .str (ruleT cs))]))
theorem len_CheckRule_xinit (c : Cs) : ∀ ds μ Q, sp_CheckRule_xinit c ds μ Q → ds.length = 2 := by
  rintro ds μ Q ⟨x, cs, w, d, rfl, _⟩
  rfl

def w_CheckRule_xinit_t1 (K : PySem.W.Frag) (c : Cs) : WS := wSeq (wSetF K "checks" (wVar 0) (wCB oTuple (wACons (wVar 1) (wANil)))) (wSetF K "text" (wVar 0) (wBM "str" oJoin (wC (.str " ")) (wACons (wFld K "checks" (wVar 0)) (wANil))))
def w_CheckRule_xinit_b1 (K : PySem.W.Frag) (c : Cs) : WS := wIfS (wOr (wNt (wTrv (wCall (sp_is_stick c) [] (wACons (wVar 3) (wANil))))) (wB (wOp oNe (wCB oLen (wACons (wVar 3) (wANil))) (wCB oLen (wACons (wIx (wVar 1) (wC (.int 0))) (wANil)))))) (wNever) (wNext)
def w_CheckRule_xinit_t2 (K : PySem.W.Frag) (c : Cs) : WS := wSeq (wFor (wiEnum (wVar 1)) (wgTup 2 (wgCons (wgName 2) (wgCons (wgName 3) (wgNil)))) (w_CheckRule_xinit_b1 K c)) (w_CheckRule_xinit_t1 K c)
def w_CheckRule_xinit (K : PySem.W.Frag) (c : Cs) : WS := wSeq (wIfS (wOr (wNt (wTrv (wCall (sp_is_sequence c) [] (wACons (wVar 1) (wANil))))) (wB (wOp oEq (wCB oLen (wACons (wVar 1) (wANil))) (wC (.int 0))))) (wNever) (wNext)) (w_CheckRule_xinit_t2 K c)
section
variable {P : Program} {w : World} {K : PySem.W.Frag} {mg : Str → Option Value} {base : Heap} {c : Cs}
theorem dv_CheckRule_xinit (T : Txt K mg c) {f : Addr} (cdv : Value) (A : Around) (outer : List PySem.Env) (s : Shared) (H : Hp) (E : XK) (hr : Room 1 (A.deeper (PyProof.Rows.envOfC "CheckRule.__init__" (defScope s_CheckRule_xinit) s.heap.objs.size f cdv))) : DSs (cxOf CX0 P w K mg base N_CheckRule_xinit "CheckRule.__init__" (defScope s_CheckRule_xinit) f cdv A outer s H E).nox (defBody s_CheckRule_xinit) (w_CheckRule_xinit K c) := by
  have ND := sc_CheckRule_xinit.nd
  have hu := hu_of hr
  have hu64 := hr.units
  have hu65 := units65 hr
  exact dss_cons (ds_if (dt_w (dw_or (dt_not (dt_tru (de_cal (cal_is_sequence T) hr (by decide) rfl (da_cons (de_var (pv 1)) (da_nil))) (fun _ => rfl))) (dw_or1 (dt_cmp (os_eq hu64) (de_callB cs_len rfl T.b_len (by decide +kernel) (da_cons (de_var (pv 1)) (da_nil))) (de_int) (nomark _))))) (dss_one (ds_never)) (dss_nil)) (dss_cons (ds_for PassesOwn.never rfl (di_enum rfl T.b_enumerate (de_var (pv 1))) (dg_pat (vs := [2, 3]) (g := gTup K 2 (gCons (gName 2) (gCons (gName 3) (gNil)))) (pg_tup rfl (pgs_cons (pg_name (i := 2) ND rfl (by first | exact Or.inl rfl | exact Or.inr rfl)) (pgs_cons (pg_name (i := 3) ND rfl (by first | exact Or.inl rfl | exact Or.inr rfl)) (pgs_nil)))) (gp_tup (gp_cons (gp_name (by decide)) (gp_cons (gp_name (by decide)) (gp_nil))))) (dss_one (ds_if (dt_w (dw_or (dt_not (dt_tru (de_cal (cal_is_stick T) hr (by decide) rfl (da_cons (de_var (pv 3)) (da_nil))) (fun _ => rfl))) (dw_or1 (dt_cmp (os_ne hu64) (de_callB cs_len rfl T.b_len (by decide +kernel) (da_cons (de_var (pv 3)) (da_nil))) (de_callB cs_len rfl T.b_len (by decide +kernel) (da_cons (de_ix hu (de_var (pv 1)) (de_int) (fun _ _ => rfl)) (da_nil))) (nomark _))))) (dss_one (ds_never)) (dss_nil)))) (dss_cons (ds_fld (de_var (pv 0)) (de_callTy cs_tuple rfl T.b_tuple (by decide +kernel) (da_cons (de_var (pv 1)) (da_nil)))) (dss_one (ds_fld (de_var (pv 0)) (de_bm bm_join (de_str) (da_cons (de_fld (de_var (pv 0)) rfl) (da_nil)))))))

theorem sum_w {cs : List (List Bool)} {w : Nat} (h : ∀ b ∈ cs, b.length = w) : ((cs.map stk).map (·.length)).sum = cs.length * w := by
  induction cs with
  | nil => simp
  | cons b r ih =>
    simp only [List.map_cons, List.sum_cons, List.length_cons]
    rw [ih (fun b hb => h b (List.mem_cons_of_mem _ hb)), stk_len, h b List.mem_cons_self, Nat.succ_mul]
    omega
def sp_xinit_l (c : Cs) : DSp := fun ds μ Q => ∃ (x : Addr) (cs : List (List Bool)) (w : Nat), ds = [.ref x, .lst (cs.map sD)] ∧ OkR cs w ∧ μ x = some (.ins c.CheckRule []) ∧ Q .non (setS μ x (.ins c.CheckRule [("checks", .tup (cs.map sD)), ("text", .str (ruleT cs))]))
theorem rd_xinit_l (K : PySem.W.Frag) (c : Cs) (kf : Kf K c) : ∀ ds μ Q, sp_xinit_l c ds μ Q → w_CheckRule_xinit K c { nx := fun _ μ' => ∃ μ2, Sub μ2 μ' ∧ Q .non μ2, rt := Q } (startD N_CheckRule_xinit ds) μ := by
  rintro ds μ Q ⟨x, cs, w, rfl, ok, hx, k⟩
  show w_CheckRule_xinit K c _ [some (.ref x), some (.lst (cs.map sD)), none, none] μ
  have hf := ok.few
  have hw := ok.wl
  have hw0 := ok.wp
  have hc0 := ok.pos
  unfold w_CheckRule_xinit
  walk_at "dx"
  refine ⟨_, _, rfl, .inl rfl, ?_⟩
  walk_at "dx"
  rw [List.length_map]
  rw [if_neg (show ¬ ((cs.length : Int) = 0) by omega)]
  unfold w_CheckRule_xinit_t2
  walk_at "dx"
  have h0 : cs[0]? = some (cf cs 0) := by have := cf_get ok.pos 0; rwa [Nat.zero_mod] at this
  refine for_by (fun i ρ μ' => μ' = μ ∧ ∃ y z, ρ = [some (.ref x), some (.lst (cs.map sD)), y, z]) ⟨rfl, _, _, rfl⟩ ?_ ?_
  · rintro i d ρ μ' hd ⟨rfl, y, z, rfl⟩
    have hi : i < (cs.map sD).length := by have := (List.getElem?_eq_some_iff.mp hd).1; rwa [enumD_length] at this
    rw [List.length_map] at hi
    have hg : (cs.map sD)[i]? = some (sD cs[i]) := by rw [List.getElem?_map, List.getElem?_eq_getElem hi]; rfl
    rw [enumD_get hg] at hd
    cases hd
    have hb := ok.all cs[i] (List.getElem_mem hi)
    have hb0 := ok.all _ (cf_mem ok.pos 0)
    walk_at "dx"
    refine ⟨rfl, ?_⟩
    unfold w_CheckRule_xinit_b1 sD
    walk_at "dx"
    refine ⟨cs[i], rfl, by rintro h; rw [h] at hb; simp at hb; omega, by omega, ?_⟩
    walk_at "dx"
    have e : atI (cs.map fun bs => D.str (stk bs)) 0 = some (.str (stk (cf cs 0))) := atI_nat (j := 0) (by rw [List.getElem?_map, h0]; rfl)
    rw [e]
    dsimp only
    rw [stk_len, stk_len, hb, hb0]
    simp only [decide_true, Bool.not_true, Bool.false_eq_true, if_false, okLen, stk_len]
    exact ⟨le_line (by omega), le_line (by omega), _, _, rfl⟩
  · rintro ρ μ' ⟨rfl, y, z, rfl⟩
    unfold w_CheckRule_xinit_t1
    simp only [wSeq, wSetF]
    walk_at "dx"
    simp only [hx]
    refine ⟨kf.o_CheckRule_checks, by decide, ?_⟩
    simp only [wSetF, wBM, wC, wACons, wFld, wVar, getD_z, getD_s, insD, setS_same, wANil, tyM_str, true_and, put, look, if_true]
    refine ⟨kf.o_CheckRule_checks, ?_⟩
    have e : strsD (cs.map sD) = some (cs.map stk) := by
      have h := strsD_map (cs.map stk)
      rw [List.map_map] at h
      exact h
    refine ⟨_, e, ?_, ?_⟩
    · rw [sum_w ok.all, List.length_map]
      have h1 := Nat.mul_le_mul hf hw
      have h2 : cs.length * Str.length " " ≤ 100 * 1 := Nat.mul_le_mul hf (by decide)
      omega
    · have e2 : (("checks" : Str) = "text") = False := by decide +kernel
      refine ⟨kf.o_CheckRule_text, by simp, end_eq ?_⟩
      simp only [e2, if_false, setS_setS]
      exact k
def sp_xinit_t (c : Cs) : DSp := fun ds μ Q => ∃ (x : Addr) (cs : List (List Bool)) (w : Nat), ds = [.ref x, .tup (cs.map sD)] ∧ OkR cs w ∧ μ x = some (.ins c.CheckRule []) ∧ Q .non (setS μ x (.ins c.CheckRule [("checks", .tup (cs.map sD)), ("text", .str (ruleT cs))]))
theorem rd_xinit_t (K : PySem.W.Frag) (c : Cs) (kf : Kf K c) : ∀ ds μ Q, sp_xinit_t c ds μ Q → w_CheckRule_xinit K c { nx := fun _ μ' => ∃ μ2, Sub μ2 μ' ∧ Q .non μ2, rt := Q } (startD N_CheckRule_xinit ds) μ := by
  rintro ds μ Q ⟨x, cs, w, rfl, ok, hx, k⟩
  show w_CheckRule_xinit K c _ [some (.ref x), some (.tup (cs.map sD)), none, none] μ
  have hf := ok.few
  have hw := ok.wl
  have hw0 := ok.wp
  have hc0 := ok.pos
  unfold w_CheckRule_xinit
  walk_at "dx"
  refine ⟨_, _, rfl, .inr rfl, ?_⟩
  walk_at "dx"
  rw [List.length_map]
  rw [if_neg (show ¬ ((cs.length : Int) = 0) by omega)]
  unfold w_CheckRule_xinit_t2
  walk_at "dx"
  have h0 : cs[0]? = some (cf cs 0) := by have := cf_get ok.pos 0; rwa [Nat.zero_mod] at this
  refine for_by (fun i ρ μ' => μ' = μ ∧ ∃ y z, ρ = [some (.ref x), some (.tup (cs.map sD)), y, z]) ⟨rfl, _, _, rfl⟩ ?_ ?_
  · rintro i d ρ μ' hd ⟨rfl, y, z, rfl⟩
    have hi : i < (cs.map sD).length := by have := (List.getElem?_eq_some_iff.mp hd).1; rwa [enumD_length] at this
    rw [List.length_map] at hi
    have hg : (cs.map sD)[i]? = some (sD cs[i]) := by rw [List.getElem?_map, List.getElem?_eq_getElem hi]; rfl
    rw [enumD_get hg] at hd
    cases hd
    have hb := ok.all cs[i] (List.getElem_mem hi)
    have hb0 := ok.all _ (cf_mem ok.pos 0)
    walk_at "dx"
    refine ⟨rfl, ?_⟩
    unfold w_CheckRule_xinit_b1 sD
    walk_at "dx"
    refine ⟨cs[i], rfl, by rintro h; rw [h] at hb; simp at hb; omega, by omega, ?_⟩
    walk_at "dx"
    have e : atI (cs.map fun bs => D.str (stk bs)) 0 = some (.str (stk (cf cs 0))) := atI_nat (j := 0) (by rw [List.getElem?_map, h0]; rfl)
    rw [e]
    dsimp only
    rw [stk_len, stk_len, hb, hb0]
    simp only [decide_true, Bool.not_true, Bool.false_eq_true, if_false, okLen, stk_len]
    exact ⟨le_line (by omega), le_line (by omega), _, _, rfl⟩
  · rintro ρ μ' ⟨rfl, y, z, rfl⟩
    unfold w_CheckRule_xinit_t1
    simp only [wSeq, wSetF]
    walk_at "dx"
    simp only [hx]
    refine ⟨kf.o_CheckRule_checks, by decide, ?_⟩
    simp only [wSetF, wBM, wC, wACons, wFld, wVar, getD_z, getD_s, insD, setS_same, wANil, tyM_str, true_and, put, look, if_true]
    refine ⟨kf.o_CheckRule_checks, ?_⟩
    have e : strsD (cs.map sD) = some (cs.map stk) := by
      have h := strsD_map (cs.map stk)
      rw [List.map_map] at h
      exact h
    refine ⟨_, e, ?_, ?_⟩
    · rw [sum_w ok.all, List.length_map]
      have h1 := Nat.mul_le_mul hf hw
      have h2 : cs.length * Str.length " " ≤ 100 * 1 := Nat.mul_le_mul hf (by decide)
      omega
    · have e2 : (("checks" : Str) = "text") = False := by decide +kernel
      refine ⟨kf.o_CheckRule_text, by simp, end_eq ?_⟩
      simp only [e2, if_false, setS_setS]
      exact k
theorem rd_CheckRule_xinit (K : PySem.W.Frag) (c : Cs) (kf : Kf K c) : ∀ ds μ Q, sp_CheckRule_xinit c ds μ Q → w_CheckRule_xinit K c { nx := fun _ μ' => ∃ μ2, Sub μ2 μ' ∧ Q .non μ2, rt := Q } (startD N_CheckRule_xinit ds) μ := by
  rintro ds μ Q ⟨x, cs, w, d, rfl, rfl | rfl, ok, hx, k⟩
  · exact rd_xinit_l K c kf _ μ Q ⟨x, cs, w, rfl, ok, hx, k⟩
  · exact rd_xinit_t K c kf _ μ Q ⟨x, cs, w, rfl, ok, hx, k⟩

theorem mak_CheckRule_xinit_2 (T : Txt K mg c) : DMak P w K mg base 2 "CheckRule" c.CheckRule (sp_CheckRule_xinit c) [] := by
  have D := T.f_CheckRule_xinit
  exact D.mak T.k_CheckRule sc_CheckRule_xinit (len_CheckRule_xinit c) (fun cdv A outer s H E hr => dv_CheckRule_xinit T cdv A outer s H E hr) (rd_CheckRule_xinit K c T.kf) (fun F => F.binds0 (ps := ["self", "checks"]) fun _ _ _ _ _ _ us hl => match us, hl with | [_, _], _ => rfl) (dvs := []) (.nil) (fun _ => .nil)
end
def sp_law_deal (c : Cs) : DSp := fun ds μ Q => ∃ (ns : List Int) (base : Int), ds = [.scr (ns.map .int), .int base] ∧ (0 ≤ base ∧ base ≤ 1000) ∧ ns.length ≤ 63 ∧ ∀ p q μ', DealAt μ' p q → Dl.Sub μ μ' → Q (.ref p) μ'
theorem len_law_deal (c : Cs) : ∀ ds μ Q, sp_law_deal c ds μ Q → ds.length = 2 := by
  rintro ds μ Q ⟨ns, base, rfl, _⟩
  rfl

theorem cut_ints (ns : List Int) (lo hi : Option Int) : ∃ ms : List Int, cutD (ns.map D.int) lo hi = ms.map D.int ∧ ms.length ≤ ns.length := by
  unfold cutD
  rw [← List.map_drop, ← List.map_take]
  exact ⟨_, rfl, by rw [List.length_take, List.length_drop]; omega⟩
theorem abs_nats (ms : List Int) : (ms.map D.int).map (fun d => match d with | .int z => D.int (if z < 0 then -z else z) | d => d) = (ms.map Int.natAbs).map eNat.enc := by
  rw [List.map_map, List.map_map]
  apply List.map_congr_left
  intro z _
  show D.int (if z < 0 then -z else z) = D.int (z.natAbs : Nat)
  congr 1
  split <;> omega
def bigF (d : D) : Option D := match d with | .int z => if (10 : Int) ^ (18 : Int).toNat ≤ z then some d else none | _ => none
theorem big_nats (as : List Nat) : ∃ bs : List Nat, (as.map eNat.enc).filterMap bigF = bs.map eNat.enc ∧ bs.length ≤ as.length := by
  induction as with
  | nil => exact ⟨[], rfl, Nat.le_refl _⟩
  | cons a r ih =>
    obtain ⟨bs, e, h⟩ := ih
    rw [List.map_cons, List.filterMap_cons]
    by_cases q : (10 : Int) ^ (18 : Int).toNat ≤ (a : Int)
    · have e2 : bigF (eNat.enc a) = some (eNat.enc a) := by show (if (10 : Int) ^ (18 : Int).toNat ≤ (a : Int) then some (D.int (a : Nat)) else none) = _; rw [if_pos q]; rfl
      simp only [e2, e]
      exact ⟨a :: bs, rfl, by simp; omega⟩
    · have e2 : bigF (eNat.enc a) = none := by show (if (10 : Int) ^ (18 : Int).toNat ≤ (a : Int) then some (D.int (a : Nat)) else none) = _; rw [if_neg q]
      simp only [e2, e]
      exact ⟨bs, rfl, by simp; omega⟩

def w_law_deal_t1 (K : PySem.W.Frag) (c : Cs) : WS := wRet (wLstM (wACons (wRevM (wLc (wiSeq (wVar 2)) (wgName 4) (wB (wOp oGe (wVar 4) (wOp oPow (wC (.int 10)) (wC (.int 18))))) (wVar 4) [4])) (wACons (wVar 3) (wANil))))
def w_law_deal_b1 (K : PySem.W.Frag) (c : Cs) : WS := wAsg (wOp oMod (wCB oInt (wACons (wOp oAdd (wOp oAdd (wOp oMul (wVar 3) (wC (.int 41231))) (wOp oMod (wCB oInt (wACons (wVar 4) (wANil))) (wC (.int 2147483543)))) (wC (.int 17))) (wANil))) (wC (.int 2147483647))) (wgName 3)
def w_law_deal (K : PySem.W.Frag) (c : Cs) : WS := wSeq (wAsg (wLc (wiSeq (wSl (wVar 0) (wPart (wVar 1)) (wPart (wC (.int 56))))) (wgName 4) (wYes) (wCB oAbs (wACons (wVar 4) (wANil))) [4]) (wgName 2)) (wSeq (wAsg (wOp oAdd (wC (.int 49979687)) (wOp oMul (wC (.int 37)) (wVar 1))) (wgName 3)) (wSeq (wFor (wiSeq (wVar 2)) (wgName 4) (w_law_deal_b1 K c)) (w_law_deal_t1 K c)))
section
variable {P : Program} {w : World} {K : PySem.W.Frag} {mg : Str → Option Value} {base : Heap} {c : Cs}
theorem dv_law_deal (T : Txt K mg c) {f : Addr} (cdv : Value) (A : Around) (outer : List PySem.Env) (s : Shared) (H : Hp) (E : XK) (hr : Room 0 (A.deeper (PyProof.Rows.envOfC "_law_deal" (defScope s_law_deal) s.heap.objs.size f cdv))) : DSs (cxOf CX0 P w K mg base N_law_deal "_law_deal" (defScope s_law_deal) f cdv A outer s H E).nox (defBody s_law_deal) (w_law_deal K c) := by
  have ND := sc_law_deal.nd
  have hu := hu_of hr
  have hu64 := hr.units
  have hu65 := units65 hr
  exact dss_cons (ds_setLc (i := 2) (own := [("_law_cell", 4)]) (g := gName 4) rfl ND rfl rfl (sw_true rfl rfl rfl (by decide +kernel)) (di_seq (de_sl (de_var (pv 0)) (dp_some (de_var (pv 1))) (dp_some (de_int)))) (blkOk_by (own := [("_law_cell", 4)]) (N := N_law_deal) (sc := defScope s_law_deal) (by decide +kernel)) (gp_name (by decide)) (fun _ _ _ _ _ => pg_name (i := 4) ND rfl (by first | exact Or.inl rfl | exact Or.inr rfl)) (fun _ _ _ _ _ => dts_nil) (fun _ _ _ _ _ => de_callB cs_abs rfl T.b_abs (by decide +kernel) (da_cons (de_var (pv 4)) (da_nil)))) (dss_cons (ds_set (i := 3) ND rfl (Or.inl rfl) (de_op os_add (de_int) (de_op os_mul (de_int) (de_var (pv 1))))) (dss_cons (ds_for PassesOwn.never rfl (di_seq (de_var (pv 2))) (dg_pat (vs := [4]) (g := gName 4) (pg_name (i := 4) ND rfl (by first | exact Or.inl rfl | exact Or.inr rfl)) (gp_name (by decide))) (dss_one (ds_set (i := 3) ND rfl (Or.inl rfl) (de_op os_mod (de_callTy cs_int rfl T.b_int (by decide +kernel) (da_cons (de_op os_add (de_op os_add (de_op os_mul (de_var (pv 3)) (de_int)) (de_op os_mod (de_callTy cs_int rfl T.b_int (by decide +kernel) (da_cons (de_var (pv 4)) (da_nil))) (de_int))) (de_int)) (da_nil))) (de_int))))) (dss_one (ds_ret (de_lstM (da_cons (de_revM (de_lc (own := [("_law_cell", 4)]) (g := gName 4) rfl ND (di_seq (de_var (pv 2))) (blkOk_by (own := [("_law_cell", 4)]) (N := N_law_deal) (sc := defScope s_law_deal) (by decide +kernel)) (gp_name (by decide)) (fun _ _ _ _ _ => pg_name (i := 4) ND rfl (by first | exact Or.inl rfl | exact Or.inr rfl)) (fun _ _ _ _ _ => dts_one (dt_cmp os_ge (de_var (pv 4)) (de_op os_pow (de_int) (de_int)) (nomark _))) (fun _ _ _ _ _ => de_var (pv 4)))) (da_cons (de_var (pv 3)) (da_nil))))))))
theorem rd_law_deal (K : PySem.W.Frag) (c : Cs) : ∀ ds μ Q, sp_law_deal c ds μ Q → w_law_deal K c { nx := fun _ μ' => ∃ μ2, Sub μ2 μ' ∧ Q .non μ2, rt := Q } (startD N_law_deal ds) μ := by
  rintro ds μ Q ⟨ns, base, rfl, hb, hl, k⟩
  show w_law_deal K c _ [some (.scr (ns.map .int)), some (.int base), none, none, none] μ
  obtain ⟨ms, hms, hml⟩ := cut_ints ns (some base) (some 56)
  unfold w_law_deal
  walk_at "dx"
  rw [hms]
  have hz : (ms.map D.int).length ≤ sizeLine := by rw [List.length_map]; exact le_line (by omega)
  refine lc_map (fun d => match d with | .int z => .int (if z < 0 then -z else z) | d => d) hz ?_ ?_
  · intro i d μ' R hd _ hR
    rw [List.getElem?_map] at hd
    cases h : ms[i]? with
    | none => rw [h] at hd; cases hd
    | some z =>
      rw [h] at hd
      cases hd
      walk_at "dx"
      exact hR
  · intro L hL
    rw [delS_setS hL, abs_nats]
    generalize has : ms.map Int.natAbs = as
    have hal : as.length ≤ 63 := by rw [← has, List.length_map]; omega
    refine ⟨.inl (by decide), for_by (fun i ρ μ' => μ' = μ ∧ ∃ (b : Nat) (z : Option D), ρ = [some (.scr (ns.map .int)), some (.int base), some (.lst (as.map eNat.enc)), some (.int b), z]) ⟨rfl, (49979687 + 37 * base).toNat, none, by rw [show (((49979687 + 37 * base).toNat : Nat) : Int) = 49979687 + 37 * base by omega]⟩ ?_ ?_⟩
    · rintro i d ρ μ' hd ⟨rfl, b, z, rfl⟩
      rw [List.getElem?_map] at hd
      cases h : as[i]? with
      | none => rw [h] at hd; cases hd
      | some a =>
        rw [h] at hd
        cases hd
        show (wgName 4) (.int (a : Nat)) _ _ _
        walk_at "dx"
        unfold w_law_deal_b1
        walk_at "dx"
        refine ⟨.inr (by decide), by decide, by decide, ?_⟩
        obtain ⟨y, hy⟩ : ∃ y : Nat, ((b : Int) * 41231 + (a : Int) % 2147483543 + 17) % 2147483647 = (y : Nat) := ⟨(((b : Int) * 41231 + (a : Int) % 2147483543 + 17) % 2147483647).toNat, by omega⟩
        rw [hy]
        exact ⟨y, _, rfl⟩
    · rintro ρ μ' ⟨rfl, b, z, rfl⟩
      unfold w_law_deal_t1
      walk_at "dx"
      have hz2 : (as.map eNat.enc).length ≤ sizeLine := by rw [List.length_map]; exact le_line (by omega)
      obtain ⟨gs, hg, hgl⟩ := big_nats as
      refine lc_fmap bigF hz2 ?_ ?_
      · intro i d μ2 R R' hd _ hR hR'
        rw [List.getElem?_map] at hd
        cases h : as[i]? with
        | none => rw [h] at hd; cases hd
        | some a =>
          rw [h] at hd
          cases hd
          show (wgName 4) (.int (a : Nat)) _ _ _
          walk_at "dx"
          refine ⟨by decide, ?_⟩
          by_cases q : (10 : Int) ^ (18 : Int).toNat ≤ (a : Int)
          · rw [if_pos q]
            exact hR _ (by show (if (10 : Int) ^ (18 : Int).toNat ≤ (a : Int) then some (D.int (a : Nat)) else none) = _; rw [if_pos q])
          · rw [if_neg q]
            exact hR' (by show (if (10 : Int) ^ (18 : Int).toNat ≤ (a : Int) then some (D.int (a : Nat)) else none) = _; rw [if_neg q])
      · intro L2 hL2
        rw [delS_setS hL2, hg]
        intro q hq
        refine ⟨le_line (Nat.le_of_ble_eq_true rfl), fun p hp => ?_⟩
        have hpq : p ≠ q := by rintro rfl; rw [setS_same] at hp; cases hp
        have hp0 : μ' p = none := by rw [setS_ne hpq] at hp; exact hp
        refine ret_eq (k p q _ ⟨hpq, gs.reverse, b, setS_same, by rw [setS_ne (Ne.symm hpq), setS_same, List.map_reverse], by simp; omega⟩ fun a d h => ?_)
        have h1 : a ≠ p := by rintro rfl; rw [hp0] at h; cases h
        have h2 : a ≠ q := by rintro rfl; rw [hq] at h; cases h
        rw [setS_ne h1, setS_ne h2]
        exact h

theorem cal_law_deal (T : Txt K mg c) : DCal P w K mg base 1 "_law_deal" (sp_law_deal c) [] := T.f_law_deal.cal (ps := ["_law_script", "_law_base"]) sc_law_deal (len_law_deal c) (fun cdv A outer s H E hr => dv_law_deal T cdv A outer s H E hr) (rd_law_deal K c) fun _ _ _ _ _ _ us hl => match us, hl with | [_, _], _ => rfl
end
def sp_law_draw (c : Cs) : DSp := fun ds μ Q => ∃ (p q : Addr) (n : Nat), ds = [.ref p, .int n] ∧ DealAt μ p q ∧ (0 < n ∧ n < 1000000) ∧ ∀ (r : Nat) μ', r < n → DealAt μ' p q → Mut2 p q μ μ' → Q (.int r) μ'
theorem len_law_draw (c : Cs) : ∀ ds μ Q, sp_law_draw c ds μ Q → ds.length = 2 := by
  rintro ds μ Q ⟨p, q, n, rfl, _⟩
  rfl

def w_law_draw_t1 (K : PySem.W.Frag) (c : Cs) : WS := wSeq (wAsg (wOp oMod (wCB oInt (wACons (wOp oAdd (wOp oMul (wIx (wVar 0) (wC (.int 1))) (wC (.int 41231))) (wC (.int 41))) (wANil))) (wC (.int 2147483647))) (wgSub oSet (wVar 0) (wC (.int 1)))) (wRet (wOp oMod (wCB oInt (wACons (wOp oFdiv (wIx (wVar 0) (wC (.int 1))) (wC (.int 32))) (wANil))) (wVar 1)))
def w_law_draw_t2 (K : PySem.W.Frag) (c : Cs) : WS := wSeq (wIfS (wB (wOp oNe (wIx (wVar 0) (wC (.int 0))) (wLst (wANil)))) (wSeq (wAsg (wBM "list" oPop (wIx (wVar 0) (wC (.int 0))) wANil) (wgName 2)) (wSeq (wDrop (wBM "list" oAppend (wIx (wVar 0) (wC (.int 0))) (wACons (wOp oFdiv (wVar 2) (wVar 1)) (wANil)))) (wRet (wOp oMod (wCB oInt (wACons (wVar 2) (wANil))) (wVar 1))))) (wNext)) (w_law_draw_t1 K c)
def w_law_draw_b1 (K : PySem.W.Frag) (c : Cs) : WS := wDrop (wBM "list" oPop (wIx (wVar 0) (wC (.int 0))) wANil)
def w_law_draw (K : PySem.W.Frag) (c : Cs) : WS := wSeq (wWhile (wAnd (wB (wOp oNe (wIx (wVar 0) (wC (.int 0))) (wLst (wANil)))) (wB (wOp oEq (wIx (wIx (wVar 0) (wC (.int 0))) (wNeg (wC (.int 1)))) (wC (.int 0))))) (w_law_draw_b1 K c)) (w_law_draw_t2 K c)
section
variable {P : Program} {w : World} {K : PySem.W.Frag} {mg : Str → Option Value} {base : Heap} {c : Cs}
theorem dv_law_draw (T : Txt K mg c) {f : Addr} (cdv : Value) (A : Around) (outer : List PySem.Env) (s : Shared) (H : Hp) (E : XK) (hr : Room 0 (A.deeper (PyProof.Rows.envOfC "_law_draw" (defScope s_law_draw) s.heap.objs.size f cdv))) : DSs (cxOf CX0 P w K mg base N_law_draw "_law_draw" (defScope s_law_draw) f cdv A outer s H E).nox (defBody s_law_draw) (w_law_draw K c) := by
  have ND := sc_law_draw.nd
  have hu := hu_of hr
  have hu64 := hr.units
  have hu65 := units65 hr
  exact dss_cons (ds_while PassesOwn.never (dt_w (dw_and (dt_cmp (os_ne hu64) (de_ix hu (de_var (pv 0)) (de_int) (fun _ _ => rfl)) (de_lst (da_nil)) (nomark _)) (dw_and1 (dt_cmp (os_eq hu64) (de_ix hu (de_ix hu (de_var (pv 0)) (de_int) (fun _ _ => rfl)) (de_neg (de_int)) (fun _ _ => rfl)) (de_int) (nomark _))))) (dss_one (ds_expr (de_bm0 bm_pop (de_ix hu (de_var (pv 0)) (de_int) (fun _ _ => rfl)))))) (dss_cons (ds_if (dt_cmp (os_ne hu64) (de_ix hu (de_var (pv 0)) (de_int) (fun _ _ => rfl)) (de_lst (da_nil)) (nomark _)) (dss_cons (ds_set (i := 2) ND rfl (Or.inl rfl) (de_bm0 bm_pop (de_ix hu (de_var (pv 0)) (de_int) (fun _ _ => rfl)))) (dss_cons (ds_expr (de_bm bm_append (de_ix hu (de_var (pv 0)) (de_int) (fun _ _ => rfl)) (da_cons (de_op os_fdiv (de_var (pv 2)) (de_var (pv 1))) (da_nil)))) (dss_one (ds_ret (de_op os_mod (de_callTy cs_int rfl T.b_int (by decide +kernel) (da_cons (de_var (pv 2)) (da_nil))) (de_var (pv 1))))))) (dss_nil)) (dss_cons (ds_asg (de_op os_mod (de_callTy cs_int rfl T.b_int (by decide +kernel) (da_cons (de_op os_add (de_op os_mul (de_ix hu (de_var (pv 0)) (de_int) (fun _ _ => rfl)) (de_int)) (de_int)) (da_nil))) (de_int)) (dg_sub (os_set hu) (de_var (pv 0)) (de_int))) (dss_one (ds_ret (de_op os_mod (de_callTy cs_int rfl T.b_int (by decide +kernel) (da_cons (de_op os_fdiv (de_ix hu (de_var (pv 0)) (de_int) (fun _ _ => rfl)) (de_int)) (da_nil))) (de_var (pv 1)))))))
theorem rd_law_draw (K : PySem.W.Frag) (c : Cs) : ∀ ds μ Q, sp_law_draw c ds μ Q → w_law_draw K c { nx := fun _ μ' => ∃ μ2, Sub μ2 μ' ∧ Q .non μ2, rt := Q } (startD N_law_draw ds) μ := by
  rintro ds μ Q ⟨p, q, n, rfl, ⟨hpq, xs, b, hp, hq, hxl⟩, hn, k⟩
  show w_law_draw K c _ [some (.ref p), some (.int n), none] μ
  unfold w_law_draw
  walk_at "dx"
  refine ⟨fun m ρ μ' => ρ = [some (.ref p), some (.int n), none] ∧ ∃ xs : List Nat, m = xs.length ∧ xs.length ≤ 1000 ∧ μ' p = some (.lst [.ref q, .int b]) ∧ μ' q = some (.lst (xs.map eNat.enc)) ∧ Mut2 p q μ μ', ⟨xs.length, rfl, xs, rfl, hxl, hp, hq, Mut2.refl⟩, ?_⟩
  rintro m ρ μ' ⟨rfl, xs, rfl, hxl', hp', hq', hm⟩
  have tail : ∀ (_ : xs = [] ∨ xs ≠ []), w_law_draw_t2 K c { nx := fun _ μ' => ∃ μ2, Sub μ2 μ' ∧ Q .non μ2, rt := Q } [some (.ref p), some (.int n), none] μ' := by
    intro hx
    unfold w_law_draw_t2
    walk_at "dx"
    simp only [hp', at2_0]
    rw [show oNe (.ref q) (.lst []) μ' = oNe (.ref q) (.lst (([] : List Nat).map eNat.enc)) μ' from rfl, oNe_refL eNat (by decide) hq']
    rcases List.eq_nil_or_concat xs with rfl | ⟨ys, y, rfl⟩
    · walk_at "dx"
      refine ⟨le_line (Nat.le_of_ble_eq_true rfl), ?_⟩
      unfold w_law_draw_t1
      walk_at "dx"
      simp only [hp', at2_1, oAdd_int, ix2_1, List.length_cons, List.length_nil, Nat.zero_add, Nat.reduceAdd, List.set_cons_succ, List.set_cons_zero, setS_same]
      obtain ⟨z, hz⟩ : ∃ z : Nat, ((b : Int) * 41231 + 41) % 2147483647 = (z : Nat) := ⟨(((b : Int) * 41231 + 41) % 2147483647).toNat, by omega⟩
      rw [hz]
      refine ⟨.inr (by decide), by decide, by decide, by omega, ?_⟩
      obtain ⟨r, hr⟩ : ∃ r : Nat, ((z : Int) / 32) % (n : Nat) = (r : Nat) := ⟨(((z : Int) / 32) % (n : Nat)).toNat, by have := em_lo (a := (z : Int) / 32) (b := (n : Int)) (by omega); omega⟩
      rw [hr]
      have hr2 := em_hi (a := (z : Int) / 32) (b := (n : Int)) (by omega)
      refine ret_eq (k r _ (by omega) ⟨hpq, [], z, setS_same, by rw [setS_ne (Ne.symm hpq)]; exact hq', by simp⟩ (hm.trans Mut2.setP))
    · rw [List.concat_eq_append] at hq' ⊢
      have hne : ¬ (ys ++ [y] = []) := by simp
      walk_at "dx"
      refine ⟨le_line (Nat.le_of_ble_eq_true rfl), ?_⟩
      rw [if_pos hne]
      simp only [hp', at2_0]
      refine ⟨.inr (.inl ⟨rfl, _, by rw [seqL, hq']⟩), ?_⟩
      rw [hq']
      refine ⟨.int (y : Nat), by simp [eNat], ?_⟩
      simp only [setS_ne hpq, hp', at2_0]
      refine ⟨.inr (.inl ⟨rfl, _, by rw [seqL, setS_same]⟩), by omega, ?_⟩
      rw [setS_same]
      have hdl : ((ys ++ [y]).map eNat.enc).dropLast = ys.map eNat.enc := by rw [List.map_append]; simp
      obtain ⟨z, hz⟩ : ∃ z : Nat, (y : Int) / (n : Nat) = (z : Nat) := ⟨((y : Int) / (n : Nat)).toNat, by have := Int.ediv_nonneg (show (0 : Int) ≤ (y : Int) by omega) (show (0 : Int) ≤ (n : Int) by omega); omega⟩
      obtain ⟨r, hr⟩ : ∃ r : Nat, (y : Int) % (n : Nat) = (r : Nat) := ⟨((y : Int) % (n : Nat)).toNat, by have := em_lo (a := (y : Int)) (b := (n : Int)) (by omega); omega⟩
      have hr2 := em_hi (a := (y : Int)) (b := (n : Int)) (by omega)
      rw [hdl, hz, hr]
      dsimp only
      have hl2 : ys.length + 1 ≤ 1000 := by simpa using hxl'
      refine ⟨Nat.lt_of_lt_of_le (by rw [List.length_map]; omega : (ys.map eNat.enc).length < 1000) (le_line (by omega)), by omega, ret_eq (k r _ (by omega) ⟨hpq, ys ++ [z], b, by rw [setS_ne hpq, setS_ne hpq]; exact hp', by rw [setS_same, List.map_append]; rfl, by simp; omega⟩ (hm.trans (Mut2.trans Mut2.setQ Mut2.setQ)))⟩
  walk_at "dx"
  simp only [hp', at2_0]
  rw [show oNe (.ref q) (.lst []) μ' = oNe (.ref q) (.lst (([] : List Nat).map eNat.enc)) μ' from rfl, oNe_refL eNat (by decide) hq']
  rcases List.eq_nil_or_concat xs with rfl | ⟨ys, y, rfl⟩
  · walk_at "dx"
    exact ⟨le_line (Nat.le_of_ble_eq_true rfl), tail (.inl rfl)⟩
  · rw [List.concat_eq_append] at hq' ⊢
    have hne : ¬ (ys ++ [y] = []) := by simp
    have tl := tail (.inr (by simp))
    walk_at "dx"
    simp only [hne, not_false_eq_true, if_true, decide_false, Bool.not_false]
    refine ⟨le_line (Nat.le_of_ble_eq_true rfl), ?_⟩
    simp only [hp', at2_0, hq', last_at, oEq_int]
    split
    · unfold w_law_draw_b1
      walk_at "dx"
      simp only [hp', at2_0, hq']
      have hdl : ((ys ++ [y]).map eNat.enc).dropLast = ys.map eNat.enc := by rw [List.map_append]; simp
      rw [hdl]
      refine ⟨.inr (.inl ⟨rfl, _, by rw [seqL, hq']⟩), .int (y : Nat), by simp [eNat], ys.length, by simp, ys, rfl, by simp at hxl'; omega, by rw [setS_ne hpq]; exact hp', setS_same, hm.trans Mut2.setQ⟩
    · exact tl

theorem cal_law_draw (T : Txt K mg c) : DCal P w K mg base 1 "_law_draw" (sp_law_draw c) [] := T.f_law_draw.cal (ps := ["_law_deal_here", "_law_bound"]) sc_law_draw (len_law_draw c) (fun cdv A outer s H E hr => dv_law_draw T cdv A outer s H E hr) (rd_law_draw K c) fun _ _ _ _ _ _ us hl => match us, hl with | [_, _], _ => rfl
end
def sp_law_put (c : Cs) : DSp := fun ds μ Q => ∃ (cs : List (List Bool)) (w : Nat) (bs : List Bool), ds = [.lst (cs.map sD), .str (stk bs)] ∧ OkR cs w ∧ bs.length ≤ 1000 ∧ Q (.str (stk (putS cs bs))) μ
theorem len_law_put (c : Cs) : ∀ ds μ Q, sp_law_put c ds μ Q → ds.length = 2 := by
  rintro ds μ Q ⟨cs, w, bs, rfl, _⟩
  rfl

def w_law_put (K : PySem.W.Frag) (c : Cs) : WS := wRet (wOp oAdd (wVar 1) (wIx (wVar 0) (wOp oMod (wBM "str" oCount (wVar 1) (wACons (wC (.str ".")) (wANil))) (wCB oLen (wACons (wVar 0) (wANil))))))
section
variable {P : Program} {w : World} {K : PySem.W.Frag} {mg : Str → Option Value} {base : Heap} {c : Cs}
theorem dv_law_put (T : Txt K mg c) {f : Addr} (cdv : Value) (A : Around) (outer : List PySem.Env) (s : Shared) (H : Hp) (E : XK) (hr : Room 0 (A.deeper (PyProof.Rows.envOfC "_law_put" (defScope s_law_put) s.heap.objs.size f cdv))) : DSs (cxOf CX0 P w K mg base N_law_put "_law_put" (defScope s_law_put) f cdv A outer s H E).nox (defBody s_law_put) (w_law_put K c) := by
  have ND := sc_law_put.nd
  have hu := hu_of hr
  have hu64 := hr.units
  have hu65 := units65 hr
  exact dss_one (ds_ret (de_op os_add (de_var (pv 1)) (de_ix hu (de_var (pv 0)) (de_op os_mod (de_bm bm_count (de_var (pv 1)) (da_cons (de_str) (da_nil))) (de_callB cs_len rfl T.b_len (by decide +kernel) (da_cons (de_var (pv 0)) (da_nil)))) (fun _ _ => rfl))))
theorem rd_law_put (K : PySem.W.Frag) (c : Cs) : ∀ ds μ Q, sp_law_put c ds μ Q → w_law_put K c { nx := fun _ μ' => ∃ μ2, Sub μ2 μ' ∧ Q .non μ2, rt := Q } (startD N_law_put ds) μ := by
  rintro ds μ Q ⟨cs, w, bs, rfl, ok, hz, k⟩
  show w_law_put K c _ [some (.lst (cs.map sD)), some (.str (stk bs))] μ
  have hw := ok.wl
  have hc0 := ok.pos
  have h1 := ok.all _ (cf_mem ok.pos (bs.length - cnt bs))
  unfold w_law_put
  walk_at "dx"
  simp only [tyM_str, true_and, stk_p, count_p]
  rw [List.length_map, mod_nat]
  rw [atI_nat (j := (bs.length - cnt bs) % cs.length) (v := sD (cf cs (bs.length - cnt bs))) (by rw [List.getElem?_map, cf_get ok.pos]; rfl)]
  unfold sD
  dsimp only
  walk_at "dx"
  rw [stk_len, stk_len, stk_app]
  exact ⟨by omega, le_line (by omega), ret_eq k⟩

theorem cal_law_put (T : Txt K mg c) : DCal P w K mg base 1 "_law_put" (sp_law_put c) [] := T.f_law_put.cal (ps := ["_law_checks", "_law_stick_here"]) sc_law_put (len_law_put c) (fun cdv A outer s H E hr => dv_law_put T cdv A outer s H E hr) (rd_law_put K c) fun _ _ _ _ _ _ us hl => match us, hl with | [_, _], _ => rfl
end
def sp_law_near (c : Cs) : DSp := fun ds μ Q => ∃ (p q : Addr) (bs : List Bool), ds = [.ref p, .str (stk bs)] ∧ bs.length ≤ 100000 ∧ DealAt μ p q ∧ ∀ (cs : List Bool) μ', cs.length = bs.length → DealAt μ' p q → Mut2 p q μ μ' → Q (.str (stk cs)) μ'
theorem len_law_near (c : Cs) : ∀ ds μ Q, sp_law_near c ds μ Q → ds.length = 2 := by
  rintro ds μ Q ⟨p, q, bs, rfl, _⟩
  rfl

def w_law_near_b1 (K : PySem.W.Frag) (c : Cs) : WS := wSeq (wAsg (wCall (sp_law_draw c) [] (wACons (wVar 0) (wACons (wC (.int 6)) (wANil)))) (wgName 4)) (wAsg (wOp oAdd (wVar 2) (wIf (wB (wOp oLt (wVar 4) (wC (.int 2)))) (wC (.str "x")) (wIf (wB (wOp oEq (wVar 4) (wC (.int 2)))) (wC (.str ".")) (wVar 3)))) (wgName 2))
def w_law_near (K : PySem.W.Frag) (c : Cs) : WS := wSeq (wAsg (wC (.str "")) (wgName 2)) (wSeq (wFor (wiSeq (wVar 1)) (wgName 3) (w_law_near_b1 K c)) (wRet (wVar 2)))
section
variable {P : Program} {w : World} {K : PySem.W.Frag} {mg : Str → Option Value} {base : Heap} {c : Cs}
theorem dv_law_near (T : Txt K mg c) {f : Addr} (cdv : Value) (A : Around) (outer : List PySem.Env) (s : Shared) (H : Hp) (E : XK) (hr : Room 1 (A.deeper (PyProof.Rows.envOfC "_law_near" (defScope s_law_near) s.heap.objs.size f cdv))) : DSs (cxOf CX0 P w K mg base N_law_near "_law_near" (defScope s_law_near) f cdv A outer s H E).nox (defBody s_law_near) (w_law_near K c) := by
  have ND := sc_law_near.nd
  have hu := hu_of hr
  have hu64 := hr.units
  have hu65 := units65 hr
  exact dss_cons (ds_set (i := 2) ND rfl (Or.inl rfl) (de_str)) (dss_cons (ds_for PassesOwn.never rfl (di_seq (de_var (pv 1))) (dg_pat (vs := [3]) (g := gName 3) (pg_name (i := 3) ND rfl (by first | exact Or.inl rfl | exact Or.inr rfl)) (gp_name (by decide))) (dss_cons (ds_set (i := 4) ND rfl (Or.inl rfl) (de_cal (cal_law_draw T) hr (by decide) rfl (da_cons (de_var (pv 0)) (da_cons (de_int) (da_nil))))) (dss_one (ds_set (i := 2) ND rfl (Or.inl rfl) (de_op os_add (de_var (pv 2)) (de_if (dt_cmp os_lt (de_var (pv 4)) (de_int) (nomark _)) (de_str) (de_if (dt_cmp (os_eq hu64) (de_var (pv 4)) (de_int) (nomark _)) (de_str) (de_var (pv 3))))))))) (dss_one (ds_ret (de_var (pv 2)))))
theorem rd_law_near (K : PySem.W.Frag) (c : Cs) : ∀ ds μ Q, sp_law_near c ds μ Q → w_law_near K c { nx := fun _ μ' => ∃ μ2, Sub μ2 μ' ∧ Q .non μ2, rt := Q } (startD N_law_near ds) μ := by
  rintro ds μ Q ⟨p, q, bs, rfl, hl, hd, k⟩
  show w_law_near K c _ [some (.ref p), some (.str (stk bs)), none, none, none] μ
  unfold w_law_near
  walk_at "dx"
  rw [chars_stk]
  refine for_by (fun i ρ μ' => i ≤ bs.length ∧ ∃ (cs : List Bool) (y z : Option D), cs.length = i ∧ ρ = [some (.ref p), some (.str (stk bs)), some (.str (stk cs)), y, z] ∧ DealAt μ' p q ∧ Mut2 p q μ μ') ⟨Nat.zero_le _, [], none, none, rfl, by rw [stk_nil], hd, Mut2.refl⟩ ?_ ?_
  · rintro i d ρ μ' hdi ⟨hi, cs, y, z, hcl, rfl, hd', hm⟩
    rw [List.getElem?_map] at hdi
    cases h : bs[i]? with
    | none => rw [h] at hdi; cases hdi
    | some b =>
      rw [h] at hdi
      cases hdi
      have hlt : i < bs.length := (List.getElem?_eq_some_iff.mp h).1
      walk_at "dx"
      unfold w_law_near_b1
      walk_at "dx"
      refine ⟨p, q, 6, rfl, hd', by decide, fun r μ2 hr hd2 hm2 => ?_⟩
      walk_at "dx"
      simp only [stk_p, stk_x]
      have fin : ∀ b' : Bool, (stk cs).length + (stk [b']).length ≤ sizeLine ∧ i + 1 ≤ bs.length ∧ ∃ (cs2 : List Bool) (y z : Option D), cs2.length = i + 1 ∧ [some (D.ref p), some (.str (stk bs)), some (.str (stk cs ++ stk [b'])), some (.str (stk [b])), some (.int (r : Nat))] = [some (.ref p), some (.str (stk bs)), some (.str (stk cs2)), y, z] ∧ DealAt μ2 p q ∧ Mut2 p q μ μ2 := fun b' =>
        ⟨by rw [stk_len, stk_len]; exact le_line (by simp; omega), by omega, cs ++ [b'], _, _, by simp [hcl], by rw [stk_app], hd2, hm.trans hm2⟩
      split
      · exact fin true
      · split
        · exact fin false
        · exact fin b
  · rintro ρ μ' ⟨hi, cs, y, z, hcl, rfl, hd', hm⟩
    walk_at "dx"
    rw [List.length_map] at hcl
    exact ret_eq (k cs _ hcl hd' hm)

theorem cal_law_near (T : Txt K mg c) : DCal P w K mg base 2 "_law_near" (sp_law_near c) [] := T.f_law_near.cal (ps := ["_law_deal_here", "_law_stick_here"]) sc_law_near (len_law_near c) (fun cdv A outer s H E hr => dv_law_near T cdv A outer s H E hr) (rd_law_near K c) fun _ _ _ _ _ _ us hl => match us, hl with | [_, _], _ => rfl
end
def sp_law_pick (c : Cs) : DSp := fun ds μ Q => ∃ (p q : Addr) (xs : List D), ds = [.ref p, .lst xs] ∧ DealAt μ p q ∧ (0 < xs.length ∧ xs.length < 1000000) ∧ ∀ x μ', x ∈ xs → DealAt μ' p q → Mut2 p q μ μ' → Q x μ'
theorem len_law_pick (c : Cs) : ∀ ds μ Q, sp_law_pick c ds μ Q → ds.length = 2 := by
  rintro ds μ Q ⟨p, q, xs, rfl, _⟩
  rfl

def w_law_pick (K : PySem.W.Frag) (c : Cs) : WS := wRet (wIx (wVar 1) (wCall (sp_law_draw c) [] (wACons (wVar 0) (wACons (wCB oLen (wACons (wVar 1) (wANil))) (wANil)))))
section
variable {P : Program} {w : World} {K : PySem.W.Frag} {mg : Str → Option Value} {base : Heap} {c : Cs}
theorem dv_law_pick (T : Txt K mg c) {f : Addr} (cdv : Value) (A : Around) (outer : List PySem.Env) (s : Shared) (H : Hp) (E : XK) (hr : Room 1 (A.deeper (PyProof.Rows.envOfC "_law_pick" (defScope s_law_pick) s.heap.objs.size f cdv))) : DSs (cxOf CX0 P w K mg base N_law_pick "_law_pick" (defScope s_law_pick) f cdv A outer s H E).nox (defBody s_law_pick) (w_law_pick K c) := by
  have ND := sc_law_pick.nd
  have hu := hu_of hr
  have hu64 := hr.units
  have hu65 := units65 hr
  exact dss_one (ds_ret (de_ix hu (de_var (pv 1)) (de_cal (cal_law_draw T) hr (by decide) rfl (da_cons (de_var (pv 0)) (da_cons (de_callB cs_len rfl T.b_len (by decide +kernel) (da_cons (de_var (pv 1)) (da_nil))) (da_nil)))) (fun _ _ => rfl)))
theorem rd_law_pick (K : PySem.W.Frag) (c : Cs) : ∀ ds μ Q, sp_law_pick c ds μ Q → w_law_pick K c { nx := fun _ μ' => ∃ μ2, Sub μ2 μ' ∧ Q .non μ2, rt := Q } (startD N_law_pick ds) μ := by
  rintro ds μ Q ⟨p, q, xs, rfl, hd, hl, k⟩
  show w_law_pick K c _ [some (.ref p), some (.lst xs)] μ
  unfold w_law_pick
  walk_at "dx"
  refine ⟨p, q, xs.length, rfl, hd, ⟨by omega, by omega⟩, fun r μ' hr hd' hm => ?_⟩
  walk_at "dx"
  rw [atI_nat (List.getElem?_eq_getElem hr)]
  exact ret_eq (k _ _ (List.getElem_mem hr) hd' hm)

theorem cal_law_pick (T : Txt K mg c) : DCal P w K mg base 2 "_law_pick" (sp_law_pick c) [] := T.f_law_pick.cal (ps := ["_law_deal_here", "_law_some"]) sc_law_pick (len_law_pick c) (fun cdv A outer s H E hr => dv_law_pick T cdv A outer s H E hr) (rd_law_pick K c) fun _ _ _ _ _ _ us hl => match us, hl with | [_, _], _ => rfl
end
def sp_law_stick (c : Cs) : DSp := fun ds μ Q => ∃ (p q : Addr) (l : Nat), ds = [.ref p, .int l] ∧ l ≤ 100000 ∧ DealAt μ p q ∧ ∀ (bs : List Bool) μ', bs.length = l → DealAt μ' p q → Mut2 p q μ μ' → Q (.str (stk bs)) μ'
theorem len_law_stick (c : Cs) : ∀ ds μ Q, sp_law_stick c ds μ Q → ds.length = 2 := by
  rintro ds μ Q ⟨p, q, l, rfl, _⟩
  rfl

def w_law_stick (K : PySem.W.Frag) (c : Cs) : WS := wRet (wBM "str" oJoin (wC (.str "")) (wACons (wLc (wiRng1 (wACons (wVar 1) (wANil))) (wgName 2) (wYes) (wCall (sp_law_pick c) [] (wACons (wVar 0) (wACons (wLst (wACons (wC (.str ".")) (wACons (wC (.str "x")) (wANil)))) (wANil)))) [2]) (wANil)))
section
variable {P : Program} {w : World} {K : PySem.W.Frag} {mg : Str → Option Value} {base : Heap} {c : Cs}
theorem dv_law_stick (T : Txt K mg c) {f : Addr} (cdv : Value) (A : Around) (outer : List PySem.Env) (s : Shared) (H : Hp) (E : XK) (hr : Room 2 (A.deeper (PyProof.Rows.envOfC "_law_stick" (defScope s_law_stick) s.heap.objs.size f cdv))) : DSs (cxOf CX0 P w K mg base N_law_stick "_law_stick" (defScope s_law_stick) f cdv A outer s H E).nox (defBody s_law_stick) (w_law_stick K c) := by
  have ND := sc_law_stick.nd
  have hu := hu_of hr
  have hu64 := hr.units
  have hu65 := units65 hr
  exact dss_one (ds_ret (de_bm bm_join (de_str) (da_cons (de_lc (own := [("_law_at", 2)]) (g := gName 2) rfl ND (di_range1 rfl T.b_range (da_cons (de_var (pv 1)) (da_nil))) (blkOk_by (own := [("_law_at", 2)]) (N := N_law_stick) (sc := defScope s_law_stick) (by decide +kernel)) (gp_name (by decide)) (fun _ _ _ _ _ => pg_name (i := 2) ND rfl (by first | exact Or.inl rfl | exact Or.inr rfl)) (fun _ _ _ _ _ => dts_nil) (fun _ _ _ _ _ => de_cal (cal_law_pick T) hr (by decide) rfl (da_cons (de_var (pv 0)) (da_cons (de_lst (da_cons (de_str) (da_cons (de_str) (da_nil)))) (da_nil))))) (da_nil))))
theorem rd_law_stick (K : PySem.W.Frag) (c : Cs) : ∀ ds μ Q, sp_law_stick c ds μ Q → w_law_stick K c { nx := fun _ μ' => ∃ μ2, Sub μ2 μ' ∧ Q .non μ2, rt := Q } (startD N_law_stick ds) μ := by
  rintro ds μ Q ⟨p, q, l, rfl, hl, hd, k⟩
  show w_law_stick K c _ [some (.ref p), some (.int l), none] μ
  have hd0 := hd
  obtain ⟨hpq, xs0, b0, hp0, hq0, _⟩ := hd0
  unfold w_law_stick
  walk_at "dx"
  have el : ((l : Int)).toNat = l := by omega
  simp only [stk_nil, stk_p, stk_x, tyM_str, true_and, el]
  refine ⟨by omega, by rw [rng_length]; exact le_line (by omega), fun A hA => ?_⟩
  have hpA : p ≠ A := by rintro rfl; rw [hp0] at hA; cases hA
  have hqA : q ≠ A := by rintro rfl; rw [hq0] at hA; cases hA
  refine ⟨fun i acc μ' => ∃ bs : List Bool, bs.length = i ∧ acc = (bs.map fun b => D.str (stk [b])) ∧ DealAt μ' p q ∧ ∀ a z, a ≠ p → a ≠ q → a ≠ A → μ a = some z → μ' a = some z, ?_, ?_, ?_⟩
  · obtain ⟨_, xs, b, hp, hq, hz⟩ := hd
    exact ⟨[], rfl, rfl, ⟨hpq, xs, b, by rw [setS_ne hpA]; exact hp, by rw [setS_ne hqA]; exact hq, hz⟩, fun a z h1 h2 h3 h4 => by rw [setS_ne h3]; exact h4⟩
  · rintro i e acc μ' he hA' ⟨bs, rfl, rfl, hd', hk⟩
    obtain ⟨hi, rfl⟩ := rng_inv he
    walk_at "dx"
    refine ⟨le_line (Nat.le_of_ble_eq_true rfl), p, q, _, rfl, hd', ⟨by simp, by simp⟩, fun x μ2 hx hd2 hm2 => ?_⟩
    obtain ⟨b, rfl⟩ : ∃ b, x = .str (stk [b]) := by
      simp at hx
      rcases hx with rfl | rfl
      · exact ⟨false, rfl⟩
      · exact ⟨true, rfl⟩
    have hA2 : μ2 A = _ := hm2 A _ (Ne.symm hpA) (Ne.symm hqA) hA'
    obtain ⟨_, xs, b2, hp, hq, hz⟩ := hd2
    refine ⟨hA2, bs ++ [b], by simp, by simp, ⟨hpq, xs, b2, by rw [setS_ne hpA]; exact hp, by rw [setS_ne hqA]; exact hq, hz⟩, fun a z h1 h2 h3 h4 => by rw [setS_ne h3]; exact hm2 a z h1 h2 (hk a z h1 h2 h3 h4)⟩
  · rintro acc μ' hz hA' ⟨bs, hbl, rfl, hd', hk⟩
    rw [rng_length] at hbl
    refine ⟨_, strs_one bs, ?_, ?_⟩
    · rw [lens_one, List.length_map, stk_len, List.length_nil, Nat.mul_zero]; omega
    · rw [join_one]
      obtain ⟨_, xs, b2, hp, hq, hz⟩ := hd'
      refine ret_eq (k bs _ hbl ⟨hpq, xs, b2, by rw [delS_ne hpA]; exact hp, by rw [delS_ne hqA]; exact hq, hz⟩ fun a z h1 h2 h4 => ?_)
      have h3 : a ≠ A := by rintro rfl; rw [hA] at h4; cases h4
      rw [delS_ne h3]
      exact hk a z h1 h2 h3 h4

theorem cal_law_stick (T : Txt K mg c) : DCal P w K mg base 3 "_law_stick" (sp_law_stick c) [] := T.f_law_stick.cal (ps := ["_law_deal_here", "_law_length"]) sc_law_stick (len_law_stick c) (fun cdv A outer s H E hr => dv_law_stick T cdv A outer s H E hr) (rd_law_stick K c) fun _ _ _ _ _ _ us hl => match us, hl with | [_, _], _ => rfl
end
def sp_law_rule (c : Cs) : DSp := fun ds μ Q => ∃ (p q : Addr) (most wide : Nat), ds = [.ref p, .int most, .int wide] ∧ (0 < most ∧ most ≤ 100) ∧ (0 < wide ∧ wide ≤ 100) ∧ DealAt μ p q ∧ ∀ (cs : List (List Bool)) (w : Nat) μ', OkR cs w → cs.length ≤ most → w ≤ wide → DealAt μ' p q → Mut2 p q μ μ' → Q (.lst (cs.map sD)) μ'
theorem len_law_rule (c : Cs) : ∀ ds μ Q, sp_law_rule c ds μ Q → ds.length = 3 := by
  rintro ds μ Q ⟨p, q, most, wide, rfl, _⟩
  rfl

def w_law_rule_t1 (K : PySem.W.Frag) (c : Cs) : WS := wSeq (wIfS (wB (wOp oEq (wVar 6) (wC (.int 1)))) (wSeq (wAsg (wCall (sp_law_draw c) [] (wACons (wVar 0) (wACons (wVar 4) (wANil)))) (wgName 9)) (wAsg (wCall (sp_law_near c) [] (wACons (wVar 0) (wACons (wIx (wVar 7) (wVar 9)) (wANil)))) (wgSub oSet (wVar 7) (wVar 9)))) (wNext)) (wRet (wVar 7))
def w_law_rule_t2 (K : PySem.W.Frag) (c : Cs) : WS := wDrop (wBM "list" oAppend (wVar 7) (wACons (wIf (wB (wOp oLt (wVar 6) (wC (.int 2)))) (wVar 11) (wCall (sp_law_stick c) [] (wACons (wVar 0) (wACons (wVar 5) (wANil))))) (wANil)))
def w_law_rule_b1 (K : PySem.W.Frag) (c : Cs) : WS := wPar 11 10 (wACons (wOp oAdd (wIf (wB (wOp oEq (wOp oMod (wVar 10) (wC (.int 2))) (wC (.int 1)))) (wC (.str "x")) (wC (.str "."))) (wVar 11)) (wACons (wCB oInt (wACons (wOp oFdiv (wVar 10) (wC (.int 2))) (wANil))) (wANil)))
def w_law_rule_b2 (K : PySem.W.Frag) (c : Cs) : WS := wSeq (wPar 10 11 (wACons (wVar 3) (wACons (wC (.str "")) (wANil)))) (wSeq (wFor (wiRng1 (wACons (wVar 5) (wANil))) (wgName 8) (w_law_rule_b1 K c)) (w_law_rule_t2 K c))
def w_law_rule (K : PySem.W.Frag) (c : Cs) : WS := wSeq (wPar 4 5 (wACons (wOp oAdd (wC (.int 1)) (wCall (sp_law_draw c) [] (wACons (wVar 0) (wACons (wVar 1) (wANil))))) (wACons (wOp oAdd (wC (.int 1)) (wCall (sp_law_draw c) [] (wACons (wVar 0) (wACons (wVar 2) (wANil))))) (wANil)))) (wSeq (wPar 6 7 (wACons (wCall (sp_law_draw c) [] (wACons (wVar 0) (wACons (wC (.int 3)) (wANil)))) (wACons (wLstM (wANil)) (wANil)))) (wSeq (wFor (wiRng1 (wACons (wVar 4) (wANil))) (wgName 3) (w_law_rule_b2 K c)) (w_law_rule_t1 K c)))
section
variable {P : Program} {w : World} {K : PySem.W.Frag} {mg : Str → Option Value} {base : Heap} {c : Cs}
theorem dv_law_rule (T : Txt K mg c) {f : Addr} (cdv : Value) (A : Around) (outer : List PySem.Env) (s : Shared) (H : Hp) (E : XK) (hr : Room 3 (A.deeper (PyProof.Rows.envOfC "_law_rule" (defScope s_law_rule) s.heap.objs.size f cdv))) : DSs (cxOf CX0 P w K mg base N_law_rule "_law_rule" (defScope s_law_rule) f cdv A outer s H E).nox (defBody s_law_rule) (w_law_rule K c) := by
  have ND := sc_law_rule.nd
  have hu := hu_of hr
  have hu64 := hr.units
  have hu65 := units65 hr
  exact dss_cons (ds_par (i := 4) (j := 5) rfl ND rfl rfl (by decide) rfl rfl (da_cons (de_op os_add (de_int) (de_cal (cal_law_draw T) hr (by decide) rfl (da_cons (de_var (pv 0)) (da_cons (de_var (pv 1)) (da_nil))))) (da_cons (de_op os_add (de_int) (de_cal (cal_law_draw T) hr (by decide) rfl (da_cons (de_var (pv 0)) (da_cons (de_var (pv 2)) (da_nil))))) (da_nil))) (by rfl)) (dss_cons (ds_par (i := 6) (j := 7) rfl ND rfl rfl (by decide) rfl rfl (da_cons (de_cal (cal_law_draw T) hr (by decide) rfl (da_cons (de_var (pv 0)) (da_cons (de_int) (da_nil)))) (da_cons (de_lstM (da_nil)) (da_nil))) (by rfl)) (dss_cons (ds_for PassesOwn.never rfl (di_range1 rfl T.b_range (da_cons (de_var (pv 4)) (da_nil))) (dg_pat (vs := [3]) (g := gName 3) (pg_name (i := 3) ND rfl (by first | exact Or.inl rfl | exact Or.inr rfl)) (gp_name (by decide))) (dss_cons (ds_par (i := 10) (j := 11) rfl ND rfl rfl (by decide) rfl rfl (da_cons (de_var (pv 3)) (da_cons (de_str) (da_nil))) (by rfl)) (dss_cons (ds_for PassesOwn.never rfl (di_range1 rfl T.b_range (da_cons (de_var (pv 5)) (da_nil))) (dg_pat (vs := [8]) (g := gName 8) (pg_name (i := 8) ND rfl (by first | exact Or.inl rfl | exact Or.inr rfl)) (gp_name (by decide))) (dss_one (ds_par (i := 11) (j := 10) rfl ND rfl rfl (by decide) rfl rfl (da_cons (de_op os_add (de_if (dt_cmp (os_eq hu64) (de_op os_mod (de_var (pv 10)) (de_int)) (de_int) (nomark _)) (de_str) (de_str)) (de_var (pv 11))) (da_cons (de_callTy cs_int rfl T.b_int (by decide +kernel) (da_cons (de_op os_fdiv (de_var (pv 10)) (de_int)) (da_nil))) (da_nil))) (by rfl)))) (dss_one (ds_expr (de_bm bm_append (de_var (pv 7)) (da_cons (de_if (dt_cmp os_lt (de_var (pv 6)) (de_int) (nomark _)) (de_var (pv 11)) (de_cal (cal_law_stick T) hr (by decide) rfl (da_cons (de_var (pv 0)) (da_cons (de_var (pv 5)) (da_nil))))) (da_nil)))))))) (dss_cons (ds_if (dt_cmp (os_eq hu64) (de_var (pv 6)) (de_int) (nomark _)) (dss_cons (ds_set (i := 9) ND rfl (Or.inl rfl) (de_cal (cal_law_draw T) hr (by decide) rfl (da_cons (de_var (pv 0)) (da_cons (de_var (pv 4)) (da_nil))))) (dss_one (ds_asg (de_cal (cal_law_near T) hr (by decide) rfl (da_cons (de_var (pv 0)) (da_cons (de_ix hu (de_var (pv 7)) (de_var (pv 9)) (fun _ _ => rfl)) (da_nil)))) (dg_sub (os_set hu) (de_var (pv 7)) (de_var (pv 9)))))) (dss_nil)) (dss_one (ds_ret (de_var (pv 7)))))))

theorem rd_law_rule_in {K : PySem.W.Frag} {c : Cs} {W : WEnds} {μ : Store} {a b d e f g h i j : Option D} {n : Nat} (hn : n ≤ 1000) (z : Nat)
    (hx : ∀ (bs : List Bool) i' k', bs.length = n → w_law_rule_t2 K c W [a, b, d, e, f, some (.int n), g, h, i', j, k', some (.str (stk bs))] μ) :
    (wSeq (wFor (wiRng1 (wACons (wVar 5) (wANil))) (wgName 8) (w_law_rule_b1 K c)) (w_law_rule_t2 K c)) W [a, b, d, e, f, some (.int n), g, h, i, j, some (.int z), some (.str "")] μ := by
  walk_at "dx"
  have en : ((n : Int)).toNat = n := by omega
  rw [en]
  refine ⟨by omega, for_rng (fun t ρ μ' => t ≤ n ∧ μ' = μ ∧ ∃ (bs : List Bool) (z : Nat) (i' : Option D), bs.length = t ∧ ρ = [a, b, d, e, f, some (.int n), g, h, i', j, some (.int z), some (.str (stk bs))]) ⟨Nat.zero_le _, rfl, [], z, i, rfl, by rw [stk_nil]⟩ ?_ ?_⟩
  · rintro t ρ μ' ht ⟨_, rfl, bs, z, i', hb, rfl⟩
    unfold w_law_rule_b1
    walk_at "dx"
    have ez : (z : Int) / 2 = ((z / 2 : Nat) : Int) := by omega
    simp only [stk_p, stk_x, stk_app, stk_len, ez]
    have hz : ∀ b : Bool, [b].length + bs.length ≤ sizeLine := fun b => by simp; exact le_line (by omega)
    refine ⟨by decide, ?_⟩
    split
    · exact ⟨hz _, by decide, by omega, [true] ++ bs, z / 2, _, by simp; omega, rfl⟩
    · exact ⟨hz _, by decide, by omega, [false] ++ bs, z / 2, _, by simp; omega, rfl⟩
  · rintro ρ μ' ⟨_, rfl, bs, z, i', hb, rfl⟩
    exact hx bs _ _ hb
theorem rd_law_rule (K : PySem.W.Frag) (c : Cs) : ∀ ds μ Q, sp_law_rule c ds μ Q → w_law_rule K c { nx := fun _ μ' => ∃ μ2, Sub μ2 μ' ∧ Q .non μ2, rt := Q } (startD N_law_rule ds) μ := by
  rintro ds μ Q ⟨p, q, most, wide, rfl, hmo, hwi, hd, k⟩
  show w_law_rule K c _ [some (.ref p), some (.int most), some (.int wide), none, none, none, none, none, none, none, none, none] μ
  unfold w_law_rule
  walk_at "dx"
  refine ⟨p, q, most, rfl, hd, by omega, fun r1 μ1 hr1 hd1 hm1 => ?_⟩
  walk_at "dx"
  refine ⟨p, q, wide, rfl, hd1, by omega, fun r2 μ2 hr2 hd2 hm2 => ?_⟩
  walk_at "dx"
  refine ⟨p, q, 3, rfl, hd2, by decide, fun r3 μ3 hr3 hd3 hm3 => ?_⟩
  walk_at "dx"
  obtain ⟨n, hn⟩ : ∃ n, r1 + 1 = n := ⟨_, rfl⟩
  obtain ⟨w, hw⟩ : ∃ w, r2 + 1 = w := ⟨_, rfl⟩
  have e1 : (1 : Int) + (r1 : Nat) = (n : Nat) := by omega
  have e2 : (1 : Int) + (r2 : Nat) = (w : Nat) := by omega
  have en : ((n : Int)).toNat = n := by omega
  rw [e1, e2, en]
  have hm := (hm1.trans hm2).trans hm3
  refine ⟨le_line (Nat.le_of_ble_eq_true rfl), fun F hF => ?_⟩
  have hFp : p ≠ F := by rintro rfl; obtain ⟨_, xs, b, h1, _⟩ := hd3; rw [h1] at hF; cases hF
  have hFq : q ≠ F := by rintro rfl; obtain ⟨_, xs, b, _, h1, _⟩ := hd3; rw [h1] at hF; cases hF
  have hF0 : μ F = none := by cases h : μ F with | none => rfl | some z => rw [hm F z (Ne.symm hFp) (Ne.symm hFq) h] at hF; cases hF
  have dealF : ∀ {μ' : Store} {x : Cell}, DealAt μ' p q → DealAt (setS μ' F x) p q := fun h => by
    obtain ⟨h0, xs, b, h1, h2, h3⟩ := h
    exact ⟨h0, xs, b, by rw [setS_ne hFp]; exact h1, by rw [setS_ne hFq]; exact h2, h3⟩
  have mutF : ∀ {μ' : Store} {x : Cell}, Mut2 p q μ μ' → Mut2 p q μ (setS μ' F x) := fun h a z h1 h2 h3 => by
    have : a ≠ F := by rintro rfl; rw [hF0] at h3; cases h3
    rw [setS_ne this]
    exact h a z h1 h2 h3
  have fin : ∀ (cs : List (List Bool)) (μ' : Store), cs.length = n → (∀ b ∈ cs, b.length = w) → DealAt μ' p q → Mut2 p q μ μ' → μ' F = some (.lst (cs.map sD)) → ∃ d' μ2, Fz (.ref F) μ' d' μ2 ∧ Q d' μ2 := fun cs μ' h1 h2 h3 h4 h5 => by
    refine ⟨_, _, .lst h5 (Dl.Sub.refl _), k cs w _ ⟨by omega, by omega, by omega, by omega, h2⟩ (by omega) (by omega) ?_ ?_⟩
    · obtain ⟨h0, xs, b, h6, h7, h8⟩ := h3
      exact ⟨h0, xs, b, by rw [delS_ne hFp]; exact h6, by rw [delS_ne hFq]; exact h7, h8⟩
    · intro a z g1 g2 g3
      have : a ≠ F := by rintro rfl; rw [hF0] at g3; cases g3
      rw [delS_ne this]
      exact h4 a z g1 g2 g3
  refine ⟨by omega, for_rng (fun i ρ μ' => i ≤ n ∧ DealAt μ' p q ∧ Mut2 p q μ μ' ∧ ∃ (cs : List (List Bool)) (x y u v : Option D), cs.length = i ∧ (∀ b ∈ cs, b.length = w) ∧ μ' F = some (.lst (cs.map sD)) ∧ ρ = [some (.ref p), some (.int most), some (.int wide), x, some (.int n), some (.int w), some (.int r3), some (.ref F), y, none, u, v]) ⟨Nat.zero_le _, dealF hd3, mutF hm, [], none, none, none, none, rfl, by simp, setS_same, rfl⟩ ?_ ?_⟩
  · rintro i ρ μ' hi ⟨_, hd', hm', cs, x, y, u, v, hcl, hcw, hF', rfl⟩
    unfold w_law_rule_b2
    show wPar _ _ _ _ _ _
    simp only [wPar, wACons, wANil, wVar, wC, getD_z, getD_s, set_z, set_s]
    rw [show (0 : Int) + (i : Nat) = (i : Nat) by omega]
    refine rd_law_rule_in (by omega) i fun bs i' k' hbl => ?_
    unfold w_law_rule_t2
    have next : ∀ (bs : List Bool) (μ'' : Store), bs.length = w → DealAt μ'' p q → Mut2 p q μ μ'' → μ'' F = some (.lst (cs.map sD)) →
        (cs.map sD).length < sizeLine ∧ i + 1 ≤ n ∧ DealAt (setS μ'' F (.lst (cs.map sD ++ [sD bs]))) p q ∧ Mut2 p q μ (setS μ'' F (.lst (cs.map sD ++ [sD bs]))) ∧ (∃ cs2 : List (List Bool), cs2.length = i + 1 ∧ (∀ b ∈ cs2, b.length = w) ∧ some (Cell.lst (cs.map sD ++ [sD bs])) = some (Cell.lst (cs2.map sD))) := fun bs μ'' h1 h2 h3 h4 => by
      refine ⟨Nat.lt_of_lt_of_le (show _ < 200 by rw [List.length_map]; omega) (by decide), by omega, dealF h2, mutF h3, cs ++ [bs], by simp [hcl], ?_, ?_⟩
      · intro b hb
        rcases List.mem_append.mp hb with hb | hb
        · exact hcw b hb
        · rw [List.mem_singleton.mp hb]; exact h1
      · rw [List.map_append]; rfl
    walk_at "dx"
    refine ⟨.inr (.inl ⟨rfl, _, by rw [seqL, hF']⟩), ?_⟩
    split
    · simp only [hF']
      obtain ⟨g1, g2, g3, g4, cs2, g5, g6, g7⟩ := next bs μ' hbl hd' hm' hF'
      exact ⟨g1, g2, g3, g4, cs2, _, _, _, _, g5, g6, g7, rfl⟩
    · refine ⟨p, q, w, rfl, by omega, hd', fun bs2 μ4 hb2 hd4 hm4 => ?_⟩
      have hF4 := hm4 F _ (Ne.symm hFp) (Ne.symm hFq) hF'
      simp only [hF4]
      obtain ⟨g1, g2, g3, g4, cs2, g5, g6, g7⟩ := next bs2 μ4 hb2 hd4 (hm'.trans hm4) hF4
      exact ⟨g1, g2, g3, g4, cs2, _, _, _, _, g5, g6, g7, rfl⟩
  · rintro ρ μ' ⟨_, hd', hm', cs, x, y, u, v, hcl, hcw, hF', rfl⟩
    unfold w_law_rule_t1
    walk_at "dx"
    split
    · refine ⟨p, q, n, rfl, hd', by omega, fun r4 μ4 hr4 hd4 hm4 => ?_⟩
      have hF4 := hm4 F _ (Ne.symm hFp) (Ne.symm hFq) hF'
      walk_at "dx"
      simp only [hF4]
      have hr4c : r4 < cs.length := by omega
      rw [atI_nat (j := r4) (v := sD cs[r4]) (by rw [List.getElem?_map, List.getElem?_eq_getElem hr4c]; rfl)]
      dsimp only
      have hb4 := hcw _ (List.getElem_mem hr4c)
      refine ⟨p, q, cs[r4], rfl, by omega, hd4, fun bs5 μ5 hb5 hd5 hm5 => ?_⟩
      have hF5 := hm5 F _ (Ne.symm hFp) (Ne.symm hFq) hF4
      walk_at "dx"
      simp only [hF5]
      have ei : ixN (cs.map sD).length ((r4 : Nat) : Int) = some r4 := by unfold ixN; rw [List.length_map]; simp [hr4c]
      rw [ei]
      refine fin (cs.set r4 bs5) _ (by simp [hcl]) ?_ (dealF hd5) (mutF ((hm'.trans hm4).trans hm5)) ?_
      · intro b hb
        rcases List.mem_or_eq_of_mem_set hb with hb | rfl
        · exact hcw b hb
        · omega
      · rw [setS_same, List.map_set]
        rfl
    · exact fin cs _ hcl hcw hd' hm' hF'

theorem cal_law_rule (T : Txt K mg c) : DCal P w K mg base 4 "_law_rule" (sp_law_rule c) [] := T.f_law_rule.cal (ps := ["_law_deal_here", "_law_most", "_law_wide"]) sc_law_rule (len_law_rule c) (fun cdv A outer s H E hr => dv_law_rule T cdv A outer s H E hr) (rd_law_rule K c) fun _ _ _ _ _ _ us hl => match us, hl with | [_, _, _], _ => rfl
end

def sp_need_stick (c : Cs) : DSp := fun ds μ Q => ∃ bs : List Bool, ds = [.str (stk bs)] ∧ bs ≠ [] ∧ bs.length ≤ 100000 ∧ Q .non μ
theorem len_need_stick (c : Cs) : ∀ ds μ Q, sp_need_stick c ds μ Q → ds.length = 1 := by
  rintro ds μ Q ⟨bs, rfl, _⟩
  rfl

def w_need_stick (K : PySem.W.Frag) (c : Cs) : WS := wIfS (wNt (wTrv (wCall (sp_is_stick c) [] (wACons (wVar 0) (wANil))))) (wNever) (wNext)
section
variable {P : Program} {w : World} {K : PySem.W.Frag} {mg : Str → Option Value} {base : Heap} {c : Cs}
theorem dv_need_stick (T : Txt K mg c) {f : Addr} (cdv : Value) (A : Around) (outer : List PySem.Env) (s : Shared) (H : Hp) (E : XK) (hr : Room 1 (A.deeper (PyProof.Rows.envOfC "need_stick" (defScope s_need_stick) s.heap.objs.size f cdv))) : DSs (cxOf CX0 P w K mg base N_need_stick "need_stick" (defScope s_need_stick) f cdv A outer s H E).nox (defBody s_need_stick) (w_need_stick K c) := by
  have ND := sc_need_stick.nd
  have hu := hu_of hr
  have hu64 := hr.units
  have hu65 := units65 hr
  exact dss_one (ds_if (dt_not (dt_tru (de_cal (cal_is_stick T) hr (by decide) rfl (da_cons (de_var (pv 0)) (da_nil))) (fun _ => rfl))) (dss_one (ds_never)) (dss_nil))
theorem rd_need_stick (K : PySem.W.Frag) (c : Cs) : ∀ ds μ Q, sp_need_stick c ds μ Q → w_need_stick K c { nx := fun _ μ' => ∃ μ2, Sub μ2 μ' ∧ Q .non μ2, rt := Q } (startD N_need_stick ds) μ := by
  rintro ds μ Q ⟨bs, rfl, hne, hz, q⟩
  show w_need_stick K c _ [some (.str (stk bs))] μ
  unfold w_need_stick
  walk_at "dx"
  refine ⟨bs, rfl, hne, hz, ?_⟩
  walk_at "dx"
  exact end_eq q

theorem cal_need_stick (T : Txt K mg c) : DCal P w K mg base 2 "need_stick" (sp_need_stick c) [] := T.f_need_stick.cal (ps := ["value"]) sc_need_stick (len_need_stick c) (fun cdv A outer s H E hr => dv_need_stick T cdv A outer s H E hr) (rd_need_stick K c) fun _ _ _ _ _ _ us hl => match us, hl with | [_], _ => rfl
end
def sp_CheckRule_check_for (c : Cs) : DSp := fun ds μ Q => ∃ (cs : List (List Bool)) (w p : Nat), ds = [ruleD c.CheckRule cs, .int p] ∧ OkR cs w ∧ Q (.str (stk (cf cs p))) μ
theorem len_CheckRule_check_for (c : Cs) : ∀ ds μ Q, sp_CheckRule_check_for c ds μ Q → ds.length = 2 := by
  rintro ds μ Q ⟨cs, w, p, rfl, _⟩
  rfl

def w_CheckRule_check_for (K : PySem.W.Frag) (c : Cs) : WS := wRet (wIx (wFld K "checks" (wVar 0)) (wOp oMod (wVar 1) (wCB oLen (wACons (wFld K "checks" (wVar 0)) (wANil)))))
section
variable {P : Program} {w : World} {K : PySem.W.Frag} {mg : Str → Option Value} {base : Heap} {c : Cs}
theorem dv_CheckRule_check_for (T : Txt K mg c) {f : Addr} (cdv : Value) (A : Around) (outer : List PySem.Env) (s : Shared) (H : Hp) (E : XK) (hr : Room 0 (A.deeper (PyProof.Rows.envOfC "CheckRule.check_for" (defScope s_CheckRule_check_for) s.heap.objs.size f cdv))) : DSs (cxOf CX0 P w K mg base N_CheckRule_check_for "CheckRule.check_for" (defScope s_CheckRule_check_for) f cdv A outer s H E).nox (defBody s_CheckRule_check_for) (w_CheckRule_check_for K c) := by
  have ND := sc_CheckRule_check_for.nd
  have hu := hu_of hr
  have hu64 := hr.units
  have hu65 := units65 hr
  exact dss_one (ds_ret (de_ix hu (de_fld (de_var (pv 0)) rfl) (de_op os_mod (de_var (pv 1)) (de_callB cs_len rfl T.b_len (by decide +kernel) (da_cons (de_fld (de_var (pv 0)) rfl) (da_nil)))) (fun _ _ => rfl)))
theorem rd_CheckRule_check_for (K : PySem.W.Frag) (c : Cs) (kf : Kf K c) : ∀ ds μ Q, sp_CheckRule_check_for c ds μ Q → w_CheckRule_check_for K c { nx := fun _ μ' => ∃ μ2, Sub μ2 μ' ∧ Q .non μ2, rt := Q } (startD N_CheckRule_check_for ds) μ := by
  rintro ds μ Q ⟨cs, w, p, rfl, ok, k⟩
  show w_CheckRule_check_for K c _ [some (ruleD c.CheckRule cs), some (.int p)] μ
  have hc0 := ok.pos
  unfold w_CheckRule_check_for
  walk_at "dx"
  simp only [wFld, wVar, getD_z, ruleD, insD, lk_ch]
  refine ⟨kf.o_CheckRule_checks, ?_⟩
  walk_at "dx"
  refine ⟨kf.o_CheckRule_checks, ?_⟩
  rw [List.length_map, mod_nat]
  rw [atI_nat (j := p % cs.length) (v := sD (cf cs p)) (by rw [List.getElem?_map, cf_get ok.pos]; rfl)]
  exact ⟨by omega, ret_eq k⟩

theorem met_CheckRule_check_for_2 (T : Txt K mg c) : DMet P w K mg base 1 c.CheckRule "check_for" (sp_CheckRule_check_for c) [] := by
  have D := T.f_CheckRule_check_for
  exact D.met T.k_CheckRule.cl sc_CheckRule_check_for (len_CheckRule_check_for c) (fun cdv A outer s H E hr => dv_CheckRule_check_for T cdv A outer s H E hr) (rd_CheckRule_check_for K c T.kf) (fun F => F.binds0 (ps := ["self", "plain"]) fun _ _ _ _ _ _ us hl => match us, hl with | [_, _], _ => rfl) (dvs := []) (.nil) (fun _ => .nil)
end
def sp_CheckRule_put (c : Cs) : DSp := fun ds μ Q => ∃ (cs : List (List Bool)) (w : Nat) (bs : List Bool), ds = [ruleD c.CheckRule cs, .str (stk bs)] ∧ OkR cs w ∧ bs ≠ [] ∧ bs.length ≤ 1000 ∧ Q (.str (stk (putS cs bs))) μ
theorem len_CheckRule_put (c : Cs) : ∀ ds μ Q, sp_CheckRule_put c ds μ Q → ds.length = 2 := by
  rintro ds μ Q ⟨cs, w, bs, rfl, _⟩
  rfl

def w_CheckRule_put (K : PySem.W.Frag) (c : Cs) : WS := wSeq (wDrop (wCall (sp_need_stick c) [] (wACons (wVar 1) (wANil)))) (wRet (wJoin [wFmt (wVar 1), wFmt (wMeth c.CheckRule "check_for" (sp_CheckRule_check_for c) [] (wVar 0) (wACons (wBM "str" oCount (wVar 1) (wACons (wC (.str ".")) (wANil))) (wANil)))]))
section
variable {P : Program} {w : World} {K : PySem.W.Frag} {mg : Str → Option Value} {base : Heap} {c : Cs}
theorem dv_CheckRule_put (T : Txt K mg c) {f : Addr} (cdv : Value) (A : Around) (outer : List PySem.Env) (s : Shared) (H : Hp) (E : XK) (hr : Room 2 (A.deeper (PyProof.Rows.envOfC "CheckRule.put" (defScope s_CheckRule_put) s.heap.objs.size f cdv))) : DSs (cxOf CX0 P w K mg base N_CheckRule_put "CheckRule.put" (defScope s_CheckRule_put) f cdv A outer s H E).nox (defBody s_CheckRule_put) (w_CheckRule_put K c) := by
  have ND := sc_CheckRule_put.nd
  have hu := hu_of hr
  have hu64 := hr.units
  have hu65 := units65 hr
  exact dss_cons (ds_expr (de_cal (cal_need_stick T) hr (by decide) rfl (da_cons (de_var (pv 1)) (da_nil)))) (dss_one (ds_ret (de_joined (.cons (de_fmt (de_var (pv 1))) (.cons (de_fmt (de_met (met_CheckRule_check_for_2 T) hr (by decide) (de_var (pv 0)) (da_cons (de_bm bm_count (de_var (pv 1)) (da_cons (de_gs T.c_PLAIN) (da_nil))) (da_nil)))) (.nil))))))
theorem rd_CheckRule_put (K : PySem.W.Frag) (c : Cs) : ∀ ds μ Q, sp_CheckRule_put c ds μ Q → w_CheckRule_put K c { nx := fun _ μ' => ∃ μ2, Sub μ2 μ' ∧ Q .non μ2, rt := Q } (startD N_CheckRule_put ds) μ := by
  rintro ds μ Q ⟨cs, w, bs, rfl, ok, hne, hz, k⟩
  show w_CheckRule_put K c _ [some (ruleD c.CheckRule cs), some (.str (stk bs))] μ
  have hsl : look [(("checks" : Str), D.tup (cs.map sD)), ("text", .str (ruleT cs))] "check_for" = none := by rfl
  have hw := ok.wl
  have h1 := ok.all _ (cf_mem ok.pos (bs.length - cnt bs))
  unfold w_CheckRule_put
  walk_at "dx"
  refine ⟨bs, rfl, hne, by omega, ?_⟩
  walk_at "dx"
  simp only [wMeth, wVar, getD_z, getD_s, insD, ruleD, hsl, wACons, wANil, true_and, List.cons_append, List.nil_append, wBM, wC, tyM_str]
  simp only [oCount, stk_p, count_p, stk_len, empty_stk]
  refine ⟨le_line (by omega), le_line (by omega), cs, w, _, rfl, ok, ?_⟩
  walk_at "dx"
  simp only [stk_len, stk_app]
  exact ⟨le_line (by omega), le_line (by rw [List.length_append]; omega), ret_eq k⟩

theorem met_CheckRule_put_2 (T : Txt K mg c) : DMet P w K mg base 3 c.CheckRule "put" (sp_CheckRule_put c) [] := by
  have D := T.f_CheckRule_put
  exact D.met T.k_CheckRule.cl sc_CheckRule_put (len_CheckRule_put c) (fun cdv A outer s H E hr => dv_CheckRule_put T cdv A outer s H E hr) (rd_CheckRule_put K c) (fun F => F.binds0 (ps := ["self", "stick"]) fun _ _ _ _ _ _ us hl => match us, hl with | [_, _], _ => rfl) (dvs := []) (.nil) (fun _ => .nil)
end
def sp_CheckRule_xeq (c : Cs) : DSp := fun ds μ Q => (∃ a b : List (List Bool), ds = [ruleD c.CheckRule a, ruleD c.CheckRule b] ∧ Q (.bl (decide (ruleT a = ruleT b))) μ) ∨ ∃ (a : List (List Bool)) (v : D), ds = [ruleD c.CheckRule a, v] ∧ (v = .non ∨ (∃ s, v = .str s) ∨ ∃ xs, v = .tup xs) ∧ Q (.bl false) μ
theorem len_CheckRule_xeq (c : Cs) : ∀ ds μ Q, sp_CheckRule_xeq c ds μ Q → ds.length = 2 := by
  rintro ds μ Q (⟨a, b, rfl, _⟩ | ⟨a, v, rfl, _⟩) <;> rfl

def w_CheckRule_xeq (K : PySem.W.Frag) (c : Cs) : WS := wRet (wAndV (wCB (oIsC2 c.CheckRule) (wACons (wVar 1) (wACons (wC (.ref c.CheckRule)) (wANil)))) (wOp oEq (wFld K "text" (wVar 0)) (wFld K "text" (wVar 1))))
section
variable {P : Program} {w : World} {K : PySem.W.Frag} {mg : Str → Option Value} {base : Heap} {c : Cs}
theorem dv_CheckRule_xeq (T : Txt K mg c) {f : Addr} (cdv : Value) (A : Around) (outer : List PySem.Env) (s : Shared) (H : Hp) (E : XK) (hr : Room 0 (A.deeper (PyProof.Rows.envOfC "CheckRule.__eq__" (defScope s_CheckRule_xeq) s.heap.objs.size f cdv))) : DSs (cxOf CX0 P w K mg base N_CheckRule_xeq "CheckRule.__eq__" (defScope s_CheckRule_xeq) f cdv A outer s H E).nox (defBody s_CheckRule_xeq) (w_CheckRule_xeq K c) := by
  have ND := sc_CheckRule_xeq.nd
  have hu := hu_of hr
  have hu64 := hr.units
  have hu65 := units65 hr
  exact dss_one (ds_ret (de_and (de_callB (cs_isC2 T.io_CheckRule) rfl T.b_isinstance (by decide +kernel) (da_cons (de_var (pv 1)) (da_cons (de_cls T.k_CheckRule) (da_nil)))) (de_one (de_cmp (os_eq hu64) (de_fld (de_var (pv 0)) rfl) (de_fld (de_var (pv 1)) rfl) (nomark _)))))
theorem rd_CheckRule_xeq (K : PySem.W.Frag) (c : Cs) (kf : Kf K c) : ∀ ds μ Q, sp_CheckRule_xeq c ds μ Q → w_CheckRule_xeq K c { nx := fun _ μ' => ∃ μ2, Sub μ2 μ' ∧ Q .non μ2, rt := Q } (startD N_CheckRule_xeq ds) μ := by
  rintro ds μ Q (⟨a, b, rfl, k⟩ | ⟨a, v, rfl, hv, k⟩)
  · show w_CheckRule_xeq K c _ [some (ruleD c.CheckRule a), some (ruleD c.CheckRule b)] μ
    unfold w_CheckRule_xeq
    walk_at "dz"
    refine ⟨_, rfl, .inl ⟨_, rfl, ?_⟩⟩
    unfold ruleD
    walk_at "dz"
    rw [lk_tx]
    refine ⟨kf.o_CheckRule_text, ?_⟩
    walk_at "dz"
    rw [lk_tx]
    refine ⟨kf.o_CheckRule_text, ?_⟩
    walk_at "dz"
    have e : (ruleT a == ruleT b) = decide (ruleT a = ruleT b) := by
      rw [Bool.eq_iff_iff]
      simp
    rw [e]
    exact ret_eq k
  · show w_CheckRule_xeq K c _ [some (ruleD c.CheckRule a), some v] μ
    unfold w_CheckRule_xeq
    walk_at "dz"
    rcases hv with rfl | ⟨s, rfl⟩ | ⟨xs, rfl⟩
    all_goals
      refine ⟨_, rfl, .inr ⟨_, rfl, ?_⟩⟩
      walk_at "dz"
      exact ret_eq k

theorem met_CheckRule_xeq_2 (T : Txt K mg c) : DMet P w K mg base 1 c.CheckRule "__eq__" (sp_CheckRule_xeq c) [] := by
  have D := T.f_CheckRule_xeq
  exact D.met T.k_CheckRule.cl sc_CheckRule_xeq (len_CheckRule_xeq c) (fun cdv A outer s H E hr => dv_CheckRule_xeq T cdv A outer s H E hr) (rd_CheckRule_xeq K c T.kf) (fun F => F.binds0 (ps := ["self", "other"]) fun _ _ _ _ _ _ us hl => match us, hl with | [_, _], _ => rfl) (dvs := []) (.nil) (fun _ => .nil)
end
def sp_CheckRule_xstr (c : Cs) : DSp := fun ds μ Q => ∃ (cs : List (List Bool)) (w : Nat), ds = [ruleD c.CheckRule cs] ∧ OkR cs w ∧ Q (.str (ruleT cs)) μ
theorem len_CheckRule_xstr (c : Cs) : ∀ ds μ Q, sp_CheckRule_xstr c ds μ Q → ds.length = 1 := by
  rintro ds μ Q ⟨cs, w, rfl, _⟩
  rfl

def w_CheckRule_xstr (K : PySem.W.Frag) (c : Cs) : WS := wRet (wFmt (wFld K "text" (wVar 0)))
section
variable {P : Program} {w : World} {K : PySem.W.Frag} {mg : Str → Option Value} {base : Heap} {c : Cs}
theorem dv_CheckRule_xstr (T : Txt K mg c) {f : Addr} (cdv : Value) (A : Around) (outer : List PySem.Env) (s : Shared) (H : Hp) (E : XK) (hr : Room 0 (A.deeper (PyProof.Rows.envOfC "CheckRule.__str__" (defScope s_CheckRule_xstr) s.heap.objs.size f cdv))) : DSs (cxOf CX0 P w K mg base N_CheckRule_xstr "CheckRule.__str__" (defScope s_CheckRule_xstr) f cdv A outer s H E).nox (defBody s_CheckRule_xstr) (w_CheckRule_xstr K c) := by
  have ND := sc_CheckRule_xstr.nd
  have hu := hu_of hr
  have hu64 := hr.units
  have hu65 := units65 hr
  exact dss_one (ds_ret (de_joined1 (de_fmt (de_fld (de_var (pv 0)) rfl))))
theorem rd_CheckRule_xstr (K : PySem.W.Frag) (c : Cs) (kf : Kf K c) : ∀ ds μ Q, sp_CheckRule_xstr c ds μ Q → w_CheckRule_xstr K c { nx := fun _ μ' => ∃ μ2, Sub μ2 μ' ∧ Q .non μ2, rt := Q } (startD N_CheckRule_xstr ds) μ := by
  rintro ds μ Q ⟨cs, w, rfl, ok, k⟩
  show w_CheckRule_xstr K c _ [some (ruleD c.CheckRule cs)] μ
  unfold w_CheckRule_xstr ruleD
  walk_at "dz"
  rw [lk_tx]
  refine ⟨kf.o_CheckRule_text, ?_⟩
  walk_at "dz"
  exact ⟨le_line (by have := ruleT_len ok; omega), ret_eq k⟩

theorem met_CheckRule_xstr_1 (T : Txt K mg c) : DMet P w K mg base 1 c.CheckRule "__str__" (sp_CheckRule_xstr c) [] := by
  have D := T.f_CheckRule_xstr
  exact D.met T.k_CheckRule.cl sc_CheckRule_xstr (len_CheckRule_xstr c) (fun cdv A outer s H E hr => dv_CheckRule_xstr T cdv A outer s H E hr) (rd_CheckRule_xstr K c T.kf) (fun F => F.binds0 (ps := ["self"]) fun _ _ _ _ _ _ us hl => match us, hl with | [_], _ => rfl) (dvs := []) (.nil) (fun _ => .nil)
end

def w_law_t1 (K : PySem.W.Frag) (c : Cs) : WS := wRet (wAndV (wOp oEq (wMeth c.CheckRule "put" (sp_CheckRule_put c) [] (wMake c.CheckRule (sp_CheckRule_xinit c) [] (wACons (wLst (wACons (wC (.str "x")) (wANil))) (wANil))) (wACons (wC (.str ".")) (wANil))) (wC (.str ".x"))) (wOp oEq (wMeth c.CheckRule "put" (sp_CheckRule_put c) [] (wMake c.CheckRule (sp_CheckRule_xinit c) [] (wACons (wLst (wACons (wC (.str ".")) (wACons (wC (.str "x")) (wANil)))) (wANil))) (wACons (wC (.str "..x")) (wANil))) (wC (.str "..x."))))
def w_law_t2 (K : PySem.W.Frag) (c : Cs) : WS := wIfS (wB (wOp oNe (wMeth c.CheckRule "put" (sp_CheckRule_put c) [] (wVar 7) (wACons (wVar 9) (wANil))) (wCall (sp_law_put c) [] (wACons (wVar 5) (wACons (wVar 9) (wANil)))))) (wRet (wC (.bl false))) (wNext)
def w_law_b1 (K : PySem.W.Frag) (c : Cs) : WS := wSeq (wAsg (wCall (sp_law_stick c) [] (wACons (wVar 2) (wACons (wOp oAdd (wC (.int 1)) (wCall (sp_law_draw c) [] (wACons (wVar 2) (wACons (wC (.int 8)) (wANil))))) (wANil)))) (wgName 9)) (wSeq (wIfS (wB (wOp oNe (wMeth c.CheckRule "put" (sp_CheckRule_put c) [] (wVar 7) (wACons (wVar 9) (wANil))) (wCall (sp_law_put c) [] (wACons (wVar 5) (wACons (wVar 9) (wANil)))))) (wRet (wC (.bl false))) (wNext)) (w_law_t2 K c))
def w_law_t3 (K : PySem.W.Frag) (c : Cs) : WS := wSeq (wFor (wiRng1 (wACons (wC (.int 6)) (wANil))) (wgName 8) (w_law_b1 K c)) (wAsg (wVar 7) (wgName 3))
def w_law_t4 (K : PySem.W.Frag) (c : Cs) : WS := wSeq (wIfS (wAnd (wB (wOp oIsNot (wVar 3) (wC .non))) (wB (wOp oNe (wOp (oOwn c.CheckRule (sp_CheckRule_xeq c)) (wVar 7) (wVar 3)) (wOp oEq (wCB (oStrOwn c.CheckRule (sp_CheckRule_xstr c)) (wACons (wVar 7) (wANil))) (wCB (oStrOwn c.CheckRule (sp_CheckRule_xstr c)) (wACons (wVar 3) (wANil))))))) (wRet (wC (.bl false))) (wNext)) (w_law_t3 K c)
def w_law_t5 (K : PySem.W.Frag) (c : Cs) : WS := wSeq (wIfS (wB (wOp (oInOwn c.CheckRule (sp_CheckRule_xeq c)) (wVar 7) (wTup (wACons (wCB (oStrOwn c.CheckRule (sp_CheckRule_xstr c)) (wACons (wVar 7) (wANil))) (wACons (wCB oTuple (wACons (wVar 5) (wANil))) (wACons (wC .non) (wANil))))))) (wRet (wC (.bl false))) (wNext)) (w_law_t4 K c)
def w_law_t6 (K : PySem.W.Frag) (c : Cs) : WS := wSeq (wIfS (wB (wOp (oOwnNe c.CheckRule (sp_CheckRule_xeq c)) (wVar 7) (wMake c.CheckRule (sp_CheckRule_xinit c) [] (wACons (wCB oTuple (wACons (wVar 5) (wANil))) (wANil))))) (wRet (wC (.bl false))) (wNext)) (w_law_t5 K c)
def w_law_t7 (K : PySem.W.Frag) (c : Cs) : WS := wSeq (wIfS (wB (wOp oNe (wCB (oStrOwn c.CheckRule (sp_CheckRule_xstr c)) (wACons (wVar 7) (wANil))) (wBM "str" oJoin (wC (.str " ")) (wACons (wVar 5) (wANil))))) (wRet (wC (.bl false))) (wNext)) (w_law_t6 K c)
def w_law_t8 (K : PySem.W.Frag) (c : Cs) : WS := wSeq (wDrop (wBM "list" oAppend (wVar 6) (wACons (wC (.str "x")) (wANil)))) (wSeq (wIfS (wB (wOp oNe (wCB oReprA (wACons (wFld K "checks" (wVar 7)) (wANil))) (wCB oReprA (wACons (wCB oTuple (wACons (wVar 5) (wANil))) (wANil))))) (wRet (wC (.bl false))) (wNext)) (w_law_t7 K c))
def w_law_b2 (K : PySem.W.Frag) (c : Cs) : WS := wSeq (wAsg (wCall (sp_law_rule c) [] (wACons (wVar 2) (wACons (wC (.int 6)) (wACons (wC (.int 4)) (wANil))))) (wgName 5)) (wSeq (wAsg (wCB oListM (wACons (wVar 5) (wANil))) (wgName 6)) (wSeq (wAsg (wIf (wB (wOp oEq (wOp oMod (wVar 4) (wC (.int 2))) (wC (.int 0)))) (wThv 6 (wMake c.CheckRule (sp_CheckRule_xinit c) [] (wACons (wVar 6) (wANil)))) (wMake c.CheckRule (sp_CheckRule_xinit c) [] (wACons (wCB oTuple (wACons (wVar 5) (wANil))) (wANil)))) (wgName 7)) (w_law_t8 K c)))
def w_law_b3 (K : PySem.W.Frag) (c : Cs) : WS := wSeq (wAsg (wCall (sp_law_deal c) [] (wACons (wVar 0) (wACons (wVar 1) (wANil)))) (wgName 2)) (wSeq (wAsg (wC .non) (wgName 3)) (wFor (wiRng1 (wACons (wC (.int 5)) (wANil))) (wgName 4) (w_law_b2 K c)))
def w_law (K : PySem.W.Frag) (c : Cs) : WS := wSeq (wFor (wiRng1 (wACons (wCB oMax (wACons (wC (.int 1)) (wACons (wCB oMin (wACons (wC (.int 2)) (wACons (wCB oLen (wACons (wVar 0) (wANil))) (wANil)))) (wANil)))) (wANil))) (wgName 1) (w_law_b3 K c)) (w_law_t1 K c)
section
variable {P : Program} {w : World} {K : PySem.W.Frag} {mg : Str → Option Value} {base : Heap} {c : Cs}
theorem dv_law (T : Txt K mg c) {f : Addr} (cdv : Value) (A : Around) (outer : List PySem.Env) (s : Shared) (H : Hp) (E : XK) (hgA : A.guards = some []) (hr : Room 4 (A.deeper (PyProof.Rows.envOfC "law" (defScope s_law) s.heap.objs.size f cdv))) : DSs (cxOf CX0 P w K mg base N_law "law" (defScope s_law) f cdv A outer s H E).nox (defBody s_law) (w_law K c) := by
  have ND := sc_law.nd
  have hu := hu_of hr
  have hu64 := hr.units
  have hu65 := units65 hr
  exact dss_cons (ds_for PassesOwn.never rfl (di_range1 rfl T.b_range (da_cons (de_callB (cs_max rfl) rfl T.b_max (by decide +kernel) (da_cons (de_int) (da_cons (de_callB (cs_min rfl) rfl T.b_min (by decide +kernel) (da_cons (de_int) (da_cons (de_callB cs_len rfl T.b_len (by decide +kernel) (da_cons (de_var (pv 0)) (da_nil))) (da_nil)))) (da_nil)))) (da_nil))) (dg_pat (vs := [1]) (g := gName 1) (pg_name (i := 1) ND rfl (by first | exact Or.inl rfl | exact Or.inr rfl)) (gp_name (by decide))) (dss_cons (ds_set (i := 2) ND rfl (Or.inl rfl) (de_cal (cal_law_deal T) hr (by decide) rfl (da_cons (de_var (pv 0)) (da_cons (de_var (pv 1)) (da_nil))))) (dss_cons (ds_set (i := 3) ND rfl (Or.inl rfl) (de_non)) (dss_one (ds_for PassesOwn.never rfl (di_range1 rfl T.b_range (da_cons (de_int) (da_nil))) (dg_pat (vs := [4]) (g := gName 4) (pg_name (i := 4) ND rfl (by first | exact Or.inl rfl | exact Or.inr rfl)) (gp_name (by decide))) (dss_cons (ds_set (i := 5) ND rfl (Or.inl rfl) (de_cal (cal_law_rule T) hr (by decide) rfl (da_cons (de_var (pv 2)) (da_cons (de_int) (da_cons (de_int) (da_nil)))))) (dss_cons (ds_set (i := 6) ND rfl (Or.inl rfl) (de_callTy cs_listM rfl T.b_list (by decide +kernel) (da_cons (de_var (pv 5)) (da_nil)))) (dss_cons (ds_set (i := 7) ND rfl (Or.inl rfl) (de_if (dt_cmp (os_eq hu64) (de_op os_mod (de_var (pv 4)) (de_int)) (de_int) (nomark _)) (de_thv 6 (de_mak (mak_CheckRule_xinit_2 T) hr (by decide) rfl (da_cons (de_var (pv 6)) (da_nil)))) (de_mak (mak_CheckRule_xinit_2 T) hr (by decide) rfl (da_cons (de_callTy cs_tuple rfl T.b_tuple (by decide +kernel) (da_cons (de_var (pv 5)) (da_nil))) (da_nil))))) (dss_cons (ds_expr (de_bm bm_append (de_var (pv 6)) (da_cons (de_str) (da_nil)))) (dss_cons (ds_if (dt_cmp (os_ne hu64) (de_callB (cs_reprA hgA (units66 hr)) rfl T.b_repr (by decide +kernel) (da_cons (de_fld (de_var (pv 7)) rfl) (da_nil))) (de_callB (cs_reprA hgA (units66 hr)) rfl T.b_repr (by decide +kernel) (da_cons (de_callTy cs_tuple rfl T.b_tuple (by decide +kernel) (da_cons (de_var (pv 5)) (da_nil))) (da_nil))) (nomark _)) (dss_one (ds_ret (de_bl))) (dss_nil)) (dss_cons (ds_if (dt_cmp (os_ne hu64) (de_callTy (cs_strOwn (met_CheckRule_xstr_1 T) hr (by decide)) rfl T.b_str (by decide +kernel) (da_cons (de_var (pv 7)) (da_nil))) (de_bm bm_join (de_str) (da_cons (de_var (pv 5)) (da_nil))) (nomark _)) (dss_one (ds_ret (de_bl))) (dss_nil)) (dss_cons (ds_if (dt_cmp (os_ownNe F.slot_object_ne T.n_CheckRule T.ob_CheckRule (met_CheckRule_xeq_2 T) hr (by decide)) (de_var (pv 7)) (de_mak (mak_CheckRule_xinit_2 T) hr (by decide) rfl (da_cons (de_callTy cs_tuple rfl T.b_tuple (by decide +kernel) (da_cons (de_var (pv 5)) (da_nil))) (da_nil))) (nomark _)) (dss_one (ds_ret (de_bl))) (dss_nil)) (dss_cons (ds_if (dt_cmp (os_inOwn (met_CheckRule_xeq_2 T) T.xs_CheckRule T.xt_CheckRule T.xn_CheckRule hr (by decide)) (de_var (pv 7)) (de_tup (da_cons (de_callTy (cs_strOwn (met_CheckRule_xstr_1 T) hr (by decide)) rfl T.b_str (by decide +kernel) (da_cons (de_var (pv 7)) (da_nil))) (da_cons (de_callTy cs_tuple rfl T.b_tuple (by decide +kernel) (da_cons (de_var (pv 5)) (da_nil))) (da_cons (de_non) (da_nil))))) (by rfl)) (dss_one (ds_ret (de_bl))) (dss_nil)) (dss_cons (ds_if (dt_w (dw_and (dt_cmp os_isNot (de_var (pv 3)) (de_non) (nomark _)) (dw_and1 (dt_cmp (os_ne hu64) (de_cmp (os_own (met_CheckRule_xeq_2 T) hr (by decide)) (de_var (pv 7)) (de_var (pv 3)) (nomark _)) (de_cmp (os_eq hu64) (de_callTy (cs_strOwn (met_CheckRule_xstr_1 T) hr (by decide)) rfl T.b_str (by decide +kernel) (da_cons (de_var (pv 7)) (da_nil))) (de_callTy (cs_strOwn (met_CheckRule_xstr_1 T) hr (by decide)) rfl T.b_str (by decide +kernel) (da_cons (de_var (pv 3)) (da_nil))) (nomark _)) (nomark _))))) (dss_one (ds_ret (de_bl))) (dss_nil)) (dss_cons (ds_for PassesOwn.never rfl (di_range1 rfl T.b_range (da_cons (de_int) (da_nil))) (dg_pat (vs := [8]) (g := gName 8) (pg_name (i := 8) ND rfl (by first | exact Or.inl rfl | exact Or.inr rfl)) (gp_name (by decide))) (dss_cons (ds_set (i := 9) ND rfl (Or.inl rfl) (de_cal (cal_law_stick T) hr (by decide) rfl (da_cons (de_var (pv 2)) (da_cons (de_op os_add (de_int) (de_cal (cal_law_draw T) hr (by decide) rfl (da_cons (de_var (pv 2)) (da_cons (de_int) (da_nil))))) (da_nil))))) (dss_cons (ds_if (dt_cmp (os_ne hu64) (de_met (met_CheckRule_put_2 T) hr (by decide) (de_var (pv 7)) (da_cons (de_var (pv 9)) (da_nil))) (de_cal (cal_law_put T) hr (by decide) rfl (da_cons (de_var (pv 5)) (da_cons (de_var (pv 9)) (da_nil)))) (nomark _)) (dss_one (ds_ret (de_bl))) (dss_nil)) (dss_one (ds_if (dt_cmp (os_ne hu64) (de_met (met_CheckRule_put_2 T) hr (by decide) (de_var (pv 7)) (da_cons (de_var (pv 9)) (da_nil))) (de_cal (cal_law_put T) hr (by decide) rfl (da_cons (de_var (pv 5)) (da_cons (de_var (pv 9)) (da_nil)))) (nomark _)) (dss_one (ds_ret (de_bl))) (dss_nil)))))) (dss_one (ds_set (i := 3) ND rfl (Or.inl rfl) (de_var (pv 7))))))))))))))))))) (dss_one (ds_ret (de_and (de_cmp (os_eq hu64) (de_met (met_CheckRule_put_2 T) hr (by decide) (de_mak (mak_CheckRule_xinit_2 T) hr (by decide) rfl (da_cons (de_lst (da_cons (de_str) (da_nil))) (da_nil))) (da_cons (de_str) (da_nil))) (de_str) (nomark _)) (de_one (de_cmp (os_eq hu64) (de_met (met_CheckRule_put_2 T) hr (by decide) (de_mak (mak_CheckRule_xinit_2 T) hr (by decide) rfl (da_cons (de_lst (da_cons (de_str) (da_cons (de_str) (da_nil)))) (da_nil))) (da_cons (de_str) (da_nil))) (de_str) (nomark _))))))

theorem rd_b1 {K : PySem.W.Frag} {c : Cs} {W : WEnds} {μ : Store} {p q : Addr} {cs : List (List Bool)} {w : Nat} {x0 x1 x3 x4 x6 x8 x9 : Option D} (ok : OkR cs w) (hd : DealAt μ p q)
    (k : ∀ x9 μ', DealAt μ' p q → W.nx [x0, x1, some (.ref p), x3, x4, some (.lst (cs.map sD)), x6, some (ruleD c.CheckRule cs), x8, x9] μ') : w_law_b1 K c W [x0, x1, some (.ref p), x3, x4, some (.lst (cs.map sD)), x6, some (ruleD c.CheckRule cs), x8, x9] μ := by
  unfold w_law_b1
  walk_at "dz"
  refine ⟨p, q, 8, rfl, hd, by decide, fun r μ2 hr hd2 hm2 => ?_⟩
  walk_at "dz"
  rw [show (1 : Int) + (r : Nat) = ((r + 1 : Nat) : Int) by omega]
  refine ⟨p, q, r + 1, rfl, by omega, hd2, fun bs μ3 hl hd3 hm3 => ?_⟩
  have hne : bs ≠ [] := by rintro rfl; simp at hl
  walk_at "dz"
  unfold ruleD
  rw [mth_obj]
  have hput : ∀ μ4, DealAt μ4 p q → ∀ K1 : D → Store → Prop, K1 (.str (stk (putS cs bs))) μ4 → sp_CheckRule_put c [ruleD c.CheckRule cs, .str (stk bs)] μ4 K1 := fun μ4 _ K1 h => ⟨cs, w, bs, rfl, ok, hne, by omega, h⟩
  refine ⟨rfl, by rfl, hput _ hd3 _ ?_⟩
  refine ⟨cs, w, bs, rfl, ok, by omega, ?_⟩
  walk_at "dz"
  unfold w_law_t2
  walk_at "dz"
  refine ⟨by rfl, hput _ hd3 _ ?_⟩
  refine ⟨cs, w, bs, rfl, ok, by omega, ?_⟩
  walk_at "dz"
  exact k _ _ hd3
theorem rd_t4 {K : PySem.W.Frag} {c : Cs} {W : WEnds} {μ : Store} {p q : Addr} {cs : List (List Bool)} {w : Nat} {y3 : D} {x0 x1 x4 x6 x8 x9 : Option D} (kf : Kf K c) (ok : OkR cs w) (hd : DealAt μ p q) (h3 : y3 = .non ∨ ∃ cs w, OkR cs w ∧ y3 = ruleD c.CheckRule cs)
    (k : ∀ x8 x9 μ', DealAt μ' p q → W.nx [x0, x1, some (.ref p), some (ruleD c.CheckRule cs), x4, some (.lst (cs.map sD)), x6, some (ruleD c.CheckRule cs), x8, x9] μ') : w_law_t4 K c W [x0, x1, some (.ref p), some y3, x4, some (.lst (cs.map sD)), x6, some (ruleD c.CheckRule cs), x8, x9] μ := by
  have fin : w_law_t3 K c W [x0, x1, some (.ref p), some y3, x4, some (.lst (cs.map sD)), x6, some (ruleD c.CheckRule cs), x8, x9] μ := by
    unfold w_law_t3
    walk_at "dz"
    refine ⟨by decide, for_rng (fun i ρ μ' => DealAt μ' p q ∧ ∃ y8 y9, ρ = [x0, x1, some (.ref p), some y3, x4, some (.lst (cs.map sD)), x6, some (ruleD c.CheckRule cs), y8, y9]) ⟨hd, _, _, rfl⟩ ?_ ?_⟩
    · rintro i ρ μ' hi ⟨hd', y8, y9, rfl⟩
      walk_at "dz"
      exact rd_b1 ok hd' fun y9 μ2 h => ⟨h, _, _, rfl⟩
    · rintro ρ μ' ⟨hd', y8, y9, rfl⟩
      walk_at "dz"
      exact k _ _ _ hd'
  unfold w_law_t4
  walk_at "dz"
  rcases h3 with rfl | ⟨ds, w2, ok2, rfl⟩
  · walk_at "dz"
    exact fin
  · rw [if_pos (by rfl)]
    refine ⟨⟨_, rfl⟩, ⟨_, rfl⟩, .inl ⟨cs, ds, rfl, ⟨_, rfl⟩, ?_⟩⟩
    refine ⟨_, _, rfl, rfl, cs, w, rfl, ok, _, rfl, ?_⟩
    refine ⟨_, _, rfl, rfl, ds, w2, rfl, ok2, _, rfl, ?_⟩
    walk_at "dz"
    have e : (ruleT cs == ruleT ds) = decide (ruleT cs = ruleT ds) := by
      rw [Bool.eq_iff_iff]
      simp
    rw [e]
    walk_at "dz"
    simpa using fin
theorem rd_t8 {K : PySem.W.Frag} {c : Cs} {W : WEnds} {μ : Store} {p q : Addr} {cs : List (List Bool)} {w : Nat} {y3 : D} {B : Addr} {x0 x1 x4 x8 x9 : Option D} (kf : Kf K c) (ok : OkR cs w) (hd : DealAt μ p q) (hB : μ B = some (.lst (cs.map sD))) (hBp : B ≠ p) (hBq : B ≠ q) (h3 : y3 = .non ∨ ∃ cs w, OkR cs w ∧ y3 = ruleD c.CheckRule cs)
    (k : ∀ x6 x8 x9 μ', DealAt μ' p q → W.nx [x0, x1, some (.ref p), some (ruleD c.CheckRule cs), x4, some (.lst (cs.map sD)), x6, some (ruleD c.CheckRule cs), x8, x9] μ') : w_law_t8 K c W [x0, x1, some (.ref p), some y3, x4, some (.lst (cs.map sD)), some (.ref B), some (ruleD c.CheckRule cs), x8, x9] μ := by
  have hf := ok.few
  unfold w_law_t8
  walk_at "dz"
  refine ⟨tyM_lref hB, ?_⟩
  rw [app_ref hB]
  have hd2 : DealAt (setS μ B (.lst (cs.map sD ++ [D.str (Str.ofString "x")]))) p q := hd.set hBp hBq
  generalize setS μ B (.lst (cs.map sD ++ [D.str (Str.ofString "x")])) = μ2 at *
  refine ⟨by rw [List.length_map]; exact Nat.lt_of_lt_of_le (show _ < 101 by omega) (by decide), ?_⟩
  have e0 : ∀ (μ3 : Store) (P : D → Prop), fldD K "checks" (ruleD c.CheckRule cs) μ3 P ↔ P (.tup (cs.map sD)) := fun μ3 P => by
    unfold ruleD
    rw [fld_obj, lk_ch, opD_some]
    exact ⟨fun h => h.2, fun h => ⟨kf.o_CheckRule_checks, h⟩⟩
  have h100 : ∀ s ∈ cs, s.length ≤ 100 := fun s hs => by have := ok.all s hs; have := ok.wl; omega
  refine (e0 _ _).mpr ?_
  refine reprA_tup (E := eStk) (shw_stk 100) (by decide) (m := 100) (by decide) ok.few h100 ?_
  refine reprA_tup (E := eStk) (shw_stk 100) (by decide) (m := 100) (by decide) ok.few h100 ?_
  walk_at "dz"
  unfold w_law_t7
  walk_at "dz"
  refine ⟨_, _, rfl, rfl, cs, w, rfl, ok, _, rfl, ?_⟩
  walk_at "dz"
  refine ⟨_, ruleT_strs cs, ?_, ?_⟩
  · rw [sum_w ok.all, List.length_map]
    have h1 := Nat.mul_le_mul hf ok.wl
    have h2 : cs.length * Str.length " " ≤ 100 * 1 := Nat.mul_le_mul hf (by decide)
    omega
  show oNe (.str (ruleT cs)) (.str (ruleT cs)) _ _
  walk_at "dz"
  unfold w_law_t6
  walk_at "dz"
  intro xb hxb
  refine ⟨xb, cs, w, _, rfl, .inr rfl, ok, setS_same, rfl, _, setS_same, ?_⟩
  rw [setS_setS, delS_setS hxb]
  refine ⟨⟨_, rfl⟩, ⟨_, rfl⟩, .inl ⟨cs, cs, rfl, _, rfl, ?_⟩⟩
  rw [decide_eq_true rfl]
  walk_at "dz"
  unfold w_law_t5
  walk_at "dz"
  refine ⟨_, _, rfl, rfl, cs, w, rfl, ok, _, rfl, ?_⟩
  walk_at "dz"
  refine ⟨le_line (Nat.le_of_ble_eq_true rfl), ?_⟩
  refine ⟨⟨_, rfl⟩, _, rfl, ?_⟩
  refine ⟨⟨_, rfl⟩, .inr (.inl ⟨_, rfl⟩), .inr ⟨cs, _, rfl, .inr (.inl ⟨_, rfl⟩), rfl, ?_⟩⟩
  refine ⟨⟨_, rfl⟩, .inr (.inr ⟨_, rfl⟩), .inr ⟨cs, _, rfl, .inr (.inr ⟨_, rfl⟩), rfl, ?_⟩⟩
  refine ⟨⟨_, rfl⟩, .inl rfl, .inr ⟨cs, _, rfl, .inl rfl, rfl, ?_⟩⟩
  unfold chainD
  walk_at "dz"
  exact rd_t4 kf ok hd2 h3 fun x8 x9 μ' h => k _ _ _ _ h
theorem rd_law (K : PySem.W.Frag) (c : Cs) (kf : Kf K c) : ∀ ds μ Q, spL ds μ Q → w_law K c { nx := fun _ μ' => ∃ μ2, Sub μ2 μ' ∧ Q .non μ2, rt := Q } (startD N_law ds) μ := by
  rintro ds μ Q ⟨ns, rfl, hl, k⟩
  show w_law K c _ [some (.scr (ns.map .int)), none, none, none, none, none, none, none, none, none] μ
  unfold w_law
  walk_at "dz"
  rw [List.length_map]
  generalize hN : (if (if (ns.length : Int) < 2 then (ns.length : Int) else 2) > 1 then if (ns.length : Int) < 2 then (ns.length : Int) else 2 else 1) = N
  have hN3 : 1 ≤ N ∧ N ≤ 3 := by
    rw [← hN]
    split <;> split <;> first | omega | (split <;> omega) | skip
  refine ⟨by omega, for_rng (fun i ρ μ' => ∃ x1 x2 x3 x4 x5 x6 x7 x8 x9, ρ = [some (.scr (ns.map .int)), x1, x2, x3, x4, x5, x6, x7, x8, x9]) ⟨_, _, _, _, _, _, _, _, _, rfl⟩ ?_ ?_⟩
  · rintro i ρ μ' hi ⟨x1, x2, x3, x4, x5, x6, x7, x8, x9, rfl⟩
    walk_at "dz"
    unfold w_law_b3
    walk_at "dz"
    refine ⟨ns, _, rfl, ⟨by omega, by omega⟩, by omega, fun p q μ2 hd sb => ?_⟩
    walk_at "dz"
    refine ⟨by decide, for_rng (fun j ρ μ3 => DealAt μ3 p q ∧ ∃ y3 y4 y5 y6 y7 y8 y9, ρ = [some (.scr (ns.map .int)), some (.int (0 + (i : Nat))), some (.ref p), some y3, y4, y5, y6, y7, y8, y9] ∧ (y3 = .non ∨ ∃ cs w, OkR cs w ∧ y3 = ruleD c.CheckRule cs)) ⟨hd, .non, _, _, _, _, _, _, rfl, .inl rfl⟩ ?_ ?_⟩
    · rintro j ρ μ3 hj ⟨hd3, y3, y4, y5, y6, y7, y8, y9, rfl, h3⟩
      walk_at "dz"
      unfold w_law_b2
      walk_at "dz"
      refine ⟨p, q, 6, 4, rfl, by decide, by decide, hd3, fun cs w μ4 ok h6 hw4 hd4 hm4 => ?_⟩
      walk_at "dz"
      intro B hB
      obtain ⟨hBp, hBq⟩ := hd4.ne hB
      refine ⟨by decide, ?_⟩
      have k2 : ∀ x6 x8 x9 μ', DealAt μ' p q → DealAt μ' p q ∧ ∃ y3 y4 y5 y6 y7 y8 y9, [some (.scr (ns.map .int)), some (.int (0 + (i : Nat))), some (.ref p), some (ruleD c.CheckRule cs), some (.int (0 + (j : Nat))), some (.lst (cs.map sD)), x6, some (ruleD c.CheckRule cs), x8, x9] = [some (.scr (ns.map .int)), some (.int (0 + (i : Nat))), some (.ref p), some y3, y4, y5, y6, y7, y8, y9] ∧ (y3 = .non ∨ ∃ cs w, OkR cs w ∧ y3 = ruleD c.CheckRule cs) := fun x6 x8 x9 μ' h => ⟨h, _, _, _, _, _, _, _, rfl, .inr ⟨cs, w, ok, rfl⟩⟩
      split
      · obtain ⟨μ0, hd0, hs0⟩ := deal_small hd4
        have h0B : μ0 B = none := by
          cases e : μ0 B with
          | none => rfl
          | some z => have := (hs0 B z e).1; rw [hB] at this; cases this
        unfold wThv
        simp only [getD_s, getD_z, setS_same]
        refine ⟨μ0, fun a z w => ?_, ?_⟩
        · have hne : a ≠ B := by rintro rfl; rw [h0B] at w; cases w
          rw [delS_ne hne, setS_ne hne]
          exact (hs0 a z w).1
        walk_at "dz"
        intro xb hxb
        refine ⟨xb, cs, w, _, rfl, .inl rfl, ok, setS_same, rfl, _, setS_same, ?_⟩
        rw [setS_setS, delS_setS hxb]
        refine ⟨lf_rule, fun a z w => (hs0 a z w).2, ?_⟩
        exact rd_t8 kf ok (hd0.set hBp hBq) setS_same hBp hBq h3 k2
      · intro xb hxb
        refine ⟨xb, cs, w, _, rfl, .inr rfl, ok, setS_same, rfl, _, setS_same, ?_⟩
        rw [setS_setS, delS_setS hxb]
        exact rd_t8 kf ok (hd4.set hBp hBq) setS_same hBp hBq h3 k2
    · rintro ρ μ3 ⟨hd3, y3, y4, y5, y6, y7, y8, y9, rfl, h3⟩
      exact ⟨_, _, _, _, _, _, _, _, _, rfl⟩
  · rintro ρ μ' ⟨x1, x2, x3, x4, x5, x6, x7, x8, x9, rfl⟩
    unfold w_law_t1
    walk_at "dz"
    have ok1 : OkR [[true]] 1 := ⟨by decide, by decide, by decide, by decide, by decide⟩
    have ok2 : OkR [[false], [true]] 1 := ⟨by decide, by decide, by decide, by decide, by decide⟩
    rw [show (D.str (Str.ofString "..x")) = .str (stk [false, false, true]) from by rw [show Str.ofString "..x" = stk [false, false, true] by decide +kernel], show (D.str (Str.ofString "..x.")) = .str (stk [false, false, true, false]) from by rw [show Str.ofString "..x." = stk [false, false, true, false] by decide +kernel], show (D.str (Str.ofString ".x")) = .str (stk [false, true]) from by rw [show Str.ofString ".x" = stk [false, true] by decide +kernel], show (D.str (Str.ofString "x")) = .str (stk [true]) from by rw [stk_x], show (D.str (Str.ofString ".")) = .str (stk [false]) from by rw [stk_p]]
    refine ⟨le_line (Nat.le_of_ble_eq_true rfl), fun xb hxb => ?_⟩
    refine ⟨xb, [[true]], 1, _, rfl, .inl rfl, ok1, setS_same, rfl, _, setS_same, by rfl, ?_⟩
    rw [setS_setS, delS_setS hxb]
    refine ⟨[[true]], 1, [false], rfl, ok1, by decide, by decide, ?_⟩
    walk_at "dz"
    rw [if_pos (by decide +kernel)]
    refine ⟨le_line (Nat.le_of_ble_eq_true rfl), fun xc hxc => ?_⟩
    refine ⟨xc, [[false], [true]], 1, _, rfl, .inl rfl, ok2, setS_same, rfl, _, setS_same, by rfl, ?_⟩
    rw [setS_setS, delS_setS hxc]
    refine ⟨[[false], [true]], 1, [false, false, true], rfl, ok2, by decide, by decide, ?_⟩
    walk_at "dz"
    rw [show (stk (putS [[false], [true]] [false, false, true]) == stk [false, false, true, false]) = true by decide +kernel]
    exact ret_eq (k _)

end

/-! ### what the top has written, and the head -/
theorem all_mk {l : PySem.W.OpenLaw} {w : World} {K : PySem.W.Frag} {h : Heap} {mg : Str → Option Value} {fa : Addr} (X : K.In h) (G : h.Ns mainGlobals mg) (hfa : mg "law" = some (.ref fa))
    {tq_NOTCHED : Tok}
    {tq_PLAIN : Tok}
    {A_CheckRule : Addr}
    {f0 : Addr} {od0 an0 : Option Addr} {sl0 : Array (Option Value)} {oc0 kV0 dc0 pm0 cd0 ct0 : Value}
    {f1 : Addr} {od1 an1 : Option Addr} {sl1 : Array (Option Value)} {oc1 kV1 dc1 pm1 cd1 ct1 : Value}
    {f2 : Addr} {od2 an2 : Option Addr} {sl2 : Array (Option Value)} {oc2 kV2 dc2 pm2 cd2 ct2 : Value}
    {f3 : Addr} {od3 an3 : Option Addr} {sl3 : Array (Option Value)} {oc3 kV3 dc3 pm3 cd3 ct3 : Value}
    {f4 : Addr} {od4 an4 : Option Addr} {sl4 : Array (Option Value)} {oc4 kV4 dc4 pm4 cd4 ct4 : Value}
    {f5 : Addr} {od5 an5 : Option Addr} {sl5 : Array (Option Value)} {oc5 kV5 dc5 pm5 cd5 ct5 : Value}
    {f6 : Addr} {od6 an6 : Option Addr} {sl6 : Array (Option Value)} {oc6 kV6 dc6 pm6 cd6 ct6 : Value}
    {f7 : Addr} {od7 an7 : Option Addr} {sl7 : Array (Option Value)} {oc7 kV7 dc7 pm7 cd7 ct7 : Value}
    {f8 : Addr} {od8 an8 : Option Addr} {sl8 : Array (Option Value)} {oc8 kV8 dc8 pm8 cd8 ct8 : Value}
    {f9 : Addr} {od9 an9 : Option Addr} {sl9 : Array (Option Value)} {oc9 kV9 dc9 pm9 cd9 ct9 : Value}
    {f10 : Addr} {od10 an10 : Option Addr} {sl10 : Array (Option Value)} {oc10 kV10 dc10 pm10 cd10 ct10 : Value}
    {f11 : Addr} {od11 an11 : Option Addr} {sl11 : Array (Option Value)} {oc11 kV11 dc11 pm11 cd11 ct11 : Value}
    {f12 : Addr} {od12 an12 : Option Addr} {sl12 : Array (Option Value)} {oc12 kV12 dc12 pm12 cd12 ct12 : Value}
    {f13 : Addr} {od13 an13 : Option Addr} {sl13 : Array (Option Value)} {oc13 kV13 dc13 pm13 cd13 ct13 : Value}
    {f14 : Addr} {od14 an14 : Option Addr} {sl14 : Array (Option Value)} {oc14 kV14 dc14 pm14 cd14 ct14 : Value}
    {f15 : Addr} {od15 an15 : Option Addr} {sl15 : Array (Option Value)} {oc15 kV15 dc15 pm15 cd15 ct15 : Value}
    (z_abs : PySem.W.nsIn K mainGlobals "abs" = some none)
    (z_all : PySem.W.nsIn K mainGlobals "all" = some none)
    (z_enumerate : PySem.W.nsIn K mainGlobals "enumerate" = some none)
    (z_int : PySem.W.nsIn K mainGlobals "int" = some none)
    (z_isinstance : PySem.W.nsIn K mainGlobals "isinstance" = some none)
    (z_len : PySem.W.nsIn K mainGlobals "len" = some none)
    (z_list : PySem.W.nsIn K mainGlobals "list" = some none)
    (z_max : PySem.W.nsIn K mainGlobals "max" = some none)
    (z_min : PySem.W.nsIn K mainGlobals "min" = some none)
    (z_range : PySem.W.nsIn K mainGlobals "range" = some none)
    (z_repr : PySem.W.nsIn K mainGlobals "repr" = some none)
    (z_str : PySem.W.nsIn K mainGlobals "str" = some none)
    (z_tuple : PySem.W.nsIn K mainGlobals "tuple" = some none)
    (q_NOTCHED : PySem.W.nsIn K mainGlobals "NOTCHED" = some (some (.str "x" tq_NOTCHED)))
    (q_PLAIN : PySem.W.nsIn K mainGlobals "PLAIN" = some (some (.str "." tq_PLAIN)))
    (aC_CheckRule : PySem.W.nsIn K mainGlobals "CheckRule" = some (some (.ref A_CheckRule)))
    (pg_CheckRule : PySem.W.plainGet K A_CheckRule Str.empty = true)
    (hd_CheckRule : PySem.W.hasDictIn K A_CheckRule = true)
    (po_CheckRule : PySem.W.plainOver K A_CheckRule = true)
    (sa_CheckRule : PySem.W.findIn K (.ref A_CheckRule) "__setattr__" = some (some (.builtin "object.__setattr__")))
    (mk_CheckRule : PySem.W.makesIn K A_CheckRule = true)
    (kc_CheckRule : PySem.W.keepIn K (.ref A_CheckRule) = true)
    (nf_CheckRule_checks : PySem.W.findIn K (.ref A_CheckRule) "checks" = some none)
    (nf_CheckRule_text : PySem.W.findIn K (.ref A_CheckRule) "text" = some none)
    (nn_CheckRule : PySem.W.findIn K (.ref A_CheckRule) "__ne__" = some (some (.builtin "object.__ne__"))) (no_CheckRule : PySem.W.subIn K (.ref A_CheckRule) (.type "object") = some true)
    (ia_CheckRule : PySem.W.findIn K (.ref A_CheckRule) "__class__" = some (some (.builtin "object.__class__"))) (ib_CheckRule : PySem.W.specialIn K (.builtin "object.__class__") "__get__" = some (some (.builtin "getset_descriptor.__get__"))) (ic_CheckRule : PySem.W.takesIn K (.builtin "object.__class__") = some true) (id_CheckRule : PySem.W.mroIn K A_CheckRule (.type "object") = some true) 
    (jx_CheckRule : PySem.W.typeIn K (.ref A_CheckRule) = some (.type "type"))
    (jt_CheckRule_bool : PySem.W.subIn K (.ref A_CheckRule) (.type "bool") = some false)
    (jt_CheckRule_int : PySem.W.subIn K (.ref A_CheckRule) (.type "int") = some false)
    (jt_CheckRule_str : PySem.W.subIn K (.ref A_CheckRule) (.type "str") = some false)
    (jt_CheckRule_tuple : PySem.W.subIn K (.ref A_CheckRule) (.type "tuple") = some false)
    (jt_CheckRule_list : PySem.W.subIn K (.ref A_CheckRule) (.type "list") = some false)
    (jt_CheckRule_dict : PySem.W.subIn K (.ref A_CheckRule) (.type "dict") = some false)
    (jr_CheckRule_NoneType : PySem.W.subIn K (.type "NoneType") (.ref A_CheckRule) = some false)
    (jr_CheckRule_bool : PySem.W.subIn K (.type "bool") (.ref A_CheckRule) = some false)
    (jr_CheckRule_int : PySem.W.subIn K (.type "int") (.ref A_CheckRule) = some false)
    (jr_CheckRule_str : PySem.W.subIn K (.type "str") (.ref A_CheckRule) = some false)
    (jr_CheckRule_tuple : PySem.W.subIn K (.type "tuple") (.ref A_CheckRule) = some false)
    (jr_CheckRule_list : PySem.W.subIn K (.type "list") (.ref A_CheckRule) = some false)
    (jr_CheckRule_dict : PySem.W.subIn K (.type "dict") (.ref A_CheckRule) = some false)
    (xs_CheckRule : PySem.W.subIn K (.ref A_CheckRule) (.type "str") = some false)
    (xt_CheckRule : PySem.W.subIn K (.ref A_CheckRule) (.type "tuple") = some false)
    (xn_CheckRule : PySem.W.subIn K (.ref A_CheckRule) (.type "NoneType") = some false)
    (a0 : PySem.W.nsIn K mainGlobals "is_sequence" = some (some (.ref f0)))
    (l0 : K.lookup f0 = some ⟨oc0, od0, .func (PySem.W.fnOf "is_sequence" "is_sequence" (defArgs s_is_sequence) (defBody s_is_sequence) (defScope s_is_sequence) .none kV0 dc0 pm0 an0 cd0 ct0), sl0⟩) (c0 : PySem.W.codeIn K cd0 "is_sequence" = true) (k0 : PySem.W.keepIn K (.ref f0) = true)
    (a1 : PySem.W.nsIn K mainGlobals "is_stick" = some (some (.ref f1)))
    (l1 : K.lookup f1 = some ⟨oc1, od1, .func (PySem.W.fnOf "is_stick" "is_stick" (defArgs s_is_stick) (defBody s_is_stick) (defScope s_is_stick) .none kV1 dc1 pm1 an1 cd1 ct1), sl1⟩) (c1 : PySem.W.codeIn K cd1 "is_stick" = true) (k1 : PySem.W.keepIn K (.ref f1) = true)
    (a2 : PySem.W.findIn K (.ref A_CheckRule) "__init__" = some (some (.ref f2))) (i2 : PySem.W.isFn K (.ref f2) = true)
    (l2 : K.lookup f2 = some ⟨oc2, od2, .func (PySem.W.fnOf "__init__" "CheckRule.__init__" (defArgs s_CheckRule_xinit) (defBody s_CheckRule_xinit) (defScope s_CheckRule_xinit) .none kV2 dc2 pm2 an2 cd2 ct2), sl2⟩) (c2 : PySem.W.codeIn K cd2 "CheckRule.__init__" = true) (k2 : PySem.W.keepIn K (.ref f2) = true)
    (a3 : PySem.W.nsIn K mainGlobals "_law_deal" = some (some (.ref f3)))
    (l3 : K.lookup f3 = some ⟨oc3, od3, .func (PySem.W.fnOf "_law_deal" "_law_deal" (defArgs s_law_deal) (defBody s_law_deal) (defScope s_law_deal) .none kV3 dc3 pm3 an3 cd3 ct3), sl3⟩) (c3 : PySem.W.codeIn K cd3 "_law_deal" = true) (k3 : PySem.W.keepIn K (.ref f3) = true)
    (a4 : PySem.W.nsIn K mainGlobals "_law_draw" = some (some (.ref f4)))
    (l4 : K.lookup f4 = some ⟨oc4, od4, .func (PySem.W.fnOf "_law_draw" "_law_draw" (defArgs s_law_draw) (defBody s_law_draw) (defScope s_law_draw) .none kV4 dc4 pm4 an4 cd4 ct4), sl4⟩) (c4 : PySem.W.codeIn K cd4 "_law_draw" = true) (k4 : PySem.W.keepIn K (.ref f4) = true)
    (a5 : PySem.W.nsIn K mainGlobals "_law_put" = some (some (.ref f5)))
    (l5 : K.lookup f5 = some ⟨oc5, od5, .func (PySem.W.fnOf "_law_put" "_law_put" (defArgs s_law_put) (defBody s_law_put) (defScope s_law_put) .none kV5 dc5 pm5 an5 cd5 ct5), sl5⟩) (c5 : PySem.W.codeIn K cd5 "_law_put" = true) (k5 : PySem.W.keepIn K (.ref f5) = true)
    (a6 : PySem.W.nsIn K mainGlobals "_law_near" = some (some (.ref f6)))
    (l6 : K.lookup f6 = some ⟨oc6, od6, .func (PySem.W.fnOf "_law_near" "_law_near" (defArgs s_law_near) (defBody s_law_near) (defScope s_law_near) .none kV6 dc6 pm6 an6 cd6 ct6), sl6⟩) (c6 : PySem.W.codeIn K cd6 "_law_near" = true) (k6 : PySem.W.keepIn K (.ref f6) = true)
    (a7 : PySem.W.nsIn K mainGlobals "_law_pick" = some (some (.ref f7)))
    (l7 : K.lookup f7 = some ⟨oc7, od7, .func (PySem.W.fnOf "_law_pick" "_law_pick" (defArgs s_law_pick) (defBody s_law_pick) (defScope s_law_pick) .none kV7 dc7 pm7 an7 cd7 ct7), sl7⟩) (c7 : PySem.W.codeIn K cd7 "_law_pick" = true) (k7 : PySem.W.keepIn K (.ref f7) = true)
    (a8 : PySem.W.nsIn K mainGlobals "_law_stick" = some (some (.ref f8)))
    (l8 : K.lookup f8 = some ⟨oc8, od8, .func (PySem.W.fnOf "_law_stick" "_law_stick" (defArgs s_law_stick) (defBody s_law_stick) (defScope s_law_stick) .none kV8 dc8 pm8 an8 cd8 ct8), sl8⟩) (c8 : PySem.W.codeIn K cd8 "_law_stick" = true) (k8 : PySem.W.keepIn K (.ref f8) = true)
    (a9 : PySem.W.nsIn K mainGlobals "_law_rule" = some (some (.ref f9)))
    (l9 : K.lookup f9 = some ⟨oc9, od9, .func (PySem.W.fnOf "_law_rule" "_law_rule" (defArgs s_law_rule) (defBody s_law_rule) (defScope s_law_rule) .none kV9 dc9 pm9 an9 cd9 ct9), sl9⟩) (c9 : PySem.W.codeIn K cd9 "_law_rule" = true) (k9 : PySem.W.keepIn K (.ref f9) = true)
    (a10 : PySem.W.nsIn K mainGlobals "need_stick" = some (some (.ref f10)))
    (l10 : K.lookup f10 = some ⟨oc10, od10, .func (PySem.W.fnOf "need_stick" "need_stick" (defArgs s_need_stick) (defBody s_need_stick) (defScope s_need_stick) .none kV10 dc10 pm10 an10 cd10 ct10), sl10⟩) (c10 : PySem.W.codeIn K cd10 "need_stick" = true) (k10 : PySem.W.keepIn K (.ref f10) = true)
    (a11 : PySem.W.findIn K (.ref A_CheckRule) "check_for" = some (some (.ref f11))) (i11 : PySem.W.isFn K (.ref f11) = true)
    (l11 : K.lookup f11 = some ⟨oc11, od11, .func (PySem.W.fnOf "check_for" "CheckRule.check_for" (defArgs s_CheckRule_check_for) (defBody s_CheckRule_check_for) (defScope s_CheckRule_check_for) .none kV11 dc11 pm11 an11 cd11 ct11), sl11⟩) (c11 : PySem.W.codeIn K cd11 "CheckRule.check_for" = true) (k11 : PySem.W.keepIn K (.ref f11) = true)
    (a12 : PySem.W.findIn K (.ref A_CheckRule) "put" = some (some (.ref f12))) (i12 : PySem.W.isFn K (.ref f12) = true)
    (l12 : K.lookup f12 = some ⟨oc12, od12, .func (PySem.W.fnOf "put" "CheckRule.put" (defArgs s_CheckRule_put) (defBody s_CheckRule_put) (defScope s_CheckRule_put) .none kV12 dc12 pm12 an12 cd12 ct12), sl12⟩) (c12 : PySem.W.codeIn K cd12 "CheckRule.put" = true) (k12 : PySem.W.keepIn K (.ref f12) = true)
    (a13 : PySem.W.findIn K (.ref A_CheckRule) "__eq__" = some (some (.ref f13))) (i13 : PySem.W.isFn K (.ref f13) = true)
    (l13 : K.lookup f13 = some ⟨oc13, od13, .func (PySem.W.fnOf "__eq__" "CheckRule.__eq__" (defArgs s_CheckRule_xeq) (defBody s_CheckRule_xeq) (defScope s_CheckRule_xeq) .none kV13 dc13 pm13 an13 cd13 ct13), sl13⟩) (c13 : PySem.W.codeIn K cd13 "CheckRule.__eq__" = true) (k13 : PySem.W.keepIn K (.ref f13) = true)
    (a14 : PySem.W.findIn K (.ref A_CheckRule) "__str__" = some (some (.ref f14))) (i14 : PySem.W.isFn K (.ref f14) = true)
    (l14 : K.lookup f14 = some ⟨oc14, od14, .func (PySem.W.fnOf "__str__" "CheckRule.__str__" (defArgs s_CheckRule_xstr) (defBody s_CheckRule_xstr) (defScope s_CheckRule_xstr) .none kV14 dc14 pm14 an14 cd14 ct14), sl14⟩) (c14 : PySem.W.codeIn K cd14 "CheckRule.__str__" = true) (k14 : PySem.W.keepIn K (.ref f14) = true)
    (a15 : PySem.W.nsIn K mainGlobals "law" = some (some (.ref f15)))
    (l15 : K.lookup f15 = some ⟨oc15, od15, .func (PySem.W.fnOf "law" "law" (defArgs s_law) (defBody s_law) (defScope s_law) .none kV15 dc15 pm15 an15 cd15 ct15), sl15⟩) (c15 : PySem.W.codeIn K cd15 "law" = true) (k15 : PySem.W.keepIn K (.ref f15) = true) :
    ∃ fd : FuncData, (∀ (s : Shared) (v : Value), BindsTo s fd ⟨[v], []⟩ [("_law_script", v)]) ∧ ∀ base : Heap, K.In base → base.Ns mainGlobals mg → FnG l.prog w K mg base 5 fa fd ["_law_script"] (LSp K spL) := by
  have e := hfa.symm.trans (PySem.W.mg_of X G a15)
  cases e
  have T : Txt K mg ⟨A_CheckRule⟩ := ⟨⟨⟨⟨pg_CheckRule, hd_CheckRule, po_CheckRule, sa_CheckRule⟩, nf_CheckRule_checks⟩, ⟨⟨pg_CheckRule, hd_CheckRule, po_CheckRule, sa_CheckRule⟩, nf_CheckRule_text⟩⟩,
    PySem.W.mg_none_of X G z_abs,
    PySem.W.mg_none_of X G z_all,
    PySem.W.mg_none_of X G z_enumerate,
    PySem.W.mg_none_of X G z_int,
    PySem.W.mg_none_of X G z_isinstance,
    PySem.W.mg_none_of X G z_len,
    PySem.W.mg_none_of X G z_list,
    PySem.W.mg_none_of X G z_max,
    PySem.W.mg_none_of X G z_min,
    PySem.W.mg_none_of X G z_range,
    PySem.W.mg_none_of X G z_repr,
    PySem.W.mg_none_of X G z_str,
    PySem.W.mg_none_of X G z_tuple,
    ⟨_, PySem.W.mg_of X G q_NOTCHED⟩,
    ⟨_, PySem.W.mg_of X G q_PLAIN⟩,
    ⟨⟨pg_CheckRule, hd_CheckRule, po_CheckRule, sa_CheckRule⟩, PySem.W.mg_of X G aC_CheckRule, mk_CheckRule, kc_CheckRule⟩,
    nn_CheckRule,
    no_CheckRule,
    ⟨⟨pg_CheckRule, hd_CheckRule, po_CheckRule, sa_CheckRule⟩, ia_CheckRule, ib_CheckRule, ic_CheckRule, id_CheckRule, kit_self⟩,
    iso_mk ⟨⟨pg_CheckRule, hd_CheckRule, po_CheckRule, sa_CheckRule⟩, ia_CheckRule, ib_CheckRule, ic_CheckRule, id_CheckRule, kit_self⟩ hd_CheckRule jx_CheckRule jt_CheckRule_bool jt_CheckRule_int jt_CheckRule_str jt_CheckRule_tuple jt_CheckRule_list jt_CheckRule_dict jr_CheckRule_NoneType jr_CheckRule_bool jr_CheckRule_int jr_CheckRule_str jr_CheckRule_tuple jr_CheckRule_list jr_CheckRule_dict,
    xs_CheckRule,
    xt_CheckRule,
    xn_CheckRule,
    ⟨_, _, fun_mk (st := s_is_sequence) l0 c0 k0, PySem.W.mg_of X G a0⟩,
    ⟨_, _, fun_mk (st := s_is_stick) l1 c1 k1, PySem.W.mg_of X G a1⟩,
    ⟨_, _, ⟨a2, i2, k2⟩, FnAt.mk0 (st := s_CheckRule_xinit) l2 c2⟩,
    ⟨_, _, fun_mk (st := s_law_deal) l3 c3 k3, PySem.W.mg_of X G a3⟩,
    ⟨_, _, fun_mk (st := s_law_draw) l4 c4 k4, PySem.W.mg_of X G a4⟩,
    ⟨_, _, fun_mk (st := s_law_put) l5 c5 k5, PySem.W.mg_of X G a5⟩,
    ⟨_, _, fun_mk (st := s_law_near) l6 c6 k6, PySem.W.mg_of X G a6⟩,
    ⟨_, _, fun_mk (st := s_law_pick) l7 c7 k7, PySem.W.mg_of X G a7⟩,
    ⟨_, _, fun_mk (st := s_law_stick) l8 c8 k8, PySem.W.mg_of X G a8⟩,
    ⟨_, _, fun_mk (st := s_law_rule) l9 c9 k9, PySem.W.mg_of X G a9⟩,
    ⟨_, _, fun_mk (st := s_need_stick) l10 c10 k10, PySem.W.mg_of X G a10⟩,
    ⟨_, _, ⟨a11, i11, k11⟩, FnAt.mk0 (st := s_CheckRule_check_for) l11 c11⟩,
    ⟨_, _, ⟨a12, i12, k12⟩, FnAt.mk0 (st := s_CheckRule_put) l12 c12⟩,
    ⟨_, _, ⟨a13, i13, k13⟩, FnAt.mk0 (st := s_CheckRule_xeq) l13 c13⟩,
    ⟨_, _, ⟨a14, i14, k14⟩, FnAt.mk0 (st := s_CheckRule_xstr) l14 c14⟩,
    ⟨_, _, fun_mk (st := s_law) l15 c15 k15, PySem.W.mg_of X G a15⟩⟩
  exact ⟨_, fun s v => .of_eq rfl, fun base _ _ => (Fun.at (fun_mk (st := s_law) l15 c15 k15)).okG sc_law len_spL (fun cdv A outer s H E hgA hr => dv_law T cdv A outer s H E hgA hr) (rd_law K ⟨A_CheckRule⟩ T.kf)⟩
theorem walk {l : PySem.W.OpenLaw} {q : Program} {loose : List Str} {XP : (Str → Option Value) → Heap → Prop} {YP : World → Heap → Prop} {d : DefRec} {K : Params → PySem.W.Frag} (hn : l.most = some 63) (hdf : d.params.defaults = [])
    (hY : ∀ (w : World) (h : Heap), YP w h → (K w.params).In h)
    (F : ∀ (w : World) (mg : Str → Option Value) (fa : Addr) (h : Heap), (K w.params).In h → h.Ns mainGlobals mg → mg d.name = some (.ref fa) →
      ∃ fd : FuncData, (∀ (s : Shared) (u : Value), BindsTo s fd ⟨[u], []⟩ [("_law_script", u)]) ∧ ∀ base : Heap, (K w.params).In base → base.Ns mainGlobals mg → FnG l.prog w (K w.params) mg base 5 fa fd ["_law_script"] (LSp (K w.params) spL)) :
    PySem.W.WalkO q loose XP YP l.row.toRowW d [] (fun f vs => PySem.call f vs) :=
  Dl.walk_ofG (n := 63) (k := 5) (x := "_law_script") (sp := fun w => LSp (K w.params) spL) hn (by decide) hdf ⟨rfl, by decide, by decide⟩ hY F (fun _ _ a ns hl hO hS => lsp_law hl hO hS)
end Lw
open PySem PySem.W PyProof.Rows
set_option maxRecDepth 100000 in
set_option maxHeartbeats 0 in
theorem PySem.Challenge.cw_notchsafe_k36_check_rules_made_and_put_holds : PySem.Challenge.rw_notchsafe_k36_check_rules_made_and_put.Holds := by
  w_on; o_law; k_head; (case hw => w_witness2)
  k_fill
  refine Lw.walk (l := PySem.Challenge.rw_notchsafe_k36_check_rules_made_and_put) rfl rfl (fun w h Y => PySem.W.kIn_of Y) ?F
  case F =>
    intro w mg fa h KX G hmg
    refine' Lw.all_mk KX G hmg ?z_abs ?z_all ?z_enumerate ?z_int ?z_isinstance ?z_len ?z_list ?z_max ?z_min ?z_range ?z_repr ?z_str ?z_tuple ?q_NOTCHED ?q_PLAIN ?aC_CheckRule ?pg_CheckRule ?hd_CheckRule ?po_CheckRule ?sa_CheckRule ?mk_CheckRule ?kc_CheckRule ?nf_CheckRule_checks ?nf_CheckRule_text ?nn_CheckRule ?no_CheckRule ?ia_CheckRule ?ib_CheckRule ?ic_CheckRule ?id_CheckRule ?jx_CheckRule ?jt_CheckRule_bool ?jt_CheckRule_int ?jt_CheckRule_str ?jt_CheckRule_tuple ?jt_CheckRule_list ?jt_CheckRule_dict ?jr_CheckRule_NoneType ?jr_CheckRule_bool ?jr_CheckRule_int ?jr_CheckRule_str ?jr_CheckRule_tuple ?jr_CheckRule_list ?jr_CheckRule_dict ?xs_CheckRule ?xt_CheckRule ?xn_CheckRule ?a0 ?l0 ?c0 ?k0 ?a1 ?l1 ?c1 ?k1 ?a2 ?i2 ?l2 ?c2 ?k2 ?a3 ?l3 ?c3 ?k3 ?a4 ?l4 ?c4 ?k4 ?a5 ?l5 ?c5 ?k5 ?a6 ?l6 ?c6 ?k6 ?a7 ?l7 ?c7 ?k7 ?a8 ?l8 ?c8 ?k8 ?a9 ?l9 ?c9 ?k9 ?a10 ?l10 ?c10 ?k10 ?a11 ?i11 ?l11 ?c11 ?k11 ?a12 ?i12 ?l12 ?c12 ?k12 ?a13 ?i13 ?l13 ?c13 ?k13 ?a14 ?i14 ?l14 ?c14 ?k14 ?a15 ?l15 ?c15 ?k15
    (case z_abs => k_is)
    (case z_all => k_is)
    (case z_enumerate => k_is)
    (case z_int => k_is)
    (case z_isinstance => k_is)
    (case z_len => k_is)
    (case z_list => k_is)
    (case z_max => k_is)
    (case z_min => k_is)
    (case z_range => k_is)
    (case z_repr => k_is)
    (case z_str => k_is)
    (case z_tuple => k_is)
    (case q_NOTCHED => k_is)
    (case q_PLAIN => k_is)
    (case aC_CheckRule => k_is)
    (case pg_CheckRule => k_is)
    (case hd_CheckRule => k_is)
    (case po_CheckRule => k_is)
    (case sa_CheckRule => k_is)
    (case mk_CheckRule => k_is)
    (case kc_CheckRule => k_is)
    (case nf_CheckRule_checks => k_is)
    (case nf_CheckRule_text => k_is)
    (case nn_CheckRule => k_is)
    (case no_CheckRule => k_is)
    (case ia_CheckRule => k_is)
    (case ib_CheckRule => k_is)
    (case ic_CheckRule => k_is)
    (case id_CheckRule => k_is)
    (case jx_CheckRule => k_is)
    (case jt_CheckRule_bool => k_is)
    (case jt_CheckRule_int => k_is)
    (case jt_CheckRule_str => k_is)
    (case jt_CheckRule_tuple => k_is)
    (case jt_CheckRule_list => k_is)
    (case jt_CheckRule_dict => k_is)
    (case jr_CheckRule_NoneType => k_is)
    (case jr_CheckRule_bool => k_is)
    (case jr_CheckRule_int => k_is)
    (case jr_CheckRule_str => k_is)
    (case jr_CheckRule_tuple => k_is)
    (case jr_CheckRule_list => k_is)
    (case jr_CheckRule_dict => k_is)
    (case xs_CheckRule => k_is)
    (case xt_CheckRule => k_is)
    (case xn_CheckRule => k_is)
    (case a0 => k_is)
    (case l0 => k_is)
    (case c0 => k_is)
    (case k0 => k_is)
    (case a1 => k_is)
    (case l1 => k_is)
    (case c1 => k_is)
    (case k1 => k_is)
    (case a2 => k_is)
    (case i2 => k_is)
    (case l2 => k_is)
    (case c2 => k_is)
    (case k2 => k_is)
    (case a3 => k_is)
    (case l3 => k_is)
    (case c3 => k_is)
    (case k3 => k_is)
    (case a4 => k_is)
    (case l4 => k_is)
    (case c4 => k_is)
    (case k4 => k_is)
    (case a5 => k_is)
    (case l5 => k_is)
    (case c5 => k_is)
    (case k5 => k_is)
    (case a6 => k_is)
    (case l6 => k_is)
    (case c6 => k_is)
    (case k6 => k_is)
    (case a7 => k_is)
    (case l7 => k_is)
    (case c7 => k_is)
    (case k7 => k_is)
    (case a8 => k_is)
    (case l8 => k_is)
    (case c8 => k_is)
    (case k8 => k_is)
    (case a9 => k_is)
    (case l9 => k_is)
    (case c9 => k_is)
    (case k9 => k_is)
    (case a10 => k_is)
    (case l10 => k_is)
    (case c10 => k_is)
    (case k10 => k_is)
    (case a11 => k_is)
    (case i11 => k_is)
    (case l11 => k_is)
    (case c11 => k_is)
    (case k11 => k_is)
    (case a12 => k_is)
    (case i12 => k_is)
    (case l12 => k_is)
    (case c12 => k_is)
    (case k12 => k_is)
    (case a13 => k_is)
    (case i13 => k_is)
    (case l13 => k_is)
    (case c13 => k_is)
    (case k13 => k_is)
    (case a14 => k_is)
    (case i14 => k_is)
    (case l14 => k_is)
    (case c14 => k_is)
    (case k14 => k_is)
    (case a15 => k_is)
    (case l15 => k_is)
    (case c15 => k_is)
    (case k15 => k_is)
