import PyProof.Rows.All
import Wide.All
import OpenK.AllK
import Wide.FinOn
import HandS.ForMost
import HandS.TupAny
import HandS.Flow
import HandS.Star
import HandS.FStr
import HandS.RaiseMore
import HandS.SortInts
import HandS.DictComp
import HandS.Style
import HandS.IsInst
import HandS.WordsDict
import KE.GoesEnum
import HandS.Zip
import HandS.Text
import HandS.OwnEq
import PyProof.InstNe
import PyProof.StrOps2
import HandS.Conv
import HandS.Codes
import HandS.TryOnly
import HandS.Deep
import HandS.Exc
import HandS.ExcOwn
import HandS.ExcInit
import HandS.ExcField
import HandS.ExcIs
import HandS.CallSlots
import HandS.WordsExc
import HandS.ClsMeth
import KE.KExcIs
import PyProof.ReprRoads
import KE.KCallOwn
import PyProof.InstSpecial
import HandS.MakeKw
import HandS.MakeKwOnly
import HandS.CallLocal
import HandS.Dict
import HandS.ListItems
import KE.GoesZip
import KE.GoesMore
import HandS.Set
import PyProof.Rows.SetFrom
import HandS.SortRule
import PyProof.RulesAs
import HandS.ReplaceLit
import HandS.ReplaceList
import PyProof.RulesMatch
import PyProof.CollectIter
import HandS.Wide
import HandS.StrMore
import PyProof.Rows.StrStep
import KE.GoesRaise
import KE.OsRunLaw
import PySem.Challenge.RW_notchsafe_k53_a_desk_answers
set_option Elab.async false
set_option linter.all false
set_option maxRecDepth 100000
set_option maxHeartbeats 4000000
namespace Hd
open PySem PySem.W PyProof.Rows
set_option maxRecDepth 100000
set_option maxHeartbeats 0
/-- (size) the last heap gets no quick twin -/
def _root_.PySem.W.Fast.tw11401777563435759938 : Unit := ()
open_top head for PySem.Challenge.rw_notchsafe_k53_a_desk_answers
end Hd
namespace Dl
open PySem L2
inductive D where
  | non | bl (b : Bool) | int (i : Int) | str (s : Str)
  | tup (xs : List D) | lst (xs : List D) | scr (xs : List D) | dct (kvs : List (Key × D)) | dcl (kvs : List (Key × D)) | obj (C : Addr) (fs : List (Str × D)) | ref (a : Addr) | ty (n : String)
  | exc (a : Addr) (d : Option Addr) (C : Addr) (fs : List (Str × D))
/-- a cell that may change -/
inductive Cell where
  | lst (xs : List D) | dct (kvs : List (Key × D)) | ins (C : Addr) (fs : List (Str × D))
noncomputable abbrev Store := Addr → Option Cell
noncomputable def setS (μ : Store) (a : Addr) (c : Cell) : Store := fun b => if b = a then some c else μ b
noncomputable def delS (μ : Store) (a : Addr) : Store := fun b => if b = a then none else μ b
theorem setS_same {μ : Store} {a : Addr} {c : Cell} : setS μ a c a = some c := by unfold setS; rw [if_pos rfl]
theorem setS_ne {μ : Store} {a b : Addr} {c : Cell} (h : b ≠ a) : setS μ a c b = μ b := by unfold setS; rw [if_neg h]
theorem delS_same {μ : Store} {a : Addr} : delS μ a a = none := by unfold delS; rw [if_pos rfl]
theorem delS_ne {μ : Store} {a b : Addr} (h : b ≠ a) : delS μ a b = μ b := by unfold delS; rw [if_neg h]
theorem setS_setS {μ : Store} {a : Addr} {c d : Cell} : setS (setS μ a c) a d = setS μ a d := by
  funext b; unfold setS; split <;> rfl
theorem delS_setS {μ : Store} {a : Addr} {c : Cell} (h : μ a = none) : delS (setS μ a c) a = μ := by
  funext b; unfold delS setS
  by_cases e : b = a
  · rw [if_pos e, e, h]
  · rw [if_neg e, if_neg e]
/-- fewer cells are known -/
noncomputable def Sub (μ' μ : Store) : Prop := ∀ a c, μ' a = some c → μ a = some c
theorem Sub.refl (μ : Store) : Sub μ μ := fun _ _ h => h
theorem Sub.trans {a b c : Store} (h : Sub a b) (k : Sub b c) : Sub a c := fun x y z => k x y (h x y z)
theorem Sub.set {μ : Store} {a : Addr} {c : Cell} (h : μ a = none) : Sub μ (setS μ a c) := fun b d e => by
  rw [setS_ne (by rintro rfl; rw [h] at e; cases e)]; exact e
/-- a tuple of the ghost heap, or of the written part -/
noncomputable def TupAt (K : PySem.W.Frag) (G : Hp) (a : Addr) (xs : List V) : Prop :=
  G a = some (.tup xs) ∨ ∃ (o : Obj) (its : Array Value) (n : Nat), K.lookup a = some o ∧ o.cls = .type "tuple" ∧ o.data = .seq its n ∧ its.size ≤ sizeLine ∧ Vals xs its.toList
/-- a list that is only read: locked, or of the written part -/
noncomputable def ScrAt (K : PySem.W.Frag) (G : Hp) (a : Addr) (xs : List V) : Prop :=
  (∃ o, G a = some (.frz o (.lst xs))) ∨ ∃ (o : Obj) (its : Array Value) (n : Nat), K.lookup a = some o ∧ o.cls = .type "list" ∧ o.dict = none ∧ o.data = .seq its n ∧ its.size ≤ sizeLine ∧ Vals xs its.toList
mutual
inductive Rp (K : PySem.W.Frag) (G : Hp) : D → V → Prop where
  | non : Rp K G .non .non
  | bl (b : Bool) : Rp K G (.bl b) (.bl b)
  | int (i : Int) : Rp K G (.int i) (.int i)
  | str (s : Str) : Rp K G (.str s) (.str s)
  | ty (n : String) : Rp K G (.ty n) (.ty n)
  | ref (a : Addr) : Rp K G (.ref a) (.ref a)
  | tup {a : Addr} {ds : List D} {xs : List V} (h : TupAt K G a xs) (r : Rps K G ds xs) : Rp K G (.tup ds) (.ref a)
  | lst {a : Addr} {ds : List D} {xs : List V} (h : G a = some (.lst xs)) (r : Rps K G ds xs) : Rp K G (.lst ds) (.ref a)
  | scr {a : Addr} {ds : List D} {xs : List V} (h : ScrAt K G a xs) (r : Rps K G ds xs) : Rp K G (.scr ds) (.ref a)
  | dct {a : Addr} {ds : List (Key × D)} {kvs : List (Key × V)} (h : G a = some (.dK kvs)) (e : kvs.map (·.1) = ds.map (·.1)) (r : Rps K G (ds.map (·.2)) (kvs.map (·.2))) : Rp K G (.dct ds) (.ref a)
  | dcl {a : Addr} {od : Obj} {ds : List (Key × D)} {kvs : List (Key × V)} (h : G a = some (.frz od (.dK kvs))) (e : kvs.map (·.1) = ds.map (·.1)) (r : Rps K G (ds.map (·.2)) (kvs.map (·.2))) : Rp K G (.dcl ds) (.ref a)
  | excN (a C : Addr) : Rp K G (.exc a none C []) (.ref a)
  | excD {a C dd : Addr} {ds : List (Str × D)} {fs : List (Str × V)} (h : G dd = some (.xd fs)) (e : fs.map (·.1) = ds.map (·.1)) (r : Rps K G (ds.map (·.2)) (fs.map (·.2))) : Rp K G (.exc a (some dd) C ds) (.ref a)
  | obj {a C dx : Addr} {ds : List (Str × D)} {fs : List (Str × V)} (h : G a = some (.ins C dx fs)) (e : fs.map (·.1) = ds.map (·.1)) (r : Rps K G (ds.map (·.2)) (fs.map (·.2))) : Rp K G (.obj C ds) (.ref a)
inductive Rps (K : PySem.W.Frag) (G : Hp) : List D → List V → Prop where
  | nil : Rps K G [] []
  | cons {d : D} {v : V} {ds : List D} {vs : List V} (h : Rp K G d v) (r : Rps K G ds vs) : Rps K G (d :: ds) (v :: vs)
end
/-- what is known of the ghost heap stays -/
noncomputable def Ex (G H : Hp) : Prop := ∀ a o, G a = some o → H a = some o
theorem Ex.refl (H : Hp) : Ex H H := fun _ _ h => h
theorem Ex.trans {H H1 H2 : Hp} (a : Ex H H1) (b : Ex H1 H2) : Ex H H2 := fun x o h => b x o (a x o h)
theorem Ex.new {H : Hp} {p : Addr} {o : HO} (h : H p = none) : Ex H (upd H p o) := fun a u e => by
  rw [upd_ne (ne_of_none e h)]
  exact e
theorem Ex.mut {H H' : Hp} {p : Addr} {o : HO} (e : Ex H H') (h : H p = none) : Ex H (upd H' p o) := fun a u ha => by
  rw [upd_ne (ne_of_none ha h)]
  exact e a u ha
theorem Ex.nn {G H : Hp} (e : Ex G H) {p : Addr} (h : H p = none) : G p = none := by
  cases q : G p with
  | none => rfl
  | some o => rw [e p o q] at h; cases h
theorem Ex.upd2 {G H : Hp} (e : Ex G H) (p : Addr) (o : HO) : Ex (upd G p o) (upd H p o) := fun a u h => by
  by_cases q : a = p
  · subst q; rw [upd_same] at h ⊢; exact h
  · rw [upd_ne q] at h ⊢; exact e a u h
theorem TupAt.mono {K : PySem.W.Frag} {G G' : Hp} {a : Addr} {xs : List V} (e : Ex G G') (h : TupAt K G a xs) : TupAt K G' a xs := by
  rcases h with h | h
  · exact .inl (e _ _ h)
  · exact .inr h
theorem ScrAt.mono {K : PySem.W.Frag} {G G' : Hp} {a : Addr} {xs : List V} (e : Ex G G') (h : ScrAt K G a xs) : ScrAt K G' a xs := by
  rcases h with ⟨o, h⟩ | h
  · exact .inl ⟨o, e _ _ h⟩
  · exact .inr h
mutual
theorem Rp.mono {K : PySem.W.Frag} {G G' : Hp} (e : Ex G G') : ∀ {d : D} {v : V}, Rp K G d v → Rp K G' d v
  | _, _, .non => .non
  | _, _, .bl b => .bl b
  | _, _, .int i => .int i
  | _, _, .str s => .str s
  | _, _, .ty n => .ty n
  | _, _, .ref a => .ref a
  | _, _, .tup h r => .tup (h.mono e) (Rps.mono e r)
  | _, _, .lst h r => .lst (e _ _ h) (Rps.mono e r)
  | _, _, .scr h r => .scr (h.mono e) (Rps.mono e r)
  | _, _, .dct h k r => .dct (e _ _ h) k (Rps.mono e r)
  | _, _, .dcl h k r => .dcl (e _ _ h) k (Rps.mono e r)
  | _, _, .obj h k r => .obj (e _ _ h) k (Rps.mono e r)
  | _, _, .excN a C => .excN a C
  | _, _, .excD h k r => .excD (e _ _ h) k (Rps.mono e r)
theorem Rps.mono {K : PySem.W.Frag} {G G' : Hp} (e : Ex G G') : ∀ {d : List D} {v : List V}, Rps K G d v → Rps K G' d v
  | _, _, .nil => .nil
  | _, _, .cons h r => .cons (Rp.mono e h) (Rps.mono e r)
end
theorem TupAt.sq {K : PySem.W.Frag} {G H : Hp} {a : Addr} {xs : List V} (e : Ex G H) (h : TupAt K G a xs) : SqT K H a xs := by
  rcases h with h | h
  · exact .inl (.inl (e _ _ h))
  · exact .inr h
theorem ScrAt.sq {K : PySem.W.Frag} {G H : Hp} {a : Addr} {xs : List V} (e : Ex G H) (h : ScrAt K G a xs) : SqL K H a xs := by
  rcases h with ⟨o, h⟩ | h
  · exact .inl (.inr ⟨o, e _ _ h⟩)
  · exact .inr h
theorem lst_sq {K : PySem.W.Frag} {G H : Hp} {a : Addr} {xs : List V} (e : Ex G H) (h : G a = some (.lst xs)) : SqL K H a xs := .inl (.inl (e _ _ h))
theorem Rps.length {K : PySem.W.Frag} {G : Hp} : ∀ {ds : List D} {vs : List V}, Rps K G ds vs → ds.length = vs.length
  | _, _, .nil => rfl
  | _, _, .cons _ r => by rw [List.length_cons, List.length_cons, Rps.length r]
theorem Rps.append {K : PySem.W.Frag} {G : Hp} : ∀ {ds es : List D} {vs ws : List V}, Rps K G ds vs → Rps K G es ws → Rps K G (ds ++ es) (vs ++ ws)
  | _, _, _, _, .nil, r => r
  | _, _, _, _, .cons h t, r => .cons h (Rps.append t r)
theorem Rps.getL {K : PySem.W.Frag} {G : Hp} : ∀ {ds : List D} {vs : List V} {i : Nat} {d : D}, Rps K G ds vs → ds[i]? = some d → ∃ v, vs[i]? = some v ∧ Rp K G d v
  | _, _, _, _, .nil, e => by simp at e
  | _, _, 0, _, .cons h _, e => by
    have e : _ = _ := Option.some.inj e
    subst e
    exact ⟨_, rfl, h⟩
  | _, _, i + 1, d, .cons _ t, e => by
    obtain ⟨v, h1, h2⟩ := Rps.getL (i := i) (d := d) t (by simpa using e)
    exact ⟨v, by simpa using h1, h2⟩
theorem Rps.getR {K : PySem.W.Frag} {G : Hp} : ∀ {ds : List D} {vs : List V} {i : Nat} {v : V}, Rps K G ds vs → vs[i]? = some v → ∃ d, ds[i]? = some d ∧ Rp K G d v
  | _, _, _, _, .nil, e => by simp at e
  | _, _, 0, _, .cons h _, e => by
    have e : _ = _ := Option.some.inj e
    subst e
    exact ⟨_, rfl, h⟩
  | _, _, i + 1, v, .cons _ t, e => by
    obtain ⟨d, h1, h2⟩ := Rps.getR (i := i) (v := v) t (by simpa using e)
    exact ⟨d, by simpa using h1, h2⟩
theorem Rps.take {K : PySem.W.Frag} {G : Hp} : ∀ {ds : List D} {vs : List V} (n : Nat), Rps K G ds vs → Rps K G (ds.take n) (vs.take n)
  | _, _, 0, _ => .nil
  | _, _, _ + 1, .nil => .nil
  | _, _, n + 1, .cons h r => .cons h (Rps.take n r)
theorem Rps.drop {K : PySem.W.Frag} {G : Hp} : ∀ {ds : List D} {vs : List V} (n : Nat), Rps K G ds vs → Rps K G (ds.drop n) (vs.drop n)
  | _, _, 0, r => r
  | _, _, _ + 1, .nil => .nil
  | _, _, n + 1, .cons _ r => Rps.drop n r
theorem Rps.set {K : PySem.W.Frag} {G : Hp} {d : D} {v : V} (h : Rp K G d v) : ∀ {ds : List D} {vs : List V} (n : Nat), Rps K G ds vs → Rps K G (ds.set n d) (vs.set n v)
  | _, _, _, .nil => .nil
  | _, _, 0, .cons _ r => .cons h r
  | _, _, n + 1, .cons q r => .cons q (Rps.set h n r)
theorem Rps.eraseIdx {K : PySem.W.Frag} {G : Hp} : ∀ {ds : List D} {vs : List V} (n : Nat), Rps K G ds vs → Rps K G (ds.eraseIdx n) (vs.eraseIdx n)
  | _, _, _, .nil => .nil
  | _, _, 0, .cons _ r => r
  | _, _, n + 1, .cons q r => .cons q (Rps.eraseIdx n r)
theorem Rps.dropLast {K : PySem.W.Frag} {G : Hp} {ds : List D} {vs : List V} (r : Rps K G ds vs) : Rps K G ds.dropLast vs.dropLast := by
  rw [List.dropLast_eq_take, List.dropLast_eq_take, r.length]
  exact r.take _
/-- the cell at a -/
noncomputable def CellOk (K : PySem.W.Frag) (G H : Hp) (a : Addr) : Cell → Prop
  | .lst ds => ∃ xs, H a = some (.lst xs) ∧ Rps K G ds xs
  | .dct ds => ∃ kvs : List (Key × V), H a = some (.dK kvs) ∧ kvs.map (·.1) = ds.map (·.1) ∧ Rps K G (ds.map (·.2)) (kvs.map (·.2))
  | .ins C ds => ∃ (dx : Addr) (fs : List (Str × V)), H a = some (.ins C dx fs) ∧ fs.map (·.1) = ds.map (·.1) ∧ Rps K G (ds.map (·.2)) (fs.map (·.2))
structure Sm (K : PySem.W.Frag) (μ : Store) (G H : Hp) : Prop where
  ex : Ex G H
  st : ∀ a c, μ a = some c → G a = none ∧ CellOk K G H a c
theorem CellOk.mono {K : PySem.W.Frag} {G G' H H' : Hp} {a : Addr} {c : Cell} (e : Ex G G') (h : H' a = H a) (x : CellOk K G H a c) : CellOk K G' H' a c := by
  cases c with
  | lst ds => obtain ⟨xs, h1, r⟩ := x; exact ⟨xs, h.trans h1, r.mono e⟩
  | dct ds => obtain ⟨kvs, h1, k, r⟩ := x; exact ⟨kvs, h.trans h1, k, r.mono e⟩
  | ins C ds => obtain ⟨dx, fs, h1, k, r⟩ := x; exact ⟨dx, fs, h.trans h1, k, r.mono e⟩
theorem CellOk.there {K : PySem.W.Frag} {G H : Hp} {a : Addr} {c : Cell} (x : CellOk K G H a c) : ∃ o, H a = some o := by
  cases c with
  | lst ds => obtain ⟨xs, h1, r⟩ := x; exact ⟨_, h1⟩
  | dct ds => obtain ⟨kvs, h1, k, r⟩ := x; exact ⟨_, h1⟩
  | ins C ds => obtain ⟨dx, fs, h1, k, r⟩ := x; exact ⟨_, h1⟩
section
variable {K : PySem.W.Frag} {μ μ' : Store} {G H : Hp} {a p : Addr}
theorem Sm.nn (S : Sm K μ G H) (h : H p = none) : μ p = none := by
  cases q : μ p with
  | none => rfl
  | some c => obtain ⟨o, e⟩ := (S.st p c q).2.there; rw [e] at h; cases h
theorem Sm.sub (S : Sm K μ G H) (h : Sub μ' μ) : Sm K μ' G H := ⟨S.ex, fun a c e => S.st a c (h a c e)⟩
/-- a new frozen object -/
theorem Sm.frozen (S : Sm K μ G H) (h : H p = none) (o : HO) : Sm K μ (upd G p o) (upd H p o) ∧ Ex G (upd G p o) := by
  refine ⟨⟨S.ex.upd2 p o, fun a c e => ?_⟩, Ex.new (S.ex.nn h)⟩
  obtain ⟨h1, h2⟩ := S.st a c e
  have ne : a ≠ p := by rintro rfl; rw [S.nn h] at e; cases e
  exact ⟨by rw [upd_ne ne]; exact h1, h2.mono (Ex.new (S.ex.nn h)) (upd_ne ne)⟩
/-- a new object that nobody tells of -/
theorem Sm.hidden (S : Sm K μ G H) (h : H p = none) (o : HO) : Sm K μ G (upd H p o) := by
  refine ⟨S.ex.mut (S.ex.nn h), fun a c e => ?_⟩
  obtain ⟨h1, h2⟩ := S.st a c e
  have ne : a ≠ p := by rintro rfl; rw [S.nn h] at e; cases e
  exact ⟨h1, h2.mono (Ex.refl _) (upd_ne ne)⟩
/-- a cell written, or made -/
theorem Sm.write (S : Sm K μ G H) (h : G p = none) {o : HO} {c : Cell} (k : CellOk K G (upd H p o) p c) : Sm K (setS μ p c) G (upd H p o) := by
  refine ⟨S.ex.mut h, fun a d e => ?_⟩
  by_cases q : a = p
  · subst q
    rw [setS_same] at e
    cases e
    exact ⟨h, k⟩
  · rw [setS_ne q] at e
    obtain ⟨h1, h2⟩ := S.st a d e
    exact ⟨h1, h2.mono (Ex.refl _) (upd_ne q)⟩
theorem Sm.freezeL (S : Sm K μ G H) {ds : List D} (h : μ p = some (.lst ds)) : ∃ G', Sm K (delS μ p) G' H ∧ Ex G G' ∧ Rp K G' (.lst ds) (.ref p) := by
  obtain ⟨h0, xs, h1, r⟩ := S.st p _ h
  refine ⟨upd G p (.lst xs), ⟨fun b o e => ?_, fun b c e => ?_⟩, Ex.new h0, .lst upd_same (r.mono (Ex.new h0))⟩
  · by_cases q : b = p
    · subst q; rw [upd_same] at e; rw [h1]; exact e
    · rw [upd_ne q] at e; exact S.ex b o e
  · by_cases q : b = p
    · subst q; rw [delS_same] at e; cases e
    · rw [delS_ne q] at e
      obtain ⟨k1, k2⟩ := S.st b c e
      exact ⟨by rw [upd_ne q]; exact k1, k2.mono (Ex.new h0) rfl⟩
theorem Sm.freezeD (S : Sm K μ G H) {ds : List (Key × D)} (h : μ p = some (.dct ds)) : ∃ G', Sm K (delS μ p) G' H ∧ Ex G G' ∧ Rp K G' (.dct ds) (.ref p) := by
  obtain ⟨h0, kvs, h1, k, r⟩ := S.st p _ h
  refine ⟨upd G p (.dK kvs), ⟨fun b o e => ?_, fun b c e => ?_⟩, Ex.new h0, .dct upd_same k (r.mono (Ex.new h0))⟩
  · by_cases q : b = p
    · subst q; rw [upd_same] at e; rw [h1]; exact e
    · rw [upd_ne q] at e; exact S.ex b o e
  · by_cases q : b = p
    · subst q; rw [delS_same] at e; cases e
    · rw [delS_ne q] at e
      obtain ⟨k1, k2⟩ := S.st b c e
      exact ⟨by rw [upd_ne q]; exact k1, k2.mono (Ex.new h0) rfl⟩
theorem Sm.freezeI (S : Sm K μ G H) {C : Addr} {ds : List (Str × D)} (h : μ p = some (.ins C ds)) : ∃ G', Sm K (delS μ p) G' H ∧ Ex G G' ∧ Rp K G' (.obj C ds) (.ref p) := by
  obtain ⟨h0, dx, fs, h1, k, r⟩ := S.st p _ h
  refine ⟨upd G p (.ins C dx fs), ⟨fun b o e => ?_, fun b c e => ?_⟩, Ex.new h0, .obj upd_same k (r.mono (Ex.new h0))⟩
  · by_cases q : b = p
    · subst q; rw [upd_same] at e; rw [h1]; exact e
    · rw [upd_ne q] at e; exact S.ex b o e
  · by_cases q : b = p
    · subst q; rw [delS_same] at e; cases e
    · rw [delS_ne q] at e
      obtain ⟨k1, k2⟩ := S.st b c e
      exact ⟨by rw [upd_ne q]; exact k1, k2.mono (Ex.new h0) rfl⟩
end
noncomputable abbrev Env := List (Option D)
noncomputable def EnvR (K : PySem.W.Frag) (G : Hp) (ρ : Env) (σ : L2.St) : Prop := ρ.length ≤ σ.length ∧ ∀ (i : Nat) d, ρ[i]? = some (some d) → ∃ v, σ[i]? = some (some v) ∧ Rp K G d v
section
variable {K : PySem.W.Frag} {G G' : Hp} {ρ : Env} {σ : L2.St}
theorem EnvR.mono (e : Ex G G') (h : EnvR K G ρ σ) : EnvR K G' ρ σ := ⟨h.1, fun i d q => by
  obtain ⟨v, h1, h2⟩ := h.2 i d q
  exact ⟨v, h1, h2.mono e⟩⟩
theorem EnvR.set (h : EnvR K G ρ σ) (i : Nat) {d : D} {v : V} (r : Rp K G d v) : EnvR K G (ρ.set i (some d)) (σ.set i (some v)) := by
  refine ⟨by rw [List.length_set, List.length_set]; exact h.1, fun j e q => ?_⟩
  by_cases hj : i = j
  · subst hj
    by_cases hl : i < ρ.length
    · rw [List.getElem?_set_self hl] at q
      cases q
      exact ⟨v, by rw [List.getElem?_set_self (Nat.lt_of_lt_of_le hl h.1)], r⟩
    · rw [List.getElem?_eq_none (by rw [List.length_set]; omega)] at q
      cases q
  · rw [List.getElem?_set_ne hj] at q ⊢
    exact h.2 j e q
end
section
variable {κ : Type} [DecidableEq κ]
noncomputable def look {β : Type} : List (κ × β) → κ → Option β
  | [], _ => none
  | p :: r, k => if p.1 = k then some p.2 else look r k
noncomputable def put {β : Type} : List (κ × β) → κ → β → List (κ × β)
  | [], k, v => [(k, v)]
  | p :: r, k, v => if p.1 = k then (p.1, v) :: r else p :: put r k v
theorem look_keys {K : PySem.W.Frag} {G : Hp} {k : κ} : ∀ {ds : List (κ × D)} {kvs : List (κ × V)}, kvs.map (·.1) = ds.map (·.1) → Rps K G (ds.map (·.2)) (kvs.map (·.2)) →
    (∀ d, look ds k = some d → ∃ v, look kvs k = some v ∧ Rp K G d v) ∧ (look ds k = none → look kvs k = none)
  | [], [], _, _ => ⟨fun _ h => (by cases h), fun _ => rfl⟩
  | [], _ :: _, e, _ => by simp at e
  | _ :: _, [], e, _ => by simp at e
  | (a, d) :: ds, (b, v) :: kvs, e, r => by
    have e1 : b = a ∧ kvs.map (·.1) = ds.map (·.1) := by simpa using e
    obtain ⟨rfl, e2⟩ := e1
    cases r with
    | cons h r =>
      have ih := look_keys (k := k) e2 r
      unfold look
      by_cases q : b = k
      · rw [if_pos q, if_pos q]
        exact ⟨fun d' h' => by cases h'; exact ⟨v, rfl, h⟩, fun h' => by cases h'⟩
      · rw [if_neg q, if_neg q]
        exact ih
theorem put_keys {K : PySem.W.Frag} {G : Hp} {k : κ} {d : D} {v : V} (hd : Rp K G d v) : ∀ {ds : List (κ × D)} {kvs : List (κ × V)}, kvs.map (·.1) = ds.map (·.1) → Rps K G (ds.map (·.2)) (kvs.map (·.2)) →
    (put kvs k v).map (·.1) = (put ds k d).map (·.1) ∧ Rps K G ((put ds k d).map (·.2)) ((put kvs k v).map (·.2))
  | [], [], _, _ => ⟨rfl, .cons hd .nil⟩
  | [], _ :: _, e, _ => by simp at e
  | _ :: _, [], e, _ => by simp at e
  | (a, d1) :: ds, (b, v1) :: kvs, e, r => by
    have e1 : b = a ∧ kvs.map (·.1) = ds.map (·.1) := by simpa using e
    obtain ⟨rfl, e2⟩ := e1
    cases r with
    | cons h r =>
      obtain ⟨i1, i2⟩ := put_keys (k := k) hd e2 r
      unfold put
      by_cases q : b = k
      · rw [if_pos q, if_pos q]
        exact ⟨by simp [e2], .cons hd r⟩
      · rw [if_neg q, if_neg q]
        exact ⟨by simp [i1], .cons h i2⟩
end
theorem valV_look {κ : Type} [DecidableEq κ] {k : κ} : ∀ kvs : List (κ × V), valV kvs k = look kvs k
  | [] => rfl
  | p :: r => by
    by_cases e : p.1 = k
    · rw [valV_pos e]; unfold look; rw [if_pos e]
    · rw [valV_neg e]; unfold look; rw [if_neg e]; exact valV_look r
end Dl
namespace Dl
open PySem L2
noncomputable abbrev WE := Env → Store → (D → Store → Prop) → Prop
noncomputable abbrev WT := Env → Store → (Bool → Store → Prop) → Prop
noncomputable abbrev WA := Env → Store → (List D → Store → Prop) → Prop
structure WEnds where
  nx : Env → Store → Prop
  rt : D → Store → Prop
  bk : Env → Store → Prop := fun _ _ => False
  ct : Env → Store → Prop := fun _ _ => False
noncomputable abbrev WS := WEnds → Env → Store → Prop
noncomputable def Tells (K : PySem.W.Frag) (G : Hp) (P : D → Store → Prop) (Q : VK) : Prop := ∀ d μ' v H' G', P d μ' → Ex G G' → Sm K μ' G' H' → Rp K G' d v → Q v H'
noncomputable def TellsT (K : PySem.W.Frag) (G : Hp) (P : Bool → Store → Prop) (Q : Bool → Hp → Prop) : Prop := ∀ b μ' H' G', P b μ' → Ex G G' → Sm K μ' G' H' → Q b H'
noncomputable def TellsA (K : PySem.W.Frag) (G : Hp) (P : List D → Store → Prop) (Q : List V → Hp → Prop) : Prop := ∀ ds μ' vs H' G', P ds μ' → Ex G G' → Sm K μ' G' H' → Rps K G' ds vs → Q vs H'
structure TellsS (K : PySem.W.Frag) (G : Hp) (W : WEnds) (D : Ends) : Prop where
  nx : ∀ ρ' μ' σ' H' G', W.nx ρ' μ' → Ex G G' → EnvR K G' ρ' σ' → Sm K μ' G' H' → D.nx σ' H'
  rt : ∀ d μ' v H' G', W.rt d μ' → Ex G G' → Sm K μ' G' H' → Rp K G' d v → D.rt v H'
  bk : ∀ ρ' μ' σ' H' G', W.bk ρ' μ' → Ex G G' → EnvR K G' ρ' σ' → Sm K μ' G' H' → D.bk σ' H'
  ct : ∀ ρ' μ' σ' H' G', W.ct ρ' μ' → Ex G G' → EnvR K G' ρ' σ' → Sm K μ' G' H' → D.ct σ' H'
theorem Tells.mono {K : PySem.W.Frag} {G G' : Hp} {P : D → Store → Prop} {Q : VK} (e : Ex G G') (h : Tells K G P Q) : Tells K G' P Q := fun d μ v H G2 p e2 m r => h d μ v H G2 p (e.trans e2) m r
theorem TellsT.mono {K : PySem.W.Frag} {G G' : Hp} {P : Bool → Store → Prop} {Q : Bool → Hp → Prop} (e : Ex G G') (h : TellsT K G P Q) : TellsT K G' P Q := fun d μ H G2 p e2 m => h d μ H G2 p (e.trans e2) m
theorem TellsA.mono {K : PySem.W.Frag} {G G' : Hp} {P : List D → Store → Prop} {Q : List V → Hp → Prop} (e : Ex G G') (h : TellsA K G P Q) : TellsA K G' P Q := fun d μ v H G2 p e2 m r => h d μ v H G2 p (e.trans e2) m r
theorem TellsS.mono {K : PySem.W.Frag} {G G' : Hp} {W : WEnds} {D : Ends} (e : Ex G G') (h : TellsS K G W D) : TellsS K G' W D :=
  ⟨fun a b c d f g x => h.nx a b c d f g (e.trans x), fun a b c d f g x => h.rt a b c d f g (e.trans x), fun a b c d f g x => h.bk a b c d f g (e.trans x), fun a b c d f g x => h.ct a b c d f g (e.trans x)⟩
noncomputable def LE (K : PySem.W.Frag) (w : WE) : TE := fun σ H Q => ∃ ρ μ G P, EnvR K G ρ σ ∧ Sm K μ G H ∧ w ρ μ P ∧ Tells K G P Q
noncomputable def LT (K : PySem.W.Frag) (w : WT) : TT := fun σ H Q => ∃ ρ μ G P, EnvR K G ρ σ ∧ Sm K μ G H ∧ w ρ μ P ∧ TellsT K G P Q
noncomputable def LA (K : PySem.W.Frag) (w : WA) : TA := fun σ H Q => ∃ ρ μ G P, EnvR K G ρ σ ∧ Sm K μ G H ∧ w ρ μ P ∧ TellsA K G P Q
noncomputable def LS (K : PySem.W.Frag) (w : WS) : TS := fun D σ H => ∃ ρ μ G W, EnvR K G ρ σ ∧ Sm K μ G H ∧ w W ρ μ ∧ TellsS K G W D
structure DE (X : Cx) (e : Expr) (w : WE) : Prop where
  p : PE X e (LE X.K w)
structure DT (X : Cx) (e : Expr) (w : WT) : Prop where
  p : PT X e (LT X.K w)
structure DW (X : Cx) (e : Expr) (w : WT) : Prop where
  p : PW X e (LT X.K w)
structure DA (X : Cx) (es : List Expr) (w : WA) : Prop where
  p : PA X es (LA X.K w)
structure DS (X : Cx) (st : Stmt) (w : WS) : Prop where
  p : PS X st (LS X.K w)
structure DSs (X : Cx) (st : List Stmt) (w : WS) : Prop where
  p : PSs X st (LS X.K w)
section
variable {X : Cx}
theorem wkE {e : Expr} {t t' : TE} (h : PE X e t) (k : ∀ σ H Q, t' σ H Q → t σ H Q) : PE X e t' := ⟨fun pins s σ H Q I q => h.run pins s σ H Q I (k σ H Q q)⟩
theorem wkT {e : Expr} {t t' : TT} (h : PT X e t) (k : ∀ σ H Q, t' σ H Q → t σ H Q) : PT X e t' := ⟨fun pins s σ H Q I q => h.run pins s σ H Q I (k σ H Q q)⟩
theorem wkW {e : Expr} {t t' : TT} (h : PW X e t) (k : ∀ σ H Q, t' σ H Q → t σ H Q) : PW X e t' := ⟨fun wh pins s σ H Q I q => h.run wh pins s σ H Q I (k σ H Q q)⟩
theorem wkA {e : List Expr} {t t' : TA} (h : PA X e t) (k : ∀ σ H Q, t' σ H Q → t σ H Q) : PA X e t' := ⟨fun pos pins s σ H Q I q => h.run pos pins s σ H Q I (k σ H Q q)⟩
theorem wkS {e : Stmt} {t t' : TS} (h : PS X e t) (k : ∀ D σ H, t' D σ H → t D σ H) : PS X e t' := ⟨fun pins s σ H D I q => h.run pins s σ H D I (k D σ H q)⟩
theorem wkSs {e : List Stmt} {t t' : TS} (h : PSs X e t) (k : ∀ D σ H, t' D σ H → t D σ H) : PSs X e t' := ⟨fun pins s σ H D I q => h.run pins s σ H D I (k D σ H q)⟩
noncomputable def wVar (i : Nat) : WE := fun ρ μ P => match ρ.getD i none with | some d => P d μ | none => False
noncomputable def wC (d : D) : WE := fun _ μ P => P d μ
theorem getD_some {ρ : Env} {i : Nat} {d : D} (h : ρ.getD i none = some d) : ρ[i]? = some (some d) := by
  rw [List.getD_eq_getElem?_getD] at h
  cases q : ρ[i]? with
  | none => rw [q] at h; cases h
  | some x => rw [q] at h; exact congrArg some h
theorem de_var {i : Nat} {x : Str} {pos : Pos} (h : PE X (.Name x pos) (tVar i)) : DE X (.Name x pos) (wVar i) := ⟨wkE h fun σ H Q ⟨ρ, μ, G, P, he, hm, hw, ht⟩ => by
  unfold wVar at hw
  cases q : ρ.getD i none with
  | none => rw [q] at hw; exact hw.elim
  | some d =>
    rw [q] at hw
    obtain ⟨v, h1, h2⟩ := he.2 i d (getD_some q)
    exact ⟨v, h1, ht d μ v H G hw (Ex.refl _) hm h2⟩⟩
theorem de_c {e : Expr} {v : V} {d : D} (h : PE X e (tC v)) (r : ∀ G, Rp X.K G d v) : DE X e (wC d) := ⟨wkE h fun σ H Q ⟨ρ, μ, G, P, he, hm, hw, ht⟩ => ht d μ v H G hw (Ex.refl _) hm (r G)⟩
theorem de_int {i j pos} : DE X (.Constant (.int i) j pos) (wC (.int i)) := de_c pe_int fun _ => .int i
theorem de_bl {i j pos} : DE X (.Constant (.bool i) j pos) (wC (.bl i)) := de_c pe_bl fun _ => .bl i
theorem de_str {i j pos} : DE X (.Constant (.str i) j pos) (wC (.str i)) := de_c pe_str fun _ => .str i
theorem de_non {j pos} : DE X (.Constant .none j pos) (wC .non) := de_c pe_non fun _ => .non
noncomputable abbrev OD := D → D → Store → (D → Store → Prop) → Prop
noncomputable def OpS (X : Cx) (f : Value → Value → Sem Value) (o : OD) : Prop :=
  ∃ r, OpR X f r ∧ ∀ {x y : D} {μ : Store} {P : D → Store → Prop} {G H : Hp} {v u : V} {Q : VK}, o x y μ P → Sm X.K μ G H → Rp X.K G x v → Rp X.K G y u → Tells X.K G P Q → r v u H Q
noncomputable def wOp (o : OD) (wa wb : WE) : WE := fun ρ μ P => wa ρ μ fun x μ1 => wb ρ μ1 fun y μ2 => o x y μ2 P
variable {a b c : Expr} {wa wb wc : WE} {pos : Pos}
theorem lop {r : R2} {o : OD} (hs : ∀ {x y : D} {μ : Store} {P : D → Store → Prop} {G H : Hp} {v u : V} {Q : VK}, o x y μ P → Sm X.K μ G H → Rp X.K G x v → Rp X.K G y u → Tells X.K G P Q → r v u H Q) :
    ∀ σ H Q, LE X.K (wOp o wa wb) σ H Q → tOp r (LE X.K wa) (LE X.K wb) σ H Q := fun σ H Q ⟨ρ, μ, G, P, he, hm, hw, ht⟩ =>
  ⟨ρ, μ, G, _, he, hm, hw, fun x μ1 v1 H1 G1 p1 e1 m1 r1 => ⟨ρ, μ1, G1, _, he.mono e1, m1, p1, fun y μ2 v2 H2 G2 p2 e2 m2 r2 => hs p2 m2 (r1.mono e2) r2 (ht.mono (e1.trans e2))⟩⟩
theorem de_op {op : Operator} {o : OD} (ho : OpS X (binaryOp op) o) (ha : DE X a wa) (hb : DE X b wb) : DE X (.BinOp a op b pos) (wOp o wa wb) := by
  obtain ⟨r, hr, hs⟩ := ho
  exact ⟨wkE (pe_op hr ha.p hb.p) (lop hs)⟩
theorem de_cmp {op : CmpOp} {o : OD} (ho : OpS X (compareOp op) o) (ha : DE X a wa) (hb : DE X b wb) (hm : behindInMarks op b = false) : DE X (.Compare a [op] [b] pos) (wOp o wa wb) := by
  obtain ⟨r, hr, hs⟩ := ho
  exact ⟨wkE (pe_cmpR hr ha.p hb.p hm) (lop hs)⟩
/-- a value that is a truth value, as a test -/
noncomputable def wB (w : WE) : WT := fun ρ μ P => w ρ μ fun d μ1 => match d with | .bl k => P k μ1 | _ => False
theorem dt_cmp {op : CmpOp} {o : OD} (ho : OpS X (compareOp op) o) (ha : DE X a wa) (hb : DE X b wb) (hm : behindInMarks op b = false) : DT X (.Compare a [op] [b] pos) (wB (wOp o wa wb)) := by
  obtain ⟨r, hr, hs⟩ := ho
  refine ⟨wkT (pt_cmpR hr ha.p hb.p hm) fun σ H Q ⟨ρ, μ, G, P, he, hm, hw, ht⟩ => lop hs σ H _ ⟨ρ, μ, G, _, he, hm, hw, fun d μ' v H' G' p e m r => ?_⟩⟩
  cases d with
  | bl k => cases r; exact ⟨k, rfl, ht k μ' H' G' p e m⟩
  | _ => exact p.elim
/-- two comparisons in a row -/
noncomputable def wChain (o o' : OD) (wa wb wc : WE) : WE := fun ρ μ P => wa ρ μ fun x μ1 => wb ρ μ1 fun y μ2 => o x y μ2 fun z μ3 => match z with
  | .bl true => wc ρ μ3 fun u μ4 => o' y u μ4 P
  | .bl false => P (.bl false) μ3
  | _ => False
theorem lchain {r r' : R2} {o o' : OD} (hs : ∀ {x y : D} {μ : Store} {P : D → Store → Prop} {G H : Hp} {v u : V} {Q : VK}, o x y μ P → Sm X.K μ G H → Rp X.K G x v → Rp X.K G y u → Tells X.K G P Q → r v u H Q)
    (hs' : ∀ {x y : D} {μ : Store} {P : D → Store → Prop} {G H : Hp} {v u : V} {Q : VK}, o' x y μ P → Sm X.K μ G H → Rp X.K G x v → Rp X.K G y u → Tells X.K G P Q → r' v u H Q) :
    ∀ σ H Q, LE X.K (wChain o o' wa wb wc) σ H Q → tChain r r' (LE X.K wa) (LE X.K wb) (LE X.K wc) σ H Q := fun σ H Q ⟨ρ, μ, G, P, he, hm, hw, ht⟩ =>
  ⟨ρ, μ, G, _, he, hm, hw, fun x μ1 v1 H1 G1 p1 e1 m1 r1 => ⟨ρ, μ1, G1, _, he.mono e1, m1, p1, fun y μ2 v2 H2 G2 p2 e2 m2 r2 => hs p2 m2 (r1.mono e2) r2 fun z μ3 v3 H3 G3 p3 e3 m3 r3 => by
    cases z with
    | bl k =>
      cases r3
      refine ⟨k, rfl, ?_⟩
      cases k with
      | true =>
        rw [if_pos rfl]
        exact ⟨ρ, μ3, G3, _, ((he.mono e1).mono e2).mono e3, m3, p3, fun u μ4 v4 H4 G4 p4 e4 m4 r4 => hs' p4 m4 ((r2.mono e3).mono e4) r4 (ht.mono (((e1.trans e2).trans e3).trans e4))⟩
      | false =>
        rw [if_neg Bool.false_ne_true]
        exact ht _ _ _ _ _ p3 ((e1.trans e2).trans e3) m3 (.bl false)
    | _ => exact p3.elim⟩⟩
theorem dt_chain {op op' : CmpOp} {o o' : OD} (ho : OpS X (compareOp op) o) (ho' : OpS X (compareOp op') o') (ha : DE X a wa) (hb : DE X b wb) (hc : DE X c wc) (hm : lastMarks [op, op'] [b, c] = false) : DT X (.Compare a [op, op'] [b, c] pos) (wB (wChain o o' wa wb wc)) := by
  obtain ⟨r, hr, hs⟩ := ho
  obtain ⟨r', hr', hs'⟩ := ho'
  refine ⟨wkT (pt_chain hr hr' ha.p hb.p hc.p hm) fun σ H Q ⟨ρ, μ, G, P, he, hm, hw, ht⟩ => lchain hs hs' σ H _ ⟨ρ, μ, G, _, he, hm, hw, fun d μ' v H' G' p e m r => ?_⟩⟩
  cases d with
  | bl k => cases r; exact ⟨k, rfl, ht k μ' H' G' p e m⟩
  | _ => exact p.elim
noncomputable def wAnd (t u : WT) : WT := fun ρ μ P => t ρ μ fun b μ1 => if b = true then u ρ μ1 P else P false μ1
noncomputable def wOr (t u : WT) : WT := fun ρ μ P => t ρ μ fun b μ1 => if b = true then P true μ1 else u ρ μ1 P
noncomputable def wNt (t : WT) : WT := fun ρ μ P => t ρ μ fun b μ1 => P (!b) μ1
/-- the items of what may be appended, joined, .. -/
noncomputable def seqL (μ : Store) : D → Option (List D)
  | .lst xs => some xs
  | .ref a => match μ a with | some (.lst xs) => some xs | _ => none
  | _ => none
/-- .. of what is only read -/
noncomputable def seqR (μ : Store) : D → Option (List D)
  | .scr xs => some xs
  | d => seqL μ d
/-- .. of a list or a tuple -/
noncomputable def seqA (μ : Store) : D → Option (List D)
  | .tup xs => some xs
  | d => seqR μ d
theorem seqL_ok {K : PySem.W.Frag} {μ : Store} {G H : Hp} {d : D} {v : V} {ds : List D} (h : seqL μ d = some ds) (m : Sm K μ G H) (r : Rp K G d v) : ∃ a xs, v = .ref a ∧ H a = some (.lst xs) ∧ Rps K G ds xs := by
  cases r with
  | lst h1 r1 => cases h; exact ⟨_, _, rfl, m.ex _ _ h1, r1⟩
  | ref a =>
    unfold seqL at h
    dsimp only at h
    cases q : μ a with
    | none => rw [q] at h; cases h
    | some c =>
      rw [q] at h
      cases c with
      | lst xs => cases h; obtain ⟨_, xs, h1, r1⟩ := m.st a _ q; exact ⟨a, xs, rfl, h1, r1⟩
      | _ => cases h
  | _ => cases h
theorem seqR_ok {K : PySem.W.Frag} {μ : Store} {G H : Hp} {d : D} {v : V} {ds : List D} (h : seqR μ d = some ds) (m : Sm K μ G H) (r : Rp K G d v) : ∃ a xs, v = .ref a ∧ SqL K H a xs ∧ Rps K G ds xs := by
  by_cases q : ∃ es, d = .scr es
  · obtain ⟨es, rfl⟩ := q
    cases h
    cases r with
    | scr h1 r1 => exact ⟨_, _, rfl, h1.sq m.ex, r1⟩
  · have h' : seqL μ d = some ds := by
      cases d with
      | scr es => exact (q ⟨es, rfl⟩).elim
      | _ => exact h
    obtain ⟨a, xs, e, h1, r1⟩ := seqL_ok h' m r
    exact ⟨a, xs, e, SqL.of h1, r1⟩
theorem seqA_ok {K : PySem.W.Frag} {μ : Store} {G H : Hp} {d : D} {v : V} {ds : List D} (h : seqA μ d = some ds) (m : Sm K μ G H) (r : Rp K G d v) : ∃ a xs, v = .ref a ∧ (SqL K H a xs ∨ SqT K H a xs) ∧ Rps K G ds xs := by
  by_cases q : ∃ es, d = .tup es
  · obtain ⟨es, rfl⟩ := q
    cases h
    cases r with
    | tup h1 r1 => exact ⟨_, _, rfl, .inr (h1.sq m.ex), r1⟩
  · have h' : seqR μ d = some ds := by
      cases d with
      | tup es => exact (q ⟨es, rfl⟩).elim
      | _ => exact h
    obtain ⟨a, xs, e, h1, r1⟩ := seqR_ok h' m r
    exact ⟨a, xs, e, .inl h1, r1⟩
/-- a value's truth -/
noncomputable def truD (μ : Store) : D → Option Bool
  | .non => some false
  | .bl b => some b
  | .int i => some (i != 0)
  | .str s => some ((s.length : Int) != 0)
  | .tup xs => some (!xs.isEmpty)
  | .lst xs => some (!xs.isEmpty)
  | .scr xs => some (!xs.isEmpty)
  | .dct xs => some (!xs.isEmpty)
  | .ref a => match μ a with | some (.lst xs) => some (!xs.isEmpty) | some (.dct xs) => some (!xs.isEmpty) | _ => none
  | _ => none
noncomputable def okLen : D → Prop
  | .str s => s.length ≤ sizeLine
  | _ => True
theorem Rps.emp {K : PySem.W.Frag} {G : Hp} {ds : List D} {vs : List V} (r : Rps K G ds vs) : vs.isEmpty = ds.isEmpty := by cases r <;> rfl
theorem map_emp {α β : Type} (f : α → β) (l : List α) : (l.map f).isEmpty = l.isEmpty := by cases l <;> rfl
theorem emp_keys {κ α β : Type} {l : List (κ × α)} {m : List (κ × β)} (h : l.map (·.1) = m.map (·.1)) : l.isEmpty = m.isEmpty := by
  have e := congrArg List.isEmpty h
  rw [map_emp, map_emp] at e
  exact e
theorem tru_of {K : PySem.W.Frag} {μ : Store} {G H : Hp} {d : D} {v : V} {k : Bool} (h : truD μ d = some k) (hl : okLen d) (m : Sm K μ G H) (r : Rp K G d v) : TruV K v H k := by
  cases r with
  | non => cases h; rfl
  | bl b => cases h; rfl
  | int i => cases h; rfl
  | str s => cases h; exact ⟨hl, rfl⟩
  | ty n => cases h
  | tup h1 r1 => cases h; exact .inr (.inl ⟨_, h1.sq m.ex, by rw [r1.emp]⟩)
  | lst h1 r1 => cases h; exact .inl ⟨_, lst_sq m.ex h1, by rw [r1.emp]⟩
  | scr h1 r1 => cases h; exact .inl ⟨_, h1.sq m.ex, by rw [r1.emp]⟩
  | dct h1 e r1 => cases h; exact .inr (.inr ⟨_, m.ex _ _ h1, congrArg (!·) (emp_keys e).symm⟩)
  | dcl h1 e r1 => cases h
  | obj h1 e r1 => cases h
  | excN => cases h
  | excD h1 e r1 => cases h
  | ref a =>
    unfold truD at h
    dsimp only at h
    cases q : μ a with
    | none => rw [q] at h; cases h
    | some c =>
      rw [q] at h
      cases c with
      | lst xs => cases h; obtain ⟨_, xs, h1, r1⟩ := m.st a _ q; exact .inl ⟨xs, SqL.of h1, by rw [r1.emp]⟩
      | dct xs => cases h; obtain ⟨_, kvs, h1, e1, r1⟩ := m.st a _ q; exact .inr (.inr ⟨kvs, h1, congrArg (!·) (emp_keys e1).symm⟩)
      | ins C xs => cases h
noncomputable def wTrv (w : WE) : WT := fun ρ μ P => w ρ μ fun d μ1 => match truD μ1 d with | some k => okLen d ∧ P k μ1 | none => False
theorem dt_tru {e : Expr} {w : WE} (h : DE X e w) (he : ∀ whole, isTrue e X.env whole = (do let v ← whole; standAt e.pos; holding [v] (truthy v))) : DT X e (wTrv w) := by
  refine ⟨wkT (pt_truth h.p he) fun σ H Q ⟨ρ, μ, G, P, hr, hm, hw, ht⟩ => ⟨ρ, μ, G, _, hr, hm, hw, fun d μ' v H' G' p e m r => ?_⟩⟩
  cases q : truD μ' d with
  | none => rw [q] at p; exact p.elim
  | some k =>
    rw [q] at p
    exact ⟨k, tru_of q p.1 m r, ht k μ' H' G' p.2 e m⟩
theorem dw_and1 {t : WT} (h : DT X a t) : DW X (.BoolOp .And [a] pos) t := ⟨pw_and1 h.p⟩
theorem dw_or1 {t : WT} (h : DT X a t) : DW X (.BoolOp .Or [a] pos) t := ⟨pw_or1 h.p⟩
theorem dw_and {t u : WT} {rest : List Expr} (h : DT X a t) (k : DW X (.BoolOp .And (b :: rest) pos) u) : DW X (.BoolOp .And (a :: b :: rest) pos) (wAnd t u) :=
  ⟨wkW (pw_and h.p k.p) fun σ H Q ⟨ρ, μ, G, P, he, hm, hw, ht⟩ => ⟨ρ, μ, G, _, he, hm, hw, fun b μ1 H1 G1 p e m => by
    cases b with
    | true => rw [if_pos rfl] at p ⊢; exact ⟨ρ, μ1, G1, P, he.mono e, m, p, ht.mono e⟩
    | false => rw [if_neg Bool.false_ne_true] at p ⊢; exact ht _ _ _ _ p e m⟩⟩
theorem dw_or {t u : WT} {rest : List Expr} (h : DT X a t) (k : DW X (.BoolOp .Or (b :: rest) pos) u) : DW X (.BoolOp .Or (a :: b :: rest) pos) (wOr t u) :=
  ⟨wkW (pw_or h.p k.p) fun σ H Q ⟨ρ, μ, G, P, he, hm, hw, ht⟩ => ⟨ρ, μ, G, _, he, hm, hw, fun b μ1 H1 G1 p e m => by
    cases b with
    | false => rw [if_neg Bool.false_ne_true] at p ⊢; exact ⟨ρ, μ1, G1, P, he.mono e, m, p, ht.mono e⟩
    | true => rw [if_pos rfl] at p ⊢; exact ht _ _ _ _ p e m⟩⟩
theorem dt_w {t : WT} (h : DW X a t) : DT X a t := ⟨h.p.pt⟩
theorem dt_not {t : WT} (h : DT X a t) : DT X (.UnaryOp .Not a pos) (wNt t) :=
  ⟨wkT (pt_not h.p) fun σ H Q ⟨ρ, μ, G, P, he, hm, hw, ht⟩ => ⟨ρ, μ, G, _, he, hm, hw, fun b μ1 H1 G1 p e m => ht _ _ _ _ p e m⟩⟩
/-- and, or, not as values -/
noncomputable def wAndV (wa wb : WE) : WE := fun ρ μ P => wa ρ μ fun d μ1 => match d with | .bl true => wb ρ μ1 P | .bl false => P (.bl false) μ1 | _ => False
noncomputable def wOrV (wa wb : WE) : WE := fun ρ μ P => wa ρ μ fun d μ1 => match d with | .bl false => wb ρ μ1 P | .bl true => P (.bl true) μ1 | _ => False
noncomputable def wNotV (wa : WE) : WE := fun ρ μ P => wa ρ μ fun d μ1 => match d with | .bl b => P (.bl (!b)) μ1 | _ => False
theorem de_one {op} (h : DE X a wa) : DE X (.BoolOp op [a] pos) wa := ⟨pe_one h.p⟩
theorem de_and {rest : List Expr} (h : DE X a wa) (k : DE X (.BoolOp .And (b :: rest) pos) wb) : DE X (.BoolOp .And (a :: b :: rest) pos) (wAndV wa wb) :=
  ⟨wkE (pe_and h.p k.p) fun σ H Q ⟨ρ, μ, G, P, he, hm, hw, ht⟩ => ⟨ρ, μ, G, _, he, hm, hw, fun d μ1 v H1 G1 p e m r => by
    cases d with
    | bl k =>
      cases r
      refine ⟨k, rfl, ?_⟩
      cases k with
      | true => rw [if_pos rfl]; exact ⟨ρ, μ1, G1, P, he.mono e, m, p, ht.mono e⟩
      | false => rw [if_neg Bool.false_ne_true]; exact ht _ _ _ _ _ p e m (.bl _)
    | _ => exact p.elim⟩⟩
theorem de_or {rest : List Expr} (h : DE X a wa) (k : DE X (.BoolOp .Or (b :: rest) pos) wb) : DE X (.BoolOp .Or (a :: b :: rest) pos) (wOrV wa wb) :=
  ⟨wkE (pe_or h.p k.p) fun σ H Q ⟨ρ, μ, G, P, he, hm, hw, ht⟩ => ⟨ρ, μ, G, _, he, hm, hw, fun d μ1 v H1 G1 p e m r => by
    cases d with
    | bl k =>
      cases r
      refine ⟨k, rfl, ?_⟩
      cases k with
      | false => rw [if_neg Bool.false_ne_true]; exact ⟨ρ, μ1, G1, P, he.mono e, m, p, ht.mono e⟩
      | true => rw [if_pos rfl]; exact ht _ _ _ _ _ p e m (.bl _)
    | _ => exact p.elim⟩⟩
theorem de_not (h : DE X a wa) : DE X (.UnaryOp .Not a pos) (wNotV wa) :=
  ⟨wkE (pe_not h.p) fun σ H Q ⟨ρ, μ, G, P, he, hm, hw, ht⟩ => ⟨ρ, μ, G, _, he, hm, hw, fun d μ1 v H1 G1 p e m r => by
    cases d with
    | bl k => cases r; exact ⟨k, rfl, ht _ _ _ _ _ p e m (.bl _)⟩
    | _ => exact p.elim⟩⟩
noncomputable def wIf (t : WT) (wa wb : WE) : WE := fun ρ μ P => t ρ μ fun b μ1 => if b = true then wa ρ μ1 P else wb ρ μ1 P
theorem de_if {t : WT} (h : DT X c t) (ha : DE X a wa) (hb : DE X b wb) : DE X (.IfExp c a b pos) (wIf t wa wb) :=
  ⟨wkE (pe_ifExp h.p ha.p hb.p) fun σ H Q ⟨ρ, μ, G, P, he, hm, hw, ht⟩ => ⟨ρ, μ, G, _, he, hm, hw, fun b μ1 H1 G1 p e m => by
    cases b with
    | true => rw [if_pos rfl] at p ⊢; exact ⟨ρ, μ1, G1, P, he.mono e, m, p, ht.mono e⟩
    | false => rw [if_neg Bool.false_ne_true] at p ⊢; exact ⟨ρ, μ1, G1, P, he.mono e, m, p, ht.mono e⟩⟩⟩
noncomputable def wANil : WA := fun _ μ P => P [] μ
noncomputable def wACons (w : WE) (r : WA) : WA := fun ρ μ P => w ρ μ fun x μ1 => r ρ μ1 fun xs μ2 => P (x :: xs) μ2
variable {es : List Expr} {wr : WA}
theorem da_nil : DA X [] wANil := ⟨wkA pa_nil fun σ H Q ⟨ρ, μ, G, P, he, hm, hw, ht⟩ => ht _ _ _ _ _ hw (Ex.refl _) hm .nil⟩
theorem da_cons (h : DE X a wa) (k : DA X es wr) (hs : starEach (a :: es) X.env = (false, eval a X.env) :: starEach es X.env := by rfl) : DA X (a :: es) (wACons wa wr) :=
  ⟨wkA (pa_cons h.p k.p hs) fun σ H Q ⟨ρ, μ, G, P, he, hm, hw, ht⟩ => ⟨ρ, μ, G, _, he, hm, hw, fun x μ1 v1 H1 G1 p1 e1 m1 r1 =>
    ⟨ρ, μ1, G1, _, he.mono e1, m1, p1, fun xs μ2 vs H2 G2 p2 e2 m2 r2 => ht _ _ _ _ _ p2 (e1.trans e2) m2 (.cons (r1.mono e2) r2)⟩⟩⟩
noncomputable def wTup (w : WA) : WE := fun ρ μ P => w ρ μ fun xs μ1 => xs.length ≤ sizeLine ∧ P (.tup xs) μ1
/-- a list that stays as it is -/
noncomputable def wLst (w : WA) : WE := fun ρ μ P => w ρ μ fun xs μ1 => xs.length ≤ sizeLine ∧ P (.lst xs) μ1
/-- a list that may change -/
noncomputable def wLstM (w : WA) : WE := fun ρ μ P => w ρ μ fun xs μ1 => xs.length ≤ sizeLine ∧ ∀ p, μ1 p = none → P (.ref p) (setS μ1 p (.lst xs))
theorem new_tup {K : PySem.W.Frag} {μ : Store} {G H : Hp} {ds : List D} {xs : List V} {P : D → Store → Prop} {Q : VK} (m : Sm K μ G H) (r : Rps K G ds xs) (h : P (.tup ds) μ) (t : Tells K G P Q) : ∀ p, H p = none → Q (.ref p) (upd H p (.tup xs)) := fun p hp => by
  obtain ⟨m2, e2⟩ := m.frozen hp (.tup xs)
  exact t _ _ _ _ _ h e2 m2 (.tup (.inl upd_same) (r.mono e2))
theorem new_lst {K : PySem.W.Frag} {μ : Store} {G H : Hp} {ds : List D} {xs : List V} {P : D → Store → Prop} {Q : VK} (m : Sm K μ G H) (r : Rps K G ds xs) (h : P (.lst ds) μ) (t : Tells K G P Q) : ∀ p, H p = none → Q (.ref p) (upd H p (.lst xs)) := fun p hp => by
  obtain ⟨m2, e2⟩ := m.frozen hp (.lst xs)
  exact t _ _ _ _ _ h e2 m2 (.lst upd_same (r.mono e2))
theorem new_lstM {K : PySem.W.Frag} {μ : Store} {G H : Hp} {ds : List D} {xs : List V} {P : D → Store → Prop} {Q : VK} (m : Sm K μ G H) (r : Rps K G ds xs) (h : ∀ p, μ p = none → P (.ref p) (setS μ p (.lst ds))) (t : Tells K G P Q) : ∀ p, H p = none → Q (.ref p) (upd H p (.lst xs)) := fun p hp =>
  t _ _ _ _ _ (h p (m.nn hp)) (Ex.refl _) (m.write (m.ex.nn hp) ⟨xs, upd_same, r⟩) (.ref p)
theorem de_tup {x1} (h : DA X es wr) : DE X (.Tuple es x1 pos) (wTup wr) :=
  ⟨wkE (pe_tup h.p) fun σ H Q ⟨ρ, μ, G, P, he, hm, hw, ht⟩ => ⟨ρ, μ, G, _, he, hm, hw, fun xs μ1 vs H1 G1 p1 e1 m1 r1 => ⟨by rw [← r1.length]; exact p1.1, new_tup m1 r1 p1.2 (ht.mono e1)⟩⟩⟩
theorem de_lst (h : DA X es wr) : DE X (.List es pos) (wLst wr) :=
  ⟨wkE (pe_lst h.p) fun σ H Q ⟨ρ, μ, G, P, he, hm, hw, ht⟩ => ⟨ρ, μ, G, _, he, hm, hw, fun xs μ1 vs H1 G1 p1 e1 m1 r1 => ⟨by rw [← r1.length]; exact p1.1, new_lst m1 r1 p1.2 (ht.mono e1)⟩⟩⟩
theorem de_lstM (h : DA X es wr) : DE X (.List es pos) (wLstM wr) :=
  ⟨wkE (pe_lst h.p) fun σ H Q ⟨ρ, μ, G, P, he, hm, hw, ht⟩ => ⟨ρ, μ, G, _, he, hm, hw, fun xs μ1 vs H1 G1 p1 e1 m1 r1 => ⟨by rw [← r1.length]; exact p1.1, new_lstM m1 r1 p1.2 (ht.mono e1)⟩⟩⟩
end
end Dl
namespace Dl
open PySem L2
section
variable {X : Cx}
noncomputable def oAdd : OD := fun x y μ P => match x, y with
  | .int i, .int j => P (.int (i + j)) μ
  | .str i, .str j => i.length + j.length ≤ sizeLine ∧ P (.str (i ++ j)) μ
  | .tup xs, .tup ys => xs.length + ys.length ≤ sizeLine ∧ P (.tup (xs ++ ys)) μ
  | x, y => match seqL μ x, seqL μ y with
    | some xs, some ys => xs.length + ys.length ≤ sizeLine ∧ P (.lst (xs ++ ys)) μ
    | _, _ => False
theorem os_add : OpS X (binaryOp .Add) oAdd := by
  refine ⟨_, op_add.or (op_add_str.or (op_catA.or op_cat)), ?_⟩
  intro x y μ P G H v u Q h m rx ry t
  unfold oAdd at h
  split at h
  · cases rx
    cases ry
    exact .inl ⟨_, _, rfl, rfl, t _ _ _ _ _ h (Ex.refl _) m (.int _)⟩
  · cases rx
    cases ry
    exact .inr (.inl ⟨_, _, rfl, rfl, h.1, t _ _ _ _ _ h.2 (Ex.refl _) m (.str _)⟩)
  · cases rx with
    | tup hx r1 =>
      cases ry with
      | tup hy r2 =>
        refine .inr (.inr (.inl ⟨_, _, _, _, rfl, rfl, hx.sq m.ex, hy.sq m.ex, by rw [← r1.length, ← r2.length]; exact h.1, fun e => ?_, fun _ e => ?_, fun _ _ => new_tup m (r1.append r2) h.2 t⟩))
        · subst e
          cases r1
          exact t _ _ _ _ _ h.2 (Ex.refl _) m (.tup hy r2)
        · subst e
          cases r2
          refine t _ _ _ _ _ h.2 (Ex.refl _) m (.tup hx ?_)
          rw [List.append_nil]
          exact r1
  · split at h
    · rename_i xs ys e1 e2
      obtain ⟨a, vs, rfl, h1, r1⟩ := seqL_ok e1 m rx
      obtain ⟨b, us, rfl, h2, r2⟩ := seqL_ok e2 m ry
      exact .inr (.inr (.inr ⟨_, _, _, _, rfl, rfl, h1, h2, by rw [← r1.length, ← r2.length]; exact h.1, new_lst m (r1.append r2) h.2 t⟩))
    · exact h.elim
noncomputable def oI (C : Int → Int → Prop) (g : Int → Int → D) : OD := fun x y μ P => match x, y with
  | .int i, .int j => C i j ∧ P (g i j) μ
  | _, _ => False
theorem osI {f : Value → Value → Sem Value} {C : Int → Int → Prop} {g : Int → Int → V} {gd : Int → Int → D} (h : OpR X f (rI C g)) (hg : ∀ G i j, Rp X.K G (gd i j) (g i j)) : OpS X f (oI C gd) := by
  refine ⟨_, h, ?_⟩
  intro x y μ P G H v u Q h m rx ry t
  unfold oI at h
  split at h
  · cases rx
    cases ry
    exact ⟨_, _, rfl, rfl, h.1, t _ _ _ _ _ h.2 (Ex.refl _) m (hg _ _ _)⟩
  · exact h.elim
noncomputable def oI0 (g : Int → Int → D) : OD := fun x y μ P => match x, y with
  | .int i, .int j => P (g i j) μ
  | _, _ => False
theorem osI0 {f : Value → Value → Sem Value} {g : Int → Int → V} {gd : Int → Int → D} (h : OpR X f (rI0 g)) (hg : ∀ G i j, Rp X.K G (gd i j) (g i j)) : OpS X f (oI0 gd) := by
  refine ⟨_, h, ?_⟩
  intro x y μ P G H v u Q h m rx ry t
  unfold oI0 at h
  split at h
  · cases rx
    cases ry
    exact ⟨_, _, rfl, rfl, t _ _ _ _ _ h (Ex.refl _) m (hg _ _ _)⟩
  · exact h.elim
noncomputable def oSub : OD := oI0 fun i j => .int (i - j)
noncomputable def oFdiv : OD := oI (fun _ j => 0 < j ∧ j < 1073741824) fun i j => .int (i / j)
noncomputable def oMod : OD := oI (fun _ j => 0 < j) fun i j => .int (i % j)
noncomputable def oPow : OD := oI (fun i j => 0 ≤ j ∧ j ≤ 1000000 ∧ i.natAbs < 2 ^ 64) fun i j => .int (i ^ j.toNat)
theorem os_sub : OpS X (binaryOp .Sub) oSub := osI0 op_sub fun _ _ _ => .int _
theorem os_fdiv : OpS X (binaryOp .FloorDiv) oFdiv := osI op_fdiv fun _ _ _ => .int _
theorem os_mod : OpS X (binaryOp .Mod) oMod := osI op_mod fun _ _ _ => .int _
theorem os_pow : OpS X (binaryOp .Pow) oPow := osI op_pow fun _ _ _ => .int _
/-- * of ints, of a list and an int -/
noncomputable def oMul : OD := fun x y μ P => match x, y with
  | .int i, .int j => ((-(2 ^ 64) < i ∧ i < 2 ^ 64) ∨ (-(2 ^ 64) < j ∧ j < 2 ^ 64)) ∧ P (.int (i * j)) μ
  | x, .int k => match seqL μ x with
    | some xs => (-(2 ^ 63) ≤ k ∧ k < 2 ^ 63 ∧ xs.length * k.toNat ≤ sizeLine) ∧ P (.lst (List.replicate k.toNat xs).flatten) μ
    | none => False
  | _, _ => False
theorem Rps.rep {K : PySem.W.Frag} {G : Hp} {ds : List D} {vs : List V} (r : Rps K G ds vs) : ∀ k : Nat, Rps K G (List.replicate k ds).flatten (List.replicate k vs).flatten
  | 0 => .nil
  | k + 1 => by
    rw [List.replicate_succ, List.replicate_succ, List.flatten_cons, List.flatten_cons]
    exact r.append (Rps.rep r k)
theorem os_mul : OpS X (binaryOp .Mult) oMul := by
  refine ⟨_, op_mul.or op_rep, ?_⟩
  intro x y μ P G H v u Q h m rx ry t
  unfold oMul at h
  split at h
  · cases rx
    cases ry
    exact .inl ⟨_, _, rfl, rfl, h.1, t _ _ _ _ _ h.2 (Ex.refl _) m (.int _)⟩
  · split at h
    · rename_i xs e
      cases ry
      obtain ⟨a, vs, rfl, h1, r1⟩ := seqL_ok e m rx
      refine .inr ⟨_, _, _, rfl, rfl, h1, h.1.1, h.1.2.1, by rw [← r1.length]; exact h.1.2.2, ?_⟩
      exact new_lst m (r1.rep _) h.2 t
    · exact h.elim
  · exact h.elim
noncomputable def oLt : OD := oI0 fun i j => .bl (decide (i < j))
noncomputable def oLe : OD := oI0 fun i j => .bl (decide (i ≤ j))
noncomputable def oGt : OD := oI0 fun i j => .bl (decide (j < i))
noncomputable def oGe : OD := oI0 fun i j => .bl (decide (j ≤ i))
theorem os_lt : OpS X (compareOp .Lt) oLt := osI0 op_lt fun _ _ _ => .bl _
theorem os_le : OpS X (compareOp .LtE) oLe := osI0 op_le fun _ _ _ => .bl _
theorem os_gt : OpS X (compareOp .Gt) oGt := osI0 op_gt fun _ _ _ => .bl _
theorem os_ge : OpS X (compareOp .GtE) oGe := osI0 op_ge fun _ _ _ => .bl _
mutual
noncomputable def pyD : D → Option PyData
  | .non => some .none
  | .bl b => some (.bool b)
  | .int i => some (.int i)
  | .str s => some (.str s)
  | .tup xs => (pyDs xs).map .tuple
  | .lst xs => (pyDs xs).map .list
  | .scr xs => (pyDs xs).map .list
  | _ => none
noncomputable def pyDs : List D → Option (List PyData)
  | [] => some []
  | x :: xs => match pyD x, pyDs xs with | some a, some b => some (a :: b) | _, _ => none
end
noncomputable def pyS (μ : Store) : D → Option PyData
  | .ref a => match μ a with | some (.lst xs) => (pyDs xs).map .list | _ => none
  | d => pyD d
mutual
theorem pyD_ok {K : PySem.W.Frag} {G H : Hp} (e : Ex G H) : ∀ {d : D} {v : V} {p : PyData}, Rp K G d v → pyD d = some p → Dp K H v p
  | _, _, _, .non, h => by cases h; exact .non
  | _, _, _, .bl b, h => by cases h; exact .bl b
  | _, _, _, .int i, h => by cases h; exact .int i
  | _, _, _, .str s, h => by cases h; exact .str s
  | _, _, _, .ty n, h => by cases h
  | _, _, _, .ref a, h => by cases h
  | _, _, p, .tup (ds := ds) h1 r, h => by
    have h' : (pyDs ds).map PyData.tuple = some p := h
    cases q : pyDs ds with
    | none => rw [q] at h'; cases h'
    | some ps => rw [q] at h'; cases h'; exact .tup (h1.sq e) (pyDs_ok e r q)
  | _, _, p, .lst (ds := ds) h1 r, h => by
    have h' : (pyDs ds).map PyData.list = some p := h
    cases q : pyDs ds with
    | none => rw [q] at h'; cases h'
    | some ps => rw [q] at h'; cases h'; exact .lst (lst_sq e h1) (pyDs_ok e r q)
  | _, _, p, .scr (ds := ds) h1 r, h => by
    have h' : (pyDs ds).map PyData.list = some p := h
    cases q : pyDs ds with
    | none => rw [q] at h'; cases h'
    | some ps => rw [q] at h'; cases h'; exact .lst (h1.sq e) (pyDs_ok e r q)
  | _, _, _, .dct h1 k r, h => by cases h
  | _, _, _, .dcl h1 k r, h => by cases h
  | _, _, _, .obj h1 k r, h => by cases h
  | _, _, _, .excN _ _, h => by cases h
  | _, _, _, .excD _ _ _, h => by cases h
theorem pyDs_ok {K : PySem.W.Frag} {G H : Hp} (e : Ex G H) : ∀ {ds : List D} {vs : List V} {ps : List PyData}, Rps K G ds vs → pyDs ds = some ps → DpAll K H vs ps
  | _, _, _, .nil, h => by cases h; exact .nil
  | _, _, ps, .cons (d := d) (ds := ds) h1 r, h => by
    have h' : (match pyD d, pyDs ds with | some a, some b => some (a :: b) | _, _ => none) = some ps := h
    cases q : pyD d with
    | none => rw [q] at h'; cases h'
    | some a =>
      cases q2 : pyDs ds with
      | none => rw [q, q2] at h'; cases h'
      | some b => rw [q, q2] at h'; cases h'; exact .cons (pyD_ok e h1 q) (pyDs_ok e r q2)
end
theorem pyS_ok {K : PySem.W.Frag} {μ : Store} {G H : Hp} (m : Sm K μ G H) {d : D} {v : V} {p : PyData} (r : Rp K G d v) (h : pyS μ d = some p) : Dp K H v p := by
  by_cases q : ∃ a, d = .ref a
  · obtain ⟨a, rfl⟩ := q
    cases r
    unfold pyS at h
    dsimp only at h
    split at h
    · rename_i xs e
      obtain ⟨_, vs, h1, r1⟩ := m.st a _ e
      cases q : pyDs xs with
      | none => rw [q] at h; cases h
      | some ps => rw [q] at h; cases h; exact .lst (SqL.of h1) (pyDs_ok m.ex r1 q)
    · cases h
  · have h' : pyD d = some p := by
      cases d with
      | ref a => exact (q ⟨a, rfl⟩).elim
      | _ => exact h
    exact pyD_ok m.ex r h'
/-- equality of plain values -/
noncomputable def scD : D → D → Option Bool
  | .str i, .str j => some (i == j)
  | .int i, .int j => some (i == j)
  | .bl i, .bl j => some (i == j)
  | .non, .non => some true
  | .non, .str _ => some false | .str _, .non => some false | .non, .int _ => some false | .int _, .non => some false
  | .int _, .str _ => some false | .str _, .int _ => some false
  | _, _ => none
theorem scD_ok {K : PySem.W.Frag} {G : Hp} {x y : D} {v u : V} {b : Bool} (h : scD x y = some b) (rx : Rp K G x v) (ry : Rp K G y u) : scal v u = true ∧ decide (v = u) = b := by
  unfold scD at h
  split at h <;> first | (cases h; cases rx; cases ry; first | exact ⟨rfl, dec_str⟩ | exact ⟨rfl, dec_int⟩ | exact ⟨rfl, dec_bl⟩ | exact ⟨rfl, by simp⟩) | cases h
noncomputable def oEq : OD := fun x y μ P => match scD x y with
  | some b => P (.bl b) μ
  | none => match pyS μ x, pyS μ y with
    | some d, some e => SeqAt.shaped d = true ∧ SeqAt.shaped e = true ∧ P (.bl (PyData.eqv d e)) μ
    | _, _ => False
noncomputable def oNe : OD := fun x y μ P => match scD x y with
  | some b => P (.bl (!b)) μ
  | none => match pyS μ x, pyS μ y with
    | some d, some e => SeqAt.shaped d = true ∧ SeqAt.shaped e = true ∧ P (.bl (!PyData.eqv d e)) μ
    | _, _ => False
theorem os_eq (hu : X.A.units + 64 < cLine) : OpS X (compareOp .Eq) oEq := by
  refine ⟨_, op_eq.or (op_eqD hu), ?_⟩
  intro x y μ P G H v u Q h m rx ry t
  unfold oEq at h
  split at h
  · rename_i b hb
    obtain ⟨h1, h2⟩ := scD_ok hb rx ry
    exact .inl ⟨h1, t _ _ _ _ _ h (Ex.refl _) m (by rw [h2]; exact .bl _)⟩
  · split at h
    · rename_i d e h1 h2
      exact .inr ⟨d, e, pyS_ok m rx h1, pyS_ok m ry h2, h.1, h.2.1, t _ _ _ _ _ h.2.2 (Ex.refl _) m (.bl _)⟩
    · exact h.elim
theorem os_ne (hu : X.A.units + 64 < cLine) : OpS X (compareOp .NotEq) oNe := by
  refine ⟨_, op_ne.or (op_neD hu), ?_⟩
  intro x y μ P G H v u Q h m rx ry t
  unfold oNe at h
  split at h
  · rename_i b hb
    obtain ⟨h1, h2⟩ := scD_ok hb rx ry
    exact .inl ⟨h1, t _ _ _ _ _ h (Ex.refl _) m (by rw [h2]; exact .bl _)⟩
  · split at h
    · rename_i d e h1 h2
      exact .inr ⟨d, e, pyS_ok m rx h1, pyS_ok m ry h2, h.1, h.2.1, t _ _ _ _ _ h.2.2 (Ex.refl _) m (.bl _)⟩
    · exact h.elim
end
end Dl
namespace Dl
open PySem L2
noncomputable abbrev WG := D → Env → Store → (Env → Store → Prop) → Prop
noncomputable abbrev WGs := List D → Env → Store → (Env → Store → Prop) → Prop
noncomputable def TellsN (K : PySem.W.Frag) (G : Hp) (P : Env → Store → Prop) (Q : L2.St → Hp → Prop) : Prop := ∀ ρ' μ' σ' H' G', P ρ' μ' → Ex G G' → EnvR K G' ρ' σ' → Sm K μ' G' H' → Q σ' H'
theorem TellsN.mono {K : PySem.W.Frag} {G G' : Hp} {P : Env → Store → Prop} {Q : L2.St → Hp → Prop} (e : Ex G G') (h : TellsN K G P Q) : TellsN K G' P Q := fun a b c d f g x => h a b c d f g (e.trans x)
/-- what a target does, told of data; vs: the places that it stores -/
noncomputable def GPat (K : PySem.W.Frag) (vs : List Nat) (g : TG) (wg : WG) : Prop := ∀ {v : V} {σ : L2.St} {H : Hp} {Q : L2.St → Hp → Prop} {ρ : Env} {μ : Store} {G : Hp} {d : D} {P : Env → Store → Prop},
  EnvR K G ρ σ → Sm K μ G H → Rp K G d v → wg d ρ μ P → (∀ ρ' μ' σ' H' G', P ρ' μ' → Ex G G' → EnvR K G' ρ' σ' → Sm K μ' G' H' → wipe σ' vs = wipe σ vs → Q σ' H') → g v σ H Q
noncomputable def GPats (K : PySem.W.Frag) (vs : List Nat) (g : TGs) (wg : WGs) : Prop := ∀ {v : List V} {σ : L2.St} {H : Hp} {Q : L2.St → Hp → Prop} {ρ : Env} {μ : Store} {G : Hp} {d : List D} {P : Env → Store → Prop},
  EnvR K G ρ σ → Sm K μ G H → Rps K G d v → wg d ρ μ P → (∀ ρ' μ' σ' H' G', P ρ' μ' → Ex G G' → EnvR K G' ρ' σ' → Sm K μ' G' H' → wipe σ' vs = wipe σ vs → Q σ' H') → g v σ H Q
noncomputable def wgName (i : Nat) : WG := fun d ρ μ P => P (ρ.set i (some d)) μ
theorem wipe_set {i : Nat} {x : Option V} : ∀ {vs : List Nat} {σ : L2.St}, i ∈ vs → wipe (σ.set i x) vs = wipe σ vs
  | v :: vs, σ, h => by
    unfold wipe
    by_cases e : i = v
    · subst e
      by_cases hm : i ∈ vs
      · rw [wipe_set hm]
      · have key : ∀ (ws : List Nat), wipe (σ.set i x) ws = if i ∈ ws then wipe σ ws else (wipe σ ws).set i x := by
          intro ws
          induction ws with
          | nil => rw [if_neg (by simp)]; rfl
          | cons w ws ih =>
            unfold wipe
            rw [ih]
            by_cases h1 : i ∈ ws
            · rw [if_pos h1, if_pos (List.mem_cons_of_mem _ h1)]
            · rw [if_neg h1]
              by_cases h2 : i = w
              · subst h2
                rw [if_pos List.mem_cons_self, List.set_set]
              · rw [if_neg (by simp [h1, h2]), List.set_comm _ _ h2]
        rw [key vs, if_neg hm, List.set_set]
    · rcases List.mem_cons.mp h with h | h
      · exact absurd h e
      · rw [wipe_set h]
theorem wipe_wipe {σ : L2.St} : ∀ {ws vs : List Nat}, (∀ i ∈ ws, i ∈ vs) → wipe (wipe σ ws) vs = wipe σ vs
  | [], _, _ => rfl
  | w :: ws, vs, h => by
    show wipe ((wipe σ ws).set w none) vs = wipe σ vs
    rw [wipe_set (h w List.mem_cons_self), wipe_wipe fun i hi => h i (List.mem_cons_of_mem _ hi)]
theorem gp_name {K : PySem.W.Frag} {vs : List Nat} {i : Nat} (h : i ∈ vs) : GPat K vs (gName i) (wgName i) := fun he hm r hw k => k _ _ _ _ _ hw (Ex.refl _) (he.set i r) hm (wipe_set h)
noncomputable def wgNil : WGs := fun ds ρ μ P => ds = [] ∧ P ρ μ
noncomputable def wgCons (g : WG) (r : WGs) : WGs := fun ds ρ μ P => match ds with | d :: ds => g d ρ μ fun ρ1 μ1 => r ds ρ1 μ1 P | [] => False
noncomputable def wgTup (n : Nat) (g : WGs) : WG := fun d ρ μ P => match d with | .tup ds => ds.length = n ∧ g ds ρ μ P | _ => False
theorem gp_nil {K : PySem.W.Frag} {vs : List Nat} : GPats K vs gNil wgNil := fun he hm r hw k => by
  obtain ⟨rfl, hw⟩ := hw
  cases r
  exact ⟨rfl, k _ _ _ _ _ hw (Ex.refl _) he hm rfl⟩
theorem gp_cons {K : PySem.W.Frag} {vs : List Nat} {g : TG} {wg : WG} {gs : TGs} {wgs : WGs} (h : GPat K vs g wg) (hs : GPats K vs gs wgs) : GPats K vs (gCons g gs) (wgCons wg wgs) := fun he hm r hw k => by
  cases r with
  | nil => exact hw.elim
  | cons r1 r2 => exact ⟨_, _, rfl, h he hm r1 hw fun ρ' μ' σ' H' G' p e he' hm' q => hs he' hm' (r2.mono e) p fun ρ2 μ2 σ2 H2 G2 p2 e2 he2 hm2 q2 => k _ _ _ _ _ p2 (e.trans e2) he2 hm2 (q2.trans q)⟩
theorem gp_tup {K : PySem.W.Frag} {vs : List Nat} {n : Nat} {gs : TGs} {wgs : WGs} (hs : GPats K vs gs wgs) : GPat K vs (gTup K n gs) (wgTup n wgs) := fun {v σ H Q ρ μ G d P} he hm r hw k => by
  cases r with
  | tup h1 r1 => exact ⟨_, _, rfl, h1.sq hm.ex, by rw [← r1.length]; exact hw.1, hs he hm r1 hw.2 k⟩
  | _ => exact hw.elim
/-- a target by its reading -/
noncomputable def LG (K : PySem.W.Frag) (wg : WG) : TG := fun v σ H Q => ∃ ρ μ G d P, EnvR K G ρ σ ∧ Sm K μ G H ∧ Rp K G d v ∧ wg d ρ μ P ∧ TellsN K G P Q
structure DG (X : Cx) (tg : Expr) (wg : WG) : Prop where
  p : PG X tg (LG X.K wg)
section
variable {X : Cx}
theorem wkG {tg : Expr} {t t' : TG} (h : PG X tg t) (k : ∀ v σ H Q, t' v σ H Q → t v σ H Q) : PG X tg t' := ⟨fun pins s σ H v u Q I r q => h.run pins s σ H v u Q I r (k v σ H Q q)⟩
theorem dg_pat {tg : Expr} {vs : List Nat} {g : TG} {wg : WG} (h : PG X tg g) (k : GPat X.K vs g wg) : DG X tg wg := ⟨wkG h fun v σ H Q ⟨ρ, μ, G, d, P, he, hm, r, hw, ht⟩ => k he hm r hw fun ρ' μ' σ' H' G' p e he' hm' _ => ht _ _ _ _ _ p e he' hm'⟩
noncomputable def putD {κ β : Type} [DecidableEq κ] (kvs : List (κ × β)) (k : κ) (v : β) : List (κ × β) :=
  if (kvs.any fun kv => decide (kv.1 = k)) = true then kvs.map (fun kv => if kv.1 = k then (kv.1, v) else kv) else kvs ++ [(k, v)]
theorem any_keys {κ α β : Type} [DecidableEq κ] (k : κ) : ∀ {l : List (κ × α)} {m : List (κ × β)}, l.map (·.1) = m.map (·.1) → (l.any fun kv => decide (kv.1 = k)) = m.any fun kv => decide (kv.1 = k)
  | [], [], _ => rfl
  | [], _ :: _, e => by simp at e
  | _ :: _, [], e => by simp at e
  | a :: l, b :: m, e => by
    have e1 : a.1 = b.1 ∧ l.map (·.1) = m.map (·.1) := by simpa using e
    rw [List.any_cons, List.any_cons, e1.1, any_keys k e1.2]
theorem mapput_keys {κ : Type} [DecidableEq κ] {K : PySem.W.Frag} {G : Hp} {k : κ} {d : D} {v : V} (hd : Rp K G d v) : ∀ {ds : List (κ × D)} {kvs : List (κ × V)}, kvs.map (·.1) = ds.map (·.1) → Rps K G (ds.map (·.2)) (kvs.map (·.2)) →
    (kvs.map fun kv => if kv.1 = k then (kv.1, v) else kv).map (·.1) = (ds.map fun kv => if kv.1 = k then (kv.1, d) else kv).map (·.1) ∧
      Rps K G ((ds.map fun kv => if kv.1 = k then (kv.1, d) else kv).map (·.2)) ((kvs.map fun kv => if kv.1 = k then (kv.1, v) else kv).map (·.2))
  | [], [], _, _ => ⟨rfl, .nil⟩
  | [], _ :: _, e, _ => by simp at e
  | _ :: _, [], e, _ => by simp at e
  | (a, d1) :: ds, (b, v1) :: kvs, e, r => by
    have e1 : b = a ∧ kvs.map (·.1) = ds.map (·.1) := by simpa using e
    obtain ⟨rfl, e2⟩ := e1
    cases r with
    | cons h r =>
      obtain ⟨i1, i2⟩ := mapput_keys (k := k) hd e2 r
      simp only [List.map_cons]
      by_cases q : b = k
      · rw [if_pos q, if_pos q]
        exact ⟨congrArg (b :: ·) i1, .cons hd i2⟩
      · rw [if_neg q, if_neg q]
        exact ⟨congrArg (b :: ·) i1, .cons h i2⟩
theorem putD_keys {κ : Type} [DecidableEq κ] {K : PySem.W.Frag} {G : Hp} {k : κ} {d : D} {v : V} (hd : Rp K G d v) {ds : List (κ × D)} {kvs : List (κ × V)} (e : kvs.map (·.1) = ds.map (·.1)) (r : Rps K G (ds.map (·.2)) (kvs.map (·.2))) :
    (putK kvs k v).map (·.1) = (putD ds k d).map (·.1) ∧ Rps K G ((putD ds k d).map (·.2)) ((putK kvs k v).map (·.2)) := by
  unfold putK putD
  rw [any_keys k e]
  split
  · exact mapput_keys hd e r
  · rw [List.map_append, List.map_append, List.map_append, List.map_append, e]
    exact ⟨rfl, r.append (.cons hd .nil)⟩
noncomputable abbrev SD := D → D → D → Store → (Store → Prop) → Prop
noncomputable def SetS (X : Cx) (o : SD) : Prop :=
  ∃ t, PSet X t ∧ ∀ {x i d : D} {μ : Store} {P : Store → Prop} {G H : Hp} {v u w : V} {Q : Hp → Prop}, o x i d μ P → Sm X.K μ G H → Rp X.K G x v → Rp X.K G i u → Rp X.K G d w → (∀ μ' H' G', P μ' → Ex G G' → Sm X.K μ' G' H' → Q H') → t v u w H Q
noncomputable def rSetD : V → V → V → Hp → (Hp → Prop) → Prop := fun o i v H Q => ∃ a H', o = .ref a ∧ DPut H a i v H' ∧ Q H'
theorem set_dict (hu : X.A.units + 1 < cLine) : PSet X rSetD := by
  intro pins s σ H o i v ov iv u Q I ro ri rv h
  obtain ⟨a, H', rfl, g, q⟩ := h
  cases ro
  exact d_setItem hu I g ri rv fun s4 I4 => ⟨H', I4, q⟩
theorem PSet.or {t t' : TSet} (h : PSet X t) (h' : PSet X t') : PSet X (fun o i v H Q => t o i v H Q ∨ t' o i v H Q) := by
  intro pins s σ H o i v ov iv u Q I ro ri rv q
  rcases q with q | q
  · exact h pins s σ H o i v ov iv u Q I ro ri rv q
  · exact h' pins s σ H o i v ov iv u Q I ro ri rv q
noncomputable def keyD : D → Option Key
  | .int i => some (.inl i)
  | .str s => some (.inr s)
  | _ => none
theorem keyD_ok {K : PySem.W.Frag} {G : Hp} {d : D} {v : V} {k : Key} (h : keyD d = some k) (r : Rp K G d v) : v = kV k := by
  cases r <;> cases h <;> rfl
noncomputable def oSet : SD := fun x i d μ P => match x with
  | .ref a => match μ a, i with
    | some (.lst xs), .int k => match ixN xs.length k with | some j => P (setS μ a (.lst (xs.set j d))) | none => False
    | some (.dct kvs), i => match keyD i with | some k => kvs.length < sizeLine ∧ P (setS μ a (.dct (putD kvs k d))) | none => False
    | _, _ => False
  | _ => False
theorem len_keys {κ α β : Type} {l : List (κ × α)} {m : List (κ × β)} (h : l.map (·.1) = m.map (·.1)) : l.length = m.length := by
  have e := congrArg List.length h
  rw [List.length_map, List.length_map] at e
  exact e
theorem os_set (hu : X.A.units + 1 < cLine) : SetS X oSet := by
  refine ⟨_, PSet.or set_list (set_dict hu), ?_⟩
  intro x i d μ P G H v u w Q h m rx ri rd t
  unfold oSet at h
  split at h
  · cases rx
    rename_i a
    split at h
    · rename_i xs k e
      cases ri
      obtain ⟨h0, vs, h1, r1⟩ := m.st a _ e
      split at h
      · rename_i j hj
        exact .inl ⟨a, vs, k, j, rfl, rfl, h1, by rw [← r1.length]; exact hj, t _ _ _ h (Ex.refl _) (m.write h0 ⟨_, upd_same, r1.set rd j⟩)⟩
      · exact h.elim
    · rename_i kvs _ e
      obtain ⟨h0, kv, h1, k1, r1⟩ := m.st a _ e
      split at h
      · rename_i k hk
        have ek := keyD_ok hk ri
        subst ek
        obtain ⟨i1, i2⟩ := putD_keys (k := k) rd k1 r1
        exact .inr ⟨a, _, rfl, DPut.k h1 (by rw [len_keys k1]; exact h.1), t _ _ _ h.2 (Ex.refl _) (m.write h0 ⟨_, upd_same, i1, i2⟩)⟩
      · exact h.elim
    · exact h.elim
  · exact h.elim
noncomputable def wgSub (o : SD) (wo wi : WE) : WG := fun d ρ μ P => wo ρ μ fun x μ1 => wi ρ μ1 fun i μ2 => o x i d μ2 fun μ3 => P ρ μ3
theorem dg_sub {o i : Expr} {wo wi : WE} {s : SD} {pos : Pos} (hs : SetS X s) (ho : DE X o wo) (hi : DE X i wi)
    (ha : ∀ v, assign (.Subscript o i pos) X.env v = (do
      let ov ← holding [v] (eval o X.env)
      let iv ← holding [v, ov] (eval i X.env)
      standAt pos
      holding [v, ov, iv] (setItem ov iv v)
      release [v, ov, iv] []) := by intro _; rfl) : DG X (.Subscript o i pos) (wgSub s wo wi) := by
  obtain ⟨t, ht, hk⟩ := hs
  refine ⟨wkG (pg_sub ho.p hi.p ht ha) fun v σ H Q ⟨ρ, μ, G, d, P, he, hm, r, hw, htl⟩ => ?_⟩
  exact ⟨ρ, μ, G, _, he, hm, hw, fun x μ1 v1 H1 G1 p1 e1 m1 r1 => ⟨ρ, μ1, G1, _, he.mono e1, m1, p1, fun y μ2 v2 H2 G2 p2 e2 m2 r2 =>
    hk p2 m2 (r1.mono e2) r2 ((r.mono e1).mono e2) fun μ3 H3 G3 p3 e3 m3 => htl _ _ _ _ _ p3 ((e1.trans e2).trans e3) (((he.mono e1).mono e2).mono e3) m3⟩⟩
variable {st : Stmt} {rest : List Stmt} {e : Expr} {pos : Pos} {w u : WS} {we : WE}
noncomputable def wNext : WS := fun W ρ μ => W.nx ρ μ
noncomputable def wSeq (w u : WS) : WS := fun W ρ μ => w { W with nx := u W } ρ μ
theorem dss_nil : DSs X [] wNext := ⟨wkSs pss_nil fun D σ H ⟨ρ, μ, G, W, he, hm, hw, ht⟩ => ht.nx _ _ _ _ _ hw (Ex.refl _) he hm⟩
theorem dss_cons (h : DS X st w) (k : DSs X rest u) : DSs X (st :: rest) (wSeq w u) := ⟨wkSs (pss_cons h.p k.p) fun D σ H ⟨ρ, μ, G, W, he, hm, hw, ht⟩ =>
  ⟨ρ, μ, G, { W with nx := u W }, he, hm, hw, ⟨fun ρ' μ' σ' H' G' p e r m => ⟨ρ', μ', G', W, r, m, p, ht.mono e⟩, ht.rt, ht.bk, ht.ct⟩⟩⟩
theorem dss_one (h : DS X st w) : DSs X [st] w := ⟨pss_one h.p⟩
noncomputable def wBreak : WS := fun W ρ μ => W.bk ρ μ
noncomputable def wCont : WS := fun W ρ μ => W.ct ρ μ
noncomputable def wNever : WS := fun _ _ _ => False
theorem ds_never : DS X st wNever := ⟨wkS ps_never fun D σ H ⟨ρ, μ, G, W, he, hm, hw, ht⟩ => hw⟩
noncomputable def wDrop (we : WE) : WS := fun W ρ μ => we ρ μ fun _ μ1 => W.nx ρ μ1
theorem ds_expr (h : DE X e we) (hs : swapsWith e none pos.line X.env = pure false := by rfl) : DS X (.Expr e pos) (wDrop we) := ⟨wkS (ps_expr h.p hs) fun D σ H ⟨ρ, μ, G, W, he, hm, hw, ht⟩ =>
  ⟨ρ, μ, G, _, he, hm, hw, fun d μ' v H' G' p e m r => ht.nx _ _ _ _ _ p e (he.mono e) m⟩⟩
/-- cells are forgotten, or frozen, at the end -/
inductive Fz : D → Store → D → Store → Prop where
  | sub {d : D} {μ μ' : Store} (h : Sub μ' μ) : Fz d μ d μ'
  | lst {a : Addr} {ds : List D} {μ μ' : Store} (h : μ a = some (.lst ds)) (s : Sub μ' (delS μ a)) : Fz (.ref a) μ (.lst ds) μ'
  | dct {a : Addr} {ds : List (Key × D)} {μ μ' : Store} (h : μ a = some (.dct ds)) (s : Sub μ' (delS μ a)) : Fz (.ref a) μ (.dct ds) μ'
  | obj {a C : Addr} {ds : List (Str × D)} {μ μ' : Store} (h : μ a = some (.ins C ds)) (s : Sub μ' (delS μ a)) : Fz (.ref a) μ (.obj C ds) μ'
theorem Fz.ok {K : PySem.W.Frag} {d d' : D} {μ μ' : Store} {G H : Hp} {v : V} (h : Fz d μ d' μ') (m : Sm K μ G H) (r : Rp K G d v) : ∃ G', Ex G G' ∧ Sm K μ' G' H ∧ Rp K G' d' v := by
  cases h with
  | sub h => exact ⟨G, Ex.refl _, m.sub h, r⟩
  | lst h s => cases r; obtain ⟨G', m', e', r'⟩ := m.freezeL h; exact ⟨G', e', m'.sub s, r'⟩
  | dct h s => cases r; obtain ⟨G', m', e', r'⟩ := m.freezeD h; exact ⟨G', e', m'.sub s, r'⟩
  | obj h s => cases r; obtain ⟨G', m', e', r'⟩ := m.freezeI h; exact ⟨G', e', m'.sub s, r'⟩
noncomputable def wRet (we : WE) : WS := fun W ρ μ => we ρ μ fun d μ1 => ∃ d' μ', Fz d μ1 d' μ' ∧ W.rt d' μ'
theorem ds_ret (h : DE X e we) : DS X (.Return (some e) pos) (wRet we) := ⟨wkS (ps_ret h.p) fun D σ H ⟨ρ, μ, G, W, he, hm, hw, ht⟩ =>
  ⟨ρ, μ, G, _, he, hm, hw, fun d μ' v H' G' ⟨d', μ2, fz, p⟩ e m r => by
    obtain ⟨G2, e2, m2, r2⟩ := fz.ok m r
    exact ht.rt _ _ _ _ _ p (e.trans e2) m2 r2⟩⟩
noncomputable def wRetN : WS := fun W ρ μ => ∃ μ', Sub μ' μ ∧ W.rt .non μ'
noncomputable def wIfS (t : WT) (w u : WS) : WS := fun W ρ μ => t ρ μ fun b μ1 => if b = true then w W ρ μ1 else u W ρ μ1
theorem ds_if {c : Expr} {a b : List Stmt} {t : WT} (hc : DT X c t) (ha : DSs X a w) (hb : DSs X b u) : DS X (.If c a b pos) (wIfS t w u) := ⟨wkS (ps_if hc.p ha.p hb.p) fun D σ H ⟨ρ, μ, G, W, he, hm, hw, ht⟩ =>
  ⟨ρ, μ, G, _, he, hm, hw, fun k μ1 H1 G1 p e m => by
    cases k with
    | true => rw [if_pos rfl] at p ⊢; exact ⟨ρ, μ1, G1, W, he.mono e, m, p, ht.mono e⟩
    | false => rw [if_neg Bool.false_ne_true] at p ⊢; exact ⟨ρ, μ1, G1, W, he.mono e, m, p, ht.mono e⟩⟩⟩
noncomputable def wAsg (we : WE) (g : WG) : WS := fun W ρ μ => we ρ μ fun d μ1 => g d ρ μ1 W.nx
theorem ds_asg {tg : Expr} {g : WG} (h : DE X e we) (k : DG X tg g) (hs : swapsWithSole [tg] e pos.line X.env = pure false := by rfl) (hw : swappedStores [tg] e X.env = pure none := by rfl)
    (h1 : (assignEach [tg] X.env).map (·.2) = [assign tg X.env] := by rfl) : DS X (.Assign [tg] e pos) (wAsg we g) := ⟨wkS (ps_asg h.p k.p hs hw h1) fun D σ H ⟨ρ, μ, G, W, he, hm, hw, ht⟩ =>
  ⟨ρ, μ, G, _, he, hm, hw, fun d μ1 v H1 G1 p e m r => ⟨ρ, μ1, G1, d, _, he.mono e, m, r, p, (show TellsN X.K G1 W.nx D.nx from fun a b c d f g x => ht.nx a b c d f g (e.trans x))⟩⟩⟩
/-- x = e -/
theorem ds_set {i : Nat} {x : Str} {pos' : Pos} (hN : X.N.Nodup) (hi : X.N[i]? = some x) (hx : Loc X.env.scope x) (h : DE X e we) (hs : swapsWithSole [.Name x pos'] e pos.line X.env = pure false := by rfl) (hw : swappedStores [.Name x pos'] e X.env = pure none := by rfl)
    (h1 : (assignEach [.Name x pos'] X.env).map (·.2) = [assign (.Name x pos') X.env] := by rfl) (hf : X.fn x = true ∨ X.env.scope.names.lookup x = some .local := by first | exact .inl rfl | exact .inr rfl | assumption) :
    DS X (.Assign [.Name x pos'] e pos) (wAsg we (wgName i)) := ds_asg h (dg_pat (pg_name hN hi hx hf) (gp_name (vs := [i]) (by simp))) hs hw h1
/-- a, b = e, f of plain local names -/
noncomputable def wPar (i j : Nat) (wa : WA) : WS := fun W ρ μ => wa ρ μ fun ds μ1 => match ds with | [x, y] => W.nx ((ρ.set i (some x)).set j (some y)) μ1 | _ => False
theorem ds_par {i j : Nat} {x y : Str} {a b : Expr} {wa : WA} {px py pt : Pos} {kt k2 pt2} (hc : X.calm = true) (hN : X.N.Nodup) (hi : X.N[i]? = some x) (hj : X.N[j]? = some y) (hij : i ≠ j)
    (hx : X.env.scope.names.lookup x = some .local) (hy : X.env.scope.names.lookup y = some .local) (ha : DA X [a, b] wa)
    (hw : swappedStores [.Tuple [.Name x px, .Name y py] kt pt] (.Tuple [a, b] k2 pt2) X.env = pure (some [x, y]))
    (hs : swapsWithSole [.Tuple [.Name x px, .Name y py] kt pt] (.Tuple [a, b] k2 pt2) pos.line X.env = pure false := by rfl) :
    DS X (.Assign [.Tuple [.Name x px, .Name y py] kt pt] (.Tuple [a, b] k2 pt2) pos) (wPar i j wa) := ⟨wkS (ps_par hc hN hi hj hij hx hy ha.p hw hs) fun D σ H ⟨ρ, μ, G, W, he, hm, hw, ht⟩ =>
  ⟨ρ, μ, G, _, he, hm, hw, fun ds μ1 vs H1 G1 p e m r => by

    match ds, r, p with
    | [x, y], .cons r1 (.cons r2 .nil), p => exact ⟨_, _, rfl, ht.nx _ _ _ _ _ p e (((he.mono e).set i r1).set j r2) m⟩⟩⟩
noncomputable def wPar3 (i j l : Nat) (wa : WA) : WS := fun W ρ μ => wa ρ μ fun ds μ1 => match ds with | [x, y, z] => W.nx (((ρ.set i (some x)).set j (some y)).set l (some z)) μ1 | _ => False
theorem ds_par3 {i j l : Nat} {x y z : Str} {a b c : Expr} {wa : WA} {px py pz pt : Pos} {kt k2 pt2} (hc : X.calm = true) (hN : X.N.Nodup) (hi : X.N[i]? = some x) (hj : X.N[j]? = some y) (hl : X.N[l]? = some z) (hij : i ≠ j) (hil : i ≠ l) (hjl : j ≠ l)
    (hx : X.env.scope.names.lookup x = some .local) (hy : X.env.scope.names.lookup y = some .local) (hz : X.env.scope.names.lookup z = some .local) (ha : DA X [a, b, c] wa)
    (hw : swappedStores [.Tuple [.Name x px, .Name y py, .Name z pz] kt pt] (.Tuple [a, b, c] k2 pt2) X.env = pure (some [x, y, z]))
    (hs : swapsWithSole [.Tuple [.Name x px, .Name y py, .Name z pz] kt pt] (.Tuple [a, b, c] k2 pt2) pos.line X.env = pure false := by rfl) :
    DS X (.Assign [.Tuple [.Name x px, .Name y py, .Name z pz] kt pt] (.Tuple [a, b, c] k2 pt2) pos) (wPar3 i j l wa) := ⟨wkS (ps_par3 hc hN hi hj hl hij hil hjl hx hy hz ha.p hw hs) fun D σ H ⟨ρ, μ, G, W, he, hm, hw, ht⟩ =>
  ⟨ρ, μ, G, _, he, hm, hw, fun ds μ1 vs H1 G1 p e m r => by

    match ds, r, p with
    | [x, y, z], .cons r1 (.cons r2 (.cons r3 .nil)), p => exact ⟨_, _, _, rfl, ht.nx _ _ _ _ _ p e ((((he.mono e).set i r1).set j r2).set l r3) m⟩⟩⟩
noncomputable def FldOk (K : PySem.W.Frag) (C : Addr) (f : Str) : Prop := Cls K C ∧ NoAttr K C f
theorem lookup_look {β : Type} (f : Str) : ∀ fs : List (Str × β), fs.lookup f = look fs f
  | [] => rfl
  | p :: r => by
    unfold look
    rw [List.lookup_cons]
    by_cases e : p.1 = f
    · rw [if_pos e, e]; simp
    · rw [if_neg e]
      have : (f == p.1) = false := by simpa using fun h => e h.symm
      rw [this]
      exact lookup_look f r
theorem putF_put (f : Str) (v : V) : ∀ fs : List (Str × V), putF f v fs = put fs f v
  | [] => rfl
  | (g, x) :: r => by
    unfold putF put
    by_cases e : g = f
    · rw [if_pos e, if_pos e]
    · rw [if_neg e, if_neg e, putF_put f v r]
/-- an instance's class and fields -/
noncomputable def insD (μ : Store) : D → Option (Addr × List (Str × D))
  | .obj C fs => some (C, fs)
  | .ref a => match μ a with | some (.ins C fs) => some (C, fs) | _ => none
  | _ => none
theorem insD_ok {K : PySem.W.Frag} {μ : Store} {G H : Hp} {d : D} {v : V} {C : Addr} {ds : List (Str × D)} (h : insD μ d = some (C, ds)) (m : Sm K μ G H) (r : Rp K G d v) :
    ∃ a dx fs, v = .ref a ∧ H a = some (.ins C dx fs) ∧ fs.map (·.1) = ds.map (·.1) ∧ Rps K G (ds.map (·.2)) (fs.map (·.2)) := by
  cases r with
  | obj h1 k r1 => cases h; exact ⟨_, _, _, rfl, m.ex _ _ h1, k, r1⟩
  | ref a =>
    unfold insD at h
    dsimp only at h
    split at h
    · rename_i C' fs e
      cases h
      obtain ⟨_, dx, fs, h1, k, r1⟩ := m.st a _ e
      exact ⟨a, dx, fs, rfl, h1, k, r1⟩
    · cases h
  | _ => cases h
noncomputable def wFld (K : PySem.W.Frag) (f : Str) (we : WE) : WE := fun ρ μ P => we ρ μ fun x μ1 => match insD μ1 x with
  | some (C, fs) => FldOk K C f ∧ (match look fs f with | some d => P d μ1 | none => False)
  | none => False
theorem de_fld {f : Str} (h : DE X e we) (hb : attributeBase e f X.env (eval e X.env) = eval e X.env) : DE X (.Attribute e f pos) (wFld X.K f we) := ⟨wkE (pe_fld h.p hb) fun σ H Q ⟨ρ, μ, G, P, he, hm, hw, ht⟩ =>
  ⟨ρ, μ, G, _, he, hm, hw, fun x μ1 v H1 G1 p e m r => by
    split at p
    · rename_i C fs q
      obtain ⟨a, dx, vs, rfl, h1, k, r1⟩ := insD_ok q m r
      obtain ⟨⟨c, n⟩, p⟩ := p
      split at p
      · rename_i d hd
        obtain ⟨v, h2, r2⟩ := (look_keys (k := f) k r1).1 d hd
        exact ⟨a, C, dx, vs, v, rfl, h1, c, n, by rw [lookup_look]; exact h2, ht _ _ _ _ _ p e m r2⟩
      · exact p.elim
    · exact p.elim⟩⟩
noncomputable def wSetF (K : PySem.W.Frag) (f : Str) (wo wv : WE) : WS := fun W ρ μ => wv ρ μ fun y μ1 => wo ρ μ1 fun x μ2 => match x with
  | .ref a => match μ2 a with | some (.ins C fs) => FldOk K C f ∧ fs.length < 1000 ∧ W.nx ρ (setS μ2 a (.ins C (put fs f y))) | _ => False
  | _ => False
theorem ds_fld {o value : Expr} {f : Str} {pos' : Pos} {wo wv : WE} (ho : DE X o wo) (hv : DE X value wv) (hs : swapsWith value (some (.Attribute o f pos')) pos.line X.env = pure false := by rfl) :
    DS X (.Assign [.Attribute o f pos'] value pos) (wSetF X.K f wo wv) := ⟨wkS (ps_fld ho.p hv.p hs) fun D σ H ⟨ρ, μ, G, W, he, hm, hw, ht⟩ =>
  ⟨ρ, μ, G, _, he, hm, hw, fun y μ1 v1 H1 G1 p1 e1 m1 r1 => ⟨ρ, μ1, G1, _, he.mono e1, m1, p1, fun x μ2 v2 H2 G2 p2 e2 m2 r2 => by
    split at p2
    · rename_i a
      cases r2
      split at p2
      · rename_i C fs q
        obtain ⟨⟨c, n⟩, hl, p⟩ := p2
        obtain ⟨h0, dx, vs, h1, k, r3⟩ := m2.st a _ q
        obtain ⟨i1, i2⟩ := put_keys (k := f) (r1.mono e2) k r3
        refine ⟨a, C, dx, vs, rfl, h1, c, n, by rw [len_keys k]; exact hl, ?_⟩
        refine ht.nx _ _ _ _ _ p (e1.trans e2) ((he.mono e1).mono e2) (m2.write h0 ⟨dx, put vs f v1, ?_, i1, i2⟩)
        rw [upd_same, putF_put]
      · exact p2.elim
    · exact p2.elim⟩⟩⟩
end
end Dl
namespace Dl
open PySem L2
noncomputable abbrev WI := Env → Store → (List D → Store → Prop) → Prop
noncomputable def Walk (K : PySem.W.Frag) (G : Hp) (J : It) (its : List D) : Prop := ∀ (i : Nat) (H G2 : Hp) (μ : Store), Ex G G2 → Sm K μ G2 H →
  (i < its.length → J.go i H ∧ ∀ x H', J.yld i H x H' → ∃ G3 d, its[i]? = some d ∧ Ex G2 G3 ∧ Sm K μ G3 H' ∧ Rp K G3 d x) ∧ (its.length ≤ i → J.stop i H)
noncomputable def LI (K : PySem.W.Frag) (wi : WI) : TI := fun σ H R => ∃ ρ μ G P, EnvR K G ρ σ ∧ Sm K μ G H ∧ wi ρ μ P ∧ ∀ its μ' H' G' J, P its μ' → Ex G G' → Sm K μ' G' H' → Walk K G' J its → R J H'
structure DI (X : Cx) (tg iter : Expr) (wi : WI) : Prop where
  p : PI X tg iter (LI X.K wi)
section
variable {X : Cx}
theorem wkI {tg iter : Expr} {t t' : TI} (h : PI X tg iter t) (k : ∀ σ H R, t' σ H R → t σ H R) : PI X tg iter t' := ⟨fun pins s σ H R I q => h.run pins s σ H R I (k σ H R q)⟩
theorem walk_l {K : PySem.W.Frag} {G : Hp} {a : Addr} {xs : List V} {ds : List D} (h : ∀ H, Ex G H → SqL K H a xs) (r : Rps K G ds xs) : Walk K G (Itl K a) ds := fun i H G2 μ e m => by
  have sq := h H (e.trans m.ex)
  refine ⟨fun hi => ⟨⟨xs, xs[i]'(by rw [← r.length]; exact hi), sq, by simp [← r.length, hi]⟩, fun x H' y => ?_⟩, fun hi => ⟨xs, sq, by rw [← r.length]; exact hi⟩⟩
  obtain ⟨rfl, y⟩ := y
  obtain ⟨d, hd, rd⟩ := r.getR (y xs sq)
  exact ⟨G2, d, hd, Ex.refl _, m, rd.mono e⟩
theorem walk_t {K : PySem.W.Frag} {G : Hp} {a : Addr} {xs : List V} {ds : List D} (h : TupAt K G a xs) (r : Rps K G ds xs) : Walk K G (Itt K a) ds := fun i H G2 μ e m => by
  have sq := h.sq (e.trans m.ex)
  refine ⟨fun hi => ⟨⟨xs, xs[i]'(by rw [← r.length]; exact hi), sq, by simp [← r.length, hi]⟩, fun x H' y => ?_⟩, fun hi => ⟨xs, sq, by rw [← r.length]; exact hi⟩⟩
  obtain ⟨rfl, y⟩ := y
  obtain ⟨d, hd, rd⟩ := r.getR (y xs sq)
  exact ⟨G2, d, hd, Ex.refl _, m, rd.mono e⟩
noncomputable def rng (lo : Int) (n : Nat) : List D := (List.range n).map fun i => .int (lo + (i : Nat))
theorem rng_length {lo : Int} {n : Nat} : (rng lo n).length = n := by simp [rng]
theorem rng_get {lo : Int} {n i : Nat} (h : i < n) : (rng lo n)[i]? = some (.int (lo + (i : Nat))) := by simp [rng, h]
theorem walk_r {K : PySem.W.Frag} {G : Hp} {lo : Int} {n : Nat} : Walk K G (Itr lo n) (rng lo n) := fun i H G2 μ e m => by
  rw [rng_length]
  refine ⟨fun hi => ⟨hi, fun x H' y => ?_⟩, fun hi => hi⟩
  obtain ⟨rfl, rfl⟩ := y
  exact ⟨G2, _, rng_get hi, Ex.refl _, m, .int _⟩
noncomputable def chars (s : Str) : List D := s.cps.toList.map fun c => .str ⟨#[c]⟩
theorem walk_s {K : PySem.W.Frag} {G : Hp} {s : Str} : Walk K G (Its s) (chars s) := fun i H G2 μ e m => by
  have hl : (chars s).length = s.cps.size := by simp [chars]
  rw [hl]
  refine ⟨fun hi => ⟨hi, fun x H' y => ?_⟩, fun hi => hi⟩
  obtain ⟨rfl, c, hc, rfl⟩ := y
  exact ⟨G2, .str ⟨#[c]⟩, by simp [chars, hc], Ex.refl _, m, .str _⟩
noncomputable def iSeq (K : PySem.W.Frag) (te : TE) : TI := fun σ H R => te σ H fun x H1 => (∃ a, x = .ref a ∧ (∃ xs, SqL K H1 a xs) ∧ R (Itl K a) H1) ∨ (∃ a, x = .ref a ∧ (∃ xs, SqT K H1 a xs) ∧ R (Itt K a) H1) ∨ ∃ s, x = .str s ∧ R (Its s) H1
theorem pi_seq {tg e : Expr} {te : TE} (he : PE X e te) : PI X tg e (iSeq X.K te) := by
  refine ⟨fun pins s σ H R I h => ?_⟩
  refine thn (he.run pins s σ H _ I h) fun v s1 ⟨x, H1, I1, r1, q1⟩ => ?_
  rcases q1 with ⟨a, rfl, ⟨xs, hq⟩, q⟩ | ⟨a, rfl, ⟨xs, hq⟩, q⟩ | ⟨x, rfl, q⟩
  · cases r1
    obtain ⟨its, rv, p, hz⟩ := I1.list hq
    refine wpAny_pyIter_list p.isList ?_
    refine ⟨s1.heap.objs.size, [s1.heap.objs.size], _, _, H1, rfl, I1.kept (t' := s1.toks) fun b o e => PySem.Heap.get?_push_of_some _ e, turn_list a _, ⟨_, PySem.Heap.get?_push_size _ rfl, rfl, rfl⟩, fun b hb => ?_, q⟩
    have e : b = s1.heap.objs.size := by simpa using hb
    subst e
    exact I1.fpOk (Nat.le_refl _) (I1.hok.fresh (Nat.le_refl _))
  · cases r1
    obtain ⟨its, rv, p, hz⟩ := I1.tuple hq
    refine wpAny_pyIter_tuple (show s1.heap.IsTuple a its.toArray from p) ?_
    refine ⟨s1.heap.objs.size, [s1.heap.objs.size], _, _, H1, rfl, I1.kept (t' := s1.toks) fun b o e => PySem.Heap.get?_push_of_some _ e, turn_tuple a _, ⟨_, PySem.Heap.get?_push_size _ rfl, rfl, rfl⟩, fun b hb => ?_, q⟩
    have e : b = s1.heap.objs.size := by simpa using hb
    subst e
    exact I1.fpOk (Nat.le_refl _) (I1.hok.fresh (Nat.le_refl _))
  · obtain ⟨t, rfl⟩ := r1
    cases ha : x.cps.all (· < 128)
    · exact wpAny_pyIter_wide ha (pi_one (tk := s1.toks) I1 _ (turn_str _ x t "str_iterator" (.inr rfl)) ⟨_, PySem.Heap.get?_push_size _ rfl, rfl, rfl⟩ q)
    · exact wpAny_pyIter_ascii ha (pi_one (tk := s1.toks) I1 _ (turn_str _ x t "str_ascii_iterator" (.inl rfl)) ⟨_, PySem.Heap.get?_push_size _ rfl, rfl, rfl⟩ q)
/-- what a plain for walks: a list that stays, a tuple, a text -/
noncomputable def itemsD : D → Option (List D)
  | .lst xs => some xs
  | .scr xs => some xs
  | .tup xs => some xs
  | .str s => some (chars s)
  | _ => none
noncomputable def wiSeq (we : WE) : WI := fun ρ μ P => we ρ μ fun d μ1 => match itemsD d with | some xs => P xs μ1 | none => False
theorem di_seq {tg e : Expr} {we : WE} (h : DE X e we) : DI X tg e (wiSeq we) := ⟨wkI (pi_seq h.p) fun σ H R ⟨ρ, μ, G, P, he, hm, hw, ht⟩ =>
  ⟨ρ, μ, G, _, he, hm, hw, fun d μ1 v H1 G1 p e m r => by
    cases r with
    | lst h1 r1 => exact .inl ⟨_, rfl, ⟨_, lst_sq m.ex h1⟩, ht _ _ _ _ _ p e m (walk_l (fun H' e' => lst_sq e' h1) r1)⟩
    | scr h1 r1 => exact .inl ⟨_, rfl, ⟨_, h1.sq m.ex⟩, ht _ _ _ _ _ p e m (walk_l (fun H' e' => h1.sq e') r1)⟩
    | tup h1 r1 => exact .inr (.inl ⟨_, rfl, ⟨_, h1.sq m.ex⟩, ht _ _ _ _ _ p e m (walk_t h1 r1)⟩)
    | str s => exact .inr (.inr ⟨s, rfl, ht _ _ _ _ _ p e m walk_s⟩)
    | _ => exact p.elim⟩⟩
noncomputable def wiRng1 (wa : WA) : WI := fun ρ μ P => wa ρ μ fun ds μ1 => match ds with | [.int j] => (-(2 ^ 62) ≤ j ∧ j < 2 ^ 62) ∧ P (rng 0 j.toNat) μ1 | _ => False
noncomputable def wiRng2 (wa : WA) : WI := fun ρ μ P => wa ρ μ fun ds μ1 => match ds with | [.int i, .int j] => (-(2 ^ 62) ≤ i ∧ i < 2 ^ 62 ∧ -(2 ^ 62) ≤ j ∧ j < 2 ^ 62) ∧ P (rng i (j - i).toNat) μ1 | _ => False
theorem di_range1 {tg a : Expr} {wa : WA} {p pos : Pos} (hg : Gl X "range") (hm : X.mg "range" = none) (ha : DA X [a] wa) (hs : starEach [a] X.env = [(false, eval a X.env)] := by rfl) : DI X tg (.Call (.Name "range" p) [a] [] pos) (wiRng1 wa) :=
  ⟨wkI (pi_range1 hg hm ha.p hs) fun σ H R ⟨ρ, μ, G, P, he, hm, hw, ht⟩ => ⟨ρ, μ, G, _, he, hm, hw, fun ds μ1 vs H1 G1 p e m r => by
    match ds, r, p with
    | [.int j], .cons (.int _) .nil, p => exact ⟨j, rfl, p.1.1, p.1.2, ht _ _ _ _ _ p.2 e m walk_r⟩⟩⟩
noncomputable def forBody (its : List D) (g : WG) (wb : WS) (W : WEnds) (ρ : Env) (μ1 : Store) : Prop := ∃ I : Nat → Env → Store → Prop, I 0 ρ μ1 ∧
  (∀ i d ρ' μ', its[i]? = some d → I i ρ' μ' → g d ρ' μ' fun ρ2 μ2 => wb { W with nx := I (i + 1), ct := I (i + 1), bk := W.nx } ρ2 μ2) ∧ ∀ ρ' μ', I its.length ρ' μ' → W.nx ρ' μ'
noncomputable def wFor (wi : WI) (g : WG) (wb : WS) : WS := fun W ρ μ => wi ρ μ fun its μ1 => forBody its g wb W ρ μ1
theorem ds_for {tg iter : Expr} {body : List Stmt} {wi : WI} {g : WG} {wb : WS} {pos : Pos} (hp : PassesOwn (model X.prog X.w) X.A X.env X.xe) (hc : X.calm = true) (hi : DI X tg iter wi) (hg : DG X tg g) (hb : DSs X body wb)
    (hs : ∀ x, foldedSetIterable iter X.env x = pure x := by intro _; rfl) : DS X (.For tg iter body [] pos) (wFor wi g wb) := by
  refine ⟨wkS (ps_for hp hc hi.p hg.p hb.p hs) fun D σ H ⟨ρ, μ, G, W, he, hm, hw, ht⟩ => ⟨ρ, μ, G, _, he, hm, hw, ?_⟩⟩
  rintro its μ1 H1 G1 J ⟨I, h0, hturn, hend⟩ e1 m1 hJ
  refine ⟨fun i m σ' H' => m = its.length - i ∧ i ≤ its.length ∧ ∃ ρ' μ' G', Ex G1 G' ∧ EnvR X.K G' ρ' σ' ∧ Sm X.K μ' G' H' ∧ I i ρ' μ', ⟨its.length, by simp, Nat.zero_le _, ρ, μ1, G1, Ex.refl _, he.mono e1, m1, h0⟩, ?_⟩
  rintro i m σ' H' ⟨rfl, hi, ρ', μ', G', e', he', hm', hI⟩
  obtain ⟨wgo, wstop⟩ := hJ i H' G' μ' e' hm'
  by_cases hlt : i < its.length
  · obtain ⟨go, yl⟩ := wgo hlt
    refine .inr ⟨go, fun σ2 H2 => ∃ ρ2 μ2 G2, Ex G1 G2 ∧ EnvR X.K G2 ρ2 σ2 ∧ Sm X.K μ2 G2 H2 ∧ I (i + 1) ρ2 μ2, fun σ2 H2 ⟨ρ2, μ2, G2, a, b, c, d⟩ => ⟨its.length - (i + 1), by omega, rfl, hlt, ρ2, μ2, G2, a, b, c, d⟩, fun x H2 hy => ?_⟩
    obtain ⟨G3, d, hd, e3, m3, r3⟩ := yl x H2 hy
    refine ⟨ρ', μ', G3, d, _, he'.mono e3, m3, r3, hturn i d ρ' μ' hd hI, fun ρ4 μ4 σ4 H4 G4 p4 e4 he4 hm4 => ?_⟩
    have eG : Ex G1 G4 := (e'.trans e3).trans e4
    refine ⟨ρ4, μ4, G4, _, he4, hm4, p4, ⟨fun ρ5 μ5 σ5 H5 G5 p5 e5 he5 hm5 => ⟨ρ5, μ5, G5, eG.trans e5, he5, hm5, p5⟩, fun d5 μ5 v5 H5 G5 p5 e5 hm5 r5 => ht.rt _ _ _ _ _ p5 ((e1.trans eG).trans e5) hm5 r5,
      fun ρ5 μ5 σ5 H5 G5 p5 e5 he5 hm5 => ht.nx _ _ _ _ _ p5 ((e1.trans eG).trans e5) he5 hm5, fun ρ5 μ5 σ5 H5 G5 p5 e5 he5 hm5 => ⟨ρ5, μ5, G5, eG.trans e5, he5, hm5, p5⟩⟩⟩
  · have ei : i = its.length := by omega
    subst ei
    exact .inl ⟨wstop (Nat.le_refl _), ht.nx _ _ _ _ _ (hend ρ' μ' hI) (e1.trans e') he' hm'⟩
noncomputable def wWhile (c : WT) (wb : WS) : WS := fun W ρ μ => ∃ I : Nat → Env → Store → Prop, (∃ m, I m ρ μ) ∧ ∀ m ρ' μ', I m ρ' μ' → c ρ' μ' fun b μ1 => if b = true then
  wb { W with nx := fun ρ2 μ2 => ∃ m', m' < m ∧ I m' ρ2 μ2, ct := fun ρ2 μ2 => ∃ m', m' < m ∧ I m' ρ2 μ2, bk := W.nx } ρ' μ1 else W.nx ρ' μ1
theorem ds_while {c : Expr} {body : List Stmt} {t : WT} {wb : WS} {pos : Pos} (hp : PassesOwn (model X.prog X.w) X.A X.env X.xe) (hc : DT X c t) (hb : DSs X body wb) : DS X (.While c body [] pos) (wWhile t wb) := by
  refine ⟨wkS (ps_while hp hc.p hb.p) fun D σ H ⟨ρ, μ, G, W, he, hm, ⟨I, ⟨m0, h0⟩, hturn⟩, ht⟩ => ?_⟩
  refine ⟨fun m σ' H' => ∃ ρ' μ' G', Ex G G' ∧ EnvR X.K G' ρ' σ' ∧ Sm X.K μ' G' H' ∧ I m ρ' μ', ⟨m0, ρ, μ, G, Ex.refl _, he, hm, h0⟩, ?_⟩
  rintro m σ' H' ⟨ρ', μ', G', e', he', hm', hI⟩
  refine ⟨ρ', μ', G', _, he', hm', hturn m ρ' μ' hI, fun b μ1 H1 G1 p e m1 => ?_⟩
  have eG : Ex G G1 := e'.trans e
  cases b with
  | true =>
    rw [if_pos rfl] at p
    refine iteT ?_
    refine ⟨fun σ2 H2 => ∃ m', m' < m ∧ ∃ ρ2 μ2 G2, Ex G G2 ∧ EnvR X.K G2 ρ2 σ2 ∧ Sm X.K μ2 G2 H2 ∧ I m' ρ2 μ2, fun σ2 H2 ⟨m', h1, h2⟩ => ⟨m', h1, h2⟩, ρ', μ1, G1, _, he'.mono e, m1, p, ?_⟩
    exact ⟨fun ρ5 μ5 σ5 H5 G5 ⟨m', h1, h2⟩ e5 he5 hm5 => ⟨m', h1, ρ5, μ5, G5, eG.trans e5, he5, hm5, h2⟩, fun d5 μ5 v5 H5 G5 p5 e5 hm5 r5 => ht.rt _ _ _ _ _ p5 (eG.trans e5) hm5 r5,
      fun ρ5 μ5 σ5 H5 G5 p5 e5 he5 hm5 => ht.nx _ _ _ _ _ p5 (eG.trans e5) he5 hm5, fun ρ5 μ5 σ5 H5 G5 ⟨m', h1, h2⟩ e5 he5 hm5 => ⟨m', h1, ρ5, μ5, G5, eG.trans e5, he5, hm5, h2⟩⟩
  | false =>
    rw [if_neg Bool.false_ne_true] at p
    refine iteF ?_
    exact ht.nx _ _ _ _ _ p eG (he'.mono e) m1
noncomputable def wipeE (ρ : Env) : List Nat → Env
  | [] => ρ
  | v :: vs => (wipeE ρ vs).set v none
theorem EnvR.unset {K : PySem.W.Frag} {G : Hp} {ρ : Env} {σ : L2.St} (h : EnvR K G ρ σ) (i : Nat) : EnvR K G (ρ.set i none) (σ.set i none) := by
  refine ⟨by rw [List.length_set, List.length_set]; exact h.1, fun j e q => ?_⟩
  by_cases hj : i = j
  · subst hj
    by_cases hl : i < ρ.length
    · rw [List.getElem?_set_self hl] at q; cases q
    · rw [List.getElem?_eq_none (by rw [List.length_set]; omega)] at q; cases q
  · rw [List.getElem?_set_ne hj] at q ⊢
    exact h.2 j e q
theorem EnvR.wipe {K : PySem.W.Frag} {G : Hp} {ρ : Env} {σ : L2.St} (h : EnvR K G ρ σ) : ∀ vs : List Nat, EnvR K G (wipeE ρ vs) (L2.wipe σ vs)
  | [] => h
  | v :: vs => (EnvR.wipe h vs).unset v
structure DTs (X : Cx) (ifs : List Expr) (w : WT) : Prop where
  p : PTs X ifs (LT X.K w)
noncomputable def wYes : WT := fun _ μ P => P true μ
theorem dts_nil : DTs X [] wYes := ⟨⟨fun pins s σ H Q I ⟨ρ, μ, G, P, he, hm, hw, ht⟩ => pts_nil.run pins s σ H Q I (ht _ _ _ _ hw (Ex.refl _) hm)⟩⟩
theorem dts_one {c : Expr} {w : WT} (h : DT X c w) : DTs X [c] w := ⟨pts_one h.p⟩
/-- the items made one after another; L: the new list; I: by the turn, the list so far, the cells -/
noncomputable def lcBody (its : List D) (g : WG) (tt : WT) (te : WE) (vs : List Nat) (fin : Addr → List D → Store → Prop) (ρ : Env) (μ1 : Store) : Prop := its.length ≤ sizeLine ∧ ∀ L, μ1 L = none → ∃ I : Nat → List D → Store → Prop, I 0 [] (setS μ1 L (.lst [])) ∧
  (∀ i d acc μ', its[i]? = some d → μ' L = some (.lst acc) → I i acc μ' → g d (wipeE ρ vs) μ' fun ρ2 μ2 => tt ρ2 μ2 fun b μ3 => if b = true then te ρ2 μ3 fun y μ4 => μ4 L = some (.lst acc) ∧ I (i + 1) (acc ++ [y]) (setS μ4 L (.lst (acc ++ [y]))) else μ3 L = some (.lst acc) ∧ I (i + 1) acc μ3) ∧
  ∀ acc μ', acc.length ≤ its.length → μ' L = some (.lst acc) → I its.length acc μ' → fin L acc μ'
noncomputable def wLcG (wi : WI) (g : WG) (tt : WT) (te : WE) (vs : List Nat) (fin : Addr → List D → Store → Prop) : Env → Store → Prop := fun ρ μ => wi ρ μ fun its μ1 => lcBody its g tt te vs fin ρ μ1
noncomputable def wLc (wi : WI) (g : WG) (tt : WT) (te : WE) (vs : List Nat) : WE := fun ρ μ P => wLcG wi g tt te vs (fun L acc μ' => P (.lst acc) (delS μ' L)) ρ μ
noncomputable def wLcM (wi : WI) (g : WG) (tt : WT) (te : WE) (vs : List Nat) : WE := fun ρ μ P => wLcG wi g tt te vs (fun L acc μ' => P (.ref L) μ') ρ μ
theorem llc {K : PySem.W.Frag} {wi : WI} {g : TG} {wg : WG} {tt : WT} {te : WE} {vs : List Nat} {fin : Addr → List D → Store → Prop} {σ : L2.St} {H : Hp} {Q : VK} {ρ : Env} {μ : Store} {G : Hp} (hg : GPat K vs g wg) (he : EnvR K G ρ σ) (hm : Sm K μ G H) (hw : wLcG wi wg tt te vs fin ρ μ)
    (hf : ∀ L acc μ' H' G', fin L acc μ' → μ' L = some (.lst acc) → Ex G G' → Sm K μ' G' H' → Q (.ref L) H') : tLc (LI K wi) g (LT K tt) (LE K te) vs σ H Q := by
  refine ⟨ρ, μ, G, _, he, hm, hw, ?_⟩
  rintro its μ1 H1 G1 J ⟨hz, hI⟩ e1 m1 hJ L hL
  obtain ⟨I, h0, hturn, hend⟩ := hI L (m1.nn hL)
  refine ⟨fun i m H' => m = its.length - i ∧ i ≤ its.length ∧ ∃ acc μ' G', Ex G1 G' ∧ Sm K μ' G' H' ∧ μ' L = some (.lst acc) ∧ acc.length ≤ i ∧ I i acc μ',
    ⟨its.length, by simp, Nat.zero_le _, [], _, G1, Ex.refl _, m1.write (c := .lst []) (m1.ex.nn hL) ⟨[], upd_same, .nil⟩, setS_same, Nat.le_refl _, h0⟩, ?_⟩
  rintro i m H' ⟨rfl, hi, acc, μ', G', e', hm', uD, hl, hI⟩
  obtain ⟨wgo, wstop⟩ := hJ i H' G' μ' e' hm'
  by_cases hlt : i < its.length
  · obtain ⟨go, yl⟩ := wgo hlt
    refine .inr ⟨go, fun H2 => ∃ acc2 μ2 G2, Ex G1 G2 ∧ Sm K μ2 G2 H2 ∧ μ2 L = some (.lst acc2) ∧ acc2.length ≤ i + 1 ∧ I (i + 1) acc2 μ2, fun H2 ⟨a, b, c, x1, x2, x3, x4, x5⟩ => ⟨its.length - (i + 1), by omega, rfl, hlt, a, b, c, x1, x2, x3, x4, x5⟩, fun x H2 hy => ?_⟩
    obtain ⟨G3, d, hd, e3, m3, r3⟩ := yl x H2 hy
    have heW : EnvR K G3 (wipeE ρ vs) (L2.wipe σ vs) := ((((he.mono e1).mono e').mono e3)).wipe vs
    refine hg heW m3 r3 (hturn i d acc μ' hd uD hI) fun ρ4 μ4 σ4 H4 G4 p4 e4 he4 hm4 q4 => ⟨q4.trans (wipe_wipe fun _ h => h), ρ4, μ4, G4, _, he4, hm4, p4, fun b μ5 H5 G5 p5 e5 m5 => ?_⟩
    have eG : Ex G1 G5 := ((e'.trans e3).trans e4).trans e5
    cases b with
    | true =>
      rw [if_pos rfl] at p5
      refine iteT ?_
      refine ⟨ρ4, μ5, G5, _, he4.mono e5, m5, p5, fun y μ6 v6 H6 G6 p6 e6 m6 r6 => ?_⟩
      obtain ⟨h0, xs, h1, rr⟩ := m6.st L _ p6.1
      exact ⟨xs, h1, by rw [← rr.length]; omega, acc ++ [y], _, G6, eG.trans e6, m6.write (c := .lst (acc ++ [y])) h0 ⟨_, upd_same, rr.append (.cons r6 .nil)⟩, setS_same, by rw [List.length_append]; simp; omega, p6.2⟩
    | false =>
      rw [if_neg Bool.false_ne_true] at p5
      refine iteF ?_
      exact ⟨acc, μ5, G5, eG, m5, p5.1, by omega, p5.2⟩
  · have ei : i = its.length := by omega
    subst ei
    exact .inl ⟨wstop (Nat.le_refl _), hf _ _ _ _ _ (hend acc μ' hl uD hI) uD (e1.trans e') hm'⟩
section
variable {elt tg iter : Expr} {ifs : List Expr} {scope : Scope} {own : List (Str × Nat)} {pos : Pos} {wi : WI} {g : TG} {wg : WG} {tt : WT} {te : WE}
theorem de_lc (hc : X.calm = true) (hN : X.N.Nodup) (hi : DI X tg iter wi) (ok : BlkOk X.N X.env.scope scope own) (hp : GPat X.K (own.map (·.2)) g wg)
    (hg : ∀ (s : Shared) (H : Hp) (C : Addr) (cl : List (Str × Addr)) (fp : List Addr), PG (X.blk s H scope (compEnvC scope cl C X.env) fp) tg g) (ht : ∀ (s : Shared) (H : Hp) (C : Addr) (cl : List (Str × Addr)) (fp : List Addr), DTs (X.blk s H scope (compEnvC scope cl C X.env) fp) ifs tt)
    (he : ∀ (s : Shared) (H : Hp) (C : Addr) (cl : List (Str × Addr)) (fp : List Addr), DE (X.blk s H scope (compEnvC scope cl C X.env) fp) elt te) (hs : ∀ x, foldedSetIterable iter X.env x = pure x := by intro _; rfl) :
    DE X (.ListComp elt [⟨tg, iter, ifs, 0⟩] scope pos) (wLc wi wg tt te (own.map (·.2))) :=
  ⟨wkE (pe_lc hc hN hi.p ok hg (fun s H C cl fp => (ht s H C cl fp).p) (fun s H C cl fp => (he s H C cl fp).p) hs) fun σ H Q ⟨ρ, μ, G, P, hr, hm, hw, htl⟩ => llc hp hr hm hw fun L acc μ' H' G' f u e m => by
    obtain ⟨G2, m2, e2, r2⟩ := m.freezeL u
    exact htl _ _ _ _ _ f (e.trans e2) m2 r2⟩
/-- y = [..] -/
theorem ds_setLcG {fin : Addr → List D → Store → Prop} {i : Nat} {y : Str} {py spos : Pos} {w : WE} (hc : X.calm = true) (hN : X.N.Nodup) (hy : X.N[i]? = some y) (hyl : X.env.scope.names.lookup y = some .local)
    (hsw : swapsWith (.ListComp elt [⟨tg, iter, ifs, 0⟩] scope pos) (some (.Name y py)) spos.line X.env = pure true) (hi : DI X tg iter wi) (ok : BlkOk X.N X.env.scope scope own) (hp : GPat X.K (own.map (·.2)) g wg)
    (hg : ∀ (s : Shared) (H : Hp) (C : Addr) (cl : List (Str × Addr)) (fp : List Addr), PG (X.blk s H scope (compEnvC scope cl C X.env) fp) tg g) (ht : ∀ (s : Shared) (H : Hp) (C : Addr) (cl : List (Str × Addr)) (fp : List Addr), DTs (X.blk s H scope (compEnvC scope cl C X.env) fp) ifs tt)
    (he : ∀ (s : Shared) (H : Hp) (C : Addr) (cl : List (Str × Addr)) (fp : List Addr), DE (X.blk s H scope (compEnvC scope cl C X.env) fp) elt te) (hs : ∀ x, foldedSetIterable iter X.env x = pure x)
    (hq : ∀ σ H Q, LE X.K w σ H Q → tLc (LI X.K wi) g (LT X.K tt) (LE X.K te) (own.map (·.2)) σ H Q) :
    DS X (.Assign [.Name y py] (.ListComp elt [⟨tg, iter, ifs, 0⟩] scope pos) spos) (wAsg w (wgName i)) :=
  ⟨wkS (ps_setLc hc hN hy hyl hsw hi.p ok hg (fun s H C cl fp => (ht s H C cl fp).p) (fun s H C cl fp => (he s H C cl fp).p) hs) fun D σ H ⟨ρ, μ, G, W, hr, hm, hw, htl⟩ => hq σ H _ ⟨ρ, μ, G, _, hr, hm, hw, fun d μ1 v H1 G1 p e m r => htl.nx _ _ _ _ _ p e ((hr.mono e).set i r) m⟩⟩
theorem ds_setLc {i : Nat} {y : Str} {py spos : Pos} (hc : X.calm = true) (hN : X.N.Nodup) (hy : X.N[i]? = some y) (hyl : X.env.scope.names.lookup y = some .local)
    (hsw : swapsWith (.ListComp elt [⟨tg, iter, ifs, 0⟩] scope pos) (some (.Name y py)) spos.line X.env = pure true) (hi : DI X tg iter wi) (ok : BlkOk X.N X.env.scope scope own) (hp : GPat X.K (own.map (·.2)) g wg)
    (hg : ∀ (s : Shared) (H : Hp) (C : Addr) (cl : List (Str × Addr)) (fp : List Addr), PG (X.blk s H scope (compEnvC scope cl C X.env) fp) tg g) (ht : ∀ (s : Shared) (H : Hp) (C : Addr) (cl : List (Str × Addr)) (fp : List Addr), DTs (X.blk s H scope (compEnvC scope cl C X.env) fp) ifs tt)
    (he : ∀ (s : Shared) (H : Hp) (C : Addr) (cl : List (Str × Addr)) (fp : List Addr), DE (X.blk s H scope (compEnvC scope cl C X.env) fp) elt te) (hs : ∀ x, foldedSetIterable iter X.env x = pure x := by intro _; rfl) :
    DS X (.Assign [.Name y py] (.ListComp elt [⟨tg, iter, ifs, 0⟩] scope pos) spos) (wAsg (wLc wi wg tt te (own.map (·.2))) (wgName i)) :=
  ds_setLcG (fin := fun _ _ _ => True) hc hN hy hyl hsw hi ok hp hg ht he hs fun σ H Q ⟨ρ, μ, G, P, hr, hm, hw, htl⟩ => llc hp hr hm hw fun L acc μ' H' G' f u e m => by
    obtain ⟨G2, m2, e2, r2⟩ := m.freezeL u
    exact htl _ _ _ _ _ f (e.trans e2) m2 r2
theorem ds_setLcM {i : Nat} {y : Str} {py spos : Pos} (hc : X.calm = true) (hN : X.N.Nodup) (hy : X.N[i]? = some y) (hyl : X.env.scope.names.lookup y = some .local)
    (hsw : swapsWith (.ListComp elt [⟨tg, iter, ifs, 0⟩] scope pos) (some (.Name y py)) spos.line X.env = pure true) (hi : DI X tg iter wi) (ok : BlkOk X.N X.env.scope scope own) (hp : GPat X.K (own.map (·.2)) g wg)
    (hg : ∀ (s : Shared) (H : Hp) (C : Addr) (cl : List (Str × Addr)) (fp : List Addr), PG (X.blk s H scope (compEnvC scope cl C X.env) fp) tg g) (ht : ∀ (s : Shared) (H : Hp) (C : Addr) (cl : List (Str × Addr)) (fp : List Addr), DTs (X.blk s H scope (compEnvC scope cl C X.env) fp) ifs tt)
    (he : ∀ (s : Shared) (H : Hp) (C : Addr) (cl : List (Str × Addr)) (fp : List Addr), DE (X.blk s H scope (compEnvC scope cl C X.env) fp) elt te) (hs : ∀ x, foldedSetIterable iter X.env x = pure x := by intro _; rfl) :
    DS X (.Assign [.Name y py] (.ListComp elt [⟨tg, iter, ifs, 0⟩] scope pos) spos) (wAsg (wLcM wi wg tt te (own.map (·.2))) (wgName i)) :=
  ds_setLcG (fin := fun _ _ _ => True) hc hN hy hyl hsw hi ok hp hg ht he hs fun σ H Q ⟨ρ, μ, G, P, hr, hm, hw, htl⟩ => llc hp hr hm hw fun L acc μ' H' G' f u e m => htl _ _ _ _ _ f e m (.ref L)
end
end
/-- a comprehension whose elements change nothing: f tells each, or that it is left out -/
theorem lc_fm {its : List D} {g : WG} {tt : WT} {te : WE} {vs : List Nat} {fin : Addr → List D → Store → Prop} {ρ : Env} {μ : Store} (f : Nat → D → Option D) (hz : its.length ≤ sizeLine)
    (h : ∀ (i : Nat) (d : D) (μ' : Store) (R : D → Store → Prop) (R' : Store → Prop), its[i]? = some d → Sub μ μ' → (∀ y, f i d = some y → R y μ') → (f i d = none → R' μ') → g d (wipeE ρ vs) μ' fun ρ2 μ2 => tt ρ2 μ2 fun b μ3 => if b = true then te ρ2 μ3 R else R' μ3)
    (q : ∀ L, μ L = none → fin L ((its.zipIdx).filterMap fun p => f p.2 p.1) (setS μ L (.lst ((its.zipIdx).filterMap fun p => f p.2 p.1)))) : lcBody its g tt te vs fin ρ μ := by
  refine ⟨hz, fun L hL => ⟨fun i acc μ' => acc = ((its.zipIdx).take i).filterMap (fun p => f p.2 p.1) ∧ μ' = setS μ L (.lst acc), ⟨rfl, rfl⟩, ?_, ?_⟩⟩
  · rintro i d acc μ' hd hu ⟨rfl, rfl⟩
    have hz2 : (its.zipIdx)[i]? = some (d, i) := by rw [List.getElem?_zipIdx, hd]; simp
    have ht : (its.zipIdx).take (i + 1) = (its.zipIdx).take i ++ [(d, i)] := by rw [List.take_add_one, hz2]; rfl
    refine h i d _ _ _ hd (Sub.set hL) (fun y e => ⟨hu, ?_, ?_⟩) (fun e => ⟨hu, ?_, rfl⟩)
    · rw [ht, List.filterMap_append]; simp [e]
    · rw [setS_setS]
    · rw [ht, List.filterMap_append]; simp [e]
  · rintro acc μ' _ _ ⟨rfl, rfl⟩
    have e : (its.zipIdx).take its.length = its.zipIdx := by
      rw [List.take_of_length_le]; simp
    rw [e]
    exact q L hL
/-- .. with a test, every element told by its item -/
theorem lc_fmap {its : List D} {g : WG} {tt : WT} {te : WE} {vs : List Nat} {fin : Addr → List D → Store → Prop} {ρ : Env} {μ : Store} (f : D → Option D) (hz : its.length ≤ sizeLine)
    (h : ∀ (i : Nat) (d : D) (μ' : Store) (R : D → Store → Prop) (R' : Store → Prop), its[i]? = some d → Sub μ μ' → (∀ y, f d = some y → R y μ') → (f d = none → R' μ') → g d (wipeE ρ vs) μ' fun ρ2 μ2 => tt ρ2 μ2 fun b μ3 => if b = true then te ρ2 μ3 R else R' μ3)
    (q : ∀ L, μ L = none → fin L (its.filterMap f) (setS μ L (.lst (its.filterMap f)))) : lcBody its g tt te vs fin ρ μ := by
  have e : (its.zipIdx).filterMap (fun p => (fun (_ : Nat) (d : D) => f d) p.2 p.1) = its.filterMap f := by
    have e2 := List.filterMap_map (f := Prod.fst) (g := f) (l := its.zipIdx)
    rw [List.zipIdx_map_fst] at e2
    rw [e2]
    rfl
  exact lc_fm (fun _ d => f d) hz (fun i d μ' R R' hd s hr hr' => h i d μ' R R' hd s hr hr') (by rw [e]; exact q)
/-- .. without a test, every element told by its item -/
theorem lc_map {its : List D} {g : WG} {te : WE} {vs : List Nat} {fin : Addr → List D → Store → Prop} {ρ : Env} {μ : Store} (f : D → D) (hz : its.length ≤ sizeLine)
    (h : ∀ (i : Nat) (d : D) (μ' : Store) (R : D → Store → Prop), its[i]? = some d → Sub μ μ' → R (f d) μ' → g d (wipeE ρ vs) μ' fun ρ2 μ2 => te ρ2 μ2 R)
    (q : ∀ L, μ L = none → fin L (its.map f) (setS μ L (.lst (its.map f)))) : lcBody its g wYes te vs fin ρ μ := by
  have e : its.filterMap (fun d => some (f d)) = its.map f := by rw [show (fun d => some (f d)) = some ∘ f from rfl, List.filterMap_eq_map]
  refine lc_fmap (fun d => some (f d)) hz (fun i d μ' R R' hd s hr _ => ?_) (by rw [e]; exact q)
  exact h i d μ' R hd s (hr _ rfl)
end Dl
namespace Dl
open PySem L2
section
variable {X : Cx} {e : Expr} {es : List Expr} {x : Str} {p pos : Pos} {wa : WA}
noncomputable abbrev OC := List D → Store → (D → Store → Prop) → Prop
noncomputable def CallS (X : Cx) (f : Value) (o : OC) : Prop :=
  ∃ r, CallR X f r ∧ ∀ {ds : List D} {μ : Store} {P : D → Store → Prop} {G H : Hp} {vs : List V} {Q : VK}, o ds μ P → Sm X.K μ G H → Rps X.K G ds vs → Tells X.K G P Q → r vs H Q
noncomputable def wCB (o : OC) (wa : WA) : WE := fun ρ μ P => wa ρ μ fun ds μ1 => o ds μ1 P
theorem lcb {r : List V → Hp → VK → Prop} {o : OC} (hs : ∀ {ds : List D} {μ : Store} {P : D → Store → Prop} {G H : Hp} {vs : List V} {Q : VK}, o ds μ P → Sm X.K μ G H → Rps X.K G ds vs → Tells X.K G P Q → r vs H Q) :
    ∀ σ H Q, LE X.K (wCB o wa) σ H Q → tCB r (LA X.K wa) σ H Q := fun σ H Q ⟨ρ, μ, G, P, he, hm, hw, ht⟩ => ⟨ρ, μ, G, _, he, hm, hw, fun ds μ1 vs H1 G1 p1 e1 m1 r1 => hs p1 m1 r1 (ht.mono e1)⟩
theorem de_callB {id : String} {o : OC} (hc : CallS X (.builtin id) o) (hg : Gl X x) (hm : X.mg x = none) (hv : bootBuiltins x = some (.builtin id)) (ha : DA X (e :: es) wa) (hn : x ≠ "__name__" := by decide) (hdb : (x == ("__debug__" : Str)) = false := by decide)
    (he : starEach (e :: es) X.env = (false, eval e X.env) :: starEach es X.env := by rfl) (hpl : (backTo pos (starEach es X.env)).any (·.1) = false := by rfl) : DE X (.Call (.Name x p) (e :: es) [] pos) (wCB o wa) := by
  obtain ⟨r, hr, hs⟩ := hc
  exact ⟨wkE (pe_callB hr hg hm hv ha.p hn hdb he hpl) (lcb hs)⟩
theorem de_callTy {T : String} {o : OC} (hc : CallS X (.type T) o) (hg : Gl X x) (hm : X.mg x = none) (hv : bootBuiltins x = some (.type T)) (ha : DA X (e :: es) wa) (hn : x ≠ "__name__" := by decide) (hdb : (x == ("__debug__" : Str)) = false := by decide)
    (he : starEach (e :: es) X.env = (false, eval e X.env) :: starEach es X.env := by rfl) (hpl : (backTo pos (starEach es X.env)).any (·.1) = false := by rfl) : DE X (.Call (.Name x p) (e :: es) [] pos) (wCB o wa) := by
  obtain ⟨r, hr, hs⟩ := hc
  exact ⟨wkE (pe_callTy hr hg hm hv ha.p hn hdb he hpl) (lcb hs)⟩
/-- lengths -/
noncomputable def lenD (μ : Store) : D → Option Nat
  | .str s => some s.length
  | .tup xs => some xs.length
  | .lst xs => some xs.length
  | .scr xs => some xs.length
  | .dct xs => some xs.length
  | .ref a => match μ a with | some (.lst xs) => some xs.length | some (.dct xs) => some xs.length | _ => none
  | _ => none
noncomputable def oLen : OC := fun ds μ P => match ds with
  | [d] => match lenD μ d with | some n => okLen d ∧ P (.int n) μ | none => False
  | _ => False
theorem cs_len : CallS X (.builtin "len") oLen := by
  refine ⟨_, call_len.or call_lenD, ?_⟩
  intro ds μ P G H vs Q h m r t
  match ds, r, h with
  | [d], .cons (v := v) r1 .nil, h =>
    have h' : (match lenD μ d with | some n => okLen d ∧ P (.int n) μ | none => False) := h
    have tl : ∀ n : Nat, P (.int n) μ → Q (.int n) H := fun n q => t _ _ _ _ _ q (Ex.refl _) m (.int _)
    cases r1 with
    | str s => exact .inl ⟨_, _, rfl, ⟨h'.1, rfl⟩, tl _ h'.2⟩
    | tup h1 r1 => exact .inl ⟨_, _, rfl, .inr ⟨_, h1.sq m.ex, rfl⟩, by rw [← r1.length]; exact tl _ h'.2⟩
    | lst h1 r1 => exact .inl ⟨_, _, rfl, .inl ⟨_, lst_sq m.ex h1, rfl⟩, by rw [← r1.length]; exact tl _ h'.2⟩
    | scr h1 r1 => exact .inl ⟨_, _, rfl, .inl ⟨_, h1.sq m.ex, rfl⟩, by rw [← r1.length]; exact tl _ h'.2⟩
    | dct h1 k r1 => exact .inr ⟨_, _, rfl, m.ex _ _ h1, by rw [len_keys k]; exact tl _ h'.2⟩
    | ref a =>
      unfold lenD at h'
      dsimp only at h'
      cases q : μ a with
      | none => rw [q] at h'; exact h'.elim
      | some c =>
        rw [q] at h'
        cases c with
        | lst xs => obtain ⟨_, ws, h1, r1⟩ := m.st a _ q; exact .inl ⟨_, _, rfl, .inl ⟨ws, SqL.of h1, rfl⟩, by rw [← r1.length]; exact tl _ h'.2⟩
        | dct xs => obtain ⟨_, ws, h1, k, r1⟩ := m.st a _ q; exact .inr ⟨a, ws, rfl, h1, by rw [len_keys k]; exact tl _ h'.2⟩
        | ins C xs => exact h'.elim
    | _ => exact h'.elim
noncomputable def oAbs : OC := fun ds μ P => match ds with | [.int i] => P (.int (if i < 0 then -i else i)) μ | _ => False
theorem cs_abs : CallS X (.builtin "abs") oAbs := by
  refine ⟨_, call_abs, ?_⟩
  intro ds μ P G H vs Q h m r t
  match ds, r, h with
  | [.int i], .cons (.int _) .nil, h => exact ⟨i, rfl, t _ _ _ _ _ h (Ex.refl _) m (.int _)⟩
/-- int(..) of an int, a bool, a text -/
noncomputable def oInt : OC := fun ds μ P => match ds with
  | [.int i] => P (.int i) μ
  | [.bl b] => P (.int (if b then 1 else 0)) μ
  | [.str s] => match PySem.intText? s with | some n => s.length ≤ 640 ∧ P (.int n) μ | none => False
  | _ => False
theorem cs_int : CallS X (.type "int") oInt := by
  refine ⟨_, call_int1.or call_int_str, ?_⟩
  intro ds μ P G H vs Q h m r t
  match ds, r, h with
  | [.int i], .cons (.int _) .nil, h => exact .inl (.inl ⟨i, rfl, t _ _ _ _ _ h (Ex.refl _) m (.int _)⟩)
  | [.bl b], .cons (.bl _) .nil, h => exact .inl (.inr ⟨b, rfl, t _ _ _ _ _ h (Ex.refl _) m (.int _)⟩)
  | [.str s], .cons (.str _) .nil, h =>
    unfold oInt at h
    dsimp only at h
    split at h
    · rename_i n e
      exact .inr ⟨s, n, rfl, e, h.1, t _ _ _ _ _ h.2 (Ex.refl _) m (.int _)⟩
    · exact h.elim
/-- str(..) of an int, a text -/
noncomputable def oStr : OC := fun ds μ P => match ds with
  | [.int i] => i.natAbs.log2 < 1920 ∧ P (.str (Str.ofString (toString i))) μ
  | [.str s] => P (.str s) μ
  | _ => False
theorem cs_str : CallS X (.type "str") oStr := by
  refine ⟨_, call_str_int.or SkE.call_str_str, ?_⟩
  intro ds μ P G H vs Q h m r t
  match ds, r, h with
  | [.int i], .cons (.int _) .nil, h => exact .inl ⟨i, rfl, h.1, t _ _ _ _ _ h.2 (Ex.refl _) m (.str _)⟩
  | [.str s], .cons (.str _) .nil, h => exact .inr ⟨s, rfl, t _ _ _ _ _ h (Ex.refl _) m (.str _)⟩
noncomputable def oRepr : OC := fun ds μ P => match ds with
  | [.int i] => i.natAbs.log2 < 1920 ∧ P (.str (Str.ofString (toString i))) μ
  | [.str x] => (reprText x).length ≤ sizeLine ∧ P (.str (reprText x)) μ
  | [.bl b] => P (.str (if b then ("True" : Str) else "False")) μ
  | [.non] => P (.str "None") μ
  | _ => False
theorem CallR_or {f : Value} {r r' : List V → Hp → VK → Prop} (h : CallR X f r) (h' : CallR X f r') : CallR X f (fun xs H Q => r xs H Q ∨ r' xs H Q) := by
  intro pins s σ H xs us Q I rv q
  rcases q with q | q
  · exact h pins s σ H xs us Q I rv q
  · exact h' pins s σ H xs us Q I rv q
/-- lists of ints, of texts, of truth values -/
noncomputable def intsD : List D → Option (List Int)
  | [] => some []
  | .int i :: r => (intsD r).map (i :: ·)
  | _ :: _ => none
noncomputable def strsD : List D → Option (List Str)
  | [] => some []
  | .str i :: r => (strsD r).map (i :: ·)
  | _ :: _ => none
noncomputable def blsD : List D → Option (List Bool)
  | [] => some []
  | .bl i :: r => (blsD r).map (i :: ·)
  | _ :: _ => none
theorem intsD_map : ∀ ns : List Int, intsD (ns.map .int) = some ns
  | [] => rfl
  | n :: ns => by rw [List.map_cons, intsD, intsD_map ns]; rfl
theorem strsD_map : ∀ ns : List Str, strsD (ns.map .str) = some ns
  | [] => rfl
  | n :: ns => by rw [List.map_cons, strsD, strsD_map ns]; rfl
theorem blsD_map : ∀ ns : List Bool, blsD (ns.map .bl) = some ns
  | [] => rfl
  | n :: ns => by rw [List.map_cons, blsD, blsD_map ns]; rfl
theorem intsD_ok {K : PySem.W.Frag} {G : Hp} : ∀ {ds : List D} {vs : List V} {ns : List Int}, intsD ds = some ns → Rps K G ds vs → vs = ns.map V.int
  | _, _, _, h, .nil => by cases h; rfl
  | d :: ds, _ :: _, ns, h, .cons h1 r => by
    cases h1 with
    | int i =>
      have h' : (intsD ds).map (i :: ·) = some ns := h
      cases q : intsD ds with
      | none => rw [q] at h'; cases h'
      | some ms => rw [q] at h'; cases h'; rw [intsD_ok q r]; rfl
    | _ => cases h
theorem strsD_ok {K : PySem.W.Frag} {G : Hp} : ∀ {ds : List D} {vs : List V} {ns : List Str}, strsD ds = some ns → Rps K G ds vs → vs = ns.map V.str
  | _, _, _, h, .nil => by cases h; rfl
  | d :: ds, _ :: _, ns, h, .cons h1 r => by
    cases h1 with
    | str i =>
      have h' : (strsD ds).map (i :: ·) = some ns := h
      cases q : strsD ds with
      | none => rw [q] at h'; cases h'
      | some ms => rw [q] at h'; cases h'; rw [strsD_ok q r]; rfl
    | _ => cases h
theorem blsD_ok {K : PySem.W.Frag} {G : Hp} : ∀ {ds : List D} {vs : List V} {ns : List Bool}, blsD ds = some ns → Rps K G ds vs → vs = ns.map V.bl
  | _, _, _, h, .nil => by cases h; rfl
  | d :: ds, _ :: _, ns, h, .cons h1 r => by
    cases h1 with
    | bl i =>
      have h' : (blsD ds).map (i :: ·) = some ns := h
      cases q : blsD ds with
      | none => rw [q] at h'; cases h'
      | some ms => rw [q] at h'; cases h'; rw [blsD_ok q r]; rfl
    | _ => cases h
theorem rps_ints {K : PySem.W.Frag} {G : Hp} : ∀ ns : List Int, Rps K G (ns.map .int) (ns.map V.int)
  | [] => .nil
  | n :: ns => .cons (.int n) (rps_ints ns)
theorem rps_strs {K : PySem.W.Frag} {G : Hp} : ∀ ns : List Str, Rps K G (ns.map .str) (ns.map V.str)
  | [] => .nil
  | n :: ns => .cons (.str n) (rps_strs ns)
/-- min, max of two ints; of a list of ints -/
noncomputable def oMin : OC := fun ds μ P => match ds with
  | [.int i, .int j] => P (.int (if j < i then j else i)) μ
  | [d] => match (seqR μ d).bind intsD with | some ns => 0 < ns.length ∧ ∀ m, m ∈ ns → (∀ y, y ∈ ns → m ≤ y) → P (.int m) μ | none => False
  | _ => False
noncomputable def oMax : OC := fun ds μ P => match ds with
  | [.int i, .int j] => P (.int (if j > i then j else i)) μ
  | [d] => match (seqR μ d).bind intsD with | some ns => 0 < ns.length ∧ ∀ m, m ∈ ns → (∀ y, y ∈ ns → y ≤ m) → P (.int m) μ | none => False
  | _ => False
theorem ints_of {K : PySem.W.Frag} {μ : Store} {G H : Hp} {d : D} {v : V} {ns : List Int} (h : (seqR μ d).bind intsD = some ns) (m : Sm K μ G H) (r : Rp K G d v) : ∃ a, v = .ref a ∧ SqL K H a (ns.map V.int) := by
  cases q : seqR μ d with
  | none => rw [q] at h; cases h
  | some xs =>
    rw [q] at h
    obtain ⟨a, ws, rfl, h1, r1⟩ := seqR_ok q m r
    exact ⟨a, rfl, by rw [← intsD_ok h r1]; exact h1⟩
theorem cs_min (hc : X.calm = true) : CallS X (.builtin "min") oMin := by
  refine ⟨_, (call_min2 hc).or (cr_min hc), ?_⟩
  intro ds μ P G H vs Q h m r t
  unfold oMin at h
  split at h
  · match vs, r with
    | _, .cons (.int _) (.cons (.int _) .nil) => exact .inl ⟨_, _, rfl, t _ _ _ _ _ h (Ex.refl _) m (.int _)⟩
  · match vs, r with
    | _, .cons r1 .nil =>
      split at h
      · rename_i ns e
        obtain ⟨a, rfl, hs⟩ := ints_of e m r1
        exact .inr ⟨a, ns, rfl, hs, h.1, fun k h1 h2 => t _ _ _ _ _ (h.2 k h1 h2) (Ex.refl _) m (.int _)⟩
      · exact h.elim
  · exact h.elim
theorem cs_max (hc : X.calm = true) : CallS X (.builtin "max") oMax := by
  refine ⟨_, (call_max2 hc).or (cr_max hc), ?_⟩
  intro ds μ P G H vs Q h m r t
  unfold oMax at h
  split at h
  · match vs, r with
    | _, .cons (.int _) (.cons (.int _) .nil) => exact .inl ⟨_, _, rfl, t _ _ _ _ _ h (Ex.refl _) m (.int _)⟩
  · match vs, r with
    | _, .cons r1 .nil =>
      split at h
      · rename_i ns e
        obtain ⟨a, rfl, hs⟩ := ints_of e m r1
        exact .inr ⟨a, ns, rfl, hs, h.1, fun k h1 h2 => t _ _ _ _ _ (h.2 k h1 h2) (Ex.refl _) m (.int _)⟩
      · exact h.elim
  · exact h.elim
noncomputable def oSum : OC := fun ds μ P => match ds with
  | [d] => match (seqR μ d).bind intsD with | some ns => P (.int ns.sum) μ | none => False
  | _ => False
theorem cs_sum (hc : X.calm = true) : CallS X (.builtin "sum") oSum := by
  refine ⟨_, cr_sum hc, ?_⟩
  intro ds μ P G H vs Q h m r t
  unfold oSum at h
  split at h
  · match vs, r with
    | _, .cons r1 .nil =>
      split at h
      · rename_i ns e
        obtain ⟨a, rfl, hs⟩ := ints_of e m r1
        exact ⟨a, ns, rfl, hs, t _ _ _ _ _ h (Ex.refl _) m (.int _)⟩
      · exact h.elim
  · exact h.elim
theorem bls_of {K : PySem.W.Frag} {μ : Store} {G H : Hp} {d : D} {v : V} {ns : List Bool} (h : (seqR μ d).bind blsD = some ns) (m : Sm K μ G H) (r : Rp K G d v) : ∃ a, v = .ref a ∧ SqL K H a (ns.map V.bl) := by
  cases q : seqR μ d with
  | none => rw [q] at h; cases h
  | some xs =>
    rw [q] at h
    obtain ⟨a, ws, rfl, h1, r1⟩ := seqR_ok q m r
    exact ⟨a, rfl, by rw [← blsD_ok h r1]; exact h1⟩
noncomputable def oAll : OC := fun ds μ P => match ds with
  | [d] => match (seqR μ d).bind blsD with | some ns => P (.bl (ns.all id)) μ | none => False
  | _ => False
noncomputable def oAny : OC := fun ds μ P => match ds with
  | [d] => match (seqR μ d).bind blsD with | some ns => P (.bl (ns.any id)) μ | none => False
  | _ => False
theorem cs_all (hc : X.calm = true) : CallS X (.builtin "all") oAll := by
  refine ⟨_, cr_all hc, ?_⟩
  intro ds μ P G H vs Q h m r t
  unfold oAll at h
  split at h
  · match vs, r with
    | _, .cons r1 .nil =>
      split at h
      · rename_i ns e
        obtain ⟨a, rfl, hs⟩ := bls_of e m r1
        exact ⟨a, ns, rfl, hs, t _ _ _ _ _ h (Ex.refl _) m (.bl _)⟩
      · exact h.elim
  · exact h.elim
theorem cs_any (hc : X.calm = true) : CallS X (.builtin "any") oAny := by
  refine ⟨_, cr_any hc, ?_⟩
  intro ds μ P G H vs Q h m r t
  unfold oAny at h
  split at h
  · match vs, r with
    | _, .cons r1 .nil =>
      split at h
      · rename_i ns e
        obtain ⟨a, rfl, hs⟩ := bls_of e m r1
        exact ⟨a, ns, rfl, hs, t _ _ _ _ _ h (Ex.refl _) m (.bl _)⟩
      · exact h.elim
  · exact h.elim
/-- sorted of ints, of fewer than 64 texts -/
noncomputable def oSorted : OC := fun ds μ P => match ds with
  | [d] => match seqR μ d with
    | some xs => match intsD xs with
      | some ns => ∀ ns' : List Int, ns'.Perm ns → ns'.Pairwise (· ≤ ·) → P (.lst (ns'.map .int)) μ
      | none => match strsD xs with
        | some ss => ss.length < 64 ∧ ∀ ss' : List Str, ss'.Perm ss → PyProof.Rows.sortedS ss' = true → P (.lst (ss'.map .str)) μ
        | none => False
    | none => False
  | _ => False
theorem cs_sorted : CallS X (.builtin "sorted") oSorted := by
  refine ⟨_, cr_sortedI.or cr_sortedS, ?_⟩
  intro ds μ P G H vs Q h m r t
  unfold oSorted at h
  split at h
  · match vs, r with
    | _, .cons r1 .nil =>
      split at h
      · rename_i xs e
        obtain ⟨a, ws, rfl, h1, r2⟩ := seqR_ok e m r1
        split at h
        · rename_i ns e2
          refine .inl ⟨a, ns, rfl, by rw [← intsD_ok e2 r2]; exact h1, fun ns' p hp hs hn => new_lst m (rps_ints ns') (h ns' hp hs) t p hn⟩
        · split at h
          · rename_i ss e3
            exact .inr ⟨a, ss, rfl, by rw [← strsD_ok e3 r2]; exact h1, h.1, fun ss' p hp hs hn => new_lst m (rps_strs ss') (h.2 ss' hp hs) t p hn⟩
          · exact h.elim
      · exact h.elim
  · exact h.elim
/-- tuple(..), list(..) -/
noncomputable def oTuple : OC := fun ds μ P => match ds with
  | [d] => match seqA μ d with | some xs => P (.tup xs) μ | none => False
  | _ => False
theorem cs_tuple : CallS X (.type "tuple") oTuple := by
  refine ⟨_, call_tuple_of, ?_⟩
  intro ds μ P G H vs Q h m r t
  unfold oTuple at h
  split at h
  · match vs, r with
    | _, .cons r1 .nil =>
      split at h
      · rename_i xs e
        rename_i d _ _
        by_cases q : ∃ es, d = D.tup es
        · obtain ⟨es, rfl⟩ := q
          cases e
          cases r1 with
          | tup h1 r2 => exact ⟨_, _, rfl, .inr ⟨h1.sq m.ex, t _ _ _ _ _ h (Ex.refl _) m (.tup h1 r2)⟩⟩
        · have e' : seqR μ d = some xs := by
            cases d with
            | tup es => exact (q ⟨es, rfl⟩).elim
            | _ => exact e
          obtain ⟨a, ws, rfl, h1, r2⟩ := seqR_ok e' m r1
          exact ⟨a, ws, rfl, .inl ⟨h1, new_tup m r2 h t⟩⟩
      · exact h.elim
  · exact h.elim
noncomputable def oList : OC := fun ds μ P => match ds with
  | [d] => match seqA μ d with | some xs => P (.lst xs) μ | none => False
  | _ => False
noncomputable def oListM : OC := fun ds μ P => match ds with
  | [d] => match seqA μ d with | some xs => ∀ p, μ p = none → P (.ref p) (setS μ p (.lst xs)) | none => False
  | _ => False
theorem cs_listM : CallS X (.type "list") oListM := by
  refine ⟨_, call_list_of, ?_⟩
  intro ds μ P G H vs Q h m r t
  unfold oListM at h
  split at h
  · match vs, r with
    | _, .cons r1 .nil =>
      split at h
      · rename_i xs e
        obtain ⟨a, ws, rfl, h1, r2⟩ := seqA_ok e m r1
        exact ⟨a, ws, rfl, h1, new_lstM m r2 h t⟩
      · exact h.elim
  · exact h.elim
noncomputable def oIx : OD := fun x y μ P => match x with
  | .str s => match y with
    | .int i => match atI s.cps.toList i with | some c => s.length ≤ sizeLine ∧ P (.str ⟨#[c]⟩) μ | none => False
    | _ => False
  | x => match seqA μ x with
    | some xs => match y with
      | .int i => match atI xs i with | some d => P d μ | none => False
      | _ => False
    | none => match x with
      | .dct kvs => match (keyD y).bind (look kvs) with | some d => P d μ | none => False
      | .dcl kvs => match (keyD y).bind (look kvs) with | some d => P d μ | none => False
      | .ref a => match μ a with
        | some (.dct kvs) => match (keyD y).bind (look kvs) with | some d => P d μ | none => False
        | _ => False
      | _ => False
theorem Rps.atI {K : PySem.W.Frag} {G : Hp} {ds : List D} {vs : List V} {i : Int} {d : D} (r : Rps K G ds vs) (h : L2.atI ds i = some d) : ∃ v, L2.atI vs i = some v ∧ Rp K G d v := by
  unfold L2.atI at h ⊢
  rw [← r.length]
  cases q : ixN ds.length i with
  | none => rw [q] at h; cases h
  | some j => rw [q] at h; exact r.getL h
noncomputable def rIxD : R2 := fun x y H Q => ∃ a v, x = .ref a ∧ DGet H a y (some v) ∧ Q v H
theorem ix_dict (hu : X.A.units + 1 < cLine) : IxR X rIxD := by
  intro value slice pins s σ H x y v u Q I rx ry h hs
  obtain ⟨a, z, rfl, g, q⟩ := h
  cases rx
  have hT := dict_typeIs I g
  unfold PyProof.Rows.subscriptTail
  refine wpAny_bind ?_
  rw [getitemInPython_of_ne hT.not_modules]
  refine wpAny_bind (wpAny_specialOf hT PySem.F.slot_dict_getitem.lookup ?_)
  have fin : wpAny (model X.prog X.w) X.A (subscripted slice false (.ref a) u) (fun r s₃ => wpAny (model X.prog X.w) X.A (letTemporaryGo value (.ref a) r >>= fun _ => pure r) (EP X pins σ Q) X.xe s₃) X.xe s := by
    rw [hs]
    exact wpAny_operating (wpAny_mono (d_getItem hu I g ry fun w' s3 I3 rw' => (show EP X pins σ Q w' s3 from ⟨z, H, I3, rw', q⟩)) (fun r s₃ h₃ => wpAny_bind (wpAny_letTemporaryGo (wpAny_pure h₃))) fun _ _ x => x)
  first
    | exact wpAny_pure (wpAny_bind fin)
    | exact wpAny_bind (wpAny_pure (wpAny_bind fin))
    | exact wpAny_bind fin
noncomputable def wIx (wa wb : WE) : WE := wOp oIx wa wb
theorem de_ix {a b : Expr} {wa wb : WE} (hu : X.A.units + 1 < cLine) (ha : DE X a wa) (hb : DE X b wb) (hs : PlainIx b) : DE X (.Subscript a b pos) (wIx wa wb) := by
  refine ⟨wkE (pe_ix (ix_seq.or (ix_dict hu)) ha.p hb.p hs) (lop fun {x y μ P G H v u Q} h m rx ry t => ?_)⟩
  have key : ∀ {kvs : List (Key × D)} {kv : List (Key × V)} {a : Addr}, Rd H a (.dK kv) → kv.map (·.1) = kvs.map (·.1) → Rps X.K G (kvs.map (·.2)) (kv.map (·.2)) → (match (keyD y).bind (look kvs) with | some d => P d μ | none => False) → rIxD (.ref a) u H Q := fun {kvs kv a} h1 k r h => by
    cases q : keyD y with
    | none => rw [q] at h; exact h.elim
    | some ky =>
      rw [q] at h
      have h' : (match look kvs ky with | some d => P d μ | none => False) := h
      cases q2 : look kvs ky with
      | none => rw [q2] at h'; exact h'.elim
      | some d =>
        rw [q2] at h'
        obtain ⟨v, e, rv⟩ := (look_keys (k := ky) k r).1 d q2
        have ek := keyD_ok q ry
        subst ek
        refine ⟨a, v, rfl, ?_, t _ _ _ _ _ h' (Ex.refl _) m rv⟩
        rw [← e, ← valV_look]
        exact .inl ⟨_, _, h1, rfl, rfl⟩
  unfold oIx at h
  split at h
  · rename_i s
    cases rx
    split at h
    · rename_i i
      cases ry
      split at h
      · rename_i c e
        exact .inl (.inr (.inr ⟨s, i, c, rfl, rfl, h.1, e, t _ _ _ _ _ h.2 (Ex.refl _) m (.str _)⟩))
      · exact h.elim
    · exact h.elim
  · split at h
    · rename_i xs e
      obtain ⟨a, ws, rfl, h1, r1⟩ := seqA_ok e m rx
      split at h
      · rename_i i
        cases ry
        split at h
        · rename_i d e2
          obtain ⟨z, e3, r3⟩ := r1.atI e2
          rcases h1 with h1 | h1
          · exact .inl (.inl ⟨a, ws, i, z, rfl, rfl, h1, e3, t _ _ _ _ _ h (Ex.refl _) m r3⟩)
          · exact .inl (.inr (.inl ⟨a, ws, i, z, rfl, rfl, h1, e3, t _ _ _ _ _ h (Ex.refl _) m r3⟩))
        · exact h.elim
      · exact h.elim
    · split at h
      · cases rx with
        | dct h1 k r1 => exact .inr (key (.inl (m.ex _ _ h1)) k r1 h)
      · cases rx with
        | dcl h1 k r1 => exact .inr (key (.inr ⟨_, m.ex _ _ h1⟩) k r1 h)
      · cases rx
        split at h
        · rename_i kvs e
          obtain ⟨_, kv, h1, k, r1⟩ := m.st _ _ e
          exact .inr (key (.inl h1) k r1 h)
        · exact h.elim
      · exact h.elim
end
end Dl
namespace Dl
open PySem L2
noncomputable abbrev DSp := List D → Store → (D → Store → Prop) → Prop
noncomputable def LSp (K : PySem.W.Frag) (d : DSp) : Sp := fun vs H Q _ => ∃ ds μ G P, Rps K G ds vs ∧ Sm K μ G H ∧ d ds μ P ∧ Tells K G P Q
noncomputable def startD (N : List Str) (ds : List D) : Env := ds.map some ++ List.replicate (N.length - ds.length) none
theorem env_start {K : PySem.W.Frag} {G : Hp} {N : List Str} {ds : List D} {vs : List V} (r : Rps K G ds vs) : EnvR K G (startD N ds) (L2.start N vs) := by
  have hl := r.length
  refine ⟨by simp [startD, L2.start, hl], fun i d q => ?_⟩
  unfold startD at q
  unfold L2.start
  by_cases hi : i < ds.length
  · rw [List.getElem?_append_left (by simpa using hi)] at q
    rw [List.getElem?_append_left (by simpa [← hl] using hi)]
    rw [List.getElem?_map] at q ⊢
    cases e : ds[i]? with
    | none => rw [e] at q; cases q
    | some d' =>
      rw [e] at q
      cases q
      obtain ⟨v, h1, h2⟩ := r.getL e
      exact ⟨v, by rw [h1]; rfl, h2⟩
  · rw [List.getElem?_append_right (by simpa using hi)] at q
    have := List.mem_of_getElem? q
    rw [List.mem_replicate] at this
    cases this.2
section
variable {P : Program} {w : World} {K : PySem.W.Frag} {mg : Str → Option Value} {base : Heap}
/-- the def keeps its promise: its body's derivation, and the reading over data -/
theorem fn_d {x qual : Str} {st : Stmt} {f : Addr} {fd : FuncData} {N ps : List Str} {k : Nat} {d : DSp} {ws : WS} (F : Fun K x qual st f fd) (S : FnScope N ps (defScope st)) (len : ∀ ds μ Q, d ds μ Q → ds.length = ps.length)
    (hb : ∀ (cdv : Value) (A : Around) (outer : List PySem.Env) (s : Shared) (H : Hp) (E : XK), Room k (A.deeper (PyProof.Rows.envOfC qual (defScope st) s.heap.objs.size f cdv)) → DSs (cxOf CX0 P w K mg base N qual (defScope st) f cdv A outer s H E).nox (defBody st) ws)
    (ok : ∀ ds μ Q, d ds μ Q → ws { nx := fun _ μ' => ∃ μ2, Sub μ2 μ' ∧ Q .non μ2, rt := Q } (startD N ds) μ) : FnOk P w K mg base CX0 (k + 1) f fd ps (LSp K d) := by
  refine F.ok S (fun vs H Q E ⟨ds, μ, G, R, r, m, h, t⟩ => by rw [← r.length]; exact len _ _ _ h) (fun cdv A outer s H vs Q E hr ⟨ds, μ, G, R, r, m, h, t⟩ => ?_)
  refine ⟨_, (hb cdv A outer s H E hr).p, startD N ds, μ, G, _, env_start r, m, ok ds μ R h, ⟨fun ρ' μ' σ' H' G' ⟨μ2, sb, p⟩ e _ m' => t _ _ _ _ _ p e (m'.sub sb) .non, fun d μ' v H' G' p e m' r' => t _ _ _ _ _ p e m' r', fun _ _ _ _ _ p => p.elim, fun _ _ _ _ _ p => p.elim⟩⟩
end
section
variable {X : Cx} {k : Nat} {f C : Addr} {fd : FuncData} {ps : List Str} {d : DSp} {dds : List D} {dvs : List V} {ds : List Value} {x m : Str} {p pos apos : Pos} {e o : Expr} {es : List Expr} {wo : WE} {wa : WA}
noncomputable def wCall (d : DSp) (dds : List D) (wa : WA) : WE := fun ρ μ P => wa ρ μ fun ds μ1 => d (ds ++ dds) μ1 P
theorem de_call (F : FnOk X.prog X.w X.K X.mg X.base CX0 k f fd ps (LSp X.K d)) (hr : Room k X.A) (hg : Gl X x) (hm : X.mg x = some (.ref f)) (hk : PySem.W.keepIn X.K (.ref f) = true) (hb : Binds X.K fd ps ds) (hd : Vals dvs ds) (hdd : ∀ G, Rps X.K G dds dvs)
    (ha : DA X (e :: es) wa) (hdb : (x == ("__debug__" : Str)) = false := by decide) (he : starEach (e :: es) X.env = (false, eval e X.env) :: starEach es X.env := by rfl) (hpl : (backTo pos (starEach es X.env)).any (·.1) = false := by rfl) :
    DE X (.Call (.Name x p) (e :: es) [] pos) (wCall d dds wa) :=
  ⟨wkE (pe_call (E := E0) F hr hg hm hk hb hd pass0 ha.p hdb he hpl) fun σ H Q ⟨ρ, μ, G, P, hr, hm, hw, ht⟩ => ⟨ρ, μ, G, _, hr, hm, hw, fun ds μ1 vs H1 G1 p1 e1 m1 r1 => ⟨ds ++ dds, μ1, G1, P, r1.append (hdd G1), m1, p1, ht.mono e1⟩⟩⟩
/-- o.m(..) -/
noncomputable def wMeth (C : Addr) (m : Str) (d : DSp) (dds : List D) (wo : WE) (wa : WA) : WE := fun ρ μ P => wo ρ μ fun x μ1 => match insD μ1 x with
  | some (C', fs) => C' = C ∧ look fs m = none ∧ wa ρ μ1 fun ds μ2 => d (x :: (ds ++ dds)) μ2 P
  | none => False
theorem lmeth {t : TA} (ht : ∀ σ H Q, LA X.K wa σ H Q → t σ H Q) : ∀ σ H Q, LE X.K (wMeth C m d dds wo wa) σ H Q → (∀ G, Rps X.K G dds dvs) → tMeth C m (LSp X.K d) dvs E0 (LE X.K wo) t σ H Q := fun σ H Q ⟨ρ, μ, G, P, hr, hm, hw, htl⟩ hdd =>
  ⟨ρ, μ, G, _, hr, hm, hw, fun x μ1 v1 H1 G1 p1 e1 m1 r1 => by
    split at p1
    · rename_i C' fs q
      obtain ⟨rfl, hl, p⟩ := p1
      obtain ⟨a, dx, vs, rfl, h1, k1, r2⟩ := insD_ok q m1 r1
      refine ⟨a, dx, vs, rfl, h1, by rw [lookup_look]; exact (look_keys (k := m) k1 r2).2 hl, ht σ H1 _ ⟨ρ, μ1, G1, _, hr.mono e1, m1, p, fun ds μ2 vs2 H2 G2 p2 e2 m2 r3 => ⟨x :: (ds ++ dds), μ2, G2, P, .cons (r1.mono e2) (r3.append (hdd G2)), m2, p2, htl.mono (e1.trans e2)⟩⟩⟩
    · exact p1.elim⟩
theorem de_meth {pl : Sem Bool} (ho : DE X o wo) (c : Cls X.K C) (hm : Meth X.K C m f) (F : FnOk X.prog X.w X.K X.mg X.base CX0 k f fd ps (LSp X.K d)) (hr : Room k X.A) (hb : Binds X.K fd ps ds) (hd : Vals dvs ds) (hdd : ∀ G, Rps X.K G dds dvs) (ha : DA X (e :: es) wa)
    (hst : starEach (e :: es) X.env = (false, eval e X.env) :: starEach es X.env := by rfl) (hpl : (backTo pos (starEach es X.env)).any (·.1) = false := by rfl)
    (ht : eval (.Call (.Attribute o m apos) (e :: es) [] pos) X.env = (do
      let ov ← eval o X.env
      standAt apos.atName
      let (f, first) ← holding [ov] (getMethod ov m pl)
      callWith pos f first (backTo pos (starEach (e :: es) X.env)) (backToKw pos (keywordEach [] X.env))) := by rfl) : DE X (.Call (.Attribute o m apos) (e :: es) [] pos) (wMeth C m d dds wo wa) :=
  ⟨wkE (pe_meth (pl := pl) ho.p c hm F hr hb hd pass0 ha.p hst hpl ht) fun σ H Q h => lmeth (fun σ H Q h => h) σ H Q h hdd⟩
theorem de_meth0 {pl : Sem Bool} (ho : DE X o wo) (c : Cls X.K C) (hm : Meth X.K C m f) (F : FnOk X.prog X.w X.K X.mg X.base CX0 k f fd ps (LSp X.K d)) (hr : Room k X.A) (hb : Binds X.K fd ps ds) (hd : Vals dvs ds) (hdd : ∀ G, Rps X.K G dds dvs)
    (ht : eval (.Call (.Attribute o m apos) [] [] pos) X.env = (do
      let ov ← eval o X.env
      standAt apos.atName
      let (f, first) ← holding [ov] (getMethod ov m pl)
      callWith pos f first (backTo pos (starEach [] X.env)) (backToKw pos (keywordEach [] X.env))) := by rfl) : DE X (.Call (.Attribute o m apos) [] [] pos) (wMeth C m d dds wo wANil) :=
  ⟨wkE (pe_meth0 (pl := pl) ho.p c hm F hr hb hd pass0 ht) fun σ H Q h => lmeth (fun σ H Q ⟨ρ, μ, G, P, hr, hm, hw, ht⟩ => ht _ _ _ _ _ hw (Ex.refl _) hm .nil) σ H Q h hdd⟩
/-- C(..): frozen behind __init__, or not -/
noncomputable def wMake (C : Addr) (d : DSp) (dds : List D) (wa : WA) : WE := fun ρ μ P => wa ρ μ fun ds μ1 => ∀ x, μ1 x = none → d (.ref x :: (ds ++ dds)) (setS μ1 x (.ins C [])) fun r μ2 => r = .non ∧ ∃ fs, μ2 x = some (.ins C fs) ∧ P (.obj C fs) (delS μ2 x)
noncomputable def wMakeM (C : Addr) (d : DSp) (dds : List D) (wa : WA) : WE := fun ρ μ P => wa ρ μ fun ds μ1 => ∀ x, μ1 x = none → d (.ref x :: (ds ++ dds)) (setS μ1 x (.ins C [])) fun r μ2 => r = .non ∧ P (.ref x) μ2
theorem made_sm {K : PySem.W.Frag} {μ : Store} {G H : Hp} {x dx : Addr} (m : Sm K μ G H) (hx : H x = none) (hd : H dx = none) (hn : dx ≠ x) : Sm K (setS μ x (.ins C [])) G (upd (upd H dx (.own x)) x (.ins C dx [])) :=
  (m.hidden hd _).write (m.ex.nn hx) ⟨dx, [], upd_same, rfl, .nil⟩
theorem lmake {t : TA} (ht : ∀ σ H Q, LA X.K wa σ H Q → t σ H Q) : ∀ σ H Q, LE X.K (wMake C d dds wa) σ H Q → (∀ G, Rps X.K G dds dvs) → tMake C (LSp X.K d) dvs E0 t σ H Q := fun σ H Q ⟨ρ, μ, G, P, hr, hm, hw, htl⟩ hdd =>
  ht σ H _ ⟨ρ, μ, G, _, hr, hm, hw, fun ds μ1 vs H1 G1 p1 e1 m1 r1 => fun x dx hx hdx hn => ⟨_, _, G1, _, .cons (.ref x) (r1.append (hdd G1)), made_sm m1 hx hdx hn, p1 x (m1.nn hx), fun r μ2 v H2 G2 ⟨er, fs, q, p⟩ e2 m2 rv => by
    subst er
    cases rv
    obtain ⟨G3, m3, e3, r3⟩ := m2.freezeI q
    exact ⟨rfl, htl _ _ _ _ _ p ((e1.trans e2).trans e3) m3 r3⟩⟩⟩
theorem lmakeM {t : TA} (ht : ∀ σ H Q, LA X.K wa σ H Q → t σ H Q) : ∀ σ H Q, LE X.K (wMakeM C d dds wa) σ H Q → (∀ G, Rps X.K G dds dvs) → tMake C (LSp X.K d) dvs E0 t σ H Q := fun σ H Q ⟨ρ, μ, G, P, hr, hm, hw, htl⟩ hdd =>
  ht σ H _ ⟨ρ, μ, G, _, hr, hm, hw, fun ds μ1 vs H1 G1 p1 e1 m1 r1 => fun x dx hx hdx hn => ⟨_, _, G1, _, .cons (.ref x) (r1.append (hdd G1)), made_sm m1 hx hdx hn, p1 x (m1.nn hx), fun r μ2 v H2 G2 ⟨er, p⟩ e2 m2 rv => by
    subst er
    cases rv
    exact ⟨rfl, htl _ _ _ _ _ p (e1.trans e2) m2 (.ref x)⟩⟩⟩
theorem de_make (M : Mk X.K C f) (F : FnOk X.prog X.w X.K X.mg X.base CX0 k f fd ps (LSp X.K d)) (hr : Room (k + 1) X.A) (hg : Gl X x) (hm : X.mg x = some (.ref C)) (hb : Binds X.K fd ps ds) (hd : Vals dvs ds) (hdd : ∀ G, Rps X.K G dds dvs) (ha : DA X (e :: es) wa)
    (hdb : (x == ("__debug__" : Str)) = false := by decide) (he : starEach (e :: es) X.env = (false, eval e X.env) :: starEach es X.env := by rfl) (hpl : (backTo pos (starEach es X.env)).any (·.1) = false := by rfl) : DE X (.Call (.Name x p) (e :: es) [] pos) (wMake C d dds wa) :=
  ⟨wkE (pe_make M F hr hg hm hb hd pass0 ha.p hdb he hpl) fun σ H Q h => lmake (fun σ H Q h => h) σ H Q h hdd⟩
theorem de_makeM (M : Mk X.K C f) (F : FnOk X.prog X.w X.K X.mg X.base CX0 k f fd ps (LSp X.K d)) (hr : Room (k + 1) X.A) (hg : Gl X x) (hm : X.mg x = some (.ref C)) (hb : Binds X.K fd ps ds) (hd : Vals dvs ds) (hdd : ∀ G, Rps X.K G dds dvs) (ha : DA X (e :: es) wa)
    (hdb : (x == ("__debug__" : Str)) = false := by decide) (he : starEach (e :: es) X.env = (false, eval e X.env) :: starEach es X.env := by rfl) (hpl : (backTo pos (starEach es X.env)).any (·.1) = false := by rfl) : DE X (.Call (.Name x p) (e :: es) [] pos) (wMakeM C d dds wa) :=
  ⟨wkE (pe_make M F hr hg hm hb hd pass0 ha.p hdb he hpl) fun σ H Q h => lmakeM (fun σ H Q h => h) σ H Q h hdd⟩
theorem de_make0 (M : Mk X.K C f) (F : FnOk X.prog X.w X.K X.mg X.base CX0 k f fd ps (LSp X.K d)) (hr : Room (k + 1) X.A) (hg : Gl X x) (hm : X.mg x = some (.ref C)) (hb : Binds X.K fd ps ds) (hd : Vals dvs ds) (hdd : ∀ G, Rps X.K G dds dvs)
    (hdb : (x == ("__debug__" : Str)) = false := by decide) : DE X (.Call (.Name x p) [] [] pos) (wMake C d dds wANil) :=
  ⟨wkE (pe_make0 M F hr hg hm hb hd pass0 hdb) fun σ H Q h => lmake (fun σ H Q ⟨ρ, μ, G, P, hr, hm, hw, ht⟩ => ht _ _ _ _ _ hw (Ex.refl _) hm .nil) σ H Q h hdd⟩
theorem de_make0M (M : Mk X.K C f) (F : FnOk X.prog X.w X.K X.mg X.base CX0 k f fd ps (LSp X.K d)) (hr : Room (k + 1) X.A) (hg : Gl X x) (hm : X.mg x = some (.ref C)) (hb : Binds X.K fd ps ds) (hd : Vals dvs ds) (hdd : ∀ G, Rps X.K G dds dvs)
    (hdb : (x == ("__debug__" : Str)) = false := by decide) : DE X (.Call (.Name x p) [] [] pos) (wMakeM C d dds wANil) :=
  ⟨wkE (pe_make0 M F hr hg hm hb hd pass0 hdb) fun σ H Q h => lmakeM (fun σ H Q ⟨ρ, μ, G, P, hr, hm, hw, ht⟩ => ht _ _ _ _ _ hw (Ex.refl _) hm .nil) σ H Q h hdd⟩
end
end Dl
namespace Dl
open PySem L2
structure DCal (P : Program) (w : World) (K : PySem.W.Frag) (mg : Str → Option Value) (base : Heap) (k : Nat) (x : Str) (d : DSp) (dds : List D) : Prop where
  ex : ∃ (f : Addr) (fd : FuncData) (ps : List Str) (ds : List Value) (dvs : List V), FnOk P w K mg base CX0 k f fd ps (LSp K d) ∧ mg x = some (.ref f) ∧ PySem.W.keepIn K (.ref f) = true ∧ Binds K fd ps ds ∧ Vals dvs ds ∧ ∀ G, Rps K G dds dvs
/-- where a def of the top stands -/
structure DefAt (K : PySem.W.Frag) (mg : Str → Option Value) (x : Str) (st : Stmt) : Prop where
  ex : ∃ (f : Addr) (fd : FuncData), Fun K x x st f fd ∧ mg x = some (.ref f)
section
variable {P : Program} {w : World} {K : PySem.W.Frag} {mg : Str → Option Value} {base : Heap}
theorem DefAt.cal {x : Str} {st : Stmt} {N ps : List Str} {k : Nat} {d : DSp} {ws : WS} (D : DefAt K mg x st) (S : FnScope N ps (defScope st)) (len : ∀ ds μ Q, d ds μ Q → ds.length = ps.length)
    (hb : ∀ {f : Addr} (cdv : Value) (A : Around) (outer : List PySem.Env) (s : Shared) (H : Hp) (E : XK), Room k (A.deeper (PyProof.Rows.envOfC x (defScope st) s.heap.objs.size f cdv)) → DSs (cxOf CX0 P w K mg base N x (defScope st) f cdv A outer s H E).nox (defBody st) ws)
    (ok : ∀ ds μ Q, d ds μ Q → ws { nx := fun _ μ' => ∃ μ2, Sub μ2 μ' ∧ Q .non μ2, rt := Q } (startD N ds) μ)
    (h : ∀ (kV doc pm : Value) (an : Option Addr) (cdv ct : Value) (us : List Value), us.length = ps.length → bindArgs (PySem.W.fnOf x x (defArgs st) (defBody st) (defScope st) .none kV doc pm an cdv ct) ⟨us, []⟩ = pure (ps.zip us)) : DCal P w K mg base (k + 1) x d [] := by
  obtain ⟨f, fd, F, m⟩ := D.ex
  exact ⟨f, fd, ps, [], [], fn_d F S len (hb (f := f)) ok, m, F.kp, F.binds h, .nil, fun _ => .nil⟩
end
section
variable {X : Cx} {j k : Nat} {x : Str} {d : DSp} {dds : List D} {p pos : Pos} {e : Expr} {es : List Expr} {wa : WA}
theorem de_cal (C : DCal X.prog X.w X.K X.mg X.base k x d dds) (hr : Room j X.A) (hk : k ≤ j) (hg : Gl X x) (ha : DA X (e :: es) wa) (hdb : (x == ("__debug__" : Str)) = false := by decide)
    (he : starEach (e :: es) X.env = (false, eval e X.env) :: starEach es X.env := by rfl) (hpl : (backTo pos (starEach es X.env)).any (·.1) = false := by rfl) : DE X (.Call (.Name x p) (e :: es) [] pos) (wCall d dds wa) := by
  obtain ⟨f, fd, ps, ds, dvs, F, m, kp, b, vd, rd⟩ := C.ex
  exact de_call F (hr.mono hk) hg m kp b vd rd ha hdb he hpl
end
end Dl
namespace Dl
open PySem L2
open PyProof.Rows
noncomputable def IteS (s : Str) : It := ⟨fun i _ => i < s.cps.size, fun i H v H' => ∃ T c, v = .ref T ∧ H T = none ∧ H' = upd H T (.tup [.int (i : Nat), .str ⟨#[c]⟩]) ∧ s.cps[i]? = some c, fun i _ => s.cps.size ≤ i⟩
noncomputable def IteT (K : PySem.W.Frag) (a : Addr) : It :=
  ⟨fun i H => ∃ (xs : List V) (x : V), SqT K H a xs ∧ xs[i]? = some x, fun i H v H' => ∃ T x, v = .ref T ∧ H T = none ∧ H' = upd H T (.tup [.int (i : Nat), x]) ∧ ∀ xs, SqT K H a xs → xs[i]? = some x, fun i H => ∃ xs : List V, SqT K H a xs ∧ xs.length ≤ i⟩
theorem two_fits : (2 : Nat) ≤ sizeLine := by decide
theorem turn_enumS {P : Program} {w : World} {K : PySem.W.Frag} {elts : List Expr} {kk : Nat} {tpos : Pos} (e it : Addr) (x : Str) (t : Tok) :
    Turn P w K (.Tuple elts kk tpos) (IteS x) [e, it] e (fun i h => (∃ old, IsEnum h e it ((i : Nat) : Int) old) ∧ h.IsStrIter it (strIterType x) x t i ∧ e ≠ it) where
  mem := by simp
  obj := fun i h st b hb => by
    obtain ⟨⟨old, he⟩, ⟨o, ho, hc, hd⟩, _⟩ := st
    rcases (show b = e ∨ b = it by simpa using hb) with z | z
    · rw [z]; exact ⟨_, he, fun v q => nomatch q⟩
    · rw [z]; exact ⟨o, ho, fun v q => by rw [hd] at q; cases q⟩
  keep := fun i h h' st k => let ⟨⟨old, he⟩, ⟨o, ho, r⟩, hne⟩ := st; ⟨⟨old, k e (by simp) _ he⟩, ⟨o, k it (by simp) o ho, r⟩, hne⟩
  item := by
    intro X hP hw hK hc i pins s σ H E I hf st hg
    subst hP hw hK
    obtain ⟨⟨old, he⟩, hit, hne⟩ := st
    have hg' : i < x.cps.size := hg
    have hel : e < s.heap.objs.size := Heap.lt_size he
    have hil : it < s.heap.objs.size := by obtain ⟨_, q, _⟩ := hit; exact Heap.lt_size q
    have DD : Draws X.prog X.w X.A.in1 it [it] x.cps.size (fun i v => ∃ c u, x.cps[i]? = some c ∧ v = .str ⟨#[c]⟩ u) (fun i h => h.IsStrIter it (strIterType x) x t i) := Draws.text (A := X.A.in1) (show X.A.in1.handled = none from I.ok.hd hc) it x t
    refine wpAny_pyNext_enum_itemD DD he hit hg' hne (by simpa using hne) fun u h' tk hx ho hit' hT hsz hk => ?_
    obtain ⟨c, tc, hcx, rfl⟩ := hx
    refine ⟨_, rfl, wpAny_letOwnedTupleGo_enum (s := { s with heap := h', toks := tk + 1 }) ho fun h'' he' sb => ?_⟩
    have hT2 : h''.get? s.heap.objs.size = some { cls := .type "tuple", data := .seq #[.int i tk, .str ⟨#[c]⟩ tc] } := (sb.2 _ (Nat.ne_of_gt hel)).trans hT
    have new : ObjOk X.prog X.w (upd H s.heap.objs.size (.tup [.int (i : Nat), .str ⟨#[c]⟩])) h'' s.heap.objs.size (.tup [.int (i : Nat), .str ⟨#[c]⟩]) :=
      ⟨two_fits, [.int i tk, .str ⟨#[c]⟩ tc], .cons ⟨_, rfl⟩ (.cons ⟨_, rfl⟩ .nil), ⟨_, hT2, rfl, _, rfl⟩⟩
    have I1 : Inv X pins σ (upd H s.heap.objs.size (.tup [.int (i : Nat), .str ⟨#[c]⟩])) { s with heap := h'', toks := tk + 1 } :=
      I.turnedNew (ch := [e, it]) (fun b ob hb q => (sb.2 b (fun z => hb (by simp [z]))).trans (hk b ob (fun z => hb (by simp [z])) (fun z => hb (by simp [z])) q)) hf (Nat.le_refl _) new
    refine ⟨.ref s.heap.objs.size, _, I1, rfl, ⟨_, c, rfl, I.hok.fresh (Nat.le_refl _), rfl, hcx⟩, ⟨⟨.str ⟨#[c]⟩ tc, ?_⟩, ?_, hne⟩, fun b hb => ?_⟩
    · have e1 : ((i + 1 : Nat) : Int) = (i : Int) + 1 := by omega
      rw [e1]; exact he'
    · obtain ⟨o, ho2, r⟩ := hit'
      exact ⟨o, (sb.2 it (Ne.symm hne)).trans ho2, r⟩
    · have hb' : b < s.heap.objs.size := by
        rcases (show b = e ∨ b = it by simpa using hb) with z | z
        · rw [z]; exact hel
        · rw [z]; exact hil
      rw [upd_ne (Nat.ne_of_lt hb')]
      exact (hf b hb).1
  done := by
    intro X hP hw hK hc i pins s σ H E I hf st hg
    subst hP hw hK
    obtain ⟨⟨old, he⟩, hit, hne⟩ := st
    have hg' : x.cps.size ≤ i := hg
    have hx : x.cps[i]? = none := Array.getElem?_eq_none hg'
    obtain ⟨f0, f1, f2, f3, f4, f5⟩ := hf it (by simp)
    have hh : X.A.in1.handled = none := I.ok.hd hc
    have DD : Draws X.prog X.w X.A.in1 it [it] i (fun _ _ => True) (fun j h => j = i ∧ h.IsStrIter it (strIterType x) x t i) := by
      refine ⟨fun _ _ st => let ⟨_, o, ho, _⟩ := st; ⟨o, ho⟩, fun _ _ _ st hk => let ⟨e, o, ho, r⟩ := st; ⟨e, o, hk it (by simp) o ho, r⟩, fun j s Q E hj st hQ => absurd st.1 (Nat.ne_of_lt hj), fun s Q E st hE => ?_⟩
      obtain ⟨_, st⟩ := st
      cases ha : x.cps.all (· < 128)
      · simp only [strIterType, ha, Bool.false_eq_true, if_false] at st
        exact wpAny_nextOf_wide_end hh st hx hE
      · simp only [strIterType, ha, if_true] at st
        exact wpAny_nextOf_ascii_end hh st hx hE
    exact wpAny_pyNext_enum_endD DD he ⟨rfl, hit⟩ fun h' eb => ⟨rfl, I.turned (t' := s.toks) (fun b o hb q => eb b o hb q) f0 f1 f3 f4 f5⟩
  self := fun A i s Q E st h => let ⟨⟨_, he⟩, _⟩ := st; wpAny_pyIter_enum he h
theorem turn_enumT {P : Program} {w : World} {K : PySem.W.Frag} {elts : List Expr} {kk : Nat} {tpos : Pos} (a e it : Addr) :
    Turn P w K (.Tuple elts kk tpos) (IteT K a) [e, it] e (fun i h => (∃ old, IsEnum h e it ((i : Nat) : Int) old) ∧ h.IsTupleIter it a i ∧ e ≠ it ∧ a ≠ it) where
  mem := by simp
  obj := fun i h st b hb => by
    obtain ⟨⟨old, he⟩, ⟨o, ho, hc, hd⟩, _⟩ := st
    rcases (show b = e ∨ b = it by simpa using hb) with z | z
    · rw [z]; exact ⟨_, he, fun v q => nomatch q⟩
    · rw [z]; exact ⟨o, ho, fun v q => by rw [hd] at q; cases q⟩
  keep := fun i h h' st k => let ⟨⟨old, he⟩, hi, hne⟩ := st; ⟨⟨old, k e (by simp) _ he⟩, hi.at fun o q => k it (by simp) o q, hne⟩
  item := by
    intro X hP hw hK hc i pins s σ H E I hf st hg
    subst hP hw hK
    obtain ⟨⟨old, he⟩, hit, hne, hna⟩ := st
    obtain ⟨xs, x, hq, hx⟩ := hg
    obtain ⟨its, rv, p, hz⟩ := I.tuple hq
    obtain ⟨u, hu, ru⟩ := rv.get hx
    have hel : e < s.heap.objs.size := Heap.lt_size he
    have hil : it < s.heap.objs.size := by obtain ⟨_, q, _⟩ := hit; exact Heap.lt_size q
    have hlt : i < its.toArray.size := by
      rcases Nat.lt_or_ge i its.length with z | z
      · simpa using z
      · rw [List.getElem?_eq_none z] at hu; cases hu
    have hea : e ≠ a := by
      rintro rfl
      obtain ⟨o, ho, hcl, _⟩ := p
      rw [he] at ho
      cases ho
      exact absurd hcl (by intro z; exact absurd (Value.type.inj z) (by decide))
    have DD : Draws X.prog X.w X.A.in1 it [it, a] its.toArray.size (fun i v => its.toArray[i]? = some v) (fun i h => h.IsTupleIter it a i ∧ h.IsTuple a its.toArray) := Draws.tuple (A := X.A.in1) (show X.A.in1.handled = none from I.ok.hd hc) it a hna its.toArray
    refine wpAny_pyNext_enum_itemD DD he ⟨hit, p⟩ hlt hne (by simp [hne, hea]) fun u2 h' tk hx2 ho hit' hT hsz hk => ?_
    have eu : u2 = u := by
      have q1 : its.toArray[i]? = some u2 := hx2
      rw [List.getElem?_toArray, hu] at q1
      cases q1
      rfl
    subst eu
    refine ⟨_, rfl, wpAny_letOwnedTupleGo_enum (s := { s with heap := h', toks := tk + 1 }) ho fun h'' he' sb => ?_⟩
    have hT2 : h''.get? s.heap.objs.size = some { cls := .type "tuple", data := .seq #[.int i tk, u2] } := (sb.2 _ (Nat.ne_of_gt hel)).trans hT
    have new : ObjOk X.prog X.w (upd H s.heap.objs.size (.tup [.int (i : Nat), x])) h'' s.heap.objs.size (.tup [.int (i : Nat), x]) :=
      ⟨two_fits, [.int i tk, u2], .cons ⟨_, rfl⟩ (.cons ru .nil), ⟨_, hT2, rfl, _, rfl⟩⟩
    have I1 : Inv X pins σ (upd H s.heap.objs.size (.tup [.int (i : Nat), x])) { s with heap := h'', toks := tk + 1 } :=
      I.turnedNew (ch := [e, it]) (fun b ob hb q => (sb.2 b (fun z => hb (by simp [z]))).trans (hk b ob (fun z => hb (by simp [z])) (fun z => hb (by simp [z])) q)) hf (Nat.le_refl _) new
    refine ⟨.ref s.heap.objs.size, _, I1, rfl, ⟨_, x, rfl, I.hok.fresh (Nat.le_refl _), rfl, fun ys hy => by rw [I.tuple_inj hy hq]; exact hx⟩, ⟨⟨u2, ?_⟩, hit'.1.at fun o q => (sb.2 it (Ne.symm hne)).trans q, hne, hna⟩, fun b hb => ?_⟩
    · have e1 : ((i + 1 : Nat) : Int) = (i : Int) + 1 := by omega
      rw [e1]; exact he'
    · have hb' : b < s.heap.objs.size := by
        rcases (show b = e ∨ b = it by simpa using hb) with z | z
        · rw [z]; exact hel
        · rw [z]; exact hil
      rw [upd_ne (Nat.ne_of_lt hb')]
      exact (hf b hb).1
  done := by
    intro X hP hw hK hc i pins s σ H E I hf st hg
    subst hP hw hK
    obtain ⟨⟨old, he⟩, hit, hne, hna⟩ := st
    obtain ⟨xs, hq, hx⟩ := hg
    obtain ⟨its, rv, p, hz⟩ := I.tuple hq
    have hl := rv.length
    have hn : its.toArray[i]? = none := by
      rw [List.getElem?_toArray]
      exact List.getElem?_eq_none (by omega)
    obtain ⟨f0, f1, f2, f3, f4, f5⟩ := hf it (by simp)
    have hh : X.A.in1.handled = none := I.ok.hd hc
    have DD : Draws X.prog X.w X.A.in1 it [it, a] i (fun _ _ => True) (fun j h => j = i ∧ h.IsTupleIter it a i ∧ h.IsTuple a its.toArray) := by
      refine ⟨fun _ _ st => let ⟨_, ⟨o, ho, _⟩, _⟩ := st; ⟨o, ho⟩, fun _ _ _ st hk => ⟨st.1, st.2.1.at fun o e => hk it (by simp) o e, st.2.2.at fun o e => hk a (by simp) o e⟩, fun j s Q E hj st hQ => absurd st.1 (Nat.ne_of_lt hj), fun s Q E st hE => ?_⟩
      exact wpAny_nextOf_tuple_end hh st.2.1 st.2.2 hn hE
    exact wpAny_pyNext_enum_endD DD he ⟨rfl, hit, p⟩ fun h' eb => ⟨rfl, I.turned (t' := s.toks) (fun b o hb q => eb b o hb q) f0 f1 f3 f4 f5⟩
  self := fun A i s Q E st h => let ⟨⟨_, he⟩, _⟩ := st; wpAny_pyIter_enum he h
theorem meets_enum1 {v : Value} {o : Obj} {H : Heap → Prop} (B : Begins v o H) :
    Meets (Builtin.«enumerate.__new__» ⟨[.type "enumerate", v], []⟩) (fun _ R s => H s.heap ∧
      R (.ok (.ret (.ref (s.heap.push o).objs.size))) { s with heap := (s.heap.push o).push { cls := .type "enumerate", data := .fields #[.none, .bool false, .ref s.heap.objs.size, rawInt 0, .none, .none] } }) :=
  .of_wp fun prog w A R s h => by
    obtain ⟨hp, g, d, tk, os⟩ := s; obtain ⟨h1, h⟩ := h
    have hsub := sub_enumerate
    have q1 : ∀ {A' : Around} {E : Value → Shared → Prop} {Q : Value → Shared → Prop}, Q (.ref hp.objs.size) ⟨hp.push o, g, d, tk, os⟩ → wpAny (model prog w) A' (pyIter v) Q E ⟨hp, g, d, tk, os⟩ :=
      fun q => B.iter prog w _ _ ⟨hp, g, d, tk, os⟩ _ h1 q
    wp_walk using q1
    refine wpAny_stack_any fun st => wpAny_pure ?_
    split
    · rename_i c _ _ _ _ _
      cases (c == Value.type "enumerate")
      · wp_walk using q1
        exact ⟨_, rfl, h⟩
      · wp_walk using q1
        exact ⟨_, rfl, h⟩
    · wp_walk using q1
      exact ⟨_, rfl, h⟩
theorem call_enumG {prog : Program} {w : World} {A : Around} {E : Value → Shared → Prop} {s : Shared} {v : Value} {o : Obj} {H : Heap → Prop} {Q : Value → Shared → Prop} (B : Begins v o H) (h1 : H s.heap)
    (h : ∀ h', IsEnum h' (s.heap.objs.size + 1) s.heap.objs.size 0 .none → h'.get? s.heap.objs.size = some o →
      (∀ b o, s.heap.get? b = some o → h'.get? b = some o) → Q (.ref (s.heap.objs.size + 1)) { s with heap := h' }) :
    wpAny (model prog w) A (call (.type "enumerate") [v]) Q E s := by
  refine callType_new F.called_enumerate (by decide) (F.typeCall_enumerate_1 _) (F.newCall_enumerate_1 _) (fun obj => F.args_object_init_2 obj _) F.entry_enumerate_new (meets_enum1 B) ⟨h1, ?_⟩
  have hz : (s.heap.push o).objs.size = s.heap.objs.size + 1 := Heap.size_push ..
  show _ ∧ _
  rw [hz]
  have he : IsEnum ((s.heap.push o).push { cls := .type "enumerate", data := .fields #[.none, .bool false, .ref s.heap.objs.size, rawInt 0, .none, .none] }) (s.heap.objs.size + 1) s.heap.objs.size 0 .none := by
    have := Heap.get?_push_size (s.heap.push o) (o := { cls := .type "enumerate", data := .fields #[.none, .bool false, .ref s.heap.objs.size, rawInt 0, .none, .none] }) rfl
    rw [hz] at this; exact this
  exact ⟨⟨_, he, rfl⟩, h _ he (Heap.get?_push_of_some _ (Heap.get?_push_size _ B.free)) fun b o x => Heap.get?_push_of_some _ (Heap.get?_push_of_some _ x)⟩
noncomputable def iEnum3 (K : PySem.W.Frag) (ta : TA) : TI := fun σ H R => ta σ H fun vs H1 => (∃ a xs, vs = [.ref a] ∧ SqL K H1 a xs ∧ R (Ite K a) H1) ∨ (∃ a xs, vs = [.ref a] ∧ SqT K H1 a xs ∧ R (IteT K a) H1) ∨ ∃ s, vs = [.str s] ∧ R (IteS s) H1
theorem pi_enum3 {X : Cx} {e : Expr} {ta : TA} {p pos tpos : Pos} {elts : List Expr} {kk : Nat} (hg : Gl X "enumerate") (hm : X.mg "enumerate" = none) (ha : PA X [e] ta) (hs : starEach [e] X.env = [(false, eval e X.env)] := by rfl) :
    PI X (.Tuple elts kk tpos) (.Call (.Name "enumerate" p) [e] [] pos) (iEnum3 X.K ta) := by
  refine ⟨fun pins s σ H R I h => ?_⟩
  refine Call_ (ld_blt I hg hm boot_enumerate (PyProof.Rows.callWith_type1 (thn (ha.run pos pins s σ H _ I h) fun us s1 ⟨vs, H1, I1, r1, q1⟩ => ?_) hs rfl))
  have fresh : ∀ b ∈ [s1.heap.objs.size + 1, s1.heap.objs.size], FpOk X pins H1 b := fun b hb => by
    have hle : s1.heap.objs.size ≤ b := by
      rcases (show b = s1.heap.objs.size + 1 ∨ b = s1.heap.objs.size by simpa using hb) with z | z
      · rw [z]; exact Nat.le_add_right _ _
      · rw [z]; exact Nat.le_refl _
    exact I1.fpOk hle (I1.hok.fresh hle)
  rcases q1 with ⟨a, xs, ex, hq, q⟩ | ⟨a, xs, ex, hq, q⟩ | ⟨x, ex, q⟩
  · subst ex
    cases r1 with
    | cons r rr =>
      cases rr
      cases r
      obtain ⟨its, rv, p', hz⟩ := I1.list hq
      refine call_enumerate_list p'.isList fun h' he hit hsz hk => wpAny_pyIter_enum he ?_
      exact ⟨s1.heap.objs.size + 1, [s1.heap.objs.size + 1, s1.heap.objs.size], _, _, H1, rfl, I1.kept (t' := s1.toks) hk, turn_enum a (s1.heap.objs.size + 1) s1.heap.objs.size, ⟨⟨.none, he⟩, hit, Nat.succ_ne_self _⟩, fresh, q⟩
  · subst ex
    cases r1 with
    | cons r rr =>
      cases rr
      cases r
      obtain ⟨its, rv, p', hz⟩ := I1.tuple hq
      have hlt : a < s1.heap.objs.size := by obtain ⟨_, e, _⟩ := p'; exact Heap.lt_size e
      refine call_enumG (begins_tuple a its.toArray) p' fun h' he hit hk => wpAny_pyIter_enum he ?_
      exact ⟨s1.heap.objs.size + 1, [s1.heap.objs.size + 1, s1.heap.objs.size], _, _, H1, rfl, I1.kept (t' := s1.toks) hk, turn_enumT a (s1.heap.objs.size + 1) s1.heap.objs.size, ⟨⟨.none, he⟩, ⟨_, hit, rfl, rfl⟩, Nat.succ_ne_self _, Nat.ne_of_lt hlt⟩, fresh, q⟩
  · subst ex
    cases r1 with
    | cons r rr =>
      cases rr
      obtain ⟨t, rfl⟩ := r
      refine call_enumG (begins_text x t) trivial fun h' he hit hk => wpAny_pyIter_enum he ?_
      exact ⟨s1.heap.objs.size + 1, [s1.heap.objs.size + 1, s1.heap.objs.size], _, _, H1, rfl, I1.kept (t' := s1.toks) hk, turn_enumS (s1.heap.objs.size + 1) s1.heap.objs.size x t, ⟨⟨.none, he⟩, ⟨_, hit, rfl, rfl⟩, Nat.succ_ne_self _⟩, fresh, q⟩
/-- over data -/
noncomputable def enumD (xs : List D) : List D := xs.zipIdx.map fun p => .tup [.int (p.2 : Nat), p.1]
theorem enumD_length {xs : List D} : (enumD xs).length = xs.length := by simp [enumD]
theorem enumD_get {xs : List D} {i : Nat} {d : D} (h : xs[i]? = some d) : (enumD xs)[i]? = some (.tup [.int (i : Nat), d]) := by
  unfold enumD
  rw [List.getElem?_map, List.getElem?_zipIdx, h]
  simp
theorem new_pair {K : PySem.W.Frag} {μ : Store} {G H : Hp} {T : Addr} {i : Nat} {d : D} {x : V} (m : Sm K μ G H) (hT : H T = none) (r : Rp K G d x) :
    ∃ G3, Ex G G3 ∧ Sm K μ G3 (upd H T (.tup [.int (i : Nat), x])) ∧ Rp K G3 (.tup [.int (i : Nat), d]) (.ref T) := by
  obtain ⟨m2, e2⟩ := m.frozen hT (.tup [.int (i : Nat), x])
  exact ⟨_, e2, m2, .tup (.inl upd_same) (.cons (.int _) (.cons (r.mono e2) .nil))⟩
theorem walk_es {K : PySem.W.Frag} {G : Hp} {s : Str} : Walk K G (IteS s) (enumD (chars s)) := fun i H G2 μ e m => by
  have hl : (enumD (chars s)).length = s.cps.size := by rw [enumD_length]; simp [chars]
  rw [hl]
  refine ⟨fun hi => ⟨hi, fun x H' y => ?_⟩, fun hi => hi⟩
  obtain ⟨T, c, rfl, hT, rfl, hc⟩ := y
  obtain ⟨G3, e3, m3, r3⟩ := new_pair (i := i) m hT (Rp.str (K := K) (G := G2) ⟨#[c]⟩)
  exact ⟨G3, _, enumD_get (by simp [chars, hc]), e3, m3, r3⟩
theorem walk_et {K : PySem.W.Frag} {G : Hp} {a : Addr} {xs : List V} {ds : List D} (h : TupAt K G a xs) (r : Rps K G ds xs) : Walk K G (IteT K a) (enumD ds) := fun i H G2 μ e m => by
  have sq := h.sq (e.trans m.ex)
  rw [enumD_length]
  refine ⟨fun hi => ⟨⟨xs, xs[i]'(by rw [← r.length]; exact hi), sq, by simp [← r.length, hi]⟩, fun x H' y => ?_⟩, fun hi => ⟨xs, sq, by rw [← r.length]; exact hi⟩⟩
  obtain ⟨T, x, rfl, hT, rfl, y⟩ := y
  obtain ⟨d, hd, rd⟩ := r.getR (y xs sq)
  obtain ⟨G3, e3, m3, r3⟩ := new_pair (i := i) m hT (rd.mono e)
  exact ⟨G3, _, enumD_get hd, e3, m3, r3⟩
theorem walk_el {K : PySem.W.Frag} {G : Hp} {a : Addr} {xs : List V} {ds : List D} (h : ∀ H, Ex G H → SqL K H a xs) (r : Rps K G ds xs) : Walk K G (Ite K a) (enumD ds) := fun i H G2 μ e m => by
  have sq := h H (e.trans m.ex)
  rw [enumD_length]
  refine ⟨fun hi => ⟨⟨xs, xs[i]'(by rw [← r.length]; exact hi), sq, by simp [← r.length, hi]⟩, fun x H' y => ?_⟩, fun hi => ⟨xs, sq, by rw [← r.length]; exact hi⟩⟩
  obtain ⟨T, x, rfl, hT, rfl, y⟩ := y
  obtain ⟨d, hd, rd⟩ := r.getR (y xs sq)
  obtain ⟨G3, e3, m3, r3⟩ := new_pair (i := i) m hT (rd.mono e)
  exact ⟨G3, _, enumD_get hd, e3, m3, r3⟩
noncomputable def wiEnum (we : WE) : WI := fun ρ μ P => we ρ μ fun d μ1 => match itemsD d with | some xs => P (enumD xs) μ1 | none => False
theorem di_enum {X : Cx} {e : Expr} {we : WE} {p pos tpos : Pos} {elts : List Expr} {kk : Nat} (hg : Gl X "enumerate") (hm : X.mg "enumerate" = none) (h : DE X e we) (hs : starEach [e] X.env = [(false, eval e X.env)] := by rfl) :
    DI X (.Tuple elts kk tpos) (.Call (.Name "enumerate" p) [e] [] pos) (wiEnum we) :=
  ⟨wkI (pi_enum3 hg hm (da_cons h da_nil hs).p hs) fun σ H R ⟨ρ, μ, G, P, he, hm, hw, ht⟩ =>
  ⟨ρ, μ, G, fun ds μ1 => match ds with | [d] => (match itemsD d with | some xs => P (enumD xs) μ1 | none => False) | _ => False, he, hm, hw, fun ds μ1 vs H1 G1 p e m r => by
    match ds, r, p with
    | [d], .cons r .nil, p =>
    cases r with
    | lst h1 r1 => exact .inl ⟨_, _, rfl, lst_sq m.ex h1, ht _ _ _ _ _ p e m (walk_el (fun H' e' => lst_sq e' h1) r1)⟩
    | scr h1 r1 => exact .inl ⟨_, _, rfl, h1.sq m.ex, ht _ _ _ _ _ p e m (walk_el (fun H' e' => h1.sq e') r1)⟩
    | tup h1 r1 => exact .inr (.inl ⟨_, _, rfl, h1.sq m.ex, ht _ _ _ _ _ p e m (walk_et h1 r1)⟩)
    | str s => exact .inr (.inr ⟨s, rfl, ht _ _ _ _ _ p e m walk_es⟩)
    | _ => exact p.elim⟩⟩
end Dl
namespace Dl
open PySem L2
section
variable {X : Cx} {a b : Expr} {wa wb : WE} {pos : Pos}
noncomputable def wNeg (w : WE) : WE := fun ρ μ P => w ρ μ fun d μ1 => match d with | .int i => P (.int (-i)) μ1 | _ => False
theorem de_neg (h : DE X a wa) : DE X (.UnaryOp .USub a pos) (wNeg wa) := ⟨wkE (pe_un un_neg h.p) fun σ H Q ⟨ρ, μ, G, P, he, hm, hw, ht⟩ => ⟨ρ, μ, G, _, he, hm, hw, fun d μ1 v H1 G1 p e m r => by
  cases d with
  | int i => cases r; exact ⟨i, rfl, ht _ _ _ _ _ p e m (.int _)⟩
  | _ => exact p.elim⟩⟩
noncomputable def oIs : OD := fun x y μ P => match y with
  | .non => P (.bl (match x with | .non => true | _ => false)) μ
  | .bl b => (match x with | .bl a => P (.bl (decide (a = b))) μ | _ => False)
  | _ => False
noncomputable def oIsNot : OD := fun x y μ P => match y with
  | .non => P (.bl (match x with | .non => false | _ => true)) μ
  | .bl b => (match x with | .bl a => P (.bl (!decide (a = b))) μ | _ => False)
  | _ => False
theorem isn_ok {K : PySem.W.Frag} {G : Hp} {x : D} {v : V} (r : Rp K G x v) : decide (v = .non) = (match x with | .non => true | _ => false) := by
  cases r <;> simp
theorem os_is : OpS X (compareOp .Is) oIs := ⟨_, op_isN.or op_isBl, fun {x y μ P G H v u Q} h m rx ry t => by
  unfold oIs at h
  split at h
  · cases ry
    refine .inl ⟨rfl, ?_⟩
    rw [isn_ok rx]
    cases x <;> exact t _ _ _ _ _ h (Ex.refl _) m (.bl _)
  · split at h
    · cases rx; cases ry
      exact .inr ⟨_, _, rfl, rfl, t _ _ _ _ _ h (Ex.refl _) m (.bl _)⟩
    · exact h.elim
  · exact h.elim⟩
theorem os_isNot : OpS X (compareOp .IsNot) oIsNot := ⟨_, op_notN.or op_notBl, fun {x y μ P G H v u Q} h m rx ry t => by
  unfold oIsNot at h
  split at h
  · cases ry
    refine .inl ⟨rfl, ?_⟩
    rw [isn_ok rx]
    cases x <;> exact t _ _ _ _ _ h (Ex.refl _) m (.bl _)
  · split at h
    · cases rx; cases ry
      exact .inr ⟨_, _, rfl, rfl, t _ _ _ _ _ h (Ex.refl _) m (.bl _)⟩
    · exact h.elim
  · exact h.elim⟩
noncomputable def flatD : D → Bool
  | .non => true | .bl _ => true | .int _ => true | .str _ => true | _ => false
noncomputable def toV : D → V
  | .non => .non | .bl b => .bl b | .int i => .int i | .str s => .str s | _ => .non
theorem flat_ok {K : PySem.W.Frag} {G : Hp} {x : D} {v : V} (f : flatD x = true) (r : Rp K G x v) : flatV v = true ∧ v = toV x := by
  cases r <;> first | exact ⟨rfl, rfl⟩ | cases f
theorem flats_ok {K : PySem.W.Frag} {G : Hp} : ∀ {xs : List D} {vs : List V}, xs.all flatD = true → Rps K G xs vs → vs.all flatV = true ∧ vs = xs.map toV
  | _, _, _, .nil => ⟨rfl, rfl⟩
  | x :: xs, _, h, .cons r rs => by
    rw [List.all_cons, Bool.and_eq_true] at h
    obtain ⟨h1, rfl⟩ := flat_ok h.1 r
    obtain ⟨h2, rfl⟩ := flats_ok h.2 rs
    exact ⟨by rw [List.all_cons, h1, h2]; rfl, rfl⟩
/-- one of them -/
noncomputable def inD (x : D) (xs : List D) : Bool := inV (toV x) (xs.map toV)
noncomputable def sqD (μ : Store) : D → Option (List D)
  | .tup xs => some xs
  | .scr xs => some xs
  | d => seqL μ d
theorem sqD_ok {K : PySem.W.Frag} {μ : Store} {G H : Hp} {d : D} {v : V} {ds : List D} (h : sqD μ d = some ds) (m : Sm K μ G H) (r : Rp K G d v) : ∃ a xs, v = .ref a ∧ (SqL K H a xs ∨ SqT K H a xs) ∧ Rps K G ds xs := by
  cases r with
  | tup h1 r1 => cases h; exact ⟨_, _, rfl, .inr (h1.sq m.ex), r1⟩
  | scr h1 r1 => cases h; exact ⟨_, _, rfl, .inl (h1.sq m.ex), r1⟩
  | lst h1 r1 => obtain ⟨a, xs, e, h2, r2⟩ := seqL_ok (d := .lst _) h m (.lst h1 r1); exact ⟨a, xs, e, .inl (SqL.of h2), r2⟩
  | ref a => obtain ⟨a, xs, e, h2, r2⟩ := seqL_ok (d := .ref _) h m (.ref a); exact ⟨a, xs, e, .inl (SqL.of h2), r2⟩
  | _ => cases h
noncomputable def oInW (f : Bool → Bool) : OD := fun x y μ P => match x, y with
  | .str z, .str s => P (.bl (f (!(Builtin.Str.occurrences s z 0 s.length 1).isEmpty))) μ
  | x, y => match sqD μ y with
    | some xs => flatD x = true ∧ xs.all flatD = true ∧ P (.bl (f (inD x xs))) μ
    | none => False
noncomputable def oIn : OD := oInW fun b => b
noncomputable def oNotIn : OD := oInW fun b => !b
theorem os_in : OpS X (compareOp .In) oIn := by
  refine ⟨_, op_in_str.or op_in_seq, ?_⟩
  intro x y μ P G H v u Q h m rx ry t
  unfold oIn oInW at h
  split at h
  · cases rx
    cases ry
    exact .inl ⟨_, _, rfl, rfl, t _ _ _ _ _ h (Ex.refl _) m (.bl _)⟩
  · split at h
    · rename_i xs hs
      obtain ⟨fx, fs, p⟩ := h
      obtain ⟨a, vs, rfl, hq, r⟩ := sqD_ok hs m ry
      obtain ⟨f1, rfl⟩ := flat_ok fx rx
      obtain ⟨f2, rfl⟩ := flats_ok fs r
      exact .inr ⟨a, _, rfl, hq, f1, f2, t _ _ _ _ _ p (Ex.refl _) m (.bl _)⟩
    · exact h.elim
theorem os_notIn : OpS X (compareOp .NotIn) oNotIn := by
  refine ⟨_, op_notin_str.or op_notIn_seq, ?_⟩
  intro x y μ P G H v u Q h m rx ry t
  unfold oNotIn oInW at h
  split at h
  · cases rx
    cases ry
    exact .inl ⟨_, _, rfl, rfl, t _ _ _ _ _ h (Ex.refl _) m (.bl _)⟩
  · split at h
    · rename_i xs hs
      obtain ⟨fx, fs, p⟩ := h
      obtain ⟨a, vs, rfl, hq, r⟩ := sqD_ok hs m ry
      obtain ⟨f1, rfl⟩ := flat_ok fx rx
      obtain ⟨f2, rfl⟩ := flats_ok fs r
      exact .inr ⟨a, _, rfl, hq, f1, f2, t _ _ _ _ _ p (Ex.refl _) m (.bl _)⟩
    · exact h.elim
noncomputable def tyD (μ : Store) : D → Option String
  | .non => some "NoneType" | .bl _ => some "bool" | .int _ => some "int" | .str _ => some "str" | .tup _ => some "tuple" | .lst _ => some "list"
  | .ref a => (match μ a with | some (.lst _) => some "list" | some (.dct _) => some "dict" | _ => none)
  | .dct _ => some "dict"
  | _ => none
theorem tupAt_ty {K : PySem.W.Frag} {G H : Hp} {a : Addr} {xs : List V} (e : Ex G H) (h : TupAt K G a xs) : TyX K H (.ref a) (.type "tuple") := by
  rcases h with h | ⟨o, its, n, h1, h2, _⟩
  · exact .base (.tup (e _ _ h))
  · exact .kTuple h1 h2
theorem tyD_ok {K : PySem.W.Frag} {μ : Store} {G H : Hp} {d : D} {v : V} {n : String} (h : tyD μ d = some n) (m : Sm K μ G H) (r : Rp K G d v) : TyX K H v (.type n) := by
  cases r with
  | non => cases h; exact .base .non
  | bl b => cases h; exact .base (.bl b)
  | int i => cases h; exact .base (.int i)
  | str s => cases h; exact .base (.str s)
  | tup h1 _ => cases h; exact tupAt_ty m.ex h1
  | lst h1 _ => cases h; exact .base (.lst (m.ex _ _ h1))
  | dct h1 _ _ => cases h; exact .base (.dK (m.ex _ _ h1))
  | ref a =>
    unfold tyD at h
    dsimp only at h
    cases q : μ a with
    | none => rw [q] at h; cases h
    | some c =>
      rw [q] at h
      obtain ⟨_, k⟩ := m.st a c q
      cases c with
      | lst ds => cases h; obtain ⟨xs, h1, _⟩ := k; exact .base (.lst h1)
      | dct ds => cases h; obtain ⟨xs, h1, _⟩ := k; exact .base (.dK h1)
      | ins C ds => cases h
  | _ => cases h
noncomputable def isTy (m n : String) : Bool := m == n || (m == "bool" && n == "int")
/-- what the built-in classes say of each other -/
theorem tyTab (K : PySem.W.Frag) (n m : String) (hn : n ∈ ["bool", "int", "str", "tuple", "list", "dict"]) (hm : m ∈ ["NoneType", "bool", "int", "str", "tuple", "list", "dict"]) : PySem.W.kitOne K (.type m) (.type n) = some (isTy m n) := by
  simp only [List.mem_cons, List.not_mem_nil, or_false] at hn hm
  rcases hn with rfl | rfl | rfl | rfl | rfl | rfl <;> rcases hm with rfl | rfl | rfl | rfl | rfl | rfl | rfl <;> kernel_rfl
theorem tyD_mem {μ : Store} {d : D} {m : String} (h : tyD μ d = some m) : m ∈ ["NoneType", "bool", "int", "str", "tuple", "list", "dict"] := by
  unfold tyD at h
  split at h <;> first | (cases h; simp; done) | (split at h <;> first | (cases h; simp; done) | cases h) | cases h
noncomputable def oIsi : OC := fun ds μ P => match ds with
  | [d, .ty n] => n ∈ ["bool", "int", "str", "tuple", "list", "dict"] ∧ (match tyD μ d with | some m => P (.bl (isTy m n)) μ | none => False)
  | _ => False
theorem cs_isi : CallS X (.builtin "isinstance") oIsi := by
  refine ⟨_, call_isi, ?_⟩
  intro ds μ P G H vs Q h m r t
  match ds, r, h with
  | [d, .ty n], .cons r1 (.cons (.ty _) .nil), h =>
    obtain ⟨hn, h⟩ := h
    split at h
    · rename_i k2 hk
      exact ⟨_, _, _, _, _, rfl, .ty n, tyD_ok hk m r1, tyTab _ _ _ hn (tyD_mem hk), t _ _ _ _ _ h (Ex.refl _) m (.bl _)⟩
    · exact h.elim
theorem de_ty {n : String} {x : Str} {p : Pos} (hg : Gl X x) (hm : X.mg x = none) (hv : bootBuiltins x = some (.type n)) (hn : x ≠ "__name__" := by decide) (hd : (x == ("__debug__" : Str)) = false := by decide) : DE X (.Name x p) (wC (.ty n)) :=
  de_c (pe_bltn hg hm hv (show RelV (.ty n) (.type n) from rfl) hn hd) fun _ => .ty n
end
section
variable {X : Cx} {e : Expr} {we : WE} {pos : Pos}
noncomputable def oIAdd : OD := fun x y μ P => match x, y with | .int i, .int j => P (.int (i + j)) μ | _, _ => False
noncomputable def oISub : OD := fun x y μ P => match x, y with | .int i, .int j => P (.int (i - j)) μ | _, _ => False
noncomputable def wAug (i : Nat) (o : OD) (we : WE) : WS := fun W ρ μ => match ρ.getD i none with
  | some x => we ρ μ fun y μ1 => o x y μ1 fun z μ2 => W.nx (ρ.set i (some z)) μ2
  | none => False
end
section
variable {X : Cx} {o e : Expr} {es : List Expr} {wo : WE} {wa : WA} {pos : Pos}
noncomputable abbrev OM := D → List D → Store → (D → Store → Prop) → Prop
noncomputable def tyM (T : String) (μ : Store) (d : D) : Prop := (T = "str" ∧ ∃ s, d = .str s) ∨ (T = "list" ∧ ∃ xs, seqL μ d = some xs) ∨ (T = "dict" ∧ ∃ kvs, d = .dct kvs) ∨ (T = "dict" ∧ ∃ a kvs, d = .ref a ∧ μ a = some (.dct kvs))
theorem tyM_ok {K : PySem.W.Frag} {μ : Store} {G H : Hp} {d : D} {v : V} {T : String} (h : tyM T μ d) (m : Sm K μ G H) (r : Rp K G d v) : tyV K T v H := by
  rcases h with ⟨rfl, s, rfl⟩ | ⟨rfl, xs, h⟩ | ⟨rfl, kvs, rfl⟩ | ⟨rfl, a, kvs, rfl, h⟩
  · cases r; exact rfl
  · obtain ⟨a, vs, rfl, h2, _⟩ := seqL_ok h m r
    exact .inl ⟨rfl, _, SqL.of h2⟩
  · cases r with | dct h1 _ _ => exact .inr (.inr (.inl ⟨rfl, .inl ⟨_, m.ex _ _ h1⟩⟩))
  · cases r
    obtain ⟨_, vs, h1, _⟩ := m.st a _ h
    exact .inr (.inr (.inl ⟨rfl, .inl ⟨_, h1⟩⟩))
structure BMok (X : Cx) (name : Str) (T : String) (om : OM) : Prop where
  ex : ∃ (id : String) (r : V → List V → Hp → VK → Prop), PlainAttrs T ∧ Slot T name id ∧ typeOf (.builtin id) = pure (.type "method_descriptor") ∧ MtR X id r ∧
    ∀ {x : D} {ds : List D} {μ : Store} {P : D → Store → Prop} {G H : Hp} {v : V} {vs : List V} {Q : VK}, om x ds μ P → Sm X.K μ G H → Rp X.K G x v → Rps X.K G ds vs → Tells X.K G P Q → r v vs H Q
noncomputable def wBM (T : String) (om : OM) (wo : WE) (wa : WA) : WE := fun ρ μ P => wo ρ μ fun x μ1 => tyM T μ1 x ∧ wa ρ μ1 fun ds μ2 => om x ds μ2 P
theorem de_bm {name : Str} {T : String} {om : OM} {apos cpos : Pos} (b : BMok X name T om) (ho : DE X o wo) (ha : DA X (e :: es) wa) (hbase : attributeBase o name X.env (eval o X.env) = eval o X.env := by rfl)
    (hfew : ((backTo cpos (starEach (e :: es) X.env)).all (fun x => !x.1) && (backToKw cpos (keywordEach [] X.env)).all (fun x => x.1.isSome)
      && decide ((e :: es).length + ([] : List Keyword).length + (if ([] : List Keyword).isEmpty then 0 else 1) < 30)) = true := by rfl)
    (hline : (apos.endLine == cpos.line) = true := by rfl) (hs : starEach (e :: es) X.env = (false, eval e X.env) :: starEach es X.env := by rfl) (hplain : (backTo cpos (starEach es X.env)).any (·.1) = false := by rfl) :
    DE X (.Call (.Attribute o name apos) (e :: es) [] cpos) (wBM T om wo wa) := by
  obtain ⟨id, r, p1, p2, p3, p4, hs2⟩ := b.ex
  refine ⟨wkE (pe_bm p1 p2 p3 p4 ho.p ha.p hbase hfew hline hs hplain) fun σ H Q ⟨ρ, μ, G, P, he, hm, hw, ht⟩ => ⟨ρ, μ, G, _, he, hm, hw, fun x μ1 v H1 G1 p e1 m1 r1 => ⟨tyM_ok p.1 m1 r1, ρ, μ1, G1, _, he.mono e1, m1, p.2, fun ds μ2 vs H2 G2 p2 e2 m2 r2 => hs2 p2 m2 (r1.mono e2) r2 (ht.mono (e1.trans e2))⟩⟩⟩
theorem de_bm0 {name : Str} {T : String} {om : OM} {apos cpos : Pos} (b : BMok X name T om) (ho : DE X o wo) (hbase : attributeBase o name X.env (eval o X.env) = eval o X.env := by rfl) (hline : (apos.endLine == cpos.line) = true := by rfl) :
    DE X (.Call (.Attribute o name apos) [] [] cpos) (wBM T om wo wANil) := by
  obtain ⟨id, r, p1, p2, p3, p4, hs2⟩ := b.ex
  refine ⟨wkE (pe_bm0 p1 p2 p3 p4 ho.p hbase hline) fun σ H Q ⟨ρ, μ, G, P, he, hm, hw, ht⟩ => ⟨ρ, μ, G, _, he, hm, hw, fun x μ1 v H1 G1 p e1 m1 r1 => ⟨tyM_ok p.1 m1 r1, hs2 p.2 m1 r1 .nil (ht.mono e1)⟩⟩⟩
noncomputable def oCount : OM := fun x ds μ P => match x, ds with | .str a, [.str b] => P (.int (Txt.count a b)) μ | _, _ => False
noncomputable def oJoin : OM := fun x ds μ P => match x, ds with
  | .str a, [d] => (match sqD μ d with
    | some xs => ∃ ys, strsD xs = some ys ∧ (ys.map (·.length)).sum + ys.length * a.length ≤ 16777216 ∧ P (.str (Txt.join a ys)) μ
    | none => False)
  | _, _ => False
theorem bm_join : BMok X "join" "str" oJoin := ⟨_, _, F.plainAttrs_str, F.slot_str_join, F.type_str_join, mt_join, fun {x ds μ P G H v vs Q} h m rx rs t => by
  unfold oJoin at h
  split at h
  · cases rx
    cases rs with | cons r1 r2 =>
    cases r2
    split at h
    · rename_i xs hx
      obtain ⟨ys, hy, hz, p⟩ := h
      obtain ⟨a, ws, rfl, hq, r⟩ := sqD_ok hx m r1
      have e := strsD_ok hy r
      subst e
      exact ⟨_, a, ys, rfl, rfl, hq, hz, t _ _ _ _ _ p (Ex.refl _) m (.str _)⟩
    · exact h.elim
  · exact h.elim⟩
noncomputable def oAppend : OM := fun x ds μ P => match x, ds with
  | .ref a, [d] => (match μ a with | some (.lst xs) => xs.length < sizeLine ∧ P .non (setS μ a (.lst (xs ++ [d]))) | _ => False)
  | _, _ => False
theorem bm_append : BMok X "append" "list" oAppend := ⟨_, _, F.plainAttrs_list, F.slot_list_append, F.type_list_append, mt_append, fun {x ds μ P G H v vs Q} h m rx rs t => by
  unfold oAppend at h
  split at h
  · rename_i a d
    cases rx
    cases rs with | cons r1 r2 =>
    cases r2
    cases q : μ a with
    | none => rw [q] at h; exact h.elim
    | some c =>
      rw [q] at h
      cases c with
      | lst xs =>
        obtain ⟨h0, ws, h1, r⟩ := m.st a _ q
        obtain ⟨hz, p⟩ := h
        refine ⟨a, ws, _, rfl, rfl, h1, by rw [← r.length]; exact hz, t _ _ _ _ _ p (Ex.refl _) (m.write h0 ⟨_, upd_same, r.append (.cons r1 .nil)⟩) .non⟩
      | _ => exact h.elim
  · exact h.elim⟩
end
section
variable {X : Cx}
noncomputable def oPop : OM := fun x ds μ P => match x, ds with
  | .ref a, [] => (match μ a with | some (.lst xs) => ∃ y, xs[xs.length - 1]? = some y ∧ P y (setS μ a (.lst xs.dropLast)) | _ => False)
  | _, _ => False
theorem rps_dropLast {K : PySem.W.Frag} {G : Hp} : ∀ {ds : List D} {vs : List V}, Rps K G ds vs → Rps K G ds.dropLast vs.dropLast
  | _, _, .nil => .nil
  | _, _, .cons _ .nil => .nil
  | _, _, .cons a (.cons b r) => .cons a (rps_dropLast (.cons b r))
theorem bm_pop : BMok X "pop" "list" oPop := ⟨_, _, F.plainAttrs_list, F.slot_list_pop, F.type_list_pop, mt_pop, fun {x ds μ P G H v vs Q} h m rx rs t => by
  unfold oPop at h
  split at h
  · rename_i a
    cases rx
    cases rs
    cases q : μ a with
    | none => rw [q] at h; exact h.elim
    | some c =>
      rw [q] at h
      cases c with
      | lst xs =>
        obtain ⟨h0, ws, h1, r⟩ := m.st a _ q
        obtain ⟨y, hy, p⟩ := h
        obtain ⟨v, hv, rv⟩ := r.getL hy
        exact ⟨a, ws, v, rfl, rfl, h1, by rw [← r.length]; exact hv, t _ _ _ _ _ p (Ex.refl _) (m.write h0 ⟨_, upd_same, rps_dropLast r⟩) rv⟩
      | _ => exact h.elim
  · exact h.elim⟩
noncomputable def wRev (we : WE) : WE := fun ρ μ P => we ρ μ fun d μ1 => match seqR μ1 d with | some xs => P (.lst xs.reverse) μ1 | none => False
noncomputable def wRevM (we : WE) : WE := fun ρ μ P => we ρ μ fun d μ1 => match seqR μ1 d with | some xs => ∀ p, μ1 p = none → P (.ref p) (setS μ1 p (.lst xs.reverse)) | none => False
end
section
variable {X : Cx} {e : Expr} {we wl wh : WE} {pos p2 : Pos}
noncomputable abbrev WP := Env → Store → (Option Int → Store → Prop) → Prop
noncomputable def TellsP (K : PySem.W.Frag) (G : Hp) (P : Option Int → Store → Prop) (Q : Option Int → Hp → Prop) : Prop := ∀ i μ' H' G', P i μ' → Ex G G' → Sm K μ' G' H' → Q i H'
noncomputable def LP (K : PySem.W.Frag) (w : WP) : TO := fun σ H Q => ∃ ρ μ G P, EnvR K G ρ σ ∧ Sm K μ G H ∧ w ρ μ P ∧ TellsP K G P Q
structure DP (X : Cx) (e : Option Expr) (w : WP) : Prop where
  p : PO X e (LP X.K w)
theorem wkP {e : Option Expr} {t t' : TO} (h : PO X e t) (k : ∀ σ H Q, t' σ H Q → t σ H Q) : PO X e t' := ⟨fun pins s σ H Q I q => h.run pins s σ H Q I (k σ H Q q)⟩
noncomputable def wNoP : WP := fun _ μ P => P none μ
noncomputable def wPart (w : WE) : WP := fun ρ μ P => w ρ μ fun d μ1 => match d with | .int i => P (some i) μ1 | _ => False
theorem dp_none : DP X none wNoP := ⟨wkP po_none fun σ H Q ⟨ρ, μ, G, P, he, hm, hw, ht⟩ => ht _ _ _ _ hw (Ex.refl _) hm⟩
theorem dp_some (h : DE X e we) : DP X (some e) (wPart we) := ⟨wkP (po_some h.p) fun σ H Q ⟨ρ, μ, G, P, he, hm, hw, ht⟩ => ⟨ρ, μ, G, _, he, hm, hw, fun d μ1 v H1 G1 p e m r => by
  cases d with
  | int i => cases r; exact ⟨i, rfl, ht _ _ _ _ p e m⟩
  | _ => exact p.elim⟩⟩
noncomputable def cutD (xs : List D) (lo hi : Option Int) : List D := (xs.drop (HT.sIx xs.length 0 lo)).take (HT.sIx xs.length xs.length hi - HT.sIx xs.length 0 lo)
theorem rps_drop {K : PySem.W.Frag} {G : Hp} : ∀ {n : Nat} {ds : List D} {vs : List V}, Rps K G ds vs → Rps K G (ds.drop n) (vs.drop n)
  | 0, _, _, r => r
  | _ + 1, _, _, .nil => .nil
  | n + 1, _, _, .cons _ r => rps_drop (n := n) r
theorem rps_take {K : PySem.W.Frag} {G : Hp} : ∀ {n : Nat} {ds : List D} {vs : List V}, Rps K G ds vs → Rps K G (ds.take n) (vs.take n)
  | 0, _, _, _ => .nil
  | _ + 1, _, _, .nil => .nil
  | n + 1, _, _, .cons a r => .cons a (rps_take (n := n) r)
theorem cut_ok {K : PySem.W.Frag} {G : Hp} {ds : List D} {vs : List V} {lo hi : Option Int} (r : Rps K G ds vs) : Rps K G (cutD ds lo hi) (cutV vs lo hi) := by
  unfold cutD cutV
  rw [r.length]
  exact rps_take (rps_drop r)
theorem SlR_or {r r' : V → Option Int → Option Int → Hp → VK → Prop} (h : SlR X r) (h' : SlR X r') : SlR X (fun x l u H Q => r x l u H Q ∨ r' x l u H Q) := by
  intro pins s σ H x v vl vu lo hi sl Q I rx hs pl pu q
  rcases q with q | q
  · exact h pins s σ H x v vl vu lo hi sl Q I rx hs pl pu q
  · exact h' pins s σ H x v vl vu lo hi sl Q I rx hs pl pu q
noncomputable def oSlice (x : D) (lo hi : Option Int) (μ : Store) (P : D → Store → Prop) : Prop := match x with
  | .str s => s.length ≤ sizeLine ∧ P (.str (cutS s lo hi)) μ
  | .tup xs => P (.tup (cutD xs lo hi)) μ
  | .scr xs => P (.lst (cutD xs lo hi)) μ
  | d => match seqL μ d with | some xs => P (.lst (cutD xs lo hi)) μ | none => False
noncomputable def wSl (we : WE) (wl wh : WP) : WE := fun ρ μ P => we ρ μ fun x μ1 => wl ρ μ1 fun l μ2 => wh ρ μ2 fun u μ3 => oSlice x l u μ3 P
theorem de_sl {lo hi : Option Expr} {wl wh : WP} (h : DE X e we) (hl : DP X lo wl) (hh : DP X hi wh) : DE X (.Subscript e (.Slice lo hi none p2) pos) (wSl we wl wh) := by
  refine ⟨wkE (pe_slice (SlR_or sl_str (SlR_or sl_list sl_tupA)) h.p hl.p hh.p) fun σ H Q ⟨ρ, μ, G, P, he, hm, hw, ht⟩ => ⟨ρ, μ, G, _, he, hm, hw, fun x μ1 v H1 G1 p1 e1 m1 r1 => ⟨ρ, μ1, G1, _, he.mono e1, m1, p1, fun l μ2 H2 G2 p2 e2 m2 => ⟨ρ, μ2, G2, _, (he.mono e1).mono e2, m2, p2, fun u μ3 H3 G3 p3 e3 m3 => ?_⟩⟩⟩⟩
  have r3 := (r1.mono e2).mono e3
  have t3 := ht.mono ((e1.trans e2).trans e3)
  unfold oSlice at p3
  split at p3
  · cases r3
    exact .inl ⟨_, rfl, p3.1, t3 _ _ _ _ _ p3.2 (Ex.refl _) m3 (.str _)⟩
  · cases r3 with
    | tup h1 rr =>
      refine .inr (.inr ⟨_, _, rfl, h1.sq m3.ex, fun hw => ?_, fun _ => new_tup m3 (cut_ok rr) p3 t3⟩)
      refine t3 _ _ _ _ _ p3 (Ex.refl _) m3 ?_
      have ec : ∀ {ds : List D} {vs : List V}, Rps X.K G3 ds vs → HT.sIx vs.length 0 l = 0 ∧ HT.sIx vs.length vs.length u = vs.length → cutD ds l u = ds := fun {ds vs} rr hw => by
        unfold cutD
        rw [rr.length, hw.1, hw.2, List.drop_zero, Nat.sub_zero, ← rr.length, List.take_length]
      rw [ec rr hw]
      exact .tup h1 rr
  · cases r3 with
    | scr h1 rr => exact .inr (.inl ⟨_, _, rfl, h1.sq m3.ex, new_lst m3 (cut_ok rr) p3 t3⟩)
  · split at p3
    · rename_i xs hx
      obtain ⟨a, ws, rfl, h2, rr⟩ := seqL_ok hx m3 r3
      exact .inr (.inl ⟨_, _, rfl, SqL.of h2, new_lst m3 (cut_ok rr) p3 t3⟩)
    · exact p3.elim
end
section
variable {X : Cx} {e : Expr} {we : WE} {pos : Pos}
noncomputable def wFmt (we : WE) : WE := fun ρ μ P => we ρ μ fun d μ1 => match d with
  | .str s => s.length ≤ sizeLine ∧ P (.str s) μ1
  | .int i => i.natAbs.log2 < 1920 ∧ P (.str (Str.ofString (toString i))) μ1
  | _ => False
theorem de_fmt (h : DE X e we) : DE X (.FormattedValue e (-1) none pos) (wFmt we) := ⟨wkE (pe_fmt h.p) fun σ H Q ⟨ρ, μ, G, P, he, hm, hw, ht⟩ => ⟨ρ, μ, G, _, he, hm, hw, fun d μ1 v H1 G1 p e m r => by
  cases d with
  | str s => cases r; exact .inl ⟨_, rfl, p.1, ht _ _ _ _ _ p.2 e m (.str _)⟩
  | int i => cases r; exact .inr ⟨_, rfl, p.1, ht _ _ _ _ _ p.2 e m (.str _)⟩
  | _ => exact p.elim⟩⟩
inductive DJ (X : Cx) : List Expr → List WE → Prop where
  | nil : DJ X [] []
  | cons {e : Expr} {w : WE} {es : List Expr} {ws : List WE} (h : DE X e w) (r : DJ X es ws) : DJ X (e :: es) (w :: ws)
theorem DJ.pj : ∀ {es : List Expr} {ws : List WE}, DJ X es ws → PJ X es (ws.map (LE X.K))
  | _, _, .nil => .nil
  | _, _, .cons h r => .cons h.p r.pj
noncomputable def wJs : List WE → Str → Env → Store → (D → Store → Prop) → Prop
  | [], acc, _, μ, P => P (.str acc) μ
  | w :: ws, acc, ρ, μ, P => w ρ μ fun d μ1 => match d with | .str y => (acc ++ y).length ≤ sizeLine ∧ wJs ws (acc ++ y) ρ μ1 P | _ => False
theorem wjs_ok {K : PySem.W.Frag} : ∀ {ws : List WE} {acc : Str} {ρ : Env} {μ : Store} {G H : Hp} {σ : L2.St} {P : D → Store → Prop} {Q : VK}, EnvR K G ρ σ → Sm K μ G H → wJs ws acc ρ μ P → Tells K G P Q → tJs (ws.map (LE K)) acc σ H fun out H1 => Q (.str out) H1
  | [], acc, ρ, μ, G, H, σ, P, Q, he, hm, hw, ht => ht _ _ _ _ _ hw (Ex.refl _) hm (.str _)
  | w :: ws, acc, ρ, μ, G, H, σ, P, Q, he, hm, hw, ht => ⟨ρ, μ, G, _, he, hm, hw, fun d μ1 v H1 G1 p e m r => by
    cases d with
    | str y => cases r; exact ⟨y, rfl, p.1, wjs_ok (he.mono e) m p.2 (ht.mono e)⟩
    | _ => exact p.elim⟩
noncomputable def wJoin (ws : List WE) : WE := fun ρ μ P => wJs ws Str.empty ρ μ P
theorem de_joined {v1 v2 : Expr} {rest : List Expr} {ws : List WE} (h : DJ X (v1 :: v2 :: rest) ws) : DE X (.JoinedStr (v1 :: v2 :: rest) pos) (wJoin ws) := ⟨wkE (pe_joined h.pj) fun σ H Q ⟨ρ, μ, G, P, he, hm, hw, ht⟩ => wjs_ok he hm hw ht⟩
theorem de_joined1 (h : DE X e we) : DE X (.JoinedStr [e] pos) we := ⟨pe_joined1 h.p⟩
end
section
variable {X : Cx}
theorem de_gs {x z : Str} {p : Pos} (h : ∃ t, X.mg x = some (.str z t)) (hg : Gl X x := by rfl) (hd : (x == ("__debug__" : Str)) = false := by decide) : DE X (.Name x p) (wC (.str z)) := by
  obtain ⟨t, h⟩ := h
  exact de_c (pe_glob hg h (show RelV (.str z) (.str z t) from ⟨t, rfl⟩) hd) fun _ => .str z
theorem de_gi {x : Str} {z : Int} {p : Pos} (h : ∃ t, X.mg x = some (.int z t)) (hg : Gl X x := by rfl) (hd : (x == ("__debug__" : Str)) = false := by decide) : DE X (.Name x p) (wC (.int z)) := by
  obtain ⟨t, h⟩ := h
  exact de_c (pe_glob hg h (show RelV (.int z) (.int z t) from ⟨t, rfl⟩) hd) fun _ => .int z
end
section
variable {X : Cx} {pos : Pos}
noncomputable def wPairs : List (WE × WE) → Env → Store → (List (D × D) → Store → Prop) → Prop
  | [], _, μ, P => P [] μ
  | (wk, wv) :: r, ρ, μ, P => wk ρ μ fun x μ1 => wv ρ μ1 fun y μ2 => wPairs r ρ μ2 fun ps μ3 => P ((x, y) :: ps) μ3
noncomputable def keysD : List (D × D) → Option (List (Key × D))
  | [] => some []
  | (k, v) :: r => match keyD k, keysD r with | some k, some r => some ((k, v) :: r) | _, _ => none
noncomputable def mergeD (kvs more : List (Key × D)) : List (Key × D) := more.foldl (fun acc kv => putD acc kv.1 kv.2) kvs
noncomputable def wDisp (ws : List (WE × WE)) : WE := fun ρ μ P => ∀ p, μ p = none → wPairs ws ρ (setS μ p (.dct [])) fun ps μ2 => μ2 p = some (.dct []) ∧ ∃ kvs, keysD ps = some kvs ∧ kvs.length ≤ 15 ∧ P (.dct (mergeD [] kvs)) (delS μ2 p)
end
end Dl
namespace Dl
open PySem L2
section
variable {X : Cx}
noncomputable def lcBody2 (its : List D) (g : WG) (tt : WT) (wi1 : WI) (g1 : WG) (tt1 : WT) (te : WE) (vs vs1 : List Nat) (fin : Addr → List D → Store → Prop) (ρ : Env) (μ1 : Store) : Prop := ∀ L, μ1 L = none → ∃ I : Nat → List D → Store → Prop, I 0 [] (setS μ1 L (.lst [])) ∧
  (∀ i d acc μ', its[i]? = some d → μ' L = some (.lst acc) → I i acc μ' → g d (wipeE ρ vs) μ' fun ρ2 μ2 => tt ρ2 μ2 fun b μ3 => if b = true then wi1 ρ2 μ3 fun its1 μ4 => ∃ (I1 : Nat → List D → Store → Prop) (acc4 : List D), μ4 L = some (.lst acc4) ∧ I1 0 acc4 μ4 ∧
      (∀ j d1 acc1 μ5, its1[j]? = some d1 → μ5 L = some (.lst acc1) → I1 j acc1 μ5 → g1 d1 (wipeE ρ2 vs1) μ5 fun ρ6 μ6 => tt1 ρ6 μ6 fun b μ7 => if b = true then te ρ6 μ7 fun y μ8 => ∃ acc8, μ8 L = some (.lst acc8) ∧ acc8.length < sizeLine ∧ I1 (j + 1) (acc8 ++ [y]) (setS μ8 L (.lst (acc8 ++ [y])))
        else ∃ acc7, μ7 L = some (.lst acc7) ∧ I1 (j + 1) acc7 μ7) ∧
      (∀ acc μ', μ' L = some (.lst acc) → I1 its1.length acc μ' → I (i + 1) acc μ')
    else ∃ acc3, μ3 L = some (.lst acc3) ∧ I (i + 1) acc3 μ3) ∧
  ∀ acc μ', μ' L = some (.lst acc) → I its.length acc μ' → fin L acc μ'
noncomputable def wLcG2 (wi : WI) (g : WG) (tt : WT) (wi1 : WI) (g1 : WG) (tt1 : WT) (te : WE) (vs vs1 : List Nat) (fin : Addr → List D → Store → Prop) : Env → Store → Prop := fun ρ μ => wi ρ μ fun its μ1 => lcBody2 its g tt wi1 g1 tt1 te vs vs1 fin ρ μ1
noncomputable def wLc2 (wi : WI) (g : WG) (tt : WT) (wi1 : WI) (g1 : WG) (tt1 : WT) (te : WE) (vs vs1 : List Nat) : WE := fun ρ μ P => wLcG2 wi g tt wi1 g1 tt1 te vs vs1 (fun L acc μ' => P (.lst acc) (delS μ' L)) ρ μ
noncomputable def wLc2M (wi : WI) (g : WG) (tt : WT) (wi1 : WI) (g1 : WG) (tt1 : WT) (te : WE) (vs vs1 : List Nat) : WE := fun ρ μ P => wLcG2 wi g tt wi1 g1 tt1 te vs vs1 (fun L acc μ' => P (.ref L) μ') ρ μ
variable {elt tg iter tg1 iter1 : Expr} {ifs ifs1 : List Expr} {scope : Scope} {own : List (Str × Nat)} {vs1 : List Nat} {pos : Pos} {wi wi1 : WI} {g g1 : TG} {wg wg1 : WG} {tt tt1 : WT} {te : WE}
end
end Dl
namespace Dl
open PySem L2
end Dl
namespace Dl
open PySem L2
structure Enc (α : Type) [DecidableEq α] where
  enc : α → D
  py : α → PyData
  ok : ∀ a, pyD (enc a) = some (py a)
  lay : ∀ a, (py a).canLay0 = true
  n : Nat
  dep : ∀ a, (py a).depth ≤ n
  eqv : ∀ a b, PyData.eqv (py a) (py b) = decide (a = b)
theorem enc_shaped {α : Type} [DecidableEq α] (E : Enc α) (h : E.n ≤ 64) (a : α) : SeqAt.shaped (E.py a) = true := by
  unfold SeqAt.shaped
  rw [E.lay, decide_eq_true (Nat.le_trans (E.dep a) h)]
  rfl
theorem encs_ok {α : Type} [DecidableEq α] (E : Enc α) : ∀ as : List α, pyDs (as.map E.enc) = some (as.map E.py)
  | [] => by rw [List.map_nil, List.map_nil, pyDs]
  | a :: as => by rw [List.map_cons, pyDs, E.ok, encs_ok E as]; rfl
theorem encs_lay {α : Type} [DecidableEq α] (E : Enc α) : ∀ as : List α, PyData.canLayAll0 (as.map E.py) = true
  | [] => by rw [List.map_nil, PyData.canLayAll0]
  | a :: as => by rw [List.map_cons, PyData.canLayAll0, E.lay, encs_lay E as]; rfl
theorem encs_dep {α : Type} [DecidableEq α] (E : Enc α) : ∀ as : List α, PyData.depthAll (as.map E.py) ≤ E.n
  | [] => by rw [List.map_nil, PyData.depthAll]; exact Nat.zero_le _
  | a :: as => by rw [List.map_cons, PyData.depthAll]; exact Nat.max_le.mpr ⟨E.dep a, encs_dep E as⟩
theorem encs_eqv {α : Type} [DecidableEq α] (E : Enc α) : ∀ as bs : List α, PyData.eqvAll (as.map E.py) (bs.map E.py) = decide (as = bs)
  | [], [] => by simp [PyData.eqvAll]
  | [], b :: bs => by simp [PyData.eqvAll]
  | a :: as, [] => by simp [PyData.eqvAll]
  | a :: as, b :: bs => by
    rw [List.map_cons, List.map_cons, PyData.eqvAll, E.eqv, encs_eqv E as bs]
    by_cases h : a = b <;> by_cases k : as = bs <;> simp [h, k]
noncomputable def eNat : Enc Nat := ⟨fun n => .int n, fun n => .int n, fun _ => by rw [pyD], fun _ => by rw [PyData.canLay0], 0, fun _ => by rw [PyData.depth]; exact Nat.le_refl _, fun a b => by
  rw [PyData.eqv]
  by_cases h : a = b
  · simp [h]
  · have : ¬ ((a : Int) = (b : Int)) := by omega
    simp [h, this]⟩
noncomputable def eTup {α : Type} [DecidableEq α] (E : Enc α) : Enc (List α) := ⟨fun as => .tup (as.map E.enc), fun as => .tuple (as.map E.py), fun as => by rw [pyD, encs_ok]; rfl, fun as => by rw [PyData.canLay0]; exact encs_lay E as, E.n + 1,
  fun as => by rw [PyData.depth]; exact Nat.succ_le_succ (encs_dep E as), fun as bs => by rw [PyData.eqv]; exact encs_eqv E as bs⟩
noncomputable def eLst {α : Type} [DecidableEq α] (E : Enc α) : Enc (List α) := ⟨fun as => .lst (as.map E.enc), fun as => .list (as.map E.py), fun as => by rw [pyD, encs_ok]; rfl, fun as => by rw [PyData.canLay0]; exact encs_lay E as, E.n + 1,
  fun as => by rw [PyData.depth]; exact Nat.succ_le_succ (encs_dep E as), fun as bs => by rw [PyData.eqv]; exact encs_eqv E as bs⟩
noncomputable def ePair {α β : Type} [DecidableEq α] [DecidableEq β] (E : Enc α) (F : Enc β) : Enc (α × β) := ⟨fun p => .tup [E.enc p.1, F.enc p.2], fun p => .tuple [E.py p.1, F.py p.2], fun p => by rw [pyD, pyDs, E.ok, pyDs, F.ok, pyDs]; rfl,
  fun p => by rw [PyData.canLay0, PyData.canLayAll0, E.lay, PyData.canLayAll0, F.lay, PyData.canLayAll0]; rfl, max E.n F.n + 1,
  fun p => by
    rw [PyData.depth, PyData.depthAll, PyData.depthAll, PyData.depthAll]
    have h1 := E.dep p.1
    have h2 := F.dep p.2
    omega,
  fun p q => by
    rw [PyData.eqv, PyData.eqvAll, E.eqv, PyData.eqvAll, F.eqv, PyData.eqvAll]
    obtain ⟨a, b⟩ := p
    obtain ⟨c, d⟩ := q
    by_cases h : a = c <;> by_cases k : b = d <;> simp [h, k]⟩
/-- == and != over plain values -/
theorem oEq_enc {α : Type} [DecidableEq α] (E : Enc α) (h : E.n ≤ 64) (a b : α) (hs : scD (E.enc a) (E.enc b) = none) (μ : Store) (P : D → Store → Prop) (hr : ∀ x : α, ∀ p, E.enc x ≠ .ref p) : oEq (E.enc a) (E.enc b) μ P = P (.bl (decide (a = b))) μ := by
  have e1 : ∀ x, pyS μ (E.enc x) = some (E.py x) := fun x => by
    have := E.ok x
    unfold pyS
    cases q : E.enc x with
    | ref p => exact absurd q (hr x p)
    | _ => rw [q] at this; exact this
  unfold oEq
  rw [hs, e1, e1]
  dsimp only
  rw [enc_shaped E h, enc_shaped E h, E.eqv]
  simp
theorem oNe_enc {α : Type} [DecidableEq α] (E : Enc α) (h : E.n ≤ 64) (a b : α) (hs : scD (E.enc a) (E.enc b) = none) (μ : Store) (P : D → Store → Prop) (hr : ∀ x : α, ∀ p, E.enc x ≠ .ref p) : oNe (E.enc a) (E.enc b) μ P = P (.bl (!decide (a = b))) μ := by
  have e1 : ∀ x, pyS μ (E.enc x) = some (E.py x) := fun x => by
    have := E.ok x
    unfold pyS
    cases q : E.enc x with
    | ref p => exact absurd q (hr x p)
    | _ => rw [q] at this; exact this
  unfold oNe
  rw [hs, e1, e1]
  dsimp only
  rw [enc_shaped E h, enc_shaped E h, E.eqv]
  simp
theorem oEq_lst {α : Type} [DecidableEq α] (E : Enc α) (h : E.n + 1 ≤ 64) (a b : List α) (μ : Store) (P : D → Store → Prop) : oEq (.lst (a.map E.enc)) (.lst (b.map E.enc)) μ P = P (.bl (decide (a = b))) μ := oEq_enc (eLst E) h a b rfl μ P fun _ _ z => nomatch z
theorem oNe_lst {α : Type} [DecidableEq α] (E : Enc α) (h : E.n + 1 ≤ 64) (a b : List α) (μ : Store) (P : D → Store → Prop) : oNe (.lst (a.map E.enc)) (.lst (b.map E.enc)) μ P = P (.bl (!decide (a = b))) μ := oNe_enc (eLst E) h a b rfl μ P fun _ _ z => nomatch z
section
variable {X : Cx}
noncomputable def oPopAt : OM := fun x ds μ P => match x, ds with
  | .ref a, [.int i] => (match μ a with
    | some (.lst xs) => (-(2 ^ 63) ≤ i ∧ i < 2 ^ 63) ∧ ∃ k y, seqIndex? i xs.length = some k ∧ xs[k]? = some y ∧ P y (setS μ a (.lst (xs.eraseIdx k)))
    | _ => False)
  | _, _ => False
theorem rps_erase {K : PySem.W.Frag} {G : Hp} : ∀ {k : Nat} {ds : List D} {vs : List V}, Rps K G ds vs → Rps K G (ds.eraseIdx k) (vs.eraseIdx k)
  | _, _, _, .nil => by simp; exact .nil
  | 0, _, _, .cons _ r => r
  | k + 1, _, _, .cons a r => .cons a (rps_erase (k := k) r)
theorem bm_popat : BMok X "pop" "list" oPopAt := ⟨_, _, F.plainAttrs_list, F.slot_list_pop, F.type_list_pop, mt_popAt, fun {x ds μ P G H v vs Q} h m rx rs t => by
  unfold oPopAt at h
  split at h
  · rename_i a i
    cases rx
    cases rs with | cons r1 r2 =>
    cases r1
    cases r2
    cases q : μ a with
    | none => rw [q] at h; exact h.elim
    | some c =>
      rw [q] at h
      cases c with
      | lst xs =>
        obtain ⟨h0, ws, h1, r⟩ := m.st a _ q
        obtain ⟨⟨b1, b2⟩, k, y, hk, hy, p⟩ := h
        obtain ⟨v, hv, rv⟩ := r.getL hy
        exact ⟨a, ws, i, k, v, rfl, rfl, h1, b1, b2, by rw [← r.length]; exact hk, hv, t _ _ _ _ _ p (Ex.refl _) (m.write h0 ⟨_, upd_same, rps_erase r⟩) rv⟩
      | _ => exact h.elim
  · exact h.elim⟩
end
end Dl
namespace Dl
open PySem L2
section
variable {P : Program} {w : World} {K : PySem.W.Frag} {mg : Str → Option Value} {base : Heap}
/-- a def of the text with its defaults dsV -/
structure FnAt (K : PySem.W.Frag) (x qual : Str) (st : Stmt) (dsV : List Value) (f : Addr) (fd : FuncData) : Prop where
  ex : ∃ (oc : Value) (od : Option Addr) (dV kV doc pm : Value) (an : Option Addr) (cdv ct : Value) (osl : Array (Option Value)), fd = PySem.W.fnOf x qual (defArgs st) (defBody st) (defScope st) dV kV doc pm an cdv ct ∧
    K.lookup f = some ⟨oc, od, .func fd, osl⟩ ∧ PySem.W.codeIn K cdv qual = true ∧ ((dsV = [] ∧ dV = .none) ∨ dsV ≠ [] ∧ ∃ (T : Addr) (o : Obj) (n : Nat), dV = .ref T ∧ K.lookup T = some o ∧ o.data = .seq dsV.toArray n)
theorem FnAt.mk0 {x qual : Str} {st : Stmt} {f : Addr} {oc : Value} {od an : Option Addr} {osl : Array (Option Value)} {kV doc pm cdv ct : Value} (l : K.lookup f = some ⟨oc, od, .func (PySem.W.fnOf x qual (defArgs st) (defBody st) (defScope st) .none kV doc pm an cdv ct), osl⟩) (c : PySem.W.codeIn K cdv qual = true) :
    FnAt K x qual st [] f (PySem.W.fnOf x qual (defArgs st) (defBody st) (defScope st) .none kV doc pm an cdv ct) := ⟨⟨oc, od, .none, kV, doc, pm, an, cdv, ct, osl, rfl, l, c, .inl ⟨rfl, rfl⟩⟩⟩
theorem FnAt.mkD {x qual : Str} {st : Stmt} {f T : Addr} {oc tc : Value} {od an td : Option Addr} {osl tsl : Array (Option Value)} {kV doc pm cdv ct : Value} {dsV : List Value} {n : Nat}
    (l : K.lookup f = some ⟨oc, od, .func (PySem.W.fnOf x qual (defArgs st) (defBody st) (defScope st) (.ref T) kV doc pm an cdv ct), osl⟩) (c : PySem.W.codeIn K cdv qual = true) (d : K.lookup T = some ⟨tc, td, .seq dsV.toArray n, tsl⟩) (hne : dsV ≠ []) :
    FnAt K x qual st dsV f (PySem.W.fnOf x qual (defArgs st) (defBody st) (defScope st) (.ref T) kV doc pm an cdv ct) := ⟨⟨oc, od, .ref T, kV, doc, pm, an, cdv, ct, osl, rfl, l, c, .inr ⟨hne, T, _, n, rfl, d, rfl⟩⟩⟩
theorem FnAt.ok {x qual : Str} {st : Stmt} {dsV : List Value} {f : Addr} {fd : FuncData} {N ps : List Str} {k : Nat} {d : DSp} {ws : WS} (F : FnAt K x qual st dsV f fd) (S : FnScope N ps (defScope st)) (len : ∀ ds μ Q, d ds μ Q → ds.length = ps.length)
    (hb : ∀ (cdv : Value) (A : Around) (outer : List PySem.Env) (s : Shared) (H : Hp) (E : XK), Room k (A.deeper (PyProof.Rows.envOfC qual (defScope st) s.heap.objs.size f cdv)) → DSs (cxOf CX0 P w K mg base N qual (defScope st) f cdv A outer s H E).nox (defBody st) ws)
    (ok : ∀ ds μ Q, d ds μ Q → ws { nx := fun _ μ' => ∃ μ2, Sub μ2 μ' ∧ Q .non μ2, rt := Q } (startD N ds) μ) : FnOk P w K mg base CX0 (k + 1) f fd ps (LSp K d) := by
  obtain ⟨oc, od, dV, kV, doc, pm, an, cdv, ct, osl, rfl, lk, hcd, _⟩ := F.ex
  refine fn_of lk hcd S (fun vs H Q E ⟨ds, μ, G, R, r, m, h, t⟩ => by rw [← r.length]; exact len _ _ _ h) fun A outer s H vs Q E hr ⟨ds, μ, G, R, r, m, h, t⟩ => ?_
  exact ⟨_, (hb cdv A outer s H E hr).p.nox, startD N ds, μ, G, _, env_start r, m, ok ds μ R h, ⟨fun ρ' μ' σ' H' G' ⟨μ2, sb, p⟩ e _ m' => t _ _ _ _ _ p e (m'.sub sb) .non, fun d μ' v H' G' p e m' r' => t _ _ _ _ _ p e m' r', fun _ _ _ _ _ p => p.elim, fun _ _ _ _ _ p => p.elim⟩⟩
theorem FnAt.binds0 {x qual : Str} {st : Stmt} {f : Addr} {fd : FuncData} {ps : List Str} (F : FnAt K x qual st [] f fd) (h : ∀ (kV doc pm : Value) (an : Option Addr) (cdv ct : Value) (us : List Value), us.length = ps.length → bindArgs (PySem.W.fnOf x qual (defArgs st) (defBody st) (defScope st) .none kV doc pm an cdv ct) ⟨us, []⟩ = pure (ps.zip us)) : Binds K fd ps [] := by
  obtain ⟨oc, od, dV, kV, doc, pm, an, cdv, ct, osl, rfl, lk, hcd, e⟩ := F.ex
  intro s us X hl
  rw [List.append_nil] at hl ⊢
  rcases e with ⟨_, rfl⟩ | ⟨e, _⟩
  · exact .of_eq (h kV doc pm an cdv ct us hl)
  · exact (e rfl).elim
theorem FnAt.binds {x qual : Str} {st : Stmt} {dsV ds : List Value} {f : Addr} {fd : FuncData} {ps : List Str} (n : Nat) (F : FnAt K x qual st dsV f fd) (hne : dsV ≠ []) (hn : ps.length = n + ds.length) (h : ∀ (T : Addr) (kV doc pm : Value) (an : Option Addr) (cdv ct : Value) (us : List Value), us.length = n →
      ∃ k, bindArgs (PySem.W.fnOf x qual (defArgs st) (defBody st) (defScope st) (.ref T) kV doc pm an cdv ct) ⟨us, []⟩ = (seqItems? (.ref T) >>= k) ∧ k (some dsV.toArray) = pure (ps.zip (us ++ ds))) : Binds K fd ps ds := by
  obtain ⟨oc, od, dV, kV, doc, pm, an, cdv, ct, osl, rfl, lk, hcd, e⟩ := F.ex
  intro s us X hl
  rcases e with ⟨e, _⟩ | ⟨_, T, o, n, rfl, hT2, hd⟩
  · exact (hne e).elim
  · obtain ⟨k, h1, h2⟩ := h T kV doc pm an cdv ct us (by rw [List.length_append] at hl; omega)
    exact PySem.W.binds_K X rfl hT2 hd h1 h2
/-- .. under its name -/
structure DefD (K : PySem.W.Frag) (mg : Str → Option Value) (x : Str) (st : Stmt) (dsV : List Value) : Prop where
  ex : ∃ (f : Addr) (fd : FuncData), FnAt K x x st dsV f fd ∧ mg x = some (.ref f) ∧ PySem.W.keepIn K (.ref f) = true
/-- a method of a class -/
structure MetAt (K : PySem.W.Frag) (C : Addr) (m qual : Str) (st : Stmt) (dsV : List Value) : Prop where
  ex : ∃ (f : Addr) (fd : FuncData), Meth K C m f ∧ FnAt K m qual st dsV f fd
structure ClsAt (K : PySem.W.Frag) (mg : Str → Option Value) (x : Str) (C : Addr) : Prop where
  cl : Cls K C
  g : mg x = some (.ref C)
  mks : PySem.W.makesIn K C = true
  kp : PySem.W.keepIn K (.ref C) = true
structure DMak (P : Program) (w : World) (K : PySem.W.Frag) (mg : Str → Option Value) (base : Heap) (k : Nat) (x : Str) (C : Addr) (d : DSp) (dds : List D) : Prop where
  ex : ∃ (f : Addr) (fd : FuncData) (ps : List Str) (ds : List Value) (dvs : List V), Mk K C f ∧ FnOk P w K mg base CX0 k f fd ps (LSp K d) ∧ mg x = some (.ref C) ∧ Binds K fd ps ds ∧ Vals dvs ds ∧ ∀ G, Rps K G dds dvs
structure DMet (P : Program) (w : World) (K : PySem.W.Frag) (mg : Str → Option Value) (base : Heap) (k : Nat) (C : Addr) (m : Str) (d : DSp) (dds : List D) : Prop where
  ex : ∃ (f : Addr) (fd : FuncData) (ps : List Str) (ds : List Value) (dvs : List V), Cls K C ∧ Meth K C m f ∧ FnOk P w K mg base CX0 k f fd ps (LSp K d) ∧ Binds K fd ps ds ∧ Vals dvs ds ∧ ∀ G, Rps K G dds dvs
end
section
variable {X : Cx} {j k : Nat} {x m : Str} {C : Addr} {d : DSp} {dds : List D} {p pos apos : Pos} {e o : Expr} {es : List Expr} {wa : WA} {wo : WE}
theorem de_mak (c : DMak X.prog X.w X.K X.mg X.base k x C d dds) (hr : Room j X.A) (hk : k + 1 ≤ j) (hg : Gl X x) (ha : DA X (e :: es) wa) (hdb : (x == ("__debug__" : Str)) = false := by decide)
    (he : starEach (e :: es) X.env = (false, eval e X.env) :: starEach es X.env := by rfl) (hpl : (backTo pos (starEach es X.env)).any (·.1) = false := by rfl) : DE X (.Call (.Name x p) (e :: es) [] pos) (wMake C d dds wa) := by
  obtain ⟨f, fd, ps, ds, dvs, M, F, m, b, vd, rd⟩ := c.ex
  exact de_make M F (hr.mono hk) hg m b vd rd ha hdb he hpl
theorem de_mak0 (c : DMak X.prog X.w X.K X.mg X.base k x C d dds) (hr : Room j X.A) (hk : k + 1 ≤ j) (hg : Gl X x) (hdb : (x == ("__debug__" : Str)) = false := by decide) : DE X (.Call (.Name x p) [] [] pos) (wMake C d dds wANil) := by
  obtain ⟨f, fd, ps, ds, dvs, M, F, m, b, vd, rd⟩ := c.ex
  exact de_make0 M F (hr.mono hk) hg m b vd rd hdb
theorem de_makM (c : DMak X.prog X.w X.K X.mg X.base k x C d dds) (hr : Room j X.A) (hk : k + 1 ≤ j) (hg : Gl X x) (ha : DA X (e :: es) wa) (hdb : (x == ("__debug__" : Str)) = false := by decide)
    (he : starEach (e :: es) X.env = (false, eval e X.env) :: starEach es X.env := by rfl) (hpl : (backTo pos (starEach es X.env)).any (·.1) = false := by rfl) : DE X (.Call (.Name x p) (e :: es) [] pos) (wMakeM C d dds wa) := by
  obtain ⟨f, fd, ps, ds, dvs, M, F, m, b, vd, rd⟩ := c.ex
  exact de_makeM M F (hr.mono hk) hg m b vd rd ha hdb he hpl
theorem de_mak0M (c : DMak X.prog X.w X.K X.mg X.base k x C d dds) (hr : Room j X.A) (hk : k + 1 ≤ j) (hg : Gl X x) (hdb : (x == ("__debug__" : Str)) = false := by decide) : DE X (.Call (.Name x p) [] [] pos) (wMakeM C d dds wANil) := by
  obtain ⟨f, fd, ps, ds, dvs, M, F, m, b, vd, rd⟩ := c.ex
  exact de_make0M M F (hr.mono hk) hg m b vd rd hdb
theorem de_met {pl : Sem Bool} (c : DMet X.prog X.w X.K X.mg X.base k C m d dds) (hr : Room j X.A) (hk : k ≤ j) (ho : DE X o wo) (ha : DA X (e :: es) wa)
    (hst : starEach (e :: es) X.env = (false, eval e X.env) :: starEach es X.env := by rfl) (hpl : (backTo pos (starEach es X.env)).any (·.1) = false := by rfl)
    (ht : eval (.Call (.Attribute o m apos) (e :: es) [] pos) X.env = (do
      let ov ← eval o X.env
      standAt apos.atName
      let (f, first) ← holding [ov] (getMethod ov m pl)
      callWith pos f first (backTo pos (starEach (e :: es) X.env)) (backToKw pos (keywordEach [] X.env))) := by rfl) : DE X (.Call (.Attribute o m apos) (e :: es) [] pos) (wMeth C m d dds wo wa) := by
  obtain ⟨f, fd, ps, ds, dvs, hc, hm, F, b, vd, rd⟩ := c.ex
  exact de_meth (pl := pl) ho hc hm F (hr.mono hk) b vd rd ha hst hpl ht
theorem de_met0 {pl : Sem Bool} (c : DMet X.prog X.w X.K X.mg X.base k C m d dds) (hr : Room j X.A) (hk : k ≤ j) (ho : DE X o wo)
    (ht : eval (.Call (.Attribute o m apos) [] [] pos) X.env = (do
      let ov ← eval o X.env
      standAt apos.atName
      let (f, first) ← holding [ov] (getMethod ov m pl)
      callWith pos f first (backTo pos (starEach [] X.env)) (backToKw pos (keywordEach [] X.env))) := by rfl) : DE X (.Call (.Attribute o m apos) [] [] pos) (wMeth C m d dds wo wANil) := by
  obtain ⟨f, fd, ps, ds, dvs, hc, hm, F, b, vd, rd⟩ := c.ex
  exact de_meth0 (pl := pl) ho hc hm F (hr.mono hk) b vd rd ht
/-- a class by its name -/
theorem de_cls {x : Str} {C : Addr} {p : Pos} (c : ClsAt X.K X.mg x C) (hg : Gl X x := by rfl) (hd : (x == ("__debug__" : Str)) = false := by decide) : DE X (.Name x p) (wC (.ref C)) := de_c (pe_glob hg c.g (show RelV (.ref C) (.ref C) from rfl) hd) fun _ => .ref C
/-- a tuple of texts that the top holds -/
theorem de_gt {x : Str} {ys : List Str} {p : Pos} (h : ∃ (T : Addr) (o : Obj) (n : Nat) (us : List Value), X.mg x = some (.ref T) ∧ X.K.lookup T = some o ∧ o.cls = .type "tuple" ∧ o.data = .seq us.toArray n ∧ Vals (ys.map V.str) us ∧ us.length ≤ sizeLine) (hg : Gl X x := by rfl) (hd : (x == ("__debug__" : Str)) = false := by decide) :
    DE X (.Name x p) (wC (.tup (ys.map .str))) := by
  obtain ⟨T, o, n, us, hm, hT, hc, hda, hv, hz⟩ := h
  have rps : ∀ (G : Hp) (ys : List Str), Rps X.K G (ys.map D.str) (ys.map V.str) := fun G ys => by
    induction ys with
    | nil => exact .nil
    | cons y r ih => exact .cons (.str y) ih
  exact de_c (pe_glob hg hm (show RelV (.ref T) (.ref T) from rfl) hd) fun G => .tup (.inr ⟨o, us.toArray, n, hT, hc, hda, by simpa using hz, by simpa using hv⟩) (rps G ys)
end
section
variable {P : Program} {w : World} {K : PySem.W.Frag} {mg : Str → Option Value} {base : Heap}
theorem DefD.cal {x : Str} {st : Stmt} {dsV ds : List Value} {dvs : List V} {dds : List D} {N ps : List Str} {k : Nat} {d : DSp} {ws : WS} (D : DefD K mg x st dsV) (S : FnScope N ps (defScope st)) (len : ∀ ds μ Q, d ds μ Q → ds.length = ps.length)
    (hb : ∀ {f : Addr} (cdv : Value) (A : Around) (outer : List PySem.Env) (s : Shared) (H : Hp) (E : XK), Room k (A.deeper (PyProof.Rows.envOfC x (defScope st) s.heap.objs.size f cdv)) → DSs (cxOf CX0 P w K mg base N x (defScope st) f cdv A outer s H E).nox (defBody st) ws)
    (ok : ∀ ds μ Q, d ds μ Q → ws { nx := fun _ μ' => ∃ μ2, Sub μ2 μ' ∧ Q .non μ2, rt := Q } (startD N ds) μ) (b : ∀ {f fd}, FnAt K x x st dsV f fd → Binds K fd ps ds) (vd : Vals dvs ds) (rd : ∀ G, Rps K G dds dvs) : DCal P w K mg base (k + 1) x d dds := by
  obtain ⟨f, fd, F, m, kp⟩ := D.ex
  exact ⟨f, fd, ps, ds, dvs, F.ok S len (hb (f := f)) ok, m, kp, b F, vd, rd⟩
theorem MetAt.met {C : Addr} {m qual : Str} {st : Stmt} {dsV ds : List Value} {dvs : List V} {dds : List D} {N ps : List Str} {k : Nat} {d : DSp} {ws : WS} (D : MetAt K C m qual st dsV) (c : Cls K C) (S : FnScope N ps (defScope st)) (len : ∀ ds μ Q, d ds μ Q → ds.length = ps.length)
    (hb : ∀ {f : Addr} (cdv : Value) (A : Around) (outer : List PySem.Env) (s : Shared) (H : Hp) (E : XK), Room k (A.deeper (PyProof.Rows.envOfC qual (defScope st) s.heap.objs.size f cdv)) → DSs (cxOf CX0 P w K mg base N qual (defScope st) f cdv A outer s H E).nox (defBody st) ws)
    (ok : ∀ ds μ Q, d ds μ Q → ws { nx := fun _ μ' => ∃ μ2, Sub μ2 μ' ∧ Q .non μ2, rt := Q } (startD N ds) μ) (b : ∀ {f fd}, FnAt K m qual st dsV f fd → Binds K fd ps ds) (vd : Vals dvs ds) (rd : ∀ G, Rps K G dds dvs) : DMet P w K mg base (k + 1) C m d dds := by
  obtain ⟨f, fd, me, F⟩ := D.ex
  exact ⟨f, fd, ps, ds, dvs, c, me, F.ok S len (hb (f := f)) ok, b F, vd, rd⟩
theorem MetAt.mak {x : Str} {C : Addr} {qual : Str} {st : Stmt} {dsV ds : List Value} {dvs : List V} {dds : List D} {N ps : List Str} {k : Nat} {d : DSp} {ws : WS} (D : MetAt K C "__init__" qual st dsV) (c : ClsAt K mg x C) (S : FnScope N ps (defScope st)) (len : ∀ ds μ Q, d ds μ Q → ds.length = ps.length)
    (hb : ∀ {f : Addr} (cdv : Value) (A : Around) (outer : List PySem.Env) (s : Shared) (H : Hp) (E : XK), Room k (A.deeper (PyProof.Rows.envOfC qual (defScope st) s.heap.objs.size f cdv)) → DSs (cxOf CX0 P w K mg base N qual (defScope st) f cdv A outer s H E).nox (defBody st) ws)
    (ok : ∀ ds μ Q, d ds μ Q → ws { nx := fun _ μ' => ∃ μ2, Sub μ2 μ' ∧ Q .non μ2, rt := Q } (startD N ds) μ) (b : ∀ {f fd}, FnAt K "__init__" qual st dsV f fd → Binds K fd ps ds) (vd : Vals dvs ds) (rd : ∀ G, Rps K G dds dvs) : DMak P w K mg base (k + 1) x C d dds := by
  obtain ⟨f, fd, me, F⟩ := D.ex
  exact ⟨f, fd, ps, ds, dvs, ⟨c.mks, me.at_, me.fn, c.kp⟩, F.ok S len (hb (f := f)) ok, c.g, b F, vd, rd⟩
end
end Dl
namespace Dl
open PySem L2
section
variable {X : Cx}
noncomputable def dcBody (its : List D) (g : WG) (tt : WT) (wk wv : WE) (vs : List Nat) (fin : Addr → List (Key × D) → Store → Prop) (ρ : Env) (μ1 : Store) : Prop := its.length ≤ sizeLine ∧ ∀ L, μ1 L = none → ∃ I : Nat → List (Key × D) → Store → Prop, I 0 [] (setS μ1 L (.dct [])) ∧
  (∀ i d acc μ', its[i]? = some d → μ' L = some (.dct acc) → I i acc μ' → g d (wipeE ρ vs) μ' fun ρ2 μ2 => tt ρ2 μ2 fun b μ3 => if b = true then wk ρ2 μ3 fun x μ4 => wv ρ2 μ4 fun y μ5 => ∃ k, keyD x = some k ∧ μ5 L = some (.dct acc) ∧ acc.length < sizeLine ∧ I (i + 1) (putD acc k y) (setS μ5 L (.dct (putD acc k y)))
    else μ3 L = some (.dct acc) ∧ I (i + 1) acc μ3) ∧
  ∀ acc μ', μ' L = some (.dct acc) → I its.length acc μ' → fin L acc μ'
noncomputable def wDcM (wi : WI) (g : WG) (tt : WT) (wk wv : WE) (vs : List Nat) : WE := fun ρ μ P => wi ρ μ fun its μ1 => dcBody its g tt wk wv vs (fun L _ μ' => P (.ref L) μ') ρ μ1
theorem ldc {K : PySem.W.Frag} {wi : WI} {g : TG} {wg : WG} {tt : WT} {wk wv : WE} {vs : List Nat} {fin : Addr → List (Key × D) → Store → Prop} {σ : L2.St} {H : Hp} {Q : VK} {ρ : Env} {μ : Store} {G : Hp} (hg : GPat K vs g wg) (he : EnvR K G ρ σ) (hm : Sm K μ G H)
    (hw : wi ρ μ fun its μ1 => dcBody its wg tt wk wv vs fin ρ μ1) (hf : ∀ L acc μ' H' G', fin L acc μ' → μ' L = some (.dct acc) → Ex G G' → Sm K μ' G' H' → Q (.ref L) H') : tDc (LI K wi) g (LT K tt) (LE K wk) (LE K wv) vs σ H Q := by
  refine ⟨ρ, μ, G, _, he, hm, hw, ?_⟩
  rintro its μ1 H1 G1 J ⟨hz, hI⟩ e1 m1 hJ L hL
  obtain ⟨I, h0, hturn, hend⟩ := hI L (m1.nn hL)
  refine ⟨fun i m H' => m = its.length - i ∧ i ≤ its.length ∧ ∃ acc μ' G', Ex G1 G' ∧ Sm K μ' G' H' ∧ μ' L = some (.dct acc) ∧ I i acc μ',
    ⟨its.length, by simp, Nat.zero_le _, [], _, G1, Ex.refl _, m1.write (c := .dct []) (m1.ex.nn hL) ⟨[], upd_same, rfl, .nil⟩, setS_same, h0⟩, ?_⟩
  rintro i m H' ⟨rfl, hi, acc, μ', G', e', hm', uD, hI⟩
  obtain ⟨wgo, wstop⟩ := hJ i H' G' μ' e' hm'
  by_cases hlt : i < its.length
  · obtain ⟨go, yl⟩ := wgo hlt
    refine .inr ⟨go, fun H2 => ∃ acc2 μ2 G2, Ex G1 G2 ∧ Sm K μ2 G2 H2 ∧ μ2 L = some (.dct acc2) ∧ I (i + 1) acc2 μ2, fun H2 ⟨a, b, c, x1, x2, x3, x5⟩ => ⟨its.length - (i + 1), by omega, rfl, hlt, a, b, c, x1, x2, x3, x5⟩, fun x H2 hy => ?_⟩
    obtain ⟨G3, d, hd, e3, m3, r3⟩ := yl x H2 hy
    have heW : EnvR K G3 (wipeE ρ vs) (L2.wipe σ vs) := ((((he.mono e1).mono e').mono e3)).wipe vs
    refine hg heW m3 r3 (hturn i d acc μ' hd uD hI) fun ρ4 μ4 σ4 H4 G4 p4 e4 he4 hm4 q4 => ⟨q4.trans (wipe_wipe fun _ h => h), ρ4, μ4, G4, _, he4, hm4, p4, fun b μ5 H5 G5 p5 e5 m5 => ?_⟩
    have eG : Ex G1 G5 := ((e'.trans e3).trans e4).trans e5
    cases b with
    | true =>
      rw [if_pos rfl] at p5
      refine iteT ?_
      refine ⟨ρ4, μ5, G5, _, he4.mono e5, m5, p5, fun x6 μ6 v6 H6 G6 p6 e6 m6 r6 => ⟨ρ4, μ6, G6, _, (he4.mono e5).mono e6, m6, p6, fun y μ7 v7 H7 G7 p7 e7 m7 r7 => ?_⟩⟩
      obtain ⟨k, hk, u7, hzl, hI7⟩ := p7
      obtain ⟨h0, kvs, h1, ek, rr⟩ := m7.st L _ u7
      obtain ⟨i1, i2⟩ := putD_keys (k := k) r7 ek rr
      exact ⟨kvs, k, keyD_ok hk (r6.mono e7), h1, by rw [len_keys ek]; exact hzl, putD acc k y, _, G7, (eG.trans e6).trans e7, m7.write (c := .dct (putD acc k y)) h0 ⟨_, upd_same, i1, i2⟩, setS_same, hI7⟩
    | false =>
      rw [if_neg Bool.false_ne_true] at p5
      refine iteF ?_
      exact ⟨acc, μ5, G5, eG, m5, p5.1, p5.2⟩
  · have ei : i = its.length := by omega
    subst ei
    exact .inl ⟨wstop (Nat.le_refl _), hf _ _ _ _ _ (hend acc μ' uD hI) uD (e1.trans e') hm'⟩
theorem de_dcM {kx vx tg iter : Expr} {ifs : List Expr} {scope : Scope} {own : List (Str × Nat)} {pos : Pos} {wi : WI} {g : TG} {wg : WG} {tt : WT} {wk wv : WE} (hc : X.calm = true) (hN : X.N.Nodup) (hi : DI X tg iter wi) (ok : BlkOk X.N X.env.scope scope own) (hp : GPat X.K (own.map (·.2)) g wg)
    (hg : ∀ (s : Shared) (H : Hp) (C : Addr) (cl : List (Str × Addr)) (fp : List Addr), PG (X.blk s H scope (compEnvC scope cl C X.env) fp) tg g) (ht : ∀ (s : Shared) (H : Hp) (C : Addr) (cl : List (Str × Addr)) (fp : List Addr), DTs (X.blk s H scope (compEnvC scope cl C X.env) fp) ifs tt)
    (hk : ∀ (s : Shared) (H : Hp) (C : Addr) (cl : List (Str × Addr)) (fp : List Addr), DE (X.blk s H scope (compEnvC scope cl C X.env) fp) kx wk)
    (he : ∀ (s : Shared) (H : Hp) (C : Addr) (cl : List (Str × Addr)) (fp : List Addr), DE (X.blk s H scope (compEnvC scope cl C X.env) fp) vx wv) (hs : ∀ x, foldedSetIterable iter X.env x = pure x := by intro _; rfl) :
    DE X (.DictComp kx vx [⟨tg, iter, ifs, 0⟩] scope pos) (wDcM wi wg tt wk wv (own.map (·.2))) :=
  ⟨wkE (pe_dc hc hN hi.p ok hg (fun s H C cl fp => (ht s H C cl fp).p) (fun s H C cl fp => (hk s H C cl fp).p) (fun s H C cl fp => (he s H C cl fp).p) hs) fun σ H Q ⟨ρ, μ, G, P, hr, hm, hw, htl⟩ => ldc hp hr hm hw fun L acc μ' H' G' f u e m => htl _ _ _ _ _ f e m (.ref L)⟩
noncomputable def tLockR (t : TE) : TE := fun σ H Q => t σ H fun v H1 => ∃ d kvs, v = .ref d ∧ H1 d = some (.dK kvs) ∧ ∀ od, Q v (upd H1 d (.frz od (.dK kvs)))
theorem pe_lockR {e : Expr} {t : TE} (h : PE X e t) : PE X e (tLockR t) := by
  refine ⟨fun pins s σ H Q I hw => thn (h.run pins s σ H _ I hw) fun v s1 ⟨x, H1, I1, r, d, kvs, ex, hd, q⟩ => ?_⟩
  obtain ⟨od, I2⟩ := I1.lock hd trivial
  exact ⟨x, _, I2, r, q od⟩
noncomputable def keyV : Key → D
  | .inl i => .int i
  | .inr s => .str s
theorem keyV_ok {K : PySem.W.Frag} {G : Hp} : ∀ k : Key, Rp K G (keyV k) (kV k)
  | .inl i => .int i
  | .inr s => .str s
noncomputable def wiKeysF (we : WE) : WI := fun ρ μ P => we ρ μ fun d μ1 => match d with
  | .ref a => (match μ1 a with | some (.dct kvs) => P (kvs.map fun kv => keyV kv.1) (delS μ1 a) | _ => False)
  | _ => False
theorem walk_k {K : PySem.W.Frag} {G : Hp} {d : Addr} {o : Obj} {kvs : List (Key × V)} {ds : List (Key × D)} (h : G d = some (.frz o (.dK kvs))) (e : kvs.map (·.1) = ds.map (·.1)) : Walk K G (Itk d o kvs) (ds.map fun kv => keyV kv.1) := fun i H G2 μ e2 m => by
  have hd := (e2.trans m.ex) _ _ h
  have hl : (ds.map fun kv => keyV kv.1).length = kvs.length := by rw [List.length_map]; exact (len_keys e).symm
  rw [hl]
  refine ⟨fun hi => ⟨⟨hd, hi⟩, fun x H' y => ?_⟩, fun hi => ⟨hd, hi⟩⟩
  obtain ⟨rfl, k, v, hk, rfl⟩ := y
  refine ⟨G2, keyV k, ?_, Ex.refl _, m, keyV_ok k⟩
  have h1 : (kvs.map (·.1))[i]? = some k := by rw [List.getElem?_map, hk]; rfl
  rw [e, List.getElem?_map] at h1
  rw [List.getElem?_map]
  cases q : ds[i]? with
  | none => rw [q] at h1; cases h1
  | some kv => rw [q] at h1; cases h1; rfl
theorem di_keysF {tg e : Expr} {we : WE} (h : DE X e we) : DI X tg e (wiKeysF we) :=
  ⟨wkI (pi_keys (pe_lockR h.p)) fun σ H R ⟨ρ, μ, G, P, he, hm, hw, ht⟩ => ⟨ρ, μ, G, _, he, hm, hw, fun x μ1 v H1 G1 p e1 m r => by
    split at p
    · rename_i a
      cases r
      split at p
      · rename_i kvs q
        obtain ⟨h0, vs, h1, ek, rr⟩ := m.st a _ q
        refine ⟨a, vs, rfl, h1, fun od => ⟨a, od, rfl, .inl ⟨vs, upd_same, ?_⟩⟩⟩
        have m2 : Sm X.K (delS μ1 a) (upd G1 a (.frz od (.dK vs))) (upd H1 a (.frz od (.dK vs))) := by
          refine ⟨m.ex.upd2 a _, fun b c hb => ?_⟩
          have hne : b ≠ a := by rintro rfl; rw [delS_same] at hb; cases hb
          rw [delS_ne hne] at hb
          obtain ⟨k1, k2⟩ := m.st b c hb
          exact ⟨by rw [upd_ne hne]; exact k1, k2.mono (Ex.new h0) (upd_ne hne)⟩
        exact ht _ _ _ _ _ p (e1.trans (Ex.new h0)) m2 (walk_k upd_same ek)
      · exact p.elim
    · exact p.elim⟩⟩
end
end Dl
namespace Dl
open PySem L2
section
variable {X : Cx}
noncomputable def lt2 : List D := [.ty "list", .ty "tuple"]
noncomputable def lt2V : List V := [.ty "list", .ty "tuple"]
noncomputable def lt2U : List Value := [.type "list", .type "tuple"]
theorem lt2_ok {K : PySem.W.Frag} {G : Hp} {xs : List V} (r : Rps K G lt2 xs) : xs = lt2V := by
  cases r with | cons r1 r2 =>
  cases r2 with | cons r2 r3 =>
  cases r1
  cases r2
  cases r3
  rfl
theorem lt2_vals {us : List Value} (r : Vals lt2V us) : us = lt2U := by
  obtain ⟨u1, u2, rfl, r1, r2⟩ := vals2 r
  have e1 : u1 = Value.type "list" := r1
  have e2 : u2 = Value.type "tuple" := r2
  rw [e1, e2]
  rfl
theorem kitTwo (K : PySem.W.Frag) (m : String) (hm : m ∈ ["NoneType", "bool", "int", "str", "tuple", "list", "dict"]) : PySem.W.kitAny K (.type m) lt2U = some (isTy m "list" || isTy m "tuple") := by
  have h1 := tyTab K "list" m (by simp) hm
  have h2 := tyTab K "tuple" m (by simp) hm
  unfold lt2U PySem.W.kitAny
  rw [h1]
  generalize isTy m "list" = a
  generalize isTy m "tuple" = b at h2 ⊢
  cases a
  · dsimp only
    unfold PySem.W.kitAny
    rw [h2]
    cases b <;> rfl
  · rfl
noncomputable def oIsiS : OC := fun ds μ P => ∃ d ts, ds = [d, .tup ts] ∧ ts = lt2 ∧ ∃ m, tyD μ d = some m ∧ P (.bl (isTy m "list" || isTy m "tuple")) μ
theorem cs_isiS : CallS X (.builtin "isinstance") oIsiS := by
  refine ⟨_, CallR_or call_isiT call_isiK, ?_⟩
  intro ds μ P G H vs Q h m r t
  obtain ⟨d, ts, rfl, rfl, n, hn, p⟩ := h
  cases r with | cons r1 r2 =>
  cases r2 with | cons r2 r3 =>
  cases r3
  cases r2 with | tup hx r2 =>
  have hxs := lt2_ok r2
  subst hxs
  rcases hx with hx | ⟨o, its, k, h1, h2, h3, h4, h5⟩
  · exact .inl ⟨_, _, lt2V, _, lt2U, _, rfl, m.ex _ _ hx, .cons (.ty _) (.cons (.ty _) .nil), tyD_ok hn m r1, kitTwo _ _ (tyD_mem hn), t _ _ _ _ _ p (Ex.refl _) m (.bl _)⟩
  · have hus := lt2_vals h5
    obtain ⟨oc, od, dat, sl⟩ := o
    have e1 : oc = .type "tuple" := h2
    have e2 : dat = .seq its k := h3
    subst e1
    subst e2
    have e3 : its = lt2U.toArray := by rw [← hus, Array.toArray_toList]
    rw [e3] at h1
    exact .inr ⟨_, _, od, lt2U, k, sl, _, _, rfl, h1, tyD_ok hn m r1, kitTwo _ _ (tyD_mem hn), t _ _ _ _ _ p (Ex.refl _) m (.bl _)⟩
end
end Dl
namespace Dl
open PySem L2 PySem.W PySem.Calls PyProof.Rows
end Dl
namespace Dl
open PySem L2
end Dl
namespace Dl
open PySem L2
end Dl
namespace Dl
open PySem L2
section
variable {X : Cx}
noncomputable def oSplit : OM := fun x ds μ P => match x, ds with
  | .str a, [.str b] => (b.length == 0) = false ∧ a.length + 2 ≤ sizeLine ∧ P (.lst ((Txt.split a b).map .str)) μ
  | _, _ => False
theorem bm_split : BMok X "split" "str" oSplit := ⟨_, _, F.plainAttrs_str, F.slot_str_split, F.type_str_split, mt_split, fun {x ds μ P G H v vs Q} h m rx rs t => by
  unfold oSplit at h
  split at h
  · cases rx
    cases rs with | cons r1 r2 =>
    cases r1
    cases r2
    obtain ⟨h1, h2, p⟩ := h
    exact ⟨_, _, rfl, rfl, h1, h2, new_lst m (rps_strs _) p t⟩
  · exact h.elim⟩
noncomputable def zipD (xs ys : List D) : List D := List.zipWith (fun x y => .tup [x, y]) xs ys
theorem zip_pair {K : PySem.W.Frag} {μ : Store} {G H : Hp} {T : Addr} {d e : D} {x y : V} (m : Sm K μ G H) (hT : H T = none) (r : Rp K G d x) (r2 : Rp K G e y) :
    ∃ G3, Ex G G3 ∧ Sm K μ G3 (upd H T (.tup [x, y])) ∧ Rp K G3 (.tup [d, e]) (.ref T) := by
  obtain ⟨m2, e2⟩ := m.frozen hT (.tup [x, y])
  exact ⟨_, e2, m2, .tup (.inl upd_same) (.cons (r.mono e2) (.cons (r2.mono e2) .nil))⟩
noncomputable def wiZip (wa : WA) : WI := fun ρ μ P => wa ρ μ fun ds μ1 => match ds with
  | [.tup xs, .tup ys] => P (zipD xs ys) μ1
  | [.lst xs, .lst ys] => P (zipD xs ys) μ1
  | _ => False
theorem relabel_free {env : PySem.Env} : ∀ {names : List (Str × NameKind)} {x : Str}, (names.lookup x = some .cell ∨ names.lookup x = some .free) →
    ((names.map fun (n, k) => if (k == NameKind.free && env.scope.kind == .function && env.kindOf n == some .cell) then (n, NameKind.cell) else (n, k)).lookup x = some .cell ∨
      (names.map fun (n, k) => if (k == NameKind.free && env.scope.kind == .function && env.kindOf n == some .cell) then (n, NameKind.cell) else (n, k)).lookup x = some .free)
  | [], _, h => by simp at h
  | (n, k) :: r, x, h => by
    have ih := @relabel_free env r x
    show List.lookup x ((if (k == NameKind.free && env.scope.kind == .function && env.kindOf n == some .cell) = true then (n, NameKind.cell) else (n, k)) :: _) = _ ∨ List.lookup x ((if (k == NameKind.free && env.scope.kind == .function && env.kindOf n == some .cell) = true then (n, NameKind.cell) else (n, k)) :: _) = _
    cases hx : x == n with
    | true =>
      simp only [List.lookup_cons, hx] at h
      by_cases hc : (k == NameKind.free && env.scope.kind == .function && env.kindOf n == some .cell) = true
      · rw [if_pos hc]; simp [List.lookup_cons, hx]
      · rw [if_neg hc]; simp only [List.lookup_cons, hx]; exact h
    | false =>
      simp only [List.lookup_cons, hx] at h
      by_cases hc : (k == NameKind.free && env.scope.kind == .function && env.kindOf n == some .cell) = true
      · rw [if_pos hc]; simp only [List.lookup_cons, hx]; exact ih h
      · rw [if_neg hc]; simp only [List.lookup_cons, hx]; exact ih h
theorem blk_relabel {N : List Str} {sc scope : Scope} {own : List (Str × Nat)} {env : PySem.Env} (h : BlkOk N sc scope own) : BlkOk N (relabel sc env) scope own :=
  ⟨h.kind, h.uniq, h.ix, fun y hy e => relabel_free (h.free y hy e), h.own⟩
noncomputable def wgLst (n : Nat) (g : WGs) : WG := fun d ρ μ P => match d with | .lst ds => ds.length = n ∧ g ds ρ μ P | _ => False
theorem gp_lst {K : PySem.W.Frag} {vs : List Nat} {n : Nat} {gs : TGs} {wgs : WGs} (hs : GPats K vs gs wgs) : GPat K vs (gLst K n gs) (wgLst n wgs) := fun {v σ H Q ρ μ G d P} he hm r hw k => by
  cases r with
  | lst h1 r1 => exact ⟨_, _, rfl, lst_sq hm.ex h1, by rw [← r1.length]; exact hw.1, hs he hm r1 hw.2 k⟩
  | _ => exact hw.elim
noncomputable def wAsgF (we : WE) (g : WG) : WS := fun W ρ μ => we ρ μ fun d μ1 => ∃ d' μ', Fz d μ1 d' μ' ∧ g d' ρ μ' W.nx
noncomputable def wAStar (we : WE) (wr : WA) : WA := fun ρ μ P => we ρ μ fun d μ1 => match seqA μ1 d with | some xs => wr ρ μ1 fun ys μ2 => P (xs ++ ys) μ2 | none => False
theorem da_star {e : Expr} {es : List Expr} {p : Pos} {we : WE} {wr : WA} (h : DE X e we) (k : DA X es wr) (hs : starEach (.Starred e p :: es) X.env = (true, eval e X.env) :: starEach es X.env := by rfl) : DA X (.Starred e p :: es) (wAStar we wr) :=
  ⟨wkA (StX.pa_star h.p k.p hs) fun σ H Q ⟨ρ, μ, G, P, he, hm, hw, ht⟩ => ⟨ρ, μ, G, _, he, hm, hw, fun d μ1 v H1 G1 p1 e1 m1 r1 => by
    split at p1
    · rename_i xs q
      obtain ⟨a, vs, rfl, h1, rr⟩ := seqA_ok q m1 r1
      exact ⟨a, vs, rfl, h1.symm, ρ, μ1, G1, _, he.mono e1, m1, p1, fun ys μ2 ws H2 G2 p2 e2 m2 r2 => ht _ _ _ _ _ p2 (e1.trans e2) m2 ((rr.mono e2).append r2)⟩
    · exact p1.elim⟩⟩
end
end Dl
namespace Dl
open PySem L2
theorem units65 {k : Nat} {A : Around} (r : Room k A) : A.units + 65 < cLine := by have := r.un; omega
end Dl
namespace Dl
open PySem L2 PySem.Spec PyProof.Rows
/-- an error's fields: its class and what they hold -/
noncomputable def XRp (K : PySem.W.Frag) (G : Hp) (fs : List (Str × D)) (d : Option Addr) : Prop := (d = none ∧ fs = []) ∨ ∃ (dd : Addr) (vs : List (Str × V)), d = some dd ∧ G dd = some (.xd vs) ∧ vs.map (·.1) = fs.map (·.1) ∧ Rps K G (fs.map (·.2)) (vs.map (·.2))
theorem XRp.mono {K : PySem.W.Frag} {G G' : Hp} {fs : List (Str × D)} {d : Option Addr} (e : Ex G G') (h : XRp K G fs d) : XRp K G' fs d := by
  rcases h with h | ⟨dd, vs, h1, h2, h3, h4⟩
  · exact .inl h
  · exact .inr ⟨dd, vs, h1, e _ _ h2, h3, h4.mono e⟩
noncomputable abbrev WRx := Addr → List (Str × D) → Env → Store → Prop
noncomputable abbrev WSx := WRx → WEnds → Env → Store → Prop
noncomputable abbrev WEx := WRx → Env → Store → (D → Store → Prop) → Prop
noncomputable def TellsX (K : PySem.W.Frag) (G : Hp) (R : WRx) (W : WX) : Prop := ∀ C fs d ρ' μ' σ' H' G', R C fs ρ' μ' → Ex G G' → EnvR K G' ρ' σ' → Sm K μ' G' H' → XRp K G' fs d → W (.ref C) d σ' H'
theorem TellsX.mono {K : PySem.W.Frag} {G G' : Hp} {R : WRx} {W : WX} (e : Ex G G') (h : TellsX K G R W) : TellsX K G' R W := fun a b c d f g i j r x y z => h a b c d f g i j r (e.trans x) y z
section
variable {X : Cx} {W : WX} {st : Stmt} {rest a b : List Stmt} {e : Expr} {pos : Pos} {w : WS} {u v : WSx} {we : WE} {wx : WEx} {t : WT}
/-- what raises nothing -/
noncomputable def xN (w : WS) : WSx := fun _ We ρ μ => w We ρ μ
noncomputable def xSeq (u v : WSx) : WSx := fun R We ρ μ => u R { We with nx := v R We } ρ μ
noncomputable def xIf (t : WT) (u v : WSx) : WSx := fun R We ρ μ => t ρ μ fun b μ1 => if b = true then u R We ρ μ1 else v R We ρ μ1
/-- a statement that is an expression, a return, x = e of an expression that may raise -/
noncomputable def xDrop (wx : WEx) : WSx := fun R We ρ μ => wx R ρ μ fun _ μ1 => We.nx ρ μ1
noncomputable def xRet (wx : WEx) : WSx := fun R We ρ μ => wx R ρ μ fun d μ1 => ∃ d' μ', Fz d μ1 d' μ' ∧ We.rt d' μ'
noncomputable def xAsg (wx : WEx) (g : WG) : WSx := fun R We ρ μ => wx R ρ μ fun d μ1 => g d ρ μ1 We.nx
variable {j k : Nat} {x : Str} {C : Addr} {p p' : Pos}
noncomputable def xRaise0 (C : Addr) : WSx := fun R _ ρ μ => R C [] ρ μ
noncomputable def xRaise1 (C : Addr) (f : Str) (we : WE) : WSx := fun R _ ρ μ => we ρ μ fun d μ1 => R C [(f, d)] ρ μ1
end
noncomputable abbrev DSpX := List D → Store → (D → Store → Prop) → (Addr → List (Str × D) → Store → Prop) → Prop
section
variable {P : Program} {w : World} {K : PySem.W.Frag} {mg : Str → Option Value} {base : Heap}
theorem Fun.at {x qual : Str} {st : Stmt} {f : Addr} {fd : FuncData} (F : Fun K x qual st f fd) : FnAt K x qual st [] f fd := by
  obtain ⟨oc, od, kV, doc, pm, an, cdv, ct, osl, rfl, lk, hcd⟩ := F.ex
  exact FnAt.mk0 lk hcd
end
section
variable {X : Cx} {W : WX} {j k : Nat} {x m : Str} {C : Addr} {d : DSpX} {dds : List D} {p pos apos : Pos} {e o : Expr} {es : List Expr} {wa : WA} {wo : WE}
noncomputable def xCall (d : DSpX) (dds : List D) (wa : WA) : WEx := fun R ρ μ P => wa ρ μ fun ds μ1 => d (ds ++ dds) μ1 P fun C fs μ' => R C fs ρ μ'
end
/-- the catch: every error of the body is of the class Cc -/
noncomputable def wTryAs (K : PySem.W.Frag) (Cc : Addr) (i : Nat) (wb : WSx) (ws : Addr → Value → Option Addr → WS) : WS := fun W ρ μ =>
  wb (fun C fs ρ' μ' => PySem.W.exmOne K (.ref C) (.ref Cc) = some true ∧ ∀ a d, (d = none → fs = []) → ws a (.ref C) d { nx := fun ρ2 μ2 => W.nx (ρ2.set i none) μ2, rt := W.rt, bk := fun ρ2 μ2 => W.bk (ρ2.set i none) μ2, ct := fun ρ2 μ2 => W.ct (ρ2.set i none) μ2 } (ρ'.set i (some (.exc a d C fs))) μ') W ρ μ
noncomputable def oInCW (f : Bool → Bool) : OD := fun x y μ P => ∃ (c : Nat) (z : Str), x = .str ⟨#[c]⟩ ∧ y = .str z ∧ P (.bl (f (decide (c ∈ z.cps.toList)))) μ
noncomputable def oInC : OD := oInCW fun b => b
theorem os_inC {X : Cx} : OpS X (compareOp .In) oInC := by
  refine ⟨_, op_in_sign, ?_⟩
  intro x y μ P G H v u Q h m rx ry t
  obtain ⟨c, z, rfl, rfl, p⟩ := h
  cases rx; cases ry
  exact ⟨c, z, rfl, rfl, t _ _ _ _ _ p (Ex.refl _) m (.bl _)⟩
end Dl
namespace Dl
open PySem L2
section
variable {X : Cx}
noncomputable def wLkD (we : WE) : WE := fun ρ μ P => we ρ μ fun d μ1 => match d with
  | .ref a => (match μ1 a with | some (.dct kvs) => P (.dcl kvs) (delS μ1 a) | _ => False)
  | _ => False
theorem lock_sm {K : PySem.W.Frag} {μ : Store} {G H : Hp} {a : Addr} {kvs : List (Key × D)} (m : Sm K μ G H) (q : μ a = some (.dct kvs)) : ∃ vs : List (Key × V), G a = none ∧ H a = some (.dK vs) ∧ vs.map (·.1) = kvs.map (·.1) ∧
    ∀ od, Sm K (delS μ a) (upd G a (.frz od (.dK vs))) (upd H a (.frz od (.dK vs))) ∧ Ex G (upd G a (.frz od (.dK vs))) ∧ Rp K (upd G a (.frz od (.dK vs))) (.dcl kvs) (.ref a) := by
  obtain ⟨h0, vs, h1, ek, rr⟩ := m.st a _ q
  refine ⟨vs, h0, h1, ek, fun od => ⟨⟨m.ex.upd2 a _, fun b c hb => ?_⟩, Ex.new h0, .dcl upd_same ek (rr.mono (Ex.new h0))⟩⟩
  have hne : b ≠ a := by rintro rfl; rw [delS_same] at hb; cases hb
  rw [delS_ne hne] at hb
  obtain ⟨k1, k2⟩ := m.st b c hb
  exact ⟨by rw [upd_ne hne]; exact k1, k2.mono (Ex.new h0) (upd_ne hne)⟩
theorem de_lkD {e : Expr} {we : WE} (h : DE X e we) : DE X e (wLkD we) :=
  ⟨wkE (pe_lockR h.p) fun σ H Q ⟨ρ, μ, G, P, he, hm, hw, ht⟩ => ⟨ρ, μ, G, _, he, hm, hw, fun x μ1 v H1 G1 p e1 m r => by
    split at p
    · rename_i a
      cases r
      split at p
      · rename_i kvs q
        obtain ⟨vs, h0, h1, ek, k⟩ := lock_sm m q
        refine ⟨a, vs, rfl, h1, fun od => ?_⟩
        obtain ⟨m2, e2, r2⟩ := k od
        exact ht _ _ _ _ _ p (e1.trans e2) m2 r2
      · exact p.elim
    · exact p.elim⟩⟩
/-- its keys, one behind another -/
noncomputable def wiKeysL (we : WE) : WI := fun ρ μ P => we ρ μ fun d μ1 => match d with
  | .dcl kvs => P (kvs.map fun kv => keyV kv.1) μ1
  | _ => False
theorem di_keysL {tg e : Expr} {we : WE} (h : DE X e we) : DI X tg e (wiKeysL we) :=
  ⟨wkI (pi_keys h.p) fun σ H R ⟨ρ, μ, G, P, he, hm, hw, ht⟩ => ⟨ρ, μ, G, _, he, hm, hw, fun x μ1 v H1 G1 p e1 m r => by
    split at p
    · rename_i kvs
      cases r with
      | dcl h1 ek rr => exact ⟨_, _, rfl, .inl ⟨_, m.ex _ _ h1, ht _ _ _ _ _ p e1 m (walk_k h1 ek)⟩⟩
    · exact p.elim⟩⟩
noncomputable def dctD (μ : Store) : D → Option (List (Key × D))
  | .dct kvs => some kvs
  | .dcl kvs => some kvs
  | .ref a => (match μ a with | some (.dct kvs) => some kvs | _ => none)
  | _ => none
theorem dctD_ok {K : PySem.W.Frag} {μ : Store} {G H : Hp} {d : D} {v : V} {kvs : List (Key × D)} (h : dctD μ d = some kvs) (m : Sm K μ G H) (r : Rp K G d v) :
    ∃ a kv, v = .ref a ∧ Rd H a (.dK kv) ∧ kv.map (·.1) = kvs.map (·.1) ∧ Rps K G (kvs.map (·.2)) (kv.map (·.2)) := by
  cases r with
  | dct h1 k r1 => cases h; exact ⟨_, _, rfl, .inl (m.ex _ _ h1), k, r1⟩
  | dcl h1 k r1 => cases h; exact ⟨_, _, rfl, .inr ⟨_, m.ex _ _ h1⟩, k, r1⟩
  | ref a =>
    unfold dctD at h
    dsimp only at h
    cases q : μ a with
    | none => rw [q] at h; cases h
    | some c =>
      rw [q] at h
      cases c with
      | dct xs => cases h; obtain ⟨_, kv, h1, k, r1⟩ := m.st a _ q; exact ⟨a, kv, rfl, .inl h1, k, r1⟩
      | _ => cases h
  | _ => cases h
noncomputable def oInDW (f : Bool → Bool) : OD := fun x y μ P => match dctD μ y, keyD x with
  | some kvs, some k => P (.bl (f (look kvs k).isSome)) μ
  | _, _ => False
noncomputable def oInD : OD := oInDW fun b => b
noncomputable def oNotInD : OD := oInDW fun b => !b
theorem inD_ok {f : Bool → Bool} {x y : D} {μ : Store} {P : D → Store → Prop} {G H : Hp} {v u : V} {Q : VK} (h : oInDW f x y μ P) (m : Sm X.K μ G H) (rx : Rp X.K G x v) (ry : Rp X.K G y u) (t : Tells X.K G P Q) : ∃ a o, u = .ref a ∧ DGet H a v o ∧ Q (.bl (f o.isSome)) H := by
  unfold oInDW at h
  split at h
  · rename_i kvs k h1 h2
    obtain ⟨a, kv, rfl, hr, ek, rr⟩ := dctD_ok h1 m ry
    have ek2 := keyD_ok h2 rx
    subst ek2
    refine ⟨a, valV kv k, rfl, .inl ⟨_, _, hr, rfl, rfl⟩, ?_⟩
    obtain ⟨l1, l2⟩ := look_keys (k := k) ek rr
    have e : (valV kv k).isSome = (look kvs k).isSome := by
      rw [valV_look]
      cases q : look kvs k with
      | none => rw [l2 q]; rfl
      | some d => obtain ⟨w, hw, _⟩ := l1 d q; rw [hw]; rfl
    rw [e]
    exact t _ _ _ _ _ h (Ex.refl _) m (.bl _)
  · exact h.elim
theorem op_inD (hu : X.A.units + 1 < cLine) : OpR X (compareOp .In) (fun x y H Q => ∃ a o, y = .ref a ∧ DGet H a x o ∧ Q (.bl o.isSome) H) := by
  intro pins s σ H x y v u Q I rx ry h
  obtain ⟨a, o, rfl, g, q⟩ := h
  cases ry
  exact d_in hu I g rx fun s' I' => ⟨.bl o.isSome, H, I', rfl, q⟩
theorem op_notInD (hu : X.A.units + 1 < cLine) : OpR X (compareOp .NotIn) (fun x y H Q => ∃ a o, y = .ref a ∧ DGet H a x o ∧ Q (.bl (!o.isSome)) H) := by
  intro pins s σ H x y v u Q I rx ry h
  obtain ⟨a, o, rfl, g, q⟩ := h
  cases ry
  exact d_notIn hu I g rx fun s' I' => ⟨.bl (!o.isSome), H, I', rfl, q⟩
theorem os_inD (hu : X.A.units + 1 < cLine) : OpS X (compareOp .In) oInD := ⟨_, op_inD hu, fun h m rx ry t => inD_ok h m rx ry t⟩
theorem os_notInD (hu : X.A.units + 1 < cLine) : OpS X (compareOp .NotIn) oNotInD := ⟨_, op_notInD hu, fun h m rx ry t => inD_ok h m rx ry t⟩
end
end Dl
namespace Dl
open PySem L2 PySem.Spec PyProof.Rows
noncomputable def reprOk (p : PyData) : Prop := p.showable = true ∧ p.hasDict = false ∧ p.depth ≤ 64 ∧ p.shown.length ≤ sizeLine
end Dl
namespace Dl
open PySem L2
section
variable {X : Cx} {j k : Nat} {x m : Str} {C : Addr} {d : DSp} {dds : List D} {p pos apos : Pos} {e o : Expr} {es : List Expr} {wa : WA} {wo : WE}
noncomputable def wMakeL (i : Nat) (C : Addr) (d : DSp) (dds : List D) (wa : WA) : WE := fun ρ μ P => ρ.getD i none = some (.ref C) ∧ wMake C d dds wa ρ μ P
theorem de_makL {n : Str} (i : Nat) (c : DMak X.prog X.w X.K X.mg X.base k n C d dds) (hr : Room j X.A) (hk : k + 1 ≤ j) (hN : X.N[i]? = some x) (hv : Vis X.env.scope x) (ha : DA X (e :: es) wa) (hdb : (x == ("__debug__" : Str)) = false := by decide)
    (hcd : (x == ("__classdict__" : Str)) = false := by decide) (he : starEach (e :: es) X.env = (false, eval e X.env) :: starEach es X.env := by rfl) (hpl : (backTo pos (starEach es X.env)).any (·.1) = false := by rfl) : DE X (.Call (.Name x p) (e :: es) [] pos) (wMakeL i C d dds wa) := by
  obtain ⟨f, fd, ps, ds, dvs, M, F, m, b, vd, rd⟩ := c.ex
  refine ⟨⟨fun pins s σ H Q I h => ?_⟩⟩
  obtain ⟨ρ, μ, G, P, hr', hm', ⟨hi, hw⟩, ht⟩ := h
  obtain ⟨u, hu1, hu2⟩ := hr'.2 i _ (getD_some hi)
  cases hu2
  have hh : tMake C (LSp X.K d) dvs E0 (LA X.K wa) σ H Q := lmake (fun σ H Q h => h) σ H Q ⟨ρ, μ, G, P, hr', hm', hw, ht⟩ rd
  refine wpAny_Call_Name_kw (thn ((pe_var (pos := p) hN hv hdb hcd).run pins s σ H (fun v H1 => v = .ref C ∧ H1 = H) I ⟨.ref C, hu1, rfl, rfl⟩) fun u s1 ⟨v, H1, I1, r1, q1⟩ => ?_)
  obtain ⟨rfl, rfl⟩ := q1
  cases r1
  exact PySem.W.callWith_K (h₀ := X.base) I.ok.mod.kin M.kp (thn (ha.p.run pos pins s1 σ _ _ I1 hh) fun us s2 ⟨vs, H2, I2, r, q⟩ => ⟨I2.kIn, run_make M F (hr.mono hk) b vd pass0 I2 r q⟩) he hpl
structure CmAt (K : PySem.W.Frag) (C : Addr) (m qual : Str) (st : Stmt) (dsV : List Value) : Prop where
  ex : ∃ (mc : Value) (p g : Addr) (fd : FuncData), ClX.CRead K C mc ∧ ClX.CMet K C mc m p g ∧ FnAt K m qual st dsV g fd
structure DCme (P : Program) (w : World) (K : PySem.W.Frag) (mg : Str → Option Value) (base : Heap) (k : Nat) (C : Addr) (m : Str) (d : DSp) (dds : List D) : Prop where
  ex : ∃ (mc : Value) (p g : Addr) (fd : FuncData) (ps : List Str) (ds : List Value) (dvs : List V), ClX.CRead K C mc ∧ ClX.CMet K C mc m p g ∧ FnOk P w K mg base CX0 k g fd ps (LSp K d) ∧ Binds K fd ps ds ∧ Vals dvs ds ∧ ∀ G, Rps K G dds dvs
theorem CmAt.cme {P : Program} {w : World} {K : PySem.W.Frag} {mg : Str → Option Value} {base : Heap} {C : Addr} {m qual : Str} {st : Stmt} {dsV ds : List Value} {dvs : List V} {dds : List D} {N ps : List Str} {k : Nat} {d : DSp} {ws : WS} (D : CmAt K C m qual st dsV) (S : FnScope N ps (defScope st)) (len : ∀ ds μ Q, d ds μ Q → ds.length = ps.length)
    (hb : ∀ {f : Addr} (cdv : Value) (A : Around) (outer : List PySem.Env) (s : Shared) (H : Hp) (E : XK), Room k (A.deeper (PyProof.Rows.envOfC qual (defScope st) s.heap.objs.size f cdv)) → DSs (cxOf CX0 P w K mg base N qual (defScope st) f cdv A outer s H E).nox (defBody st) ws)
    (ok : ∀ ds μ Q, d ds μ Q → ws { nx := fun _ μ' => ∃ μ2, Sub μ2 μ' ∧ Q .non μ2, rt := Q } (startD N ds) μ) (b : ∀ {f fd}, FnAt K m qual st dsV f fd → Binds K fd ps ds) (vd : Vals dvs ds) (rd : ∀ G, Rps K G dds dvs) : DCme P w K mg base (k + 1) C m d dds := by
  obtain ⟨mc, p, g, fd, r, c, F⟩ := D.ex
  exact ⟨mc, p, g, fd, ps, ds, dvs, r, c, F.ok S len (hb (f := g)) ok, b F, vd, rd⟩
noncomputable def wCMe (C : Addr) (d : DSp) (dds : List D) (wo : WE) (wa : WA) : WE := fun ρ μ P => wo ρ μ fun x μ1 => x = .ref C ∧ wa ρ μ1 fun ds μ2 => d (.ref C :: (ds ++ dds)) μ2 P
theorem de_cme {pl : Sem Bool} (c : DCme X.prog X.w X.K X.mg X.base k C m d dds) (hr : Room j X.A) (hk : k ≤ j) (ho : DE X o wo) (ha : DA X (e :: es) wa)
    (hst : starEach (e :: es) X.env = (false, eval e X.env) :: starEach es X.env := by rfl) (hpl : (backTo pos (starEach es X.env)).any (·.1) = false := by rfl)
    (ht : eval (.Call (.Attribute o m apos) (e :: es) [] pos) X.env = (do
      let ov ← eval o X.env
      standAt apos.atName
      let (f, first) ← holding [ov] (getMethod ov m pl)
      callWith pos f first (backTo pos (starEach (e :: es) X.env)) (backToKw pos (keywordEach [] X.env))) := by rfl) : DE X (.Call (.Attribute o m apos) (e :: es) [] pos) (wCMe C d dds wo wa) := by
  obtain ⟨mc, q, g, fd, ps, ds, dvs, r, cm, F, b, vd, rd⟩ := c.ex
  refine ⟨wkE (ClX.pe_cmeth (pl := pl) ho.p r cm (F.raw b vd) (hr.mono hk) pass0 ha.p hst hpl ht) fun σ H Q ⟨ρ, μ, G, P, he, hm, hw, htl⟩ => ⟨ρ, μ, G, _, he, hm, hw, fun x μ1 v1 H1 G1 p1 e1 m1 r1 => ?_⟩⟩
  obtain ⟨rfl, p1⟩ := p1
  cases r1
  exact ⟨rfl, ρ, μ1, G1, _, he.mono e1, m1, p1, fun ds μ2 vs H2 G2 p2 e2 m2 r2 => ⟨.ref C :: (ds ++ dds), μ2, G2, P, .cons (.ref C) (r2.append (rd G2)), m2, p2, htl.mono (e1.trans e2)⟩⟩
theorem met_run {A : Around} {pins : List (Addr × Obj)} {σ : L2.St} {H : Hp} {s : Shared} {f : Addr} {fd : FuncData} {ps : List Str} {sp : Sp} {us : List Value} {vs : List V} {Q : VK} (F : FnOk X.prog X.w X.K X.mg X.base CX0 k f fd ps sp) (hA : Room k A) (hf : A.frames = X.A.frames) (hb : Binds X.K fd ps [])
    (I : Inv X pins σ H s) (r : Vals vs us) (h : sp vs H Q E0) : wpAny (model X.prog X.w) A (call (.ref f) us) (EP X pins σ Q) X.xe s := by
  have e := I.env0
  have env : Env0 X.prog X.w X.K X.mg X.base A X.stack s H := ⟨hf.trans e.frames, e.mod, e.bs, e.bsz, e.funs, e.frf, e.hok, e.bare⟩
  have nl : (us ++ []).length = ps.length := by rw [List.append_nil, ← r.length]; exact F.len _ _ _ _ h
  have bd := hb s us I.kIn nl
  rw [List.append_nil] at bd
  refine wpAny_call (codeAny_mono (F.run A X.stack s H ⟨us, []⟩ us vs Q E0 hA env bd r h) fun r s' hq => ?_)
  match r, hq with
  | .error e, hq => exact hq.elim
  | .ok (.ret u), hq => exact I.after hq
theorem met_un {K : PySem.W.Frag} {dvs : List V} (rd : ∀ G, Rps K G [] dvs) : dvs = [] := by
  cases rd (fun _ => none)
  rfl
noncomputable def oLenOwn (C : Addr) (d : DSp) : OC := fun ds μ P => ∃ x fs, ds = [x] ∧ insD μ x = some (C, fs) ∧ d [x] μ fun r μ' => ∃ n : Int, r = .int n ∧ (0 ≤ n ∧ n < 2 ^ 63) ∧ P (.int n) μ'
theorem cs_lenOwn (c : DMet X.prog X.w X.K X.mg X.base k C "__len__" d []) (hr : Room j X.A) (hk : k + 1 ≤ j) : CallS X (.builtin "len") (oLenOwn C d) := by
  obtain ⟨f, fd, ps, ds, dvs, hc, hm, F, b, vd, rd⟩ := c.ex
  obtain rfl := met_un rd
  cases vd
  have hr2 : Room (k + 1) X.A := hr.mono hk
  refine ⟨fun xs H Q => ∃ a dx fs, xs = [.ref a] ∧ H a = some (.ins C dx fs) ∧ LSp X.K d [.ref a] H (fun v H' => ∃ n : Int, v = .int n ∧ (0 ≤ n ∧ n < 2 ^ 63) ∧ Q (.int n) H') E0, ?_, ?_⟩
  · rintro pins s σ H xs us Q I r ⟨a, dx, fs, rfl, ha, hsp⟩
    obtain ⟨u, rfl, ru⟩ := vals1 r
    cases ru
    obtain ⟨mA, J, _⟩ := ins_get I.hok ha
    obtain ⟨od, J, _⟩ := J.look
    obtain ⟨mm, hF⟩ := I.fr
    refine PySem.W.len_K hF I.ok.mod.kin J hm.at_ hm.fn (thn (met_run (vs := [.ref a]) F hr2.in1 rfl b I (.cons rfl .nil) hsp) ?_)
    rintro u s' ⟨v, H', I', rv, z, rfl, hz, q⟩
    obtain ⟨t, rfl⟩ := rv
    exact ⟨hz, .int z, H', I'.tok _, ⟨_, rfl⟩, q⟩
  · rintro ds μ P G H vs Q ⟨x, fs, rfl, hi, hd⟩ m r t
    cases r with
    | cons r1 r2 =>
      cases r2
      obtain ⟨a, dx, ws, rfl, h1, _⟩ := insD_ok hi m r1
      exact ⟨a, dx, ws, rfl, h1, [x], μ, G, _, .cons r1 .nil, m, hd, fun r μ' v H' G' ⟨z, er, hz, p⟩ e' m' rr => by subst er; cases rr; exact ⟨z, rfl, hz, t _ _ _ _ _ p e' m' (.int z)⟩⟩
end
end Dl
namespace Dl
open PySem L2
/-- the empty tuple of the top -/
noncomputable def EmT (K : PySem.W.Frag) (t : Addr) : Prop := ∃ (o : Obj) (n : Nat), K.lookup t = some o ∧ o.cls = .type "tuple" ∧ o.data = .seq #[] n
theorem EmT.rp {K : PySem.W.Frag} {t : Addr} {G : Hp} (h : EmT K t) : Rp K G (.tup []) (.ref t) := by
  obtain ⟨o, n, h1, h2, h3⟩ := h
  exact .tup (.inr ⟨o, #[], n, h1, h2, h3, Nat.zero_le _, .nil⟩) .nil
end Dl
namespace Dl
open PySem L2
section
variable {X : Cx}
noncomputable def oExtend : OM := fun x ds μ P => match x, ds with
  | .ref a, [d] => (match μ a, seqL μ d with | some (.lst xs), some ys => xs.length + ys.length ≤ sizeLine ∧ P .non (setS μ a (.lst (xs ++ ys))) | _, _ => False)
  | _, _ => False
theorem bm_extend : BMok X "extend" "list" oExtend := ⟨_, _, F.plainAttrs_list, F.slot_list_extend, F.type_list_extend, mt_extend, fun {x ds μ P G H v vs Q} h m rx rs t => by
  unfold oExtend at h
  split at h
  · rename_i a d
    cases rx
    cases rs with | cons r1 r2 =>
    cases r2
    split at h
    · rename_i xs ys q1 q2
      obtain ⟨h0, ws, h1, r⟩ := m.st a _ q1
      obtain ⟨b, zs, rfl, hb, rb⟩ := seqL_ok q2 m r1
      obtain ⟨hz, p⟩ := h
      exact ⟨a, b, ws, zs, rfl, rfl, h1, hb, by rw [← r.length, ← rb.length]; exact hz, t _ _ _ _ _ p (Ex.refl _) (m.write h0 ⟨_, upd_same, r.append rb⟩) .non⟩
    · exact h.elim
  · exact h.elim⟩
end
end Dl
namespace Dl
open PySem L2
/-- a value that from now on stays as it is -/
noncomputable def wFzE (we : WE) : WE := fun ρ μ P => we ρ μ fun d μ1 => ∃ d' μ', Fz d μ1 d' μ' ∧ P d' μ'
theorem de_fzE {X : Cx} {e : Expr} {we : WE} (h : DE X e we) : DE X e (wFzE we) :=
  ⟨wkE h.p fun σ H Q ⟨ρ, μ, G, P, he, hm, hw, ht⟩ => ⟨ρ, μ, G, _, he, hm, hw, fun d μ1 v H1 G1 ⟨d', μ', fz, p⟩ e1 m1 r1 => by
    obtain ⟨G', e2, m2, r2⟩ := fz.ok m1 r1
    exact ht _ _ _ _ _ p (e1.trans e2) m2 r2⟩⟩
end Dl
namespace Dl
open PySem L2
theorem walkR {K : PySem.W.Frag} {a : Addr} {xs : List D} {i : Nat} {H G : Hp} {μ : Store} (m : Sm K μ G H) (h : μ a = some (.lst xs)) :
    (i < xs.length → (Itl K a).go i H ∧ ∀ x H', (Itl K a).yld i H x H' → ∃ d, xs[i]? = some d ∧ H' = H ∧ Rp K G d x) ∧ (xs.length ≤ i → (Itl K a).stop i H) := by
  obtain ⟨_, ws, h1, r⟩ := m.st a _ h
  have sq : SqL K H a ws := SqL.of h1
  refine ⟨fun hi => ⟨⟨ws, ws[i]'(by rw [← r.length]; exact hi), sq, by simp [← r.length, hi]⟩, fun x H' y => ?_⟩, fun hi => ⟨ws, sq, by rw [← r.length]; exact hi⟩⟩
  obtain ⟨rfl, y⟩ := y
  obtain ⟨d, hd, rd⟩ := r.getR (y ws sq)
  exact ⟨d, hd, rfl, rd⟩
noncomputable def lcBodyR (a : Addr) (its : List D) (g : WG) (tt : WT) (te : WE) (vs : List Nat) (fin : Addr → List D → Store → Prop) (ρ : Env) (μ1 : Store) : Prop := its.length ≤ sizeLine ∧ ∀ L, μ1 L = none → ∃ I : Nat → List D → Store → Prop, I 0 [] (setS μ1 L (.lst [])) ∧ (∀ i acc μ', I i acc μ' → μ' a = some (.lst its)) ∧
  (∀ i d acc μ', its[i]? = some d → μ' L = some (.lst acc) → I i acc μ' → g d (wipeE ρ vs) μ' fun ρ2 μ2 => tt ρ2 μ2 fun b μ3 => if b = true then te ρ2 μ3 fun y μ4 => μ4 L = some (.lst acc) ∧ I (i + 1) (acc ++ [y]) (setS μ4 L (.lst (acc ++ [y]))) else μ3 L = some (.lst acc) ∧ I (i + 1) acc μ3) ∧
  ∀ acc μ', acc.length ≤ its.length → μ' L = some (.lst acc) → I its.length acc μ' → fin L acc μ'
noncomputable def wLcR (we : WE) (g : WG) (tt : WT) (te : WE) (vs : List Nat) : WE := fun ρ μ P => we ρ μ fun d μ1 => ∃ a xs, d = .ref a ∧ μ1 a = some (.lst xs) ∧ lcBodyR a xs g tt te vs (fun L acc μ' => P (.lst acc) (delS μ' L)) ρ μ1
theorem llcR {K : PySem.W.Frag} {we : WE} {g : TG} {wg : WG} {tt : WT} {te : WE} {vs : List Nat} {fin : Addr → List D → Store → Prop} {σ : L2.St} {H : Hp} {Q : VK} {ρ : Env} {μ : Store} {G : Hp} (hg : GPat K vs g wg) (he : EnvR K G ρ σ) (hm : Sm K μ G H)
    (hw : we ρ μ fun d μ1 => ∃ a xs, d = .ref a ∧ μ1 a = some (.lst xs) ∧ lcBodyR a xs wg tt te vs fin ρ μ1)
    (hf : ∀ L acc μ' H' G', fin L acc μ' → μ' L = some (.lst acc) → Ex G G' → Sm K μ' G' H' → Q (.ref L) H') : tLc (iSeq K (LE K we)) g (LT K tt) (LE K te) vs σ H Q := by
  refine ⟨ρ, μ, G, _, he, hm, hw, ?_⟩
  rintro d0 μ1 v1 H1 G1 ⟨a, its, rfl, ha, hz, hI⟩ e1 m1 r1
  cases r1
  obtain ⟨_, ws, h1, _⟩ := m1.st a _ ha
  refine .inl ⟨a, rfl, ⟨ws, SqL.of h1⟩, ?_⟩
  intro L hL
  obtain ⟨I, h0, hkeep, hturn, hend⟩ := hI L (m1.nn hL)
  refine ⟨fun i m H' => m = its.length - i ∧ i ≤ its.length ∧ ∃ acc μ' G', Ex G1 G' ∧ Sm K μ' G' H' ∧ μ' L = some (.lst acc) ∧ acc.length ≤ i ∧ I i acc μ',
    ⟨its.length, by simp, Nat.zero_le _, [], _, G1, Ex.refl _, m1.write (c := .lst []) (m1.ex.nn hL) ⟨[], upd_same, .nil⟩, setS_same, Nat.le_refl _, h0⟩, ?_⟩
  rintro i m H' ⟨rfl, hi, acc, μ', G', e', hm', uD, hl, hI⟩
  obtain ⟨wgo, wstop⟩ := walkR (i := i) hm' (hkeep _ _ _ hI)
  by_cases hlt : i < its.length
  · obtain ⟨go, yl⟩ := wgo hlt
    refine .inr ⟨go, fun H2 => ∃ acc2 μ2 G2, Ex G1 G2 ∧ Sm K μ2 G2 H2 ∧ μ2 L = some (.lst acc2) ∧ acc2.length ≤ i + 1 ∧ I (i + 1) acc2 μ2, fun H2 ⟨a, b, c, x1, x2, x3, x4, x5⟩ => ⟨its.length - (i + 1), by omega, rfl, hlt, a, b, c, x1, x2, x3, x4, x5⟩, fun x H2 hy => ?_⟩
    obtain ⟨d, hd, rfl, r3⟩ := yl x H2 hy
    have heW : EnvR K G' (wipeE ρ vs) (L2.wipe σ vs) := (((he.mono e1).mono e')).wipe vs
    refine hg heW hm' r3 (hturn i d acc μ' hd uD hI) fun ρ4 μ4 σ4 H4 G4 p4 e4 he4 hm4 q4 => ⟨q4.trans (wipe_wipe fun _ h => h), ρ4, μ4, G4, _, he4, hm4, p4, fun b μ5 H5 G5 p5 e5 m5 => ?_⟩
    have eG : Ex G1 G5 := (e'.trans e4).trans e5
    cases b with
    | true =>
      rw [if_pos rfl] at p5
      refine iteT ?_
      refine ⟨ρ4, μ5, G5, _, he4.mono e5, m5, p5, fun y μ6 v6 H6 G6 p6 e6 m6 r6 => ?_⟩
      obtain ⟨h0, xs, h1, rr⟩ := m6.st L _ p6.1
      exact ⟨xs, h1, by rw [← rr.length]; omega, acc ++ [y], _, G6, eG.trans e6, m6.write (c := .lst (acc ++ [y])) h0 ⟨_, upd_same, rr.append (.cons r6 .nil)⟩, setS_same, by rw [List.length_append]; simp; omega, p6.2⟩
    | false =>
      rw [if_neg Bool.false_ne_true] at p5
      refine iteF ?_
      exact ⟨acc, μ5, G5, eG, m5, p5.1, by omega, p5.2⟩
  · have ei : i = its.length := by omega
    subst ei
    exact .inl ⟨wstop (Nat.le_refl _), hf _ _ _ _ _ (hend acc μ' hl uD hI) uD (e1.trans e') hm'⟩
section
variable {X : Cx} {elt tg iter : Expr} {ifs : List Expr} {scope : Scope} {own : List (Str × Nat)} {pos : Pos} {we : WE} {g : TG} {wg : WG} {tt : WT} {te : WE}
theorem de_lcR (hc : X.calm = true) (hN : X.N.Nodup) (hi : DE X iter we) (ok : BlkOk X.N X.env.scope scope own) (hp : GPat X.K (own.map (·.2)) g wg)
    (hg : ∀ (s : Shared) (H : Hp) (C : Addr) (cl : List (Str × Addr)) (fp : List Addr), PG (X.blk s H scope (compEnvC scope cl C X.env) fp) tg g) (ht : ∀ (s : Shared) (H : Hp) (C : Addr) (cl : List (Str × Addr)) (fp : List Addr), DTs (X.blk s H scope (compEnvC scope cl C X.env) fp) ifs tt)
    (he : ∀ (s : Shared) (H : Hp) (C : Addr) (cl : List (Str × Addr)) (fp : List Addr), DE (X.blk s H scope (compEnvC scope cl C X.env) fp) elt te) (hs : ∀ x, foldedSetIterable iter X.env x = pure x := by intro _; rfl) :
    DE X (.ListComp elt [⟨tg, iter, ifs, 0⟩] scope pos) (wLcR we wg tt te (own.map (·.2))) :=
  ⟨wkE (pe_lc hc hN (pi_seq hi.p) ok hg (fun s H C cl fp => (ht s H C cl fp).p) (fun s H C cl fp => (he s H C cl fp).p) hs) fun σ H Q ⟨ρ, μ, G, P, hr, hm, hw, htl⟩ => llcR hp hr hm hw fun L acc μ' H' G' f u e m => by
    obtain ⟨G2, m2, e2, r2⟩ := m.freezeL u
    exact htl _ _ _ _ _ f (e.trans e2) m2 r2⟩
/-- for .. in such a list -/
noncomputable def forBodyR (a : Addr) (its : List D) (g : WG) (wb : WS) (W : WEnds) (ρ : Env) (μ1 : Store) : Prop := ∃ I : Nat → Env → Store → Prop, I 0 ρ μ1 ∧ (∀ i ρ' μ', I i ρ' μ' → μ' a = some (.lst its)) ∧
  (∀ i d ρ' μ', its[i]? = some d → I i ρ' μ' → g d ρ' μ' fun ρ2 μ2 => wb { W with nx := I (i + 1), ct := I (i + 1), bk := W.nx } ρ2 μ2) ∧ ∀ ρ' μ', I its.length ρ' μ' → W.nx ρ' μ'
noncomputable def wForR (we : WE) (g : WG) (wb : WS) : WS := fun W ρ μ => we ρ μ fun d μ1 => ∃ a xs, d = .ref a ∧ μ1 a = some (.lst xs) ∧ forBodyR a xs g wb W ρ μ1
theorem ds_forR {body : List Stmt} {wgg : WG} {wb : WS} (hp : PassesOwn (model X.prog X.w) X.A X.env X.xe) (hc : X.calm = true) (hi : DE X iter we) (hg : DG X tg wgg) (hb : DSs X body wb)
    (hs : ∀ x, foldedSetIterable iter X.env x = pure x := by intro _; rfl) : DS X (.For tg iter body [] pos) (wForR we wgg wb) := by
  refine ⟨wkS (ps_for hp hc (pi_seq hi.p) hg.p hb.p hs) fun D σ H ⟨ρ, μ, G, W, he, hm, hw, ht⟩ => ⟨ρ, μ, G, _, he, hm, hw, ?_⟩⟩
  rintro d0 μ1 v1 H1 G1 ⟨a, its, rfl, ha, I, h0, hkeep, hturn, hend⟩ e1 m1 r1
  cases r1
  obtain ⟨_, ws, h1, _⟩ := m1.st a _ ha
  refine .inl ⟨a, rfl, ⟨ws, SqL.of h1⟩, ?_⟩
  refine ⟨fun i m σ' H' => m = its.length - i ∧ i ≤ its.length ∧ ∃ ρ' μ' G', Ex G1 G' ∧ EnvR X.K G' ρ' σ' ∧ Sm X.K μ' G' H' ∧ I i ρ' μ', ⟨its.length, by simp, Nat.zero_le _, ρ, μ1, G1, Ex.refl _, he.mono e1, m1, h0⟩, ?_⟩
  rintro i m σ' H' ⟨rfl, hi, ρ', μ', G', e', he', hm', hI⟩
  obtain ⟨wgo, wstop⟩ := walkR (i := i) hm' (hkeep _ _ _ hI)
  by_cases hlt : i < its.length
  · obtain ⟨go, yl⟩ := wgo hlt
    refine .inr ⟨go, fun σ2 H2 => ∃ ρ2 μ2 G2, Ex G1 G2 ∧ EnvR X.K G2 ρ2 σ2 ∧ Sm X.K μ2 G2 H2 ∧ I (i + 1) ρ2 μ2, fun σ2 H2 ⟨ρ2, μ2, G2, a, b, c, d⟩ => ⟨its.length - (i + 1), by omega, rfl, hlt, ρ2, μ2, G2, a, b, c, d⟩, fun x H2 hy => ?_⟩
    obtain ⟨d, hd, rfl, r3⟩ := yl x H2 hy
    refine ⟨ρ', μ', G', d, _, he', hm', r3, hturn i d ρ' μ' hd hI, fun ρ4 μ4 σ4 H4 G4 p4 e4 he4 hm4 => ?_⟩
    have eG : Ex G1 G4 := e'.trans e4
    refine ⟨ρ4, μ4, G4, _, he4, hm4, p4, ⟨fun ρ5 μ5 σ5 H5 G5 p5 e5 he5 hm5 => ⟨ρ5, μ5, G5, eG.trans e5, he5, hm5, p5⟩, fun d5 μ5 v5 H5 G5 p5 e5 hm5 r5 => ht.rt _ _ _ _ _ p5 ((e1.trans eG).trans e5) hm5 r5,
      fun ρ5 μ5 σ5 H5 G5 p5 e5 he5 hm5 => ht.nx _ _ _ _ _ p5 ((e1.trans eG).trans e5) he5 hm5, fun ρ5 μ5 σ5 H5 G5 p5 e5 he5 hm5 => ⟨ρ5, μ5, G5, eG.trans e5, he5, hm5, p5⟩⟩⟩
  · have ei : i = its.length := by omega
    subst ei
    exact .inl ⟨wstop (Nat.le_refl _), ht.nx _ _ _ _ _ (hend ρ' μ' hI) (e1.trans e') he' hm'⟩
end
end Dl
namespace Dl
open PySem L2
section
variable {X : Cx}
noncomputable def dctM (μ : Store) : D → Option (List (Key × D))
  | .dct kvs => some kvs
  | .ref a => (match μ a with | some (.dct kvs) => some kvs | _ => none)
  | _ => none
noncomputable def itD (kv : Key × D) : D := .tup [keyV kv.1, kv.2]
noncomputable def wLstItems (we : WE) : WE := fun ρ μ P => we ρ μ fun d μ1 => match dctM μ1 d with
  | some kvs => P (.lst (kvs.map itD)) μ1
  | none => False
end
end Dl
namespace L2
open PySem PySem.Spec PyProof.Rows
end L2
namespace Dl
open PySem L2
section
variable {X : Cx}
noncomputable def wAStarVals (we : WE) (wr : WA) : WA := fun ρ μ P => we ρ μ fun d μ1 => match dctM μ1 d with
  | some kvs => wr ρ μ1 fun ys μ2 => P (kvs.map (·.2) ++ ys) μ2
  | none => False
noncomputable def rngD (lo : Int) (n : Nat) : List D := (List.range n).map fun i => .int (lo - (i : Nat))
noncomputable def wiRngD (wa : WA) : WI := fun ρ μ P => wa ρ μ fun ds μ1 => match ds with | [.int i, .int j, .int k] => (k = -1 ∧ -(2 ^ 62) ≤ i ∧ i < 2 ^ 62 ∧ -(2 ^ 62) ≤ j ∧ j < 2 ^ 62) ∧ P (rngD i (i - j).toNat) μ1 | _ => False
noncomputable def wDctM : WE := fun _ μ P => ∀ p, μ p = none → P (.ref p) (setS μ p (.dct []))
theorem de_dctM {pos : Pos} : DE X (.Dict [] [] pos) wDctM :=
  ⟨wkE pe_dnewK fun σ H Q ⟨ρ, μ, G, P, he, hm, hw, ht⟩ => fun p hp => ht _ _ _ _ _ (hw p (hm.nn hp)) (Ex.refl _) (hm.write (c := .dct []) (hm.ex.nn hp) ⟨[], upd_same, rfl, .nil⟩) (.ref p)⟩
end
end Dl
namespace L2
open PySem PySem.Spec PyProof.Rows
end L2
namespace Dl
open PySem L2
end Dl
namespace L2
open PySem PySem.Spec PyProof.Rows HT
end L2
namespace Dl
open PySem L2
section
variable {X : Cx}
noncomputable def wRevTp (we : WE) : WE := fun ρ μ P => we ρ μ fun d μ1 => match d with | .tup xs => P (.tup xs.reverse) μ1 | _ => False
end
end Dl
namespace L2
open PySem PySem.Spec PyProof.Rows
end L2
namespace Dl
open PySem L2
section
variable {X : Cx}
noncomputable def wiZipM (wa : WA) : WI := fun ρ μ P => wa ρ μ fun ds μ1 => match ds with
  | [.tup xs, .lst ys] => P (zipD xs ys) μ1
  | _ => False
end
end Dl
namespace L2
open PySem PySem.Spec PySem.Calls PyProof.Rows
end L2
namespace Dl
open PySem L2
end Dl
namespace Dl
open PySem L2
section
variable {P : Program} {w : World} {K : PySem.W.Frag} {mg : Str → Option Value} {base : Heap}
/-- a method's promise that asks for nothing -/
theorem MetAt.met0 {C : Addr} {m qual : Str} {st : Stmt} {N ps : List Str} {k : Nat} {d : DSp} (D : MetAt K C m qual st []) (c : Cls K C) (S : FnScope N ps (defScope st)) (no : ∀ ds μ Q, ¬ d ds μ Q)
    (b : ∀ {f fd}, FnAt K m qual st [] f fd → Binds K fd ps []) : DMet P w K mg base (k + 1) C m d [] := by
  obtain ⟨f, fd, me, F⟩ := D.ex
  refine ⟨f, fd, ps, [], [], c, me, ?_, b F, .nil, fun _ => .nil⟩
  obtain ⟨oc, od, dV, kV, doc, pm, an, cdv, ct, osl, rfl, lk, hcd, _⟩ := F.ex
  exact fn_of lk hcd S (fun vs H Q E ⟨ds, μ, G, R, r, m, h, t⟩ => (no _ _ _ h).elim) fun A outer s H vs Q E hr ⟨ds, μ, G, R, r, m, h, t⟩ => (no _ _ _ h).elim
end
end Dl
namespace L2
open PySem PySem.Spec PyProof.Rows
noncomputable def ItzS (x y : Str) : It :=
  ⟨fun i _ => i < x.cps.size ∧ i < y.cps.size,
    fun i H v H' => ∃ T c d, v = .ref T ∧ H T = none ∧ H' = upd H T (.tup [.str ⟨#[c]⟩, .str ⟨#[d]⟩]) ∧ x.cps[i]? = some c ∧ y.cps[i]? = some d,
    fun i _ => x.cps.size ≤ i ∨ y.cps.size ≤ i⟩
theorem str_at {h h' : Heap} {it : Addr} {ty : String} {x : Str} {t : Tok} {i : Nat} (st : h.IsStrIter it ty x t i) (k : ∀ o, h.get? it = some o → h'.get? it = some o) : h'.IsStrIter it ty x t i :=
  let ⟨o, ho, r⟩ := st; ⟨o, k o ho, r⟩
theorem turn_zipS {P : Program} {w : World} {K : PySem.W.Frag} {elts : List Expr} {kk : Nat} {tpos : Pos} {x y : Str} {t1 t2 : Tok} {z TI TO i1 i2 : Addr} (D : ZipSep2 z TI TO i1 i2 [i1] [i2]) :
    Turn P w K (.Tuple elts kk tpos) (ItzS x y) [z, TI, TO, i1, i2] z (fun i h => (i ≤ x.cps.size ∧ i ≤ y.cps.size) ∧ IsZip h z TI TO .none ∧ IsPair h TI (.ref i1) (.ref i2) ∧ (∃ x y, IsPair h TO x y) ∧ h.IsStrIter i1 (strIterType x) x t1 i ∧ h.IsStrIter i2 (strIterType y) y t2 i) where
  mem := by simp
  obj := fun i h st c hc => by
    obtain ⟨_, hz, hTI, ⟨x, y, hTO⟩, ⟨o1, e1, _, d1⟩, ⟨o2, e2, _, d2⟩⟩ := st
    have e' : c = z ∨ c = TI ∨ c = TO ∨ c = i1 ∨ c = i2 := by simpa using hc
    rcases e' with q | q | q | q | q
    · rw [q]; exact ⟨_, hz, fun v q => nomatch q⟩
    · rw [q]; exact ⟨_, hTI, fun v q => nomatch q⟩
    · rw [q]; exact ⟨_, hTO, fun v q => nomatch q⟩
    · rw [q]; exact ⟨o1, e1, fun v q => by rw [d1] at q; cases q⟩
    · rw [q]; exact ⟨o2, e2, fun v q => by rw [d2] at q; cases q⟩
  keep := fun i h h' st k => by
    obtain ⟨hb, hz, hTI, ⟨x, y, hTO⟩, h1, h2⟩ := st
    exact ⟨hb, k z (by simp) _ hz, k TI (by simp) _ hTI, ⟨x, y, k TO (by simp) _ hTO⟩, str_at h1 fun o q => k i1 (by simp) o q, str_at h2 fun o q => k i2 (by simp) o q⟩
  item := by
    intro X hP hw hK hc i pins s σ H E I hf st hg
    subst hP hw hK
    obtain ⟨hb, hz, hTI, ⟨x0, y0, hTO⟩, h1, h2⟩ := st
    have hzl : z < s.heap.objs.size := Heap.lt_size hz
    refine wpAny_pyNext_zipD2_item D (Draws.text (A := X.A.in1) (I.ok.hd hc) i1 x t1) (Draws.text (A := X.A.in1) (I.ok.hd hc) i2 y t2) hz hTI hTO h1 h2 hg.1 hg.2 fun v1 v2 h' tk y1 y2 z' TO' b1 b2 hT hsz hk => ?_
    obtain ⟨c, u1, hcx, rfl⟩ := y1
    obtain ⟨d, u2, hdy, rfl⟩ := y2
    refine ⟨_, rfl, wpAny_letOwnedTupleGo_zip (s := { s with heap := h', toks := tk }) z' fun h'' z'' sb => ?_⟩
    have hT2 : h''.get? s.heap.objs.size = some { cls := .type "tuple", data := .seq #[.str ⟨#[c]⟩ u1, .str ⟨#[d]⟩ u2] } := (sb.2 _ (Nat.ne_of_gt hzl)).trans hT
    have new : ObjOk X.prog X.w (upd H s.heap.objs.size (.tup [.str ⟨#[c]⟩, .str ⟨#[d]⟩])) h'' s.heap.objs.size (.tup [.str ⟨#[c]⟩, .str ⟨#[d]⟩]) :=
      ⟨by show 2 ≤ sizeLine; decide, [.str ⟨#[c]⟩ u1, .str ⟨#[d]⟩ u2], .cons ⟨_, rfl⟩ (.cons ⟨_, rfl⟩ .nil), ⟨_, hT2, rfl, _, rfl⟩⟩
    have I1 : Inv X pins σ (upd H s.heap.objs.size (.tup [.str ⟨#[c]⟩, .str ⟨#[d]⟩])) { s with heap := h'', toks := tk } :=
      I.turnedNew (t' := tk) (ch := [z, TI, TO, i1, i2]) (fun c o hb q => (sb.2 c (fun q' => hb (by simp [q']))).trans (hk c o (fun q' => hb (by simp [q'])) (fun q' => hb (by simp [q'])) (fun q' => hb (by simp [q'])) (fun q' => hb (by simp [q'])) q)) hf (Nat.le_refl _) new
    refine ⟨.ref s.heap.objs.size, _, I1, rfl, ⟨_, c, d, rfl, I.hok.fresh (Nat.le_refl _), rfl, hcx, hdy⟩, ⟨⟨hg.1, hg.2⟩, z'', ?_, ⟨.str ⟨#[c]⟩ u1, .str ⟨#[d]⟩ u2, ?_⟩, ?_, ?_⟩, fun c hcm => ?_⟩
    · exact (sb.2 _ D.TIz).trans (hk _ _ D.TIz D.TITO D.TIi1 D.TIi2 hTI)
    · exact (sb.2 _ D.TOz).trans TO'
    · exact str_at b1 fun o q => (sb.2 _ (Ne.symm D.zi1)).trans q
    · exact str_at b2 fun o q => (sb.2 _ (Ne.symm D.zi2)).trans q
    · have hlt : c < s.heap.objs.size := by
        have e' : c = z ∨ c = TI ∨ c = TO ∨ c = i1 ∨ c = i2 := by simpa using hcm
        rcases e' with q | q | q | q | q
        · rw [q]; exact hzl
        · rw [q]; exact Heap.lt_size hTI
        · rw [q]; exact Heap.lt_size hTO
        · rw [q]; obtain ⟨_, e1, _⟩ := h1; exact Heap.lt_size e1
        · rw [q]; obtain ⟨_, e2, _⟩ := h2; exact Heap.lt_size e2
      rw [upd_ne (Nat.ne_of_lt hlt)]
      exact (hf c hcm).1
  done := by
    intro X hP hw hK hc i pins s σ H E I hf st hg
    subst hP hw hK
    obtain ⟨hb, hz, hTI, ⟨x0, y0, hTO⟩, h1, h2⟩ := st
    refine wpAny_pyNext_zipD2_end D (Draws.text (A := X.A.in1) (I.ok.hd hc) i1 x t1) (Draws.text (A := X.A.in1) (I.ok.hd hc) i2 y t2) hz hTI hTO h1 h2 hb.1 hb.2 (by rcases hg with q | q; exact .inl (Nat.le_antisymm hb.1 q); exact .inr (Nat.le_antisymm hb.2 q)) fun h' tk hk => ⟨rfl, I.turnedL (t' := tk) (ch := [z, TI, TO, i1, i2]) (fun c o hb q =>
          hk c o (fun q' => hb (by simp [q'])) (fun q' => hb (by simp [q'])) (fun q' => hb (by simp [q'])) (fun q' => hb (by simp [q'])) q) hf⟩
  self := fun A i s Q E st h => wpAny_pyIter_zip st.2.1 h
noncomputable def iZipS (K : PySem.W.Frag) (ta : TA) : TI := fun σ H R => ta σ H fun vs H1 => ∃ x y : Str, vs = [.str x, .str y] ∧ R (ItzS x y) H1
theorem sep_s (n : Nat) : ZipSep2 (n + 4) (n + 2) (n + 3) n (n + 1) [n] [n + 1] where
  TIz := by show (n + 2 : Nat) ≠ n + 4; omega
  TOz := by show (n + 3 : Nat) ≠ n + 4; omega
  TITO := by show (n + 2 : Nat) ≠ n + 3; omega
  TIi1 := by show (n + 2 : Nat) ≠ n; omega
  mem1 := by simp
  zf1 := by simp
  Tf1 := by simp
  TIi2 := by show (n + 2 : Nat) ≠ n + 1; omega
  mem2 := by simp
  zf2 := by simp
  Tf2 := by simp
  sep1_2 := by simp
  sep2_1 := by simp
theorem pi_zipS {X : Cx} {e e2 : Expr} {ta : TA} {p pos tpos : Pos} {elts : List Expr} {kk : Nat} (hg : Gl X "zip") (hm : X.mg "zip" = none) (ha : PA X [e, e2] ta)
    (hs : starEach [e, e2] X.env = (false, eval e X.env) :: starEach [e2] X.env := by rfl) (hpl : (backTo pos (starEach [e2] X.env)).any (·.1) = false := by rfl) :
    PI X (.Tuple elts kk tpos) (.Call (.Name "zip" p) [e, e2] [] pos) (iZipS X.K ta) := by
  refine ⟨fun pins s σ H R I h => ?_⟩
  refine Call_ (ld_blt I hg hm PyProof.Rows.boot_zip (PyProof.Rows.callWith_type1 (thn (ha.run pos pins s σ H _ I h) fun us s1 ⟨vs, H1, I1, r1, q1⟩ => ?_) hs hpl))
  obtain ⟨x, y, ex, q⟩ := q1
  subst ex
  cases r1 with
  | cons r rr =>
    cases rr with
    | cons r' rr =>
      cases rr
      obtain ⟨t1, rfl⟩ := r
      obtain ⟨t2, rfl⟩ := r'
      refine zip_begins2 (begins_text x t1) (begins_text y t2) trivial trivial fun h' hz hTI hTO h1 h2 hsz hk => wpAny_pyIter_zip hz ?_
      have I2 : Inv X pins σ H1 { s1 with heap := h' } := I1.kept (t' := s1.toks) hk
      refine ⟨s1.heap.objs.size + 4, [s1.heap.objs.size + 4, s1.heap.objs.size + 2, s1.heap.objs.size + 3, s1.heap.objs.size, s1.heap.objs.size + 1], _, _, H1, rfl, I2, turn_zipS (sep_s s1.heap.objs.size), ⟨⟨Nat.zero_le _, Nat.zero_le _⟩, hz, hTI, ⟨_, _, hTO⟩, ⟨_, h1, rfl, rfl⟩, ⟨_, h2, rfl, rfl⟩⟩, fun c hcm => ?_, q⟩
      have e' : c = s1.heap.objs.size + 4 ∨ c = s1.heap.objs.size + 2 ∨ c = s1.heap.objs.size + 3 ∨ c = s1.heap.objs.size ∨ c = s1.heap.objs.size + 1 := by simpa using hcm
      have hle : s1.heap.objs.size ≤ c := by
        rcases e' with z | z | z | z | z <;> rw [z] <;> first | exact Nat.le_add_right _ _ | exact Nat.le_refl _
      exact I1.fpOk hle (I1.hok.fresh hle)
end L2
namespace Dl
open PySem L2
section
variable {X : Cx}
noncomputable def zipS (x y : Str) : List D := (List.range (min x.cps.size y.cps.size)).map fun i => .tup [.str ⟨#[x.cps.getD i 0]⟩, .str ⟨#[y.cps.getD i 0]⟩]
theorem walk_zs {K : PySem.W.Frag} {G : Hp} {x y : Str} : Walk K G (ItzS x y) (zipS x y) := fun i H G2 μ e m => by
  unfold zipS
  rw [List.length_map, List.length_range]
  refine ⟨fun hi => ⟨⟨by omega, by omega⟩, fun v H' q => ?_⟩, fun hi => by show _ ∨ _; omega⟩
  obtain ⟨T, c, d, rfl, hT, rfl, hc, hd⟩ := q
  obtain ⟨G3, e3, m3, r3⟩ := zip_pair (d := .str ⟨#[c]⟩) (e := .str ⟨#[d]⟩) m hT (.str _) (.str _)
  refine ⟨G3, _, ?_, e3, m3, r3⟩
  rw [List.getElem?_map, List.getElem?_range (by omega)]
  simp [Array.getD_eq_getD_getElem?, hc, hd]
noncomputable def wiZipS (wa : WA) : WI := fun ρ μ P => wa ρ μ fun ds μ1 => match ds with
  | [.str x, .str y] => P (zipS x y) μ1
  | _ => False
theorem di_zipS {e e2 : Expr} {wa : WA} {p pos tpos : Pos} {elts : List Expr} {kk : Nat} (hg : Gl X "zip") (hm : X.mg "zip" = none) (ha : DA X [e, e2] wa)
    (hs : starEach [e, e2] X.env = (false, eval e X.env) :: starEach [e2] X.env := by rfl) (hpl : (backTo pos (starEach [e2] X.env)).any (·.1) = false := by rfl) :
    DI X (.Tuple elts kk tpos) (.Call (.Name "zip" p) [e, e2] [] pos) (wiZipS wa) :=
  ⟨wkI (pi_zipS hg hm ha.p hs hpl) fun σ H R ⟨ρ, μ, G, P, he, hm, hw, ht⟩ => ⟨ρ, μ, G, _, he, hm, hw, fun ds μ1 vs H1 G1 p e m r => by
    split at p
    · cases r with | cons r1 r2 =>
      cases r2 with | cons r2 r3 =>
      cases r3
      cases r1
      cases r2
      exact ⟨_, _, rfl, ht _ _ _ _ _ p e m walk_zs⟩
    · exact p.elim⟩⟩
end
end Dl
namespace Dl
open PySem L2
section
variable {X : Cx} {e : Expr} {we : WE} {pos p2 : Pos}
noncomputable def wSlM (we : WE) (wl wh : WP) : WE := fun ρ μ P => we ρ μ fun x μ1 => wl ρ μ1 fun l μ2 => wh ρ μ2 fun u μ3 => match seqL μ3 x with
  | some xs => ∀ p, μ3 p = none → P (.ref p) (setS μ3 p (.lst (cutD xs l u)))
  | none => False
end
end Dl
namespace L2
open PySem PySem.Spec PyProof.Rows
end L2
namespace L2
open PySem PySem.Spec PyProof.Rows
end L2
namespace Dl
open PySem L2
end Dl
namespace L2
open PySem PySem.Spec PyProof.Rows
inductive PrsAt (K : PySem.W.Frag) (H : Hp) : List V → List (Int × Int) → Prop where
  | nil : PrsAt K H [] []
  | cons {t : Addr} {p : Int × Int} {xs : List V} {ps : List (Int × Int)} (h : SqT K H t [.int p.1, .int p.2]) (r : PrsAt K H xs ps) : PrsAt K H (.ref t :: xs) (p :: ps)
theorem PrsAt.mem {K : PySem.W.Frag} {H : Hp} : ∀ {xs : List V} {ps : List (Int × Int)}, PrsAt K H xs ps → ∀ x ∈ xs, ∃ (t : Addr) (p : Int × Int), x = .ref t ∧ SqT K H t [.int p.1, .int p.2]
  | _, _, .nil, x, h => by cases h
  | _, _, .cons h r, x, hx => by
    rcases List.mem_cons.mp hx with rfl | hx
    · exact ⟨_, _, rfl, h⟩
    · exact r.mem x hx
end L2
namespace Dl
open PySem L2
end Dl
namespace Dl
open PySem L2
end Dl
namespace Dl
open PySem L2
end Dl
namespace Dl
open PySem L2
end Dl
namespace PySem.W
open PySem PyProof.Rows
end PySem.W
namespace Dl
open PySem L2
end Dl
namespace L2
open PySem PySem.Spec PyProof.Rows
end L2
namespace Dl
open PySem L2
end Dl
namespace L2
open PySem PySem.Spec PyProof.Rows
end L2
namespace Dl
open PySem L2
end Dl
namespace Dl
open PySem L2
open PyProof.Rows
section
variable {prog : Program} {w : World} {A : Around} {E : Value → Shared → Prop} {s : Shared}
noncomputable abbrev EnO (h : Heap) (e it : Addr) (i : Int) (item : Value) (a : Addr) (f : Bool) : Prop :=
  h.get? e = some { cls := .type "enumerate", dict := none, data := .fields #[rawInt a, .bool f, .ref it, rawInt i, .none, item], slots := #[] }
/-- the state between two turns -/
noncomputable def EnSt (h : Heap) (e it S : Addr) (i : Nat) : Prop := (∃ old, IsEnum h e it ((i : Nat) : Int) old) ∨ ∃ a f item oa, EnO h e it ((i : Nat) : Int) item a f ∧ h.get? a = some oa ∧ S < a
theorem EnSt.keep {h h' : Heap} {e it S : Addr} {i : Nat} (x : EnSt h e it S i) (k : ∀ b o, b ≠ S → h.get? b = some o → h'.get? b = some o) (he : e ≠ S) : EnSt h' e it S i := by
  rcases x with ⟨old, x⟩ | ⟨a, f, item, oa, x, y, z⟩
  · exact .inl ⟨old, k _ _ he x⟩
  · exact .inr ⟨a, f, item, oa, k _ _ he x, k _ _ (Nat.ne_of_gt z) y, z⟩
end
end Dl
namespace Dl
open PySem L2
end Dl
namespace Dl
open PySem L2
end Dl
namespace Dl
open PySem L2
end Dl
namespace Dl
open PySem L2
end Dl
namespace Dl
open PySem L2
end Dl
namespace L2
open PySem PySem.Spec PyProof.Rows
end L2
namespace L2
open PySem PySem.Spec PyProof.Rows
end L2
namespace Dl
open PySem L2
section
variable {X : Cx}
noncomputable def zip3L (xs ys zs : List D) : List D := (List.range (min xs.length (min ys.length zs.length))).map fun i => .tup [xs.getD i .non, ys.getD i .non, zs.getD i .non]
noncomputable def wiZip3L (wa : WA) : WI := fun ρ μ P => wa ρ μ fun ds μ1 => match ds with
  | [.lst xs, .lst ys, .lst zs] => P (zip3L xs ys zs) μ1
  | _ => False
end
end Dl
namespace L2
open PySem PySem.Spec PyProof.Rows
noncomputable abbrev Cl := Value × Nat × (Addr → Value → Option Addr → TS)
inductive Cls2 (X : Cx) : List ExceptHandler → List Cl → Prop
  | nil : Cls2 X [] []
  | cons {x n : Str} {c : Value} {i : Nat} {ts : Addr → Value → Option Addr → TS} {st : Stmt} {sts : List Stmt} {p q : Pos} {hds : List ExceptHandler} {l : List Cl} (nm : Names X x c) (sl : X.N[i]? = some n) (lo : X.env.kindOf n = some .local)
      (su : ∀ (a : Addr) (oe : Obj) (cls : Value) (d : Option Addr) (pn : List (Addr × Obj)), Zc cls d oe → (∃ vs, oe.data = .fields vs) → PSs (X.suite a ((a, oe) :: pn)) (st :: sts) (ts a cls d)) (r : Cls2 X hds l) :
      Cls2 X (.ExceptHandler (some (.Name x p)) (some n) (st :: sts) q :: hds) ((c, i, ts) :: l)
end L2
namespace Dl
open PySem L2
noncomputable abbrev DCl := Addr × Nat × (Addr → Value → Option Addr → WS)
inductive DCls (X : Cx) : List ExceptHandler → List DCl → Prop
  | nil : DCls X [] []
  | cons {x n : Str} {Cc : Addr} {i : Nat} {ws : Addr → Value → Option Addr → WS} {st : Stmt} {sts : List Stmt} {p q : Pos} {hds : List ExceptHandler} {l : List DCl} (nm : Names X x (.ref Cc)) (sl : X.N[i]? = some n) (lo : X.env.kindOf n = some .local)
      (su : ∀ (a : Addr) (oe : Obj) (cls : Value) (d : Option Addr) (pn : List (Addr × Obj)), Zc cls d oe → (∃ vs, oe.data = .fields vs) → DSs (X.suite a ((a, oe) :: pn)) (st :: sts) (ws a cls d)) (r : DCls X hds l) :
      DCls X (.ExceptHandler (some (.Name x p)) (some n) (st :: sts) q :: hds) ((Cc, i, ws) :: l)
noncomputable def clOf (K : PySem.W.Frag) : List DCl → List Cl := fun l => l.map fun c => (.ref c.1, c.2.1, fun a cls d => LS K (c.2.2 a cls d))
theorem DCls.cl {X : Cx} {hds : List ExceptHandler} {l : List DCl} (h : DCls X hds l) : Cls2 X hds (clOf X.K l) := by
  induction h with
  | nil => exact .nil
  | cons nm sl lo su r ih => exact .cons nm sl lo (fun a oe cls d pn hz hfl => (su a oe cls d pn hz hfl).p) ih
end Dl
namespace Dl
open PySem L2
end Dl
namespace L2
open PySem PySem.Spec PyProof.Rows
end L2
namespace L2
open PySem PySem.Spec PyProof.Rows
end L2
namespace Dl
open PySem L2
end Dl
namespace Dl
open PySem L2 PySem.Spec PyProof.Rows
end Dl
namespace L2
open PySem PySem.Spec PyProof.Rows
end L2
namespace Dl
open PySem PySem.Spec L2
end Dl
namespace L2
open PySem PySem.Spec PyProof.Rows
end L2
namespace Dl
open PySem PySem.Spec L2
end Dl
namespace Dl
open PySem PySem.Spec L2 PyProof.Rows
section
variable {X : Cx} {e f o a : Expr} {es : List Expr} {st : Stmt} {rest : List Stmt} {w wo wa : WE} {wr : WA} {ws wu : WS} {pos apos p c0 c1 : Pos}
structure DET (X : Cx) (e : Expr) (w : WE) : Prop where
  p : PET X e (LE X.K w)
theorem det_of (h : DE X e w) : DET X e w := ⟨CwR.PET.of h.p⟩
noncomputable def wReplC (wo : WE) (y z : Str) : WE := fun ρ μ P => wo ρ μ fun d μ1 => ∃ x, d = .str x ∧ x.length + (x.length + 1) * z.length ≤ 16777216 ∧ P (.str (Txt.replace x y z)) μ1
theorem det_repl {y z : Str} {j k : Nat} (ho : DET X o wo) (hyz : (y == z) = false := by decide)
    (hst : starEach [.Constant (.str y) j c0, .Constant (.str z) k c1] X.env = [(false, eval (.Constant (.str y) j c0) X.env), (false, eval (.Constant (.str z) k c1) X.env)] := by rfl)
    (hbase : attributeBase o "replace" X.env (eval o X.env) = eval o X.env := by rfl) (hline : (apos.endLine == pos.line) = true := by rfl) :
    DET X (.Call (.Attribute o "replace" apos) [.Constant (.str y) j c0, .Constant (.str z) k c1] [] pos) (wReplC wo y z) :=
  ⟨fun pins s σ H Q hn I ⟨ρ, μ, G, P, he, hm, hw, ht⟩ => CwR.pet_replT ho.p hyz hst hbase hline pins s σ H Q hn I ⟨ρ, μ, G, _, he, hm, hw, fun d μ1 v H1 G1 p e m r => by
    obtain ⟨x, rfl, hz, q⟩ := p
    cases r
    exact ⟨x, rfl, hz, ht _ _ _ _ _ q e m (.str _)⟩⟩⟩
end
end Dl
namespace L2
open PySem PySem.Spec PyProof.Rows
end L2
namespace Dl
open PySem PySem.Spec L2
end Dl
namespace L2
open PySem PySem.Spec PyProof.Rows
section
variable {X : Cx} {y : Str} {j : Nat} {c pos : Pos} {g subj : Expr} {body : List Stmt} {rest cs : List MatchCase}
noncomputable def PMs (X : Cx) (cs : List MatchCase) (t : Str → TS) : Prop :=
  ∀ (pins : List (Addr × Obj)) (s : Shared) (σ : St) (H : Hp) (D : Ends) (x : Str) (tk : Tok) (first : Bool), Inv X pins σ H s → t x D σ H → wpAny (model X.prog X.w) X.A (matchCases cs X.env (.str x tk) first) (SP X pins D) X.xe s
theorem pms_nil : PMs X [] (fun _ D σ H => D.nx σ H) := fun pins s σ H D x tk first I h => wpAny_matchCases_nil ⟨σ, H, I, h⟩
theorem pat_text {s : Shared} {x : Str} {tk : Tok} {Q : Option (List (Str × Value)) → Shared → Prop} (h : Q (if x = y then some [] else none) { s with toks := s.toks + 1 }) :
    wpAny (model X.prog X.w) X.A (matchPattern (.MatchValue (.Constant (.str y) j c) pos) X.env (.str x tk)) Q X.xe s := by
  refine wpAny_matchPattern_Value (Calls.Constant_str ?_)
  show wpAny _ _ (richCompare .Eq (.str x tk) (.str y s.toks)) _ _ _
  refine P.eq_str (wpAny_truthy_bool ?_)
  rw [eq_meets]
  by_cases e : x = y
  · subst e
    rw [if_pos rfl] at h
    simpa using h
  · rw [if_neg e] at h
    simpa [e] using h
theorem pms_cons {tb : TS} {tr : Str → TS} (hb : PSs X body tb) (hr : PMs X rest tr) : PMs X (⟨.MatchValue (.Constant (.str y) j c) pos, none, body⟩ :: rest) (fun x D σ H => if x = y then tb D σ H else tr x D σ H) := by
  intro pins s σ H D x tk first I h
  refine wpAny_matchCases_cons (pat_text ?_)
  by_cases e : x = y
  · rw [if_pos e] at h ⊢
    exact wpAny_pure (hb.run pins _ σ H D (I.tok _) h)
  · rw [if_neg e] at h ⊢
    exact hr pins _ σ H D x tk false (I.tok _) h
theorem pms_guard {tb : TS} {tg : TT} {tr : Str → TS} (hg : PT X g tg) (hb : PSs X body tb) (hr : PMs X rest tr) : PMs X (⟨.MatchValue (.Constant (.str y) j c) pos, some g, body⟩ :: rest) (fun x D σ H => if x = y then tg σ H fun b H1 => if b = true then tb D σ H1 else tr x D σ H1 else tr x D σ H) := by
  intro pins s σ H D x tk first I h
  refine wpAny_matchCases_cons (pat_text ?_)
  by_cases e : x = y
  · rw [if_pos e] at h ⊢
    refine wpAny_pure (thn (hg.run pins _ σ H _ (I.tok _) h) fun b s1 q => ?_)
    obtain ⟨H1, I1, q⟩ := q
    cases b with
    | true => exact hb.run pins s1 σ H1 D I1 q
    | false => exact hr pins s1 σ H1 D x tk false I1 q
  · rw [if_neg e] at h ⊢
    exact hr pins _ σ H D x tk false (I.tok _) h
theorem ps_match {te : TE} {t : Str → TS} (he : PE X subj te) (hm : PMs X cs t) : PS X (.Match subj cs pos) (fun D σ H => te σ H fun v H1 => ∃ x, v = .str x ∧ t x D σ H1) := by
  refine ⟨fun pins s σ H D I h => ?_⟩
  refine wpAny_Match (thn (he.run pins s σ H _ I h) fun v s1 ⟨w, H1, I1, r, x, e, q⟩ => ?_)
  subst e
  obtain ⟨tk, rfl⟩ := r
  exact hm pins s1 σ H1 D x tk true I1 q
end
end L2
namespace Dl
open PySem PySem.Spec L2
section
variable {X : Cx} {W : WX} {y : Str} {j : Nat} {c pos : Pos} {g subj : Expr} {body : List Stmt} {rest cs : List MatchCase}
structure DMs (X : Cx) (cs : List MatchCase) (w : Str → WS) : Prop where
  p : PMs X cs fun x => LS X.K (w x)
noncomputable def mCase (y : Str) (a : WS) (b : Str → WS) (x : Str) : WS := fun W ρ μ => if x = y then a W ρ μ else b x W ρ μ
noncomputable def mGuard (y : Str) (t : WT) (a : WS) (b : Str → WS) (x : Str) : WS := fun W ρ μ => if x = y then t ρ μ fun k μ1 => if k = true then a W ρ μ1 else b x W ρ μ1 else b x W ρ μ
theorem PMs.wk {t t' : Str → TS} (h : PMs X cs t) (k : ∀ x D σ H, t' x D σ H → t x D σ H) : PMs X cs t' := fun pins s σ H D x tk first I q => h pins s σ H D x tk first I (k x D σ H q)
theorem dms_nil : DMs X [] (fun _ => wNext) := ⟨PMs.wk pms_nil fun x D σ H ⟨ρ, μ, G, W, he, hm, hw, ht⟩ => ht.nx _ _ _ _ _ hw (Ex.refl _) he hm⟩
theorem dms_case {a : WS} {b : Str → WS} (hb : DSs X body a) (hr : DMs X rest b) : DMs X (⟨.MatchValue (.Constant (.str y) j c) pos, none, body⟩ :: rest) (mCase y a b) :=
  ⟨PMs.wk (pms_cons hb.p hr.p) fun x D σ H ⟨ρ, μ, G, W, he, hm, hw, ht⟩ => by
    unfold mCase at hw
    by_cases e : x = y
    · rw [if_pos e] at hw ⊢
      exact ⟨ρ, μ, G, W, he, hm, hw, ht⟩
    · rw [if_neg e] at hw ⊢
      exact ⟨ρ, μ, G, W, he, hm, hw, ht⟩⟩
theorem dms_guard {t : WT} {a : WS} {b : Str → WS} (hg : DT X g t) (hb : DSs X body a) (hr : DMs X rest b) : DMs X (⟨.MatchValue (.Constant (.str y) j c) pos, some g, body⟩ :: rest) (mGuard y t a b) :=
  ⟨PMs.wk (pms_guard hg.p hb.p hr.p) fun x D σ H ⟨ρ, μ, G, W, he, hm, hw, ht⟩ => by
    unfold mGuard at hw
    by_cases e : x = y
    · rw [if_pos e] at hw ⊢
      refine ⟨ρ, μ, G, _, he, hm, hw, fun k μ1 H1 G1 p e1 m => ?_⟩
      cases k with
      | true => rw [if_pos rfl] at p ⊢; exact ⟨ρ, μ1, G1, W, he.mono e1, m, p, ht.mono e1⟩
      | false => rw [if_neg Bool.false_ne_true] at p ⊢; exact ⟨ρ, μ1, G1, W, he.mono e1, m, p, ht.mono e1⟩
    · rw [if_neg e] at hw ⊢
      exact ⟨ρ, μ, G, W, he, hm, hw, ht⟩⟩
noncomputable def wMatch (we : WE) (w : Str → WS) : WS := fun W ρ μ => we ρ μ fun d μ1 => ∃ x, d = .str x ∧ w x W ρ μ1
theorem ds_match {we : WE} {w : Str → WS} (he : DE X subj we) (hm : DMs X cs w) : DS X (.Match subj cs pos) (wMatch we w) :=
  ⟨wkS (ps_match he.p hm.p) fun D σ H ⟨ρ, μ, G, W, hev, hsm, hw, ht⟩ => ⟨ρ, μ, G, _, hev, hsm, hw, fun d μ1 v H1 G1 p e m r => by
    obtain ⟨x, rfl, q⟩ := p
    cases r
    exact ⟨x, rfl, ρ, μ1, G1, W, hev.mono e, m, q, ht.mono e⟩⟩⟩
end
end Dl
namespace StarA
open PySem PySem.Spec PyProof.Rows
theorem shift1 {prog : Program} {w : World} {A : Around} {I : Addr} {fp wr : List Addr} {G : Array GenState → Array GenState → Prop} {n : Nat} {P : Nat → Value → Prop} {St : Nat → Shared → Prop} (W : WalksS prog w A I fp wr G (n + 1) P St) :
    WalksS prog w A I fp wr G n (fun i => P (i + 1)) (fun i => St (i + 1)) where
  sub := W.sub
  grefl := W.grefl
  gtrans := W.gtrans
  frame := fun i s h' tk st ht hk => W.frame (i + 1) s h' tk st ht hk
  item := fun i s Q E hi st hQ => W.item (i + 1) s Q E (by omega) st hQ
  done := fun s Q E st hQ => W.done s Q E st hQ
  self := fun i s Q E st hQ => W.self (i + 1) s Q E st hQ
section
variable {prog : Program} {w : World} {A : Around} {E : Value → Shared → Prop} {s : Shared}
theorem unpack_star1 {l : Addr} {x0 : Value} {xs : List Value} {t1 t2 : Value → Sem Unit} {Q : Unit → Shared → Prop} (hh : A.handled = none) (hl : s.heap.IsList l (x0 :: xs).toArray) (hz : xs.length ≤ sizeLine)
    (h : ∀ (h' : Heap) (tk : Nat), (∀ b o, s.heap.get? b = some o → h'.get? b = some o) →
      wpAny (model prog w) A (assignInOrder [t1, t2] [x0, .ref h'.objs.size]) Q E { s with heap := h'.push { cls := .type "list", data := .seq xs.toArray }, toks := tk }) :
    wpAny (model prog w) A (unpack (.ref l) [(false, t1), (true, t2)]) Q E s := by
  unfold unpack
  show wpAny _ _ (holding [.ref l] (unpackItems (.ref l) 2 (some 1)) >>= fun r => assignInOrder [t1, t2] r) _ _ s
  refine wpAny_bind (wpAny_holding ?_)
  unfold unpackItems notIterableAtAll
  refine wpAny_bind ?_
  refine wpAny_bind (wpAny_specialOf hl.typeIs slot_list_iter.lookup ?_)
  refine wpAny_pure ?_
  simp only [Bool.false_eq_true, if_false]
  refine wpAny_bind (wpAny_holding (wpAny_pyIter_list hl ?_))
  have hlt : l < s.heap.objs.size := by obtain ⟨o, ho, _⟩ := hl; exact Heap.lt_size ho
  have hne : l ≠ s.heap.objs.size := Nat.ne_of_lt hlt
  have WA : ∀ A : Around, A.handled = none → WalksS prog w A s.heap.objs.size [s.heap.objs.size, l] [s.heap.objs.size] (fun a b => b = a) (xs.length + 1) (fun i v => (x0 :: xs).toArray[i]? = some v) (fun i s' => s'.heap.IsListIter s.heap.objs.size l i ∧ s'.heap.IsList l (x0 :: xs).toArray) := fun A hA => by
    have W0 := (Walks.list (prog := prog) (w := w) (A := A) hA s.heap.objs.size l hne (x0 :: xs).toArray).toS
    have e : (x0 :: xs).toArray.size = xs.length + 1 := by simp
    rw [e] at W0
    exact W0
  have W := WA A hh
  refine wpAny_bind (wpAny_holding ?_)
  show wpAny _ _ (pyNext (.ref s.heap.objs.size) >>= _) _ _ _
  refine wpAny_bind (W.item 0 _ _ _ (Nat.succ_pos _) ⟨⟨_, Heap.get?_push_size _ rfl, rfl, rfl⟩, hl.push _⟩ fun v s2 hv st2 hm2 => ?_)
  have ev : v = x0 := by simpa using hv.symm
  subst ev
  show wpAny _ _ (holding [v] (pure []) >>= _) _ _ _
  refine wpAny_bind (wpAny_holding (wpAny_pure (wpAny_pure ?_)))
  rw [if_neg (by simp)]
  have hfp : ∀ b ∈ [s.heap.objs.size, l], b < s2.heap.objs.size := fun b hb => by
    simp only [List.mem_cons, List.not_mem_nil, or_false] at hb
    rcases hb with rfl | rfl
    · obtain ⟨⟨o, ho, _⟩, _⟩ := st2
      exact Heap.lt_size ho
    · obtain ⟨_, ⟨o, ho, _⟩⟩ := st2
      exact Heap.lt_size ho
  refine wpAny_bind (wpAny_holding (wpAny_collect_iter (.inr (.inr (.inl rfl))) (shift1 (WA A.in1 (by simp [hh]))) (fun i s st => st.1.typeIs) st2 hfp List.mem_cons_self (fun s3 acc hm3 hacc => ?_) hz))
  have ea : acc.toList = xs := by
    apply List.ext_getElem?
    intro j
    rw [Array.getElem?_toList]
    cases hj : acc[j]? with
    | some u =>
      have := hacc.2 j u hj
      simpa using this.symm
    | none =>
      have h1 : acc.size ≤ j := by simpa using hj
      rw [hacc.1] at h1
      rw [List.getElem?_eq_none h1]
  rw [ea, if_neg (by simp)]
  have et : List.take (xs.length - (2 - 1 - 1)) xs = xs := List.take_of_length_le (by simp)
  have ed : List.drop (xs.length - (2 - 1 - 1)) xs = [] := List.drop_of_length_le (by simp)
  rw [et, ed]
  refine wpAny_bind (wpAny_newList (wpAny_pure ?_) hz)
  have hm := Moved.trans W.gtrans hm2 hm3
  obtain ⟨h', g', d', tk', os'⟩ := s3
  have eg : g' = s.gens := hm.gens
  have ed' : d' = s.drawn := hm.drawn
  have eo : os' = s.os := hm.os
  subst eg; subst ed'; subst eo
  refine h h' tk' (fun b o e => hm.heap b o (by simp only [List.mem_cons, List.not_mem_nil, or_false]; exact Nat.ne_of_lt (Heap.lt_size e)) (Heap.get?_push_of_some _ e))
end
end StarA
namespace L2
open PySem PySem.Spec PyProof.Rows
section
variable {X : Cx} {i j : Nat} {x y : Str} {px py ps pos : Pos} {k : Nat}
noncomputable def gStar1 (K : PySem.W.Frag) (i j : Nat) : TG := fun v σ H Q => ∃ a v0 vs, v = .ref a ∧ SqL K H a (v0 :: vs) ∧ ∀ p, H p = none → Q ((σ.set i (some v0)).set j (some (.ref p))) (upd H p (.lst vs))
theorem pg_star1 (hc : X.calm = true) (hN : X.N.Nodup) (hi : X.N[i]? = some x) (hj : X.N[j]? = some y) (hx : Loc X.env.scope x) (hy : Loc X.env.scope y)
    (fx : X.fn x = true ∨ X.env.scope.names.lookup x = some .local := by first | exact .inl rfl | exact .inr rfl | assumption) (fy : X.fn y = true ∨ X.env.scope.names.lookup y = some .local := by first | exact .inl rfl | exact .inr rfl | assumption) :
    PG X (.Tuple [.Name x px, .Starred (.Name y py) ps] k pos) (gStar1 X.K i j) := by
  refine ⟨fun pins s σ H v u Q I r hw => ?_⟩
  obtain ⟨a, v0, vs, rfl, hq, hw⟩ := hw
  cases r
  obtain ⟨its, rv, hl, hz⟩ := I.list hq
  cases rv with
  | cons r0 rv =>
    rename_i u0 us
    show wpAny _ _ (do standAt pos; unpack (.ref a) (assignEach [.Name x px, .Starred (.Name y py) ps] X.env)) _ _ s
    refine wpAny_bind (wpAny_standAt ?_)
    have hz2 : us.length ≤ sizeLine := by
      have := rv.length
      simp only [List.length_cons] at hz
      omega
    refine StarA.unpack_star1 (I.ok.hd hc) hl.isList hz2 fun h' tk hk => ?_
    have I1 : Inv X pins σ H { s with heap := h', toks := tk } := I.kept fun b o e => hk b o e
    have I2 : Inv X pins σ (upd H h'.objs.size (.lst vs)) { s with heap := h'.push { cls := .type "list", data := .seq us.toArray }, toks := tk } :=
      I1.laid (t' := tk) (fun b u e => Heap.get?_push_of_some _ e) (Nat.le_refl _) ⟨by rw [rv.length]; exact hz2, us, 0, rv, Heap.get?_push_size _ rfl⟩
    have hn : H h'.objs.size = none := I1.hok.fresh (Nat.le_refl _)
    exact (pgs_cons (pg_name (pos := px) hN hi hx fx) (pgs_cons (pg_name (pos := py) hN hj hy fy) pgs_nil)).run pins _ σ _ [v0, .ref h'.objs.size] [u0, .ref h'.objs.size] Q I2 (.cons r0 (.cons rfl .nil)) ⟨_, _, rfl, _, _, rfl, rfl, hw _ hn⟩
end
end L2
namespace Dl
open PySem PySem.Spec L2
section
variable {X : Cx} {i j : Nat} {x y : Str} {px py ps pos : Pos} {k : Nat}
/-- x, *y = a list that is not changed -/
noncomputable def wgStar1 (i j : Nat) : WG := fun d ρ μ N => ∃ v vs, d = .lst (v :: vs) ∧ N ((ρ.set i (some v)).set j (some (.lst vs))) μ
theorem dg_star1 (hc : X.calm = true) (hN : X.N.Nodup) (hi : X.N[i]? = some x) (hj : X.N[j]? = some y) (hx : Loc X.env.scope x) (hy : Loc X.env.scope y)
    (fx : X.fn x = true ∨ X.env.scope.names.lookup x = some .local := by first | exact .inl rfl | exact .inr rfl | assumption) (fy : X.fn y = true ∨ X.env.scope.names.lookup y = some .local := by first | exact .inl rfl | exact .inr rfl | assumption) :
    DG X (.Tuple [.Name x px, .Starred (.Name y py) ps] k pos) (wgStar1 i j) := ⟨wkG (pg_star1 hc hN hi hj hx hy fx fy) fun v σ H Q ⟨ρ, μ, G, d, P, he, hm, r, hw, ht⟩ => by
  obtain ⟨v0, vs, rfl, p⟩ := hw
  cases r with
  | lst h rs =>
    cases rs with
    | cons r0 rs =>
      refine ⟨_, _, _, rfl, .inl (.inl (hm.ex _ _ h)), fun q hq => ?_⟩
      obtain ⟨m1, e1⟩ := hm.frozen hq (.lst _)
      exact ht _ _ _ _ _ p e1 (((he.mono e1).set i (r0.mono e1)).set j (.lst upd_same (rs.mono e1))) m1⟩
end
end Dl
namespace Dl
open PySem L2
end Dl
namespace Dl
open PySem PySem.Spec L2 PyProof.Rows
section
variable {X : Cx} {e o a b : Expr} {es : List Expr} {te to ta tb : TE} {t : TA} {w wo wa wb : WE} {wr : WA} {name x y z : Str} {T id : String} {j k : Nat} {c c0 c1 apos cpos pos : Pos}
/-- behind e a token is out -/
noncomputable def PEb (X : Cx) (e : Expr) (t : TE) : Prop :=
  ∀ (pins : List (Addr × Obj)) (s : Shared) (σ : L2.St) (H : Hp) (Q : VK), Inv X pins σ H s → t σ H Q → wpAny (model X.prog X.w) X.A (eval e X.env) (fun u s' => 1 ≤ s'.toks ∧ EP X pins σ Q u s') X.xe s
theorem peb_bm {r : V → List V → Hp → VK → Prop} (pa : PlainAttrs T) (slot : Slot T name id) (hty : typeOf (.builtin id) = pure (.type "method_descriptor")) (hm : MtR X id r) (ho : PEb X o to) (ha : PA X (e :: es) t)
    (hbase : attributeBase o name X.env (eval o X.env) = eval o X.env := by rfl)
    (hfew : ((backTo cpos (starEach (e :: es) X.env)).all (fun x => !x.1) && (backToKw cpos (keywordEach [] X.env)).all (fun x => x.1.isSome)
      && decide ((e :: es).length + ([] : List Keyword).length + (if ([] : List Keyword).isEmpty then 0 else 1) < 30)) = true := by rfl)
    (hline : (apos.endLine == cpos.line) = true := by rfl) (hs : starEach (e :: es) X.env = (false, eval e X.env) :: starEach es X.env := by rfl) (hplain : (backTo cpos (starEach es X.env)).any (·.1) = false := by rfl) :
    PEb X (.Call (.Attribute o name apos) (e :: es) [] cpos) (tBM X.K T r to t) := by
  intro pins s σ H Q I h
  refine wpAny_Call_method_late hbase hfew hline rfl (thn (ho pins s σ H _ I h) fun v s1 ⟨hk, x, H1, I1, r1, ty, q1⟩ => ?_)
  obtain ⟨h1, h2⟩ := tyV_is I1 r1 ty
  refine ⟨T, id, pa, slot, hty, h1, h2, ?_⟩
  have hA := ha.run cpos pins s1 σ H1 _ I1 q1
  rw [hs] at hA ⊢
  refine wpAny_mono (wpAny_toks_of (n := 1) hk (Calls.callWith_builtin (by show (false || (backTo cpos (starEach es X.env)).any (·.1)) = false; rw [hplain] <;> rfl) (Calls.evalArgs_plain ?_))) (fun _ _ q => q) fun _ _ z => z.2
  exact thn hA fun us s2 ⟨vs, H2, I2, r2, q2⟩ => hm pins s2 σ H2 x vs v us Q I2 r1 r2 q2
theorem pe_replB (ho : PEb X o to) (hyz : (y == z) = false := by decide)
    (hst : starEach [.Constant (.str y) j c0, .Constant (.str z) k c1] X.env = [(false, eval (.Constant (.str y) j c0) X.env), (false, eval (.Constant (.str z) k c1) X.env)] := by rfl)
    (hbase : attributeBase o "replace" X.env (eval o X.env) = eval o X.env := by rfl) (hline : (apos.endLine == pos.line) = true := by rfl) :
    PE X (.Call (.Attribute o "replace" apos) [.Constant (.str y) j c0, .Constant (.str z) k c1] [] pos) (CwR.tReplC to y z) := by
  refine ⟨fun pins s σ H Q I h => ?_⟩
  refine PySem.Call_method2 hbase hst hline (thn (ho pins s σ H _ I h) (fun v s1 q => ?_))
  obtain ⟨hk, v', H1, I1, r1, x, e1, hb, q⟩ := q
  subst e1
  obtain ⟨tx, e2⟩ := r1
  subst e2
  refine ⟨"str", _, PySem.F.plainAttrs_str, PySem.F.slot_str_replace, PySem.F.type_str_replace, typeIs_str _ _ _, (fun _ e => nomatch e), Calls.callWith_builtin rfl (Calls.evalArgs_plain (Calls.spliced_cons ?_))⟩
  refine Calls.Constant_str (Calls.spliced_cons (Calls.Constant_str (Calls.spliced_nil ?_)))
  exact PySem.SC.replace (by show s1.toks ≠ 0; omega) (by show s1.toks + 1 ≠ 0; omega) (by show s1.toks ≠ s1.toks + 1; omega) hyz hb fun t' k => ⟨.str (Txt.replace x y z), H1, I1.tok k, ⟨t', rfl⟩, q⟩
theorem pe_opB {op : Operator} {r : R2} (ho : OpR X (binaryOp op) r) (ha : PEb X a ta) (hb : PET X b tb) : PE X (.BinOp a op b pos) (tOp r ta tb) :=
  ⟨fun pins s σ H Q I h => wpAny_BinOp (thn (ha pins s σ H _ I h) fun v s1 ⟨hk, x, H1, I1, r1, q1⟩ => thn (hb pins s1 σ H1 _ hk I1 q1) fun u s2 ⟨y, H2, I2, r2, q2⟩ => ho pins s2 σ H2 x y v u Q I2 r1 r2 q2)⟩
structure DEb (X : Cx) (e : Expr) (w : WE) : Prop where
  p : PEb X e (LE X.K w)
theorem deb_str : DEb X (.Constant (.str x) j c) (wC (.str x)) :=
  ⟨fun pins s σ H Q I ⟨ρ, μ, G, P, he, hm, hw, ht⟩ => Calls.Constant_str ⟨by show 1 ≤ s.toks + 1; omega, .str x, H, I.tok _, ⟨_, rfl⟩, ht _ _ _ _ _ hw (Ex.refl _) hm (.str x)⟩⟩
theorem deb_bm {om : OM} (b : BMok X name T om) (ho : DEb X o wo) (ha : DA X (e :: es) wr) (hbase : attributeBase o name X.env (eval o X.env) = eval o X.env := by rfl)
    (hfew : ((backTo cpos (starEach (e :: es) X.env)).all (fun x => !x.1) && (backToKw cpos (keywordEach [] X.env)).all (fun x => x.1.isSome)
      && decide ((e :: es).length + ([] : List Keyword).length + (if ([] : List Keyword).isEmpty then 0 else 1) < 30)) = true := by rfl)
    (hline : (apos.endLine == cpos.line) = true := by rfl) (hs : starEach (e :: es) X.env = (false, eval e X.env) :: starEach es X.env := by rfl) (hplain : (backTo cpos (starEach es X.env)).any (·.1) = false := by rfl) :
    DEb X (.Call (.Attribute o name apos) (e :: es) [] cpos) (wBM T om wo wr) := by
  obtain ⟨id, r, p1, p2, p3, p4, hs2⟩ := b.ex
  exact ⟨fun pins s σ H Q I ⟨ρ, μ, G, P, he, hm, hw, ht⟩ => peb_bm p1 p2 p3 p4 ho.p ha.p hbase hfew hline hs hplain pins s σ H Q I ⟨ρ, μ, G, _, he, hm, hw, fun x μ1 v H1 G1 p e1 m1 r1 => ⟨tyM_ok p.1 m1 r1, ρ, μ1, G1, _, he.mono e1, m1, p.2, fun ds μ2 vs H2 G2 p2 e2 m2 r2 => hs2 p2 m2 (r1.mono e2) r2 (ht.mono (e1.trans e2))⟩⟩⟩
theorem de_replB (ho : DEb X o wo) (hyz : (y == z) = false := by decide)
    (hst : starEach [.Constant (.str y) j c0, .Constant (.str z) k c1] X.env = [(false, eval (.Constant (.str y) j c0) X.env), (false, eval (.Constant (.str z) k c1) X.env)] := by rfl)
    (hbase : attributeBase o "replace" X.env (eval o X.env) = eval o X.env := by rfl) (hline : (apos.endLine == pos.line) = true := by rfl) :
    DE X (.Call (.Attribute o "replace" apos) [.Constant (.str y) j c0, .Constant (.str z) k c1] [] pos) (wReplC wo y z) :=
  ⟨wkE (pe_replB ho.p hyz hst hbase hline) fun σ H Q ⟨ρ, μ, G, P, he, hm, hw, ht⟩ => ⟨ρ, μ, G, _, he, hm, hw, fun d μ1 v H1 G1 p e m r => by
    obtain ⟨x, rfl, hz, q⟩ := p
    cases r
    exact ⟨x, rfl, hz, ht _ _ _ _ _ q e m (.str _)⟩⟩⟩
theorem de_opB {op : Operator} {o : OD} (ho : OpS X (binaryOp op) o) (ha : DEb X a wa) (hb : DET X b wb) : DE X (.BinOp a op b pos) (wOp o wa wb) := by
  obtain ⟨r, hr, hs⟩ := ho
  exact ⟨wkE (pe_opB hr ha.p hb.p) (lop hs)⟩
end
end Dl
namespace L2
open PySem PySem.Spec PyProof.Rows HT
end L2
namespace Dl
open PySem L2
end Dl
namespace L2
open PySem PySem.Spec PyProof.Rows
end L2
namespace Dl
open PySem L2
end Dl
namespace Dl
open PySem L2
end Dl
namespace Dl
open PySem L2
end Dl
namespace Lw
open PySem L2 Dl
set_option maxRecDepth 100000
set_option maxHeartbeats 4000000
noncomputable def top (i : Nat) : Stmt := PySem.Challenge.pw_notchsafe_k53_a_desk_answers.main.body.getD i (.Pass ⟨0, 0, 0, 0⟩)
/-- where the classes stand -/
structure Cs where
  Book : Addr
  Way : Addr
  Trial : Addr
  Ledger : Addr
  Pairing : Addr
  Desk : Addr
noncomputable abbrev s_is_integer : Stmt := top 14
noncomputable abbrev s_is_stick : Stmt := top 16
noncomputable abbrev s_is_entry : Stmt := top 24
noncomputable abbrev s_is_sequence : Stmt := top 15
noncomputable abbrev s_need_entries : Stmt := top 25
noncomputable abbrev s_text_of_entries : Stmt := top 27
noncomputable abbrev s_Book_xinit : Stmt := inClass (top 26) 0
noncomputable abbrev s_is_from_zero : Stmt := top 34
noncomputable abbrev s_Way_xinit : Stmt := inClass (top 35) 0
noncomputable abbrev s_need_stick : Stmt := top 17
noncomputable abbrev s_Way_lets : Stmt := inClass (top 35) 1
noncomputable abbrev s_Way_can : Stmt := inClass (top 35) 2
noncomputable abbrev s_origins : Stmt := top 30
noncomputable abbrev s_told_sums : Stmt := top 31
noncomputable abbrev s_Book_sum_of : Stmt := inClass (top 26) 3
noncomputable abbrev s_Ledger_show : Stmt := inClass (top 39) 1
noncomputable abbrev s_Ledger_xinit : Stmt := inClass (top 39) 0
noncomputable abbrev s_Desk_xinit : Stmt := inClass (top 49) 0
noncomputable abbrev s_law_box : Stmt := top 51
noncomputable abbrev s_law_sum : Stmt := top 59
noncomputable abbrev s_law_is_within : Stmt := top 57
noncomputable abbrev s_law_totals : Stmt := top 60
noncomputable abbrev s_law_spoken : Stmt := top 67
noncomputable abbrev s_law_take : Stmt := top 52
noncomputable abbrev s_law_pick : Stmt := top 53
noncomputable abbrev s_law_any_stick : Stmt := top 64
noncomputable abbrev s_law_near_stick : Stmt := top 55
noncomputable abbrev s_law_book : Stmt := top 56
noncomputable abbrev s_law_pairs : Stmt := top 58
noncomputable abbrev s_law_frauds : Stmt := top 65
noncomputable abbrev s_law_notched : Stmt := top 63
noncomputable abbrev s_law_plain : Stmt := top 62
noncomputable abbrev s_law_shuffled : Stmt := top 54
noncomputable abbrev s_law_text : Stmt := top 61
noncomputable abbrev s_law_widest_lot : Stmt := top 66
noncomputable abbrev s_number_in : Stmt := top 21
noncomputable abbrev s_numbers_told : Stmt := top 48
noncomputable abbrev s_words_of : Stmt := top 46
noncomputable abbrev s_Book_read : Stmt := inClass (top 26) 1
noncomputable abbrev s_frauds : Stmt := top 29
noncomputable abbrev s_notches : Stmt := top 18
noncomputable abbrev s_is_within : Stmt := top 19
noncomputable abbrev s_Book_stick_of : Stmt := inClass (top 26) 2
noncomputable abbrev s_lies_within : Stmt := top 41
noncomputable abbrev s_sums_of : Stmt := top 42
noncomputable abbrev s_Pairing_follow : Stmt := inClass (top 43) 1
noncomputable abbrev s_Pairing_xinit : Stmt := inClass (top 43) 0
noncomputable abbrev s_Pairing_apart : Stmt := inClass (top 43) 3
noncomputable abbrev s_greatest_safe : Stmt := top 44
noncomputable abbrev s_joined : Stmt := top 47
noncomputable abbrev s_Ledger_undo : Stmt := inClass (top 39) 6
noncomputable abbrev s_Desk_take_back : Stmt := inClass (top 49) 4
noncomputable abbrev s_Desk_alone : Stmt := inClass (top 49) 3
noncomputable abbrev s_Book_xlen : Stmt := inClass (top 26) 6
noncomputable abbrev s_Desk_begin : Stmt := inClass (top 49) 2
noncomputable abbrev s_with_notch : Stmt := top 20
noncomputable abbrev s_Ledger_go_on : Stmt := inClass (top 39) 2
noncomputable abbrev s_Ledger_notch : Stmt := inClass (top 39) 4
noncomputable abbrev s_Ledger_write : Stmt := inClass (top 39) 3
noncomputable abbrev s_Desk_say : Stmt := inClass (top 49) 1
noncomputable abbrev s_law_told_right : Stmt := top 68
noncomputable abbrev s_Desk_xlen : Stmt := inClass (top 49) 5
noncomputable abbrev s_law : Stmt := top 69
noncomputable abbrev N_is_integer : List Str := ["value"]
theorem sc_is_integer : FnScope N_is_integer ["value"] (defScope s_is_integer) := ⟨rfl, rfl, rfl, by decide +kernel, rfl, by decide +kernel, by decide +kernel⟩
noncomputable abbrev N_is_stick : List Str := ["value", "sign"]
theorem sc_is_stick : FnScope N_is_stick ["value"] (defScope s_is_stick) := ⟨rfl, rfl, rfl, by decide +kernel, rfl, by decide +kernel, by decide +kernel⟩
noncomputable abbrev N_is_entry : List Str := ["value"]
theorem sc_is_entry : FnScope N_is_entry ["value"] (defScope s_is_entry) := ⟨rfl, rfl, rfl, by decide +kernel, rfl, by decide +kernel, by decide +kernel⟩
noncomputable abbrev N_is_sequence : List Str := ["value"]
theorem sc_is_sequence : FnScope N_is_sequence ["value"] (defScope s_is_sequence) := ⟨rfl, rfl, rfl, by decide +kernel, rfl, by decide +kernel, by decide +kernel⟩
noncomputable abbrev N_need_entries : List Str := ["entries", "at", "entry", "one"]
theorem sc_need_entries : FnScope N_need_entries ["entries"] (defScope s_need_entries) := ⟨rfl, rfl, rfl, by decide +kernel, rfl, by decide +kernel, by decide +kernel⟩
noncomputable abbrev N_text_of_entries : List Str := ["entries", "found", "at", "number", "stick"]
theorem sc_text_of_entries : FnScope N_text_of_entries ["entries"] (defScope s_text_of_entries) := ⟨rfl, rfl, rfl, by decide +kernel, rfl, by decide +kernel, by decide +kernel⟩
noncomputable abbrev N_Book_xinit : List Str := ["self", "entries", "known", "order", "number", "stick"]
theorem sc_Book_xinit : FnScope N_Book_xinit ["self", "entries"] (defScope s_Book_xinit) := ⟨rfl, rfl, rfl, by decide +kernel, rfl, by decide +kernel, by decide +kernel⟩
noncomputable abbrev N_is_from_zero : List Str := ["value"]
theorem sc_is_from_zero : FnScope N_is_from_zero ["value"] (defScope s_is_from_zero) := ⟨rfl, rfl, rfl, by decide +kernel, rfl, by decide +kernel, by decide +kernel⟩
noncomputable abbrev N_Way_xinit : List Str := ["self", "how", "most", "part", "one"]
theorem sc_Way_xinit : FnScope N_Way_xinit ["self", "how", "most", "part"] (defScope s_Way_xinit) := ⟨rfl, rfl, rfl, by decide +kernel, rfl, by decide +kernel, by decide +kernel⟩
noncomputable abbrev N_need_stick : List Str := ["value"]
theorem sc_need_stick : FnScope N_need_stick ["value"] (defScope s_need_stick) := ⟨rfl, rfl, rfl, by decide +kernel, rfl, by decide +kernel, by decide +kernel⟩
noncomputable abbrev N_Way_lets : List Str := ["self", "one", "other", "places", "at"]
theorem sc_Way_lets : FnScope N_Way_lets ["self", "one", "other", "places"] (defScope s_Way_lets) := ⟨rfl, rfl, rfl, by decide +kernel, rfl, by decide +kernel, by decide +kernel⟩
noncomputable abbrev N_Way_can : List Str := ["self", "one", "other", "at"]
theorem sc_Way_can : FnScope N_Way_can ["self", "one", "other"] (defScope s_Way_can) := ⟨rfl, rfl, rfl, by decide +kernel, rfl, by decide +kernel, by decide +kernel⟩
noncomputable abbrev N_origins : List Str := ["book", "stick", "way", "number", "first"]
theorem sc_origins : FnScope N_origins ["book", "stick", "way"] (defScope s_origins) := ⟨rfl, rfl, rfl, by decide +kernel, rfl, by decide +kernel, by decide +kernel⟩
noncomputable abbrev N_told_sums : List Str := ["book", "stick", "way", "found"]
theorem sc_told_sums : FnScope N_told_sums ["book", "stick", "way"] (defScope s_told_sums) := ⟨rfl, rfl, rfl, by decide +kernel, rfl, by decide +kernel, by decide +kernel⟩
noncomputable abbrev N_Book_sum_of : List Str := ["self", "value", "number", "stick"]
theorem sc_Book_sum_of : FnScope N_Book_sum_of ["self", "value"] (defScope s_Book_sum_of) := ⟨rfl, rfl, rfl, by decide +kernel, rfl, by decide +kernel, by decide +kernel⟩
noncomputable abbrev N_Ledger_show : List Str := ["self", "sticks", "pairs", "stick", "pair"]
theorem sc_Ledger_show : FnScope N_Ledger_show ["self", "sticks"] (defScope s_Ledger_show) := ⟨rfl, rfl, rfl, by decide +kernel, rfl, by decide +kernel, by decide +kernel⟩
noncomputable abbrev N_Ledger_xinit : List Str := ["self", "book"]
theorem sc_Ledger_xinit : FnScope N_Ledger_xinit ["self", "book"] (defScope s_Ledger_xinit) := ⟨rfl, rfl, rfl, by decide +kernel, rfl, by decide +kernel, by decide +kernel⟩
noncomputable abbrev N_Desk_xinit : List Str := ["self"]
theorem sc_Desk_xinit : FnScope N_Desk_xinit ["self"] (defScope s_Desk_xinit) := ⟨rfl, rfl, rfl, by decide +kernel, rfl, by decide +kernel, by decide +kernel⟩
noncomputable abbrev N_law_box : List Str := ["_law_script", "_law_k", "_law_own", "_law_cell", "_law_seed", "_law_one"]
theorem sc_law_box : FnScope N_law_box ["_law_script", "_law_k", "_law_own"] (defScope s_law_box) := ⟨rfl, rfl, rfl, by decide +kernel, rfl, by decide +kernel, by decide +kernel⟩
noncomputable abbrev N_law_sum : List Str := ["_law_entries", "_law_stick", "_law_found", "_law_number", "_law_one"]
theorem sc_law_sum : FnScope N_law_sum ["_law_entries", "_law_stick"] (defScope s_law_sum) := ⟨rfl, rfl, rfl, by decide +kernel, rfl, by decide +kernel, by decide +kernel⟩
noncomputable abbrev N_law_is_within : List Str := ["_law_one", "_law_other", "_law_here", "_law_there"]
theorem sc_law_is_within : FnScope N_law_is_within ["_law_one", "_law_other"] (defScope s_law_is_within) := ⟨rfl, rfl, rfl, by decide +kernel, rfl, by decide +kernel, by decide +kernel⟩
noncomputable abbrev N_law_totals : List Str := ["_law_entries", "_law_sticks", "_law_stick", "_law_least", "_law_most", "_law_some", "_law_number", "_law_one"]
theorem sc_law_totals : FnScope N_law_totals ["_law_entries", "_law_sticks"] (defScope s_law_totals) := ⟨rfl, rfl, rfl, by decide +kernel, rfl, by decide +kernel, by decide +kernel⟩
noncomputable abbrev N_law_spoken : List Str := ["_law_entries", "_law_sticks", "_law_told", "_law_some", "_law_stick", "_law_one", "_law_total"]
theorem sc_law_spoken : FnScope N_law_spoken ["_law_entries", "_law_sticks"] (defScope s_law_spoken) := ⟨rfl, rfl, rfl, by decide +kernel, rfl, by decide +kernel, by decide +kernel⟩
noncomputable abbrev N_law_take : List Str := ["_law_box_here", "_law_limit", "_law_digit"]
theorem sc_law_take : FnScope N_law_take ["_law_box_here", "_law_limit"] (defScope s_law_take) := ⟨rfl, rfl, rfl, by decide +kernel, rfl, by decide +kernel, by decide +kernel⟩
noncomputable abbrev N_law_pick : List Str := ["_law_box_here", "_law_some"]
theorem sc_law_pick : FnScope N_law_pick ["_law_box_here", "_law_some"] (defScope s_law_pick) := ⟨rfl, rfl, rfl, by decide +kernel, rfl, by decide +kernel, by decide +kernel⟩
noncomputable abbrev N_law_any_stick : List Str := ["_law_box_here", "_law_places", "_law_signs", "_law_turn"]
theorem sc_law_any_stick : FnScope N_law_any_stick ["_law_box_here", "_law_places", "_law_signs"] (defScope s_law_any_stick) := ⟨rfl, rfl, rfl, by decide +kernel, rfl, by decide +kernel, by decide +kernel⟩
noncomputable abbrev N_law_near_stick : List Str := ["_law_box_here", "_law_one", "_law_at"]
theorem sc_law_near_stick : FnScope N_law_near_stick ["_law_box_here", "_law_one"] (defScope s_law_near_stick) := ⟨rfl, rfl, rfl, by decide +kernel, rfl, by decide +kernel, by decide +kernel⟩
noncomputable abbrev N_law_book : List Str := ["_law_box_here", "_law_places", "_law_most", "_law_turn", "_law_kept", "_law_order", "_law_found", "_law_one", "_law_form", "_law_number", "_law_stick", "_law_pair", "_law_other", "_law_more"]
theorem sc_law_book : FnScope N_law_book ["_law_box_here", "_law_places", "_law_most"] (defScope s_law_book) := ⟨rfl, rfl, rfl, by decide +kernel, rfl, by decide +kernel, by decide +kernel⟩
noncomputable abbrev N_law_pairs : List Str := ["_law_entries", "_law_found", "_law_one", "_law_stick", "_law_other", "_law_more"]
theorem sc_law_pairs : FnScope N_law_pairs ["_law_entries"] (defScope s_law_pairs) := ⟨rfl, rfl, rfl, by decide +kernel, rfl, by decide +kernel, by decide +kernel⟩
noncomputable abbrev N_law_frauds : List Str := ["_law_entries", "_law_found", "_law_one", "_law_other"]
theorem sc_law_frauds : FnScope N_law_frauds ["_law_entries"] (defScope s_law_frauds) := ⟨rfl, rfl, rfl, by decide +kernel, rfl, by decide +kernel, by decide +kernel⟩
noncomputable abbrev N_law_notched : List Str := ["_law_sticks", "_law_at", "_law_place", "_law_one"]
theorem sc_law_notched : FnScope N_law_notched ["_law_sticks", "_law_at", "_law_place"] (defScope s_law_notched) := ⟨rfl, rfl, rfl, by decide +kernel, rfl, by decide +kernel, by decide +kernel⟩
noncomputable abbrev N_law_plain : List Str := ["_law_stick", "_law_at", "_law_sign"]
theorem sc_law_plain : FnScope N_law_plain ["_law_stick"] (defScope s_law_plain) := ⟨rfl, rfl, rfl, by decide +kernel, rfl, by decide +kernel, by decide +kernel⟩
noncomputable abbrev N_law_shuffled : List Str := ["_law_box_here", "_law_some", "_law_turn", "_law_rest", "_law_found"]
theorem sc_law_shuffled : FnScope N_law_shuffled ["_law_box_here", "_law_some"] (defScope s_law_shuffled) := ⟨rfl, rfl, rfl, by decide +kernel, rfl, by decide +kernel, by decide +kernel⟩
noncomputable abbrev N_law_text : List Str := ["_law_entries", "_law_number", "_law_stick"]
theorem sc_law_text : FnScope N_law_text ["_law_entries"] (defScope s_law_text) := ⟨rfl, rfl, rfl, by decide +kernel, rfl, by decide +kernel, by decide +kernel⟩
noncomputable abbrev N_law_widest_lot : List Str := ["_law_entries", "_law_lot", "_law_pairs_here", "_law_lots", "_law_best", "_law_number", "_law_stick", "_law_near", "_law_one", "_law_other"]
theorem sc_law_widest_lot : FnScope N_law_widest_lot ["_law_entries"] (defScope s_law_widest_lot) := ⟨rfl, rfl, rfl, by decide +kernel, rfl, by decide +kernel, by decide +kernel⟩
noncomputable abbrev N_number_in : List Str := ["word", "sign"]
theorem sc_number_in : FnScope N_number_in ["word"] (defScope s_number_in) := ⟨rfl, rfl, rfl, by decide +kernel, rfl, by decide +kernel, by decide +kernel⟩
noncomputable abbrev N_numbers_told : List Str := ["words", "found", "word"]
theorem sc_numbers_told : FnScope N_numbers_told ["words"] (defScope s_numbers_told) := ⟨rfl, rfl, rfl, by decide +kernel, rfl, by decide +kernel, by decide +kernel⟩
noncomputable abbrev N_words_of : List Str := ["command"]
theorem sc_words_of : FnScope N_words_of ["command"] (defScope s_words_of) := ⟨rfl, rfl, rfl, by decide +kernel, rfl, by decide +kernel, by decide +kernel⟩
noncomputable abbrev N_Book_read : List Str := ["cls", "text", "found", "at", "line", "words"]
theorem sc_Book_read : FnScope N_Book_read ["cls", "text"] (defScope s_Book_read) := ⟨rfl, rfl, rfl, by decide +kernel, rfl, by decide +kernel, by decide +kernel⟩
noncomputable abbrev N_frauds : List Str := ["book", "way", "found", "one", "stick", "other", "later"]
theorem sc_frauds : FnScope N_frauds ["book", "way"] (defScope s_frauds) := ⟨rfl, rfl, rfl, by decide +kernel, rfl, by decide +kernel, by decide +kernel⟩
noncomputable abbrev N_notches : List Str := ["stick", "at", "sign"]
theorem sc_notches : FnScope N_notches ["stick"] (defScope s_notches) := ⟨rfl, rfl, rfl, by decide +kernel, rfl, by decide +kernel, by decide +kernel⟩
noncomputable abbrev N_is_within : List Str := ["one", "other", "at"]
theorem sc_is_within : FnScope N_is_within ["one", "other"] (defScope s_is_within) := ⟨rfl, rfl, rfl, by decide +kernel, rfl, by decide +kernel, by decide +kernel⟩
noncomputable abbrev N_Book_stick_of : List Str := ["self", "value", "number", "stick"]
theorem sc_Book_stick_of : FnScope N_Book_stick_of ["self", "value"] (defScope s_Book_stick_of) := ⟨rfl, rfl, rfl, by decide +kernel, rfl, by decide +kernel, by decide +kernel⟩
noncomputable abbrev N_lies_within : List Str := ["book", "one", "other"]
theorem sc_lies_within : FnScope N_lies_within ["book", "one", "other"] (defScope s_lies_within) := ⟨rfl, rfl, rfl, by decide +kernel, rfl, by decide +kernel, by decide +kernel⟩
noncomputable abbrev N_sums_of : List Str := ["book", "number", "stick"]
theorem sc_sums_of : FnScope N_sums_of ["book"] (defScope s_sums_of) := ⟨rfl, rfl, rfl, by decide +kernel, rfl, by decide +kernel, by decide +kernel⟩
noncomputable abbrev N_Pairing_follow : List Str := ["self", "one", "met", "other"]
theorem sc_Pairing_follow : FnScope N_Pairing_follow ["self", "one", "met"] (defScope s_Pairing_follow) := ⟨rfl, rfl, rfl, by decide +kernel, rfl, by decide +kernel, by decide +kernel⟩
noncomputable abbrev N_Pairing_xinit : List Str := ["self", "book", "one", "other"]
theorem sc_Pairing_xinit : FnScope N_Pairing_xinit ["self", "book"] (defScope s_Pairing_xinit) := ⟨rfl, rfl, rfl, by decide +kernel, rfl, by decide +kernel, by decide +kernel⟩
noncomputable abbrev N_Pairing_apart : List Str := ["self", "waiting", "first", "behind", "one", "other"]
theorem sc_Pairing_apart : FnScope N_Pairing_apart ["self"] (defScope s_Pairing_apart) := ⟨rfl, rfl, rfl, by decide +kernel, rfl, by decide +kernel, by decide +kernel⟩
noncomputable abbrev N_greatest_safe : List Str := ["book"]
theorem sc_greatest_safe : FnScope N_greatest_safe ["book"] (defScope s_greatest_safe) := ⟨rfl, rfl, rfl, by decide +kernel, rfl, by decide +kernel, by decide +kernel⟩
noncomputable abbrev N_joined : List Str := ["words", "found", "word"]
theorem sc_joined : FnScope N_joined ["words"] (defScope s_joined) := ⟨rfl, rfl, rfl, by decide +kernel, rfl, by decide +kernel, by decide +kernel⟩
noncomputable abbrev N_Ledger_undo : List Str := ["self", "sticks"]
theorem sc_Ledger_undo : FnScope N_Ledger_undo ["self"] (defScope s_Ledger_undo) := ⟨rfl, rfl, rfl, by decide +kernel, rfl, by decide +kernel, by decide +kernel⟩
noncomputable abbrev N_Desk_take_back : List Str := ["self"]
theorem sc_Desk_take_back : FnScope N_Desk_take_back ["self"] (defScope s_Desk_take_back) := ⟨rfl, rfl, rfl, by decide +kernel, rfl, by decide +kernel, by decide +kernel⟩
noncomputable abbrev N_Desk_alone : List Str := ["self", "word", "number", "total", "a", "b"]
theorem sc_Desk_alone : FnScope N_Desk_alone ["self", "word"] (defScope s_Desk_alone) := ⟨rfl, rfl, rfl, by decide +kernel, rfl, by decide +kernel, by decide +kernel⟩
noncomputable abbrev N_Book_xlen : List Str := ["self"]
theorem sc_Book_xlen : FnScope N_Book_xlen ["self"] (defScope s_Book_xlen) := ⟨rfl, rfl, rfl, by decide +kernel, rfl, by decide +kernel, by decide +kernel⟩
noncomputable abbrev N_Desk_begin : List Str := ["self", "book"]
theorem sc_Desk_begin : FnScope N_Desk_begin ["self", "book"] (defScope s_Desk_begin) := ⟨rfl, rfl, rfl, by decide +kernel, rfl, by decide +kernel, by decide +kernel⟩
noncomputable abbrev N_with_notch : List Str := ["stick", "place"]
theorem sc_with_notch : FnScope N_with_notch ["stick", "place"] (defScope s_with_notch) := ⟨rfl, rfl, rfl, by decide +kernel, rfl, by decide +kernel, by decide +kernel⟩
noncomputable abbrev N_Ledger_go_on : List Str := ["self", "sticks"]
theorem sc_Ledger_go_on : FnScope N_Ledger_go_on ["self", "sticks"] (defScope s_Ledger_go_on) := ⟨rfl, rfl, rfl, by decide +kernel, rfl, by decide +kernel, by decide +kernel⟩
noncomputable abbrev N_Ledger_notch : List Str := ["self", "at", "place", "stick"]
theorem sc_Ledger_notch : FnScope N_Ledger_notch ["self", "at", "place"] (defScope s_Ledger_notch) := ⟨rfl, rfl, rfl, by decide +kernel, rfl, by decide +kernel, by decide +kernel⟩
noncomputable abbrev N_Ledger_write : List Str := ["self", "value"]
theorem sc_Ledger_write : FnScope N_Ledger_write ["self", "value"] (defScope s_Ledger_write) := ⟨rfl, rfl, rfl, by decide +kernel, rfl, by decide +kernel, by decide +kernel⟩
noncomputable abbrev N_Desk_say : List Str := ["self", "command", "first", "words", "at", "place"]
theorem sc_Desk_say : FnScope N_Desk_say ["self", "command"] (defScope s_Desk_say) := ⟨rfl, rfl, rfl, by decide +kernel, rfl, by decide +kernel, by decide +kernel⟩
noncomputable abbrev N_law_told_right : List Str := ["_law_box_here", "_law_desk", "_law_states", "_law_at", "_law_place", "_law_entries", "_law_sticks", "_law_form", "_law_free", "_law_fresh", "_law_number", "_law_one"]
theorem sc_law_told_right : FnScope N_law_told_right ["_law_box_here", "_law_desk", "_law_states"] (defScope s_law_told_right) := ⟨rfl, rfl, rfl, by decide +kernel, rfl, by decide +kernel, by decide +kernel⟩
noncomputable abbrev N_Desk_xlen : List Str := ["self"]
theorem sc_Desk_xlen : FnScope N_Desk_xlen ["self"] (defScope s_Desk_xlen) := ⟨rfl, rfl, rfl, by decide +kernel, rfl, by decide +kernel, by decide +kernel⟩
noncomputable abbrev N_law : List Str := ["_law_script", "_law_k", "_law_box_here", "_law_turn", "_law_desk", "_law_states"]
theorem sc_law : FnScope N_law ["_law_script"] (defScope s_law) := ⟨rfl, rfl, rfl, by decide +kernel, rfl, by decide +kernel, by decide +kernel⟩
/-- what the classes are -/
structure Kf (K : PySem.W.Frag) (c : Cs) : Prop where
  o_Book_entries : FldOk K c.Book "entries"
  o_Book_length : FldOk K c.Book "length"
  o_Book_text : FldOk K c.Book "text"
  o_Way_how : FldOk K c.Way "how"
  o_Way_most : FldOk K c.Way "most"
  o_Way_part : FldOk K c.Way "part"
  o_Trial_held_ledger : FldOk K c.Trial "held_ledger"
  o_Trial_old_sticks : FldOk K c.Trial "old_sticks"
  o_Trial_old_sums : FldOk K c.Trial "old_sums"
  o_Trial_old_totals : FldOk K c.Trial "old_totals"
  o_Trial_old_past : FldOk K c.Trial "old_past"
  o_Ledger_book : FldOk K c.Ledger "book"
  o_Ledger_past : FldOk K c.Ledger "past"
  o_Ledger_sticks : FldOk K c.Ledger "sticks"
  o_Ledger_sums : FldOk K c.Ledger "sums"
  o_Ledger_totals : FldOk K c.Ledger "totals"
  o_Pairing_sums : FldOk K c.Pairing "sums"
  o_Pairing_above : FldOk K c.Pairing "above"
  o_Pairing_next_of : FldOk K c.Pairing "next_of"
  o_Pairing_from_of : FldOk K c.Pairing "from_of"
  o_Desk_going : FldOk K c.Desk "going"
  o_Desk_elders : FldOk K c.Desk "elders"
  o_Desk_deeds : FldOk K c.Desk "deeds"
/-- what the top has left -/
structure Txt (K : PySem.W.Frag) (mg : Str → Option Value) (c : Cs) : Prop where
  kf : Kf K c
  b_abs : mg "abs" = none
  b_all : mg "all" = none
  b_any : mg "any" = none
  b_bool : mg "bool" = none
  b_enumerate : mg "enumerate" = none
  b_int : mg "int" = none
  b_isinstance : mg "isinstance" = none
  b_len : mg "len" = none
  b_list : mg "list" = none
  b_max : mg "max" = none
  b_min : mg "min" = none
  b_range : mg "range" = none
  b_sorted : mg "sorted" = none
  b_str : mg "str" = none
  b_sum : mg "sum" = none
  b_tuple : mg "tuple" = none
  b_zip : mg "zip" = none
  c_HOWS : ∃ (T : Addr) (o : Obj) (n : Nat) (us : List Value), mg "HOWS" = some (.ref T) ∧ K.lookup T = some o ∧ o.cls = .type "tuple" ∧ o.data = .seq us.toArray n ∧ Vals ((["add", "lose", "mixed"] : List Str).map V.str) us ∧ us.length ≤ sizeLine
  c_NOTCHED : ∃ t, mg "NOTCHED" = some (.str "x" t)
  c_PAIR : ∃ t, mg "PAIR" = some (.int 2 t)
  c_PLAIN : ∃ t, mg "PLAIN" = some (.str "." t)
  k_Book : ClsAt K mg "Book" c.Book
  k_Way : ClsAt K mg "Way" c.Way
  k_Trial : ClsAt K mg "Trial" c.Trial
  k_Ledger : ClsAt K mg "Ledger" c.Ledger
  k_Pairing : ClsAt K mg "Pairing" c.Pairing
  k_Desk : ClsAt K mg "Desk" c.Desk
  f_is_integer : DefAt K mg "is_integer" s_is_integer
  f_is_stick : DefAt K mg "is_stick" s_is_stick
  f_is_entry : DefAt K mg "is_entry" s_is_entry
  f_is_sequence : DefAt K mg "is_sequence" s_is_sequence
  f_need_entries : DefAt K mg "need_entries" s_need_entries
  f_text_of_entries : DefAt K mg "text_of_entries" s_text_of_entries
  f_Book_xinit : ∃ e0 : Addr, EmT K e0 ∧ MetAt K c.Book "__init__" "Book.__init__" s_Book_xinit [.ref e0]
  f_is_from_zero : DefAt K mg "is_from_zero" s_is_from_zero
  f_Way_xinit : ∃ (t0 : Tok), MetAt K c.Way "__init__" "Way.__init__" s_Way_xinit [.str "add" t0, .none, .none]
  f_need_stick : DefAt K mg "need_stick" s_need_stick
  f_Way_lets : MetAt K c.Way "lets" "Way.lets" s_Way_lets []
  f_Way_can : MetAt K c.Way "can" "Way.can" s_Way_can []
  f_origins : DefAt K mg "origins" s_origins
  f_told_sums : DefAt K mg "told_sums" s_told_sums
  f_Book_sum_of : MetAt K c.Book "sum_of" "Book.sum_of" s_Book_sum_of []
  f_Ledger_show : MetAt K c.Ledger "show" "Ledger.show" s_Ledger_show []
  f_Ledger_xinit : MetAt K c.Ledger "__init__" "Ledger.__init__" s_Ledger_xinit []
  f_Desk_xinit : MetAt K c.Desk "__init__" "Desk.__init__" s_Desk_xinit []
  f_law_box : DefAt K mg "_law_box" s_law_box
  f_law_sum : DefAt K mg "_law_sum" s_law_sum
  f_law_is_within : DefAt K mg "_law_is_within" s_law_is_within
  f_law_totals : DefAt K mg "_law_totals" s_law_totals
  f_law_spoken : DefAt K mg "_law_spoken" s_law_spoken
  f_law_take : DefAt K mg "_law_take" s_law_take
  f_law_pick : DefAt K mg "_law_pick" s_law_pick
  f_law_any_stick : DefAt K mg "_law_any_stick" s_law_any_stick
  f_law_near_stick : DefAt K mg "_law_near_stick" s_law_near_stick
  f_law_book : DefAt K mg "_law_book" s_law_book
  f_law_pairs : DefAt K mg "_law_pairs" s_law_pairs
  f_law_frauds : DefAt K mg "_law_frauds" s_law_frauds
  f_law_notched : DefAt K mg "_law_notched" s_law_notched
  f_law_plain : DefAt K mg "_law_plain" s_law_plain
  f_law_shuffled : DefAt K mg "_law_shuffled" s_law_shuffled
  f_law_text : DefAt K mg "_law_text" s_law_text
  f_law_widest_lot : DefAt K mg "_law_widest_lot" s_law_widest_lot
  f_number_in : DefAt K mg "number_in" s_number_in
  f_numbers_told : DefAt K mg "numbers_told" s_numbers_told
  f_words_of : DefAt K mg "words_of" s_words_of
  f_Book_read : CmAt K c.Book "read" "Book.read" s_Book_read []
  f_frauds : DefAt K mg "frauds" s_frauds
  f_notches : DefAt K mg "notches" s_notches
  f_is_within : DefAt K mg "is_within" s_is_within
  f_Book_stick_of : MetAt K c.Book "stick_of" "Book.stick_of" s_Book_stick_of []
  f_lies_within : DefAt K mg "lies_within" s_lies_within
  f_sums_of : DefAt K mg "sums_of" s_sums_of
  f_Pairing_follow : MetAt K c.Pairing "follow" "Pairing.follow" s_Pairing_follow []
  f_Pairing_xinit : MetAt K c.Pairing "__init__" "Pairing.__init__" s_Pairing_xinit []
  f_Pairing_apart : MetAt K c.Pairing "apart" "Pairing.apart" s_Pairing_apart []
  f_greatest_safe : DefAt K mg "greatest_safe" s_greatest_safe
  f_joined : DefAt K mg "joined" s_joined
  f_Ledger_undo : MetAt K c.Ledger "undo" "Ledger.undo" s_Ledger_undo []
  f_Desk_take_back : MetAt K c.Desk "take_back" "Desk.take_back" s_Desk_take_back []
  f_Desk_alone : MetAt K c.Desk "alone" "Desk.alone" s_Desk_alone []
  f_Book_xlen : MetAt K c.Book "__len__" "Book.__len__" s_Book_xlen []
  f_Desk_begin : MetAt K c.Desk "begin" "Desk.begin" s_Desk_begin []
  f_with_notch : DefAt K mg "with_notch" s_with_notch
  f_Ledger_go_on : MetAt K c.Ledger "go_on" "Ledger.go_on" s_Ledger_go_on []
  f_Ledger_notch : MetAt K c.Ledger "notch" "Ledger.notch" s_Ledger_notch []
  f_Ledger_write : MetAt K c.Ledger "write" "Ledger.write" s_Ledger_write []
  f_Desk_say : MetAt K c.Desk "say" "Desk.say" s_Desk_say []
  f_law_told_right : DefAt K mg "_law_told_right" s_law_told_right
  f_Desk_xlen : MetAt K c.Desk "__len__" "Desk.__len__" s_Desk_xlen []
  f_law : DefAt K mg "law" s_law
theorem getD_z {ρ : Dl.Env} {d : Option Dl.D} : (d :: ρ).getD 0 none = d := rfl
theorem getD_s {ρ : Dl.Env} {d : Option Dl.D} {n : Nat} : (d :: ρ).getD (n + 1) none = ρ.getD n none := rfl
theorem set_z {ρ : Dl.Env} {d e : Option Dl.D} : (d :: ρ).set 0 e = e :: ρ := rfl
theorem set_s {ρ : Dl.Env} {d e : Option Dl.D} {n : Nat} : (d :: ρ).set (n + 1) e = d :: ρ.set n e := rfl
theorem ret_in {d : D} {μ μ0 : Store} {R : D → Store → Prop} (s : Dl.Sub μ0 μ) (h : R d μ0) : ∃ d' μ', Fz d μ d' μ' ∧ R d' μ' := ⟨d, μ0, .sub s, h⟩
theorem ret_eq {d : D} {μ : Store} {R : D → Store → Prop} (h : R d μ) : ∃ d' μ', Fz d μ d' μ' ∧ R d' μ' := ⟨d, μ, .sub (Dl.Sub.refl _), h⟩
theorem end_eq {μ : Store} {R : D → Store → Prop} (h : R .non μ) : ∃ μ', Dl.Sub μ' μ ∧ R .non μ' := ⟨μ, Dl.Sub.refl _, h⟩
theorem rng_inv {lo : Int} {n i : Nat} {d : D} (h : (rng lo n)[i]? = some d) : i < n ∧ d = .int (lo + (i : Nat)) := by
  by_cases q : i < n
  · rw [rng_get q] at h
    cases h
    exact ⟨q, rfl⟩
  · rw [List.getElem?_eq_none (by rw [rng_length]; omega)] at h
    cases h
/-- a loop by what holds between its turns -/
theorem for_by {its : List D} {g : WG} {wb : WS} {W : WEnds} {ρ : Dl.Env} {μ : Store} (I : Nat → Dl.Env → Store → Prop) (h0 : I 0 ρ μ)
    (ht : ∀ i d ρ' μ', its[i]? = some d → I i ρ' μ' → g d ρ' μ' fun ρ2 μ2 => wb { W with nx := I (i + 1), ct := I (i + 1), bk := W.nx } ρ2 μ2) (he : ∀ ρ' μ', I its.length ρ' μ' → W.nx ρ' μ') : forBody its g wb W ρ μ := ⟨I, h0, ht, he⟩
/-- .. over a range -/
theorem for_rng {lo : Int} {n : Nat} {g : WG} {wb : WS} {W : WEnds} {ρ : Dl.Env} {μ : Store} (I : Nat → Dl.Env → Store → Prop) (h0 : I 0 ρ μ)
    (ht : ∀ (i : Nat) ρ' μ', i < n → I i ρ' μ' → g (.int (lo + (i : Nat))) ρ' μ' fun ρ2 μ2 => wb { W with nx := I (i + 1), ct := I (i + 1), bk := W.nx } ρ2 μ2) (he : ∀ ρ' μ', I n ρ' μ' → W.nx ρ' μ') : forBody (rng lo n) g wb W ρ μ :=
  ⟨I, h0, fun i d ρ' μ' hd h => by
    obtain ⟨h1, rfl⟩ := rng_inv hd
    exact ht i ρ' μ' h1 h, by rw [rng_length]; exact he⟩
theorem le_line {n : Nat} (h : n ≤ 1000000) : n ≤ sizeLine := Nat.le_trans h (by decide)
theorem lc_ix {its : List D} {g : WG} {te : WE} {vs : List Nat} {fin : Addr → List D → Store → Prop} {ρ : Dl.Env} {μ : Store} (ys : List D) (hlen : ys.length = its.length) (hz : its.length ≤ sizeLine)
    (h : ∀ (i : Nat) (d y : D) (μ' : Store) (R : D → Store → Prop), its[i]? = some d → ys[i]? = some y → Dl.Sub μ μ' → R y μ' → g d (wipeE ρ vs) μ' fun ρ2 μ2 => te ρ2 μ2 R)
    (q : ∀ L, μ L = none → fin L ys (setS μ L (.lst ys))) : lcBody its g wYes te vs fin ρ μ := by
  refine ⟨hz, fun L hL => ⟨fun i acc μ' => acc = ys.take i ∧ μ' = setS μ L (.lst acc), ⟨rfl, rfl⟩, ?_, ?_⟩⟩
  · rintro i d acc μ' hd hu ⟨rfl, rfl⟩
    have hi : i < ys.length := by have := (List.getElem?_eq_some_iff.mp hd).1; omega
    have hy : ys[i]? = some ys[i] := List.getElem?_eq_getElem hi
    have sb : Dl.Sub μ (setS μ L (.lst (ys.take i))) := fun a c e => by
      have : a ≠ L := by rintro rfl; rw [hL] at e; cases e
      rw [setS_ne this]; exact e
    refine h i d ys[i] _ _ hd hy sb ⟨setS_same, ?_, ?_⟩
    · rw [List.take_add_one, hy]; rfl
    · rw [setS_setS]
  · rintro acc μ' _ _ ⟨rfl, rfl⟩
    rw [← hlen, List.take_length]
    exact q L hL
theorem oAdd_int {a b : Int} {μ : Store} {P : D → Store → Prop} : oAdd (.int a) (.int b) μ P = P (.int (a + b)) μ := rfl
theorem oAdd_str {a b : Str} {μ : Store} {P : D → Store → Prop} : oAdd (.str a) (.str b) μ P = (a.length + b.length ≤ sizeLine ∧ P (.str (a ++ b)) μ) := rfl
theorem oAdd_tup {a b : List D} {μ : Store} {P : D → Store → Prop} : oAdd (.tup a) (.tup b) μ P = (a.length + b.length ≤ sizeLine ∧ P (.tup (a ++ b)) μ) := rfl
theorem oAdd_lst {a b : List D} {μ : Store} {P : D → Store → Prop} : oAdd (.lst a) (.lst b) μ P = (a.length + b.length ≤ sizeLine ∧ P (.lst (a ++ b)) μ) := rfl
theorem oEq_int {a b : Int} {μ : Store} {P : D → Store → Prop} : oEq (.int a) (.int b) μ P = P (.bl (decide (a = b))) μ := rfl
theorem oNe_int {a b : Int} {μ : Store} {P : D → Store → Prop} : oNe (.int a) (.int b) μ P = P (.bl (!decide (a = b))) μ := rfl
theorem oEq_bl {a b : Bool} {μ : Store} {P : D → Store → Prop} : oEq (.bl a) (.bl b) μ P = P (.bl (a == b)) μ := rfl
theorem oNe_bl {a b : Bool} {μ : Store} {P : D → Store → Prop} : oNe (.bl a) (.bl b) μ P = P (.bl (!(a == b))) μ := rfl
theorem oEq_str {a b : Str} {μ : Store} {P : D → Store → Prop} : oEq (.str a) (.str b) μ P = P (.bl (a == b)) μ := rfl
theorem oNe_str {a b : Str} {μ : Store} {P : D → Store → Prop} : oNe (.str a) (.str b) μ P = P (.bl (!(a == b))) μ := rfl
local macro_rules | `(tactic| walk_at "dx") => `(tactic| simp only [wSeq, wIfS, wB, wTrv, truD, okLen, wOp, wVar, wC, wAsg, wgName, wgCons, wgNil, wgTup, wRet, wRetN, wDrop, wNext, wNever, wBreak, wCont, wACons, wANil, wTup, wLst, wLstM, wCB,
  wAnd, wOr, wNt, wAndV, wOrV, wNotV, wIf, wChain, wIx, oIx, wgSub, oSet, wPar, wPar3, wCall, wYes, wFor, wiSeq, wiRng1, wiRng2, itemsD, wLc, wLcM, wLcG, wLc2, wLc2M, wLcG2, oPopAt, oPop, wRev, wRevM, oAppend, wipeE, insD, seqA, seqR, seqL, setS_same,
  oAdd_int, oAdd_str, oAdd_tup, oAdd_lst, wgLst, wAStar, wAsgF, xN, xSeq, xIf, xDrop, xRet, xAsg, xRaise0, xRaise1, xCall, wTryAs, oSub, oMul, oFdiv, oMod, oPow, oI, oI0, oLt, oLe, oGt, oGe, oEq_int, oNe_int, oEq_bl, oNe_bl, oEq_str, oNe_str, oLen, lenD, oAbs, oInt, oStr, oRepr, oMin, oMax, oAll, oAny, oSum, oTuple, oList, wBM, oJoin, oCount, oIsi, tyD, isTy, oIn, oNotIn, oInW, sqD, seqL, seqR, seqA, wAug, oIAdd, oISub, wJoin, wJs, wFmt, wSl, wNoP, wPart, oSlice, wNeg, oIs, oIsNot, wiEnum, wDisp, wPairs,
  getD_z, getD_s, set_z, set_s, decide_eq_true_eq, Bool.not_eq_true', decide_eq_false_iff_not, List.nil_append, List.cons_append, true_and, and_true, not_true_eq_false, not_false_eq_true, Bool.false_eq_true, Bool.true_eq_false, BEq.rfl, Bool.not_true, Bool.not_false, decide_true, ite_true, ite_false, if_true, if_false])
local macro_rules | `(tactic| walk_at "dxs") => `(tactic| simp only [wSeq, wIfS, wB, wTrv, truD, okLen, wOp, wVar, wC, wAsg, wgName, wgCons, wgNil, wgTup, wRet, wRetN, wDrop, wNext, wNever, wBreak, wCont, wACons, wANil, wTup, wLst, wLstM, wCB,
  wAnd, wOr, wNt, wAndV, wOrV, wNotV, wIf, wChain, wIx, oIx, wgSub, oSet, wPar, wPar3, wCall, wYes, wFor, wiSeq, wiRng1, wiRng2, itemsD, wLc, wLcM, wLcG, wLc2, wLc2M, wLcG2, oPopAt, oPop, wRev, wRevM, oAppend, wipeE, insD, seqA, seqR, seqL, setS_same,
  oAdd_int, oAdd_str, oAdd_tup, oAdd_lst, wgLst, wAStar, wAsgF, xN, xSeq, xIf, xDrop, xRet, xAsg, xRaise0, xRaise1, xCall, wTryAs, oSub, oMul, oFdiv, oMod, oPow, oI, oI0, oLt, oLe, oGt, oGe, oEq_int, oNe_int, oEq_bl, oNe_bl, oEq_str, oNe_str, oLen, lenD, oAbs, oInt, oStr, oRepr, oMin, oMax, oAll, oAny, oSum, oTuple, oList, wBM, oJoin, oCount, oIsi, tyD, isTy, oIn, oNotIn, oInW, sqD, seqL, seqR, seqA, wAug, oIAdd, oISub, wJoin, wJs, wFmt, wSl, wNoP, wPart, oSlice, wNeg, oIs, oIsNot, wiEnum, wDisp, wPairs,
  getD_z, getD_s, set_z, set_s, decide_eq_true_eq, Bool.not_eq_true', decide_eq_false_iff_not, List.nil_append, List.cons_append, true_and, and_true, not_true_eq_false, not_false_eq_true, Bool.false_eq_true, Bool.true_eq_false, BEq.rfl, Bool.not_true, Bool.not_false, decide_true, ite_true, ite_false, if_true, if_false, *])
noncomputable def spL : DSp := fun ds μ Q => ∃ ns : List Int, ds = [.scr (ns.map .int)] ∧ ns.length ≤ 63 ∧ ∀ μ', Q (.bl true) μ'
theorem len_spL : ∀ ds μ Q, spL ds μ Q → ds.length = 1 := by
  rintro ds μ Q ⟨ns, rfl, _⟩
  rfl
theorem rps_ints {K : PySem.W.Frag} {G : Hp} : ∀ ns : List Int, Rps K G (ns.map D.int) (ns.map V.int)
  | [] => .nil
  | n :: ns => .cons (.int n) (rps_ints ns)
theorem lsp_law {K : PySem.W.Frag} {H : Hp} {a : Addr} {ns : List Int} (hl : ns.length ≤ 63) (hO : Only H) (hS : SqL K H a (ns.map V.int)) {E : XK} : LSp K spL [.ref a] H (fun v _ => v = .bl true) E := by
  have hs : ScrAt K H a (ns.map V.int) := by
    rcases hS with h | h
    · rcases h with h | ⟨o, h⟩
      · rcases hO a with h2 | ⟨o, xs, h2⟩
        · rw [h2] at h; cases h
        · rw [h2] at h; cases h
      · exact .inl ⟨o, h⟩
    · exact .inr h
  refine ⟨[.scr (ns.map .int)], fun _ => none, H, fun d _ => d = .bl true, .cons (.scr hs (rps_ints ns)) .nil, ⟨fun _ _ h => h, fun _ _ h => nomatch h⟩, ⟨ns, rfl, hl, fun _ => rfl⟩, ?_⟩
  rintro d μ' v H' G' rfl _ _ r
  cases r
  rfl
noncomputable def BoxV (d : List D) : Prop := ∃ a s : Int, d = [.int a, .int s] ∧ 0 ≤ a ∧ (0 ≤ s ∧ s < 4294967296)
theorem atI_ints {ns : List Int} {k : Int} (h0 : 0 ≤ k) (h1 : k < ns.length) : ∃ z, atI (ns.map D.int) k = some (.int z) := by
  obtain ⟨j, rfl⟩ : ∃ j : Nat, k = (j : Int) := ⟨k.toNat, by omega⟩
  have hj : j < ns.length := by omega
  exact ⟨ns[j], atI_nat (by simp [hj])⟩
theorem em_lo {a b : Int} (h : 0 < b) : 0 ≤ a % b := Int.emod_nonneg _ (by omega)
theorem em_hi {a b : Int} (h : 0 < b) : a % b < b := Int.emod_lt_of_pos _ h
theorem at2_0 {a b : D} : atI [a, b] 0 = some a := rfl
theorem at2_1 {a b : D} : atI [a, b] 1 = some b := rfl
theorem ix2_0 : ixN 2 0 = some 0 := rfl
theorem ix2_1 : ixN 2 1 = some 1 := rfl
noncomputable def ch : Nat → Nat → Nat
  | _, 0 => 1
  | 0, _ + 1 => 0
  | n + 1, k + 1 => ch n k + ch n (k + 1)
noncomputable def sg (b : Bool) : Nat := if b then 120 else 46
noncomputable def stk (bs : List Bool) : Str := ⟨(bs.map sg).toArray⟩
theorem stk_nil : ("" : Str) = stk [] := by decide +kernel
theorem stk_p : ("." : Str) = stk [false] := by decide +kernel
theorem stk_x : ("x" : Str) = stk [true] := by decide +kernel
theorem stk_cps (bs : List Bool) : (stk bs).cps = (bs.map sg).toArray := rfl
theorem str_ext {a b : Str} (h : a.cps.toList = b.cps.toList) : a = b := by
  cases a; cases b; simp at h; simp [h]
theorem app_cps (a b : Str) : (a ++ b).cps = a.cps ++ b.cps := rfl
theorem stk_app (a b : List Bool) : stk a ++ stk b = stk (a ++ b) := str_ext (by rw [app_cps]; simp [stk])
theorem stk_len (a : List Bool) : (stk a).length = a.length := by show (stk a).cps.size = _; simp [stk]
theorem sg_inj {a b : Bool} (h : sg a = sg b) : a = b := by cases a <;> cases b <;> first | rfl | exact absurd h (by decide)
theorem map_sg_inj : ∀ {a b : List Bool}, a.map sg = b.map sg → a = b
  | [], [], _ => rfl
  | [], _ :: _, h => by simp at h
  | _ :: _, [], h => by simp at h
  | x :: a, y :: b, h => by
    simp only [List.map_cons, List.cons.injEq] at h
    rw [sg_inj h.1, map_sg_inj h.2]
theorem stk_inj {a b : List Bool} (h : stk a = stk b) : a = b := map_sg_inj (by have := congrArg (fun s : Str => s.cps.toList) h; simpa [stk] using this)
theorem stk_beq (a b : List Bool) : (stk a == stk b) = decide (a = b) := by
  by_cases h : a = b
  · subst h; simp
  · rw [decide_eq_false h, beq_eq_false_iff_ne]
    exact fun q => h (stk_inj q)
theorem chars_stk (a : List Bool) : chars (stk a) = a.map fun b => .str (stk [b]) := by
  simp [chars, stk]
/-- how many are notched -/
noncomputable def cnt : List Bool → Nat
  | [] => 0
  | true :: r => cnt r + 1
  | false :: r => cnt r
theorem cnt_le : ∀ bs : List Bool, cnt bs ≤ bs.length
  | [] => Nat.le_refl _
  | true :: r => Nat.succ_le_succ (cnt_le r)
  | false :: r => Nat.le_succ_of_le (cnt_le r)
theorem join_eqS (y : Str) (parts : List Str) : Txt.join y parts = Str.join y parts := StrLaws.glued_eq_join y parts
/-- the texts one behind the other -/
theorem join_stk : ∀ f : List (List Bool), Txt.join (stk []) (f.map stk) = stk f.flatten
  | [] => by rw [join_eqS]; rfl
  | [x] => by rw [join_eqS]; simp [Str.join]
  | x :: y :: r => by
    have ih := join_stk (y :: r)
    rw [join_eqS] at ih ⊢
    show stk x ++ stk [] ++ Str.join (stk []) ((y :: r).map stk) = _
    rw [ih, stk_app, stk_app]
    simp
theorem flat_one : ∀ bs : List Bool, (bs.map fun b => [b]).flatten = bs
  | [] => rfl
  | b :: r => by rw [List.map_cons, List.flatten_cons, flat_one r]; rfl
theorem join_one (bs : List Bool) : Txt.join (stk []) (bs.map fun b => stk [b]) = stk bs := by
  have h := join_stk (bs.map fun b => [b])
  rw [List.map_map] at h
  rw [flat_one] at h
  exact h
theorem lens_one (bs : List Bool) : ((bs.map fun b => stk [b]).map (·.length)).sum = bs.length := by
  induction bs with
  | nil => rfl
  | cons b r ih => rw [List.map_cons, List.map_cons, List.sum_cons, ih, stk_len]; simp; omega
theorem strs_one (bs : List Bool) : strsD (bs.map fun b => D.str (stk [b])) = some (bs.map fun b => stk [b]) := by
  have h := strsD_map (bs.map fun b => stk [b])
  rw [List.map_map] at h
  exact h
theorem tyM_str {μ : Store} {s : Str} : tyM "str" μ (.str s) = True := by simp [tyM]
/-- all but the cell at p as it was -/
noncomputable def Mut (p : Addr) (μ μ' : Store) : Prop := ∀ a c, a ≠ p → μ a = some c → μ' a = some c
theorem Mut.set {p : Addr} {μ : Store} {c : Cell} : Mut p μ (setS μ p c) := fun a d h q => by rw [setS_ne h]; exact q
theorem Mut.refl {p : Addr} {μ : Store} : Mut p μ μ := fun _ _ _ q => q
theorem Mut.trans {p : Addr} {a b c : Store} (h : Mut p a b) (k : Mut p b c) : Mut p a c := fun x d n q => k x d n (h x d n q)
/-- where it is notched -/
noncomputable def idxFrom : Nat → List Bool → List Nat
  | _, [] => []
  | k, true :: r => k :: idxFrom (k + 1) r
  | k, false :: r => idxFrom (k + 1) r
theorem idx_length : ∀ (k : Nat) (bs : List Bool), (idxFrom k bs).length = cnt bs
  | _, [] => rfl
  | k, true :: r => by show (idxFrom (k + 1) r).length + 1 = cnt r + 1; rw [idx_length]
  | k, false :: r => idx_length (k + 1) r
theorem in_px (b : Bool) : inD (.str (stk [b])) [.str (stk [false]), .str (stk [true])] = true := by cases b <;> decide +kernel
noncomputable def xPick (d : D) : Option D := match d with | .tup [.int i, .str s] => if s = stk [true] then some (.int i) else none | _ => none
theorem enum_pick : ∀ (k : Nat) (bs : List Bool), (((bs.map fun b => D.str (stk [b])).zipIdx k).map fun p => D.tup [.int (p.2 : Nat), p.1]).filterMap xPick = (idxFrom k bs).map fun i => D.int (i : Nat)
  | _, [] => rfl
  | k, true :: r => by
    have ih := enum_pick (k + 1) r
    rw [List.map_cons, List.zipIdx_cons, List.map_cons, List.filterMap_cons]
    have e : xPick (D.tup [.int (k : Nat), .str (stk [true])]) = some (.int (k : Nat)) := by simp [xPick]
    simp only [e, ih]
    rfl
  | k, false :: r => by
    have ih := enum_pick (k + 1) r
    rw [List.map_cons, List.zipIdx_cons, List.map_cons, List.filterMap_cons]
    have e : xPick (D.tup [.int (k : Nat), .str (stk [false])]) = none := by
      have : ¬ (stk [false] = stk [true]) := fun h => by have := stk_inj h; simp at this
      simp [xPick, this]
    simp only [e, ih]
    rfl
theorem enum_stk (bs : List Bool) : enumD (chars (stk bs)) = ((bs.map fun b => D.str (stk [b])).zipIdx.map fun p => D.tup [.int (p.2 : Nat), p.1]) := by rw [chars_stk]; rfl
theorem enum_at {bs : List Bool} {i : Nat} {d : D} (h : (enumD (chars (stk bs)))[i]? = some d) : ∃ b, bs[i]? = some b ∧ d = .tup [.int (i : Nat), .str (stk [b])] := by
  rw [enum_stk, List.getElem?_map, List.getElem?_zipIdx, List.getElem?_map] at h
  cases q : bs[i]? with
  | none => rw [q] at h; cases h
  | some b =>
    rw [q] at h
    simp at h
    exact ⟨b, rfl, h.symm⟩
/-- its number among those with as many notches -/
noncomputable def num : List Bool → Nat
  | [] => 0
  | true :: r => ch r.length (cnt r + 1) + num r
  | false :: r => num r
noncomputable def sD (bs : List Bool) : D := .str (stk bs)
theorem sg_lt (b : Bool) : sg b < 0x110000 := by cases b <;> decide
theorem stk_ok (bs : List Bool) : PyData.strOk (stk bs) = true := by
  unfold PyData.strOk
  rw [stk_cps, List.all_toArray, List.all_map, List.all_eq_true]
  intro b _
  exact decide_eq_true (sg_lt b)
noncomputable def eStk : Enc (List Bool) := ⟨sD, fun bs => .str (stk bs), fun _ => by rw [sD, pyD], fun bs => by rw [PyData.canLay0]; exact stk_ok bs, 0, fun _ => by rw [PyData.depth]; exact Nat.le_refl _, fun a b => by rw [PyData.eqv]; exact stk_beq a b⟩
noncomputable def DealAt (μ : Store) (p q : Addr) : Prop := p ≠ q ∧ ∃ (xs : List Nat) (b : Nat), μ p = some (.lst [.ref q, .int b]) ∧ μ q = some (.lst (xs.map eNat.enc)) ∧ xs.length ≤ 1000
noncomputable def Mut2 (p q : Addr) (μ μ' : Store) : Prop := ∀ a c, a ≠ p → a ≠ q → μ a = some c → μ' a = some c
theorem Mut2.refl {p q : Addr} {μ : Store} : Mut2 p q μ μ := fun _ _ _ _ h => h
theorem Mut2.trans {p q : Addr} {a b c : Store} (h : Mut2 p q a b) (k : Mut2 p q b c) : Mut2 p q a c := fun x d h1 h2 h3 => k x d h1 h2 (h x d h1 h2 h3)
noncomputable def eTxt : Enc {s : Str // PyData.strOk s = true} := ⟨fun s => .str s.1, fun s => .str s.1, fun _ => by rw [pyD], fun s => by rw [PyData.canLay0]; exact s.2, 0, fun _ => by rw [PyData.depth]; exact Nat.le_refl _, fun a b => by
  rw [PyData.eqv]
  by_cases h : a = b
  · subst h; simp
  · have h2 : ¬ a.1 = b.1 := fun z => h (Subtype.ext z)
    simp [h, h2]⟩
/-- every notch of the one is notched in the other -/
noncomputable def subB : List Bool → List Bool → Bool
  | [], _ => true
  | _, [] => true
  | a :: as, b :: bs => (!a || b) && subB as bs
theorem subB_cnt : ∀ {a b : List Bool}, a.length = b.length → subB a b = true → cnt a ≤ cnt b ∧ (a ≠ b → cnt a < cnt b)
  | [], [], _, _ => ⟨Nat.le_refl _, fun h => absurd rfl h⟩
  | x :: a, y :: b, h, hs => by
    simp only [subB, Bool.and_eq_true] at hs
    obtain ⟨i1, i2⟩ := subB_cnt (by simpa using h) hs.2
    cases x <;> cases y
    · refine ⟨i1, fun q => i2 fun z => q (by rw [z])⟩
    · show cnt a ≤ cnt b + 1 ∧ (_ → cnt a < cnt b + 1)
      exact ⟨by omega, fun _ => by omega⟩
    · simp at hs
    · show cnt a + 1 ≤ cnt b + 1 ∧ (_ → cnt a + 1 < cnt b + 1)
      exact ⟨by omega, fun q => by have := i2 fun z => q (by rw [z]); omega⟩
theorem cut_stk (bs : List Bool) (n : Nat) (h : n ≤ bs.length) : cutS (stk bs) none (some (n : Int)) = stk (bs.take n) := by
  apply str_ext
  unfold cutS
  have hl := stk_len bs
  simp only [hl, HT.sIx_none, HT.sIx_nat, List.drop_zero, Nat.sub_zero, Nat.min_eq_left h]
  simp [stk, List.map_take]
theorem goes_eq : ∀ {a b : List Bool}, a.length = b.length → (List.range a.length).all (fun i => decide (a[i]? = b[i]?) || decide (b[i]? = some true)) = subB a b
  | [], [], _ => rfl
  | x :: a, y :: b, h => by
    have ih := goes_eq (a := a) (b := b) (by simpa using h)
    rw [List.length_cons, List.range_succ_eq_map, List.all_cons, List.all_map]
    simp only [Function.comp_def, List.getElem?_cons_succ, List.getElem?_cons_zero, Nat.succ_eq_add_one]
    rw [ih]
    cases x <;> cases y <;> simp [subB]
theorem stk_at {b : List Bool} {i : Nat} {x : Bool} (h : b[i]? = some x) : atI (stk b).cps.toList ((i : Nat) : Int) = some (sg x) := atI_nat (by simp [stk, h])
theorem one_stk (x : Bool) : (⟨#[sg x]⟩ : Str) = stk [x] := rfl
theorem zero_add_nat (i : Nat) : (0 : Int) + (i : Int) = (i : Nat) := by omega
theorem fm_congr {α β : Type} {f g : α → Option β} : ∀ {l : List α}, (∀ x ∈ l, f x = g x) → l.filterMap f = l.filterMap g
  | [], _ => rfl
  | a :: l, h => by
    rw [List.filterMap_cons, List.filterMap_cons, h a List.mem_cons_self, fm_congr fun x hx => h x (List.mem_cons_of_mem _ hx)]
theorem fm_if {α β : Type} (p : α → Bool) (h : α → β) : ∀ l : List α, l.filterMap (fun i => if p i = true then some (h i) else none) = (l.filter p).map h
  | [] => rfl
  | a :: l => by
    rw [List.filterMap_cons, List.filter_cons]
    by_cases q : p a = true
    · simp only [q, if_true, List.map_cons, fm_if p h l]
    · have q' : p a = false := by simpa using q
      simp only [q', Bool.false_eq_true, if_false, fm_if p h l]
/-- the places where two differ -/
noncomputable def dif (a b : List Bool) : List Nat := (List.range a.length).filter fun i => !decide (a[i]? = b[i]?)
theorem dif_all {a b : List Bool} (h : a.length = b.length) : (dif a b).all (fun i => decide (b[i]? = some true)) = subB a b := by
  rw [← goes_eq h]
  unfold dif
  rw [List.all_filter]
  congr 1
  funext i
  cases decide (a[i]? = b[i]?) <;> simp
noncomputable def difF (a b : List Bool) (d : D) : Option D := match d with | .int i => if (!decide (a[i.toNat]? = b[i.toNat]?)) = true then some (.int i) else none | _ => none
theorem dif_pick (a b : List Bool) : (rng 0 a.length).filterMap (difF a b) = (dif a b).map eNat.enc := by
  unfold rng dif
  rw [List.filterMap_map, ← fm_if]
  apply fm_congr
  intro i _
  show (if (!decide (a[((0 : Int) + (i : Nat)).toNat]? = b[((0 : Int) + (i : Nat)).toNat]?)) = true then some (D.int (0 + (i : Nat))) else none) = _
  rw [zero_add_nat]
  rfl
inductive How where
  | add | lose | mix
  deriving DecidableEq
noncomputable def howS : How → Str
  | .add => "add" | .lose => "lose" | .mix => "mixed"
structure W3 where
  how : How
  most : Option Nat
  part : Option (List Nat)
  deriving DecidableEq
noncomputable def nD' : Option Nat → D
  | none => .non
  | some m => .int m
noncomputable def ptD : Option (List Nat) → D
  | none => .non
  | some l => .tup (l.map eNat.enc)
noncomputable def paD : Option (List Nat) → D
  | none => .non
  | some l => .lst (l.map eNat.enc)
noncomputable def wayD (C : Addr) (w : W3) : D := .obj C [("how", .str (howS w.how)), ("most", nD' w.most), ("part", ptD w.part)]
theorem lk_how {a b d : D} : look [(("how" : Str), a), ("most", b), ("part", d)] "how" = some a := by rfl
theorem lk_most {a b d : D} : look [(("how" : Str), a), ("most", b), ("part", d)] "most" = some b := by rfl
theorem lk_part {a b d : D} : look [(("how" : Str), a), ("most", b), ("part", d)] "part" = some d := by rfl
theorem lk_lets {a b d : D} : look [(("how" : Str), a), ("most", b), ("part", d)] "lets" = none := by rfl
theorem lk_can {a b d : D} : look [(("how" : Str), a), ("most", b), ("part", d)] "can" = none := by rfl
theorem how_add (h : How) : (howS h == ("add" : Str)) = decide (h = .add) := by cases h <;> decide +kernel
theorem how_mix (h : How) : (howS h == ("mixed" : Str)) = decide (h = .mix) := by cases h <;> decide +kernel
theorem how_in (h : How) : inD (.str (howS h)) [.str "add", .str "lose", .str "mixed"] = true := by cases h <;> decide +kernel
/-- what the places are, each once, ascending -/
noncomputable def nrm (l : List Nat) : List Nat := (List.range 1000).filter fun i => decide (i ∈ l)
theorem nrm_mem {l : List Nat} (h : ∀ i ∈ l, i < 1000) {i : Nat} : i ∈ nrm l ↔ i ∈ l := by
  unfold nrm
  rw [List.mem_filter, List.mem_range, decide_eq_true_eq]
  exact ⟨fun q => q.2, fun q => ⟨h i q, q⟩⟩
theorem nrm_sorted (l : List Nat) : (nrm l).Pairwise (· < ·) := List.Pairwise.filter _ List.pairwise_lt_range
theorem sorted_eq : ∀ {a b : List Nat}, a.Pairwise (· < ·) → b.Pairwise (· < ·) → (∀ i, i ∈ a ↔ i ∈ b) → a = b
  | [], [], _, _, _ => rfl
  | [], y :: b, _, _, h => by have := (h y).mpr List.mem_cons_self; cases this
  | x :: a, [], _, _, h => by have := (h x).mp List.mem_cons_self; cases this
  | x :: a, y :: b, ha, hb, h => by
    have h1 := List.pairwise_cons.mp ha
    have h2 := List.pairwise_cons.mp hb
    have e : x = y := by
      have p1 := (h x).mp List.mem_cons_self
      have p2 := (h y).mpr List.mem_cons_self
      rcases List.mem_cons.mp p1 with e | p1
      · exact e
      · rcases List.mem_cons.mp p2 with e | p2
        · exact e.symm
        · have := h1.1 y p2; have := h2.1 x p1; omega
    subst e
    rw [sorted_eq h1.2 h2.2 fun i => ?_]
    constructor
    · intro q
      have := h1.1 i q
      rcases List.mem_cons.mp ((h i).mp (List.mem_cons_of_mem _ q)) with e | r
      · omega
      · exact r
    · intro q
      have := h2.1 i q
      rcases List.mem_cons.mp ((h i).mpr (List.mem_cons_of_mem _ q)) with e | r
      · omega
      · exact r
noncomputable def okM : Option Nat → Nat → Bool
  | none, _ => true
  | some m, n => decide (n ≤ m)
noncomputable def okP : Option (List Nat) → List Nat → Bool
  | none, _ => true
  | some l, is => is.all fun i => decide (i ∈ l)
noncomputable def okH : How → List Bool → List Bool → List Nat → Bool
  | .add, _, b, is => is.all fun i => decide (b[i]? = some true)
  | .lose, a, _, is => is.all fun i => decide (a[i]? = some true)
  | .mix, _, _, _ => true
noncomputable def letsW (w : W3) (a b : List Bool) (is : List Nat) : Bool := okM w.most is.length && (okP w.part is && okH w.how a b is)
noncomputable def canW (w : W3) (a b : List Bool) : Bool := decide (a.length = b.length) && letsW w a b (dif a b)
theorem in_nats (i : Nat) (l : List Nat) : inD (.int (i : Nat)) (l.map eNat.enc) = decide (i ∈ l) := by
  unfold inD inV
  induction l with
  | nil => rfl
  | cons x r ih =>
    simp only [List.map_cons] at ih ⊢
    rw [List.any_cons, ih]
    have e : eqV (toV (.int (x : Nat))) (toV (.int (i : Nat))) = decide (i = x) := by
      show ((x : Int) == (i : Int)) = _
      rw [Bool.eq_iff_iff]
      simp
      omega
    rw [Bool.eq_iff_iff]
    simp [eNat, e]
theorem putD_fst {κ β : Type} [DecidableEq κ] (acc : List (κ × β)) (k : κ) (v : β) : (putD acc k v).map (·.1) = if k ∈ acc.map (·.1) then acc.map (·.1) else acc.map (·.1) ++ [k] := by
  unfold putD
  by_cases h : k ∈ acc.map (·.1)
  · rw [if_pos h, if_pos]
    · rw [List.map_map]
      apply List.map_congr_left
      intro kv _
      show (if kv.1 = k then (kv.1, v) else kv).1 = kv.1
      split <;> rfl
    · rw [List.any_eq_true]
      obtain ⟨kv, h1, h2⟩ := List.mem_map.mp h
      exact ⟨kv, h1, decide_eq_true h2⟩
  · rw [if_neg h, if_neg]
    · rw [List.map_append]; rfl
    · rw [List.any_eq_true]
      rintro ⟨kv, h1, h2⟩
      exact h (List.mem_map.mpr ⟨kv, h1, of_decide_eq_true h2⟩)
theorem putD_len {κ β : Type} [DecidableEq κ] (acc : List (κ × β)) (k : κ) (v : β) : (putD acc k v).length ≤ acc.length + 1 := by
  unfold putD
  split
  · rw [List.length_map]; omega
  · simp
noncomputable def keyN (n : Nat) : Key := .inl (n : Int)
theorem keyN_inj {a b : Nat} (h : keyN a = keyN b) : a = b := by
  have : (a : Int) = (b : Int) := by injection h
  omega
theorem map_at {α : Type} {enc : α → D} {xs : List α} {i : Nat} {d : D} (h : (xs.map enc)[i]? = some d) : ∃ a, xs[i]? = some a ∧ d = enc a := by
  rw [List.getElem?_map] at h
  cases q : xs[i]? with
  | none => rw [q] at h; cases h
  | some a => rw [q] at h; cases h; exact ⟨a, rfl, rfl⟩
theorem enum_ty {α : Type} {enc : α → D} {xs : List α} {i : Nat} {d : D} (h : (enumD (xs.map enc))[i]? = some d) : ∃ a, xs[i]? = some a ∧ d = .tup [.int (i : Nat), enc a] := by
  have hi := (List.getElem?_eq_some_iff.mp h).1
  rw [enumD_length, List.length_map] at hi
  have hg : (xs.map enc)[i]? = some (enc xs[i]) := by rw [List.getElem?_map, List.getElem?_eq_getElem hi]; rfl
  rw [enumD_get hg] at h
  cases h
  exact ⟨xs[i], List.getElem?_eq_getElem hi, rfl⟩
theorem for_ty {α : Type} {enc : α → D} {xs : List α} {g : WG} {wb : WS} {W : WEnds} {ρ : Dl.Env} {μ : Store} (I : Nat → Dl.Env → Store → Prop) (h0 : I 0 ρ μ)
    (ht : ∀ i a ρ' μ', xs[i]? = some a → I i ρ' μ' → g (enc a) ρ' μ' fun ρ2 μ2 => wb { W with nx := I (i + 1), ct := I (i + 1), bk := W.nx } ρ2 μ2) (he : ∀ ρ' μ', I xs.length ρ' μ' → W.nx ρ' μ') : forBody (xs.map enc) g wb W ρ μ :=
  for_by I h0 (fun i d ρ' μ' hd hi => by obtain ⟨a, ha, rfl⟩ := map_at hd; exact ht i a ρ' μ' ha hi) (by rw [List.length_map]; exact he)
theorem for_en {α : Type} {enc : α → D} {xs : List α} {g : WG} {wb : WS} {W : WEnds} {ρ : Dl.Env} {μ : Store} (I : Nat → Dl.Env → Store → Prop) (h0 : I 0 ρ μ)
    (ht : ∀ i a ρ' μ', xs[i]? = some a → I i ρ' μ' → g (.tup [.int (i : Nat), enc a]) ρ' μ' fun ρ2 μ2 => wb { W with nx := I (i + 1), ct := I (i + 1), bk := W.nx } ρ2 μ2) (he : ∀ ρ' μ', I xs.length ρ' μ' → W.nx ρ' μ') : forBody (enumD (xs.map enc)) g wb W ρ μ :=
  for_by I h0 (fun i d ρ' μ' hd hi => by obtain ⟨a, ha, rfl⟩ := enum_ty hd; exact ht i a ρ' μ' ha hi) (by rw [enumD_length, List.length_map]; exact he)
theorem lc_ty {α : Type} {enc : α → D} {xs : List α} {g : WG} {tt : WT} {te : WE} {vs : List Nat} {fin : Addr → List D → Store → Prop} {ρ : Dl.Env} {μ : Store} (f : α → Option D) (hz : xs.length ≤ sizeLine)
    (h : ∀ (i : Nat) (a : α) (μ' : Store) (R : D → Store → Prop) (R' : Store → Prop), xs[i]? = some a → Dl.Sub μ μ' → (∀ y, f a = some y → R y μ') → (f a = none → R' μ') → g (enc a) (wipeE ρ vs) μ' fun ρ2 μ2 => tt ρ2 μ2 fun b μ3 => if b = true then te ρ2 μ3 R else R' μ3)
    (q : ∀ L, μ L = none → fin L (xs.filterMap f) (setS μ L (.lst (xs.filterMap f)))) : lcBody (xs.map enc) g tt te vs fin ρ μ := by
  refine ⟨by rw [List.length_map]; exact hz, fun L hL => ⟨fun i acc μ' => acc = (xs.take i).filterMap f ∧ μ' = setS μ L (.lst acc), ⟨rfl, rfl⟩, ?_, ?_⟩⟩
  · rintro i d acc μ' hd hu ⟨rfl, rfl⟩
    obtain ⟨a, ha, rfl⟩ := map_at hd
    have sb : Dl.Sub μ (setS μ L (.lst ((xs.take i).filterMap f))) := fun b c e => by
      have : b ≠ L := by rintro rfl; rw [hL] at e; cases e
      rw [setS_ne this]; exact e
    have et : (xs.take (i + 1)).filterMap f = (xs.take i).filterMap f ++ (f a).toList := by
      rw [List.take_add_one, ha, List.filterMap_append]
      congr 1
    refine h i a _ _ _ ha sb (fun y hy => ?_) (fun hn => ?_)
    · refine ⟨setS_same, ?_, by rw [setS_setS]⟩
      rw [et, hy]; rfl
    · refine ⟨setS_same, ?_, ?_⟩
      · rw [et, hn]; simp
      · rfl
  · rintro acc μ' _ _ ⟨rfl, rfl⟩
    rw [List.length_map, List.take_length]
    exact q L hL
theorem lcR_ty {α : Type} {enc : α → D} {xs : List α} {p : Addr} {g : WG} {tt : WT} {te : WE} {vs : List Nat} {fin : Addr → List D → Store → Prop} {ρ : Dl.Env} {μ : Store} (hp : μ p = some (.lst (xs.map enc))) (f : α → Option D) (hz : xs.length ≤ sizeLine)
    (h : ∀ (i : Nat) (a : α) (μ' : Store) (R : D → Store → Prop) (R' : Store → Prop), xs[i]? = some a → Dl.Sub μ μ' → (∀ y, f a = some y → R y μ') → (f a = none → R' μ') → g (enc a) (wipeE ρ vs) μ' fun ρ2 μ2 => tt ρ2 μ2 fun b μ3 => if b = true then te ρ2 μ3 R else R' μ3)
    (q : ∀ L, μ L = none → fin L (xs.filterMap f) (setS μ L (.lst (xs.filterMap f)))) : lcBodyR p (xs.map enc) g tt te vs fin ρ μ := by
  refine ⟨by rw [List.length_map]; exact hz, fun L hL => ⟨fun i acc μ' => acc = (xs.take i).filterMap f ∧ μ' = setS μ L (.lst acc), ⟨rfl, rfl⟩, ?_, ?_, ?_⟩⟩
  · rintro i acc μ' ⟨rfl, rfl⟩
    rw [setS_ne (by rintro rfl; rw [hL] at hp; cases hp)]
    exact hp
  · rintro i d acc μ' hd hu ⟨rfl, rfl⟩
    obtain ⟨a, ha, rfl⟩ := map_at hd
    have sb : Dl.Sub μ (setS μ L (.lst ((xs.take i).filterMap f))) := fun b c e => by
      have : b ≠ L := by rintro rfl; rw [hL] at e; cases e
      rw [setS_ne this]; exact e
    have et : (xs.take (i + 1)).filterMap f = (xs.take i).filterMap f ++ (f a).toList := by
      rw [List.take_add_one, ha, List.filterMap_append]
      congr 1
    refine h i a _ _ _ ha sb (fun y hy => ?_) (fun hn => ?_)
    · refine ⟨setS_same, ?_, by rw [setS_setS]⟩
      rw [et, hy]; rfl
    · refine ⟨setS_same, ?_, ?_⟩
      · rw [et, hn]; simp
      · rfl
  · rintro acc μ' _ _ ⟨rfl, rfl⟩
    rw [List.length_map, List.take_length]
    exact q L hL
theorem lcR_tm {α : Type} {enc : α → D} {xs : List α} {p : Addr} {g : WG} {te : WE} {vs : List Nat} {fin : Addr → List D → Store → Prop} {ρ : Dl.Env} {μ : Store} (hp : μ p = some (.lst (xs.map enc))) (f : α → D) (hz : xs.length ≤ sizeLine)
    (h : ∀ (i : Nat) (a : α) (μ' : Store) (R : D → Store → Prop), xs[i]? = some a → Dl.Sub μ μ' → R (f a) μ' → g (enc a) (wipeE ρ vs) μ' fun ρ2 μ2 => te ρ2 μ2 R)
    (q : ∀ L, μ L = none → fin L (xs.map f) (setS μ L (.lst (xs.map f)))) : lcBodyR p (xs.map enc) g wYes te vs fin ρ μ := by
  have e : xs.filterMap (fun a => some (f a)) = xs.map f := by rw [show (fun a => some (f a)) = some ∘ f from rfl, List.filterMap_eq_map]
  refine lcR_ty hp (fun a => some (f a)) hz (fun i a μ' R R' ha sb hR _ => ?_) (by rw [e]; exact q)
  have := h i a μ' R ha sb (hR _ rfl)
  simpa only [wYes, if_true] using this
theorem lc_tm {α : Type} {enc : α → D} {xs : List α} {g : WG} {te : WE} {vs : List Nat} {fin : Addr → List D → Store → Prop} {ρ : Dl.Env} {μ : Store} (f : α → D) (hz : xs.length ≤ sizeLine)
    (h : ∀ (i : Nat) (a : α) (μ' : Store) (R : D → Store → Prop), xs[i]? = some a → Dl.Sub μ μ' → R (f a) μ' → g (enc a) (wipeE ρ vs) μ' fun ρ2 μ2 => te ρ2 μ2 R)
    (q : ∀ L, μ L = none → fin L (xs.map f) (setS μ L (.lst (xs.map f)))) : lcBody (xs.map enc) g wYes te vs fin ρ μ := by
  have e : xs.filterMap (fun a => some (f a)) = xs.map f := by rw [show (fun a => some (f a)) = some ∘ f from rfl, List.filterMap_eq_map]
  refine lc_ty (fun a => some (f a)) hz (fun i a μ' R R' ha sb hR _ => ?_) (by rw [e]; exact q)
  have := h i a μ' R ha sb (hR _ rfl)
  simpa only [wYes, if_true] using this
theorem cutD_take (xs : List D) (i : Nat) : cutD xs none (some (i : Int)) = xs.take i := by
  unfold cutD
  rw [HT.sIx_none, HT.sIx_nat, List.drop_zero, Nat.sub_zero]
  rw [← List.take_eq_take_min]
theorem cutD_drop (xs : List D) (i : Nat) : cutD xs (some (i : Int)) none = xs.drop i := by
  unfold cutD
  rw [HT.sIx_none, HT.sIx_nat]
  by_cases h : i ≤ xs.length
  · rw [Nat.min_eq_left h]
    exact List.take_of_length_le (by simp)
  · rw [Nat.min_eq_right (by omega), List.drop_eq_nil_of_le (Nat.le_refl _), List.drop_eq_nil_of_le (by omega)]
    simp
theorem blsD_fn {α : Type} (xs : List α) (g : α → Bool) : blsD (xs.map fun a => D.bl (g a)) = some (xs.map g) := by
  have h := blsD_map (xs.map g)
  rw [List.map_map] at h
  exact h
theorem oAll_map {α : Type} (xs : List α) (g : α → Bool) (μ : Store) (P : D → Store → Prop) : oAll [.lst (xs.map fun a => .bl (g a))] μ P = P (.bl (xs.all g)) μ := by
  unfold oAll
  show (match (some (xs.map fun a => D.bl (g a))).bind blsD with | some ns => P (.bl (ns.all id)) μ | none => False) = _
  rw [Option.bind_some, blsD_fn]
  simp only [List.all_map]
  rfl
theorem oAny_map {α : Type} (xs : List α) (g : α → Bool) (μ : Store) (P : D → Store → Prop) : oAny [.lst (xs.map fun a => .bl (g a))] μ P = P (.bl (xs.any g)) μ := by
  unfold oAny
  show (match (some (xs.map fun a => D.bl (g a))).bind blsD with | some ns => P (.bl (ns.any id)) μ | none => False) = _
  rw [Option.bind_some, blsD_fn]
  simp only [List.any_map]
  rfl
local macro_rules | `(tactic| walk_at "dy") => `(tactic| simp only [wSeq, wIfS, wB, wTrv, truD, okLen, wOp, wVar, wC, wAsg, wgName, wgCons, wgNil, wgTup, wRet, wRetN, wDrop, wNext, wNever, wBreak, wCont, wACons, wANil, wTup, wLst, wLstM, wCB, wAnd, wOr, wNt, wAndV, wOrV, wNotV, wIf, wChain, wIx, oIx, wgSub, oSet, wPar, wPar3, wCall, wYes, wFor, wiSeq, wiRng1, wiRng2, itemsD, wLc, wLcM, wLcG, wLc2, wLc2M, wLcG2, oPopAt, oPop, wRev, wRevM, oAppend, wipeE, insD, seqA, seqR, seqL, setS_same, oAdd_int, oAdd_str, oAdd_tup, oAdd_lst, wgLst, wAStar, wAsgF, xN, xSeq, xIf, xDrop, xRet, xAsg, xRaise0, xRaise1, xCall, wTryAs, oSub, oMul, oFdiv, oMod, oPow, oI, oI0, oLt, oLe, oGt, oGe, oEq_int, oNe_int, oEq_bl, oNe_bl, oEq_str, oNe_str, oLen, lenD, oAbs, oInt, oStr, oRepr, oMin, oMax, oSum, oTuple, oList, wBM, oJoin, oCount, oIsi, tyD, isTy, oIn, oNotIn, oInW, sqD, seqL, seqR, seqA, wAug, oIAdd, oISub, wJoin, wJs, wFmt, wSl, wNoP, wPart, oSlice, wNeg, oIs, oIsNot, wiEnum, wDisp, wPairs, getD_z, getD_s, set_z, set_s, decide_eq_true_eq, Bool.not_eq_true', decide_eq_false_iff_not, List.nil_append, List.cons_append, true_and, and_true, not_true_eq_false, not_false_eq_true, Bool.false_eq_true, Bool.true_eq_false, BEq.rfl, Bool.not_true, Bool.not_false, decide_true, ite_true, ite_false, if_true, if_false, oAll_map, oAny_map, oAdd_int, cutD_take, cutD_drop, at2_0, at2_1, tyM_str, wLkD, wDcM, wiKeysL, wFzE, oInD, oNotInD, oInDW, dctD, keyD, wMakeL, wCMe, oExtend])
local macro_rules | `(tactic| walk_at "sz") => `(tactic| repeat (refine And.intro (by first | with_reducible rfl | assumption | exact le_line (by omega) | omega) ?_))
theorem log_small {n : Nat} (h : n < 10000000) : ((n : Nat) : Int).natAbs.log2 < 1920 := by
  rw [Int.natAbs_natCast]
  by_cases h0 : n = 0
  · subst h0; decide
  · exact (Nat.log2_lt h0).mpr (Nat.lt_of_lt_of_le h (Nat.le_trans (by decide : 10000000 ≤ 2 ^ 24) (Nat.pow_le_pow_right (by decide) (by decide))))
/-- a dict made of distinct keys -/
theorem dc_ty {α : Type} {enc : α → D} {xs : List α} {g : WG} {tt : WT} {wk wv : WE} {vs : List Nat} {fin : Addr → List (Key × D) → Store → Prop} {ρ : Dl.Env} {μ : Store} (kd vf : α → D) (kf : α → Key) (hk : ∀ a, keyD (kd a) = some (kf a)) (hn : (xs.map kf).Nodup) (hz : xs.length < sizeLine)
    (h : ∀ (i : Nat) (a : α) (μ' : Store) (R : D → D → Store → Prop) (R' : Store → Prop), xs[i]? = some a → Dl.Sub μ μ' → R (kd a) (vf a) μ' → g (enc a) (wipeE ρ vs) μ' fun ρ2 μ2 => tt ρ2 μ2 fun b μ3 => if b = true then wk ρ2 μ3 fun x μ4 => wv ρ2 μ4 fun y μ5 => R x y μ5 else R' μ3)
    (q : ∀ L, μ L = none → fin L (xs.map fun a => (kf a, vf a)) (setS μ L (.dct (xs.map fun a => (kf a, vf a))))) : dcBody (xs.map enc) g tt wk wv vs fin ρ μ := by
  refine ⟨by rw [List.length_map]; exact Nat.le_of_lt hz, fun L hL => ⟨fun i acc μ' => acc = (xs.take i).map (fun a => (kf a, vf a)) ∧ μ' = setS μ L (.dct acc), ⟨rfl, rfl⟩, ?_, ?_⟩⟩
  · rintro i d acc μ' hd hu ⟨rfl, rfl⟩
    obtain ⟨a, ha, rfl⟩ := map_at hd
    have hi := (List.getElem?_eq_some_iff.mp ha).1
    have sb : Dl.Sub μ (setS μ L (.dct ((xs.take i).map fun a => (kf a, vf a)))) := fun b c e => by
      have : b ≠ L := by rintro rfl; rw [hL] at e; cases e
      rw [setS_ne this]; exact e
    refine h i a _ (fun x y μ5 => ∃ k, keyD x = some k ∧ μ5 L = some (.dct ((xs.take i).map fun a => (kf a, vf a))) ∧ ((xs.take i).map fun a => (kf a, vf a)).length < sizeLine ∧ _) _ ha sb ⟨kf a, hk a, setS_same, ?_, ?_, ?_⟩
    · rw [List.length_map, List.length_take]; omega
    · unfold putD
      rw [if_neg]
      · rw [List.take_add_one, ha]; simp
      · rw [List.any_eq_true]
        rintro ⟨kv, h1, h2⟩
        obtain ⟨x, hx, rfl⟩ := List.mem_map.mp h1
        obtain ⟨j, hj⟩ := List.mem_iff_getElem?.mp hx
        rw [List.getElem?_take] at hj
        split at hj
        · rename_i hji
          have e1 : (xs.map kf)[j]? = some (kf a) := by rw [List.getElem?_map, hj, ← of_decide_eq_true h2]; rfl
          have e2 : (xs.map kf)[i]? = some (kf a) := by rw [List.getElem?_map, ha]; rfl
          have := (List.getElem?_inj (by rw [List.length_map]; omega) hn).mp (e1.trans e2.symm)
          omega
        · cases hj
    · rw [setS_setS]
  · rintro acc μ' _ ⟨rfl, rfl⟩
    rw [List.length_map, List.take_length]
    exact q L hL
theorem getS {α : Type} {xs : List α} {i : Nat} {a : α} (h : xs[i]? = some a) : i < xs.length ∧ a ∈ xs := ⟨(List.getElem?_eq_some_iff.mp h).1, List.mem_of_getElem? h⟩
noncomputable def opD {α : Type} (o : Option α) (P : α → Prop) : Prop := match o with | some d => P d | none => False
noncomputable def bD (d : D) (μ : Store) (P : Bool → Store → Prop) : Prop := match d with | .bl k => P k μ | _ => False
noncomputable def trvD (d : D) (μ : Store) (P : Bool → Store → Prop) : Prop := match truD μ d with | some k => okLen d ∧ P k μ | none => False
noncomputable def chD (d : D) (S F : Prop) : Prop := match d with | .bl true => S | .bl false => F | _ => False
noncomputable def ntD (d : D) (P : Bool → Prop) : Prop := match d with | .bl b => P b | _ => False
noncomputable def fldD (K : PySem.W.Frag) (f : Str) (x : D) (μ : Store) (P : D → Prop) : Prop := match insD μ x with
  | some (C, fs) => FldOk K C f ∧ opD (look fs f) P
  | none => False
noncomputable def stfD (K : PySem.W.Frag) (f : Str) (x y : D) (μ : Store) (N : Store → Prop) : Prop := match x with
  | .ref a => match μ a with | some (.ins C fs) => FldOk K C f ∧ fs.length < 1000 ∧ N (setS μ a (.ins C (put fs f y))) | _ => False
  | _ => False
noncomputable def mthD (C : Addr) (m : Str) (x : D) (μ : Store) (S : Prop) : Prop := match insD μ x with
  | some (C', fs) => C' = C ∧ look fs m = none ∧ S
  | none => False
noncomputable def fmD (d : D) (P : Str → Prop) : Prop := match d with
  | .str s => s.length ≤ sizeLine ∧ P s
  | .int i => i.natAbs.log2 < 1920 ∧ P (Str.ofString (toString i))
  | _ => False
noncomputable def jsD (d : D) (P : Str → Prop) : Prop := match d with | .str y => P y | _ => False
noncomputable def inI (d : D) (P : Int → Prop) : Prop := match d with | .int i => P i | _ => False
section
variable {K : PySem.W.Frag} {ρ : Dl.Env} {μ : Store} {P : D → Store → Prop} {PB : Bool → Store → Prop} {PA : List D → Store → Prop} {W : WEnds} {w u v : WE} {wa : WA} {N : Store → Prop}
theorem opD_some {α : Type} {d : α} {P : α → Prop} : opD (some d) P = P d := rfl
theorem bD_bl {b : Bool} : bD (.bl b) μ PB = PB b μ := rfl
theorem chD_t {S F : Prop} : chD (.bl true) S F = S := rfl
theorem chD_f {S F : Prop} : chD (.bl false) S F = F := rfl
theorem chD_b {S F : Prop} {b : Bool} : chD (.bl b) S F = if b = true then S else F := by cases b <;> simp [chD]
theorem ntD_bl {b : Bool} {P : Bool → Prop} : ntD (.bl b) P = P b := rfl
theorem trv_bl {b : Bool} : trvD (.bl b) μ PB = PB b μ := by simp [trvD, truD, okLen]
theorem trv_non : trvD (.non) μ PB = PB false μ := by simp [trvD, truD, okLen]
theorem trv_int {i : Int} : trvD (.int i) μ PB = PB (i != 0) μ := by simp [trvD, truD, okLen]
theorem trv_tup {xs : List D} : trvD (.tup xs) μ PB = PB (!xs.isEmpty) μ := by simp [trvD, truD, okLen]
theorem trv_lst {xs : List D} : trvD (.lst xs) μ PB = PB (!xs.isEmpty) μ := by simp [trvD, truD, okLen]
theorem trv_str {s : Str} : trvD (.str s) μ PB = (s.length ≤ sizeLine ∧ PB ((s.length : Int) != 0) μ) := rfl
theorem dz_B : wB w ρ μ PB = w ρ μ fun d μ1 => bD d μ1 PB := rfl
theorem dz_Trv : wTrv w ρ μ PB = w ρ μ fun d μ1 => trvD d μ1 PB := rfl
theorem dz_AndV : wAndV w u ρ μ P = w ρ μ fun d μ1 => chD d (u ρ μ1 P) (P (.bl false) μ1) := rfl
theorem dz_OrV : wOrV w u ρ μ P = w ρ μ fun d μ1 => chD d (P (.bl true) μ1) (u ρ μ1 P) := by
  unfold wOrV
  congr 1
  funext d μ1
  cases d <;> first | rfl | (rename_i b; cases b <;> rfl)
theorem dz_NotV : wNotV w ρ μ P = w ρ μ fun d μ1 => ntD d fun b => P (.bl (!b)) μ1 := rfl
theorem dz_Chain {o o' : OD} : wChain o o' w u v ρ μ P = w ρ μ fun x μ1 => u ρ μ1 fun y μ2 => o x y μ2 fun z μ3 => chD z (v ρ μ3 fun q μ4 => o' y q μ4 P) (P (.bl false) μ3) := rfl
theorem dz_Fld {f : Str} : wFld K f w ρ μ P = w ρ μ fun x μ1 => fldD K f x μ1 fun d => P d μ1 := by
  unfold wFld fldD
  congr 1
  funext x μ1
  cases insD μ1 x with
  | none => rfl
  | some p => obtain ⟨C, fs⟩ := p; dsimp only; cases look fs f <;> rfl
theorem fld_obj {f : Str} {C : Addr} {fs : List (Str × D)} {P : D → Prop} : fldD K f (.obj C fs) μ P = (FldOk K C f ∧ opD (look fs f) P) := rfl
theorem fld_ref {f : Str} {C a : Addr} {fs : List (Str × D)} {P : D → Prop} (h : μ a = some (.ins C fs)) : fldD K f (.ref a) μ P = (FldOk K C f ∧ opD (look fs f) P) := by unfold fldD insD; dsimp only; rw [h]
theorem dz_SetF {f : Str} : wSetF K f w u W ρ μ = u ρ μ fun y μ1 => w ρ μ1 fun x μ2 => stfD K f x y μ2 fun μ3 => W.nx ρ μ3 := rfl
theorem stf_ref {f : Str} {C a : Addr} {fs : List (Str × D)} {y : D} (h : μ a = some (.ins C fs)) : stfD K f (.ref a) y μ N = (FldOk K C f ∧ fs.length < 1000 ∧ N (setS μ a (.ins C (put fs f y)))) := by unfold stfD; dsimp only; rw [h]
theorem dz_Meth {C : Addr} {m : Str} {d : DSp} {dds : List D} : wMeth C m d dds w wa ρ μ P = w ρ μ fun x μ1 => mthD C m x μ1 (wa ρ μ1 fun ds μ2 => d (x :: (ds ++ dds)) μ2 P) := rfl
theorem mth_obj {C C' : Addr} {m : Str} {fs : List (Str × D)} {S : Prop} : mthD C m (.obj C' fs) μ S = (C' = C ∧ look fs m = none ∧ S) := rfl
theorem mth_ref {C C' a : Addr} {m : Str} {fs : List (Str × D)} {S : Prop} (h : μ a = some (.ins C' fs)) : mthD C m (.ref a) μ S = (C' = C ∧ look fs m = none ∧ S) := by unfold mthD insD; dsimp only; rw [h]
theorem dz_iSeq : wiSeq w ρ μ PA = w ρ μ fun d μ1 => opD (itemsD d) fun xs => PA xs μ1 := by
  unfold wiSeq
  congr 1
  funext d μ1
  cases itemsD d <;> rfl
theorem dz_iEnum : wiEnum w ρ μ PA = w ρ μ fun d μ1 => opD (itemsD d) fun xs => PA (enumD xs) μ1 := by
  unfold wiEnum
  congr 1
  funext d μ1
  cases itemsD d <;> rfl
theorem items_lst {xs : List D} : itemsD (.lst xs) = some xs := rfl
theorem sqA_lst {xs : List D} : seqA μ (.lst xs) = some xs := rfl
theorem items_tup {xs : List D} : itemsD (.tup xs) = some xs := rfl
theorem sqA_tup {xs : List D} : seqA μ (.tup xs) = some xs := rfl
theorem items_scr {xs : List D} : itemsD (.scr xs) = some xs := rfl
theorem sqA_scr {xs : List D} : seqA μ (.scr xs) = some xs := rfl
theorem sqR_lst {xs : List D} : seqR μ (.lst xs) = some xs := rfl
theorem sqR_scr {xs : List D} : seqR μ (.scr xs) = some xs := rfl
theorem sqL_lst {xs : List D} : seqL μ (.lst xs) = some xs := rfl
theorem items_str {s : Str} : itemsD (.str s) = some (chars s) := rfl
theorem sqL_ref {a : Addr} {xs : List D} (h : μ a = some (.lst xs)) : seqL μ (.ref a) = some xs := by unfold seqL; dsimp only; rw [h]
theorem sqA_ref {a : Addr} {xs : List D} (h : μ a = some (.lst xs)) : seqA μ (.ref a) = some xs := by unfold seqA seqR seqL; dsimp only; rw [h]
theorem dz_AStar {wr : WA} : wAStar w wr ρ μ PA = w ρ μ fun d μ1 => opD (seqA μ1 d) fun xs => wr ρ μ1 fun ys μ2 => PA (xs ++ ys) μ2 := by
  unfold wAStar
  congr 1
  funext d μ1
  cases seqA μ1 d <;> rfl
theorem dz_tuple {d : D} : oTuple [d] μ P = opD (seqA μ d) fun xs => P (.tup xs) μ := by
  unfold oTuple
  dsimp only
  cases seqA μ d <;> rfl
theorem dz_list {d : D} : oList [d] μ P = opD (seqA μ d) fun xs => P (.lst xs) μ := by
  unfold oList
  dsimp only
  cases seqA μ d <;> rfl
theorem dz_listM {d : D} : oListM [d] μ P = opD (seqA μ d) fun xs => ∀ p, μ p = none → P (.ref p) (setS μ p (.lst xs)) := by
  unfold oListM
  dsimp only
  cases seqA μ d <;> rfl
theorem dz_sum {d : D} : oSum [d] μ P = opD ((seqR μ d).bind intsD) fun ns => P (.int ns.sum) μ := by
  unfold oSum
  dsimp only
  cases (seqR μ d).bind intsD <;> rfl
theorem dz_max2 {i j : Int} : oMax [.int i, .int j] μ P = P (.int (if j > i then j else i)) μ := rfl
theorem dz_min2 {i j : Int} : oMin [.int i, .int j] μ P = P (.int (if j < i then j else i)) μ := rfl
theorem dz_maxL {xs : List D} : oMax [.lst xs] μ P = opD (intsD xs) fun ns => 0 < ns.length ∧ ∀ m, m ∈ ns → (∀ y, y ∈ ns → y ≤ m) → P (.int m) μ := by
  unfold oMax
  dsimp only [seqR, seqL, Option.bind_some]
  cases intsD xs <;> rfl
theorem dz_Fmt : wFmt w ρ μ P = w ρ μ fun d μ1 => fmD d fun s => P (.str s) μ1 := by
  unfold wFmt
  congr 1
theorem fm_str {s : Str} {P : Str → Prop} : fmD (.str s) P = (s.length ≤ sizeLine ∧ P s) := rfl
theorem fm_int {i : Int} {P : Str → Prop} : fmD (.int i) P = (i.natAbs.log2 < 1920 ∧ P (Str.ofString (toString i))) := rfl
theorem dz_Js0 {acc : Str} : wJs [] acc ρ μ P = P (.str acc) μ := rfl
theorem dz_Js {acc : Str} {ws : List WE} : wJs (w :: ws) acc ρ μ P = w ρ μ fun d μ1 => jsD d fun y => (acc ++ y).length ≤ sizeLine ∧ wJs ws (acc ++ y) ρ μ1 P := rfl
theorem js_str {s : Str} {P : Str → Prop} : jsD (.str s) P = P s := rfl
theorem dz_Part {PO : Option Int → Store → Prop} : wPart w ρ μ PO = w ρ μ fun d μ1 => inI d fun i => PO (some i) μ1 := rfl
theorem inI_int {i : Int} {P : Int → Prop} : inI (.int i) P = P i := rfl
theorem dz_Neg : wNeg w ρ μ P = w ρ μ fun d μ1 => inI d fun i => P (.int (-i)) μ1 := rfl
theorem len_str {s : Str} : oLen [.str s] μ P = (s.length ≤ sizeLine ∧ P (.int (s.length : Int)) μ) := rfl
theorem len_tup {xs : List D} : oLen [.tup xs] μ P = P (.int (xs.length : Int)) μ := by simp [oLen, lenD, okLen]
theorem len_lst {xs : List D} : oLen [.lst xs] μ P = P (.int (xs.length : Int)) μ := by simp [oLen, lenD, okLen]
theorem len_scr {xs : List D} : oLen [.scr xs] μ P = P (.int (xs.length : Int)) μ := by simp [oLen, lenD, okLen]
theorem len_ref {a : Addr} {xs : List D} (h : μ a = some (.lst xs)) : oLen [.ref a] μ P = P (.int (xs.length : Int)) μ := by simp [oLen, lenD, okLen, h]
theorem ix_tup {xs : List D} {i : Int} : oIx (.tup xs) (.int i) μ P = opD (atI xs i) fun d => P d μ := by
  unfold oIx
  dsimp only [seqA, seqR, seqL]
  cases atI xs i <;> rfl
theorem ix_lst {xs : List D} {i : Int} : oIx (.lst xs) (.int i) μ P = opD (atI xs i) fun d => P d μ := by
  unfold oIx
  dsimp only [seqA, seqR, seqL]
  cases atI xs i <;> rfl
theorem ix_scr {xs : List D} {i : Int} : oIx (.scr xs) (.int i) μ P = opD (atI xs i) fun d => P d μ := by
  unfold oIx
  dsimp only [seqA, seqR, seqL]
  cases atI xs i <;> rfl
theorem ix_str {s : Str} {i : Int} : oIx (.str s) (.int i) μ P = opD (atI s.cps.toList i) fun c => s.length ≤ sizeLine ∧ P (.str ⟨#[c]⟩) μ := by
  unfold oIx
  dsimp only
  cases atI s.cps.toList i <;> rfl
theorem ix_dct {kvs : List (Key × D)} {y : D} : oIx (.dct kvs) y μ P = opD ((keyD y).bind (look kvs)) fun d => P d μ := by
  unfold oIx
  dsimp only [seqA, seqR, seqL]
  cases (keyD y).bind (look kvs) <;> rfl
theorem ix_dcl {kvs : List (Key × D)} {y : D} : oIx (.dcl kvs) y μ P = opD ((keyD y).bind (look kvs)) fun d => P d μ := by
  unfold oIx
  dsimp only [seqA, seqR, seqL]
  cases (keyD y).bind (look kvs) <;> rfl
theorem ix_ref {a : Addr} {xs : List D} {i : Int} (h : μ a = some (.lst xs)) : oIx (.ref a) (.int i) μ P = opD (atI xs i) fun d => P d μ := by
  have e := sqA_ref h
  unfold oIx
  dsimp only
  rw [e]
  dsimp only
  first | done | (cases atI xs i <;> rfl)
theorem ix_refD {a : Addr} {kvs : List (Key × D)} {y : D} (h : μ a = some (.dct kvs)) : oIx (.ref a) y μ P = opD ((keyD y).bind (look kvs)) fun d => P d μ := by
  have e : seqA μ (.ref a) = none := by unfold seqA seqR seqL; dsimp only; rw [h]
  unfold oIx
  dsimp only
  rw [e]
  dsimp only
  rw [h]
  dsimp only
  cases (keyD y).bind (look kvs) <;> rfl
theorem dz_AStarVals {wr : WA} : wAStarVals w wr ρ μ PA = w ρ μ fun d μ1 => opD (dctM μ1 d) fun kvs => wr ρ μ1 fun ys μ2 => PA (kvs.map (·.2) ++ ys) μ2 := by
  unfold wAStarVals
  congr 1
  funext d μ1
  cases dctM μ1 d <;> rfl
theorem dz_LstItems : wLstItems w ρ μ P = w ρ μ fun d μ1 => opD (dctM μ1 d) fun kvs => P (.lst (kvs.map itD)) μ1 := by
  unfold wLstItems
  congr 1
  funext d μ1
  cases dctM μ1 d <;> rfl
theorem dz_count {a b : Str} : oCount (.str a) [.str b] μ P = P (.int (Txt.count a b)) μ := rfl
theorem dctM_dct {kvs : List (Key × D)} : dctM μ (.dct kvs) = some kvs := rfl
theorem key_int {i : Int} : keyD (.int i) = some (.inl i) := rfl
theorem key_str {s : Str} : keyD (.str s) = some (.inr s) := rfl
theorem oLt_int {i j : Int} : oLt (.int i) (.int j) μ P = P (.bl (decide (i < j))) μ := rfl
theorem oLe_int {i j : Int} : oLe (.int i) (.int j) μ P = P (.bl (decide (i ≤ j))) μ := rfl
theorem oGt_int {i j : Int} : oGt (.int i) (.int j) μ P = P (.bl (decide (j < i))) μ := rfl
theorem oGe_int {i j : Int} : oGe (.int i) (.int j) μ P = P (.bl (decide (j ≤ i))) μ := rfl
theorem oSub_int {i j : Int} : oSub (.int i) (.int j) μ P = P (.int (i - j)) μ := rfl
theorem oFdiv_int {i j : Int} : oFdiv (.int i) (.int j) μ P = ((0 < j ∧ j < 1073741824) ∧ P (.int (i / j)) μ) := rfl
theorem oMod_int {i j : Int} : oMod (.int i) (.int j) μ P = (0 < j ∧ P (.int (i % j)) μ) := rfl
theorem oInt_int {i : Int} : oInt [.int i] μ P = P (.int i) μ := rfl
theorem oInt_bl {b : Bool} : oInt [.bl b] μ P = P (.int (if b then 1 else 0)) μ := rfl
theorem oInt_str {s : Str} : oInt [.str s] μ P = opD (PySem.intText? s) fun n => s.length ≤ 640 ∧ P (.int n) μ := by
  unfold oInt
  dsimp only
  cases PySem.intText? s <;> rfl
theorem oStr_int {i : Int} : oStr [.int i] μ P = (i.natAbs.log2 < 1920 ∧ P (.str (Str.ofString (toString i))) μ) := rfl
theorem oStr_str {s : Str} : oStr [.str s] μ P = P (.str s) μ := rfl
theorem oAbs_int {i : Int} : oAbs [.int i] μ P = P (.int (if i < 0 then -i else i)) μ := rfl
theorem dz_isi {d : D} {n : String} : oIsi [d, .ty n] μ P = (n ∈ ["bool", "int", "str", "tuple", "list", "dict"] ∧ opD (tyD μ d) fun m => P (.bl (isTy m n)) μ) := by
  unfold oIsi
  dsimp only
  cases tyD μ d <;> rfl
theorem ty_non : tyD μ (.non) = some "NoneType" := rfl
theorem ty_bl {b : Bool} : tyD μ (.bl b) = some "bool" := rfl
theorem ty_int {i : Int} : tyD μ (.int i) = some "int" := rfl
theorem ty_str {s : Str} : tyD μ (.str s) = some "str" := rfl
theorem ty_tup {xs : List D} : tyD μ (.tup xs) = some "tuple" := rfl
theorem ty_lst {xs : List D} : tyD μ (.lst xs) = some "list" := rfl
theorem sl_tup {xs : List D} {lo hi : Option Int} : oSlice (.tup xs) lo hi μ P = P (.tup (cutD xs lo hi)) μ := rfl
theorem sl_lst {xs : List D} {lo hi : Option Int} : oSlice (.lst xs) lo hi μ P = P (.lst (cutD xs lo hi)) μ := rfl
theorem sl_str {s : Str} {lo hi : Option Int} : oSlice (.str s) lo hi μ P = (s.length ≤ sizeLine ∧ P (.str (cutS s lo hi)) μ) := rfl
theorem oIn_tup {x : D} {xs : List D} : oIn x (.tup xs) μ P = (flatD x = true ∧ xs.all flatD = true ∧ P (.bl (inD x xs)) μ) := by cases x <;> rfl
theorem oNotIn_tup {x : D} {xs : List D} : oNotIn x (.tup xs) μ P = (flatD x = true ∧ xs.all flatD = true ∧ P (.bl (!inD x xs)) μ) := by cases x <;> rfl
theorem oIn_lst {x : D} {xs : List D} : oIn x (.lst xs) μ P = (flatD x = true ∧ xs.all flatD = true ∧ P (.bl (inD x xs)) μ) := by cases x <;> rfl
theorem oNotIn_lst {x : D} {xs : List D} : oNotIn x (.lst xs) μ P = (flatD x = true ∧ xs.all flatD = true ∧ P (.bl (!inD x xs)) μ) := by cases x <;> rfl
theorem oIn_scr {x : D} {xs : List D} : oIn x (.scr xs) μ P = (flatD x = true ∧ xs.all flatD = true ∧ P (.bl (inD x xs)) μ) := by cases x <;> rfl
theorem oNotIn_scr {x : D} {xs : List D} : oNotIn x (.scr xs) μ P = (flatD x = true ∧ xs.all flatD = true ∧ P (.bl (!inD x xs)) μ) := by cases x <;> rfl
theorem dz_split {a b : Str} : oSplit (.str a) [.str b] μ P = ((b.length == 0) = false ∧ a.length + 2 ≤ sizeLine ∧ P (.lst ((Txt.split a b).map .str)) μ) := rfl
theorem app_ref {a : Addr} {xs : List D} {d : D} (h : μ a = some (.lst xs)) : oAppend (.ref a) [d] μ P = (xs.length < sizeLine ∧ P .non (setS μ a (.lst (xs ++ [d])))) := by unfold oAppend; dsimp only; rw [h]
theorem ext_ref {a : Addr} {xs ys : List D} (h : μ a = some (.lst xs)) : oExtend (.ref a) [.lst ys] μ P = (xs.length + ys.length ≤ sizeLine ∧ P .non (setS μ a (.lst (xs ++ ys)))) := by unfold oExtend seqL; dsimp only; rw [h]
theorem pop_ref {a : Addr} {xs : List D} {y : D} (h : μ a = some (.lst (xs ++ [y]))) : oPop (.ref a) [] μ P = P y (setS μ a (.lst xs)) := by
  unfold oPop
  dsimp only
  rw [h]
  dsimp only
  rw [List.dropLast_concat]
  have e : (xs ++ [y])[(xs ++ [y]).length - 1]? = some y := by simp
  rw [e]
  exact propext ⟨fun ⟨z, h1, h2⟩ => by cases h1; exact h2, fun q => ⟨y, rfl, q⟩⟩
theorem tyM_lref {a : Addr} {xs : List D} (h : μ a = some (.lst xs)) : tyM "list" μ (.ref a) := .inr (.inl ⟨rfl, _, sqL_ref h⟩)
end
theorem ity_NoneType_bool : isTy "NoneType" "bool" = false := by decide
theorem ity_NoneType_int : isTy "NoneType" "int" = false := by decide
theorem ity_NoneType_str : isTy "NoneType" "str" = false := by decide
theorem ity_NoneType_tuple : isTy "NoneType" "tuple" = false := by decide
theorem ity_NoneType_list : isTy "NoneType" "list" = false := by decide
theorem ity_NoneType_dict : isTy "NoneType" "dict" = false := by decide
theorem ity_bool_bool : isTy "bool" "bool" = true := by decide
theorem ity_bool_int : isTy "bool" "int" = true := by decide
theorem ity_bool_str : isTy "bool" "str" = false := by decide
theorem ity_bool_tuple : isTy "bool" "tuple" = false := by decide
theorem ity_bool_list : isTy "bool" "list" = false := by decide
theorem ity_bool_dict : isTy "bool" "dict" = false := by decide
theorem ity_int_bool : isTy "int" "bool" = false := by decide
theorem ity_int_int : isTy "int" "int" = true := by decide
theorem ity_int_str : isTy "int" "str" = false := by decide
theorem ity_int_tuple : isTy "int" "tuple" = false := by decide
theorem ity_int_list : isTy "int" "list" = false := by decide
theorem ity_int_dict : isTy "int" "dict" = false := by decide
theorem ity_str_bool : isTy "str" "bool" = false := by decide
theorem ity_str_int : isTy "str" "int" = false := by decide
theorem ity_str_str : isTy "str" "str" = true := by decide
theorem ity_str_tuple : isTy "str" "tuple" = false := by decide
theorem ity_str_list : isTy "str" "list" = false := by decide
theorem ity_str_dict : isTy "str" "dict" = false := by decide
theorem ity_tuple_bool : isTy "tuple" "bool" = false := by decide
theorem ity_tuple_int : isTy "tuple" "int" = false := by decide
theorem ity_tuple_str : isTy "tuple" "str" = false := by decide
theorem ity_tuple_tuple : isTy "tuple" "tuple" = true := by decide
theorem ity_tuple_list : isTy "tuple" "list" = false := by decide
theorem ity_tuple_dict : isTy "tuple" "dict" = false := by decide
theorem ity_list_bool : isTy "list" "bool" = false := by decide
theorem ity_list_int : isTy "list" "int" = false := by decide
theorem ity_list_str : isTy "list" "str" = false := by decide
theorem ity_list_tuple : isTy "list" "tuple" = false := by decide
theorem ity_list_list : isTy "list" "list" = true := by decide
theorem ity_list_dict : isTy "list" "dict" = false := by decide
theorem ity_dict_bool : isTy "dict" "bool" = false := by decide
theorem ity_dict_int : isTy "dict" "int" = false := by decide
theorem ity_dict_str : isTy "dict" "str" = false := by decide
theorem ity_dict_tuple : isTy "dict" "tuple" = false := by decide
theorem ity_dict_list : isTy "dict" "list" = false := by decide
theorem ity_dict_dict : isTy "dict" "dict" = true := by decide
theorem tym_bool : (("bool" : String) ∈ ["bool", "int", "str", "tuple", "list", "dict"]) = True := eq_true (by decide)
theorem tym_int : (("int" : String) ∈ ["bool", "int", "str", "tuple", "list", "dict"]) = True := eq_true (by decide)
theorem tym_str : (("str" : String) ∈ ["bool", "int", "str", "tuple", "list", "dict"]) = True := eq_true (by decide)
theorem tym_tuple : (("tuple" : String) ∈ ["bool", "int", "str", "tuple", "list", "dict"]) = True := eq_true (by decide)
theorem tym_list : (("list" : String) ∈ ["bool", "int", "str", "tuple", "list", "dict"]) = True := eq_true (by decide)
theorem tym_dict : (("dict" : String) ∈ ["bool", "int", "str", "tuple", "list", "dict"]) = True := eq_true (by decide)
local macro_rules | `(tactic| walk_at "dz") => `(tactic| try simp only [dz_split, wDctM, wiRngD, wiZip, wiZipM, wiZipS, wiZip3L, wRevTp, dz_AStarVals, dz_LstItems, dctM_dct, dz_count, wLcR, wForR, wMake, wMakeM, wSeq, wIfS, wOp, wVar, wC, wAsg, wgName, wgCons, wgNil, wgTup, wgLst, wRet, wRetN, wDrop, wNext, wNever, wBreak, wCont, wACons, wANil, wTup, wLst, wLstM, wCB, wAnd, wOr, wNt, wIf, wIx, wgSub, wPar, wPar3, wCall, wYes, wFor, wLc, wLcM, wLcG, wLc2, wLc2M, wLcG2, wipeE, wBM, wJoin, wSl, wSlM, wNoP, wAsgF, wAug, oIAdd, oISub, wDcM, wMakeL, wCMe, wFzE, wLkD, wiKeysL, xN, xSeq, xIf, xDrop, xRet, xAsg, xRaise0, xRaise1, xCall, oIs, oIsNot, wiRng1, wiRng2, setS_same, oAdd_int, oAdd_str, oAdd_tup, oAdd_lst, oEq_int, oNe_int, oEq_bl, oNe_bl, oEq_str, oNe_str, getD_z, getD_s, set_z, set_s, decide_eq_true_eq, Bool.not_eq_true', decide_eq_false_iff_not, List.nil_append, List.cons_append, true_and, and_true, not_true_eq_false, not_false_eq_true, Bool.false_eq_true, Bool.true_eq_false, BEq.rfl, Bool.not_true, Bool.not_false, decide_true, ite_true, ite_false, if_true, if_false, oAll_map, oAny_map, cutD_take, cutD_drop, at2_0, at2_1, tyM_str, opD_some, bD_bl, chD_t, chD_f, chD_b, ntD_bl, trv_bl, trv_non, trv_int, trv_tup, trv_lst, trv_str, dz_B, dz_Trv, dz_AndV, dz_OrV, dz_NotV, dz_Chain, dz_Fld, fld_obj, dz_SetF, dz_Meth, mth_obj, dz_iSeq, dz_iEnum, items_lst, sqA_lst, items_tup, sqA_tup, items_scr, sqA_scr, sqR_lst, sqR_scr, sqL_lst, items_str, dz_AStar, dz_tuple, dz_list, dz_listM, dz_sum, dz_max2, dz_min2, dz_maxL, dz_Fmt, fm_str, fm_int, dz_Js0, dz_Js, js_str, dz_Part,  inI_int, dz_Neg, len_str, len_tup, len_lst, len_scr, ix_tup, ix_lst, ix_scr, ix_str, ix_dct, ix_dcl, key_int, key_str, oLt_int, oLe_int, oGt_int, oGe_int, oSub_int, oFdiv_int, oMod_int, oInt_int, oInt_bl, oInt_str, oStr_int, oStr_str, oAbs_int, dz_isi, ty_non, ty_bl, ty_int, ty_str, ty_tup, ty_lst, sl_tup, sl_lst, sl_str, oIn_tup, oNotIn_tup, oIn_lst, oNotIn_lst, oIn_scr, oNotIn_scr, ity_NoneType_bool, ity_NoneType_int, ity_NoneType_str, ity_NoneType_tuple, ity_NoneType_list, ity_NoneType_dict, ity_bool_bool, ity_bool_int, ity_bool_str, ity_bool_tuple, ity_bool_list, ity_bool_dict, ity_int_bool, ity_int_int, ity_int_str, ity_int_tuple, ity_int_list, ity_int_dict, ity_str_bool, ity_str_int, ity_str_str, ity_str_tuple, ity_str_list, ity_str_dict, ity_tuple_bool, ity_tuple_int, ity_tuple_str, ity_tuple_tuple, ity_tuple_list, ity_tuple_dict, ity_list_bool, ity_list_int, ity_list_str, ity_list_tuple, ity_list_list, ity_list_dict, ity_dict_bool, ity_dict_int, ity_dict_str, ity_dict_tuple, ity_dict_list, ity_dict_dict, tym_bool, tym_int, tym_str, tym_tuple, tym_list, tym_dict])
local macro_rules | `(tactic| walk_at "lt") => `(tactic| repeat (refine And.intro (by first | exact le_line (Nat.le_of_ble_eq_true rfl) | exact tyM_lref setS_same | with_reducible rfl) ?_))
noncomputable abbrev Ent := Nat × List Bool
noncomputable def entD (e : Ent) : D := .tup [.int (e.1 : Nat), .str (stk e.2)]
noncomputable def dig (n : Nat) : Str := Str.ofString (toString ((n : Nat) : Int))
noncomputable def lineE (e : Ent) : Str := dig e.1 ++ (" " : Str) ++ stk e.2
noncomputable def txtE (es : List Ent) : Str := Txt.join ("\n" : Str) (es.map lineE)
structure Good (es : List Ent) : Prop where
  sz : es.length ≤ 300
  num : ∀ e ∈ es, e.1 < 10000000
  st : ∀ e ∈ es, e.2 ≠ [] ∧ e.2.length ≤ 1000
  nn : (es.map (·.1)).Nodup
  ns : (es.map (·.2)).Nodup
  ln : ∀ e ∈ es, ∀ e' ∈ es, e.2.length = e'.2.length
theorem Good.sub {es fs : List Ent} (h : Good es) (s : fs.Sublist es) : Good fs :=
  ⟨Nat.le_trans s.length_le h.sz, fun e k => h.num e (s.subset k), fun e k => h.st e (s.subset k), h.nn.sublist (s.map _), h.ns.sublist (s.map _), fun e k e' k' => h.ln e (s.subset k) e' (s.subset k')⟩
theorem Good.perm {es fs : List Ent} (h : Good es) (s : fs.Perm es) : Good fs :=
  ⟨s.length_eq ▸ h.sz, fun e k => h.num e (s.mem_iff.mp k), fun e k => h.st e (s.mem_iff.mp k), (s.map _).nodup_iff.mpr h.nn, (s.map _).nodup_iff.mpr h.ns, fun e k e' k' => h.ln e (s.mem_iff.mp k) e' (s.mem_iff.mp k')⟩
theorem Good.nil : Good [] := ⟨by simp, by simp, by simp, by simp, by simp, by simp⟩
theorem nodup_fst {α β : Type} {es : List (α × β)} (h : (es.map (·.1)).Nodup) {a b : α × β} (ha : a ∈ es) (hb : b ∈ es) (e : a.1 = b.1) : a = b := by
  induction es with
  | nil => cases ha
  | cons x r ih =>
    rw [List.map_cons, List.nodup_cons] at h
    rcases List.mem_cons.mp ha with rfl | ha'
    · rcases List.mem_cons.mp hb with rfl | hb'
      · rfl
      · exact absurd (List.mem_map.mpr ⟨b, hb', e.symm⟩) h.1
    · rcases List.mem_cons.mp hb with rfl | hb'
      · exact absurd (List.mem_map.mpr ⟨a, ha', e⟩) h.1
      · exact ih h.2 ha' hb'
theorem nodup_snd {α β : Type} {es : List (α × β)} (h : (es.map (·.2)).Nodup) {a b : α × β} (ha : a ∈ es) (hb : b ∈ es) (e : a.2 = b.2) : a = b := by
  induction es with
  | nil => cases ha
  | cons x r ih =>
    rw [List.map_cons, List.nodup_cons] at h
    rcases List.mem_cons.mp ha with rfl | ha'
    · rcases List.mem_cons.mp hb with rfl | hb'
      · rfl
      · exact absurd (List.mem_map.mpr ⟨b, hb', e.symm⟩) h.1
    · rcases List.mem_cons.mp hb with rfl | hb'
      · exact absurd (List.mem_map.mpr ⟨a, ha', e⟩) h.1
      · exact ih h.2 ha' hb'
theorem nodup_get {α β : Type} {es : List α} {f : α → β} (h : (es.map f).Nodup) {i j : Nat} {a b : α} (ha : es[i]? = some a) (hb : es[j]? = some b) (e : f a = f b) : i = j := by
  have h1 : (es.map f)[i]? = some (f a) := by rw [List.getElem?_map, ha]; rfl
  have h2 : (es.map f)[j]? = some (f b) := by rw [List.getElem?_map, hb]; rfl
  have hi := (List.getElem?_eq_some_iff.mp h1).1
  exact List.getElem?_inj hi h |>.mp (by rw [h1, h2, e])
/-- ascending -/
noncomputable def insE (e : Ent) : List Ent → List Ent
  | [] => [e]
  | x :: r => if e.1 ≤ x.1 then e :: x :: r else x :: insE e r
noncomputable def srtE : List Ent → List Ent
  | [] => []
  | e :: r => insE e (srtE r)
theorem insE_perm (e : Ent) : ∀ es, (insE e es).Perm (e :: es)
  | [] => .refl _
  | x :: r => by
    unfold insE
    split
    · exact .refl _
    · exact ((insE_perm e r).cons x).trans (.swap e x r)
theorem srtE_perm : ∀ es, (srtE es).Perm es
  | [] => .refl _
  | e :: r => (insE_perm e _).trans ((srtE_perm r).cons e)
theorem insE_sorted (e : Ent) : ∀ {es : List Ent}, es.Pairwise (fun a b => a.1 ≤ b.1) → (insE e es).Pairwise (fun a b => a.1 ≤ b.1)
  | [], _ => List.pairwise_singleton _ _
  | x :: r, h => by
    have h1 := List.pairwise_cons.mp h
    unfold insE
    split
    · rename_i q
      refine List.pairwise_cons.mpr ⟨fun y hy => ?_, h⟩
      rcases List.mem_cons.mp hy with rfl | hy
      · exact q
      · exact Nat.le_trans q (h1.1 y hy)
    · rename_i q
      refine List.pairwise_cons.mpr ⟨fun y hy => ?_, insE_sorted e h1.2⟩
      rcases List.mem_cons.mp ((insE_perm e r).mem_iff.mp hy) with rfl | hy
      · omega
      · exact h1.1 y hy
theorem srtE_sorted : ∀ es, (srtE es).Pairwise (fun a b => a.1 ≤ b.1)
  | [] => .nil
  | e :: r => insE_sorted e (srtE_sorted r)
noncomputable def Asc (es : List Ent) : Prop := es.Pairwise (fun a b => a.1 < b.1)
theorem asc_of {es : List Ent} (h : es.Pairwise (fun a b => a.1 ≤ b.1)) (n : (es.map (·.1)).Nodup) : Asc es := by
  have n2 := List.pairwise_map.mp n
  exact (h.and n2).imp fun ⟨a, b⟩ => Nat.lt_of_le_of_ne a b
theorem srtE_asc {es : List Ent} (n : (es.map (·.1)).Nodup) : Asc (srtE es) := asc_of (srtE_sorted es) (((srtE_perm es).map _).nodup_iff.mpr n)
theorem asc_eq : ∀ {a b : List Ent}, Asc a → Asc b → a.Perm b → a = b
  | [], b, _, _, p => by rw [List.nil_perm.mp p]
  | x :: a, [], _, _, p => by cases List.perm_nil.mp p
  | x :: a, y :: b, ha, hb, p => by
    have h1 := List.pairwise_cons.mp ha
    have h2 := List.pairwise_cons.mp hb
    have e : x = y := by
      rcases List.mem_cons.mp (p.mem_iff.mp List.mem_cons_self) with e | q
      · exact e
      · rcases List.mem_cons.mp (p.mem_iff.mpr List.mem_cons_self) with e | r
        · exact e.symm
        · have := h1.1 y r; have := h2.1 x q; omega
    subst e
    rw [asc_eq h1.2 h2.2 (List.Perm.cons_inv p)]
theorem srtE_of {es : List Ent} (h : Asc es) : srtE es = es := asc_eq (srtE_asc (h.imp (fun q => Nat.ne_of_lt q) |> List.pairwise_map.mpr)) h (srtE_perm es)
theorem srtE_good {es : List Ent} (h : Good es) : Good (srtE es) := h.perm (srtE_perm es)
/-- ints, ascending: one way alone -/
theorem ints_asc : ∀ {a b : List Int}, a.Pairwise (· ≤ ·) → b.Pairwise (· ≤ ·) → a.Perm b → a = b
  | [], b, _, _, p => by rw [List.nil_perm.mp p]
  | x :: a, [], _, _, p => by cases List.perm_nil.mp p
  | x :: a, y :: b, ha, hb, p => by
    have h1 := List.pairwise_cons.mp ha
    have h2 := List.pairwise_cons.mp hb
    have e : x = y := by
      rcases List.mem_cons.mp (p.mem_iff.mp List.mem_cons_self) with e | q
      · exact e
      · rcases List.mem_cons.mp (p.mem_iff.mpr List.mem_cons_self) with e | r
        · exact e.symm
        · have := h1.1 y r; have := h2.1 x q; omega
    subst e
    rw [ints_asc h1.2 h2.2 (List.Perm.cons_inv p)]
theorem str_ln (x : Str) : x.length = x.cps.toList.length := by simp [Str.length]
theorem str_app_assoc (a b c : Str) : a ++ b ++ c = a ++ (b ++ c) := str_ext (by simp [app_cps])
theorem str_app_len (a b : Str) : (a ++ b).length = a.length + b.length := by rw [str_ln, str_ln, str_ln, app_cps]; simp
theorem str_emp (a : Str) : Str.empty ++ a = a := str_ext (by rw [app_cps]; simp [Str.empty])
theorem dig_tl (n : Nat) : (dig n).cps.toList = TL.numL n := TL.tl_num n
theorem dig_len {n : Nat} (h : n < 10000000) : (dig n).length ≤ 7 := by
  rw [str_ln, dig_tl]
  exact TL.numL_len (k := 7) (by decide) (by omega)
theorem numL_head : ∀ {n : Nat}, 0 < n → ∃ a r, TL.numL n = a :: r ∧ a ≠ 48
  | n, h => by
    by_cases q : n < 10
    · exact ⟨48 + n, [], TL.numL_lt q, by omega⟩
    · obtain ⟨a, r, e, ha⟩ := numL_head (n := n / 10) (by omega)
      exact ⟨a, r ++ [48 + n % 10], by rw [TL.numL_step (by omega), e]; rfl, ha⟩
termination_by n => n
theorem join_snoc (y x : Str) : ∀ {l : List Str}, l ≠ [] → Txt.join y (l ++ [x]) = Txt.join y l ++ y ++ x
  | [], h => (h rfl).elim
  | [a], _ => by rw [join_eqS, join_eqS]; rfl
  | a :: b :: r, _ => by
    have ih := join_snoc y x (l := b :: r) (by simp)
    rw [join_eqS, join_eqS] at ih ⊢
    show a ++ y ++ Str.join y ((b :: r) ++ [x]) = a ++ y ++ Str.join y (b :: r) ++ y ++ x
    rw [ih, str_app_assoc (a ++ y) _ y, str_app_assoc (a ++ y) _ x]
theorem txt_nil : txtE [] = Str.empty := by unfold txtE; rw [join_eqS]; rfl
theorem txt_one (e : Ent) : txtE [e] = lineE e := by unfold txtE; rw [join_eqS]; rfl
theorem txt_snoc {es : List Ent} (h : es ≠ []) (e : Ent) : txtE (es ++ [e]) = txtE es ++ ("\n" : Str) ++ lineE e := by
  unfold txtE
  rw [List.map_append]
  exact join_snoc _ _ (by simpa using h)
theorem line_len {e : Ent} (h1 : e.1 < 10000000) (h2 : e.2.length ≤ 1000) : (lineE e).length ≤ 1008 := by
  have := dig_len h1
  unfold lineE
  rw [str_app_len, str_app_len, stk_len]
  have : (" " : Str).length = 1 := by decide +kernel
  omega
theorem txt_len {es : List Ent} (h : Good es) : (txtE es).length ≤ es.length * 1009 := by
  unfold txtE
  rw [join_eqS]
  refine Nat.le_trans (StrLaws.join_length_le _ _) ?_
  have hs : ∀ l : List Ent, (∀ e ∈ l, e.1 < 10000000 ∧ e.2.length ≤ 1000) → ((l.map lineE).map (·.length)).sum ≤ l.length * 1008 := by
    intro l
    induction l with
    | nil => intro _; simp
    | cons e r ih =>
      intro hl
      have := ih fun e he => hl e (List.mem_cons_of_mem _ he)
      obtain ⟨h1, h2⟩ := hl e List.mem_cons_self
      have := line_len h1 h2
      simp only [List.map_cons, List.sum_cons, List.length_cons]
      omega
  have := hs es fun e he => ⟨h.num e he, (h.st e he).2⟩
  have e1 : ("\n" : Str).length = 1 := by decide +kernel
  rw [e1, List.length_map]
  omega
theorem txt_small {es : List Ent} (h : Good es) : (txtE es).length ≤ 302700 := by
  have := txt_len h
  have := h.sz
  omega
theorem tl_free_line {e : Ent} : 10 ∉ (lineE e).cps.toList := by
  unfold lineE
  rw [app_cps, app_cps]
  simp only [Array.toList_append, List.mem_append, not_or, dig_tl]
  refine ⟨⟨TL.numL_free (by omega), by decide +kernel⟩, ?_⟩
  intro h
  have h2 : (10 : Nat) ∈ e.2.map sg := by simpa [stk] using h
  obtain ⟨b, _, hb⟩ := List.mem_map.mp h2
  cases b <;> simp [sg] at hb
theorem split_txt {es : List Ent} (h : es ≠ []) : Txt.split (txtE es) ("\n" : Str) = es.map lineE := by
  unfold txtE
  refine TL.split_join (s := 10) (S := []) (by decide +kernel) (by decide +kernel) (by simpa using h) fun p hp => ?_
  obtain ⟨e, _, rfl⟩ := List.mem_map.mp hp
  exact tl_free_line
theorem split_line (e : Ent) : Txt.split (lineE e) (" " : Str) = [dig e.1, stk e.2] := by
  have e1 : lineE e = Txt.join (" " : Str) [dig e.1, stk e.2] := by rw [join_eqS]; rfl
  rw [e1]
  refine TL.split_join (s := 32) (S := []) (by decide +kernel) (by decide +kernel) (by simp) fun p hp => ?_
  simp only [List.mem_cons, List.not_mem_nil, or_false] at hp
  rcases hp with rfl | rfl
  · rw [show TL.tl (dig e.1) = TL.numL e.1 from dig_tl _]
    exact TL.numL_free (by omega)
  · intro h
    have h2 : (32 : Nat) ∈ e.2.map sg := by simpa [stk] using h
    obtain ⟨b, _, hb⟩ := List.mem_map.mp h2
    cases b <;> simp [sg] at hb
theorem line_ne (e : Ent) : lineE e ≠ Str.empty := fun h => by
  have := congrArg (fun x : Str => x.cps.toList) h
  unfold lineE at this
  simp only [app_cps, Array.toList_append, dig_tl] at this
  have h2 := TL.numL_ne e.1
  cases q : TL.numL e.1 with
  | nil => exact h2 q
  | cons a r => rw [q] at this; simp [Str.empty] at this
theorem txt_ne {es : List Ent} (h : es ≠ []) : txtE es ≠ Str.empty := fun q => by
  have h2 := split_txt h
  rw [q] at h2
  have h3 : Txt.split Str.empty ("\n" : Str) = [Str.empty] := by decide +kernel
  rw [h3] at h2
  cases es with
  | nil => exact h rfl
  | cons e r =>
    simp only [List.map_cons, List.cons.injEq] at h2
    exact line_ne e h2.1.symm
noncomputable def lenB : List Ent → Nat
  | [] => 0
  | e :: _ => e.2.length
noncomputable def bkF (es : List Ent) : List (Str × D) := [("entries", .tup (es.map entD)), ("length", .int (lenB es : Nat)), ("text", .str (txtE es))]
noncomputable def bkD (C : Addr) (es : List Ent) : D := .obj C (bkF es)
theorem lk_ent {a b d : D} : look [(("entries" : Str), a), ("length", b), ("text", d)] "entries" = some a := by rfl
theorem atI_hd {x : D} {xs : List D} : atI (x :: xs) 0 = some x := atI_nat (j := 0) rfl
theorem pb1 {a : D} : put [] ("entries" : Str) a = [(("entries" : Str), a)] := by rfl
theorem pb2 {a b : D} : put [(("entries" : Str), a)] ("length" : Str) b = [(("entries" : Str), a), ("length", b)] := by rfl
theorem pb3 {a b d : D} : put [(("entries" : Str), a), ("length", b)] ("text" : Str) d = [(("entries" : Str), a), ("length", b), ("text", d)] := by rfl
theorem lb1 {a : D} : look [(("entries" : Str), a)] "entries" = some a := by rfl
theorem lb2 {a b : D} : look [(("entries" : Str), a), ("length", b)] "entries" = some a := by rfl
theorem len_mem {es : List Ent} (h : Good es) {e : Ent} (he : e ∈ es) : e.2.length = lenB es := by
  cases es with
  | nil => cases he
  | cons x r => exact h.ln e he x List.mem_cons_self
theorem sorted_nums (es : List Ent) (μ : Store) (P : D → Store → Prop) (h : P (.lst ((srtE es).map fun e => .int (e.1 : Nat))) μ) : oSorted [.lst (es.map fun e => .int (e.1 : Nat))] μ P := by
  unfold oSorted
  have e : intsD (es.map fun e => D.int (e.1 : Nat)) = some (es.map fun e => ((e.1 : Nat) : Int)) := by
    have q := intsD_map (es.map fun e => ((e.1 : Nat) : Int))
    rw [List.map_map] at q
    exact q
  show (match seqR μ (.lst (es.map fun e => .int (e.1 : Nat))) with | some xs => _ | none => False)
  dsimp only [seqR, seqL]
  rw [e]
  intro ns' hp hs
  have : ns' = (srtE es).map fun e => ((e.1 : Nat) : Int) := by
    refine ints_asc hs ?_ (hp.trans (((srtE_perm es).map _).symm))
    exact List.pairwise_map.mpr ((srtE_sorted es).imp fun q => by omega)
  rw [this, List.map_map]
  exact h
noncomputable def unT : D → D
  | .tup xs => .lst xs
  | d => d
noncomputable def seqF : D → Option (List D)
  | .lst xs => some xs
  | .tup xs => some xs
  | _ => none
theorem keys_look {es : List Ent} (h : (es.map (·.1)).Nodup) {e : Ent} (he : e ∈ es) : look (es.map fun e => (keyN e.1, D.str (stk e.2))) (keyN e.1) = some (.str (stk e.2)) := by
  induction es with
  | nil => cases he
  | cons x r ih =>
    rw [List.map_cons, List.nodup_cons] at h
    rw [List.map_cons]
    unfold look
    by_cases q : keyN x.1 = keyN e.1
    · rw [if_pos q]
      rcases List.mem_cons.mp he with rfl | hr
      · rfl
      · exact absurd (List.mem_map.mpr ⟨e, hr, (keyN_inj q).symm⟩) h.1
    · rw [if_neg q]
      rcases List.mem_cons.mp he with rfl | hr
      · exact absurd rfl q
      · exact ih h.2 hr
theorem cut_drop (bs : List Bool) (n : Nat) (h : n ≤ bs.length) : cutS (stk bs) (some (n : Int)) none = stk (bs.drop n) := by
  apply str_ext
  unfold cutS
  have hl := stk_len bs
  simp only [hl, HT.sIx_none, HT.sIx_nat, Nat.min_eq_left h]
  simp [stk, List.map_drop]
  exact List.take_of_length_le (by simp)
theorem cut_any (bs : List Bool) (n : Nat) : cutS (stk bs) none (some (n : Int)) = stk (bs.take n) := by
  by_cases h : n ≤ bs.length
  · exact cut_stk bs n h
  · apply str_ext
    unfold cutS
    have hl := stk_len bs
    simp only [hl, HT.sIx_none, HT.sIx_nat, List.drop_zero, Nat.sub_zero, Nat.min_eq_right (show bs.length ≤ n by omega)]
    rw [List.take_of_length_le (by simp [stk]), List.take_of_length_le (show bs.length ≤ n by omega)]
theorem cutd_any (bs : List Bool) (n : Nat) : cutS (stk bs) (some (n : Int)) none = stk (bs.drop n) := by
  by_cases h : n ≤ bs.length
  · exact cut_drop bs n h
  · apply str_ext
    unfold cutS
    have hl := stk_len bs
    simp only [hl, HT.sIx_none, HT.sIx_nat, Nat.min_eq_right (show bs.length ≤ n by omega)]
    rw [List.drop_eq_nil_of_le (show bs.length ≤ n by omega)]
    simp [stk]
noncomputable def prD (p : Nat × Nat) : D := .tup [.int (p.1 : Nat), .int (p.2 : Nat)]
noncomputable def frOf (es : List Ent) (w : W3) (a : Ent) : List (Nat × Nat) := es.filterMap fun b => if a.1 ≠ b.1 ∧ canW w a.2 b.2 = true then some (a.1, b.1) else none
noncomputable def frs (es : List Ent) (w : W3) : List (Nat × Nat) := es.flatMap (frOf es w)
theorem fmap_len {α β : Type} (f : α → Option β) (l : List α) : (l.filterMap f).length ≤ l.length := List.length_filterMap_le f l
theorem flat_len {α β : Type} (f : α → List β) {n : Nat} : ∀ l : List α, (∀ a ∈ l, (f a).length ≤ n) → (l.flatMap f).length ≤ l.length * n
  | [], _ => by simp
  | a :: r, h => by
    rw [List.flatMap_cons, List.length_append, List.length_cons, Nat.add_mul]
    have := h a List.mem_cons_self
    have := flat_len f r fun b hb => h b (List.mem_cons_of_mem _ hb)
    omega
theorem frs_len (es : List Ent) (w : W3) : (frs es w).length ≤ es.length * es.length := flat_len _ es fun _ _ => fmap_len _ _
theorem frs_lenT (es : List Ent) (w : W3) (i : Nat) : ((es.take i).flatMap (frOf es w)).length ≤ es.length * es.length := by
  refine Nat.le_trans (flat_len (n := es.length) _ (es.take i) fun _ _ => fmap_len _ _) (Nat.mul_le_mul_right _ ?_)
  rw [List.length_take]
  omega
theorem frs_mem {es : List Ent} {w : W3} {p : Nat × Nat} : p ∈ frs es w ↔ ∃ a ∈ es, ∃ b ∈ es, a.1 ≠ b.1 ∧ canW w a.2 b.2 = true ∧ p = (a.1, b.1) := by
  unfold frs frOf
  rw [List.mem_flatMap]
  constructor
  · rintro ⟨a, ha, h⟩
    obtain ⟨b, hb, e⟩ := List.mem_filterMap.mp h
    split at e
    · rename_i q
      exact ⟨a, ha, b, hb, q.1, q.2, (Option.some.inj e).symm⟩
    · cases e
  · rintro ⟨a, ha, b, hb, h1, h2, rfl⟩
    exact ⟨a, ha, List.mem_filterMap.mpr ⟨b, hb, if_pos ⟨h1, h2⟩⟩⟩
/-- the greatest of some numbers and 0 -/
noncomputable def mx0 : List Int → Int
  | [] => 0
  | x :: r => if mx0 r ≤ x then x else mx0 r
noncomputable def orgs (es : List Ent) (w : W3) (s : List Bool) : List Nat := es.filterMap fun a => if canW w a.2 s = true then some a.1 else none
theorem orgs_mem {es : List Ent} {w : W3} {s : List Bool} {n : Nat} : n ∈ orgs es w s ↔ ∃ a ∈ es, canW w a.2 s = true ∧ n = a.1 := by
  unfold orgs
  rw [List.mem_filterMap]
  constructor
  · rintro ⟨a, ha, e⟩
    split at e
    · rename_i q
      exact ⟨a, ha, q, (Option.some.inj e).symm⟩
    · cases e
  · rintro ⟨a, ha, h, rfl⟩
    exact ⟨a, ha, if_pos h⟩
/-- the first and the last -/
noncomputable def endsD : List Nat → D
  | [] => .non
  | a :: r => .tup [.int (a : Nat), .int (((a :: r).getLast (by simp) : Nat) : Int)]
theorem atI_last {xs : List D} (h : xs ≠ []) : atI xs (-1) = some (xs.getLast h) := by
  rcases List.eq_nil_or_concat xs with rfl | ⟨ys, y, rfl⟩
  · exact absurd rfl h
  · unfold atI ixN
    simp
    have e : (-1 + ((ys.length : Int) + 1)).toNat = ys.length := by omega
    rw [if_pos (by omega)]
    simp [e]
theorem last_map (l : List Nat) (h : l ≠ []) : atI (l.map eNat.enc) (-1) = some (.int ((l.getLast h : Nat) : Int)) := by
  rw [atI_last (by simpa using h), List.getLast_map]
  rfl
structure Shw {α : Type} [DecidableEq α] (E : Enc α) (P : α → Prop) (n : Nat) : Prop where
  sh : ∀ a, P a → (E.py a).showable = true
  ln : ∀ a, P a → (E.py a).shown.length ≤ n
theorem Shw.ok {α : Type} [DecidableEq α] {E : Enc α} {P : α → Prop} {n : Nat} (S : Shw E P n) (h : E.n ≤ 64) (hz : n ≤ 1000000) {a : α} (ha : P a) : reprOk (E.py a) :=
  ⟨S.sh a ha, PyData.hasDict_of_canLay _ (E.lay a), Nat.le_trans (E.dep a) h, le_line (Nat.le_trans (S.ln a ha) hz)⟩
theorem shw_all {α : Type} [DecidableEq α] {E : Enc α} {P : α → Prop} {n : Nat} (S : Shw E P n) : ∀ {l : List α}, (∀ a ∈ l, P a) → PyData.showableAll (l.map E.py) = true ∧ (PyData.shownAll (l.map E.py)).length = l.length ∧ ∀ x ∈ PyData.shownAll (l.map E.py), x.length ≤ n
  | [], _ => ⟨by rw [List.map_nil, PyData.showableAll], by rw [List.map_nil, PyData.shownAll]; rfl, by rw [List.map_nil, PyData.shownAll]; intro x hx; cases hx⟩
  | a :: r, h => by
    obtain ⟨h1, h2, h3⟩ := shw_all S (l := r) fun b hb => h b (List.mem_cons_of_mem _ hb)
    have ha := h a List.mem_cons_self
    refine ⟨?_, ?_, ?_⟩
    · rw [List.map_cons, PyData.showableAll, S.sh a ha, h1]; rfl
    · rw [List.map_cons, PyData.shownAll, List.length_cons, h2, List.length_cons]
    · rw [List.map_cons, PyData.shownAll]
      intro x hx
      rcases List.mem_cons.mp hx with rfl | hx
      · exact S.ln a ha
      · exact h3 x hx
theorem sum_le_len {n : Nat} : ∀ {ts : List Str}, (∀ x ∈ ts, x.length ≤ n) → (ts.map (·.length)).sum ≤ ts.length * n
  | [], _ => by simp
  | t :: r, h => by
    have h1 := h t List.mem_cons_self
    have h2 := sum_le_len fun x hx => h x (List.mem_cons_of_mem _ hx)
    rw [List.map_cons, List.sum_cons, List.length_cons, Nat.add_mul]
    omega
theorem tupT_len {ts : List Str} {n : Nat} (h : ∀ x ∈ ts, x.length ≤ n) : (tupleText ts).length ≤ ts.length * (n + 2) + 3 := by
  unfold tupleText
  rw [str_app_len, str_app_len]
  have e1 : (("(" : String) : Str).length = 1 := rfl
  have e3 : (((if ts.length == 1 then ",)" else ")" : String) : Str)).length ≤ 2 := by split <;> decide
  have e2 : ((", " : String) : Str).length = 2 := rfl
  have h1 := StrLaws.join_length_le (", " : Str) ts
  have h2 := sum_le_len h
  rw [e2] at h1
  rw [e1, Nat.mul_add]
  omega
theorem textFrom_le {n : Nat} : ∀ {ts : List Str} {k : Nat} {acc : Str}, (∀ x ∈ ts, x.length ≤ n) → (textFrom k acc ts).length ≤ acc.length + ts.length * (n + 2)
  | [], _, _, _ => by unfold textFrom; simp
  | t :: r, k, acc, h => by
    unfold textFrom
    have h1 := h t List.mem_cons_self
    have h2 := textFrom_le (k := k + 1) (acc := acc ++ (if k > 0 then ", " else "" : String) ++ t) fun x hx => h x (List.mem_cons_of_mem _ hx)
    have e : (((if k > 0 then ", " else "" : String) : Str)).length ≤ 2 := by split <;> decide
    rw [str_app_len, str_app_len] at h2
    rw [List.length_cons, Nat.add_mul]
    omega
theorem lstT_len {ts : List Str} {n : Nat} (h : ∀ x ∈ ts, x.length ≤ n) : (listText ts).length ≤ ts.length * (n + 2) + 3 := by
  unfold listText
  rw [str_app_len]
  have e1 : (("]" : String) : Str).length = 1 := rfl
  have e2 : (("[" : String) : Str).length = 1 := rfl
  have := textFrom_le (k := 0) (acc := ("[" : Str)) h
  rw [e2] at this
  omega
theorem Shw.tup {α : Type} [DecidableEq α] {E : Enc α} {P : α → Prop} {n : Nat} (S : Shw E P n) (m : Nat) : Shw (eTup E) (fun l => l.length ≤ m ∧ ∀ a ∈ l, P a) (m * (n + 2) + 3) :=
  ⟨fun l ⟨_, h⟩ => by show PyData.showable (.tuple (l.map E.py)) = true; rw [PyData.showable]; exact (shw_all S h).1, fun l ⟨hm, h⟩ => by
    show (PyData.shown (.tuple (l.map E.py))).length ≤ _
    rw [PyData.shown]
    obtain ⟨_, h2, h3⟩ := shw_all S h
    have h4 := tupT_len h3
    rw [h2] at h4
    have h5 : l.length * (n + 2) ≤ m * (n + 2) := Nat.mul_le_mul_right _ hm
    omega⟩
theorem Shw.lst {α : Type} [DecidableEq α] {E : Enc α} {P : α → Prop} {n : Nat} (S : Shw E P n) (m : Nat) : Shw (eLst E) (fun l => l.length ≤ m ∧ ∀ a ∈ l, P a) (m * (n + 2) + 3) :=
  ⟨fun l ⟨_, h⟩ => by show PyData.showable (.list (l.map E.py)) = true; rw [PyData.showable]; exact (shw_all S h).1, fun l ⟨hm, h⟩ => by
    show (PyData.shown (.list (l.map E.py))).length ≤ _
    rw [PyData.shown]
    obtain ⟨_, h2, h3⟩ := shw_all S h
    have h4 := lstT_len h3
    rw [h2] at h4
    have h5 : l.length * (n + 2) ≤ m * (n + 2) := Nat.mul_le_mul_right _ hm
    omega⟩
noncomputable def eEnt : Enc Ent := ePair eNat eStk
theorem in_sticks (s : List Bool) (l : List (List Bool)) : inD (.str (stk s)) (l.map sD) = decide (s ∈ l) := by
  unfold inD inV
  induction l with
  | nil => rfl
  | cons x r ih =>
    simp only [List.map_cons] at ih ⊢
    rw [List.any_cons, ih]
    have e : eqV (toV (sD x)) (toV (.str (stk s))) = decide (s = x) := by
      show (stk x == stk s) = _
      rw [stk_beq, decide_eq_decide]
      exact eq_comm
    rw [Bool.eq_iff_iff]
    simp [e]
theorem flat_sticks (l : List (List Bool)) : (l.map sD).all flatD = true := by
  rw [List.all_map, List.all_eq_true]
  intro x _
  rfl
theorem flat_nats (l : List Nat) : (l.map eNat.enc).all flatD = true := by
  rw [List.all_map, List.all_eq_true]
  intro x _
  rfl
theorem DealAt.set {μ : Store} {p q a : Addr} {c : Cell} (h : DealAt μ p q) (h1 : a ≠ p) (h2 : a ≠ q) : DealAt (setS μ a c) p q := by
  obtain ⟨hpq, xs, b, hp, hq, hz⟩ := h
  exact ⟨hpq, xs, b, by rw [setS_ne (Ne.symm h1)]; exact hp, by rw [setS_ne (Ne.symm h2)]; exact hq, hz⟩
theorem DealAt.ne {μ : Store} {p q a : Addr} (h : DealAt μ p q) (ha : μ a = none) : a ≠ p ∧ a ≠ q := by
  obtain ⟨hpq, xs, b, hp, hq, hz⟩ := h
  exact ⟨fun e => (by rw [e, hp] at ha; cases ha), fun e => (by rw [e, hq] at ha; cases ha)⟩
theorem Good.snoc {es : List Ent} {n : Nat} {s : List Bool} {l : Nat} (h : Good es) (hz : es.length < 300) (hn : n < 10000000) (hs : s.length = l) (hl : 0 < l ∧ l ≤ 1000) (hall : ∀ e ∈ es, e.2.length = l) (h1 : n ∉ es.map (·.1)) (h2 : s ∉ es.map (·.2)) : Good (es ++ [(n, s)]) := by
  refine ⟨by simp; omega, ?_, ?_, ?_, ?_, ?_⟩
  · intro e he
    rcases List.mem_append.mp he with he | he
    · exact h.num e he
    · simp at he; subst he; exact hn
  · intro e he
    rcases List.mem_append.mp he with he | he
    · exact h.st e he
    · simp at he; subst he; exact ⟨by rintro rfl; simp at hs; omega, by simp only; omega⟩
  · rw [List.map_append]
    exact List.nodup_append.mpr ⟨h.nn, by simp, by rintro a ha b hb rfl; simp at hb; subst hb; exact h1 ha⟩
  · rw [List.map_append]
    exact List.nodup_append.mpr ⟨h.ns, by simp, by rintro a ha b hb rfl; simp at hb; subst hb; exact h2 ha⟩
  · have al : ∀ e ∈ es ++ [(n, s)], e.2.length = l := by
      intro e he
      rcases List.mem_append.mp he with he | he
      · exact hall e he
      · simp at he; subst he; exact hs
    intro e he e' he'
    rw [al e he, al e' he']
theorem strs_lines : ∀ es : List Ent, strsD (es.map fun e => D.str (lineE e)) = some (es.map lineE)
  | [] => rfl
  | e :: r => by
    have h := strs_lines r
    rw [List.map_cons, strsD, h]
    rfl
theorem lines_len {es : List Ent} (h : Good es) : ((es.map lineE).map (·.length)).sum + (es.map lineE).length * 1 ≤ 302700 := by
  have h1 := sum_le_len (n := 1008) (ts := es.map lineE) (by
    intro x hx
    obtain ⟨e, he, rfl⟩ := List.mem_map.mp hx
    exact line_len (h.num e he) (h.st e he).2)
  have := h.sz
  rw [List.length_map] at h1 ⊢
  omega
theorem nNil : D.lst [] = .lst (([] : List Nat).map eNat.enc) := rfl
theorem frs_small {es : List Ent} (ok : Good es) {w : W3} : ∀ p ∈ frs es w, p.1 < 10000000 ∧ p.2 < 10000000 := by
  intro p hp
  obtain ⟨a, ha, b, hb, _, _, rfl⟩ := frs_mem.mp hp
  exact ⟨ok.num a ha, ok.num b hb⟩
noncomputable def cf (cs : List (List Bool)) (p : Nat) : List Bool := cs.getD (p % cs.length) []
noncomputable def cost (cs : List (List Bool)) (p f : Nat) : Option Nat := if subB (cf cs p) (cf cs (p - f)) = true then some (f + (cnt (cf cs (p - f)) - cnt (cf cs p))) else none
noncomputable def okS (cs : List (List Bool)) (most : Option Int) (p f : Nat) : Bool := match cost cs p f with
  | some x => (match most with | none => true | some m => decide ((x : Int) ≤ m))
  | none => false
noncomputable def row (cs : List (List Bool)) (most : Option Int) (f n : Nat) : List (Nat × Nat) := ((List.range n).filter fun j => okS cs most (f + j) f).map fun j => (f + j, f)
noncomputable def mn : List Nat → Option Nat
  | [] => none
  | x :: r => match mn r with | none => some x | some y => some (if y < x then y else x)
theorem idx_lt : ∀ {k : Nat} {a : List Bool} {i : Nat}, i ∈ idxFrom k a → i < k + a.length
  | _, [], _, h => by cases h
  | k, true :: r, i, h => by
    rcases List.mem_cons.mp h with rfl | h
    · simp
    · have := idx_lt h; rw [List.length_cons]; omega
  | k, false :: r, i, h => by have := idx_lt (k := k + 1) (a := r) h; rw [List.length_cons]; omega
theorem idx_all : ∀ {k : Nat} {a b p : List Bool}, p.length = k → a.length = b.length → (idxFrom k a).all (fun i => decide ((p ++ b)[i]? = some true)) = subB a b
  | _, [], _, _, _, _ => rfl
  | k, x :: a, y :: b, p, hp, hl => by
    have ih := idx_all (k := k + 1) (a := a) (b := b) (p := p ++ [y]) (by simp [hp]) (by simpa using hl)
    rw [List.append_assoc, List.singleton_append] at ih
    have e : (p ++ y :: b)[k]? = some y := by rw [List.getElem?_append_right (by omega), hp, Nat.sub_self]; rfl
    cases x with
    | true =>
      show (k :: idxFrom (k + 1) a).all _ = _
      rw [List.all_cons, ih, e]
      cases y <;> simp [subB]
    | false =>
      show (idxFrom (k + 1) a).all _ = _
      rw [ih]
      simp [subB]
noncomputable def lwB (x y : Ent) : Bool := decide (x.1 ≠ y.1) && subB x.2 y.2
noncomputable def hF (S : List Ent) : Nat → Ent → Int
  | 0, _ => 1
  | n + 1, e => 1 + mx0 ((S.filter fun x => lwB x e).map (hF S n))
noncomputable def ht (S : List Ent) (e : Ent) : Int := hF S (cnt e.2) e
theorem lw_ne {S : List Ent} (ok : Good S) {x e : Ent} (hx : x ∈ S) (he : e ∈ S) (h : x.1 ≠ e.1) : x.2 ≠ e.2 := fun q => h (congrArg (·.1) (nodup_snd ok.ns hx he q))
theorem lw_cnt {S : List Ent} (ok : Good S) {x e : Ent} (hx : x ∈ S) (he : e ∈ S) (h : lwB x e = true) : cnt x.2 < cnt e.2 := by
  unfold lwB at h
  rw [Bool.and_eq_true, decide_eq_true_eq] at h
  exact (subB_cnt (ok.ln x hx e he) h.2).2 (lw_ne ok hx he h.1)
/-- the dict of heights, as far as known -/
noncomputable def hk (S P : List Ent) : List (Key × D) := P.map fun e => (keyN e.1, D.int (ht S e))
/-- a row: each within the next -/
structure RowOk (S rs : List Ent) : Prop where
  mem : ∀ e ∈ rs, e ∈ S
  lw : ∀ (j : Nat) (a b : Ent), rs[j]? = some a → rs[j + 1]? = some b → lwB a b = true
theorem RowOk.nil {S : List Ent} : RowOk S [] := ⟨by simp, by simp⟩
theorem RowOk.cons {S rs : List Ent} {e : Ent} (h : RowOk S rs) (he : e ∈ S) (k : ∀ a r, rs = a :: r → lwB e a = true) : RowOk S (e :: rs) := by
  refine ⟨fun x hx => ?_, fun j a b ha hb => ?_⟩
  · rcases List.mem_cons.mp hx with rfl | hx
    · exact he
    · exact h.mem x hx
  · cases j with
    | zero =>
      simp at ha hb
      subst ha
      cases rs with
      | nil => simp at hb
      | cons c r => simp at hb; subst hb; exact k _ _ rfl
    | succ j => exact h.lw j a b (by simpa using ha) (by simpa using hb)
theorem inD_ref {a : Addr} {kvs : List (Key × D)} {μ : Store} {i : Int} {P : D → Store → Prop} (h : μ a = some (.dct kvs)) : oInD (.int i) (.ref a) μ P = P (.bl (look kvs (.inl i)).isSome) μ := by
  unfold oInD oInDW
  have e : dctD μ (.ref a) = some kvs := by unfold dctD; dsimp only; rw [h]
  rw [e, key_int]
theorem set_ref {a : Addr} {kvs : List (Key × D)} {μ : Store} {i : Int} {d : D} {N : Store → Prop} (h : μ a = some (.dct kvs)) : oSet (.ref a) (.int i) d μ N = (kvs.length < sizeLine ∧ N (setS μ a (.dct (putD kvs (.inl i) d)))) := by
  unfold oSet
  dsimp only
  rw [h]
  dsimp only
  rw [key_int]
theorem canW_add (a b : List Bool) : canW ⟨.add, none, none⟩ a b = (decide (a.length = b.length) && subB a b) := by
  unfold canW letsW
  by_cases h : a.length = b.length
  · rw [decide_eq_true h]
    show (true && (true && (true && okH .add a b (dif a b)))) = _
    rw [show okH .add a b (dif a b) = (dif a b).all fun i => decide (b[i]? = some true) from rfl, dif_all h]
    rfl
  · rw [decide_eq_false h]
    rfl
noncomputable def BxAt (μ : Store) (p : Addr) : Prop := ∃ d, μ p = some (.lst d) ∧ BoxV d
theorem BxAt.set {μ : Store} {p : Addr} {d : List D} (h : BoxV d) : BxAt (setS μ p (.lst d)) p := ⟨d, setS_same, h⟩
theorem BxAt.other {μ : Store} {p a : Addr} {c : Cell} (h : BxAt μ p) (n : a ≠ p) : BxAt (setS μ a c) p := by obtain ⟨d, h1, h2⟩ := h; exact ⟨d, by rw [setS_ne (Ne.symm n)]; exact h1, h2⟩
theorem BxAt.ne {μ : Store} {p a : Addr} (h : BxAt μ p) (ha : μ a = none) : a ≠ p := by obtain ⟨d, h1, _⟩ := h; rintro rfl; rw [ha] at h1; cases h1
theorem Asc.snoc {es : List Ent} {e : Ent} (h : Asc es) (k : ∀ x ∈ es, x.1 < e.1) : Asc (es ++ [e]) := by
  unfold Asc
  rw [List.pairwise_append]
  exact ⟨h, List.pairwise_singleton _ _, fun a ha b hb => by simp only [List.mem_singleton] at hb; subst hb; exact k a ha⟩
theorem perm_map_inv {α β : Type} {f : α → β} : ∀ {as : List α} {bs : List β}, bs.Perm (as.map f) → ∃ cs : List α, bs = cs.map f ∧ cs.Perm as := by
  intro as bs h
  have gen : ∀ {l1 l2 : List β}, l1.Perm l2 → ∀ as : List α, l2 = as.map f → ∃ cs : List α, l1 = cs.map f ∧ cs.Perm as := by
    intro l1 l2 h
    induction h with
    | nil => intro as e; cases as with
      | nil => exact ⟨[], rfl, .nil⟩
      | cons _ _ => simp at e
    | cons x _ ih =>
      intro as e
      cases as with
      | nil => simp at e
      | cons a r =>
        rw [List.map_cons, List.cons.injEq] at e
        obtain ⟨cs, e2, p⟩ := ih r e.2
        exact ⟨a :: cs, by rw [e.1, e2, List.map_cons], p.cons a⟩
    | swap x y l =>
      intro as e
      cases as with
      | nil => simp at e
      | cons a r =>
        cases r with
        | nil => simp at e
        | cons b r =>
          simp only [List.map_cons, List.cons.injEq] at e
          exact ⟨b :: a :: r, by rw [e.1, e.2.1, e.2.2]; rfl, .swap a b r⟩
    | trans _ _ ih1 ih2 =>
      intro as e
      obtain ⟨cs, e2, p⟩ := ih2 as e
      obtain ⟨cs', e3, p'⟩ := ih1 cs e2
      exact ⟨cs', e3, p'.trans p⟩
  exact gen h as rfl
noncomputable def W0 : W3 := ⟨.add, none, none⟩
theorem subB_trans : ∀ {a b d : List Bool}, a.length = b.length → b.length = d.length → subB a b = true → subB b d = true → subB a d = true
  | [], [], [], _, _, _, _ => rfl
  | x :: a, y :: b, z :: d, h1, h2, h3, h4 => by
    simp only [subB, Bool.and_eq_true, Bool.or_eq_true, Bool.not_eq_true'] at h3 h4 ⊢
    refine ⟨?_, subB_trans (by simpa using h1) (by simpa using h2) h3.2 h4.2⟩
    rcases h3.1 with q | q
    · exact .inl q
    · rcases h4.1 with r | r
      · rw [q] at r; cases r
      · exact .inr r
theorem lw_sub {x y : Ent} (h : lwB x y = true) : x.1 ≠ y.1 ∧ subB x.2 y.2 = true := by
  unfold lwB at h
  rw [Bool.and_eq_true, decide_eq_true_eq] at h
  exact h
theorem pr_lw {S : List Ent} (ok : Good S) {x y : Ent} (hx : x ∈ S) (hy : y ∈ S) (h : lwB x y = true) : (x.1, y.1) ∈ frs S W0 := by
  refine frs_mem.mpr ⟨x, hx, y, hy, (lw_sub h).1, ?_, rfl⟩
  unfold W0
  rw [canW_add, decide_eq_true (ok.ln x hx y hy), (lw_sub h).2]
  rfl
theorem subB_rfl2 : ∀ a : List Bool, subB a a = true
  | [] => rfl
  | b :: s => by simp [subB, subB_rfl2 s]
noncomputable def sumO (es : List Ent) (s : List Bool) : Option Nat := (es.find? fun e => decide (e.2 = s)).map (·.1)
noncomputable def sumD : Option Nat → D
  | none => .non
  | some n => .int (n : Nat)
theorem sumO_in {es : List Ent} (ok : Good es) {e : Ent} (he : e ∈ es) : sumO es e.2 = some e.1 := by
  unfold sumO
  cases q : es.find? fun x => decide (x.2 = e.2) with
  | none =>
    have := List.find?_eq_none.mp q e he
    simp at this
  | some x =>
    have h1 := List.find?_some (p := fun x : Ent => decide (x.2 = e.2)) q
    have h2 := List.mem_of_find?_eq_some q
    rw [nodup_snd ok.ns h2 he (of_decide_eq_true h1)]
    rfl
theorem sumO_out {es : List Ent} {s : List Bool} (h : s ∉ es.map (·.2)) : sumO es s = none := by
  unfold sumO
  rw [List.find?_eq_none.mpr]
  · rfl
  · intro x hx q
    exact h (List.mem_map.mpr ⟨x, hx, of_decide_eq_true q⟩)
noncomputable def loO (es : List Ent) (s : List Bool) : Int := (((orgs es W0 s).headD 0 : Nat) : Int)
noncomputable def lastN : List Nat → Nat
  | [] => 0
  | a :: r => (a :: r).getLast (by simp)
noncomputable def hiO (es : List Ent) (s : List Bool) : Int := ((lastN (orgs es W0 s) : Nat) : Int)
noncomputable def SOk (es : List Ent) (s : List Bool) : Prop := s ≠ [] ∧ s.length ≤ 1000 ∧ s.length = lenB es ∧ orgs es W0 s ≠ []
theorem ends_of {es : List Ent} {s : List Bool} (h : SOk es s) : endsD (orgs es W0 s) = .tup [.int (loO es s), .int (hiO es s)] := by
  unfold loO hiO
  cases q : orgs es W0 s with
  | nil => exact absurd q h.2.2.2
  | cons a r => rfl
noncomputable def skD (ss : List (List Bool)) : D := .tup (ss.map sD)
noncomputable def paL (past : List (List (List Bool))) : D := .tup (past.map skD)
noncomputable def totD (es : List Ent) (ss : List (List Bool)) : D := .tup [.int (ss.map (loO es)).sum, .int (ss.map (hiO es)).sum]
noncomputable def sumsD (es : List Ent) (ss : List (List Bool)) : D := .tup (ss.map fun s => sumD (sumO es s))
noncomputable def ldH (C : Addr) (es : List Ent) (past : List (List (List Bool))) (r : List (Str × D)) : List (Str × D) := ("book", bkD C es) :: ("past", paL past) :: r
noncomputable def ldR (a b d : D) : List (Str × D) := [("sticks", a), ("sums", b), ("totals", d)]
noncomputable def ldT (b d : D) : List (Str × D) := [("sums", b), ("totals", d)]
noncomputable def ldU (d : D) : List (Str × D) := [("totals", d)]
noncomputable def ldF (C : Addr) (es : List Ent) (past : List (List (List Bool))) (ss : List (List Bool)) : List (Str × D) := ldH C es past (ldR (skD ss) (sumsD es ss) (totD es ss))
theorem lkl_b {C : Addr} {es : List Ent} {past : List (List (List Bool))} {r : List (Str × D)} : look (ldH C es past r) "book" = some (bkD C es) := by rfl
theorem lkl_s {C : Addr} {es : List Ent} {past : List (List (List Bool))} {ss : List (List Bool)} : look (ldF C es past ss) "sticks" = some (skD ss) := by rfl
theorem lkl_u {C : Addr} {es : List Ent} {past : List (List (List Bool))} {ss : List (List Bool)} : look (ldF C es past ss) "sums" = some (sumsD es ss) := by rfl
theorem lkl_t {C : Addr} {es : List Ent} {past : List (List (List Bool))} {ss : List (List Bool)} : look (ldF C es past ss) "totals" = some (totD es ss) := by rfl
theorem lkl_fb {C : Addr} {es : List Ent} {past : List (List (List Bool))} {ss : List (List Bool)} : look (ldF C es past ss) "book" = some (bkD C es) := by rfl
theorem lkl_fp {C : Addr} {es : List Ent} {past : List (List (List Bool))} {ss : List (List Bool)} : look (ldF C es past ss) "past" = some (paL past) := by rfl
theorem lkl_no {C : Addr} {es : List Ent} {past : List (List (List Bool))} {ss : List (List Bool)} {m : Str} (h : m = "show" ∨ m = "go_on" ∨ m = "write" ∨ m = "notch" ∨ m = "undo" ∨ m = "several") : look (ldF C es past ss) m = none := by
  rcases h with rfl | rfl | rfl | rfl | rfl | rfl <;> rfl
/-- a stick of the book, or one with notches more, can have been one -/
theorem sok_in {es : List Ent} (ok : Good es) {e : Ent} (he : e ∈ es) : SOk es e.2 := by
  refine ⟨(ok.st e he).1, (ok.st e he).2, len_mem ok he, fun q => ?_⟩
  have : e.1 ∈ orgs es W0 e.2 := orgs_mem.mpr ⟨e, he, by unfold W0; rw [canW_add, decide_eq_true rfl, subB_rfl2]; rfl, rfl⟩
  rw [q] at this
  cases this
theorem subB_set : ∀ (s : List Bool) (i : Nat), subB s (s.set i true) = true
  | [], _ => by simp [subB]
  | b :: s, 0 => by simp [subB, subB_rfl2]
  | b :: s, i + 1 => by simp [subB, subB_set s i]
theorem org_up {es : List Ent} (ok : Good es) {s t : List Bool} (hl : s.length = lenB es) (ht : t.length = s.length) (h : subB s t = true) {a : Nat} (ha : a ∈ orgs es W0 s) : a ∈ orgs es W0 t := by
  obtain ⟨e, he, hc, rfl⟩ := orgs_mem.mp ha
  refine orgs_mem.mpr ⟨e, he, ?_, rfl⟩
  unfold W0 at hc ⊢
  rw [canW_add, Bool.and_eq_true, decide_eq_true_eq] at hc
  rw [canW_add, decide_eq_true (hc.1.trans ht.symm), subB_trans hc.1 ht.symm hc.2 h]
  rfl
theorem sok_set {es : List Ent} (ok : Good es) {s : List Bool} (h : SOk es s) (i : Nat) : SOk es (s.set i true) := by
  obtain ⟨h1, h2, h3, h4⟩ := h
  refine ⟨fun q => h1 ?_, by rw [List.length_set]; exact h2, by rw [List.length_set]; exact h3, fun q => ?_⟩
  · have := congrArg List.length q
    rw [List.length_set] at this
    exact List.length_eq_zero_iff.mp this
  · cases e : orgs es W0 s with
    | nil => exact h4 e
    | cons a r =>
      have := org_up ok h3 (by rw [List.length_set]) (subB_set s i) (a := a) (by rw [e]; exact List.mem_cons_self)
      rw [q] at this
      cases this
noncomputable def AllOk (es : List Ent) (ss : List (List Bool)) : Prop := ss.length ≤ 1000 ∧ ∀ s ∈ ss, SOk es s
theorem cutD_last (xs : List D) (y : D) : cutD (xs ++ [y]) none (some (-1)) = xs := by
  unfold cutD
  rw [HT.sIx_none]
  have e : HT.sIx (xs ++ [y]).length (xs ++ [y]).length (some (-1)) = xs.length := by
    unfold HT.sIx
    dsimp only
    rw [if_pos (by decide), List.length_append, List.length_singleton]
    omega
  rw [e, List.drop_zero, Nat.sub_zero, List.take_append_of_le_length (Nat.le_refl _), List.take_length]
theorem set_parts {α : Type} (l : List α) (i : Nat) (x : α) (h : i < l.length) : l.take i ++ x :: l.drop (i + 1) = l.set i x := by
  rw [List.set_eq_take_append_cons_drop, if_pos h]
inductive LRel (es : List Ent) : List Ent → List (List Bool) → Prop where
  | nil : LRel es [] []
  | cons {e : Ent} {s : List Bool} {wr : List Ent} {ss : List (List Bool)} (h : e ∈ es ∧ s.length = e.2.length ∧ subB e.2 s = true) (r : LRel es wr ss) : LRel es (e :: wr) (s :: ss)
theorem LRel.len {es : List Ent} : ∀ {wr : List Ent} {ss : List (List Bool)}, LRel es wr ss → ss.length = wr.length
  | _, _, .nil => rfl
  | _, _, .cons _ r => by rw [List.length_cons, List.length_cons, r.len]
theorem LRel.set {es : List Ent} : ∀ {wr : List Ent} {ss : List (List Bool)} (j i : Nat) {s : List Bool}, LRel es wr ss → ss[j]? = some s → LRel es wr (ss.set j (s.set i true))
  | _, _, _, _, _, .nil, h => by simp at h
  | _, _, 0, i, s, .cons h r, hj => by
    have e : _ = _ := Option.some.inj hj
    subst e
    exact .cons ⟨h.1, by rw [List.length_set]; exact h.2.1, subB_trans h.2.1.symm (by rw [List.length_set]) h.2.2 (subB_set _ i)⟩ r
  | _, _, j + 1, i, s, .cons h r, hj => .cons h (LRel.set j i r (by simpa using hj))
theorem orgs_asc {es : List Ent} (asc : Asc es) (s : List Bool) : (orgs es W0 s).Pairwise (· < ·) := by
  unfold orgs
  rw [List.pairwise_filterMap]
  refine asc.imp fun {a b} h x hx y hy => ?_
  by_cases h1 : canW W0 a.2 s = true
  · by_cases h2 : canW W0 b.2 s = true
    · rw [if_pos h1] at hx
      rw [if_pos h2] at hy
      cases hx; cases hy
      exact h
    · rw [if_neg h2] at hy; cases hy
  · rw [if_neg h1] at hx; cases hx
theorem lastN_mem : ∀ {l : List Nat}, l ≠ [] → lastN l ∈ l
  | [], h => absurd rfl h
  | a :: r, _ => List.getLast_mem (by simp)
theorem lastN_max : ∀ {l : List Nat}, l.Pairwise (· < ·) → ∀ x ∈ l, x ≤ lastN l
  | [], _, x, h => by cases h
  | [a], _, x, h => by simp only [List.mem_singleton] at h; subst h; exact Nat.le_refl _
  | a :: b :: r, hp, x, h => by
    have h1 := List.pairwise_cons.mp hp
    have e : lastN (a :: b :: r) = lastN (b :: r) := List.getLast_cons (by simp)
    rw [e]
    rcases List.mem_cons.mp h with rfl | h
    · exact Nat.le_of_lt (h1.1 _ (lastN_mem (by simp)))
    · exact lastN_max h1.2 x h
theorem org_rel {es : List Ent} (ok : Good es) {e : Ent} {s : List Bool} (h : e ∈ es ∧ s.length = e.2.length ∧ subB e.2 s = true) : e.1 ∈ orgs es W0 s :=
  orgs_mem.mpr ⟨e, h.1, by unfold W0; rw [canW_add, decide_eq_true h.2.1.symm, h.2.2]; rfl, rfl⟩
theorem lo_le {es : List Ent} (ok : Good es) (asc : Asc es) {e : Ent} {s : List Bool} (h : e ∈ es ∧ s.length = e.2.length ∧ subB e.2 s = true) : loO es s ≤ ((e.1 : Nat) : Int) ∧ ((e.1 : Nat) : Int) ≤ hiO es s := by
  have hm := org_rel ok h
  have hp := orgs_asc asc s
  unfold loO hiO
  refine ⟨?_, by have := lastN_max hp e.1 hm; omega⟩
  cases q : orgs es W0 s with
  | nil => rw [q] at hm; cases hm
  | cons a r =>
    rw [q] at hm hp
    rcases List.mem_cons.mp hm with z | z
    · show ((a : Nat) : Int) ≤ _; omega
    · have := (List.pairwise_cons.mp hp).1 _ z
      show ((a : Nat) : Int) ≤ _; omega
theorem LRel.sums {es : List Ent} (ok : Good es) (asc : Asc es) : ∀ {wr : List Ent} {ss : List (List Bool)}, LRel es wr ss → (ss.map (loO es)).sum ≤ (wr.map fun e => ((e.1 : Nat) : Int)).sum ∧ (wr.map fun e => ((e.1 : Nat) : Int)).sum ≤ (ss.map (hiO es)).sum
  | _, _, .nil => ⟨Int.le_refl _, Int.le_refl _⟩
  | _, _, .cons h r => by
    have h1 := lo_le ok asc h
    have h2 := r.sums ok asc
    rw [List.map_cons, List.map_cons, List.map_cons, List.sum_cons, List.sum_cons, List.sum_cons]
    omega
theorem cut_ints2 (ns : List Int) (lo hi : Option Int) : ∃ ms : List Int, cutD (ns.map D.int) lo hi = ms.map D.int ∧ ms.length ≤ ns.length := by
  unfold cutD
  rw [← List.map_drop, ← List.map_take]
  exact ⟨_, rfl, by rw [List.length_take, List.length_drop]; omega⟩
theorem sl_scr2 {xs : List D} {lo hi : Option Int} {μ : Store} {P : D → Store → Prop} : oSlice (.scr xs) lo hi μ P = P (.lst (cutD xs lo hi)) μ := rfl
noncomputable def plI (s : List Bool) : List Nat := idxFrom 0 (s.map (!·))
theorem idx_get : ∀ (k : Nat) (bs : List Bool) (i : Nat), i ∈ idxFrom k bs ↔ k ≤ i ∧ bs[i - k]? = some true
  | k, [], i => by simp [idxFrom]
  | k, b :: r, i => by
    have ih := idx_get (k + 1) r i
    have e : i ∈ idxFrom k (b :: r) ↔ (b = true ∧ i = k) ∨ i ∈ idxFrom (k + 1) r := by
      cases b with
      | true => show i ∈ k :: idxFrom (k + 1) r ↔ _; simp
      | false => show i ∈ idxFrom (k + 1) r ↔ _; simp
    rw [e, ih]
    by_cases h : i = k
    · subst h
      rw [Nat.sub_self, List.getElem?_cons_zero]
      constructor
      · rintro (⟨h1, _⟩ | ⟨h1, _⟩)
        · exact ⟨Nat.le_refl _, by rw [h1]⟩
        · omega
      · rintro ⟨_, h1⟩
        exact .inl ⟨Option.some.inj h1, rfl⟩
    · by_cases h2 : k < i
      · obtain ⟨j, rfl⟩ : ∃ j, i = k + 1 + j := ⟨i - k - 1, by omega⟩
        rw [show k + 1 + j - k = j + 1 by omega, List.getElem?_cons_succ, show k + 1 + j - (k + 1) = j by omega]
        constructor
        · rintro (⟨_, h1⟩ | ⟨_, h1⟩)
          · omega
          · exact ⟨by omega, h1⟩
        · rintro ⟨_, h1⟩
          exact .inr ⟨by omega, h1⟩
      · constructor
        · rintro (⟨_, h1⟩ | ⟨h1, _⟩) <;> omega
        · rintro ⟨h1, _⟩; omega
theorem plI_iff {s : List Bool} {i : Nat} : i ∈ plI s ↔ s[i]? = some false := by
  unfold plI
  rw [idx_get, Nat.sub_zero, List.getElem?_map]
  constructor
  · rintro ⟨_, h⟩
    cases q : s[i]? with
    | none => rw [q] at h; cases h
    | some b => rw [q] at h; cases b with
      | false => rfl
      | true => cases h
  · intro h
    rw [h]
    exact ⟨Nat.zero_le _, rfl⟩
theorem plI_len (s : List Bool) : (plI s).length ≤ s.length := by
  unfold plI
  rw [idx_length]
  exact Nat.le_trans (cnt_le _) (by rw [List.length_map]; exact Nat.le_refl _)
noncomputable def oPick (d : D) : Option D := match d with | .tup [.int i, .str s] => if s = stk [false] then some (.int i) else none | _ => none
theorem enum_pickO : ∀ (k : Nat) (bs : List Bool), (((bs.map fun b => D.str (stk [b])).zipIdx k).map fun p => D.tup [.int (p.2 : Nat), p.1]).filterMap oPick = (idxFrom k (bs.map (!·))).map eNat.enc
  | _, [] => rfl
  | k, false :: r => by
    have ih := enum_pickO (k + 1) r
    rw [List.map_cons, List.zipIdx_cons, List.map_cons, List.filterMap_cons]
    have e : oPick (D.tup [.int (k : Nat), .str (stk [false])]) = some (.int (k : Nat)) := by simp [oPick]
    simp only [e, ih]
    rfl
  | k, true :: r => by
    have ih := enum_pickO (k + 1) r
    rw [List.map_cons, List.zipIdx_cons, List.map_cons, List.filterMap_cons]
    have e : oPick (D.tup [.int (k : Nat), .str (stk [true])]) = none := by
      have : ¬ (stk [true] = stk [false]) := fun h => by have := stk_inj h; simp at this
      simp [oPick, this]
    simp only [e, ih]
    rfl
/-- entries drawn: sticks unlike, one of each sum kept -/
structure Fnd (l : Nat) (fs : List Ent) : Prop where
  ns : (fs.map (·.2)).Nodup
  ok : ∀ e ∈ fs, e.2.length = l ∧ e.1 ≤ 1000000
theorem Fnd.nil (l : Nat) : Fnd l [] := ⟨by simp, by simp⟩
theorem Fnd.snoc {l : Nat} {fs : List Ent} {n : Nat} {s : List Bool} (h : Fnd l fs) (hs : s.length = l) (hn : n ≤ 1000000) (q : s ∉ fs.map (·.2)) : Fnd l (fs ++ [(n, s)]) := by
  refine ⟨?_, fun e he => ?_⟩
  · rw [List.map_append]
    refine List.nodup_append.mpr ⟨h.ns, by simp, fun a ha b hb => ?_⟩
    simp only [List.map_cons, List.map_nil, List.mem_singleton] at hb
    subst hb
    rintro rfl
    exact q ha
  · rcases List.mem_append.mp he with w | w
    · exact h.ok e w
    · simp only [List.mem_singleton] at w
      subst w
      exact ⟨hs, hn⟩
noncomputable def nrI (μ : Store) (p f : Addr) (l most : Nat) (i : Nat) (ρ : Dl.Env) (μ' : Store) : Prop := ∃ (fs : List Ent) (s : List Bool), Fnd l fs ∧ fs.length ≤ i ∧ (0 < i → fs ≠ []) ∧ s.length = l ∧ BxAt μ' p ∧ μ' f = some (.lst (fs.map entD)) ∧ (∀ a d, a ≠ p → a ≠ f → μ a = some d → μ' a = some d) ∧
  ∃ x3 x4 x5 x8 x9 x10 x11 x12 x13, ρ = [some (.ref p), some (.int (l : Nat)), some (.int (most : Nat)), x3, x4, x5, some (.ref f), some (.str (stk s)), x8, x9, x10, x11, x12, x13]
noncomputable def nrJ (μ : Store) (f g : Addr) (l : Nat) (fs : List Ent) (x0 x1 x2 x3 x5 x7 x8 : Option D) (i : Nat) (ρ : Dl.Env) (μ' : Store) : Prop := ∃ ks : List Ent, Good ks ∧ ks.length ≤ i ∧ (0 < i → ks ≠ []) ∧ (∀ e ∈ ks, e ∈ fs.take i) ∧ μ' f = some (.lst (fs.map entD)) ∧ μ' g = some (.lst (ks.map entD)) ∧ (∀ a d, a ≠ g → μ a = some d → μ' a = some d) ∧
  ∃ x9 x10 x11 x12 x13, ρ = [x0, x1, x2, x3, some (.ref g), x5, some (.ref f), x7, x8, x9, x10, x11, x12, x13]
theorem forR_ty {α : Type} {enc : α → D} {xs : List α} {a : Addr} {g : WG} {wb : WS} {W : WEnds} {ρ : Dl.Env} {μ : Store} (I : Nat → Dl.Env → Store → Prop) (h0 : I 0 ρ μ) (hk : ∀ i ρ' μ', I i ρ' μ' → μ' a = some (.lst (xs.map enc)))
    (ht : ∀ i a ρ' μ', xs[i]? = some a → I i ρ' μ' → g (enc a) ρ' μ' fun ρ2 μ2 => wb { W with nx := I (i + 1), ct := I (i + 1), bk := W.nx } ρ2 μ2) (he : ∀ ρ' μ', I xs.length ρ' μ' → W.nx ρ' μ') : forBodyR a (xs.map enc) g wb W ρ μ :=
  ⟨I, h0, hk, fun i d ρ' μ' hd hi => by obtain ⟨a, ha, rfl⟩ := map_at hd; exact ht i a ρ' μ' ha hi, by rw [List.length_map]; exact he⟩
noncomputable def sumP : Option Nat → PyData
  | none => .none
  | some n => .int (n : Nat)
noncomputable def eSum : Enc (Option Nat) := ⟨sumD, sumP, fun a => by cases a <;> (unfold sumD sumP; rw [pyD]), fun a => by cases a <;> (unfold sumP; rw [PyData.canLay0]), 0, fun a => by cases a <;> (unfold sumP; rw [PyData.depth]; exact Nat.le_refl _), fun a b => by
  cases a with
  | none => cases b with
    | none => unfold sumP; rw [PyData.eqv]; rfl
    | some m => unfold sumP; simp [PyData.eqv]
  | some n => cases b with
    | none => unfold sumP; simp [PyData.eqv]
    | some m =>
      unfold sumP
      rw [PyData.eqv]
      by_cases h : n = m
      · simp [h]
      · have : ¬ ((n : Int) = (m : Int)) := by omega
        simp [h, this]⟩
theorem insD_ref {μ : Store} {a C : Addr} {fs : List (Str × D)} (h : μ a = some (.ins C fs)) : insD μ (.ref a) = some (C, fs) := by unfold insD; dsimp only; rw [h]
theorem zip_stk : ∀ (a b : List Bool), a.length = b.length → zipS (stk a) (stk b) = (a.zip b).map fun p => .tup [.str (stk [p.1]), .str (stk [p.2])] := by
  intro a b h
  apply List.ext_getElem?
  intro i
  unfold zipS
  have la : (stk a).cps.size = a.length := by simp [stk]
  have lb : (stk b).cps.size = b.length := by simp [stk]
  rw [List.getElem?_map, List.getElem?_map, la, lb, ← h, Nat.min_self]
  by_cases hi : i < a.length
  · have hb : i < b.length := by omega
    rw [List.getElem?_range hi, List.getElem?_zip_eq_some (z := (a[i], b[i])) |>.mpr ⟨List.getElem?_eq_getElem hi, List.getElem?_eq_getElem hb⟩]
    simp [stk, hi, hb]
  · rw [List.getElem?_eq_none (by rw [List.length_range]; omega), List.getElem?_eq_none (by rw [List.length_zip]; omega)]
    rfl
theorem subB_zip : ∀ (a b : List Bool), a.length = b.length → (((a.zip b).filter fun p => p.1 && !p.2) = []) = (subB a b = true)
  | [], [], _ => by simp [subB]
  | x :: a, y :: b, h => by
    have ih := subB_zip a b (by simpa using h)
    rw [List.zip_cons_cons, List.filter_cons]
    cases x <;> cases y <;> simp [subB, ih]
theorem dz_minL {μ : Store} {P : D → Store → Prop} {xs : List D} : oMin [.lst xs] μ P = opD (intsD xs) fun ns => 0 < ns.length ∧ ∀ m, m ∈ ns → (∀ y, y ∈ ns → m ≤ y) → P (.int m) μ := by
  unfold oMin
  dsimp only [seqR, seqL, Option.bind_some]
  cases intsD xs <;> rfl
theorem orgs_filter (es : List Ent) (s : List Bool) : orgs es W0 s = (es.filter fun e => canW W0 e.2 s).map (·.1) := by
  unfold orgs
  exact fm_if (fun e => canW W0 e.2 s) (·.1) es
theorem log_big {i : Int} (h0 : 0 ≤ i) (h : i < 1000000000000000000) : i.natAbs.log2 < 1920 := by
  obtain ⟨n, rfl⟩ := Int.eq_ofNat_of_zero_le h0
  rw [Int.natAbs_natCast]
  by_cases h0 : n = 0
  · subst h0; decide
  · exact (Nat.log2_lt h0).mpr (Nat.lt_of_lt_of_le (show n < 1000000000000000000 by omega) (Nat.le_trans (by decide : 1000000000000000000 ≤ 2 ^ 60) (Nat.pow_le_pow_right (by decide) (by decide))))
theorem sum_bd : ∀ {l : List Int}, (∀ x ∈ l, 0 ≤ x ∧ x < 10000000) → 0 ≤ l.sum ∧ l.sum ≤ 10000000 * (l.length : Int)
  | [], _ => ⟨Int.le_refl _, Int.le_refl _⟩
  | a :: r, h => by
    have h1 := h a List.mem_cons_self
    have h2 := sum_bd fun x hx => h x (List.mem_cons_of_mem _ hx)
    rw [List.sum_cons, List.length_cons]
    omega
theorem lo_bd {es : List Ent} (ok : Good es) {s : List Bool} (h : SOk es s) : (0 ≤ loO es s ∧ loO es s < 10000000) ∧ (0 ≤ hiO es s ∧ hiO es s < 10000000) := by
  have hb : ∀ a ∈ orgs es W0 s, a < 10000000 := fun a ha => by obtain ⟨e, he, _, rfl⟩ := orgs_mem.mp ha; exact ok.num e he
  have h1 := hb _ (lastN_mem h.2.2.2)
  unfold loO hiO
  refine ⟨?_, by omega⟩
  cases q : orgs es W0 s with
  | nil => exact absurd q h.2.2.2
  | cons a r =>
    have := hb a (by rw [q]; exact List.mem_cons_self)
    show (0 : Int) ≤ ((a : Nat) : Int) ∧ ((a : Nat) : Int) < _
    omega
noncomputable abbrev Mp := Nat → Option Nat
noncomputable def upM (f : Mp) (k v : Nat) : Mp := fun x => if x = k then some v else f x
theorem upM_same {f : Mp} {k v : Nat} : upM f k v k = some v := by unfold upM; rw [if_pos rfl]
theorem upM_ne {f : Mp} {k v x : Nat} (h : x ≠ k) : upM f k v x = f x := by unfold upM; rw [if_neg h]
structure Mat (ab : Nat → List Nat) (nx fr : Mp) : Prop where
  fw : ∀ a b, nx a = some b → fr b = some a
  bw : ∀ a b, fr b = some a → nx a = some b
  ed : ∀ a b, nx a = some b → b ∈ ab a
noncomputable def Clo (ab : Nat → List Nat) (fr : Mp) (D : List Nat) : Prop := ∀ b ∈ D, ∃ a, fr b = some a ∧ ∀ b' ∈ ab a, b' ∈ D
/-- one's partner, if there is one, is met -/
noncomputable def Own (nx : Mp) (met : List Nat) (one : Nat) : Prop := ∀ b, nx one = some b → b ∈ met
structure Fol (ab : Nat → List Nat) (nx fr : Mp) (met : List Nat) (one : Nat) (res : Bool) (nx' fr' : Mp) (met' : List Nat) : Prop where
  grow : ∀ b ∈ met, b ∈ met'
  fail : res = false → nx' = nx ∧ fr' = fr ∧ (∀ b ∈ ab one, b ∈ met') ∧ ∀ b ∈ met', b ∈ met ∨ ∃ a, fr b = some a ∧ ∀ b' ∈ ab a, b' ∈ met'
  got : res = true → ∃ b, nx' one = some b ∧ b ∉ met
  fw : res = true → ∀ a b, nx' a = some b → fr' b = some a ∧ b ∈ ab a
  bw : res = true → ∀ a b, fr' b = some a → nx' a = some b ∨ (a = one ∧ nx one = some b)
  dom : res = true → ∀ a, (nx' a).isSome = (decide (a = one) || (nx a).isSome)
  keep : res = true → ∀ b ∈ met, fr' b = fr b
  left : res = true → ∀ a, a ≠ one → (nx a = none ∨ ∃ b ∈ met, nx a = some b) → nx' a = nx a
  clo : ∀ D, Clo ab fr D → ((∀ b ∈ ab one, b ∈ D) → res = false) ∧ (res = true → ∀ b ∈ D, fr' b = fr b)
/-- so far nothing -/
structure FolI (ab : Nat → List Nat) (fr : Mp) (met seen mi : List Nat) : Prop where
  grow : ∀ b ∈ met, b ∈ mi
  seen : ∀ b ∈ seen, b ∈ mi
  shut : ∀ b ∈ mi, b ∈ met ∨ ∃ a, fr b = some a ∧ ∀ b' ∈ ab a, b' ∈ mi
theorem FolI.start {ab : Nat → List Nat} {fr : Mp} {met : List Nat} : FolI ab fr met [] met := ⟨fun _ h => h, (fun _ h => nomatch h), fun _ h => .inl h⟩
theorem FolI.skip {ab : Nat → List Nat} {fr : Mp} {met seen mi : List Nat} {o : Nat} (h : FolI ab fr met seen mi) (ho : o ∈ mi) : FolI ab fr met (seen ++ [o]) mi :=
  ⟨h.grow, fun b hb => by
    rcases List.mem_append.mp hb with hb | hb
    · exact h.seen b hb
    · simp only [List.mem_singleton] at hb; subst hb; exact ho, h.shut⟩
theorem FolI.done {ab : Nat → List Nat} {nx fr : Mp} {met mi : List Nat} {one : Nat} (h : FolI ab fr met (ab one) mi) : Fol ab nx fr met one false nx fr mi :=
  ⟨h.grow, fun _ => ⟨rfl, rfl, h.seen, h.shut⟩, (fun e => nomatch e), (fun e => nomatch e), (fun e => nomatch e), (fun e => nomatch e), (fun e => nomatch e), (fun e => nomatch e), fun _ _ => ⟨fun _ => rfl, (fun e => nomatch e)⟩⟩
theorem FolI.lost {ab : Nat → List Nat} {nx fr nx1 fr1 : Mp} {met seen mi m1 : List Nat} {o a1 : Nat} (h : FolI ab fr met seen mi) (ha : fr o = some a1) (f : Fol ab nx fr (mi ++ [o]) a1 false nx1 fr1 m1) : FolI ab fr met (seen ++ [o]) m1 := by
  obtain ⟨_, _, h3, h4⟩ := f.fail rfl
  have g : ∀ b ∈ mi, b ∈ m1 := fun b hb => f.grow b (List.mem_append_left _ hb)
  refine ⟨fun b hb => g b (h.grow b hb), fun b hb => ?_, fun b hb => ?_⟩
  · rcases List.mem_append.mp hb with hb | hb
    · exact g b (h.seen b hb)
    · simp only [List.mem_singleton] at hb; subst hb; exact f.grow b (List.mem_append_right _ (by simp))
  · rcases h4 b hb with q | q
    · rcases List.mem_append.mp q with q | q
      · rcases h.shut b q with r | ⟨a, r1, r2⟩
        · exact .inl r
        · exact .inr ⟨a, r1, fun b' hb' => g b' (r2 b' hb')⟩
      · simp only [List.mem_singleton] at q; subst q; exact .inr ⟨a1, ha, h3⟩
    · exact .inr q
theorem FolI.free {ab : Nat → List Nat} {nx fr : Mp} {met seen mi : List Nat} {o one : Nat} (M : Mat ab nx fr) (w : Own nx met one) (h : FolI ab fr met seen mi) (he : o ∈ ab one) (ho : o ∉ mi) (hf : fr o = none) : Fol ab nx fr met one true (upM nx one o) (upM fr o one) (mi ++ [o]) := by
  have hom : o ∉ met := fun q => ho (h.grow o q)
  refine ⟨fun b hb => List.mem_append_left _ (h.grow b hb), (fun e => nomatch e), fun _ => ⟨o, upM_same, hom⟩, fun _ a b q => ?_, fun _ a b q => ?_, fun _ a => ?_, fun _ b hb => upM_ne (fun q => hom (q ▸ hb)), fun _ a hne _ => upM_ne hne, fun D hD => ⟨fun q => ?_, fun _ b hb => upM_ne (fun q => ?_)⟩⟩
  · by_cases ha : a = one
    · subst ha; rw [upM_same] at q; cases q; exact ⟨upM_same, he⟩
    · rw [upM_ne ha] at q
      have hbo : b ≠ o := fun r => by have := M.fw a b q; rw [r, hf] at this; cases this
      exact ⟨by rw [upM_ne hbo]; exact M.fw a b q, M.ed a b q⟩
  · by_cases hb : b = o
    · subst hb; rw [upM_same] at q; cases q; exact .inl upM_same
    · rw [upM_ne hb] at q
      have := M.bw a b q
      by_cases ha : a = one
      · exact .inr ⟨ha, ha ▸ this⟩
      · exact .inl (by rw [upM_ne ha]; exact this)
  · by_cases ha : a = one
    · subst ha; rw [upM_same]; simp
    · rw [upM_ne ha]; simp [ha]
  · obtain ⟨a, r, _⟩ := hD o (q o he)
    rw [hf] at r; cases r
  · subst q
    obtain ⟨a, r, _⟩ := hD b hb
    rw [hf] at r; cases r
theorem FolI.led {ab : Nat → List Nat} {nx fr nx1 fr1 : Mp} {met seen mi m1 : List Nat} {o one a1 : Nat} (M : Mat ab nx fr) (w : Own nx met one) (h : FolI ab fr met seen mi) (he : o ∈ ab one) (ho : o ∉ mi) (hf : fr o = some a1) (f : Fol ab nx fr (mi ++ [o]) a1 true nx1 fr1 m1) : Fol ab nx fr met one true (upM nx1 one o) (upM fr1 o one) m1 := by
  have hom : o ∉ met := fun q => ho (h.grow o q)
  have gm : ∀ b ∈ met, b ∈ mi ++ [o] := fun b hb => List.mem_append_left _ (h.grow b hb)
  have hoi : o ∈ mi ++ [o] := List.mem_append_right _ (by simp)
  have hn1 : nx a1 = some o := M.bw a1 o hf
  have hne : a1 ≠ one := fun q => hom (w o (q ▸ hn1))
  have hfo : fr1 o = some a1 := (f.keep rfl o hoi).trans hf
  obtain ⟨b1, hb1, hb1m⟩ := f.got rfl
  have hlone : nx1 one = nx one := f.left rfl one (Ne.symm hne) (by
    cases q : nx one with
    | none => exact .inl rfl
    | some b => exact .inr ⟨b, gm b (w b q), rfl⟩)
  refine ⟨fun b hb => f.grow b (gm b hb), (fun e => nomatch e), fun _ => ⟨o, upM_same, hom⟩, fun _ a b q => ?_, fun _ a b q => ?_, fun _ a => ?_, fun _ b hb => ?_, fun _ a hae q => ?_, fun D hD => ⟨fun q => ?_, fun _ b hb => ?_⟩⟩
  · by_cases ha : a = one
    · subst ha; rw [upM_same] at q; cases q; exact ⟨upM_same, he⟩
    · rw [upM_ne ha] at q
      have r := f.fw rfl a b q
      have hbo : b ≠ o := fun s => by
        rw [s, hfo] at r
        have e := Option.some.inj r.1
        subst e
        rw [q] at hb1
        cases hb1
        exact hb1m (s ▸ hoi)
      exact ⟨by rw [upM_ne hbo]; exact r.1, r.2⟩
  · by_cases hb : b = o
    · subst hb; rw [upM_same] at q; cases q; exact .inl upM_same
    · rw [upM_ne hb] at q
      rcases f.bw rfl a b q with r | ⟨r1, r2⟩
      · by_cases ha : a = one
        · subst ha; exact .inr ⟨rfl, by rw [← hlone]; exact r⟩
        · exact .inl (by rw [upM_ne ha]; exact r)
      · rw [hn1] at r2; cases r2; exact absurd rfl hb
  · by_cases ha : a = one
    · subst ha; rw [upM_same]; simp
    · rw [upM_ne ha, f.dom rfl a]
      by_cases ha1 : a = a1
      · subst ha1; simp [hn1, ha]
      · simp [ha, ha1]
  · rw [upM_ne (show b ≠ o from fun q => hom (q ▸ hb))]
    exact f.keep rfl b (gm b hb)
  · rw [upM_ne hae]
    refine f.left rfl a (fun r => ?_) ?_
    · subst r
      rcases q with q | ⟨b, hb, q⟩
      · rw [hn1] at q; cases q
      · rw [hn1] at q; cases q; exact hom hb
    · rcases q with q | ⟨b, hb, q⟩
      · exact .inl q
      · exact .inr ⟨b, gm b hb, q⟩
  · obtain ⟨a, r1, r2⟩ := hD o (q o he)
    rw [hf] at r1
    cases r1
    have := (f.clo D hD).1 r2
    cases this
  · have hbo : b ≠ o := fun s => by
      subst s
      obtain ⟨a, r1, r2⟩ := hD b hb
      rw [hf] at r1
      cases r1
      have := (f.clo D hD).1 r2
      cases this
    rw [upM_ne hbo]
    exact (f.clo D hD).2 rfl b hb
structure Prg (ab : Nat → List Nat) (nx fr : Mp) (ps : List Nat) : Prop where
  mat : Mat ab nx fr
  dom : ∀ a, (nx a).isSome = true → a ∈ ps
  res : ∀ a ∈ ps, (nx a).isSome = true ∨ ∃ R, Clo ab fr R ∧ ∀ b ∈ ab a, b ∈ R
theorem Prg.start {ab : Nat → List Nat} : Prg ab (fun _ => none) (fun _ => none) [] :=
  ⟨⟨(fun _ _ h => nomatch h), (fun _ _ h => nomatch h), (fun _ _ h => nomatch h)⟩, (fun _ h => nomatch h), (fun _ h => nomatch h)⟩
theorem Clo.same {ab : Nat → List Nat} {fr fr' : Mp} {R : List Nat} (h : Clo ab fr R) (e : ∀ b ∈ R, fr' b = fr b) : Clo ab fr' R := fun b hb => by
  obtain ⟨a, h1, h2⟩ := h b hb
  exact ⟨a, (e b hb).trans h1, h2⟩
theorem Prg.none {ab : Nat → List Nat} {nx fr : Mp} {ps : List Nat} {one : Nat} (P : Prg ab nx fr ps) (h : one ∉ ps) : nx one = none := by
  cases q : nx one with
  | none => rfl
  | some b => exact absurd (P.dom one (by rw [q]; rfl)) h
theorem Prg.step {ab : Nat → List Nat} {nx fr nx' fr' : Mp} {ps m' : List Nat} {one : Nat} {r : Bool} (P : Prg ab nx fr ps) (h : one ∉ ps) (f : Fol ab nx fr [] one r nx' fr' m') : Prg ab nx' fr' (ps ++ [one]) := by
  have h0 := P.none h
  cases r with
  | false =>
    obtain ⟨rfl, rfl, h3, h4⟩ := f.fail rfl
    refine ⟨P.mat, fun a q => List.mem_append_left _ (P.dom a q), fun a ha => ?_⟩
    rcases List.mem_append.mp ha with ha | ha
    · exact P.res a ha
    · simp only [List.mem_singleton] at ha
      subst ha
      refine .inr ⟨m', fun b hb => ?_, h3⟩
      rcases h4 b hb with q | q
      · cases q
      · exact q
  | true =>
    refine ⟨⟨fun a b q => (f.fw rfl a b q).1, fun a b q => ?_, fun a b q => (f.fw rfl a b q).2⟩, fun a q => ?_, fun a ha => ?_⟩
    · rcases f.bw rfl a b q with s | ⟨_, s⟩
      · exact s
      · rw [h0] at s; cases s
    · rw [f.dom rfl a, Bool.or_eq_true, decide_eq_true_eq] at q
      rcases q with q | q
      · exact List.mem_append_right _ (by simp [q])
      · exact List.mem_append_left _ (P.dom a q)
    · rcases List.mem_append.mp ha with ha | ha
      · rcases P.res a ha with q | ⟨R, q1, q2⟩
        · exact .inl (by rw [f.dom rfl a, q]; simp)
        · exact .inr ⟨R, q1.same ((f.clo R q1).2 rfl), q2⟩
      · simp only [List.mem_singleton] at ha
        subst ha
        exact .inl (by rw [f.dom rfl a]; simp)
theorem nodup_len : ∀ {l m : List Nat}, l.Nodup → (∀ x ∈ l, x ∈ m) → l.length ≤ m.length
  | [], _, _, _ => Nat.zero_le _
  | x :: l, m, hn, hs => by
    rw [List.nodup_cons] at hn
    have hx := hs x List.mem_cons_self
    have h1 := nodup_len (l := l) (m := m.erase x) hn.2 fun y hy => (List.mem_erase_of_ne (show y ≠ x from fun e => hn.1 (e ▸ hy))).mpr (hs y (List.mem_cons_of_mem _ hy))
    rw [List.length_erase_of_mem hx] at h1
    have := List.length_pos_of_mem hx
    rw [List.length_cons]
    omega
theorem len_filter (p : Nat → Bool) : ∀ l : List Nat, (l.filter p).length + (l.filter fun x => !p x).length = l.length
  | [] => rfl
  | x :: l => by
    have := len_filter p l
    cases h : p x <;> simp [List.filter_cons, h] <;> omega
/-- as many with a next one as with one ahead -/
theorem mat_count {ab : Nat → List Nat} {nx fr : Mp} {V : List Nat} (M : Mat ab nx fr) (nd : V.Nodup) (h1 : ∀ a b, nx a = some b → a ∈ V ∧ b ∈ V) : (V.filter fun a => (nx a).isSome).length = (V.filter fun b => (fr b).isSome).length := by
  have le : ∀ (f g : Mp), (∀ a b, f a = some b → g b = some a ∧ b ∈ V) → (V.filter fun a => (f a).isSome).length ≤ (V.filter fun b => (g b).isSome).length := by
    intro f g h
    have nd2 : ((V.filter fun a => (f a).isSome).map fun a => (f a).getD 0).Nodup := by
      rw [List.nodup_iff_pairwise_ne, List.pairwise_map]
      have hp := List.nodup_iff_pairwise_ne.mp (nd.filter fun a => (f a).isSome)
      refine (List.Pairwise.and_mem.mp hp).imp fun {a b} ⟨ha, hb, hab⟩ q => hab ?_
      obtain ⟨x, hx⟩ := Option.isSome_iff_exists.mp (List.mem_filter.mp ha).2
      obtain ⟨y, hy⟩ := Option.isSome_iff_exists.mp (List.mem_filter.mp hb).2
      rw [hx, hy] at q
      have q : x = y := q
      subst q
      exact Option.some.inj ((h a x hx).1.symm.trans (h b x hy).1)
    have := nodup_len (m := V.filter fun b => (g b).isSome) nd2 fun z hz => by
      obtain ⟨a, ha, rfl⟩ := List.mem_map.mp hz
      obtain ⟨x, hx⟩ := Option.isSome_iff_exists.mp (List.mem_filter.mp ha).2
      rw [hx]
      have := h a x hx
      exact List.mem_filter.mpr ⟨this.2, by show (g x).isSome = true; rw [this.1]; rfl⟩
    rwa [List.length_map] at this
  exact Nat.le_antisymm (le nx fr fun a b q => ⟨M.fw a b q, (h1 a b q).2⟩) (le fr nx fun b a q => ⟨M.bw a b q, (h1 a b (M.bw a b q)).1⟩)
structure Rch (ab : Nat → List Nat) (nx fr : Mp) (V F B : List Nat) : Prop where
  fn : F.Nodup
  bn : B.Nodup
  fv : ∀ a ∈ F, a ∈ V
  un : ∀ a ∈ V, nx a = none → a ∈ F
  go : ∀ a ∈ F, ∀ b ∈ ab a, b ∈ B
  back : ∀ b ∈ B, ∃ a ∈ F, fr b = some a
noncomputable def apS (V F B : List Nat) : List Nat := V.filter fun x => decide (x ∈ F) && !decide (x ∈ B)
theorem ap_free {ab : Nat → List Nat} {nx fr : Mp} {V F B : List Nat} (R : Rch ab nx fr V F B) {x y : Nat} (hx : x ∈ apS V F B) (hy : y ∈ apS V F B) : y ∉ ab x := by
  intro h
  have h1 := (List.mem_filter.mp hx).2
  have h2 := (List.mem_filter.mp hy).2
  rw [Bool.and_eq_true, decide_eq_true_eq] at h1 h2
  have := R.go x h1.1 y h
  have h3 := h2.2
  rw [decide_eq_true this] at h3
  cases h3
theorem ap_many {ab : Nat → List Nat} {nx fr : Mp} {V F B : List Nat} (M : Mat ab nx fr) (nd : V.Nodup) (R : Rch ab nx fr V F B) : (V.filter fun a => !(nx a).isSome).length ≤ (apS V F B).length := by
  have a1 : (V.filter fun a => !(nx a).isSome).length ≤ (F.filter fun a => !(nx a).isSome).length := nodup_len (nd.filter _) fun x hx => by
    obtain ⟨h1, h2⟩ := List.mem_filter.mp hx
    have h3 : nx x = none := by
      cases q : nx x with
      | none => rfl
      | some b => rw [q] at h2; cases h2
    exact List.mem_filter.mpr ⟨R.un x h1 h3, h2⟩
  have a2 : B.length ≤ (F.filter fun a => (nx a).isSome).length := by
    have nd2 : (B.map fun b => (fr b).getD 0).Nodup := by
      rw [List.nodup_iff_pairwise_ne, List.pairwise_map]
      refine (List.Pairwise.and_mem.mp (List.nodup_iff_pairwise_ne.mp R.bn)).imp fun {a b} ⟨ha, hb, hab⟩ q => hab ?_
      obtain ⟨x, _, hx⟩ := R.back a ha
      obtain ⟨y, _, hy⟩ := R.back b hb
      rw [hx, hy] at q
      have q : x = y := q
      subst q
      exact Option.some.inj ((M.bw x a hx).symm.trans (M.bw x b hy))
    have := nodup_len (m := F.filter fun a => (nx a).isSome) nd2 fun z hz => by
      obtain ⟨b, hb, rfl⟩ := List.mem_map.mp hz
      obtain ⟨x, hxF, hx⟩ := R.back b hb
      rw [hx]
      exact List.mem_filter.mpr ⟨hxF, by show (nx x).isSome = true; rw [M.bw x b hx]; rfl⟩
    rwa [List.length_map] at this
  have a3 := len_filter (fun a => (nx a).isSome) F
  have a4 := len_filter (fun a => decide (a ∈ B)) F
  have a5 : (F.filter fun a => decide (a ∈ B)).length ≤ B.length := nodup_len (R.fn.filter _) fun x hx => of_decide_eq_true (List.mem_filter.mp hx).2
  have a6 : (F.filter fun a => !decide (a ∈ B)).length ≤ (apS V F B).length := nodup_len (R.fn.filter _) fun x hx => by
    obtain ⟨h1, h2⟩ := List.mem_filter.mp hx
    exact List.mem_filter.mpr ⟨R.fv x h1, by rw [decide_eq_true h1]; exact h2⟩
  omega
noncomputable def rowF (nx : Mp) : Nat → Nat → List Nat
  | 0, a => [a]
  | n + 1, a => a :: (match nx a with | none => [] | some b => rowF nx n b)
theorem row_back {ab : Nat → List Nat} {nx fr : Mp} (M : Mat ab nx fr) : ∀ (n a x : Nat), x ∈ rowF nx n a → x = a ∨ ∃ y, fr x = some y ∧ y ∈ rowF nx n a
  | 0, a, x, h => by
    left
    simpa [rowF] using h
  | n + 1, a, x, h => by
    rw [rowF] at h
    rcases List.mem_cons.mp h with h | h
    · exact .inl h
    · right
      cases q : nx a with
      | none => rw [q] at h; cases h
      | some b =>
        rw [q] at h
        rcases row_back M n b x h with rfl | ⟨y, h1, h2⟩
        · exact ⟨a, M.fw a x q, by rw [rowF]; exact List.mem_cons_self⟩
        · refine ⟨y, h1, ?_⟩
          rw [rowF, q]
          exact List.mem_cons_of_mem _ h2
theorem row_root {ab : Nat → List Nat} {nx fr : Mp} (M : Mat ab nx fr) (rk : Nat → Nat) (hrk : ∀ a b, b ∈ ab a → rk a < rk b) {n m a a' : Nat} (ha : fr a = none) (ha' : fr a' = none) : ∀ (k x : Nat), rk x ≤ k → x ∈ rowF nx n a → x ∈ rowF nx m a' → a = a' := by
  intro k
  induction k with
  | zero =>
    intro x hk h1 h2
    rcases row_back M n a x h1 with rfl | ⟨y, q, _⟩
    · rcases row_back M m a' x h2 with e | ⟨y, q, _⟩
      · exact e
      · rw [ha] at q; cases q
    · have := hrk y x (M.ed y x (M.bw y x q))
      omega
  | succ k ih =>
    intro x hk h1 h2
    rcases row_back M n a x h1 with rfl | ⟨y, q, hy⟩
    · rcases row_back M m a' x h2 with e | ⟨y, q, _⟩
      · exact e
      · rw [ha] at q; cases q
    · have hr := hrk y x (M.ed y x (M.bw y x q))
      rcases row_back M m a' x h2 with rfl | ⟨y', q', hy'⟩
      · rw [ha'] at q; cases q
      · rw [q] at q'
        cases q'
        exact ih y (by omega) hy hy'
theorem row_rk {ab : Nat → List Nat} {nx fr : Mp} (M : Mat ab nx fr) (rk : Nat → Nat) (hrk : ∀ a b, b ∈ ab a → rk a < rk b) : ∀ (n a x : Nat), x ∈ rowF nx n a → rk a ≤ rk x
  | 0, a, x, h => by
    have : x = a := by simpa [rowF] using h
    subst this
    exact Nat.le_refl _
  | n + 1, a, x, h => by
    rw [rowF] at h
    rcases List.mem_cons.mp h with rfl | h
    · exact Nat.le_refl _
    · cases q : nx a with
      | none => rw [q] at h; cases h
      | some b =>
        rw [q] at h
        have := row_rk M rk hrk n b x h
        have := hrk a b (M.ed a b q)
        omega
theorem row_nodup {ab : Nat → List Nat} {nx fr : Mp} (M : Mat ab nx fr) (rk : Nat → Nat) (hrk : ∀ a b, b ∈ ab a → rk a < rk b) : ∀ (n a : Nat), (rowF nx n a).Nodup
  | 0, a => by rw [rowF]; simp
  | n + 1, a => by
    rw [rowF]
    cases q : nx a with
    | none => simp
    | some b =>
      refine List.nodup_cons.mpr ⟨fun h => ?_, row_nodup M rk hrk n b⟩
      have := row_rk M rk hrk n b a h
      have := hrk a b (M.ed a b q)
      omega
theorem row_end {ab : Nat → List Nat} {nx fr : Mp} {V : List Nat} (M : Mat ab nx fr) (rk : Nat → Nat) (hrk : ∀ a b, b ∈ ab a → rk a < rk b) (K : Nat) (hV : ∀ a b, nx a = some b → b ∈ V) (hK : ∀ x ∈ V, rk x ≤ K) : ∀ (n a : Nat), K ≤ n + rk a → ∀ x ∈ rowF nx n a, ∀ b, nx x = some b → b ∈ rowF nx n a
  | 0, a, h, x, hx, b, q => by
    have : x = a := by simpa [rowF] using hx
    subst this
    have h1 := hrk x b (M.ed x b q)
    have h2 := hK b (hV x b q)
    omega
  | n + 1, a, h, x, hx, b, q => by
    rw [rowF] at hx ⊢
    cases qa : nx a with
    | none =>
      rw [qa] at hx
      have : x = a := by simpa using hx
      subst this
      rw [qa] at q; cases q
    | some c =>
      rw [qa] at hx
      have h1 := hrk a c (M.ed a c qa)
      rcases List.mem_cons.mp hx with rfl | hx
      · rw [qa] at q
        cases q
        refine List.mem_cons_of_mem _ ?_
        cases n with
        | zero => exact List.mem_cons_self
        | succ n => exact List.mem_cons_self
      · exact List.mem_cons_of_mem _ (row_end M rk hrk K hV hK n c (by omega) x hx b q)
theorem row_self (nx : Mp) (n a : Nat) : a ∈ rowF nx n a := by cases n <;> simp [rowF]
/-- each sum is in the row of some first one -/
theorem row_all {ab : Nat → List Nat} {nx fr : Mp} {V : List Nat} (M : Mat ab nx fr) (rk : Nat → Nat) (hrk : ∀ a b, b ∈ ab a → rk a < rk b) (K : Nat) (hV : ∀ a b, nx a = some b → a ∈ V ∧ b ∈ V) (hK : ∀ x ∈ V, rk x ≤ K) (n : Nat) (hn : K ≤ n) : ∀ (k x : Nat), rk x ≤ k → x ∈ V → ∃ a ∈ V, fr a = none ∧ x ∈ rowF nx n a := by
  intro k
  induction k with
  | zero =>
    intro x hk hx
    cases q : fr x with
    | none => exact ⟨x, hx, q, row_self nx n x⟩
    | some y =>
      have := hrk y x (M.ed y x (M.bw y x q))
      omega
  | succ k ih =>
    intro x hk hx
    cases q : fr x with
    | none => exact ⟨x, hx, q, row_self nx n x⟩
    | some y =>
      have h1 := M.bw y x q
      have h2 := hrk y x (M.ed y x h1)
      obtain ⟨a, h3, h4, h5⟩ := ih y (by omega) (hV y x h1).1
      exact ⟨a, h3, h4, row_end M rk hrk K (fun a b q => (hV a b q).2) hK n a (by omega) y h5 x h1⟩
theorem rows_nodup {ab : Nat → List Nat} {nx fr : Mp} (M : Mat ab nx fr) (rk : Nat → Nat) (hrk : ∀ a b, b ∈ ab a → rk a < rk b) (n : Nat) : ∀ l : List Nat, l.Nodup → (∀ a ∈ l, fr a = none) → (l.flatMap (rowF nx n)).Nodup
  | [], _, _ => by simp
  | a :: l, nd, h => by
    rw [List.nodup_cons] at nd
    rw [List.flatMap_cons, List.nodup_append]
    refine ⟨row_nodup M rk hrk n a, rows_nodup M rk hrk n l nd.2 (fun b hb => h b (List.mem_cons_of_mem _ hb)), fun x hx y hy e => ?_⟩
    subst e
    obtain ⟨b, hb, hxb⟩ := List.mem_flatMap.mp hy
    have := row_root M rk hrk (h a List.mem_cons_self) (h b (List.mem_cons_of_mem _ hb)) (rk x) x (Nat.le_refl _) hx hxb
    exact nd.1 (this ▸ hb)
noncomputable def firstsM (fr : Mp) (V : List Nat) : List Nat := V.filter fun a => !(fr a).isSome
theorem mem_firstsM {fr : Mp} {V : List Nat} {a : Nat} : a ∈ firstsM fr V ↔ a ∈ V ∧ fr a = none := by
  unfold firstsM
  rw [List.mem_filter]
  cases fr a <;> simp
theorem row_sub {ab : Nat → List Nat} {nx fr : Mp} {V : List Nat} (M : Mat ab nx fr) (hV : ∀ a b, nx a = some b → a ∈ V ∧ b ∈ V) {n a x : Nat} (ha : a ∈ V) (hx : x ∈ rowF nx n a) : x ∈ V := by
  rcases row_back M n a x hx with rfl | ⟨y, h, _⟩
  · exact ha
  · exact (hV y x (M.bw y x h)).2
/-- the rows: each sum stands in them once -/
theorem rows_perm {ab : Nat → List Nat} {nx fr : Mp} {V : List Nat} (M : Mat ab nx fr) (nd : V.Nodup) (rk : Nat → Nat) (hrk : ∀ a b, b ∈ ab a → rk a < rk b) (K : Nat) (hV : ∀ a b, nx a = some b → a ∈ V ∧ b ∈ V) (hK : ∀ x ∈ V, rk x ≤ K) (n : Nat) (hn : K ≤ n) : ((firstsM fr V).flatMap (rowF nx n)).Perm V := by
  refine (List.perm_ext_iff_of_nodup (rows_nodup M rk hrk n _ (nd.filter _) fun a ha => (mem_firstsM.mp ha).2) nd).mpr fun x => ⟨fun h => ?_, fun h => ?_⟩
  · obtain ⟨a, ha, hx⟩ := List.mem_flatMap.mp h
    exact row_sub M hV (mem_firstsM.mp ha).1 hx
  · obtain ⟨a, h1, h2, h3⟩ := row_all M rk hrk K hV hK n hn (rk x) x (Nat.le_refl _) h
    exact List.mem_flatMap.mpr ⟨a, mem_firstsM.mpr ⟨h1, h2⟩, h3⟩
theorem firsts_len {ab : Nat → List Nat} {nx fr : Mp} {V : List Nat} (M : Mat ab nx fr) (nd : V.Nodup) (hV : ∀ a b, nx a = some b → a ∈ V ∧ b ∈ V) : (firstsM fr V).length = (V.filter fun a => !(nx a).isSome).length := by
  have h1 := mat_count M nd hV
  have h2 := len_filter (fun a => (nx a).isSome) V
  have h3 := len_filter (fun a => (fr a).isSome) V
  unfold firstsM
  omega
theorem row_pw {ab : Nat → List Nat} {nx fr : Mp} (M : Mat ab nx fr) (htr : ∀ a b c, b ∈ ab a → c ∈ ab b → c ∈ ab a) : ∀ (n a : Nat), (∀ x ∈ rowF nx n a, x = a ∨ x ∈ ab a) ∧ (rowF nx n a).Pairwise fun x y => y ∈ ab x
  | 0, a => ⟨fun x h => .inl (by simpa [rowF] using h), by rw [rowF]; simp⟩
  | n + 1, a => by
    rw [rowF]
    cases q : nx a with
    | none => exact ⟨fun x h => .inl (by simpa using h), by simp⟩
    | some b =>
      obtain ⟨h1, h2⟩ := row_pw M htr n b
      have h3 : ∀ x ∈ rowF nx n b, x ∈ ab a := fun x hx => by
        rcases h1 x hx with rfl | h
        · exact M.ed a x q
        · exact htr a b x (M.ed a b q) h
      exact ⟨fun x h => by
        rcases List.mem_cons.mp h with h | h
        · exact .inl h
        · exact .inr (h3 x h), List.pairwise_cons.mpr ⟨h3, h2⟩⟩
theorem pw_two {R : Nat → Nat → Prop} : ∀ {l : List Nat} {x y : Nat}, l.Pairwise R → x ∈ l → y ∈ l → x = y ∨ R x y ∨ R y x
  | [], _, _, _, h, _ => nomatch h
  | a :: l, x, y, h, hx, hy => by
    rw [List.pairwise_cons] at h
    rcases List.mem_cons.mp hx with e1 | hx
    · rcases List.mem_cons.mp hy with e2 | hy
      · exact .inl (e1.trans e2.symm)
      · exact .inr (.inl (e1 ▸ h.1 y hy))
    · rcases List.mem_cons.mp hy with e2 | hy
      · exact .inr (.inr (e2 ▸ h.1 x hx))
      · exact pw_two h.2 hx hy
/-- a row holds at most one of a lot -/
theorem lot_rows {R : Nat → Nat → Prop} : ∀ (rows : List (List Nat)) (L : List Nat), (∀ r ∈ rows, r.Pairwise R) → L.Nodup → (∀ x ∈ L, ∃ r ∈ rows, x ∈ r) → (∀ x ∈ L, ∀ y ∈ L, ¬ R x y) → L.length ≤ rows.length
  | [], L, _, _, h, _ => by
    cases L with
    | nil => exact Nat.le_refl _
    | cons a l => obtain ⟨r, hr, _⟩ := h a List.mem_cons_self; cases hr
  | r :: rs, L, hp, nd, h, ha => by
    have h1 := len_filter (fun x => decide (x ∈ r)) L
    have h2 : (L.filter fun x => !decide (x ∈ r)).length ≤ rs.length := lot_rows rs _ (fun r hr => hp r (List.mem_cons_of_mem _ hr)) (nd.filter _) (fun x hx => by
      obtain ⟨q1, q2⟩ := List.mem_filter.mp hx
      obtain ⟨r', hr, hx'⟩ := h x q1
      rcases List.mem_cons.mp hr with rfl | hr
      · rw [decide_eq_true hx'] at q2; cases q2
      · exact ⟨r', hr, hx'⟩) (fun x hx y hy => ha x (List.mem_filter.mp hx).1 y (List.mem_filter.mp hy).1)
    have h3 : (L.filter fun x => decide (x ∈ r)).length ≤ 1 := by
      have nd' := nd.filter fun x => decide (x ∈ r)
      rcases hL : L.filter (fun x => decide (x ∈ r)) with _ | ⟨x, _ | ⟨y, l⟩⟩
      · exact Nat.zero_le _
      · exact Nat.le_refl _
      · exfalso
        rw [hL] at nd'
        have hx := List.mem_filter.mp (show x ∈ L.filter (fun x => decide (x ∈ r)) by rw [hL]; simp)
        have hy := List.mem_filter.mp (show y ∈ L.filter (fun x => decide (x ∈ r)) by rw [hL]; simp)
        have hxy : x ≠ y := fun e => by
          subst e
          simp at nd'
        rcases pw_two (hp r List.mem_cons_self) (of_decide_eq_true hx.2) (of_decide_eq_true hy.2) with e | e | e
        · exact hxy e
        · exact ha x hx.1 y hy.1 e
        · exact ha y hy.1 x hx.1 e
    rw [List.length_cons]
    omega
noncomputable def upD (f : Nat → Option D) (k : Nat) (d : D) : Nat → Option D := fun x => if x = k then some d else f x
theorem look_app {kvs : List (Key × D)} {k k' : Key} {v : D} (h : k ∉ kvs.map (·.1)) : look (kvs ++ [(k, v)]) k' = if k' = k then some v else look kvs k' := by
  induction kvs with
  | nil =>
    show look [(k, v)] k' = _
    unfold look
    by_cases e : k' = k
    · rw [if_pos e.symm, if_pos e]
    · rw [if_neg (fun q => e q.symm), if_neg e]
      rfl
  | cons x r ih =>
    rw [List.map_cons, List.mem_cons, not_or] at h
    rw [List.cons_append]
    unfold look
    by_cases e : x.1 = k'
    · rw [if_pos e, if_pos e]
      rw [if_neg (fun q => h.1 (e.trans q).symm)]
    · rw [if_neg e, if_neg e, ih h.2]
theorem look_upd {kvs : List (Key × D)} {k k' : Key} {v : D} : look (kvs.map fun kv => if kv.1 = k then (kv.1, v) else kv) k' = if k' = k then (look kvs k).map (fun _ => v) else look kvs k' := by
  induction kvs with
  | nil =>
    show (none : Option D) = _
    by_cases e : k' = k
    · rw [if_pos e]; rfl
    · rw [if_neg e]; rfl
  | cons x r ih =>
    rw [List.map_cons]
    by_cases e : k' = k
    · subst e
      rw [if_pos rfl] at ih ⊢
      unfold look
      by_cases q : x.1 = k'
      · rw [if_pos q, if_pos (by exact q), if_pos q]; rfl
      · rw [if_neg q, if_neg (by exact q), if_neg q]; exact ih
    · rw [if_neg e] at ih ⊢
      unfold look
      by_cases q : x.1 = k
      · rw [if_pos q]
        have h1 : ¬ x.1 = k' := fun z => e (z.symm.trans q)
        rw [if_neg (by exact h1), if_neg h1]; exact ih
      · rw [if_neg q]
        by_cases h1 : x.1 = k'
        · rw [if_pos h1, if_pos h1]
        · rw [if_neg h1, if_neg h1]; exact ih
theorem any_key {kvs : List (Key × D)} {k : Key} : (kvs.any fun kv => decide (kv.1 = k)) = true ↔ k ∈ kvs.map (·.1) := by
  rw [List.any_eq_true, List.mem_map]
  constructor
  · rintro ⟨x, h1, h2⟩; exact ⟨x, h1, of_decide_eq_true h2⟩
  · rintro ⟨x, h1, h2⟩; exact ⟨x, h1, decide_eq_true h2⟩
theorem look_mem {kvs : List (Key × D)} {k : Key} (h : k ∈ kvs.map (·.1)) : ∃ d, look kvs k = some d := by
  induction kvs with
  | nil => cases h
  | cons x r ih =>
    unfold look
    by_cases e : x.1 = k
    · exact ⟨x.2, by rw [if_pos e]⟩
    · rw [if_neg e]
      rw [List.map_cons] at h
      rcases List.mem_cons.mp h with q | q
      · exact absurd q.symm e
      · exact ih q
theorem look_put {kvs : List (Key × D)} {k k' : Key} {v : D} : look (putD kvs k v) k' = if k' = k then some v else look kvs k' := by
  unfold putD
  by_cases h : (kvs.any fun kv => decide (kv.1 = k)) = true
  · rw [if_pos h, look_upd]
    obtain ⟨d, hd⟩ := look_mem (any_key.mp h)
    rw [hd]; rfl
  · rw [if_neg h]
    exact look_app fun q => h (any_key.mpr q)
theorem put_keys1 {kvs : List (Key × D)} {k : Key} {v : D} (h : k ∈ kvs.map (·.1)) : (putD kvs k v).map (·.1) = kvs.map (·.1) := by
  unfold putD
  rw [if_pos (any_key.mpr h), List.map_map]
  apply List.map_congr_left
  intro x _
  show (if x.1 = k then (x.1, v) else x).1 = x.1
  split <;> rfl
theorem put_keys2 {kvs : List (Key × D)} {k : Key} {v : D} (h : k ∉ kvs.map (·.1)) : (putD kvs k v).map (·.1) = kvs.map (·.1) ++ [k] := by
  unfold putD
  rw [if_neg fun q => h (any_key.mp q), List.map_append]; rfl
structure DM (V : List Nat) (f : Nat → Option D) (kvs : List (Key × D)) : Prop where
  lk : ∀ a, look kvs (keyN a) = f a
  nd : (kvs.map (·.1)).Nodup
  ks : ∀ k ∈ kvs.map (·.1), ∃ a ∈ V, k = keyN a
theorem DM.nil {V : List Nat} : DM V (fun _ => none) [] := ⟨fun _ => rfl, by simp, by simp⟩
theorem DM.put {V : List Nat} {f : Nat → Option D} {kvs : List (Key × D)} {a : Nat} {d : D} (h : DM V f kvs) (ha : a ∈ V) : DM V (upD f a d) (putD kvs (keyN a) d) := by
  refine ⟨fun x => ?_, ?_, fun k hk => ?_⟩
  · rw [look_put, h.lk]
    unfold upD
    by_cases e : x = a
    · rw [if_pos e, if_pos (by rw [e])]
    · rw [if_neg e, if_neg (fun q => e (keyN_inj q))]
  · by_cases q : keyN a ∈ kvs.map (·.1)
    · rw [put_keys1 q]; exact h.nd
    · rw [put_keys2 q, List.nodup_append]
      refine ⟨h.nd, by simp, fun x hx y hy e => ?_⟩
      simp only [List.mem_singleton] at hy
      subst e; subst hy
      exact q hx
  · by_cases q : keyN a ∈ kvs.map (·.1)
    · rw [put_keys1 q] at hk; exact h.ks k hk
    · rw [put_keys2 q] at hk
      rcases List.mem_append.mp hk with hk | hk
      · exact h.ks k hk
      · simp only [List.mem_singleton] at hk
        exact ⟨a, ha, hk⟩
theorem key_len : ∀ {l : List Key} {V : List Nat}, l.Nodup → (∀ k ∈ l, ∃ a ∈ V, k = keyN a) → l.length ≤ V.length
  | [], _, _, _ => Nat.zero_le _
  | x :: l, V, hn, hs => by
    rw [List.nodup_cons] at hn
    obtain ⟨a, ha, e⟩ := hs x List.mem_cons_self
    have h1 := key_len (l := l) (V := V.erase a) hn.2 fun y hy => by
      obtain ⟨b, hb, e2⟩ := hs y (List.mem_cons_of_mem _ hy)
      refine ⟨b, (List.mem_erase_of_ne (fun q => hn.1 ?_)).mpr hb, e2⟩
      rw [e, ← q, ← e2]; exact hy
    rw [List.length_erase_of_mem ha] at h1
    have := List.length_pos_of_mem ha
    rw [List.length_cons]
    omega
theorem DM.len {V : List Nat} {f : Nat → Option D} {kvs : List (Key × D)} (h : DM V f kvs) : kvs.length ≤ V.length := by
  have := key_len h.nd h.ks
  rwa [List.length_map] at this
noncomputable def mpD (f : Mp) : Nat → Option D := fun a => (f a).map fun b => D.int (b : Nat)
noncomputable def mtD (m : List Nat) : Nat → Option D := fun a => if a ∈ m then some (.bl true) else none
noncomputable def abD (V : List Nat) (ab : Nat → List Nat) : Nat → Option D := fun a => if a ∈ V then some (.lst ((ab a).map eNat.enc)) else none
theorem up_mp {f : Mp} {a b : Nat} : upD (mpD f) a (.int (b : Nat)) = mpD (upM f a b) := by
  funext x
  unfold upD mpD upM
  by_cases e : x = a
  · rw [if_pos e, if_pos e]; rfl
  · rw [if_neg e, if_neg e]
theorem up_mt {m : List Nat} {a : Nat} : upD (mtD m) a (.bl true) = mtD (m ++ [a]) := by
  funext x
  unfold upD mtD
  by_cases e : x = a
  · rw [if_pos e, if_pos (by rw [e]; simp)]
  · rw [if_neg e]
    by_cases q : x ∈ m
    · rw [if_pos q, if_pos (List.mem_append_left _ q)]
    · rw [if_neg q, if_neg]
      intro r
      rcases List.mem_append.mp r with r | r
      · exact q r
      · simp only [List.mem_singleton] at r; exact e r
theorem mt_some {m : List Nat} {a : Nat} : (mtD m a).isSome = decide (a ∈ m) := by
  unfold mtD
  by_cases q : a ∈ m
  · rw [if_pos q, decide_eq_true q]; rfl
  · rw [if_neg q, decide_eq_false q]; rfl
theorem mp_some {f : Mp} {a : Nat} : (mpD f a).isSome = (f a).isSome := by
  unfold mpD
  cases f a <;> rfl
theorem mt_nil : mtD [] = fun _ => none := by funext x; unfold mtD; simp
noncomputable def Kp (xs : List Addr) (μ μ' : Store) : Prop := ∀ a c, a ∉ xs → μ a = some c → μ' a = some c
theorem Kp.refl {xs : List Addr} {μ : Store} : Kp xs μ μ := fun _ _ _ h => h
theorem Kp.trans {xs : List Addr} {a b c : Store} (h : Kp xs a b) (k : Kp xs b c) : Kp xs a c := fun x y n z => k x y n (h x y n z)
theorem Kp.set {xs : List Addr} {μ μ' : Store} {p : Addr} {c : Cell} (h : Kp xs μ μ') (hp : p ∈ xs) : Kp xs μ (setS μ' p c) := fun a d n e => by
  rw [setS_ne (fun q => n (by rw [q]; exact hp))]; exact h a d n e
theorem Kp.new {xs : List Addr} {μ μ' : Store} {p : Addr} {c : Cell} (h : Kp xs μ μ') (hp : μ' p = none) : Kp xs μ (setS μ' p c) := fun a d n e => by
  have := h a d n e
  rw [setS_ne (fun q => by rw [q, hp] at this; cases this)]; exact this
theorem Kp.mono {xs ys : List Addr} {μ μ' : Store} (h : Kp xs μ μ') (s : ∀ a ∈ xs, a ∈ ys) : Kp ys μ μ' := fun a c n e => h a c (fun q => n (s a q)) e
theorem Kp.sub {xs : List Addr} {μ μ' : Store} (h : Kp xs μ μ') (n : ∀ a ∈ xs, μ a = none) : Dl.Sub μ μ' := fun a c e => h a c (fun q => by rw [n a q] at e; cases e) e
structure PairS (V : List Nat) (ab : Nat → List Nat) (μ : Store) (p1 p2 p3 : Addr) (nx fr : Mp) : Prop where
  c1 : ∃ kvs, μ p1 = some (.dct kvs) ∧ DM V (abD V ab) kvs
  c2 : ∃ kvs, μ p2 = some (.dct kvs) ∧ DM V (mpD nx) kvs
  c3 : ∃ kvs, μ p3 = some (.dct kvs) ∧ DM V (mpD fr) kvs
  n12 : p1 ≠ p2
  n13 : p1 ≠ p3
  n23 : p2 ≠ p3
noncomputable def paF (V : List Nat) (p1 p2 p3 : Addr) : List (Str × D) := [("sums", .lst (V.map eNat.enc)), ("above", .ref p1), ("next_of", .ref p2), ("from_of", .ref p3)]
theorem lkp_s {V : List Nat} {p1 p2 p3 : Addr} : look (paF V p1 p2 p3) "sums" = some (.lst (V.map eNat.enc)) := by rfl
theorem lkp_a {V : List Nat} {p1 p2 p3 : Addr} : look (paF V p1 p2 p3) "above" = some (.ref p1) := by rfl
theorem lkp_n {V : List Nat} {p1 p2 p3 : Addr} : look (paF V p1 p2 p3) "next_of" = some (.ref p2) := by rfl
theorem lkp_f {V : List Nat} {p1 p2 p3 : Addr} : look (paF V p1 p2 p3) "from_of" = some (.ref p3) := by rfl
theorem lkp_follow {V : List Nat} {p1 p2 p3 : Addr} : look (paF V p1 p2 p3) "follow" = none := by rfl
theorem lkp_apart {V : List Nat} {p1 p2 p3 : Addr} : look (paF V p1 p2 p3) "apart" = none := by rfl
theorem notInD_ref {a : Addr} {kvs : List (Key × D)} {μ : Store} {i : Int} {P : D → Store → Prop} (h : μ a = some (.dct kvs)) : oNotInD (.int i) (.ref a) μ P = P (.bl (!(look kvs (.inl i)).isSome)) μ := by
  unfold oNotInD oInDW
  have e : dctD μ (.ref a) = some kvs := by unfold dctD; dsimp only; rw [h]
  rw [e, key_int]
noncomputable abbrev FolR := Bool × Mp × Mp × List Nat
noncomputable def loopF (rec : Mp → Mp → List Nat → Nat → FolR) (nx fr : Mp) (one : Nat) : List Nat → List Nat → FolR
  | [], mi => (false, nx, fr, mi)
  | o :: r, mi => if o ∈ mi then loopF rec nx fr one r mi else match fr o with
    | none => (true, upM nx one o, upM fr o one, mi ++ [o])
    | some a1 => match rec nx fr (mi ++ [o]) a1 with
      | (true, nx1, fr1, m1) => (true, upM nx1 one o, upM fr1 o one, m1)
      | (false, _, _, m1) => loopF rec nx fr one r m1
noncomputable def folF (ab : Nat → List Nat) : Nat → Mp → Mp → List Nat → Nat → FolR
  | 0, nx, fr, met, _ => (false, nx, fr, met)
  | n + 1, nx, fr, met, one => loopF (folF ab n) nx fr one (ab one) met
theorem drop_get {α : Type} {l : List α} {i : Nat} {a : α} (h : l[i]? = some a) : l.drop i = a :: l.drop (i + 1) := by
  obtain ⟨hi, e⟩ := List.getElem?_eq_some_iff.mp h
  rw [List.drop_eq_getElem_cons hi, e]
noncomputable def nmV (es : List Ent) : List Nat := es.map (·.1)
noncomputable def abE (es : List Ent) (a : Nat) : List Nat := match es.find? (fun e => e.1 == a) with
  | some e => (es.filter fun y => lwB e y).map (·.1)
  | none => []
noncomputable def rkE (es : List Ent) (a : Nat) : Nat := match es.find? (fun e => e.1 == a) with
  | some e => cnt e.2
  | none => 0
theorem find_ent {es : List Ent} (h : (es.map (·.1)).Nodup) {e : Ent} (he : e ∈ es) : es.find? (fun x => x.1 == e.1) = some e := by
  cases q : es.find? (fun x => x.1 == e.1) with
  | none =>
    have := List.find?_eq_none.mp q e he
    simp at this
  | some x =>
    have h1 := List.find?_some q
    have h2 := List.mem_of_find?_eq_some q
    rw [nodup_fst h h2 he (eq_of_beq h1)]
theorem abE_at {es : List Ent} (h : (es.map (·.1)).Nodup) {e : Ent} (he : e ∈ es) : abE es e.1 = (es.filter fun y => lwB e y).map (·.1) := by
  unfold abE; rw [find_ent h he]
theorem rkE_at {es : List Ent} (h : (es.map (·.1)).Nodup) {e : Ent} (he : e ∈ es) : rkE es e.1 = cnt e.2 := by
  unfold rkE; rw [find_ent h he]
theorem abE_some {es : List Ent} {a b : Nat} (h : b ∈ abE es a) : ∃ e ∈ es, ∃ y ∈ es, e.1 = a ∧ y.1 = b ∧ lwB e y = true := by
  unfold abE at h
  cases q : es.find? (fun e => e.1 == a) with
  | none => rw [q] at h; cases h
  | some e =>
    rw [q] at h
    obtain ⟨y, hy, rfl⟩ := List.mem_map.mp h
    obtain ⟨h1, h2⟩ := List.mem_filter.mp hy
    exact ⟨e, List.mem_of_find?_eq_some q, y, h1, eq_of_beq (show (e.1 == a) = true from List.find?_some (p := fun e : Ent => e.1 == a) q), rfl, h2⟩
theorem mem_abE {es : List Ent} (h : (es.map (·.1)).Nodup) {e y : Ent} (he : e ∈ es) (hy : y ∈ es) : y.1 ∈ abE es e.1 ↔ lwB e y = true := by
  rw [abE_at h he, List.mem_map]
  constructor
  · rintro ⟨z, hz, q⟩
    obtain ⟨h1, h2⟩ := List.mem_filter.mp hz
    rw [← nodup_fst h h1 hy q]; exact h2
  · intro q; exact ⟨y, List.mem_filter.mpr ⟨hy, q⟩, rfl⟩
theorem abE_V {es : List Ent} {a b : Nat} (h : b ∈ abE es a) : b ∈ nmV es := by
  obtain ⟨_, _, y, hy, _, rfl, _⟩ := abE_some h
  exact List.mem_map.mpr ⟨y, hy, rfl⟩
theorem abE_rk {es : List Ent} (ok : Good es) {a b : Nat} (h : b ∈ abE es a) : rkE es a < rkE es b := by
  obtain ⟨e, he, y, hy, rfl, rfl, hl⟩ := abE_some h
  rw [rkE_at ok.nn he, rkE_at ok.nn hy]
  exact lw_cnt ok he hy hl
theorem rkE_le {es : List Ent} (ok : Good es) (a : Nat) : rkE es a ≤ 1000 := by
  unfold rkE
  cases q : es.find? (fun e => e.1 == a) with
  | none => exact Nat.zero_le _
  | some e => exact Nat.le_trans (cnt_le _) (ok.st e (List.mem_of_find?_eq_some q)).2
noncomputable def pairStep (es : List Ent) (st : Mp × Mp) (one : Nat) : Mp × Mp := ((folF (abE es) 18 st.1 st.2 [] one).2.1, (folF (abE es) 18 st.1 st.2 [] one).2.2.1)
noncomputable def pairF (es : List Ent) : Mp × Mp := (nmV es).foldl (pairStep es) (fun _ => none, fun _ => none)
noncomputable def rowsE (es : List Ent) : List (List Nat) := (firstsM (pairF es).2 (nmV es)).map (rowF (pairF es).1 1001)
noncomputable def addL (B : List Nat) (b : Nat) : List Nat := if b ∈ B then B else B ++ [b]
noncomputable def apLoop (ab : Nat → List Nat) (fr : Mp) : Nat → List Nat → List Nat → List Nat → List Nat × List Nat
  | 0, _, F, B => (F, B)
  | n + 1, W, F, B => match W.getLast? with
    | none => (F, B)
    | some w => if w ∈ F then apLoop ab fr n W.dropLast F B else apLoop ab fr n (W.dropLast ++ (ab w).filterMap fr) (F ++ [w]) ((ab w).foldl addL B)
noncomputable def unM (nx : Mp) (V : List Nat) : List Nat := V.filter fun a => !(nx a).isSome
noncomputable def apR (es : List Ent) : List Nat × List Nat := apLoop (abE es) (pairF es).2 700 (unM (pairF es).1 (nmV es)) [] []
noncomputable def apE (es : List Ent) : List Nat := apS (nmV es) (apR es).1 (apR es).2
theorem up_ab {P : List Nat} {ab : Nat → List Nat} {a : Nat} : upD (abD P ab) a (.lst ((ab a).map eNat.enc)) = abD (P ++ [a]) ab := by
  funext x
  unfold upD abD
  by_cases e : x = a
  · subst e; rw [if_pos rfl, if_pos (List.mem_append_right _ (by simp))]
  · rw [if_neg e]
    by_cases q : x ∈ P
    · rw [if_pos q, if_pos (List.mem_append_left _ q)]
    · rw [if_neg q, if_neg]
      intro r
      rcases List.mem_append.mp r with r | r
      · exact q r
      · simp only [List.mem_singleton] at r; exact e r
theorem ab_nil {ab : Nat → List Nat} : abD [] ab = fun _ => none := by funext x; unfold abD; simp
theorem Kp.nn {xs : List Addr} {μ μ' : Store} {p : Addr} (h : Kp xs μ μ') (hp : p ∉ xs) (e : μ' p = none) : μ p = none := by
  cases q : μ p with
  | none => rfl
  | some c => have := h p c hp q; rw [e] at this; cases this
theorem Kp.also {xs ys : List Addr} {μ μ1 μ2 : Store} (h : Kp xs μ μ1) (k : Kp ys μ1 μ2) (n : ∀ y ∈ ys, y ∈ xs ∨ μ y = none) : Kp xs μ μ2 := fun a c na e => k a c (fun q => by
  rcases n a q with r | r
  · exact na r
  · rw [r] at e; cases e) (h a c na e)
noncomputable def pf1 (V : List Nat) : List (Str × D) := [("sums", .lst (V.map eNat.enc))]
noncomputable def pf2 (V : List Nat) (p1 : Addr) : List (Str × D) := [("sums", .lst (V.map eNat.enc)), ("above", .ref p1)]
noncomputable def pf3 (V : List Nat) (p1 p2 : Addr) : List (Str × D) := [("sums", .lst (V.map eNat.enc)), ("above", .ref p1), ("next_of", .ref p2)]
theorem nm_enc2 (es : List Ent) : (es.map fun e => D.int (e.1 : Nat)) = (nmV es).map eNat.enc := by unfold nmV; rw [List.map_map]; rfl
/-- the dict of those above -/
theorem len17 {es : List Ent} (h : es.length ≤ 16) : (nmV es).length ≤ 16 := by unfold nmV; rw [List.length_map]; exact h
theorem PairS.set {V : List Nat} {ab : Nat → List Nat} {μ : Store} {p1 p2 p3 p : Addr} {nx fr : Mp} {c : Cell} (S : PairS V ab μ p1 p2 p3 nx fr) (n1 : p1 ≠ p) (n2 : p2 ≠ p) (n3 : p3 ≠ p) : PairS V ab (setS μ p c) p1 p2 p3 nx fr := by
  obtain ⟨⟨k1, f1, E1⟩, ⟨k2, f2, E2⟩, ⟨k3, f3, E3⟩, m1, m2, m3⟩ := S
  exact ⟨⟨k1, by rw [setS_ne n1]; exact f1, E1⟩, ⟨k2, by rw [setS_ne n2]; exact f2, E2⟩, ⟨k3, by rw [setS_ne n3]; exact f3, E3⟩, m1, m2, m3⟩
theorem PairS.nne {V : List Nat} {ab : Nat → List Nat} {μ : Store} {p1 p2 p3 p : Addr} {nx fr : Mp} (S : PairS V ab μ p1 p2 p3 nx fr) (h : μ p = none) : p1 ≠ p ∧ p2 ≠ p ∧ p3 ≠ p := by
  obtain ⟨⟨k1, f1, E1⟩, ⟨k2, f2, E2⟩, ⟨k3, f3, E3⟩, m1, m2, m3⟩ := S
  exact ⟨(fun q => by rw [q, h] at f1; cases f1), (fun q => by rw [q, h] at f2; cases f2), (fun q => by rw [q, h] at f3; cases f3)⟩
theorem mem_addL {B : List Nat} {b x : Nat} : x ∈ addL B b ↔ x ∈ B ∨ x = b := by
  unfold addL
  by_cases h : b ∈ B
  · rw [if_pos h]
    exact ⟨.inl, fun q => q.elim (fun q => q) (fun q => q ▸ h)⟩
  · rw [if_neg h, List.mem_append, List.mem_singleton]
theorem mem_foldA : ∀ (l B : List Nat) (x : Nat), x ∈ l.foldl addL B ↔ x ∈ B ∨ x ∈ l
  | [], B, x => by simp
  | b :: l, B, x => by
    rw [List.foldl_cons, mem_foldA l, mem_addL, List.mem_cons, or_assoc]
theorem nodup_addL {B : List Nat} {b : Nat} (h : B.Nodup) : (addL B b).Nodup := by
  unfold addL
  by_cases q : b ∈ B
  · rw [if_pos q]; exact h
  · rw [if_neg q, List.nodup_append]
    refine ⟨h, by simp, fun x hx y hy e => ?_⟩
    simp only [List.mem_singleton] at hy
    subst e; subst hy; exact q hx
theorem nodup_foldA : ∀ (l B : List Nat), B.Nodup → (l.foldl addL B).Nodup
  | [], B, h => h
  | b :: l, B, h => by rw [List.foldl_cons]; exact nodup_foldA l _ (nodup_addL h)
theorem up_add {B : List Nat} {b : Nat} : upD (mtD B) b (.bl true) = mtD (addL B b) := by
  unfold addL
  by_cases q : b ∈ B
  · rw [if_pos q]
    funext x
    unfold upD mtD
    by_cases e : x = b
    · subst e; rw [if_pos rfl, if_pos q]
    · rw [if_neg e]
  · rw [if_neg q]; exact up_mt
theorem getLast_cat (W : List Nat) (w : Nat) : (W ++ [w]).getLast? = some w := by simp
theorem dropLast_cat (W : List Nat) (w : Nat) : (W ++ [w]).dropLast = W := by simp
/-- closed below -/
noncomputable def Shut (ab : Nat → List Nat) (fr : Mp) (a : Nat) : Prop := ∃ R, Clo ab fr R ∧ ∀ b ∈ ab a, b ∈ R
theorem Shut.next {ab : Nat → List Nat} {fr : Mp} {a b : Nat} (h : Shut ab fr a) (hb : b ∈ ab a) : ∃ a', fr b = some a' ∧ Shut ab fr a' := by
  obtain ⟨R, h1, h2⟩ := h
  obtain ⟨a', h3, h4⟩ := h1 b (h2 b hb)
  exact ⟨a', h3, R, h1, h4⟩
theorem Prg.shut {ab : Nat → List Nat} {nx fr : Mp} {V : List Nat} (P : Prg ab nx fr V) {a : Nat} (ha : a ∈ V) (hn : nx a = Option.none) : Shut ab fr a := by
  rcases P.res a ha with h | h
  · rw [hn] at h; cases h
  · exact h
structure ApI (ab : Nat → List Nat) (nx fr : Mp) (V W F B : List Nat) : Prop where
  fn : F.Nodup
  bn : B.Nodup
  fv : ∀ a ∈ F, a ∈ V
  bv : ∀ b ∈ B, b ∈ V
  wv : ∀ a ∈ W, a ∈ V ∧ Shut ab fr a
  un : ∀ a ∈ V, nx a = none → a ∈ F ∨ a ∈ W
  go : ∀ a ∈ F, ∀ b ∈ ab a, b ∈ B
  back : ∀ b ∈ B, ∃ a, (a ∈ F ∨ a ∈ W) ∧ fr b = some a
theorem mem_unM {nx : Mp} {V : List Nat} {a : Nat} : a ∈ unM nx V ↔ a ∈ V ∧ nx a = none := by
  unfold unM
  rw [List.mem_filter]
  cases nx a <;> simp
theorem ApI.start {ab : Nat → List Nat} {nx fr : Mp} {V : List Nat} (P : Prg ab nx fr V) : ApI ab nx fr V (unM nx V) [] [] :=
  ⟨by simp, by simp, by simp, by simp, fun a ha => ⟨(mem_unM.mp ha).1, P.shut (mem_unM.mp ha).1 (mem_unM.mp ha).2⟩, fun a h1 h2 => .inr (mem_unM.mpr ⟨h1, h2⟩), by simp, by simp⟩
theorem ApI.skip {ab : Nat → List Nat} {nx fr : Mp} {V W F B : List Nat} {w : Nat} (h : ApI ab nx fr V (W ++ [w]) F B) (hw : w ∈ F) : ApI ab nx fr V W F B := by
  have hm : ∀ a, a ∈ F ∨ a ∈ W ++ [w] → a ∈ F ∨ a ∈ W := fun a q => by
    rcases q with q | q
    · exact .inl q
    · rcases List.mem_append.mp q with q | q
      · exact .inr q
      · simp only [List.mem_singleton] at q; subst q; exact .inl hw
  exact ⟨h.fn, h.bn, h.fv, h.bv, fun a ha => h.wv a (List.mem_append_left _ ha), fun a h1 h2 => hm a (h.un a h1 h2), h.go, fun b hb => by
    obtain ⟨a, q1, q2⟩ := h.back b hb
    exact ⟨a, hm a q1, q2⟩⟩
theorem ApI.step {ab : Nat → List Nat} {nx fr : Mp} {V W F B : List Nat} {w : Nat} (h : ApI ab nx fr V (W ++ [w]) F B) (P : Prg ab nx fr V) (hab : ∀ a, ∀ b ∈ ab a, b ∈ V) (hw : w ∉ F) : ApI ab nx fr V (W ++ (ab w).filterMap fr) (F ++ [w]) ((ab w).foldl addL B) := by
  have hww := h.wv w (List.mem_append_right _ (by simp))
  have hm : ∀ a, a ∈ F ∨ a ∈ W ++ [w] → a ∈ F ++ [w] ∨ a ∈ W ++ (ab w).filterMap fr := fun a q => by
    rcases q with q | q
    · exact .inl (List.mem_append_left _ q)
    · rcases List.mem_append.mp q with q | q
      · exact .inr (List.mem_append_left _ q)
      · exact .inl (List.mem_append_right _ q)
  refine ⟨?_, nodup_foldA _ _ h.bn, fun a ha => ?_, fun b hb => ?_, fun a ha => ?_, fun a h1 h2 => hm a (h.un a h1 h2), fun a ha b hb => ?_, fun b hb => ?_⟩
  · rw [List.nodup_append]
    refine ⟨h.fn, by simp, fun x hx y hy e => ?_⟩
    simp only [List.mem_singleton] at hy
    subst e; subst hy; exact hw hx
  · rcases List.mem_append.mp ha with q | q
    · exact h.fv a q
    · simp only [List.mem_singleton] at q; subst q; exact hww.1
  · rcases (mem_foldA _ _ _).mp hb with q | q
    · exact h.bv b q
    · exact hab w b q
  · rcases List.mem_append.mp ha with q | q
    · exact h.wv a (List.mem_append_left _ q)
    · obtain ⟨b, hb, q⟩ := List.mem_filterMap.mp q
      obtain ⟨a', h1, h2⟩ := hww.2.next hb
      rw [q] at h1
      cases h1
      exact ⟨P.dom a (by rw [P.mat.bw a b q]; rfl), h2⟩
  · rcases List.mem_append.mp ha with q | q
    · exact (mem_foldA _ _ _).mpr (.inl (h.go a q b hb))
    · simp only [List.mem_singleton] at q; subst q; exact (mem_foldA _ _ _).mpr (.inr hb)
  · rcases (mem_foldA _ _ _).mp hb with q | q
    · obtain ⟨a, q1, q2⟩ := h.back b q
      exact ⟨a, hm a q1, q2⟩
    · obtain ⟨a', h1, h2⟩ := hww.2.next q
      exact ⟨a', .inr (List.mem_append_right _ (List.mem_filterMap.mpr ⟨b, q, h1⟩)), h1⟩
/-- enough turns are left -/
noncomputable def ApM (m : Nat) (V W F : List Nat) : Prop := W.length + (17 - F.length) * 20 ≤ m
theorem ApM.skip {m : Nat} {V W F : List Nat} {w : Nat} (h : ApM m V (W ++ [w]) F) : 0 < m ∧ ApM (m - 1) V W F := by
  unfold ApM at h ⊢
  rw [List.length_append, List.length_singleton] at h
  omega
theorem ApM.step {m : Nat} {ab : Nat → List Nat} {fr : Mp} {V W F : List Nat} {w : Nat} (h : ApM m V (W ++ [w]) F) (hf : F.length + 1 ≤ V.length) (hV : V.length ≤ 16) (hl : (ab w).length ≤ 16) : ApM (m - 1) V (W ++ (ab w).filterMap fr) (F ++ [w]) := by
  unfold ApM at h ⊢
  have := List.length_filterMap_le fr (ab w)
  rw [List.length_append, List.length_singleton] at h
  rw [List.length_append, List.length_append, List.length_singleton]
  omega
theorem apLoop_ok {ab : Nat → List Nat} {nx fr : Mp} {V : List Nat} (P : Prg ab nx fr V) (hab : ∀ a, ∀ b ∈ ab a, b ∈ V) (hV : V.length ≤ 16) (hl : ∀ a, (ab a).length ≤ 16) : ∀ (m : Nat) (W F B : List Nat), ApI ab nx fr V W F B → ApM m V W F → Rch ab nx fr V (apLoop ab fr m W F B).1 (apLoop ab fr m W F B).2 := by
  intro m
  induction m with
  | zero =>
    intro W F B h hm
    have hW : W = [] := by
      unfold ApM at hm
      exact List.length_eq_zero_iff.mp (by omega)
    subst hW
    exact ⟨h.fn, h.bn, h.fv, fun a h1 h2 => (h.un a h1 h2).elim (fun q => q) (fun q => nomatch q), h.go, fun b hb => by
      obtain ⟨a, q1, q2⟩ := h.back b hb
      exact ⟨a, q1.elim (fun q => q) (fun q => nomatch q), q2⟩⟩
  | succ m ih =>
    intro W F B h hm
    rcases List.eq_nil_or_concat W with rfl | ⟨W', w, rfl⟩
    · exact ⟨h.fn, h.bn, h.fv, fun a h1 h2 => (h.un a h1 h2).elim (fun q => q) (fun q => nomatch q), h.go, fun b hb => by
        obtain ⟨a, q1, q2⟩ := h.back b hb
        exact ⟨a, q1.elim (fun q => q) (fun q => nomatch q), q2⟩⟩
    · rw [List.concat_eq_append] at h hm ⊢
      rw [apLoop, getLast_cat, dropLast_cat]
      dsimp only
      by_cases hw : w ∈ F
      · rw [if_pos hw]
        exact ih _ _ _ (h.skip hw) hm.skip.2
      · rw [if_neg hw]
        have h' := h.step P hab hw
        have h1 := nodup_len h'.fn h'.fv
        rw [List.length_append, List.length_singleton] at h1
        exact ih _ _ _ h' (hm.step h1 hV (hl w))
theorem abE_len {es : List Ent} (h : es.length ≤ 16) (a : Nat) : (abE es a).length ≤ 16 := by
  unfold abE
  cases es.find? (fun e => e.1 == a) with
  | none => exact Nat.zero_le _
  | some e =>
    show ((es.filter fun y => lwB e y).map (·.1)).length ≤ 16
    rw [List.length_map]
    exact Nat.le_trans (List.length_filter_le _ _) h
theorem unM_len {nx : Mp} {V : List Nat} : (unM nx V).length ≤ V.length := List.length_filter_le _ _
theorem ApM.start {nx : Mp} {V : List Nat} (hV : V.length ≤ 16) : ApM 700 V (unM nx V) [] := by
  have := unM_len (nx := nx) (V := V)
  unfold ApM
  rw [List.length_nil]
  omega
theorem apR_ok {es : List Ent} (ok : Good es) (h16 : es.length ≤ 16) (P : Prg (abE es) (pairF es).1 (pairF es).2 (nmV es)) : Rch (abE es) (pairF es).1 (pairF es).2 (nmV es) (apR es).1 (apR es).2 :=
  apLoop_ok P (fun _ _ h => abE_V h) (len17 h16) (abE_len h16) 700 _ _ _ (ApI.start P) (ApM.start (len17 h16))
theorem subB_trn : ∀ {a b c : List Bool}, a.length = b.length → b.length = c.length → subB a b = true → subB b c = true → subB a c = true
  | [], _, _, _, _, _, _ => by simp [subB]
  | a :: as, [], _, h, _, _, _ => by cases h
  | a :: as, b :: bs, [], _, h, _, _ => by cases h
  | a :: as, b :: bs, c :: cs, h1, h2, h3, h4 => by
    simp only [List.length_cons, Nat.add_right_cancel_iff] at h1 h2
    rw [subB, Bool.and_eq_true] at h3 h4 ⊢
    refine ⟨?_, subB_trn h1 h2 h3.2 h4.2⟩
    have x := h3.1
    have y := h4.1
    cases a <;> cases b <;> cases c <;> simp_all
theorem abE_tr {es : List Ent} (ok : Good es) (a b d : Nat) (h1 : b ∈ abE es a) (h2 : d ∈ abE es b) : d ∈ abE es a := by
  have r1 := abE_rk ok h1
  have r2 := abE_rk ok h2
  obtain ⟨e, he, y, hy, rfl, rfl, l1⟩ := abE_some h1
  obtain ⟨y', hy', z, hz, q, rfl, l2⟩ := abE_some h2
  have := nodup_fst ok.nn hy' hy q
  subst this
  refine (mem_abE ok.nn he hz).mpr ?_
  unfold lwB at l1 l2 ⊢
  rw [Bool.and_eq_true, decide_eq_true_eq] at l1 l2 ⊢
  refine ⟨fun q => ?_, subB_trn (ok.ln e he _ hy) (ok.ln _ hy z hz) l1.2 l2.2⟩
  rw [rkE_at ok.nn he, rkE_at ok.nn hy] at r1
  rw [rkE_at ok.nn hy, rkE_at ok.nn hz] at r2
  have := nodup_fst ok.nn he hz q
  subst this
  omega
section
variable {es : List Ent} (ok : Good es) (h16 : es.length ≤ 16) (P : Prg (abE es) (pairF es).1 (pairF es).2 (nmV es))
include ok h16 P
theorem nx_in : ∀ a b, (pairF es).1 a = some b → a ∈ nmV es ∧ b ∈ nmV es := fun a b q => ⟨P.dom a (by rw [q]; rfl), abE_V (P.mat.ed a b q)⟩
theorem rowsE_perm : (rowsE es).flatten.Perm (nmV es) := by
  unfold rowsE
  rw [← List.flatMap_def]
  exact rows_perm P.mat ok.nn (rkE es) (fun a b h => abE_rk ok h) 1000 (nx_in ok h16 P) (fun x _ => rkE_le ok x) 1001 (by omega)
theorem rowsE_pw : ∀ r ∈ rowsE es, r ≠ [] ∧ r.Pairwise (fun x y => y ∈ abE es x) ∧ ∀ x ∈ r, x ∈ nmV es := by
  intro r hr
  obtain ⟨a, ha, rfl⟩ := List.mem_map.mp hr
  refine ⟨fun q => ?_, (row_pw P.mat (abE_tr ok) 1001 a).2, fun x hx => ?_⟩
  · have := row_self (pairF es).1 1001 a
    rw [q] at this
    cases this
  · exact row_sub P.mat (nx_in ok h16 P) (mem_firstsM.mp ha).1 hx
theorem rowsE_len : (rowsE es).length = (apE es).length := by
  have R := apR_ok ok h16 P
  have e1 : (rowsE es).length = (firstsM (pairF es).2 (nmV es)).length := by unfold rowsE; rw [List.length_map]
  have e2 : (firstsM (pairF es).2 (nmV es)).length = ((nmV es).filter fun a => !((pairF es).1 a).isSome).length := firsts_len P.mat ok.nn (nx_in ok h16 P)
  have e3 : ((nmV es).filter fun a => !((pairF es).1 a).isSome).length ≤ (apE es).length := ap_many P.mat ok.nn R
  refine Nat.le_antisymm (by rw [e1, e2]; exact e3) ?_
  refine lot_rows (R := fun x y => y ∈ abE es x) (rowsE es) (apE es) (fun r hr => (rowsE_pw ok h16 P r hr).2.1) ((show (nmV es).Nodup from ok.nn).filter _) (fun x hx => ?_) (fun x hx y hy => ap_free R hx hy)
  have hxV : x ∈ nmV es := (List.mem_filter.mp hx).1
  have := (rowsE_perm ok h16 P).mem_iff.mpr hxV
  obtain ⟨r, hr, hxr⟩ := List.mem_flatten.mp this
  exact ⟨r, hr, hxr⟩
theorem apE_free {x y : Nat} (hx : x ∈ apE es) (hy : y ∈ apE es) : y ∉ abE es x := ap_free (apR_ok ok h16 P) hx hy
omit ok h16 P in
theorem apE_sub : (apE es).Sublist (nmV es) := List.filter_sublist
end
noncomputable def Gd (es : List Ent) (a b : Nat) : Prop := a < b ∧ b ∉ abE es a ∧ a ∉ abE es b
noncomputable instance {es : List Ent} : DecidableRel (Gd es) := fun a b => by unfold Gd; exact inferInstance
theorem fr_ab {es : List Ent} (ok : Good es) (x y : Nat) : (x, y) ∈ frs es W0 ↔ y ∈ abE es x := by
  constructor
  · intro h
    obtain ⟨a, ha, b, hb, h1, h2, e⟩ := frs_mem.mp h
    cases e
    refine (mem_abE ok.nn ha hb).mpr ?_
    unfold W0 at h2
    rw [canW_add, Bool.and_eq_true] at h2
    unfold lwB
    rw [decide_eq_true h1, h2.2]
    rfl
  · intro h
    obtain ⟨e, he, y', hy, rfl, rfl, l⟩ := abE_some h
    exact pr_lw ok he hy l
noncomputable def freeS (es : List Ent) (l : List Nat) : Prop := ∀ x ∈ l, ∀ y ∈ l, y ∉ abE es x
noncomputable instance {es : List Ent} {l : List Nat} : Decidable (freeS es l) := by unfold freeS; exact inferInstance
section
variable {es : List Ent} (ok : Good es) (h16 : es.length ≤ 16) (P : Prg (abE es) (pairF es).1 (pairF es).2 (nmV es))
include ok h16 P
/-- no lot is greater than the told one -/
theorem lot_le {L : List Nat} (nd : L.Nodup) (hV : ∀ x ∈ L, x ∈ nmV es) (hf : freeS es L) : L.length ≤ (apE es).length := by
  rw [← rowsE_len ok h16 P]
  refine lot_rows (R := fun x y => y ∈ abE es x) (rowsE es) L (fun r hr => (rowsE_pw ok h16 P r hr).2.1) nd (fun x hx => ?_) (fun x hx y hy => hf x hx y hy)
  have := (rowsE_perm ok h16 P).mem_iff.mpr (hV x hx)
  obtain ⟨r, hr, hxr⟩ := List.mem_flatten.mp this
  exact ⟨r, hr, hxr⟩
theorem apE_freeS : freeS es (apE es) := fun _ hx _ hy => apE_free ok h16 P hx hy
end
theorem frO_sub {es : List Ent} (ok : Good es) {a b : Ent} (ha : a ∈ es) (hb : b ∈ es) : canW W0 a.2 b.2 = subB a.2 b.2 := by
  unfold W0
  rw [canW_add, decide_eq_true (ok.ln a ha b hb)]; rfl
section
open PySem.StrLaws PySem.Builtin PySem.Builtin.Str
theorem replace_split (x y z : Str) (h0 : (y.length == 0) = false) (hk : ¬ Builtin.Str.strKind x < Builtin.Str.strKind y) : Txt.replace x y z = Str.join z (Txt.split x y) := by
  unfold Txt.replace
  rw [h0, Bool.false_and, Bool.or_false]
  cases he : (occurrences x y 0 x.length (x.length + 1)).isEmpty
  · rw [if_neg Bool.false_ne_true, glued_eq_join]
    by_cases hc : (decide (x.length < y.length) || decide (strKind x < strKind y)) = true
    · exfalso
      rw [Bool.or_eq_true, decide_eq_true_eq, decide_eq_true_eq] at hc
      rcases hc with hc | hc
      · cases ho : occurrences x y 0 x.length (x.length + 1) with
        | nil => rw [ho] at he; exact absurd he (by simp)
        | cons i r =>
          have := occ_spec x y 0 x.length (x.length + 1) i (by rw [ho]; exact List.mem_cons_self)
          omega
      · exact hk hc
    · unfold Txt.split
      rw [if_neg hc, he, if_neg Bool.false_ne_true]
  · rw [if_pos rfl]
    unfold Txt.split
    split
    · rfl
    · rfl
theorem pre_semi {p r : List Nat} (h : (59 : Nat) ∉ p) (hr : r.head? ≠ some 59) : ∀ i, i < p.length → TL.pre [32, 59, 32] ((p ++ r).drop i) = false := by
  intro i hi
  have e1 : (p ++ r).drop i = p.drop i ++ r := List.drop_append_of_le_length (by omega)
  rw [e1, List.drop_eq_getElem_cons hi]
  cases q : TL.pre [32, 59, 32] (p[i] :: p.drop (i + 1) ++ r) with
  | false => rfl
  | true =>
    exfalso
    unfold TL.pre at q
    rw [beq_iff_eq] at q
    have q1 := congrArg (fun l : List Nat => l[1]?) q
    simp only [List.length_cons, List.length_nil, List.cons_append, List.take_succ_cons] at q1
    cases hd : p.drop (i + 1) with
    | cons a t =>
      rw [hd] at q1
      simp at q1
      refine h ?_
      have : a ∈ p := List.mem_of_mem_drop (i := i + 1) (by rw [hd]; exact List.mem_cons_self)
      rw [← q1]; exact this
    | nil =>
      rw [hd] at q1
      cases r with
      | nil => simp at q1
      | cons b t => simp at q1; exact hr (by rw [q1]; rfl)
theorem spl_semi : ∀ {ps : List (List Nat)}, ps ≠ [] → (∀ p ∈ ps, (59 : Nat) ∉ p) → TL.spl [32, 59, 32] 0 [] (TL.joinL [32, 59, 32] ps) = ps
  | [], h, _ => absurd rfl h
  | [p], _, hp => by
    show TL.spl [32, 59, 32] 0 [] p = [p]
    rw [TL.spl_last fun i hi => ?_, List.nil_append]
    have := pre_semi (r := []) (hp p List.mem_cons_self) (by simp) i hi
    rwa [List.append_nil] at this
  | p :: q :: r, _, hp => by
    show TL.spl [32, 59, 32] 0 [] (p ++ ([32, 59, 32] ++ TL.joinL [32, 59, 32] (q :: r))) = p :: q :: r
    rw [TL.spl_part (by simp) (pre_semi (hp p List.mem_cons_self) (by simp)), List.nil_append, spl_semi (by simp) fun z hz => hp z (List.mem_cons_of_mem _ hz)]
theorem split_semi {ls : List Str} (hne : ls ≠ []) (hp : ∀ p ∈ ls, (59 : Nat) ∉ p.cps.toList) : Txt.split (Txt.join (" ; " : Str) ls) (" ; " : Str) = ls := by
  refine TL.map_tl_inj ?_
  have ey : TL.tl (" ; " : Str) = [32, 59, 32] := by decide +kernel
  rw [TL.split_spl _ _ (by rw [ey]; simp) (TL.kind_ok (by decide +kernel)), TL.join_eq, TL.tl_join, ey]
  refine spl_semi (fun e => hne (List.map_eq_nil_iff.mp e)) fun p h => ?_
  obtain ⟨z, hz, rfl⟩ := List.mem_map.mp h
  exact hp z hz
theorem repl_semi {ls : List Str} (hne : ls ≠ []) (hp : ∀ p ∈ ls, (59 : Nat) ∉ p.cps.toList) : Txt.replace (Txt.join (" ; " : Str) ls) (" ; " : Str) ("\n" : Str) = Txt.join ("\n" : Str) ls := by
  rw [replace_split _ _ _ (by decide +kernel) (TL.kind_ok (by decide +kernel)), split_semi hne hp, TL.join_eq]
theorem repl_line {ls : List Str} (hne : ls ≠ []) (hp : ∀ p ∈ ls, (10 : Nat) ∉ p.cps.toList) : Txt.replace (Txt.join ("\n" : Str) ls) ("\n" : Str) (" ; " : Str) = Txt.join (" ; " : Str) ls := by
  rw [replace_split _ _ _ (by decide +kernel) (TL.kind_ok (by decide +kernel)), TL.split_join (s := 10) (S := []) (by decide +kernel) (by decide +kernel) hne hp, TL.join_eq]
end
theorem non_out : ∀ ns : List Nat, inV (toV D.non) (ns.map (toV ∘ fun n : Nat => D.int (n : Nat))) = false
  | [] => rfl
  | a :: r => by
    have ih := non_out r
    rw [List.map_cons]
    unfold inV at ih ⊢
    simp only [List.any_cons, ih]
    rfl
noncomputable def jw (ys : List Str) : Str := Txt.join (Str.ofString " ") ys
theorem jw_snoc {ys : List Str} (h : ys ≠ []) (y : Str) : jw (ys ++ [y]) = jw ys ++ Str.ofString " " ++ y := join_snoc _ _ h
theorem jw_pos {ys : List Str} (h : ys ≠ []) (hy : ∀ y ∈ ys, 0 < y.length) : 0 < (jw ys).length := by
  rw [← List.dropLast_concat_getLast h]
  have hl := hy _ (List.getLast_mem h)
  by_cases q : ys.dropLast = []
  · rw [q, List.nil_append]
    unfold jw
    rw [join_eqS]
    exact hl
  · rw [jw_snoc q, str_app_len]
    omega
theorem jw_len {ys : List Str} (hy : ∀ y ∈ ys, y.length ≤ 2000) (hz : ys.length ≤ 400) : (jw ys).length ≤ 800400 := by
  have h : ∀ n (ys : List Str), ys.length = n → (∀ y ∈ ys, y.length ≤ 2000) → (jw ys).length ≤ n * 2001 := by
    intro n
    induction n with
    | zero => intro ys h _; rw [List.length_eq_zero_iff.mp h]; decide +kernel
    | succ n ih =>
      intro ys h hy
      have h0 : ys ≠ [] := fun q => by rw [q] at h; cases h
      have hl := hy _ (List.getLast_mem h0)
      rw [← List.dropLast_concat_getLast h0]
      by_cases q : ys.dropLast = []
      · rw [q, List.nil_append]
        unfold jw
        rw [join_eqS]
        show (ys.getLast h0).length ≤ _
        omega
      · have h1 : (Str.ofString " ").length = 1 := by decide +kernel
        have := ih ys.dropLast (by rw [List.length_dropLast]; omega) fun y hm => hy y (List.dropLast_subset _ hm)
        rw [jw_snoc q, str_app_len, str_app_len]
        omega
  have := h _ ys rfl hy
  omega
structure Fr where
  es : List Ent
  past : List (List (List Bool))
  ss : List (List Bool)
  ws : List Str
noncomputable def sBook : Str := Str.ofString "book"
noncomputable def deedsS : List Fr → List Str
  | [] => []
  | [f] => f.ws
  | f :: g :: r => deedsS (g :: r) ++ (sBook :: f.ws)
noncomputable def FLd (C : Addr) (f : Fr) : List (Str × D) := ldF C f.es f.past f.ss
structure FrOk (f : Fr) : Prop where
  good : Good f.es
  asc : Asc f.es
  es16 : f.es.length ≤ 16
  all : AllOk f.es f.ss
  old : ∀ q ∈ f.past, AllOk f.es q ∧ q.length ≤ 200
  now : f.ss.length ≤ 200
  pl : f.past.length ≤ 200
  wl : f.ws.length = f.past.length
  wn : ∀ w ∈ f.ws, (w == sBook) = false
noncomputable def LedsAt (L B : Addr) (μ : Store) : List Addr → List Fr → Prop
  | [], [] => True
  | y :: ys, f :: S => μ y = some (.ins L (FLd B f)) ∧ y ∉ ys ∧ LedsAt L B μ ys S
  | _, _ => False
noncomputable def dkF (x : Addr) (els : List Addr) (dd : List Str) : List (Str × D) := [("going", .ref x), ("elders", .tup (els.map .ref)), ("deeds", .tup (dd.map .str))]
structure DkAt (L B T : Addr) (μ : Store) (a y : Addr) (r : List Addr) (S : List Fr) : Prop where
  at_ : μ a = some (.ins T (dkF y r.reverse (deedsS S)))
  led : LedsAt L B μ (y :: r) S
  ok : ∀ f ∈ S, FrOk f
noncomputable def Kps (a : Addr) (ys : List Addr) (μ μ' : Store) : Prop := ∀ b, b ≠ a → b ∉ ys → μ b ≠ none → μ' b = μ b
theorem LedsAt.mono {L B : Addr} {μ μ' : Store} : ∀ {ys : List Addr} {S : List Fr}, (∀ y ∈ ys, μ' y = μ y) → LedsAt L B μ ys S → LedsAt L B μ' ys S
  | [], [], _, _ => trivial
  | y :: ys, f :: S, h, ⟨h1, h2, h3⟩ => ⟨(h y List.mem_cons_self).trans h1, h2, LedsAt.mono (fun z hz => h z (List.mem_cons_of_mem _ hz)) h3⟩
  | [], _ :: _, _, h => h.elim
  | _ :: _, [], _, h => h.elim
theorem LedsAt.some {L B : Addr} {μ : Store} : ∀ {ys : List Addr} {S : List Fr}, LedsAt L B μ ys S → ∀ y ∈ ys, ∃ f, μ y = some (.ins L (FLd B f))
  | [], [], _, y, h => by cases h
  | y :: ys, f :: S, ⟨h1, h2, h3⟩, z, hz => by
    rcases List.mem_cons.mp hz with rfl | hz
    · exact ⟨f, h1⟩
    · exact h3.some z hz
  | [], _ :: _, h, _, _ => h.elim
  | _ :: _, [], h, _, _ => h.elim
theorem dk_ne {C C' : Addr} {x : Addr} {els : List Addr} {dd : List Str} {f : Fr} {B : Addr} : some (Cell.ins C (dkF x els dd)) ≠ some (Cell.ins C' (FLd B f)) := by
  intro h
  have h := Option.some.inj h
  injection h with _ h2
  unfold dkF FLd ldF ldH at h2
  have := congrArg (fun l : List (Str × D) => (l.head?).map (·.1)) h2
  simp only [List.head?_cons, Option.map_some, Option.some.injEq] at this
  exact absurd this (by decide +kernel)
theorem DkAt.out {L B T : Addr} {μ : Store} {a y : Addr} {r : List Addr} {S : List Fr} (h : DkAt L B T μ a y r S) : a ∉ y :: r := fun q => by
  obtain ⟨f, hf⟩ := h.led.some a q
  rw [h.at_] at hf
  exact dk_ne hf
theorem DkAt.ne {L B T : Addr} {μ : Store} {a y : Addr} {r : List Addr} {S : List Fr} (h : DkAt L B T μ a y r S) : ∀ z ∈ y :: r, μ z ≠ none := fun z hz => by
  obtain ⟨f, hf⟩ := h.led.some z hz
  rw [hf]; simp
theorem DkAt.mono {L B T : Addr} {μ μ' : Store} {a y : Addr} {r : List Addr} {S : List Fr} (h : DkAt L B T μ a y r S) (ha : μ' a = μ a) (hy : ∀ z ∈ y :: r, μ' z = μ z) : DkAt L B T μ' a y r S := ⟨ha.trans h.at_, h.led.mono hy, h.ok⟩
theorem lkd_g {x : Addr} {els : List Addr} {dd : List Str} : look (dkF x els dd) "going" = some (.ref x) := by rfl
theorem lkd_e {x : Addr} {els : List Addr} {dd : List Str} : look (dkF x els dd) "elders" = some (.tup (els.map .ref)) := by rfl
theorem lkd_d {x : Addr} {els : List Addr} {dd : List Str} : look (dkF x els dd) "deeds" = some (.tup (dd.map .str)) := by rfl
theorem lkd_no {x : Addr} {els : List Addr} {dd : List Str} {m : Str} (h : m = "say" ∨ m = "begin" ∨ m = "alone" ∨ m = "take_back" ∨ m = "__len__") : look (dkF x els dd) m = none := by
  rcases h with rfl | rfl | rfl | rfl | rfl <;> rfl
/-- what is done at the front ledger -/
noncomputable def wrF (f : Fr) (e : Ent) : Fr := { es := f.es, past := f.past ++ [f.ss], ss := f.ss ++ [e.2], ws := f.ws ++ [Str.ofString "write"] }
noncomputable def ntF (f : Fr) (j i : Nat) (s : List Bool) : Fr := { es := f.es, past := f.past ++ [f.ss], ss := f.ss.set j (s.set i true), ws := f.ws ++ [Str.ofString "notch"] }
noncomputable def bkFr (es : List Ent) : Fr := { es := es, past := [], ss := [], ws := [] }
noncomputable def unF (f : Fr) (p : List (List (List Bool))) (q : List (List Bool)) : Fr := { es := f.es, past := p, ss := q, ws := f.ws.dropLast }
theorem deeds_app {f : Fr} {r : List Fr} {es : List Ent} {p : List (List (List Bool))} {q : List (List Bool)} {w : Str} : deedsS ({ es := es, past := p, ss := q, ws := f.ws ++ [w] } :: r) = deedsS (f :: r) ++ [w] := by
  cases r with
  | nil => rfl
  | cons g r => show deedsS (g :: r) ++ (sBook :: (f.ws ++ [w])) = deedsS (g :: r) ++ (sBook :: f.ws) ++ [w]; simp
theorem deeds_book {f : Fr} {r : List Fr} {es : List Ent} : deedsS (bkFr es :: f :: r) = deedsS (f :: r) ++ [sBook] := rfl
theorem wr_ok {f : Fr} {e : Ent} (h : FrOk f) (he : e ∈ f.es) (h1 : f.ss.length < 200) (h2 : f.past.length < 200) : FrOk (wrF f e) where
  good := h.good
  asc := h.asc
  es16 := h.es16
  all := ⟨by show (f.ss ++ [e.2]).length ≤ _; rw [List.length_append, List.length_singleton]; omega, fun s hs => by
    rcases List.mem_append.mp hs with q | q
    · exact h.all.2 s q
    · simp only [List.mem_singleton] at q; subst q; exact sok_in h.good he⟩
  old := fun q hq => by
    rcases List.mem_append.mp hq with z | z
    · exact h.old q z
    · simp only [List.mem_singleton] at z; subst z; exact ⟨h.all, h.now⟩
  now := by show (f.ss ++ [e.2]).length ≤ _; rw [List.length_append, List.length_singleton]; omega
  pl := by show (f.past ++ [f.ss]).length ≤ _; rw [List.length_append, List.length_singleton]; omega
  wl := by show (f.ws ++ [_]).length = (f.past ++ [f.ss]).length; rw [List.length_append, List.length_append, h.wl]; rfl
  wn := fun w hw => by
    rcases List.mem_append.mp hw with q | q
    · exact h.wn w q
    · simp only [List.mem_singleton] at q; subst q; decide +kernel
theorem nt_ok {f : Fr} {j i : Nat} {s : List Bool} (h : FrOk f) (hj : f.ss[j]? = some s) (h2 : f.past.length < 200) : FrOk (ntF f j i s) where
  good := h.good
  asc := h.asc
  es16 := h.es16
  all := ⟨by show (f.ss.set j _).length ≤ _; rw [List.length_set]; exact h.all.1, fun t ht => by
    rcases List.mem_or_eq_of_mem_set ht with q | rfl
    · exact h.all.2 t q
    · exact sok_set h.good (h.all.2 s (List.mem_of_getElem? hj)) i⟩
  old := fun q hq => by
    rcases List.mem_append.mp hq with z | z
    · exact h.old q z
    · simp only [List.mem_singleton] at z; subst z; exact ⟨h.all, h.now⟩
  now := by show (f.ss.set j _).length ≤ _; rw [List.length_set]; exact h.now
  pl := by show (f.past ++ [f.ss]).length ≤ _; rw [List.length_append, List.length_singleton]; omega
  wl := by show (f.ws ++ [_]).length = (f.past ++ [f.ss]).length; rw [List.length_append, List.length_append, h.wl]; rfl
  wn := fun w hw => by
    rcases List.mem_append.mp hw with q | q
    · exact h.wn w q
    · simp only [List.mem_singleton] at q; subst q; decide +kernel
theorem bk_ok {es : List Ent} (h : Good es) (ha : Asc es) (h16 : es.length ≤ 16) : FrOk (bkFr es) where
  good := h
  asc := ha
  es16 := h16
  all := ⟨by show ([] : List (List Bool)).length ≤ _; simp, fun s hs => by cases hs⟩
  old := fun q hq => by cases hq
  now := by show ([] : List (List Bool)).length ≤ _; simp
  pl := by show ([] : List (List (List Bool))).length ≤ _; simp
  wl := rfl
  wn := fun w hw => by cases hw
theorem un_ok {f : Fr} {p : List (List (List Bool))} {q : List (List Bool)} (h : FrOk f) (e : f.past = p ++ [q]) : FrOk (unF f p q) where
  good := h.good
  asc := h.asc
  es16 := h.es16
  all := (h.old q (by rw [e]; simp)).1
  old := fun z hz => h.old z (by rw [e]; exact List.mem_append_left _ hz)
  now := (h.old q (by rw [e]; simp)).2
  pl := by have := h.pl; rw [e, List.length_append] at this; show p.length ≤ _; omega
  wl := by have := h.wl; rw [e, List.length_append, List.length_singleton] at this; show f.ws.dropLast.length = p.length; rw [List.length_dropLast]; omega
  wn := fun w hw => h.wn w (List.dropLast_subset _ hw)
/-- take back -/
noncomputable def undoS : List Fr → Option (List Fr)
  | [] => none
  | f :: r => match f.past.getLast? with
    | some q => some (unF f f.past.dropLast q :: r)
    | none => match r with | [] => none | g :: r => some (g :: r)
theorem deeds_len : ∀ {S : List Fr}, (∀ f ∈ S, FrOk f) → S ≠ [] → (deedsS S).length + 1 = (S.map fun f => f.past.length + 1).sum
  | [], _, h => (h rfl).elim
  | [f], hk, _ => by
    have := (hk f List.mem_cons_self).wl
    show f.ws.length + 1 = f.past.length + 1 + 0
    omega
  | f :: g :: r, hk, _ => by
    have h1 := (hk f List.mem_cons_self).wl
    have ih := deeds_len (S := g :: r) (fun x hx => hk x (List.mem_cons_of_mem _ hx)) (by simp)
    show (deedsS (g :: r) ++ (sBook :: f.ws)).length + 1 = f.past.length + 1 + ((g :: r).map fun f => f.past.length + 1).sum
    rw [List.length_append, List.length_cons]
    omega
theorem jw_cons {a b : Str} {r : List Str} : jw (a :: b :: r) = a ++ Str.ofString " " ++ jw (b :: r) := by
  unfold jw
  rw [join_eqS, join_eqS]
  rfl
theorem jw_one {a : Str} : jw [a] = a := by unfold jw; rw [join_eqS]; rfl
theorem split_jw {ws : List Str} (h : ws ≠ []) (hp : ∀ p ∈ ws, (32 : Nat) ∉ p.cps.toList) : Txt.split (jw ws) (Str.ofString " ") = ws :=
  TL.split_join (s := 32) (S := []) (by decide +kernel) (by decide +kernel) h hp
noncomputable def wdsE : List Ent → List Str
  | [] => []
  | [e] => [dig e.1, stk e.2]
  | e :: f :: r => dig e.1 :: stk e.2 :: Str.ofString ";" :: wdsE (f :: r)
theorem wds_ne : ∀ {es : List Ent}, es ≠ [] → wdsE es ≠ []
  | [], h => (h rfl).elim
  | [e], _ => by simp [wdsE]
  | e :: f :: r, _ => by simp [wdsE]
theorem semi_eq : (" ; " : Str) = Str.ofString " " ++ Str.ofString ";" ++ Str.ofString " " := by decide +kernel
theorem jw_wds : ∀ {es : List Ent}, es ≠ [] → jw (wdsE es) = Txt.join (" ; " : Str) (es.map lineE)
  | [], h => (h rfl).elim
  | [e], _ => by
    show jw [dig e.1, stk e.2] = _
    rw [jw_cons, jw_one, join_eqS]
    rfl
  | e :: f :: r, _ => by
    have ih := jw_wds (es := f :: r) (by simp)
    have hw := wds_ne (es := f :: r) (by simp)
    rw [join_eqS] at ih ⊢
    show jw (dig e.1 :: stk e.2 :: Str.ofString ";" :: wdsE (f :: r)) = lineE e ++ (" ; " : Str) ++ Str.join (" ; " : Str) ((f :: r).map lineE)
    rw [← ih, jw_cons, jw_cons]
    cases q : wdsE (f :: r) with
    | nil => exact absurd q hw
    | cons a b =>
      rw [jw_cons, semi_eq]
      unfold lineE
      simp only [str_app_assoc]
theorem stk_cp {s : List Bool} {n : Nat} (h : n ≠ 46 ∧ n ≠ 120) : n ∉ (stk s).cps.toList := fun q => by
  have h2 : n ∈ s.map sg := by simpa [stk] using q
  obtain ⟨b, _, hb⟩ := List.mem_map.mp h2
  cases b <;> simp [sg] at hb <;> omega
theorem dig_cp {m n : Nat} (h : n < 48 ∨ 57 < n) : n ∉ (dig m).cps.toList := by rw [dig_tl]; exact TL.numL_free h
theorem wds_all {es : List Ent} (ok : ∀ e ∈ es, e.2 ≠ []) : ∀ p ∈ wdsE es, p ≠ Str.ofString "" ∧ (32 : Nat) ∉ p.cps.toList ∧ (10 : Nat) ∉ p.cps.toList := by
  have hd : ∀ n : Nat, dig n ≠ Str.ofString "" ∧ (32 : Nat) ∉ (dig n).cps.toList ∧ (10 : Nat) ∉ (dig n).cps.toList := fun n => ⟨fun q => by
    have := congrArg (fun x : Str => x.cps.toList) q
    simp only [dig_tl] at this
    exact TL.numL_ne n (this.trans (by decide +kernel)), dig_cp (by omega), dig_cp (by omega)⟩
  have hs : ∀ s : List Bool, s ≠ [] → stk s ≠ Str.ofString "" ∧ (32 : Nat) ∉ (stk s).cps.toList ∧ (10 : Nat) ∉ (stk s).cps.toList := fun s h => ⟨fun q => by
    rw [show Str.ofString "" = stk [] by decide +kernel] at q
    exact h (stk_inj q), stk_cp (by omega), stk_cp (by omega)⟩
  have hc : Str.ofString ";" ≠ Str.ofString "" ∧ (32 : Nat) ∉ (Str.ofString ";").cps.toList ∧ (10 : Nat) ∉ (Str.ofString ";").cps.toList := by decide +kernel
  induction es with
  | nil => intro p hp; cases hp
  | cons e r ih =>
    intro p hp
    have he := hs e.2 (ok e List.mem_cons_self)
    cases r with
    | nil =>
      simp only [wdsE, List.mem_cons, List.not_mem_nil, or_false] at hp
      rcases hp with rfl | rfl
      · exact hd _
      · exact he
    | cons f r =>
      simp only [wdsE, List.mem_cons] at hp
      rcases hp with rfl | rfl | rfl | hp
      · exact hd _
      · exact he
      · exact hc
      · exact ih (fun x hx => ok x (List.mem_cons_of_mem _ hx)) p hp
/-- a text of words: no blank, none empty, no newline -/
structure Wds (ws : List Str) : Prop where
  ne : ws ≠ []
  all : ∀ p ∈ ws, p ≠ Str.ofString "" ∧ (32 : Nat) ∉ p.cps.toList ∧ (10 : Nat) ∉ p.cps.toList
theorem Wds.split {ws : List Str} (h : Wds ws) : Txt.split (jw ws) (Str.ofString " ") = ws := split_jw h.ne fun p hp => (h.all p hp).2.1
theorem jw_cp {n : Nat} (h32 : n ≠ 32) : ∀ {ws : List Str}, (∀ p ∈ ws, n ∉ p.cps.toList) → n ∉ (jw ws).cps.toList
  | [], _ => by unfold jw; rw [join_eqS]; intro q; cases q
  | [a], h => by rw [jw_one]; exact h a List.mem_cons_self
  | a :: b :: r, h => by
    rw [jw_cons, app_cps, app_cps]
    simp only [Array.toList_append, List.mem_append, not_or]
    refine ⟨⟨h a List.mem_cons_self, ?_⟩, jw_cp h32 fun p hp => h p (List.mem_cons_of_mem _ hp)⟩
    intro q
    have e : (Str.ofString " ").cps.toList = [32] := by decide +kernel
    rw [e] at q
    simp only [List.mem_singleton] at q
    exact h32 q
theorem Wds.line {ws : List Str} (h : Wds ws) : (10 : Nat) ∉ (jw ws).cps.toList := jw_cp (by decide) fun p hp => (h.all p hp).2.2
theorem inD_str {x : Str} {ws : List Str} (h : x ∉ ws) : inD (.str x) (ws.map .str) = false := by
  unfold inD inV
  rw [List.map_map, List.any_map, List.any_eq_false]
  intro y hy q
  have e : eqV (toV (.str y)) (toV (.str x)) = (y == x) := rfl
  simp only [Function.comp_apply, e] at q
  rw [eq_of_beq q] at hy
  exact h hy
theorem Wds.empty {ws : List Str} (h : Wds ws) : inD (.str (Str.ofString "")) (ws.map .str) = false := inD_str fun q => (h.all _ q).1 rfl
theorem deeds_le : ∀ {S : List Fr}, (∀ f ∈ S, FrOk f) → (deedsS S).length ≤ S.length * 201
  | [], _ => by simp [deedsS]
  | [f], hk => by
    have h1 := (hk f List.mem_cons_self).wl
    have h2 := (hk f List.mem_cons_self).pl
    show f.ws.length ≤ _
    simp only [List.length_singleton]
    omega
  | f :: g :: r, hk => by
    have h1 := (hk f List.mem_cons_self).wl
    have h2 := (hk f List.mem_cons_self).pl
    have ih := deeds_le (S := g :: r) fun x hx => hk x (List.mem_cons_of_mem _ hx)
    show (deedsS (g :: r) ++ (sBook :: f.ws)).length ≤ _
    rw [List.length_append, List.length_cons]
    simp only [List.length_cons] at ih ⊢
    omega
theorem LedsAt.len {L B : Addr} {μ : Store} : ∀ {ys : List Addr} {S : List Fr}, LedsAt L B μ ys S → ys.length = S.length
  | [], [], _ => rfl
  | y :: ys, f :: S, ⟨_, _, h⟩ => by rw [List.length_cons, List.length_cons, h.len]
  | [], _ :: _, h => h.elim
  | _ :: _, [], h => h.elim
theorem dk_begin {L B T : Addr} {μ : Store} {a y : Addr} {r : List Addr} {S : List Fr} (h : DkAt L B T μ a y r S) {y' : Addr} (hy : μ y' = none) {es : List Ent} (ok : FrOk (bkFr es)) :
    DkAt L B T (setS (setS μ y' (.ins L (ldF B es [] []))) a (.ins T (dkF y' (y :: r).reverse (deedsS (bkFr es :: S))))) a y' (y :: r) (bkFr es :: S) ∧ Kps a [] μ (setS (setS μ y' (.ins L (ldF B es [] []))) a (.ins T (dkF y' (y :: r).reverse (deedsS (bkFr es :: S))))) := by
  have ha : y' ≠ a := fun e => by rw [e, h.at_] at hy; cases hy
  have hk : ∀ z ∈ y :: r, z ≠ y' ∧ z ≠ a := fun z hz => ⟨fun e => h.ne z hz (e ▸ hy), fun e => h.out (e ▸ hz)⟩
  refine ⟨⟨setS_same, ⟨?_, fun q => (hk y' q).1 rfl, h.led.mono fun z hz => ?_⟩, fun f hf => ?_⟩, fun b hb _ hn => ?_⟩
  · rw [setS_ne ha]; exact setS_same
  · rw [setS_ne (hk z hz).2, setS_ne (hk z hz).1]
  · rcases List.mem_cons.mp hf with rfl | hf
    · exact ok
    · exact h.ok f hf
  · rw [setS_ne hb, setS_ne (fun e : b = y' => hn (by rw [e]; exact hy))]
/-- something is done at the front ledger -/
theorem dk_front {L B T : Addr} {μ : Store} {a y : Addr} {r : List Addr} {f f' : Fr} {S : List Fr} (h : DkAt L B T μ a y r (f :: S)) (ok : FrOk f') :
    DkAt L B T (setS (setS μ y (.ins L (FLd B f'))) a (.ins T (dkF y r.reverse (deedsS (f' :: S))))) a y r (f' :: S) ∧ Kps a [y] μ (setS (setS μ y (.ins L (FLd B f'))) a (.ins T (dkF y r.reverse (deedsS (f' :: S))))) := by
  have ha : y ≠ a := fun e => h.out (e ▸ List.mem_cons_self)
  obtain ⟨h1, h2, h3⟩ := h.led
  refine ⟨⟨setS_same, ⟨?_, h2, h3.mono fun z hz => ?_⟩, fun g hg => ?_⟩, fun b hb hy hn => ?_⟩
  · rw [setS_ne ha]; exact setS_same
  · rw [setS_ne (fun e : z = a => h.out (by rw [← e]; exact List.mem_cons_of_mem _ hz)), setS_ne (fun e : z = y => h2 (by rw [← e]; exact hz))]
  · rcases List.mem_cons.mp hg with rfl | hg
    · exact ok
    · exact h.ok g (List.mem_cons_of_mem _ hg)
  · rw [setS_ne hb, setS_ne (fun e : b = y => hy (by rw [e]; exact List.mem_singleton.mpr rfl))]
theorem dk_pop {L B T : Addr} {μ : Store} {a y z : Addr} {r : List Addr} {f : Fr} {S : List Fr} (h : DkAt L B T μ a y (z :: r) (f :: S)) :
    DkAt L B T (setS μ a (.ins T (dkF z r.reverse (deedsS S)))) a z r S ∧ Kps a [] μ (setS μ a (.ins T (dkF z r.reverse (deedsS S)))) := by
  obtain ⟨h1, h2, h3⟩ := h.led
  refine ⟨⟨setS_same, h3.mono fun x hx => ?_, fun g hg => h.ok g (List.mem_cons_of_mem _ hg)⟩, fun b hb _ _ => setS_ne hb⟩
  rw [setS_ne (fun e : x = a => h.out (by rw [← e]; exact List.mem_cons_of_mem _ hx))]
/-- texts that are told -/
noncomputable def spk (ys : List Str) : Str := if ys = [] then Str.ofString "none" else jw ys
noncomputable def sumT : Option Nat → Str
  | none => Str.ofString "?"
  | some n => dig n
noncomputable def itx (i : Int) : Str := Str.ofString (toString i)
noncomputable def sumsT (f : Fr) : Str := spk (f.ss.map fun s => sumT (sumO f.es s))
noncomputable def totT (f : Fr) : Str := jw [itx (f.ss.map (loO f.es)).sum, itx (f.ss.map (hiO f.es)).sum]
noncomputable def frdT (es : List Ent) : Str := spk ((frs es W0).map fun p => dig p.1 ++ Str.ofString ">" ++ dig p.2)
theorem oJoin_txts {xs : List Str} {y : Str} {μ : Store} {P : D → Store → Prop} : oJoin (.str y) [.lst (xs.map .str)] μ P = ((xs.map (·.length)).sum + xs.length * y.length ≤ 16777216 ∧ P (.str (Txt.join y xs)) μ) := by
  unfold oJoin sqD seqL
  dsimp only
  rw [strsD_map]
  exact propext ⟨fun ⟨ys, e, h⟩ => by cases e; exact h, fun h => ⟨xs, rfl, h⟩⟩
theorem jw_sum : ∀ {ws : List Str}, ws ≠ [] → (ws.map (·.length)).sum + ws.length = (jw ws).length + 1
  | [], h => (h rfl).elim
  | [a], _ => by rw [jw_one]; simp
  | a :: b :: r, _ => by
    have ih := jw_sum (ws := b :: r) (by simp)
    have h1 : (Str.ofString " ").length = 1 := by decide +kernel
    rw [jw_cons, str_app_len, str_app_len, h1]
    simp only [List.map_cons, List.sum_cons, List.length_cons] at ih ⊢
    omega
theorem map_app1 {α β : Type} {f : α → β} {l : List α} {x : α} : (l ++ [x]).map f = l.map f ++ [f x] := by rw [List.map_append]; rfl
theorem atI_app1 {l : List D} {x : D} : atI (l ++ [x]) (-1) = some x := by
  rw [atI_last (by simp)]
  simp
theorem setS_aba {μ : Store} {a x : Addr} {A A' X : Cell} : setS (setS (setS μ a A) x X) a A' = setS (setS μ x X) a A' := by
  funext b
  unfold setS
  split
  · rfl
  · rfl
theorem dk_init {L B T : Addr} {μ : Store} {x y : Addr} (hxy : x ≠ y) (hy : μ y = none) :
    DkAt L B T (setS (setS μ y (.ins L (ldF B [] [] []))) x (.ins T (dkF y [] []))) x y [] [bkFr []] ∧ Kps x [] μ (setS (setS μ y (.ins L (ldF B [] [] []))) x (.ins T (dkF y [] []))) := by
  refine ⟨⟨setS_same, ⟨?_, by simp, trivial⟩, fun f hf => ?_⟩, fun b hb _ hn => ?_⟩
  · rw [setS_ne (Ne.symm hxy)]; exact setS_same
  · simp only [List.mem_singleton] at hf
    subst hf
    exact bk_ok Good.nil List.Pairwise.nil (by simp)
  · rw [setS_ne hb, setS_ne (fun e : b = y => hn (by rw [e]; exact hy))]
theorem tb_cases {f : Fr} {S0 : List Fr} (ok : FrOk f) :
    (deedsS (f :: S0) = [] ∧ undoS (f :: S0) = none) ∨ (∃ g r, S0 = g :: r ∧ deedsS (f :: S0) = deedsS S0 ++ [sBook] ∧ undoS (f :: S0) = some S0) ∨
    (∃ p q w, f.past = p ++ [q] ∧ deedsS (f :: S0) = deedsS (unF f p q :: S0) ++ [w] ∧ (w == sBook) = false ∧ undoS (f :: S0) = some (unF f p q :: S0)) := by
  by_cases hp : f.past = []
  · have hw : f.ws = [] := List.length_eq_zero_iff.mp (by rw [ok.wl, hp]; rfl)
    cases S0 with
    | nil =>
      refine .inl ⟨hw, ?_⟩
      unfold undoS
      dsimp only
      rw [hp]
      rfl
    | cons g r =>
      refine .inr (.inl ⟨g, r, rfl, ?_, ?_⟩)
      · show deedsS (g :: r) ++ (sBook :: f.ws) = _
        rw [hw]
      · unfold undoS
        dsimp only
        rw [hp]
        rfl
  · have e := List.dropLast_concat_getLast hp
    have hw : f.ws ≠ [] := fun q => by
      have := ok.wl
      rw [q] at this
      exact hp (List.length_eq_zero_iff.mp this.symm)
    have e2 := List.dropLast_concat_getLast hw
    refine .inr (.inr ⟨f.past.dropLast, f.past.getLast hp, f.ws.getLast hw, e.symm, ?_, ok.wn _ (List.getLast_mem hw), ?_⟩)
    · have := deeds_app (f := unF f f.past.dropLast (f.past.getLast hp)) (r := S0) (es := f.es) (p := f.past) (q := f.ss) (w := f.ws.getLast hw)
      rw [show (unF f f.past.dropLast (f.past.getLast hp)).ws = f.ws.dropLast from rfl, e2] at this
      exact this
    · unfold undoS
      dsimp only
      rw [List.getLast?_eq_some_getLast hp]
noncomputable def AlD (L B T : Addr) (a y : Addr) (r : List Addr) (f : Fr) (S : List Fr) (w : Str) (μ : Store) (Q : D → Store → Prop) : Prop :=
  (w = Str.ofString "sums" ∧ Q (.str (sumsT f)) μ) ∨ (w = Str.ofString "totals" ∧ Q (.str (totT f)) μ) ∨ (w = Str.ofString "frauds" ∧ Q (.str (frdT f.es)) μ) ∨
  (w = Str.ofString "safe" ∧ (Prg (abE f.es) (pairF f.es).1 (pairF f.es).2 (nmV f.es) → Q (.str (dig (apE f.es).length)) μ)) ∨
  (w = Str.ofString "undo" ∧ ((undoS (f :: S) = none ∧ Q (.str (Str.ofString "nothing")) μ) ∨ ∃ S', undoS (f :: S) = some S' ∧ ∀ y' r' μ', DkAt L B T μ' a y' r' S' → (∀ z ∈ y' :: r', z ∈ y :: r) → Kps a (y :: r) μ μ' → Q (.str (Str.ofString "undone")) μ'))
noncomputable def SayD (L B T : Addr) (a y : Addr) (r : List Addr) (f : Fr) (S : List Fr) (ws : List Str) (μ : Store) (Q : D → Store → Prop) : Prop :=
  (∃ w, ws = [w] ∧ AlD L B T a y r f S w μ Q) ∨
  (∃ es, ws = sBook :: wdsE es ∧ es ≠ [] ∧ Good es ∧ es.length ≤ 16 ∧ ∀ y' μ', μ y' = none → DkAt L B T μ' a y' (y :: r) (bkFr (srtE es) :: f :: S) → Kps a [] μ μ' → Q (.str (dig es.length)) μ') ∨
  (∃ e, e ∈ f.es ∧ ws = [Str.ofString "write", dig e.1] ∧ f.ss.length < 200 ∧ f.past.length < 200 ∧ ∀ μ', DkAt L B T μ' a y r (wrF f e :: S) → Kps a [y] μ μ' → Q (.str (stk e.2)) μ') ∨
  (∃ j i s, ws = [Str.ofString "notch", dig j, dig i] ∧ f.ss[j]? = some s ∧ s[i]? = some false ∧ f.past.length < 200 ∧ ∀ μ', DkAt L B T μ' a y r (ntF f j i s :: S) → Kps a [y] μ μ' → Q (.str (stk (s.set i true))) μ')
inductive Cmd where
  | book (es : List Ent)
  | write (e : Ent)
  | notch (j i : Nat)
  | sums | totals | frauds | safe | undo
noncomputable def cwd : Cmd → List Str
  | .book es => sBook :: wdsE es
  | .write e => [Str.ofString "write", dig e.1]
  | .notch j i => [Str.ofString "notch", dig j, dig i]
  | .sums => [Str.ofString "sums"]
  | .totals => [Str.ofString "totals"]
  | .frauds => [Str.ofString "frauds"]
  | .safe => [Str.ofString "safe"]
  | .undo => [Str.ofString "undo"]
noncomputable def gdB (es : List Ent) : Bool := decide (es ≠ []) && decide (es.length ≤ 16) && es.all (fun e => decide (e.1 < 10000000) && decide (e.2 ≠ []) && decide (e.2.length ≤ 1000) && decide (e.2.length = lenB es)) && decide (es.map (·.1)).Nodup && decide (es.map (·.2)).Nodup
theorem gdB_ok {es : List Ent} (h : gdB es = true) : es ≠ [] ∧ es.length ≤ 16 ∧ Good es := by
  unfold gdB at h
  simp only [Bool.and_eq_true, decide_eq_true_eq, List.all_eq_true] at h
  obtain ⟨⟨⟨⟨h1, h2⟩, h3⟩, h4⟩, h5⟩ := h
  exact ⟨h1, h2, by omega, fun e he => (h3 e he).1.1.1, fun e he => ⟨(h3 e he).1.1.2, (h3 e he).1.2⟩, h4, h5, fun e he e' he' => (h3 e he).2.trans (h3 e' he').2.symm⟩
noncomputable def doC (f : Fr) (S : List Fr) : Cmd → Option (List Fr × Str)
  | .book es => if gdB es then some (bkFr (srtE es) :: f :: S, dig es.length) else none
  | .write e => if e ∈ f.es ∧ f.ss.length < 200 ∧ f.past.length < 200 then some (wrF f e :: S, stk e.2) else none
  | .notch j i => match f.ss[j]? with
    | some s => if s[i]? = some false ∧ f.past.length < 200 then some (ntF f j i s :: S, stk (s.set i true)) else none
    | none => none
  | .sums => some (f :: S, sumsT f)
  | .totals => some (f :: S, totT f)
  | .frauds => some (f :: S, frdT f.es)
  | .safe => some (f :: S, dig (apE f.es).length)
  | .undo => match undoS (f :: S) with
    | some S' => some (S', Str.ofString "undone")
    | none => some (f :: S, Str.ofString "nothing")
theorem Kps.mono {a : Addr} {ys zs : List Addr} {μ μ' : Store} (h : Kps a ys μ μ') (hz : ∀ y ∈ ys, y ∈ zs) : Kps a zs μ μ' := fun b h1 h2 h3 => h b h1 (fun q => h2 (hz b q)) h3
theorem Kps.refl {a : Addr} {ys : List Addr} {μ : Store} : Kps a ys μ μ := fun _ _ _ _ => rfl
theorem say_of {L B T : Addr} {μ : Store} {a y : Addr} {r : List Addr} {f : Fr} {S S' : List Fr} {m : Cmd} {x : Str} {Q : D → Store → Prop} (hd : doC f S m = some (S', x)) (h : DkAt L B T μ a y r (f :: S))
    (k : ∀ y' r' μ', DkAt L B T μ' a y' r' S' → (∀ z ∈ y' :: r', z ∈ y :: r ∨ μ z = none) → Kps a (y :: r) μ μ' → Q (.str x) μ') : SayD L B T a y r f S (cwd m) μ Q := by
  have hin : ∀ z ∈ y :: r, z ∈ y :: r ∨ μ z = none := fun z hz => .inl hz
  cases m with
  | book es =>
    unfold doC at hd
    dsimp only at hd
    split at hd <;> cases hd
    rename_i hg
    obtain ⟨h1, h2, h3⟩ := gdB_ok hg
    refine .inr (.inl ⟨es, rfl, h1, h3, h2, fun y' μ' hy hD hk => k y' _ μ' hD (fun z hz => ?_) (hk.mono (by simp))⟩)
    rcases List.mem_cons.mp hz with rfl | hz
    · exact .inr hy
    · exact .inl hz
  | write e =>
    unfold doC at hd
    dsimp only at hd
    split at hd <;> cases hd
    rename_i hg
    exact .inr (.inr (.inl ⟨e, hg.1, rfl, hg.2.1, hg.2.2, fun μ' hD hk => k y r μ' hD hin (hk.mono (by simp))⟩))
  | notch j i =>
    unfold doC at hd
    dsimp only at hd
    split at hd
    · rename_i s hs
      split at hd <;> cases hd
      rename_i hg
      exact .inr (.inr (.inr ⟨j, i, s, rfl, hs, hg.1, hg.2, fun μ' hD hk => k y r μ' hD hin (hk.mono (by simp))⟩))
    · cases hd
  | sums => cases hd; exact .inl ⟨_, rfl, .inl ⟨rfl, k y r μ h hin .refl⟩⟩
  | totals => cases hd; exact .inl ⟨_, rfl, .inr (.inl ⟨rfl, k y r μ h hin .refl⟩)⟩
  | frauds => cases hd; exact .inl ⟨_, rfl, .inr (.inr (.inl ⟨rfl, k y r μ h hin .refl⟩))⟩
  | safe => cases hd; exact .inl ⟨_, rfl, .inr (.inr (.inr (.inl ⟨rfl, fun _ => k y r μ h hin .refl⟩)))⟩
  | undo =>
    unfold doC at hd
    dsimp only at hd
    split at hd
    · rename_i S2 q
      cases hd
      exact .inl ⟨_, rfl, .inr (.inr (.inr (.inr ⟨rfl, .inr ⟨_, q, fun y' r' μ' hD hz hk => k y' r' μ' hD (fun z hz2 => .inl (hz z hz2)) hk⟩⟩)))⟩
    · rename_i q
      cases hd
      exact .inl ⟨_, rfl, .inr (.inr (.inr (.inr ⟨rfl, .inl ⟨q, k y r μ h hin .refl⟩⟩)))⟩
theorem srtE_eq {a b : List Ent} (ok : Good b) (h : a.Perm b) : srtE a = srtE b := asc_eq (srtE_asc (ok.perm h).nn) (srtE_asc ok.nn) ((srtE_perm a).trans (h.trans (srtE_perm b).symm))
noncomputable def Sm8 (x : Str) : Prop := ∀ c ∈ x.cps.toList, c < 300
theorem Sm8.ok {x : Str} (h : Sm8 x) : PyData.strOk x = true := by
  unfold PyData.strOk
  rw [Array.all_eq_true']
  intro c hc
  have := h c (by simpa using hc)
  exact decide_eq_true (by omega)
theorem Sm8.app {a b : Str} (ha : Sm8 a) (hb : Sm8 b) : Sm8 (a ++ b) := by
  intro c hc
  rw [app_cps, Array.toList_append] at hc
  rcases List.mem_append.mp hc with h | h
  · exact ha c h
  · exact hb c h
theorem numL_lt300 : ∀ (n : Nat), ∀ c ∈ TL.numL n, c < 300
  | n => by
    by_cases q : n < 10
    · rw [TL.numL_lt q]
      intro c hc
      simp only [List.mem_singleton] at hc
      subst hc
      omega
    · have ih := numL_lt300 (n / 10)
      rw [TL.numL_step (by omega)]
      intro c hc
      rcases List.mem_append.mp hc with h | h
      · exact ih c h
      · simp only [List.mem_singleton] at h
        subst h
        omega
termination_by n => n
theorem sm_dig (n : Nat) : Sm8 (dig n) := by
  unfold Sm8
  rw [dig_tl]
  exact numL_lt300 n
theorem sm_jw : ∀ {ws : List Str}, (∀ w ∈ ws, Sm8 w) → Sm8 (jw ws)
  | [], _ => by unfold jw; rw [join_eqS]; intro c hc; cases hc
  | [a], h => by rw [jw_one]; exact h a List.mem_cons_self
  | a :: b :: r, h => by
    rw [jw_cons]
    have h32 : Sm8 (Str.ofString " ") := by unfold Sm8; decide +kernel
    exact ((h a List.mem_cons_self).app h32).app (sm_jw fun w hw => h w (List.mem_cons_of_mem _ hw))
theorem sm_spk {ws : List Str} (h : ∀ w ∈ ws, Sm8 w) : Sm8 (spk ws) := by
  unfold spk
  split
  · unfold Sm8; decide +kernel
  · exact sm_jw h
theorem txts_at {xs : List Str} (h : ∀ x ∈ xs, PyData.strOk x = true) : xs.map D.str = (xs.attach.map fun x => (⟨x.1, h x.1 x.2⟩ : {s : Str // PyData.strOk s = true})).map eTxt.enc := by
  rw [List.map_map]
  conv => lhs; rw [← List.attach_map_subtype_val xs, List.map_map]
  rfl
theorem oNe_nilT {xs : List Str} (h : ∀ x ∈ xs, PyData.strOk x = true) {μ : Store} {P : D → Store → Prop} : oNe (.lst (xs.map .str)) (.lst []) μ P = P (.bl (!decide (xs = []))) μ := by
  have := oNe_enc (eLst eTxt) (by decide) (xs.attach.map fun x => (⟨x.1, h x.1 x.2⟩ : {s : Str // PyData.strOk s = true})) [] rfl μ P (fun _ _ q => nomatch q)
  rw [txts_at h]
  refine this.trans ?_
  congr 3
  refine decide_eq_decide.mpr ⟨fun e => ?_, fun e => by subst e; rfl⟩
  have := congrArg List.length e
  rw [List.length_map, List.length_attach] at this
  exact List.length_eq_zero_iff.mp this
theorem oNe_txts {xs : List Str} (h : ∀ x ∈ xs, PyData.strOk x = true) {μ : Store} {P : D → Store → Prop} : oNe (.lst (xs.map .str)) (.lst (xs.map .str)) μ P = P (.bl false) μ := by
  have := oNe_enc (eLst eTxt) (by decide) (xs.attach.map fun x => (⟨x.1, h x.1 x.2⟩ : {s : Str // PyData.strOk s = true})) (xs.attach.map fun x => (⟨x.1, h x.1 x.2⟩ : {s : Str // PyData.strOk s = true})) rfl μ P (fun _ _ q => nomatch q)
  rw [txts_at h]
  rw [decide_eq_true rfl] at this
  exact this
noncomputable def frdL (es : List Ent) : List Str := (frs es W0).map fun p => dig p.1 ++ Str.ofString ">" ++ dig p.2
theorem frdL_ok {es : List Ent} (ok : Good es) : ∀ x ∈ frdL es, Sm8 x ∧ x.length ≤ 15 := by
  intro x hx
  obtain ⟨p, hp, rfl⟩ := List.mem_map.mp hx
  obtain ⟨a, ha, b, hb, _, _, rfl⟩ := frs_mem.mp hp
  have h1 := dig_len (ok.num a ha)
  have h2 := dig_len (ok.num b hb)
  have e1 : (Str.ofString ">").length = 1 := by decide +kernel
  refine ⟨((sm_dig _).app (by unfold Sm8; decide +kernel)).app (sm_dig _), ?_⟩
  rw [str_app_len, str_app_len]
  dsimp only
  omega
theorem sum_len {ws : List Str} {n : Nat} (h : ∀ w ∈ ws, w.length ≤ n) : (ws.map (·.length)).sum ≤ ws.length * n := by
  induction ws with
  | nil => simp
  | cons a r ih =>
    have := h a List.mem_cons_self
    have := ih fun w hw => h w (List.mem_cons_of_mem _ hw)
    rw [List.map_cons, List.sum_cons, List.length_cons, Nat.add_mul]
    omega
noncomputable def sumsW (es : List Ent) (ss : List (List Bool)) : List Str := ss.map fun s => sumT (sumO es s)
noncomputable def totW (es : List Ent) (ss : List (List Bool)) : List Str := [itx (ss.map (loO es)).sum, itx (ss.map (hiO es)).sum]
noncomputable def nearW (es : List Ent) (n : Nat) : List Nat := ((frs es W0).filter fun p => decide (p.2 = n)).map (·.1) ++ ((frs es W0).filter fun p => decide (p.1 = n)).map (·.2)
noncomputable def lotsW (es : List Ent) : List Ent → List (List Nat)
  | [] => [[]]
  | e :: r => lotsW es r ++ ((lotsW es r).filter fun l => decide ((l.filter fun a => decide (a ∈ nearW es e.1)) = [])).map (· ++ [e.1])
noncomputable def mxL : List (List Nat) → Nat
  | [] => 0
  | l :: r => max (mxL r) l.length
theorem lotsW_len (es : List Ent) : ∀ r : List Ent, (lotsW es r).length ≤ 2 ^ r.length
  | [] => Nat.le_refl _
  | e :: r => by
    have ih := lotsW_len es r
    unfold lotsW
    rw [List.length_append, List.length_map, List.length_cons, Nat.pow_succ]
    have := List.length_filter_le (fun l => decide ((l.filter fun a => decide (a ∈ nearW es e.1)) = [])) (lotsW es r)
    omega
theorem near_mem {es : List Ent} (ok : Good es) {n a : Nat} : a ∈ nearW es n ↔ n ∈ abE es a ∨ a ∈ abE es n := by
  unfold nearW
  rw [List.mem_append, List.mem_map, List.mem_map]
  constructor
  · rintro (⟨p, hp, rfl⟩ | ⟨p, hp, rfl⟩)
    · obtain ⟨h1, h2⟩ := List.mem_filter.mp hp
      have h2 := of_decide_eq_true h2
      subst h2
      exact .inl ((fr_ab ok _ _).mp h1)
    · obtain ⟨h1, h2⟩ := List.mem_filter.mp hp
      have h2 := of_decide_eq_true h2
      subst h2
      exact .inr ((fr_ab ok _ _).mp h1)
  · rintro (h | h)
    · exact .inl ⟨(a, n), List.mem_filter.mpr ⟨(fr_ab ok _ _).mpr h, decide_eq_true rfl⟩, rfl⟩
    · exact .inr ⟨(n, a), List.mem_filter.mpr ⟨(fr_ab ok _ _).mpr h, decide_eq_true rfl⟩, rfl⟩
theorem ab_irr {es : List Ent} (ok : Good es) (a : Nat) : a ∉ abE es a := fun h => by have := abE_rk ok h; omega
/-- r: the entries looked at, the last one ahead -/
theorem lotsW_sound {es : List Ent} (ok : Good es) : ∀ {r : List Ent}, (r.map (·.1)).Nodup → (∀ e ∈ r, e ∈ es) → ∀ l ∈ lotsW es r, l.Nodup ∧ (∀ a ∈ l, a ∈ r.map (·.1)) ∧ freeS es l
  | [], _, _, l, hl => by
    simp only [lotsW, List.mem_singleton] at hl
    subst hl
    exact ⟨List.nodup_nil, by simp, by intro x hx; cases hx⟩
  | e :: r, hn, hr, l, hl => by
    rw [List.map_cons, List.nodup_cons] at hn
    unfold lotsW at hl
    rcases List.mem_append.mp hl with hl | hl
    · obtain ⟨h1, h2, h3⟩ := lotsW_sound ok hn.2 (fun x hx => hr x (List.mem_cons_of_mem _ hx)) l hl
      exact ⟨h1, fun a ha => List.mem_cons_of_mem _ (h2 a ha), h3⟩
    · obtain ⟨l, hl2, rfl⟩ := List.mem_map.mp hl
      obtain ⟨hl3, hl4⟩ := List.mem_filter.mp hl2
      obtain ⟨h1, h2, h3⟩ := lotsW_sound ok hn.2 (fun x hx => hr x (List.mem_cons_of_mem _ hx)) l hl3
      have h4 := List.filter_eq_nil_iff.mp (of_decide_eq_true hl4)
      have h5 : ∀ a ∈ l, e.1 ∉ abE es a ∧ a ∉ abE es e.1 := fun a ha => by
        have := h4 a ha
        rw [decide_eq_true_eq, near_mem ok, not_or] at this
        exact this
      refine ⟨?_, ?_, ?_⟩
      · refine List.nodup_append.mpr ⟨h1, by simp, fun a ha b hb => ?_⟩
        simp only [List.mem_singleton] at hb
        subst hb
        rintro rfl
        exact hn.1 (h2 _ ha)
      · intro a ha
        rcases List.mem_append.mp ha with h | h
        · exact List.mem_cons_of_mem _ (h2 a h)
        · simp only [List.mem_singleton] at h
          rw [h]
          exact List.mem_cons_self
      · intro x hx y hy
        rcases List.mem_append.mp hx with hx | hx <;> rcases List.mem_append.mp hy with hy | hy
        · exact h3 x hx y hy
        · simp only [List.mem_singleton] at hy; subst hy; exact (h5 x hx).1
        · simp only [List.mem_singleton] at hx; subst hx; exact (h5 y hy).2
        · simp only [List.mem_singleton] at hx hy; subst hx; subst hy; exact ab_irr ok _
theorem lotsW_all {es : List Ent} (ok : Good es) : ∀ {r : List Ent} {l : List Nat}, l.Sublist (r.reverse.map (·.1)) → freeS es l → l ∈ lotsW es r
  | [], l, h, _ => by
    have : l = [] := by simpa using h
    subst this
    exact List.mem_singleton.mpr rfl
  | e :: r, l, h, hf => by
    rw [List.reverse_cons, List.map_append] at h
    obtain ⟨l1, l2, rfl, h1, h2⟩ := List.sublist_append_iff.mp h
    have hf1 : freeS es l1 := fun x hx y hy => hf x (List.mem_append_left _ hx) y (List.mem_append_left _ hy)
    have ih := lotsW_all ok h1 hf1
    unfold lotsW
    have h2' : l2 = [] ∨ l2 = [e.1] := by
      have h3 := List.sublist_cons_iff.mp h2
      rcases h3 with h3 | ⟨r3, rfl, h3⟩
      · exact .inl (by simpa using h3)
      · right
        have : r3 = [] := by simpa using h3
        rw [this]
    rcases h2' with rfl | rfl
    · rw [List.append_nil]; exact List.mem_append_left _ ih
    · refine List.mem_append_right _ (List.mem_map.mpr ⟨l1, List.mem_filter.mpr ⟨ih, decide_eq_true (List.filter_eq_nil_iff.mpr fun a ha q => ?_)⟩, rfl⟩)
      rw [decide_eq_true_eq, near_mem ok] at q
      rcases q with q | q
      · exact hf a (List.mem_append_left _ ha) e.1 (by simp) q
      · exact hf e.1 (by simp) a (List.mem_append_left _ ha) q
theorem mxL_ge : ∀ {L : List (List Nat)} {l : List Nat}, l ∈ L → l.length ≤ mxL L
  | a :: r, l, h => by
    unfold mxL
    rcases List.mem_cons.mp h with rfl | h
    · omega
    · have := mxL_ge h; omega
theorem mxL_le : ∀ {L : List (List Nat)} {n : Nat}, (∀ l ∈ L, l.length ≤ n) → mxL L ≤ n
  | [], _, _ => Nat.zero_le _
  | a :: r, n, h => by
    unfold mxL
    have := h a List.mem_cons_self
    have := mxL_le fun l hl => h l (List.mem_cons_of_mem _ hl)
    omega
theorem lots_ap {es : List Ent} (ok : Good es) (h16 : es.length ≤ 16) (P : Prg (abE es) (pairF es).1 (pairF es).2 (nmV es)) : mxL (lotsW es es.reverse) = (apE es).length := by
  refine Nat.le_antisymm (mxL_le fun l hl => ?_) (mxL_ge ?_)
  · obtain ⟨h1, h2, h3⟩ := lotsW_sound ok (by rw [List.map_reverse]; exact (List.reverse_perm _).nodup_iff.mpr ok.nn) (fun e he => List.mem_reverse.mp he) l hl
    exact lot_le ok h16 P h1 (fun x hx => by have := h2 x hx; rw [List.map_reverse] at this; exact List.mem_reverse.mp this) h3
  · refine lotsW_all ok ?_ (apE_freeS ok h16 P)
    rw [List.reverse_reverse]
    exact apE_sub
theorem itx_ok {i : Int} (h0 : 0 ≤ i) (h : i < 1000000000000000000) : (itx i).length ≤ 18 ∧ Sm8 (itx i) := by
  obtain ⟨n, rfl⟩ := Int.eq_ofNat_of_zero_le h0
  show (dig n).length ≤ 18 ∧ Sm8 (dig n)
  refine ⟨?_, sm_dig n⟩
  rw [str_ln, dig_tl]
  exact TL.numL_len (k := 18) (by decide) (by omega)
noncomputable def lotD (l : List Nat) : D := .lst (l.map eNat.enc)
noncomputable def freS (ss : List (List Bool)) : List Nat := (List.range ss.length).filter fun j => decide (false ∈ ss.getD j [])
theorem fre_mem {ss : List (List Bool)} {j : Nat} (h : j ∈ freS ss) : ∃ s, ss[j]? = some s ∧ plI s ≠ [] := by
  obtain ⟨h1, h2⟩ := List.mem_filter.mp h
  rw [List.mem_range] at h1
  have h3 : false ∈ ss[j] := by have := of_decide_eq_true h2; rw [List.getD_eq_getElem?_getD, List.getElem?_eq_getElem h1] at this; exact this
  obtain ⟨i, hi, he⟩ := List.getElem_of_mem h3
  refine ⟨ss[j], List.getElem?_eq_getElem h1, fun q => ?_⟩
  have : i ∈ plI ss[j] := plI_iff.mpr (by rw [List.getElem?_eq_getElem hi, he])
  rw [q] at this
  cases this
noncomputable abbrev St := List Ent × List (List Bool)
noncomputable def stD (s : St) : D := .tup [.lst (s.1.map entD), skD s.2]
noncomputable def hist : List Fr → List St
  | [] => []
  | f :: S => hist S ++ (f.past.map fun q => (f.es, q)) ++ [(f.es, f.ss)]
theorem hist_wr {f : Fr} {e : Ent} {S : List Fr} : hist (wrF f e :: S) = hist (f :: S) ++ [(f.es, f.ss ++ [e.2])] := by
  show hist S ++ ((f.past ++ [f.ss]).map fun q => (f.es, q)) ++ [(f.es, f.ss ++ [e.2])] = hist S ++ (f.past.map fun q => (f.es, q)) ++ [(f.es, f.ss)] ++ [(f.es, f.ss ++ [e.2])]
  rw [List.map_append]
  simp
theorem hist_nt {f : Fr} {j i : Nat} {s : List Bool} {S : List Fr} : hist (ntF f j i s :: S) = hist (f :: S) ++ [(f.es, f.ss.set j (s.set i true))] := by
  show hist S ++ ((f.past ++ [f.ss]).map fun q => (f.es, q)) ++ [(f.es, f.ss.set j (s.set i true))] = hist S ++ (f.past.map fun q => (f.es, q)) ++ [(f.es, f.ss)] ++ [(f.es, f.ss.set j (s.set i true))]
  rw [List.map_append]
  simp
theorem hist_bk {es : List Ent} {S : List Fr} : hist (bkFr es :: S) = hist S ++ [(es, [])] := by
  show hist S ++ ([] : List St) ++ [(es, [])] = _
  simp
theorem hist_len : ∀ S : List Fr, (hist S).length = (S.map fun f => f.past.length + 1).sum
  | [] => rfl
  | f :: S => by
    show (hist S ++ (f.past.map fun q => (f.es, q)) ++ [(f.es, f.ss)]).length = _
    rw [List.length_append, List.length_append, List.length_map, hist_len S, List.map_cons, List.sum_cons, List.length_singleton]
    omega
theorem hist_ge : ∀ S : List Fr, S.length ≤ (hist S).length
  | [] => Nat.le_refl _
  | f :: S => by
    have := hist_ge S
    show S.length + 1 ≤ (hist S ++ (f.past.map fun q => (f.es, q)) ++ [(f.es, f.ss)]).length
    rw [List.length_append, List.length_append, List.length_singleton]
    omega
theorem undo_hist {f : Fr} {S : List Fr} : (undoS (f :: S) = none ∧ (hist (f :: S)).length = 1) ∨ ∃ S', undoS (f :: S) = some S' ∧ hist (f :: S) = hist S' ++ [(f.es, f.ss)] ∧ hist S' ≠ [] := by
  unfold undoS
  dsimp only
  cases q : f.past.getLast? with
  | some x =>
    right
    have hp : f.past ≠ [] := fun e => by rw [e] at q; cases q
    have e := List.dropLast_concat_getLast hp
    rw [List.getLast?_eq_some_getLast hp] at q
    cases q
    refine ⟨_, rfl, ?_, ?_⟩
    · show hist S ++ (f.past.map fun q => (f.es, q)) ++ [(f.es, f.ss)] = hist S ++ (f.past.dropLast.map fun q => (f.es, q)) ++ [(f.es, f.past.getLast hp)] ++ [(f.es, f.ss)]
      conv => lhs; rw [← e]
      rw [List.map_append]
      simp
    · show hist S ++ (f.past.dropLast.map fun q => (f.es, q)) ++ [(f.es, f.past.getLast hp)] ≠ []
      simp
  | none =>
    have hp : f.past = [] := List.getLast?_eq_none_iff.mp q
    dsimp only
    cases S with
    | nil =>
      left
      refine ⟨rfl, ?_⟩
      show (([] : List St) ++ (f.past.map fun q => (f.es, q)) ++ [(f.es, f.ss)]).length = 1
      rw [hp]; rfl
    | cons g r =>
      right
      refine ⟨_, rfl, ?_, ?_⟩
      · show hist (g :: r) ++ (f.past.map fun q => (f.es, q)) ++ [(f.es, f.ss)] = _
        rw [hp]; simp
      · show hist r ++ (g.past.map fun q => (g.es, q)) ++ [(g.es, g.ss)] ≠ []
        simp
structure TI (L B T : Addr) (μ : Store) (p a q y : Addr) (r : List Addr) (S : List Fr) (n : Nat) : Prop where
  bx : BxAt μ p
  dk : DkAt L B T μ a y r S
  st : μ q = some (.lst ((hist S).map stD))
  ln : (hist S).length ≤ n + 1
  ok : ∀ s ∈ hist S, s.2.length ≤ n ∧ s.1.length ≤ 8 ∧ lenB s.1 ≤ 5
theorem lst_out {L B T : Addr} {μ : Store} {a y b : Addr} {r : List Addr} {S : List Fr} {xs : List D} (h : DkAt L B T μ a y r S) (hb : μ b = some (.lst xs)) : b ≠ a ∧ b ∉ y :: r := by
  refine ⟨fun e => ?_, fun e => ?_⟩
  · rw [e, h.at_] at hb; cases hb
  · obtain ⟨f, hf⟩ := h.led.some b e
    rw [hf] at hb; cases hb
theorem told {L B T : Addr} {μ : Store} {p a q y : Addr} {r : List Addr} {f : Fr} {S S' : List Fr} {n : Nat} {m : Cmd} {x : Str} {Q : D → Store → Prop} (hd : doC f S m = some (S', x)) (bx : BxAt μ p) (dk : DkAt L B T μ a y r (f :: S))
    (st : μ q = some (.lst ((hist S').map stD))) (hl : (hist S').length ≤ n + 1) (ok : ∀ s ∈ hist S', s.2.length ≤ n ∧ s.1.length ≤ 8 ∧ lenB s.1 ≤ 5) (k : ∀ y' r' μ', TI L B T μ' p a q y' r' S' n → Q (.str x) μ') : SayD L B T a y r f S (cwd m) μ Q :=
  say_of hd dk fun y' r' μ' hD hz hk => by
    obtain ⟨d, hp, hd⟩ := bx
    have h1 := lst_out dk hp
    have h2 := lst_out dk st
    exact k y' r' μ' ⟨⟨d, by rw [hk p h1.1 h1.2 (by rw [hp]; simp)]; exact hp, hd⟩, hD, by rw [hk q h2.1 h2.2 (by rw [st]; simp)]; exact st, hl, ok⟩
theorem Good.gdB {es : List Ent} (h : Good es) (h0 : es ≠ []) (h16 : es.length ≤ 16) : gdB es = true := by
  unfold Lw.gdB
  simp only [Bool.and_eq_true, decide_eq_true_eq, List.all_eq_true]
  exact ⟨⟨⟨⟨h0, h16⟩, fun e he => ⟨⟨⟨h.num e he, (h.st e he).1⟩, (h.st e he).2⟩, len_mem h he⟩⟩, h.nn⟩, h.ns⟩
theorem jw_le {ws : List Str} {n k : Nat} (h0 : ws ≠ []) (h : ∀ w ∈ ws, w.length ≤ n) (hk : ws.length ≤ k) : (jw ws).length ≤ k * (n + 1) := by
  have h1 := jw_sum h0
  have h2 := sum_len h
  have h3 : ws.length * n ≤ k * n := Nat.mul_le_mul_right _ hk
  rw [Nat.mul_add, Nat.mul_one]
  omega
theorem wdsE_sz {es : List Ent} (ok : Good es) : ∀ w ∈ wdsE es, w.length ≤ 1000 := by
  have h : ∀ l : List Ent, (∀ e ∈ l, e ∈ es) → ∀ w ∈ wdsE l, w.length ≤ 1000 := by
    intro l
    induction l with
    | nil => intro _ w hw; cases hw
    | cons e r ih =>
      intro hm w hw
      have h1 := dig_len (ok.num e (hm e List.mem_cons_self))
      have h2 := (ok.st e (hm e List.mem_cons_self)).2
      have h3 : (stk e.2).length ≤ 1000 := by rw [stk_len]; exact h2
      have h4 : (Str.ofString ";").length = 1 := by decide +kernel
      cases r with
      | nil =>
        simp only [wdsE, List.mem_cons, List.not_mem_nil, or_false] at hw
        rcases hw with rfl | rfl <;> omega
      | cons f r =>
        simp only [wdsE, List.mem_cons] at hw
        rcases hw with rfl | rfl | rfl | hw
        · omega
        · omega
        · omega
        · exact ih (fun x hx => hm x (List.mem_cons_of_mem _ hx)) w hw
  exact h es fun _ h => h
theorem wdsE_len : ∀ es : List Ent, (wdsE es).length ≤ 3 * es.length
  | [] => Nat.zero_le _
  | [e] => by simp [wdsE]
  | e :: f :: r => by
    have := wdsE_len (f :: r)
    simp only [wdsE, List.length_cons] at this ⊢
    omega
theorem wd_book {es : List Ent} (ok : Good es) (h0 : es ≠ []) (h16 : es.length ≤ 16) : Wds (cwd (.book es)) ∧ (jw (cwd (.book es))).length ≤ 100000 := by
  refine ⟨⟨by simp [cwd], fun p hp => ?_⟩, Nat.le_trans (jw_le (n := 1000) (k := 49) (by simp [cwd]) (fun w hw => ?_) ?_) (by decide)⟩
  · rcases List.mem_cons.mp hp with rfl | hp
    · unfold sBook; decide +kernel
    · exact wds_all (fun e he => (ok.st e he).1) p hp
  · rcases List.mem_cons.mp hw with rfl | hp
    · unfold sBook; decide +kernel
    · exact wdsE_sz ok w hp
  · have := wdsE_len es
    show (wdsE es).length + 1 ≤ 49
    omega
theorem dig_wd (n : Nat) : dig n ≠ Str.ofString "" ∧ (32 : Nat) ∉ (dig n).cps.toList ∧ (10 : Nat) ∉ (dig n).cps.toList := ⟨fun q => by
  have := congrArg (fun x : Str => x.cps.toList) q
  simp only [dig_tl] at this
  exact TL.numL_ne n (this.trans (by decide +kernel)), dig_cp (by omega), dig_cp (by omega)⟩
theorem wd_write {e : Ent} (h : e.1 < 10000000) : Wds (cwd (.write e)) ∧ (jw (cwd (.write e))).length ≤ 100000 ∧ Str.ofString "write " ++ dig e.1 = jw (cwd (.write e)) := by
  refine ⟨⟨by simp [cwd], fun p hp => ?_⟩, ?_, ?_⟩
  · simp only [cwd, List.mem_cons, List.not_mem_nil, or_false] at hp
    rcases hp with rfl | rfl
    · decide +kernel
    · exact dig_wd _
  · have := dig_len h
    have e1 : (Str.ofString "write").length = 5 := by decide +kernel
    refine Nat.le_trans (jw_le (n := 10) (k := 2) (by simp [cwd]) (fun w hw => ?_) (by simp [cwd])) (by decide)
    simp only [cwd, List.mem_cons, List.not_mem_nil, or_false] at hw
    rcases hw with rfl | rfl <;> omega
  · show _ = jw [Str.ofString "write", dig e.1]
    rw [jw_cons, jw_one, show Str.ofString "write " = Str.ofString "write" ++ Str.ofString " " by decide +kernel]
theorem wd_notch {j i : Nat} (hj : j < 10000000) (hi : i < 10000000) : Wds (cwd (.notch j i)) ∧ (jw (cwd (.notch j i))).length ≤ 100000 ∧ Str.ofString "notch " ++ dig j ++ Str.ofString " " ++ dig i = jw (cwd (.notch j i)) := by
  refine ⟨⟨by simp [cwd], fun p hp => ?_⟩, ?_, ?_⟩
  · simp only [cwd, List.mem_cons, List.not_mem_nil, or_false] at hp
    rcases hp with rfl | rfl | rfl
    · decide +kernel
    · exact dig_wd _
    · exact dig_wd _
  · have := dig_len hj
    have := dig_len hi
    have e1 : (Str.ofString "notch").length = 5 := by decide +kernel
    refine Nat.le_trans (jw_le (n := 10) (k := 3) (by simp [cwd]) (fun w hw => ?_) (by simp [cwd])) (by decide)
    simp only [cwd, List.mem_cons, List.not_mem_nil, or_false] at hw
    rcases hw with rfl | rfl | rfl <;> omega
  · show _ = jw [Str.ofString "notch", dig j, dig i]
    rw [jw_cons, jw_cons, jw_one, show Str.ofString "notch " = Str.ofString "notch" ++ Str.ofString " " by decide +kernel]
    simp only [str_app_assoc]
theorem bk_text {es : List Ent} (h0 : es ≠ []) : Str.ofString "book " ++ Txt.replace (txtE es) (Str.ofString "\n") (Str.ofString " ; ") = jw (cwd (.book es)) := by
  have h1 : Txt.replace (txtE es) (Str.ofString "\n") (Str.ofString " ; ") = jw (wdsE es) := by
    rw [jw_wds h0]
    refine repl_line (by simpa using h0) fun p hp => ?_
    obtain ⟨e, he, rfl⟩ := List.mem_map.mp hp
    unfold lineE
    rw [app_cps, app_cps]
    simp only [Array.toList_append, List.mem_append, not_or]
    exact ⟨⟨dig_cp (by omega), by decide +kernel⟩, stk_cp (by omega)⟩
  rw [h1]
  show _ = jw (sBook :: wdsE es)
  cases q : wdsE es with
  | nil => exact absurd q (wds_ne h0)
  | cons a b => rw [jw_cons, show Str.ofString "book " = sBook ++ Str.ofString " " by unfold sBook; decide +kernel]
noncomputable def sp_is_integer (c : Cs) : DSp := fun ds μ Q => ∃ n : Int, ds = [.int n] ∧ Q (.bl true) μ
theorem len_is_integer (c : Cs) : ∀ ds μ Q, sp_is_integer c ds μ Q → ds.length = 1 := by
  rintro ds μ Q ⟨n, rfl, _⟩
  rfl
noncomputable def w_is_integer (K : PySem.W.Frag) (c : Cs) : WS := wRet (wAndV (wCB oIsi (wACons (wVar 0) (wACons (wC (.ty "int")) (wANil)))) (wNotV (wCB oIsi (wACons (wVar 0) (wACons (wC (.ty "bool")) (wANil))))))
section
variable {P : Program} {w : World} {K : PySem.W.Frag} {mg : Str → Option Value} {base : Heap} {c : Cs}
theorem dv_is_integer (T : Txt K mg c) {f : Addr} (cdv : Value) (A : Around) (outer : List PySem.Env) (s : Shared) (H : Hp) (E : XK) (hr : Room 0 (A.deeper (PyProof.Rows.envOfC "is_integer" (defScope s_is_integer) s.heap.objs.size f cdv))) : DSs (cxOf CX0 P w K mg base N_is_integer "is_integer" (defScope s_is_integer) f cdv A outer s H E).nox (defBody s_is_integer) (w_is_integer K c) := by
  have ND := sc_is_integer.nd
  have hu := hu_of hr
  have hu64 := hr.units
  have hu65 := units65 hr
  exact dss_one (ds_ret (de_and (de_callB cs_isi rfl T.b_isinstance (by decide +kernel) (da_cons (de_var (pv 0)) (da_cons (de_ty (n := "int") rfl T.b_int (by decide +kernel)) (da_nil)))) (de_one (de_not (de_callB cs_isi rfl T.b_isinstance (by decide +kernel) (da_cons (de_var (pv 0)) (da_cons (de_ty (n := "bool") rfl T.b_bool (by decide +kernel)) (da_nil))))))))
theorem rd_is_integer (K : PySem.W.Frag) (c : Cs) : ∀ ds μ Q, sp_is_integer c ds μ Q → w_is_integer K c { nx := fun _ μ' => ∃ μ2, Sub μ2 μ' ∧ Q .non μ2, rt := Q } (startD N_is_integer ds) μ := by
  rintro ds μ Q ⟨n, rfl, k⟩
  show w_is_integer K c _ [some (.int n)] μ
  unfold w_is_integer
  walk_at "dx"
  have e1 : isTy "int" "int" = true := by decide
  have e2 : isTy "int" "bool" = false := by decide
  first
    | (refine ⟨by simp, ?_⟩; simp only [e1]; refine ⟨by simp, ?_⟩; simp only [e2]; exact ret_eq k)
    | (simp; exact ret_eq k)
theorem cal_is_integer (T : Txt K mg c) : DCal P w K mg base 1 "is_integer" (sp_is_integer c) [] := T.f_is_integer.cal (ps := ["value"]) sc_is_integer (len_is_integer c) (fun cdv A outer s H E hr => dv_is_integer T cdv A outer s H E hr) (rd_is_integer K c) fun _ _ _ _ _ _ us hl => match us, hl with | [_], _ => rfl
end
noncomputable def sp_is_stick (c : Cs) : DSp := fun ds μ Q => ∃ bs : List Bool, ds = [.str (stk bs)] ∧ bs ≠ [] ∧ bs.length ≤ 100000 ∧ Q (.bl true) μ
theorem len_is_stick (c : Cs) : ∀ ds μ Q, sp_is_stick c ds μ Q → ds.length = 1 := by
  rintro ds μ Q ⟨bs, rfl, _⟩
  rfl
noncomputable def w_is_stick (K : PySem.W.Frag) (c : Cs) : WS := wRet (wAndV (wCB oIsi (wACons (wVar 0) (wACons (wC (.ty "str")) (wANil)))) (wAndV (wOp oGt (wCB oLen (wACons (wVar 0) (wANil))) (wC (.int 0))) (wCB oAll (wACons (wLc (wiSeq (wVar 0)) (wgName 1) (wYes) (wOp oIn (wVar 1) (wTup (wACons (wC (.str ".")) (wACons (wC (.str "x")) (wANil))))) [1]) (wANil)))))
section
variable {P : Program} {w : World} {K : PySem.W.Frag} {mg : Str → Option Value} {base : Heap} {c : Cs}
theorem dv_is_stick (T : Txt K mg c) {f : Addr} (cdv : Value) (A : Around) (outer : List PySem.Env) (s : Shared) (H : Hp) (E : XK) (hr : Room 0 (A.deeper (PyProof.Rows.envOfC "is_stick" (defScope s_is_stick) s.heap.objs.size f cdv))) : DSs (cxOf CX0 P w K mg base N_is_stick "is_stick" (defScope s_is_stick) f cdv A outer s H E).nox (defBody s_is_stick) (w_is_stick K c) := by
  have ND := sc_is_stick.nd
  have hu := hu_of hr
  have hu64 := hr.units
  have hu65 := units65 hr
  exact dss_one (ds_ret (de_and (de_callB cs_isi rfl T.b_isinstance (by decide +kernel) (da_cons (de_var (pv 0)) (da_cons (de_ty (n := "str") rfl T.b_str (by decide +kernel)) (da_nil)))) (de_and (de_cmp os_gt (de_callB cs_len rfl T.b_len (by decide +kernel) (da_cons (de_var (pv 0)) (da_nil))) (de_int) (nomark _)) (de_one (de_callB (cs_all rfl) rfl T.b_all (by decide +kernel) (da_cons (de_lc (own := [("sign", 1)]) (g := gName 1) rfl ND (di_seq (de_var (pv 0))) (blkOk_by (own := [("sign", 1)]) (N := N_is_stick) (sc := defScope s_is_stick) (by decide +kernel)) (gp_name (by decide)) (fun _ _ _ _ _ => pg_name (i := 1) ND rfl (by first | exact Or.inl rfl | exact Or.inr rfl)) (fun _ _ _ _ _ => dts_nil) (fun _ _ _ _ _ => de_cmp os_in (de_var (pv 1)) (de_tup (da_cons (de_gs T.c_PLAIN) (da_cons (de_gs T.c_NOTCHED) (da_nil)))) (by rfl))) (da_nil)))))))
theorem rd_is_stick (K : PySem.W.Frag) (c : Cs) : ∀ ds μ Q, sp_is_stick c ds μ Q → w_is_stick K c { nx := fun _ μ' => ∃ μ2, Sub μ2 μ' ∧ Q .non μ2, rt := Q } (startD N_is_stick ds) μ := by
  rintro ds μ Q ⟨bs, rfl, hne, hz, q⟩
  show w_is_stick K c _ [some (.str (stk bs)), none] μ
  have hl : 0 < bs.length := List.length_pos_iff.mpr hne
  unfold w_is_stick
  walk_at "dx"
  simp only [stk_nil, stk_p, stk_x, stk_len, chars_stk]
  have e : decide ((0 : Int) < (bs.length : Int)) = true := by simp; omega
  have hz2 : (bs.map fun b => D.str (stk [b])).length ≤ sizeLine := by rw [List.length_map]; exact le_line (by omega)
  have hz3 : bs.length ≤ sizeLine := le_line (by omega)
  rw [e]
  refine ⟨by decide, hz3, lc_map (fun _ => .bl true) hz2 ?_ ?_⟩
  · intro i d μ' R hd _ hR
    rw [List.getElem?_map] at hd
    cases h : bs[i]? with
    | none => rw [h] at hd; cases hd
    | some b =>
      rw [h] at hd
      cases hd
      walk_at "dx"
      exact ⟨le_line (Nat.le_of_ble_eq_true rfl), rfl, rfl, by rw [in_px b]; exact hR⟩
  · intro L hL
    rw [delS_setS hL]
    have e2 : (some (bs.map fun b => D.str (stk [b])) |>.map (fun l => l.map fun _ => D.bl true)).bind blsD = some (bs.map fun _ => true) := by
      have h := blsD_map (bs.map fun _ => true)
      rw [List.map_map] at h
      show blsD (((bs.map fun b => D.str (stk [b])).map fun _ => D.bl true)) = _
      rw [List.map_map]
      exact h
    have e3 : ((bs.map fun _ => true).all id) = true := by simp
    show match (some ((bs.map fun b => D.str (stk [b])).map fun _ => D.bl true)).bind blsD with | some ns => _ | none => False
    rw [show (some ((bs.map fun b => D.str (stk [b])).map fun _ => D.bl true)).bind blsD = some (bs.map fun _ => true) from e2]
    show ∃ d' μ', Fz (D.bl ((bs.map fun _ => true).all id)) μ d' μ' ∧ Q d' μ'
    rw [e3]
    exact ret_eq q
theorem cal_is_stick (T : Txt K mg c) : DCal P w K mg base 1 "is_stick" (sp_is_stick c) [] := T.f_is_stick.cal (ps := ["value"]) sc_is_stick (len_is_stick c) (fun cdv A outer s H E hr => dv_is_stick T cdv A outer s H E hr) (rd_is_stick K c) fun _ _ _ _ _ _ us hl => match us, hl with | [_], _ => rfl
end
noncomputable def sp_is_entry (c : Cs) : DSp := fun ds μ Q => ∃ e : Ent, ds = [entD e] ∧ e.2 ≠ [] ∧ e.2.length ≤ 1000 ∧ Q (.bl true) μ
theorem len_is_entry (c : Cs) : ∀ ds μ Q, sp_is_entry c ds μ Q → ds.length = 1 := by
  rintro ds μ Q ⟨e, rfl, _⟩
  rfl
noncomputable def w_is_entry_t1 (K : PySem.W.Frag) (c : Cs) : WS := wRet (wAndV (wCall (sp_is_integer c) [] (wACons (wIx (wVar 0) (wC (.int 0))) (wANil))) (wAndV (wOp oGe (wIx (wVar 0) (wC (.int 0))) (wC (.int 0))) (wCall (sp_is_stick c) [] (wACons (wIx (wVar 0) (wC (.int 1))) (wANil)))))
noncomputable def w_is_entry (K : PySem.W.Frag) (c : Cs) : WS := wSeq (wIfS (wOr (wNt (wTrv (wCB oIsi (wACons (wVar 0) (wACons (wC (.ty "tuple")) (wANil)))))) (wB (wOp oNe (wCB oLen (wACons (wVar 0) (wANil))) (wC (.int 2))))) (wRet (wC (.bl false))) (wNext)) (w_is_entry_t1 K c)
section
variable {P : Program} {w : World} {K : PySem.W.Frag} {mg : Str → Option Value} {base : Heap} {c : Cs}
theorem dv_is_entry (T : Txt K mg c) {f : Addr} (cdv : Value) (A : Around) (outer : List PySem.Env) (s : Shared) (H : Hp) (E : XK) (hr : Room 1 (A.deeper (PyProof.Rows.envOfC "is_entry" (defScope s_is_entry) s.heap.objs.size f cdv))) : DSs (cxOf CX0 P w K mg base N_is_entry "is_entry" (defScope s_is_entry) f cdv A outer s H E).nox (defBody s_is_entry) (w_is_entry K c) := by
  have ND := sc_is_entry.nd
  have hu := hu_of hr
  have hu64 := hr.units
  have hu65 := units65 hr
  exact dss_cons (ds_if (dt_w (dw_or (dt_not (dt_tru (de_callB cs_isi rfl T.b_isinstance (by decide +kernel) (da_cons (de_var (pv 0)) (da_cons (de_ty (n := "tuple") rfl T.b_tuple (by decide +kernel)) (da_nil)))) (fun _ => rfl))) (dw_or1 (dt_cmp (os_ne hu64) (de_callB cs_len rfl T.b_len (by decide +kernel) (da_cons (de_var (pv 0)) (da_nil))) (de_gi T.c_PAIR) (nomark _))))) (dss_one (ds_ret (de_bl))) (dss_nil)) (dss_one (ds_ret (de_and (de_cal (cal_is_integer T) hr (by decide) rfl (da_cons (de_ix hu (de_var (pv 0)) (de_int) (fun _ _ => rfl)) (da_nil))) (de_and (de_cmp os_ge (de_ix hu (de_var (pv 0)) (de_int) (fun _ _ => rfl)) (de_int) (nomark _)) (de_one (de_cal (cal_is_stick T) hr (by decide) rfl (da_cons (de_ix hu (de_var (pv 0)) (de_int) (fun _ _ => rfl)) (da_nil))))))))
theorem rd_is_entry (K : PySem.W.Frag) (c : Cs) : ∀ ds μ Q, sp_is_entry c ds μ Q → w_is_entry K c { nx := fun _ μ' => ∃ μ2, Sub μ2 μ' ∧ Q .non μ2, rt := Q } (startD N_is_entry ds) μ := by
  rintro ds μ Q ⟨e, rfl, hne, hz, k⟩
  show w_is_entry K c _ [some (entD e)] μ
  unfold w_is_entry entD
  walk_at "dy"
  refine ⟨by decide, ?_⟩
  rw [if_neg (by decide), if_neg (by simp)]
  unfold w_is_entry_t1
  walk_at "dy"
  refine ⟨(e.1 : Nat), rfl, ?_⟩
  walk_at "dy"
  rw [decide_eq_true (show (0 : Int) ≤ (e.1 : Nat) by omega)]
  exact ⟨e.2, rfl, hne, by omega, ret_eq k⟩
theorem cal_is_entry (T : Txt K mg c) : DCal P w K mg base 2 "is_entry" (sp_is_entry c) [] := T.f_is_entry.cal (ps := ["value"]) sc_is_entry (len_is_entry c) (fun cdv A outer s H E hr => dv_is_entry T cdv A outer s H E hr) (rd_is_entry K c) fun _ _ _ _ _ _ us hl => match us, hl with | [_], _ => rfl
end
noncomputable def sp_is_sequence (c : Cs) : DSp := fun ds μ Q => ∃ xs : List D, ds.map unT = [.lst xs] ∧ Q (.bl true) μ
theorem len_is_sequence (c : Cs) : ∀ ds μ Q, sp_is_sequence c ds μ Q → ds.length = 1 := by
  rintro ds μ Q ⟨xs, h, _⟩
  have := congrArg List.length h
  simpa using this
noncomputable def w_is_sequence (K : PySem.W.Frag) (c : Cs) : WS := wRet (wCB oIsiS (wACons (wVar 0) (wACons (wTup (wACons (wC (.ty "list")) (wACons (wC (.ty "tuple")) (wANil)))) (wANil))))
section
variable {P : Program} {w : World} {K : PySem.W.Frag} {mg : Str → Option Value} {base : Heap} {c : Cs}
theorem dv_is_sequence (T : Txt K mg c) {f : Addr} (cdv : Value) (A : Around) (outer : List PySem.Env) (s : Shared) (H : Hp) (E : XK) (hr : Room 0 (A.deeper (PyProof.Rows.envOfC "is_sequence" (defScope s_is_sequence) s.heap.objs.size f cdv))) : DSs (cxOf CX0 P w K mg base N_is_sequence "is_sequence" (defScope s_is_sequence) f cdv A outer s H E).nox (defBody s_is_sequence) (w_is_sequence K c) := by
  have ND := sc_is_sequence.nd
  have hu := hu_of hr
  have hu64 := hr.units
  have hu65 := units65 hr
  exact dss_one (ds_ret (de_callB cs_isiS rfl T.b_isinstance (by decide +kernel) (da_cons (de_var (pv 0)) (da_cons (de_tup (da_cons (de_ty (n := "list") rfl T.b_list (by decide +kernel)) (da_cons (de_ty (n := "tuple") rfl T.b_tuple (by decide +kernel)) (da_nil)))) (da_nil)))))
theorem rd_is_sequence (K : PySem.W.Frag) (c : Cs) : ∀ ds μ Q, sp_is_sequence c ds μ Q → w_is_sequence K c { nx := fun _ μ' => ∃ μ2, Sub μ2 μ' ∧ Q .non μ2, rt := Q } (startD N_is_sequence ds) μ := by
  rintro ds μ Q ⟨xs, h, k⟩
  obtain ⟨d, rfl, hd⟩ : ∃ d, ds = [d] ∧ unT d = .lst xs := by
    cases ds with
    | nil => cases h
    | cons d r =>
      cases r with
      | nil => exact ⟨d, rfl, by simpa using h⟩
      | cons _ _ => simp at h
  show w_is_sequence K c _ [some d] μ
  unfold w_is_sequence
  walk_at "dx"
  refine ⟨by decide, ?_⟩
  cases d with
  | tup ys => exact ⟨_, _, rfl, rfl, "tuple", rfl, ret_eq (by rw [show (isTy "tuple" "list" || isTy "tuple" "tuple") = true by decide]; exact k)⟩
  | lst ys => exact ⟨_, _, rfl, rfl, "list", rfl, ret_eq (by rw [show (isTy "list" "list" || isTy "list" "tuple") = true by decide]; exact k)⟩
  | _ => cases hd
theorem cal_is_sequence (T : Txt K mg c) : DCal P w K mg base 1 "is_sequence" (sp_is_sequence c) [] := T.f_is_sequence.cal (ps := ["value"]) sc_is_sequence (len_is_sequence c) (fun cdv A outer s H E hr => dv_is_sequence T cdv A outer s H E hr) (rd_is_sequence K c) fun _ _ _ _ _ _ us hl => match us, hl with | [_], _ => rfl
end
noncomputable def sp_need_entries (c : Cs) : DSp := fun ds μ Q => ∃ (d : D) (es : List Ent), ds = [d] ∧ seqF d = some (es.map entD) ∧ Good es ∧ Q .non μ
theorem len_need_entries (c : Cs) : ∀ ds μ Q, sp_need_entries c ds μ Q → ds.length = 1 := by
  rintro ds μ Q ⟨d, es, rfl, _⟩
  rfl
noncomputable def w_need_entries_t1 (K : PySem.W.Frag) (c : Cs) : WS := wIfS (wB (wOp oNe (wCB oLen (wACons (wIx (wVar 2) (wC (.int 1))) (wANil))) (wCB oLen (wACons (wIx (wIx (wVar 0) (wC (.int 0))) (wC (.int 1))) (wANil))))) (wNever) (wNext)
noncomputable def w_need_entries_b1 (K : PySem.W.Frag) (c : Cs) : WS := wSeq (wIfS (wOr (wNt (wTrv (wCall (sp_is_entry c) [] (wACons (wVar 2) (wANil))))) (wTrv (wCB oAny (wACons (wLc (wiSeq (wSl (wVar 0) (wNoP) (wPart (wVar 1)))) (wgName 3) (wYes) (wOrV (wOp oEq (wIx (wVar 2) (wC (.int 0))) (wIx (wVar 3) (wC (.int 0)))) (wOp oEq (wIx (wVar 2) (wC (.int 1))) (wIx (wVar 3) (wC (.int 1))))) [3]) (wANil))))) (wNever) (wNext)) (w_need_entries_t1 K c)
noncomputable def w_need_entries_t2 (K : PySem.W.Frag) (c : Cs) : WS := wFor (wiEnum (wVar 0)) (wgTup 2 (wgCons (wgName 1) (wgCons (wgName 2) (wgNil)))) (w_need_entries_b1 K c)
noncomputable def w_need_entries (K : PySem.W.Frag) (c : Cs) : WS := wSeq (wIfS (wNt (wTrv (wCall (sp_is_sequence c) [] (wACons (wVar 0) (wANil))))) (wNever) (wNext)) (w_need_entries_t2 K c)
section
variable {P : Program} {w : World} {K : PySem.W.Frag} {mg : Str → Option Value} {base : Heap} {c : Cs}
theorem dv_need_entries (T : Txt K mg c) {f : Addr} (cdv : Value) (A : Around) (outer : List PySem.Env) (s : Shared) (H : Hp) (E : XK) (hr : Room 2 (A.deeper (PyProof.Rows.envOfC "need_entries" (defScope s_need_entries) s.heap.objs.size f cdv))) : DSs (cxOf CX0 P w K mg base N_need_entries "need_entries" (defScope s_need_entries) f cdv A outer s H E).nox (defBody s_need_entries) (w_need_entries K c) := by
  have ND := sc_need_entries.nd
  have hu := hu_of hr
  have hu64 := hr.units
  have hu65 := units65 hr
  exact dss_cons (ds_if (dt_not (dt_tru (de_cal (cal_is_sequence T) hr (by decide) rfl (da_cons (de_var (pv 0)) (da_nil))) (fun _ => rfl))) (dss_one (ds_never)) (dss_nil)) (dss_one (ds_for PassesOwn.never rfl (di_enum rfl T.b_enumerate (de_var (pv 0))) (dg_pat (vs := [1, 2]) (g := gTup K 2 (gCons (gName 1) (gCons (gName 2) (gNil)))) (pg_tup rfl (pgs_cons (pg_name (i := 1) ND rfl (by first | exact Or.inl rfl | exact Or.inr rfl)) (pgs_cons (pg_name (i := 2) ND rfl (by first | exact Or.inl rfl | exact Or.inr rfl)) (pgs_nil)))) (gp_tup (gp_cons (gp_name (by decide)) (gp_cons (gp_name (by decide)) (gp_nil))))) (dss_cons (ds_if (dt_w (dw_or (dt_not (dt_tru (de_cal (cal_is_entry T) hr (by decide) rfl (da_cons (de_var (pv 2)) (da_nil))) (fun _ => rfl))) (dw_or1 (dt_tru (de_callB (cs_any rfl) rfl T.b_any (by decide +kernel) (da_cons (de_lc (own := [("one", 3)]) (g := gName 3) rfl ND (di_seq (de_sl (de_var (pv 0)) (dp_none) (dp_some (de_var (pv 1))))) (blkOk_by (own := [("one", 3)]) (N := N_need_entries) (sc := defScope s_need_entries) (by decide +kernel)) (gp_name (by decide)) (fun _ _ _ _ _ => pg_name (i := 3) ND rfl (by first | exact Or.inl rfl | exact Or.inr rfl)) (fun _ _ _ _ _ => dts_nil) (fun _ _ _ _ _ => de_or (de_cmp (os_eq hu64) (de_ix hu (de_var (pv 2)) (de_int) (fun _ _ => rfl)) (de_ix hu (de_var (pv 3)) (de_int) (fun _ _ => rfl)) (nomark _)) (de_one (de_cmp (os_eq hu64) (de_ix hu (de_var (pv 2)) (de_int) (fun _ _ => rfl)) (de_ix hu (de_var (pv 3)) (de_int) (fun _ _ => rfl)) (nomark _))))) (da_nil))) (fun _ => rfl))))) (dss_one (ds_never)) (dss_nil)) (dss_one (ds_if (dt_cmp (os_ne hu64) (de_callB cs_len rfl T.b_len (by decide +kernel) (da_cons (de_ix hu (de_var (pv 2)) (de_int) (fun _ _ => rfl)) (da_nil))) (de_callB cs_len rfl T.b_len (by decide +kernel) (da_cons (de_ix hu (de_ix hu (de_var (pv 0)) (de_int) (fun _ _ => rfl)) (de_int) (fun _ _ => rfl)) (da_nil))) (nomark _)) (dss_one (ds_never)) (dss_nil))))))
theorem rd_need_entries (K : PySem.W.Frag) (c : Cs) : ∀ ds μ Q, sp_need_entries c ds μ Q → w_need_entries K c { nx := fun _ μ' => ∃ μ2, Sub μ2 μ' ∧ Q .non μ2, rt := Q } (startD N_need_entries ds) μ := by
  rintro ds μ Q ⟨d, es, rfl, hd, ok, k⟩
  have hd' : d = .tup (es.map entD) ∨ d = .lst (es.map entD) := by cases d <;> first | (cases hd; done) | (cases hd; simp)
  have h0 : ∀ {i : Nat} {e : Ent}, es[i]? = some e → atI (es.map entD) 0 = some (entD es[0]!) ∧ es[0]! ∈ es := by
    intro i e he
    have hl : 0 < es.length := by have := (getS he).1; omega
    have e0 : es[0]? = some es[0]! := by rw [List.getElem!_eq_getElem?_getD, List.getElem?_eq_getElem hl]; rfl
    exact ⟨atI_nat (j := 0) (by rw [List.getElem?_map, e0]; rfl), List.mem_of_getElem? e0⟩
  rcases hd' with rfl | rfl
  all_goals
    first
      | show w_need_entries K c _ [some (.tup (es.map entD)), none, none, none] μ
      | show w_need_entries K c _ [some (.lst (es.map entD)), none, none, none] μ
    unfold w_need_entries
    walk_at "dy"
    refine ⟨es.map entD, rfl, ?_⟩
    walk_at "dy"
    unfold w_need_entries_t2
    walk_at "dy"
    refine for_en (fun i ρ μ' => μ' = μ ∧ ∃ a b, ρ = [_, a, b, none]) ⟨rfl, _, _, rfl⟩ ?_ ?_
    · rintro i e ρ μ' he ⟨rfl, a, b, rfl⟩
      obtain ⟨hi, hm⟩ := getS he
      obtain ⟨hne, hz⟩ := ok.st e hm
      walk_at "dy"
      refine ⟨rfl, ?_⟩
      unfold w_need_entries_b1
      walk_at "dy"
      refine ⟨e, rfl, hne, hz, ?_⟩
      walk_at "dy"
      rw [← List.map_take]
      refine lc_tm (fun _ => .bl false) (le_line (by rw [List.length_take]; have := ok.sz; omega)) ?_ ?_
      · intro j x μ2 R hx _ hR
        have hj : j < i := by
          have := (List.getElem?_eq_some_iff.mp hx).1
          rw [List.length_take] at this
          omega
        have hx2 : es[j]? = some x := by rw [List.getElem?_take] at hx; simpa [hj] using hx
        have n1 : e.1 ≠ x.1 := fun q => by have := nodup_get ok.nn he hx2 q; omega
        have n2 : e.2 ≠ x.2 := fun q => by have := nodup_get ok.ns he hx2 q; omega
        unfold entD
        walk_at "dy"
        rw [decide_eq_false (show ¬ ((e.1 : Int) = (x.1 : Int)) by omega)]
        walk_at "dy"
        rw [stk_beq, decide_eq_false n2]
        exact hR
      · intro L hL
        rw [delS_setS hL, oAny_map]
        rw [show ((es.take i).any fun _ => false) = false by simp]
        walk_at "dy"
        unfold w_need_entries_t1
        walk_at "dy"
        rw [(h0 he).1]
        unfold entD
        walk_at "dy"
        rw [stk_len, stk_len, ok.ln e hm _ (h0 he).2]
        have hz0 := (ok.st _ (h0 he).2).2
        refine ⟨le_line (by omega), le_line (by omega), ?_⟩
        rw [if_neg (fun h => h rfl)]
        exact ⟨_, _, rfl⟩
    · rintro ρ μ' ⟨rfl, a, b, rfl⟩
      exact end_eq k
theorem cal_need_entries (T : Txt K mg c) : DCal P w K mg base 3 "need_entries" (sp_need_entries c) [] := T.f_need_entries.cal (ps := ["entries"]) sc_need_entries (len_need_entries c) (fun cdv A outer s H E hr => dv_need_entries T cdv A outer s H E hr) (rd_need_entries K c) fun _ _ _ _ _ _ us hl => match us, hl with | [_], _ => rfl
end
noncomputable def sp_text_of_entries (c : Cs) : DSp := fun ds μ Q => ∃ es : List Ent, ds = [.tup (es.map entD)] ∧ Good es ∧ Q (.str (txtE es)) μ
theorem len_text_of_entries (c : Cs) : ∀ ds μ Q, sp_text_of_entries c ds μ Q → ds.length = 1 := by
  rintro ds μ Q ⟨es, rfl, _⟩
  rfl
noncomputable def w_text_of_entries_b1 (K : PySem.W.Frag) (c : Cs) : WS := wAsg (wIf (wB (wOp oEq (wVar 2) (wC (.int 0)))) (wJoin [wFmt (wVar 3), wC (.str " "), wFmt (wVar 4)]) (wJoin [wFmt (wVar 1), wC (.str "\n"), wFmt (wVar 3), wC (.str " "), wFmt (wVar 4)])) (wgName 1)
noncomputable def w_text_of_entries (K : PySem.W.Frag) (c : Cs) : WS := wSeq (wAsg (wC (.str "")) (wgName 1)) (wSeq (wFor (wiEnum (wVar 0)) (wgTup 2 (wgCons (wgName 2) (wgCons (wgTup 2 (wgCons (wgName 3) (wgCons (wgName 4) (wgNil)))) (wgNil)))) (w_text_of_entries_b1 K c)) (wRet (wVar 1)))
section
variable {P : Program} {w : World} {K : PySem.W.Frag} {mg : Str → Option Value} {base : Heap} {c : Cs}
theorem dv_text_of_entries (T : Txt K mg c) {f : Addr} (cdv : Value) (A : Around) (outer : List PySem.Env) (s : Shared) (H : Hp) (E : XK) (hr : Room 0 (A.deeper (PyProof.Rows.envOfC "text_of_entries" (defScope s_text_of_entries) s.heap.objs.size f cdv))) : DSs (cxOf CX0 P w K mg base N_text_of_entries "text_of_entries" (defScope s_text_of_entries) f cdv A outer s H E).nox (defBody s_text_of_entries) (w_text_of_entries K c) := by
  have ND := sc_text_of_entries.nd
  have hu := hu_of hr
  have hu64 := hr.units
  have hu65 := units65 hr
  exact dss_cons (ds_set (i := 1) ND rfl (Or.inl rfl) (de_str)) (dss_cons (ds_for PassesOwn.never rfl (di_enum rfl T.b_enumerate (de_var (pv 0))) (dg_pat (vs := [2, 3, 4]) (g := gTup K 2 (gCons (gName 2) (gCons (gTup K 2 (gCons (gName 3) (gCons (gName 4) (gNil)))) (gNil)))) (pg_tup rfl (pgs_cons (pg_name (i := 2) ND rfl (by first | exact Or.inl rfl | exact Or.inr rfl)) (pgs_cons (pg_tup rfl (pgs_cons (pg_name (i := 3) ND rfl (by first | exact Or.inl rfl | exact Or.inr rfl)) (pgs_cons (pg_name (i := 4) ND rfl (by first | exact Or.inl rfl | exact Or.inr rfl)) (pgs_nil)))) (pgs_nil)))) (gp_tup (gp_cons (gp_name (by decide)) (gp_cons (gp_tup (gp_cons (gp_name (by decide)) (gp_cons (gp_name (by decide)) (gp_nil)))) (gp_nil))))) (dss_one (ds_set (i := 1) ND rfl (Or.inl rfl) (de_if (dt_cmp (os_eq hu64) (de_var (pv 2)) (de_int) (nomark _)) (de_joined (.cons (de_fmt (de_var (pv 3))) (.cons (de_str) (.cons (de_fmt (de_var (pv 4))) (.nil))))) (de_joined (.cons (de_fmt (de_var (pv 1))) (.cons (de_str) (.cons (de_fmt (de_var (pv 3))) (.cons (de_str) (.cons (de_fmt (de_var (pv 4))) (.nil))))))))))) (dss_one (ds_ret (de_var (pv 1)))))
theorem rd_text_of_entries (K : PySem.W.Frag) (c : Cs) : ∀ ds μ Q, sp_text_of_entries c ds μ Q → w_text_of_entries K c { nx := fun _ μ' => ∃ μ2, Sub μ2 μ' ∧ Q .non μ2, rt := Q } (startD N_text_of_entries ds) μ := by
  rintro ds μ Q ⟨es, rfl, ok, k⟩
  show w_text_of_entries K c _ [some (.tup (es.map entD)), none, none, none, none] μ
  unfold w_text_of_entries
  walk_at "dy"
  have e0 : ("" : Str) = txtE (es.take 0) := by rw [List.take_zero, txt_nil]; decide +kernel
  refine for_en (fun i ρ μ' => μ' = μ ∧ ∃ a b d, ρ = [some (.tup (es.map entD)), some (.str (txtE (es.take i))), a, b, d]) ⟨rfl, _, _, _, by rw [e0]⟩ ?_ ?_
  · rintro i e ρ μ' he ⟨rfl, a, b, d, rfl⟩
    obtain ⟨hi, hm⟩ := getS he
    have hn := ok.num e hm
    have hz := (ok.st e hm).2
    have hdg := dig_len hn
    have hlog := log_small hn
    have hsm := txt_small (ok.sub (List.take_sublist i es))
    have e1 : (" " : Str).length = 1 := by decide +kernel
    have e2 : ("\n" : Str).length = 1 := by decide +kernel
    unfold entD
    walk_at "dy"
    refine ⟨rfl, ?_⟩
    unfold w_text_of_entries_b1
    walk_at "dy"
    rw [show Str.ofString (toString ((e.1 : Nat) : Int)) = dig e.1 from rfl]
    simp only [str_emp, str_app_len, stk_len, e1, e2]
    have et : es.take (i + 1) = es.take i ++ [e] := by rw [List.take_add_one, he]; rfl
    refine ⟨rfl, ?_⟩
    by_cases h0 : i = 0
    · subst h0
      rw [if_pos (by rfl)]
      walk_at "sz"
      rw [et, List.take_zero, List.nil_append, txt_one]
      exact ⟨_, _, _, rfl⟩
    · rw [if_neg (by omega)]
      walk_at "sz"
      rw [et, txt_snoc (by intro q; have := congrArg List.length q; rw [List.length_take, List.length_nil] at this; omega)]
      unfold lineE
      simp only [str_app_assoc]
      exact ⟨_, _, _, rfl⟩
  · rintro ρ μ' ⟨rfl, a, b, d, rfl⟩
    walk_at "dy"
    rw [List.take_length]
    exact ret_eq k
theorem cal_text_of_entries (T : Txt K mg c) : DCal P w K mg base 1 "text_of_entries" (sp_text_of_entries c) [] := T.f_text_of_entries.cal (ps := ["entries"]) sc_text_of_entries (len_text_of_entries c) (fun cdv A outer s H E hr => dv_text_of_entries T cdv A outer s H E hr) (rd_text_of_entries K c) fun _ _ _ _ _ _ us hl => match us, hl with | [_], _ => rfl
end
noncomputable def sp_Book_xinit (c : Cs) : DSp := fun ds μ Q => ∃ (x : Addr) (d : D) (es : List Ent), ds = [.ref x, d] ∧ seqF d = some (es.map entD) ∧ Good es ∧ μ x = some (.ins c.Book []) ∧ Q .non (setS μ x (.ins c.Book (bkF (srtE es))))
theorem len_Book_xinit (c : Cs) : ∀ ds μ Q, sp_Book_xinit c ds μ Q → ds.length = 2 := by
  rintro ds μ Q ⟨x, d, es, rfl, _⟩
  rfl
noncomputable def w_Book_xinit_t1 (K : PySem.W.Frag) (c : Cs) : WS := wSetF K "text" (wVar 0) (wCall (sp_text_of_entries c) [] (wACons (wFld K "entries" (wVar 0)) (wANil)))
noncomputable def w_Book_xinit (K : PySem.W.Frag) (c : Cs) : WS := wSeq (wDrop (wCall (sp_need_entries c) [] (wACons (wVar 1) (wANil)))) (wSeq (wAsg (wLkD (wDcM (wiSeq (wVar 1)) (wgTup 2 (wgCons (wgName 4) (wgCons (wgName 5) (wgNil)))) (wYes) (wVar 4) (wVar 5) [4, 5])) (wgName 2)) (wSeq (wAsg (wCB oSorted (wACons (wLc (wiKeysL (wVar 2)) (wgName 4) (wYes) (wCB oInt (wACons (wVar 4) (wANil))) [4]) (wANil))) (wgName 3)) (wSeq (wSetF K "entries" (wVar 0) (wCB oTuple (wACons (wLc (wiSeq (wVar 3)) (wgName 4) (wYes) (wTup (wACons (wVar 4) (wACons (wIx (wVar 2) (wVar 4)) (wANil)))) [4]) (wANil)))) (wSeq (wSetF K "length" (wVar 0) (wIf (wB (wOp oGt (wCB oLen (wACons (wFld K "entries" (wVar 0)) (wANil))) (wC (.int 0)))) (wCB oLen (wACons (wIx (wIx (wFld K "entries" (wVar 0)) (wC (.int 0))) (wC (.int 1))) (wANil))) (wC (.int 0)))) (w_Book_xinit_t1 K c)))))
section
variable {P : Program} {w : World} {K : PySem.W.Frag} {mg : Str → Option Value} {base : Heap} {c : Cs}
theorem dv_Book_xinit (T : Txt K mg c) {f : Addr} (cdv : Value) (A : Around) (outer : List PySem.Env) (s : Shared) (H : Hp) (E : XK) (hr : Room 3 (A.deeper (PyProof.Rows.envOfC "Book.__init__" (defScope s_Book_xinit) s.heap.objs.size f cdv))) : DSs (cxOf CX0 P w K mg base N_Book_xinit "Book.__init__" (defScope s_Book_xinit) f cdv A outer s H E).nox (defBody s_Book_xinit) (w_Book_xinit K c) := by
  have ND := sc_Book_xinit.nd
  have hu := hu_of hr
  have hu64 := hr.units
  have hu65 := units65 hr
  exact dss_cons (ds_expr (de_cal (cal_need_entries T) hr (by decide) rfl (da_cons (de_var (pv 1)) (da_nil)))) (dss_cons (ds_set (i := 2) ND rfl (Or.inr rfl) (de_lkD (de_dcM (own := [("number", 4), ("stick", 5)]) (g := gTup K 2 (gCons (gName 4) (gCons (gName 5) (gNil)))) rfl ND (di_seq (de_var (pv 1))) (blkOk_by (own := [("number", 4), ("stick", 5)]) (N := N_Book_xinit) (sc := defScope s_Book_xinit) (by decide +kernel)) (gp_tup (gp_cons (gp_name (by decide)) (gp_cons (gp_name (by decide)) (gp_nil)))) (fun _ _ _ _ _ => pg_tup rfl (pgs_cons (pg_name (i := 4) ND rfl (by first | exact Or.inl rfl | exact Or.inr rfl)) (pgs_cons (pg_name (i := 5) ND rfl (by first | exact Or.inl rfl | exact Or.inr rfl)) (pgs_nil)))) (fun _ _ _ _ _ => dts_nil) (fun _ _ _ _ _ => de_var (pv 4)) (fun _ _ _ _ _ => de_var (pv 5))))) (dss_cons (ds_set (i := 3) ND rfl (Or.inl rfl) (de_callB cs_sorted rfl T.b_sorted (by decide +kernel) (da_cons (de_lc (own := [("number", 4)]) (g := gName 4) rfl ND (di_keysL (de_var (pv 2))) (blkOk_by (own := [("number", 4)]) (N := N_Book_xinit) (sc := defScope s_Book_xinit) (by decide +kernel)) (gp_name (by decide)) (fun _ _ _ _ _ => pg_name (i := 4) ND rfl (by first | exact Or.inl rfl | exact Or.inr rfl)) (fun _ _ _ _ _ => dts_nil) (fun _ _ _ _ _ => de_callTy cs_int rfl T.b_int (by decide +kernel) (da_cons (de_var (pv 4)) (da_nil)))) (da_nil)))) (dss_cons (ds_fld (de_var (pv 0)) (de_callTy cs_tuple rfl T.b_tuple (by decide +kernel) (da_cons (de_lc (own := [("number", 4)]) (g := gName 4) rfl ND (di_seq (de_var (pv 3))) (blkOk_by (own := [("number", 4)]) (N := N_Book_xinit) (sc := defScope s_Book_xinit) (by decide +kernel)) (gp_name (by decide)) (fun _ _ _ _ _ => pg_name (i := 4) ND rfl (by first | exact Or.inl rfl | exact Or.inr rfl)) (fun _ _ _ _ _ => dts_nil) (fun _ _ _ _ _ => de_tup (da_cons (de_var (pv 4)) (da_cons (de_ix hu (de_var (pv 2)) (de_var (pv 4)) (fun _ _ => rfl)) (da_nil))))) (da_nil)))) (dss_cons (ds_fld (de_var (pv 0)) (de_if (dt_cmp os_gt (de_callB cs_len rfl T.b_len (by decide +kernel) (da_cons (de_fld (de_var (pv 0)) rfl) (da_nil))) (de_int) (nomark _)) (de_callB cs_len rfl T.b_len (by decide +kernel) (da_cons (de_ix hu (de_ix hu (de_fld (de_var (pv 0)) rfl) (de_int) (fun _ _ => rfl)) (de_int) (fun _ _ => rfl)) (da_nil))) (de_int))) (dss_one (ds_fld (de_var (pv 0)) (de_cal (cal_text_of_entries T) hr (by decide) rfl (da_cons (de_fld (de_var (pv 0)) rfl) (da_nil)))))))))
theorem rd_Book_xinit (K : PySem.W.Frag) (c : Cs) (kf : Kf K c) : ∀ ds μ Q, sp_Book_xinit c ds μ Q → w_Book_xinit K c { nx := fun _ μ' => ∃ μ2, Sub μ2 μ' ∧ Q .non μ2, rt := Q } (startD N_Book_xinit ds) μ := by
  rintro ds μ Q ⟨x, d, es, rfl, hd, ok, hx, k⟩
  have hd' : d = .tup (es.map entD) ∨ d = .lst (es.map entD) := by cases d <;> first | (cases hd; done) | (cases hd; simp)
  have hnk : (es.map fun e => keyN e.1).Nodup := by
    have := ok.nn
    rw [List.nodup_iff_pairwise_ne, List.pairwise_map] at this ⊢
    exact this.imp fun q r => q (keyN_inj r)
  have hz : es.length ≤ sizeLine := le_line (by have := ok.sz; omega)
  have hz' : (srtE es).length ≤ sizeLine := by rw [(srtE_perm es).length_eq]; exact hz
  have hkv : ((es.map fun e => (keyN e.1, D.str (stk e.2))).map fun kv => keyV kv.1) = es.map fun e => D.int (e.1 : Nat) := by rw [List.map_map]; rfl
  have hgs := srtE_good ok
  rcases hd' with rfl | rfl
  all_goals
    first
      | show w_Book_xinit K c _ [some (.ref x), some (.tup (es.map entD)), none, none, none, none] μ
      | show w_Book_xinit K c _ [some (.ref x), some (.lst (es.map entD)), none, none, none, none] μ
    unfold w_Book_xinit
    walk_at "dz"
    refine ⟨_, es, rfl, hd, ok, ?_⟩
    walk_at "dz"
    refine dc_ty (fun e : Ent => .int (e.1 : Nat)) (fun e : Ent => .str (stk e.2)) (fun e : Ent => keyN e.1) (fun _ => rfl) hnk (Nat.lt_of_le_of_lt ok.sz (Nat.lt_of_lt_of_le (by decide : 300 < 301) (le_line (by decide)))) ?_ ?_
    · intro i e μ' R R' he _ hR
      unfold entD
      walk_at "dz"
      exact ⟨rfl, hR⟩
    · intro L hL
      walk_at "dz"
      rw [delS_setS hL, hkv]
      refine lc_tm (enc := fun e : Ent => D.int (e.1 : Nat)) (fun e => .int (e.1 : Nat)) hz ?_ ?_
      · intro i e μ' R _ _ hR
        walk_at "dz"
        exact hR
      · intro L2 hL2
        rw [delS_setS hL2]
        refine sorted_nums es _ _ ?_
        walk_at "dz"
        refine lc_tm (enc := fun e : Ent => D.int (e.1 : Nat)) entD hz' ?_ ?_
        · intro i e μ' R he _ hR
          have hm : e ∈ es := (srtE_perm es).mem_iff.mp (getS he).2
          have hlk := keys_look ok.nn hm
          walk_at "dz"
          have hlk' : (some (Sum.inl (e.1 : Int) : Key)).bind (look (es.map fun a => (keyN a.1, D.str (stk a.2)))) = some (.str (stk e.2)) := hlk
          rw [hlk']
          exact ⟨le_line (Nat.le_of_ble_eq_true rfl), hR⟩
        · intro L3 hL3
          rw [delS_setS hL3]
          walk_at "dz"
          rw [stf_ref hx]
          refine ⟨kf.o_Book_entries, by decide, ?_⟩
          walk_at "dz"
          rw [pb1, fld_ref setS_same, lb1]
          refine ⟨kf.o_Book_entries, ?_⟩
          walk_at "dz"
          have fin : ∀ μ2, μ2 = setS μ x (.ins c.Book [("entries", .tup ((srtE es).map entD)), ("length", .int (lenB (srtE es) : Nat))]) → ∀ ρ2 : List (Option D), w_Book_xinit_t1 K c { nx := fun x μ' => ∃ μ2, Dl.Sub μ2 μ' ∧ Q .non μ2, rt := Q } (some (.ref x) :: ρ2) μ2 := by
            rintro μ2 rfl ρ2
            unfold w_Book_xinit_t1
            walk_at "dz"
            rw [fld_ref setS_same, lb2]
            refine ⟨kf.o_Book_entries, ?_⟩
            walk_at "dz"
            refine ⟨srtE es, rfl, hgs, ?_⟩
            walk_at "dz"
            rw [stf_ref setS_same, pb3, setS_setS]
            exact ⟨kf.o_Book_text, by simp, end_eq k⟩
          rw [List.length_map]
          cases hE : srtE es with
          | nil =>
            rw [if_neg (by simp)]
            walk_at "dz"
            rw [stf_ref setS_same, pb2, setS_setS]
            exact ⟨kf.o_Book_length, by simp, fin _ (by rw [hE]; rfl) _⟩
          | cons e r =>
            have hm : e ∈ es := (srtE_perm es).mem_iff.mp (by rw [hE]; exact List.mem_cons_self)
            rw [if_pos (by simp)]
            walk_at "dz"
            rw [fld_ref setS_same, lb1]
            refine ⟨kf.o_Book_entries, ?_⟩
            walk_at "dz"
            rw [List.map_cons, atI_hd]
            unfold entD
            walk_at "dz"
            rw [stf_ref setS_same, pb2, setS_setS, stk_len]
            exact ⟨le_line (by have := (ok.st e hm).2; omega), kf.o_Book_length, by simp, fin _ (by rw [hE]; rfl) _⟩
theorem mak_Book_xinit_1 (T : Txt K mg c) : DMak P w K mg base 4 "Book" c.Book (sp_Book_xinit c) [.tup []] := by
  obtain ⟨e0, he0, D⟩ := T.f_Book_xinit
  exact D.mak T.k_Book sc_Book_xinit (len_Book_xinit c) (fun cdv A outer s H E hr => dv_Book_xinit T cdv A outer s H E hr) (rd_Book_xinit K c T.kf) (fun F => F.binds 1 (ps := ["self", "entries"]) (ds := [.ref e0]) (by simp) rfl fun _ _ _ _ _ _ _ us hl => match us, hl with | [_], _ => ⟨_, rfl, rfl⟩) (dvs := [.ref e0]) (.cons (rfl) (.nil)) (fun _ => .cons (EmT.rp he0) (.nil))
theorem mak_Book_xinit_2 (T : Txt K mg c) : DMak P w K mg base 4 "Book" c.Book (sp_Book_xinit c) [] := by
  obtain ⟨e0, he0, D⟩ := T.f_Book_xinit
  exact D.mak T.k_Book sc_Book_xinit (len_Book_xinit c) (fun cdv A outer s H E hr => dv_Book_xinit T cdv A outer s H E hr) (rd_Book_xinit K c T.kf) (fun F => F.binds 2 (ps := ["self", "entries"]) (ds := []) (by simp) rfl fun _ _ _ _ _ _ _ us hl => match us, hl with | [_, _], _ => ⟨_, rfl, rfl⟩) (dvs := []) (.nil) (fun _ => .nil)
end
noncomputable def sp_is_from_zero (c : Cs) : DSp := fun ds μ Q => ∃ n : Nat, ds = [.int n] ∧ Q (.bl true) μ
theorem len_is_from_zero (c : Cs) : ∀ ds μ Q, sp_is_from_zero c ds μ Q → ds.length = 1 := by
  rintro ds μ Q ⟨n, rfl, _⟩
  rfl
noncomputable def w_is_from_zero (K : PySem.W.Frag) (c : Cs) : WS := wRet (wAndV (wCall (sp_is_integer c) [] (wACons (wVar 0) (wANil))) (wOp oGe (wVar 0) (wC (.int 0))))
section
variable {P : Program} {w : World} {K : PySem.W.Frag} {mg : Str → Option Value} {base : Heap} {c : Cs}
theorem dv_is_from_zero (T : Txt K mg c) {f : Addr} (cdv : Value) (A : Around) (outer : List PySem.Env) (s : Shared) (H : Hp) (E : XK) (hr : Room 1 (A.deeper (PyProof.Rows.envOfC "is_from_zero" (defScope s_is_from_zero) s.heap.objs.size f cdv))) : DSs (cxOf CX0 P w K mg base N_is_from_zero "is_from_zero" (defScope s_is_from_zero) f cdv A outer s H E).nox (defBody s_is_from_zero) (w_is_from_zero K c) := by
  have ND := sc_is_from_zero.nd
  have hu := hu_of hr
  have hu64 := hr.units
  have hu65 := units65 hr
  exact dss_one (ds_ret (de_and (de_cal (cal_is_integer T) hr (by decide) rfl (da_cons (de_var (pv 0)) (da_nil))) (de_one (de_cmp os_ge (de_var (pv 0)) (de_int) (nomark _)))))
theorem rd_is_from_zero (K : PySem.W.Frag) (c : Cs) : ∀ ds μ Q, sp_is_from_zero c ds μ Q → w_is_from_zero K c { nx := fun _ μ' => ∃ μ2, Sub μ2 μ' ∧ Q .non μ2, rt := Q } (startD N_is_from_zero ds) μ := by
  rintro ds μ Q ⟨n, rfl, k⟩
  show w_is_from_zero K c _ [some (.int n)] μ
  unfold w_is_from_zero
  walk_at "dx"
  refine ⟨(n : Nat), rfl, ?_⟩
  walk_at "dx"
  rw [decide_eq_true (by omega)]
  exact ret_eq k
theorem cal_is_from_zero (T : Txt K mg c) : DCal P w K mg base 2 "is_from_zero" (sp_is_from_zero c) [] := T.f_is_from_zero.cal (ps := ["value"]) sc_is_from_zero (len_is_from_zero c) (fun cdv A outer s H E hr => dv_is_from_zero T cdv A outer s H E hr) (rd_is_from_zero K c) fun _ _ _ _ _ _ us hl => match us, hl with | [_], _ => rfl
end
noncomputable def sp_Way_xinit (c : Cs) : DSp := fun ds μ Q => ∃ (x : Addr) (h : How) (most : Option Nat) (part : Option (List Nat)), ds = [.ref x, .str (howS h), nD' most, paD part] ∧ (∀ l, part = some l → l.length ≤ 500 ∧ ∀ i ∈ l, i < 1000) ∧ μ x = some (.ins c.Way []) ∧ Q .non (setS μ x (.ins c.Way [("how", .str (howS h)), ("most", nD' most), ("part", ptD (part.map nrm))]))
theorem len_Way_xinit (c : Cs) : ∀ ds μ Q, sp_Way_xinit c ds μ Q → ds.length = 4 := by
  rintro ds μ Q ⟨x, h, most, part, rfl, _⟩
  rfl
noncomputable def w_Way_xinit_t1 (K : PySem.W.Frag) (c : Cs) : WS := wSeq (wSetF K "how" (wVar 0) (wVar 1)) (wSeq (wSetF K "most" (wVar 0) (wVar 2)) (wSetF K "part" (wVar 0) (wIf (wB (wOp oIs (wVar 3) (wC .non))) (wC .non) (wCB oTuple (wACons (wCB oSorted (wACons (wLc (wiKeysF (wDcM (wiSeq (wVar 3)) (wgName 4) (wYes) (wVar 4) (wC (.bl true)) [4])) (wgName 4) (wYes) (wCB oInt (wACons (wVar 4) (wANil))) [4]) (wANil))) (wANil))))))
noncomputable def w_Way_xinit_t2 (K : PySem.W.Frag) (c : Cs) : WS := wSeq (wIfS (wAnd (wB (wOp oIsNot (wVar 3) (wC .non))) (wNt (wAnd (wTrv (wCall (sp_is_sequence c) [] (wACons (wVar 3) (wANil)))) (wTrv (wCB oAll (wACons (wLc (wiSeq (wVar 3)) (wgName 4) (wYes) (wCall (sp_is_from_zero c) [] (wACons (wVar 4) (wANil))) [4]) (wANil))))))) (wNever) (wNext)) (w_Way_xinit_t1 K c)
noncomputable def w_Way_xinit_t3 (K : PySem.W.Frag) (c : Cs) : WS := wSeq (wIfS (wAnd (wB (wOp oIsNot (wVar 2) (wC .non))) (wNt (wTrv (wCall (sp_is_from_zero c) [] (wACons (wVar 2) (wANil)))))) (wNever) (wNext)) (w_Way_xinit_t2 K c)
noncomputable def w_Way_xinit (K : PySem.W.Frag) (c : Cs) : WS := wSeq (wIfS (wOr (wNt (wTrv (wCB oIsi (wACons (wVar 1) (wACons (wC (.ty "str")) (wANil)))))) (wB (wOp oNotIn (wVar 1) (wC (.tup [.str "add", .str "lose", .str "mixed"]))))) (wNever) (wNext)) (w_Way_xinit_t3 K c)
section
variable {P : Program} {w : World} {K : PySem.W.Frag} {mg : Str → Option Value} {base : Heap} {c : Cs}
theorem dv_Way_xinit (T : Txt K mg c) {f : Addr} (cdv : Value) (A : Around) (outer : List PySem.Env) (s : Shared) (H : Hp) (E : XK) (hr : Room 2 (A.deeper (PyProof.Rows.envOfC "Way.__init__" (defScope s_Way_xinit) s.heap.objs.size f cdv))) : DSs (cxOf CX0 P w K mg base N_Way_xinit "Way.__init__" (defScope s_Way_xinit) f cdv A outer s H E).nox (defBody s_Way_xinit) (w_Way_xinit K c) := by
  have ND := sc_Way_xinit.nd
  have hu := hu_of hr
  have hu64 := hr.units
  have hu65 := units65 hr
  exact dss_cons (ds_if (dt_w (dw_or (dt_not (dt_tru (de_callB cs_isi rfl T.b_isinstance (by decide +kernel) (da_cons (de_var (pv 1)) (da_cons (de_ty (n := "str") rfl T.b_str (by decide +kernel)) (da_nil)))) (fun _ => rfl))) (dw_or1 (dt_cmp os_notIn (de_var (pv 1)) (de_gt (ys := ["add", "lose", "mixed"]) T.c_HOWS) (by rfl))))) (dss_one (ds_never)) (dss_nil)) (dss_cons (ds_if (dt_w (dw_and (dt_cmp os_isNot (de_var (pv 2)) (de_non) (nomark _)) (dw_and1 (dt_not (dt_tru (de_cal (cal_is_from_zero T) hr (by decide) rfl (da_cons (de_var (pv 2)) (da_nil))) (fun _ => rfl)))))) (dss_one (ds_never)) (dss_nil)) (dss_cons (ds_if (dt_w (dw_and (dt_cmp os_isNot (de_var (pv 3)) (de_non) (nomark _)) (dw_and1 (dt_not (dt_w (dw_and (dt_tru (de_cal (cal_is_sequence T) hr (by decide) rfl (da_cons (de_var (pv 3)) (da_nil))) (fun _ => rfl)) (dw_and1 (dt_tru (de_callB (cs_all rfl) rfl T.b_all (by decide +kernel) (da_cons (de_lc (own := [("one", 4)]) (g := gName 4) rfl ND (di_seq (de_var (pv 3))) (blkOk_by (own := [("one", 4)]) (N := N_Way_xinit) (sc := defScope s_Way_xinit) (by decide +kernel)) (gp_name (by decide)) (fun _ _ _ _ _ => pg_name (i := 4) ND rfl (by first | exact Or.inl rfl | exact Or.inr rfl)) (fun _ _ _ _ _ => dts_nil) (fun _ _ _ _ _ => de_cal (cal_is_from_zero T) hr (by decide) rfl (da_cons (de_var (pv 4)) (da_nil)))) (da_nil))) (fun _ => rfl))))))))) (dss_one (ds_never)) (dss_nil)) (dss_cons (ds_fld (de_var (pv 0)) (de_var (pv 1))) (dss_cons (ds_fld (de_var (pv 0)) (de_var (pv 2))) (dss_one (ds_fld (de_var (pv 0)) (de_if (dt_cmp os_is (de_var (pv 3)) (de_non) (nomark _)) (de_non) (de_callTy cs_tuple rfl T.b_tuple (by decide +kernel) (da_cons (de_callB cs_sorted rfl T.b_sorted (by decide +kernel) (da_cons (de_lc (own := [("one", 4)]) (g := gName 4) rfl ND (di_keysF (de_dcM (own := [("one", 4)]) (g := gName 4) rfl ND (di_seq (de_var (pv 3))) (blkOk_by (own := [("one", 4)]) (N := N_Way_xinit) (sc := defScope s_Way_xinit) (by decide +kernel)) (gp_name (by decide)) (fun _ _ _ _ _ => pg_name (i := 4) ND rfl (by first | exact Or.inl rfl | exact Or.inr rfl)) (fun _ _ _ _ _ => dts_nil) (fun _ _ _ _ _ => de_var (pv 4)) (fun _ _ _ _ _ => de_bl))) (blkOk_by (own := [("one", 4)]) (N := N_Way_xinit) (sc := defScope s_Way_xinit) (by decide +kernel)) (gp_name (by decide)) (fun _ _ _ _ _ => pg_name (i := 4) ND rfl (by first | exact Or.inl rfl | exact Or.inr rfl)) (fun _ _ _ _ _ => dts_nil) (fun _ _ _ _ _ => de_callTy cs_int rfl T.b_int (by decide +kernel) (da_cons (de_var (pv 4)) (da_nil)))) (da_nil))) (da_nil))))))))))
theorem rd_Way_xinit_t1 {K : PySem.W.Frag} {c : Cs} (kf : Kf K c) {W : WEnds} {μ : Store} {x : Addr} {h : How} {most : Option Nat} {part : Option (List Nat)} {z : Option D} (hp : ∀ l, part = some l → l.length ≤ 500 ∧ ∀ i ∈ l, i < 1000) (hx : μ x = some (.ins c.Way []))
    (k : ∀ z, W.nx [some (.ref x), some (.str (howS h)), some (nD' most), some (paD part), z] (setS μ x (.ins c.Way [("how", .str (howS h)), ("most", nD' most), ("part", ptD (part.map nrm))]))) :
    w_Way_xinit_t1 K c W [some (.ref x), some (.str (howS h)), some (nD' most), some (paD part), z] μ := by
  unfold w_Way_xinit_t1
  simp only [wSeq, wSetF, wVar, getD_z, getD_s, hx]
  refine ⟨kf.o_Way_how, by decide, ?_⟩
  simp only [setS_same]
  refine ⟨kf.o_Way_most, (show (1 : Nat) < 1000 by decide), ?_⟩
  simp only [setS_setS]
  have e1 : (("how" : Str) = "most") = False := by decide +kernel
  have e2 : (("how" : Str) = "part") = False := by decide +kernel
  have e3 : (("most" : Str) = "part") = False := by decide +kernel
  have fin : ∀ (z : Option D) (μ2 : Store) (pt : D), μ2 = setS μ x (.ins c.Way [("how", .str (howS h)), ("most", nD' most)]) → ptD (part.map nrm) = pt → (match μ2 x with
      | some (.ins C fs) => FldOk K C "part" ∧ fs.length < 1000 ∧ W.nx [some (.ref x), some (.str (howS h)), some (nD' most), some (paD part), z] (setS μ2 x (.ins C (put fs "part" pt)))
      | _ => False) := fun z μ2 pt h1 h2 => by
    subst h1 h2
    simp only [setS_same]
    refine ⟨kf.o_Way_part, by simp, ?_⟩
    simp only [put, e2, e3, if_false, setS_setS]
    exact k z
  simp only [put, e1, if_false]
  cases part with
  | none =>
    simp only [paD]
    walk_at "dx"
    have := fin z _ _ rfl rfl
    simp only [setS_same] at this
    exact this
  | some l =>
    obtain ⟨hl1, hl2⟩ := hp l rfl
    simp only [paD]
    walk_at "dx"
    simp only [wiKeysF, wDcM]
    walk_at "dx"
    generalize hμ : setS μ x (Cell.ins c.Way [(("how" : Str), D.str (howS h)), ("most", nD' most)]) = μ1 at fin ⊢
    refine ⟨by rw [List.length_map]; exact le_line (by omega), fun L hL => ⟨fun i acc μ' => μ' = setS μ1 L (.dct acc) ∧ ∃ ks : List Nat, acc.map (·.1) = ks.map keyN ∧ ks.Nodup ∧ (∀ n, n ∈ ks ↔ n ∈ l.take i) ∧ acc.length ≤ i, ⟨rfl, [], rfl, List.nodup_nil, by simp, by simp⟩, ?_, ?_⟩⟩
    · rintro i d acc μ' hd hu ⟨rfl, ks, hk1, hk2, hk3, hk4⟩
      rw [List.getElem?_map] at hd
      cases hli : l[i]? with
      | none => rw [hli] at hd; cases hd
      | some n =>
        rw [hli] at hd
        cases hd
        have hil := (List.getElem?_eq_some_iff.mp hli).1
        have htk : l.take (i + 1) = l.take i ++ [n] := by rw [List.take_add_one, hli]; rfl
        show (wgName 4) (.int (n : Nat)) _ _ _
        walk_at "dx"
        refine ⟨keyN n, rfl, Nat.lt_of_lt_of_le (show acc.length < 600 by omega) (by decide), by rw [setS_setS], ?_⟩
        have hfst := putD_fst acc (keyN n) (.bl true)
        have hlen := putD_len acc (keyN n) (.bl true)
        rw [hk1] at hfst
        have hmem : keyN n ∈ ks.map keyN ↔ n ∈ ks := ⟨fun q => by obtain ⟨m, h1, h2⟩ := List.mem_map.mp q; rw [← keyN_inj h2]; exact h1, fun q => List.mem_map.mpr ⟨n, q, rfl⟩⟩
        by_cases hin : n ∈ ks
        · rw [if_pos (hmem.mpr hin)] at hfst
          refine ⟨ks, hfst, hk2, fun m => ?_, by omega⟩
          rw [htk, List.mem_append, List.mem_singleton, ← hk3]
          exact ⟨.inl, fun q => q.elim id fun e => by rw [e]; exact hin⟩
        · rw [if_neg (fun q => hin (hmem.mp q))] at hfst
          refine ⟨ks ++ [n], by rw [hfst, List.map_append]; rfl, ?_, fun m => ?_, by omega⟩
          · rw [List.nodup_append]
            refine ⟨hk2, by simp, ?_⟩
            intro a ha b hb
            rw [List.mem_singleton] at hb
            subst hb
            rintro rfl
            exact hin ha
          · rw [htk, List.mem_append, List.mem_singleton, List.mem_append, List.mem_singleton, ← hk3]
    · rintro acc μ' hu ⟨rfl, ks, hk1, hk2, hk3, hk4⟩
      rw [List.length_map, List.take_length] at hk3
      rw [List.length_map] at hk4
      simp only [setS_same]
      rw [delS_setS hL]
      have ek : (acc.map fun kv => keyV kv.1) = ks.map eNat.enc := by
        have : (acc.map fun kv => keyV kv.1) = (acc.map (·.1)).map keyV := by rw [List.map_map]; rfl
        rw [this, hk1, List.map_map]
        rfl
      rw [ek]
      have hkl : ks.length = acc.length := by have := congrArg List.length hk1; rw [List.length_map, List.length_map] at this; omega
      refine lc_map (fun d => d) (by rw [List.length_map]; exact le_line (by omega)) ?_ ?_
      · intro i d μ' R hd _ hR
        rw [List.getElem?_map] at hd
        cases hk : ks[i]? with
        | none => rw [hk] at hd; cases hd
        | some n =>
          rw [hk] at hd
          cases hd
          show (wgName 4) (.int (n : Nat)) _ _ _
          walk_at "dx"
          exact hR
      · intro L2 hL2
        rw [delS_setS hL2, List.map_id']
        have hints : intsD (ks.map eNat.enc) = some (ks.map fun (n : Nat) => (n : Int)) := by
          have h := intsD_map (ks.map fun (n : Nat) => (n : Int))
          rw [List.map_map] at h
          exact h
        simp only [oSorted, seqR, seqL, hints]
        intro ns' hperm hsort
        -- the sorted ints are naturals, and just the places
        obtain ⟨ms, rfl⟩ : ∃ ms : List Nat, ns' = ms.map fun (n : Nat) => (n : Int) := by
          refine ⟨ns'.map Int.toNat, ?_⟩
          rw [List.map_map]
          have : ∀ z ∈ ns', ((fun (n : Nat) => (n : Int)) ∘ Int.toNat) z = z := fun z hz => by
            obtain ⟨n, _, rfl⟩ := List.mem_map.mp (hperm.mem_iff.mp hz)
            rfl
          conv => lhs; rw [← List.map_id ns']
          exact (List.map_congr_left fun z hz => (this z hz).symm)
        have hmem : ∀ i, i ∈ ms ↔ i ∈ l := fun i => by
          rw [← hk3]
          constructor
          · intro q
            obtain ⟨n, h1, h2⟩ := List.mem_map.mp (hperm.mem_iff.mp (List.mem_map.mpr ⟨i, q, rfl⟩))
            rw [show i = n by omega]
            exact h1
          · intro q
            obtain ⟨n, h1, h2⟩ := List.mem_map.mp (hperm.mem_iff.mpr (List.mem_map.mpr ⟨i, q, rfl⟩))
            rw [show i = n by omega]
            exact h1
        have hnd : (ms.map fun (n : Nat) => (n : Int)).Nodup := hperm.nodup_iff.mpr (hk2.map _ (fun a b hab h => hab (by omega)))
        have hms : ms.Pairwise (· < ·) := by
          have h1 : ms.Pairwise (fun (a b : Nat) => (a : Int) ≤ (b : Int)) := List.pairwise_map.mp hsort
          have h2 : ms.Pairwise (fun (a b : Nat) => (a : Int) ≠ (b : Int)) := List.pairwise_map.mp hnd
          exact (h1.and h2).imp fun {a b} h => by omega
        have e : ms = nrm l := sorted_eq hms (nrm_sorted l) fun i => by rw [hmem, nrm_mem hl2]
        refine fin _ _ _ rfl ?_
        show ptD (some (nrm l)) = _
        rw [← e, List.map_map]
        rfl
theorem rd_Way_xinit (K : PySem.W.Frag) (c : Cs) (kf : Kf K c) : ∀ ds μ Q, sp_Way_xinit c ds μ Q → w_Way_xinit K c { nx := fun _ μ' => ∃ μ2, Sub μ2 μ' ∧ Q .non μ2, rt := Q } (startD N_Way_xinit ds) μ := by
  rintro ds μ Q ⟨x, h, most, part, rfl, hp, hx, k⟩
  show w_Way_xinit K c _ [some (.ref x), some (.str (howS h)), some (nD' most), some (paD part), none] μ
  unfold w_Way_xinit
  walk_at "dx"
  rw [how_in h]
  refine ⟨by decide, rfl, rfl, ?_⟩
  walk_at "dx"
  have t1 : w_Way_xinit_t1 K c { nx := fun _ μ' => ∃ μ2, Sub μ2 μ' ∧ Q .non μ2, rt := Q } [some (.ref x), some (.str (howS h)), some (nD' most), some (paD part), none] μ := rd_Way_xinit_t1 kf hp hx fun z => end_eq k
  have t2 : w_Way_xinit_t2 K c { nx := fun _ μ' => ∃ μ2, Sub μ2 μ' ∧ Q .non μ2, rt := Q } [some (.ref x), some (.str (howS h)), some (nD' most), some (paD part), none] μ := by
    unfold w_Way_xinit_t2
    cases part with
    | none =>
      simp only [paD] at t1 ⊢
      walk_at "dx"
      exact t1
    | some l =>
      obtain ⟨hl1, hl2⟩ := hp l rfl
      simp only [paD] at t1 ⊢
      walk_at "dx"
      refine ⟨_, rfl, ?_⟩
      try walk_at "dx"
      refine lc_map (fun _ => .bl true) (by rw [List.length_map]; exact le_line (by omega)) ?_ ?_
      · intro i d μ' R hd _ hR
        rw [List.getElem?_map] at hd
        cases hk : l[i]? with
        | none => rw [hk] at hd; cases hd
        | some n =>
          rw [hk] at hd
          cases hd
          show (wgName 4) (.int (n : Nat)) _ _ _
          walk_at "dx"
          exact ⟨n, rfl, hR⟩
      · intro L hL
        rw [delS_setS hL]
        have e2 : ((l.map eNat.enc).map fun _ => D.bl true) = (l.map fun _ => true).map D.bl := by rw [List.map_map, List.map_map]; rfl
        rw [e2]
        simp only [Option.bind_some, blsD_map]
        have e3 : ((l.map fun _ => true).all id) = true := by simp
        rw [e3]
        try walk_at "dx"
        exact t1
  unfold w_Way_xinit_t3
  cases most with
  | none =>
    simp only [nD'] at t2 ⊢
    walk_at "dx"
    exact t2
  | some m =>
    simp only [nD'] at t2 ⊢
    walk_at "dx"
    refine ⟨m, rfl, ?_⟩
    try walk_at "dx"
    exact t2
theorem mak_Way_xinit_1 (T : Txt K mg c) : DMak P w K mg base 3 "Way" c.Way (sp_Way_xinit c) [.str "add", .non, .non] := by
  obtain ⟨t0, D⟩ := T.f_Way_xinit
  exact D.mak T.k_Way sc_Way_xinit (len_Way_xinit c) (fun cdv A outer s H E hr => dv_Way_xinit T cdv A outer s H E hr) (rd_Way_xinit K c T.kf) (fun F => F.binds 1 (ps := ["self", "how", "most", "part"]) (ds := [.str "add" t0, .none, .none]) (by simp) rfl fun _ _ _ _ _ _ _ us hl => match us, hl with | [_], _ => ⟨_, rfl, rfl⟩) (dvs := [.str "add", .non, .non]) (.cons (⟨_, rfl⟩) (.cons (rfl) (.cons (rfl) (.nil)))) (fun _ => .cons (.str _) (.cons (.non) (.cons (.non) (.nil))))
end
noncomputable def sp_need_stick (c : Cs) : DSp := fun ds μ Q => ∃ bs : List Bool, ds = [.str (stk bs)] ∧ bs ≠ [] ∧ bs.length ≤ 100000 ∧ Q .non μ
theorem len_need_stick (c : Cs) : ∀ ds μ Q, sp_need_stick c ds μ Q → ds.length = 1 := by
  rintro ds μ Q ⟨bs, rfl, _⟩
  rfl
noncomputable def w_need_stick (K : PySem.W.Frag) (c : Cs) : WS := wIfS (wNt (wTrv (wCall (sp_is_stick c) [] (wACons (wVar 0) (wANil))))) (wNever) (wNext)
section
variable {P : Program} {w : World} {K : PySem.W.Frag} {mg : Str → Option Value} {base : Heap} {c : Cs}
theorem dv_need_stick (T : Txt K mg c) {f : Addr} (cdv : Value) (A : Around) (outer : List PySem.Env) (s : Shared) (H : Hp) (E : XK) (hr : Room 1 (A.deeper (PyProof.Rows.envOfC "need_stick" (defScope s_need_stick) s.heap.objs.size f cdv))) : DSs (cxOf CX0 P w K mg base N_need_stick "need_stick" (defScope s_need_stick) f cdv A outer s H E).nox (defBody s_need_stick) (w_need_stick K c) := by
  have ND := sc_need_stick.nd
  have hu := hu_of hr
  have hu64 := hr.units
  have hu65 := units65 hr
  exact dss_one (ds_if (dt_not (dt_tru (de_cal (cal_is_stick T) hr (by decide) rfl (da_cons (de_var (pv 0)) (da_nil))) (fun _ => rfl))) (dss_one (ds_never)) (dss_nil))
theorem rd_need_stick (K : PySem.W.Frag) (c : Cs) : ∀ ds μ Q, sp_need_stick c ds μ Q → w_need_stick K c { nx := fun _ μ' => ∃ μ2, Sub μ2 μ' ∧ Q .non μ2, rt := Q } (startD N_need_stick ds) μ := by
  rintro ds μ Q ⟨bs, rfl, hne, hz, q⟩
  show w_need_stick K c _ [some (.str (stk bs))] μ
  unfold w_need_stick
  walk_at "dx"
  refine ⟨bs, rfl, hne, hz, ?_⟩
  walk_at "dx"
  exact end_eq q
theorem cal_need_stick (T : Txt K mg c) : DCal P w K mg base 2 "need_stick" (sp_need_stick c) [] := T.f_need_stick.cal (ps := ["value"]) sc_need_stick (len_need_stick c) (fun cdv A outer s H E hr => dv_need_stick T cdv A outer s H E hr) (rd_need_stick K c) fun _ _ _ _ _ _ us hl => match us, hl with | [_], _ => rfl
end
noncomputable def sp_Way_lets (c : Cs) : DSp := fun ds μ Q => ∃ (w : W3) (a b : List Bool) (is : List Nat), ds = [wayD c.Way w, .str (stk a), .str (stk b), .lst (is.map eNat.enc)] ∧ (∀ i ∈ is, i < a.length ∧ i < b.length) ∧ a.length ≤ 10000 ∧ b.length ≤ 10000 ∧ is.length ≤ 10000 ∧ Q (.bl (letsW w a b is)) μ
theorem len_Way_lets (c : Cs) : ∀ ds μ Q, sp_Way_lets c ds μ Q → ds.length = 4 := by
  rintro ds μ Q ⟨w, a, b, is, rfl, _⟩
  rfl
noncomputable def w_Way_lets_t1 (K : PySem.W.Frag) (c : Cs) : WS := wRet (wOrV (wOp oEq (wFld K "how" (wVar 0)) (wC (.str "mixed"))) (wCB oAll (wACons (wLc (wiSeq (wVar 3)) (wgName 4) (wYes) (wOp oEq (wIx (wVar 1) (wVar 4)) (wC (.str "x"))) [4]) (wANil))))
noncomputable def w_Way_lets_t2 (K : PySem.W.Frag) (c : Cs) : WS := wSeq (wIfS (wB (wOp oEq (wFld K "how" (wVar 0)) (wC (.str "add")))) (wRet (wCB oAll (wACons (wLc (wiSeq (wVar 3)) (wgName 4) (wYes) (wOp oEq (wIx (wVar 2) (wVar 4)) (wC (.str "x"))) [4]) (wANil)))) (wNext)) (w_Way_lets_t1 K c)
noncomputable def w_Way_lets_t3 (K : PySem.W.Frag) (c : Cs) : WS := wSeq (wIfS (wAnd (wB (wOp oIsNot (wFld K "part" (wVar 0)) (wC .non))) (wNt (wTrv (wCB oAll (wACons (wLc (wiSeq (wVar 3)) (wgName 4) (wYes) (wOp oIn (wVar 4) (wFld K "part" (wVar 0))) [4]) (wANil)))))) (wRet (wC (.bl false))) (wNext)) (w_Way_lets_t2 K c)
noncomputable def w_Way_lets (K : PySem.W.Frag) (c : Cs) : WS := wSeq (wIfS (wAnd (wB (wOp oIsNot (wFld K "most" (wVar 0)) (wC .non))) (wB (wOp oGt (wCB oLen (wACons (wVar 3) (wANil))) (wFld K "most" (wVar 0))))) (wRet (wC (.bl false))) (wNext)) (w_Way_lets_t3 K c)
section
variable {P : Program} {w : World} {K : PySem.W.Frag} {mg : Str → Option Value} {base : Heap} {c : Cs}
theorem dv_Way_lets (T : Txt K mg c) {f : Addr} (cdv : Value) (A : Around) (outer : List PySem.Env) (s : Shared) (H : Hp) (E : XK) (hr : Room 0 (A.deeper (PyProof.Rows.envOfC "Way.lets" (defScope s_Way_lets) s.heap.objs.size f cdv))) : DSs (cxOf CX0 P w K mg base N_Way_lets "Way.lets" (defScope s_Way_lets) f cdv A outer s H E).nox (defBody s_Way_lets) (w_Way_lets K c) := by
  have ND := sc_Way_lets.nd
  have hu := hu_of hr
  have hu64 := hr.units
  have hu65 := units65 hr
  exact dss_cons (ds_if (dt_w (dw_and (dt_cmp os_isNot (de_fld (de_var (pv 0)) rfl) (de_non) (nomark _)) (dw_and1 (dt_cmp os_gt (de_callB cs_len rfl T.b_len (by decide +kernel) (da_cons (de_var (pv 3)) (da_nil))) (de_fld (de_var (pv 0)) rfl) (nomark _))))) (dss_one (ds_ret (de_bl))) (dss_nil)) (dss_cons (ds_if (dt_w (dw_and (dt_cmp os_isNot (de_fld (de_var (pv 0)) rfl) (de_non) (nomark _)) (dw_and1 (dt_not (dt_tru (de_callB (cs_all rfl) rfl T.b_all (by decide +kernel) (da_cons (de_lc (own := [("at", 4)]) (g := gName 4) rfl ND (di_seq (de_var (pv 3))) (blkOk_by (own := [("at", 4)]) (N := N_Way_lets) (sc := defScope s_Way_lets) (by decide +kernel)) (gp_name (by decide)) (fun _ _ _ _ _ => pg_name (i := 4) ND rfl (by first | exact Or.inl rfl | exact Or.inr rfl)) (fun _ _ _ _ _ => dts_nil) (fun _ _ _ _ _ => de_cmp os_in (de_var (pv 4)) (de_fld (de_var (pv 0)) rfl) (by rfl))) (da_nil))) (fun _ => rfl)))))) (dss_one (ds_ret (de_bl))) (dss_nil)) (dss_cons (ds_if (dt_cmp (os_eq hu64) (de_fld (de_var (pv 0)) rfl) (de_str) (nomark _)) (dss_one (ds_ret (de_callB (cs_all rfl) rfl T.b_all (by decide +kernel) (da_cons (de_lc (own := [("at", 4)]) (g := gName 4) rfl ND (di_seq (de_var (pv 3))) (blkOk_by (own := [("at", 4)]) (N := N_Way_lets) (sc := defScope s_Way_lets) (by decide +kernel)) (gp_name (by decide)) (fun _ _ _ _ _ => pg_name (i := 4) ND rfl (by first | exact Or.inl rfl | exact Or.inr rfl)) (fun _ _ _ _ _ => dts_nil) (fun _ _ _ _ _ => de_cmp (os_eq hu64) (de_ix hu (de_var (pv 2)) (de_var (pv 4)) (fun _ _ => rfl)) (de_gs T.c_NOTCHED) (nomark _))) (da_nil))))) (dss_nil)) (dss_one (ds_ret (de_or (de_cmp (os_eq hu64) (de_fld (de_var (pv 0)) rfl) (de_str) (nomark _)) (de_one (de_callB (cs_all rfl) rfl T.b_all (by decide +kernel) (da_cons (de_lc (own := [("at", 4)]) (g := gName 4) rfl ND (di_seq (de_var (pv 3))) (blkOk_by (own := [("at", 4)]) (N := N_Way_lets) (sc := defScope s_Way_lets) (by decide +kernel)) (gp_name (by decide)) (fun _ _ _ _ _ => pg_name (i := 4) ND rfl (by first | exact Or.inl rfl | exact Or.inr rfl)) (fun _ _ _ _ _ => dts_nil) (fun _ _ _ _ _ => de_cmp (os_eq hu64) (de_ix hu (de_var (pv 1)) (de_var (pv 4)) (fun _ _ => rfl)) (de_gs T.c_NOTCHED) (nomark _))) (da_nil)))))))))
theorem all_at {is : List Nat} {b : List Bool} {μ : Store} {ρ : Dl.Env} {te : WE} {g : WG} {vs : List Nat} {fin : Addr → List D → Store → Prop} (hz : is.length ≤ 10000)
    (h : ∀ (i : Nat) (μ' : Store) (R : D → Store → Prop), i ∈ is → R (.bl (decide (b[i]? = some true))) μ' → g (.int (i : Nat)) (wipeE ρ vs) μ' fun ρ2 μ2 => te ρ2 μ2 R)
    (q : ∀ L, μ L = none → fin L ((is.map fun i => decide (b[i]? = some true)).map D.bl) (setS μ L (.lst ((is.map fun i => decide (b[i]? = some true)).map D.bl)))) : lcBody (is.map eNat.enc) g wYes te vs fin ρ μ := by
  refine lc_ix ((is.map fun i => decide (b[i]? = some true)).map D.bl) (by simp) (by rw [List.length_map]; exact le_line (by omega)) ?_ q
  intro j d y μ' R hd hy _ hR
  rw [List.getElem?_map] at hd
  rw [List.getElem?_map, List.getElem?_map] at hy
  cases hk : is[j]? with
  | none => rw [hk] at hd; cases hd
  | some i =>
    rw [hk] at hd hy
    cases hd
    cases hy
    exact h i μ' R (List.mem_of_getElem? hk) hR
theorem rd_Way_lets (K : PySem.W.Frag) (c : Cs) (kf : Kf K c) : ∀ ds μ Q, sp_Way_lets c ds μ Q → w_Way_lets K c { nx := fun _ μ' => ∃ μ2, Sub μ2 μ' ∧ Q .non μ2, rt := Q } (startD N_Way_lets ds) μ := by
  rintro ds μ Q ⟨w, a, b, is, rfl, hi, hza, hzb, hz2, k⟩
  show w_Way_lets K c _ [some (wayD c.Way w), some (.str (stk a)), some (.str (stk b)), some (.lst (is.map eNat.enc)), none] μ
  have ho := kf.o_Way_how
  have hm := kf.o_Way_most
  have hp := kf.o_Way_part
  unfold letsW at k
  have hzl : (is.map eNat.enc).length ≤ sizeLine := by rw [List.length_map]; exact le_line (by omega)
  have t1 : ∀ z, w.how ≠ .add → Q (.bl (okH w.how a b is)) μ → w_Way_lets_t1 K c { nx := fun _ μ' => ∃ μ2, Sub μ2 μ' ∧ Q .non μ2, rt := Q } [some (wayD c.Way w), some (.str (stk a)), some (.str (stk b)), some (.lst (is.map eNat.enc)), z] μ := fun z hne q => by
    unfold w_Way_lets_t1
    walk_at "dx"
    simp only [wFld, wVar, getD_z, wayD, insD, lk_how]
    refine ⟨ho, ?_⟩
    walk_at "dx"
    rw [how_mix]
    cases hh : w.how with
    | add => exact (hne hh).elim
    | mix =>
      rw [hh] at q
      simp only [decide_true]
      exact ret_eq q
    | lose =>
      rw [hh] at q
      have e : decide (How.lose = .mix) = false := rfl
      rw [e]
      simp only [stk_x]
      refine all_at (b := a) hz2 ?_ ?_
      · intro i μ' R him hR
        have hib := (hi i him).1
        obtain ⟨y, hy⟩ : ∃ y, a[i]? = some y := ⟨a[i], List.getElem?_eq_getElem hib⟩
        walk_at "dx"
        rw [stk_at hy]
        refine ⟨by rw [stk_len]; exact le_line (by omega), ?_⟩
        rw [one_stk, stk_beq]
        rw [hy] at hR
        cases y <;> exact hR
      · intro L hL
        rw [delS_setS hL]
        simp only [Option.bind_some, blsD_map]
        rw [List.all_map]
        exact ret_eq q
  have t2 : ∀ z, Q (.bl (okH w.how a b is)) μ → w_Way_lets_t2 K c { nx := fun _ μ' => ∃ μ2, Sub μ2 μ' ∧ Q .non μ2, rt := Q } [some (wayD c.Way w), some (.str (stk a)), some (.str (stk b)), some (.lst (is.map eNat.enc)), z] μ := fun z q => by
    unfold w_Way_lets_t2
    walk_at "dx"
    simp only [wFld, wVar, getD_z, insD, wayD, lk_how]
    refine ⟨ho, ?_⟩
    walk_at "dx"
    rw [how_add]
    by_cases hh : w.how = .add
    · rw [decide_eq_true hh]
      simp only [if_true, stk_x]
      rw [hh] at q
      refine all_at (b := b) hz2 ?_ ?_
      · intro i μ' R him hR
        have hib := (hi i him).2
        obtain ⟨y, hy⟩ : ∃ y, b[i]? = some y := ⟨b[i], List.getElem?_eq_getElem hib⟩
        walk_at "dx"
        rw [stk_at hy]
        refine ⟨by rw [stk_len]; exact le_line (by omega), ?_⟩
        rw [one_stk, stk_beq]
        rw [hy] at hR
        cases y <;> exact hR
      · intro L hL
        rw [delS_setS hL]
        simp only [Option.bind_some, blsD_map]
        rw [List.all_map]
        exact ret_eq q
    · rw [decide_eq_false hh]
      simp only [Bool.false_eq_true, if_false]
      exact t1 z hh q
  have t3 : ∀ z, Q (.bl (okP w.part is && okH w.how a b is)) μ → w_Way_lets_t3 K c { nx := fun _ μ' => ∃ μ2, Sub μ2 μ' ∧ Q .non μ2, rt := Q } [some (wayD c.Way w), some (.str (stk a)), some (.str (stk b)), some (.lst (is.map eNat.enc)), z] μ := fun z q => by
    unfold w_Way_lets_t3
    walk_at "dx"
    simp only [wFld, wVar, getD_z, insD, wayD, lk_part]
    refine ⟨hp, ?_⟩
    cases hw : w.part with
    | none =>
      rw [hw] at q
      simp only [ptD]
      walk_at "dx"
      have := t2 z q
      unfold wayD at this
      rw [hw] at this
      exact this
    | some l =>
      rw [hw] at q
      simp only [ptD]
      walk_at "dx"
      refine lc_ix ((is.map fun i => decide (i ∈ l)).map D.bl) (by simp) hzl ?_ ?_
      · intro j d y μ' R hd hy _ hR
        rw [List.getElem?_map] at hd
        rw [List.getElem?_map, List.getElem?_map] at hy
        cases hk : is[j]? with
        | none => rw [hk] at hd; cases hd
        | some i =>
          rw [hk] at hd hy
          cases hd
          cases hy
          show (wgName 4) (.int (i : Nat)) _ _ _
          walk_at "dx"
          simp only [wFld, wVar, getD_z, insD, lk_part]
          refine ⟨hp, ?_⟩
          have hfl : ∀ l : List Nat, (l.map eNat.enc).all flatD = true := fun l => by rw [List.all_map, List.all_eq_true]; intro i _; rfl
          try walk_at "dx"
          refine ⟨rfl, hfl l, ?_⟩
          rw [in_nats]
          exact hR
      · intro L hL
        rw [delS_setS hL]
        simp only [Option.bind_some, blsD_map]
        rw [List.all_map]
        have q2 : Q (.bl (is.all (id ∘ fun i => decide (i ∈ l)) && okH w.how a b is)) μ := q
        try walk_at "dx"
        cases hall : is.all (id ∘ fun i => decide (i ∈ l)) with
        | false =>
          rw [hall] at q2
          try simp only [if_true, Bool.not_false]
          exact ret_eq q2
        | true =>
          rw [hall] at q2
          try simp only [Bool.true_eq_false, if_false, Bool.not_true, Bool.false_eq_true]
          have := t2 z q2
          unfold wayD at this
          rw [hw] at this
          exact this
  unfold w_Way_lets
  walk_at "dx"
  simp only [wFld, wVar, getD_z, wayD, insD, lk_most]
  refine ⟨hm, ?_⟩
  cases hw : w.most with
  | none =>
    rw [hw] at k
    simp only [nD']
    walk_at "dx"
    have := t3 none k
    unfold wayD at this
    rw [hw] at this
    exact this
  | some m =>
    rw [hw] at k
    simp only [nD']
    walk_at "dx"
    refine ⟨hm, ?_⟩
    try walk_at "dx"
    rw [List.length_map]
    by_cases hlt : m < is.length
    · rw [if_pos (by omega)]
      have e : okM (some m) is.length = false := decide_eq_false (by omega)
      rw [e] at k
      exact ret_eq k
    · rw [if_neg (by omega)]
      have e : okM (some m) is.length = true := decide_eq_true (by omega)
      rw [e] at k
      have := t3 none k
      unfold wayD at this
      rw [hw] at this
      exact this
theorem met_Way_lets_4 (T : Txt K mg c) : DMet P w K mg base 1 c.Way "lets" (sp_Way_lets c) [] := by
  have D := T.f_Way_lets
  exact D.met T.k_Way.cl sc_Way_lets (len_Way_lets c) (fun cdv A outer s H E hr => dv_Way_lets T cdv A outer s H E hr) (rd_Way_lets K c T.kf) (fun F => F.binds0 (ps := ["self", "one", "other", "places"]) fun _ _ _ _ _ _ us hl => match us, hl with | [_, _, _, _], _ => rfl) (dvs := []) (.nil) (fun _ => .nil)
end
noncomputable def sp_Way_can (c : Cs) : DSp := fun ds μ Q => ∃ (w : W3) (a b : List Bool), ds = [wayD c.Way w, .str (stk a), .str (stk b)] ∧ a ≠ [] ∧ b ≠ [] ∧ a.length ≤ 10000 ∧ b.length ≤ 10000 ∧ Q (.bl (canW w a b)) μ
theorem len_Way_can (c : Cs) : ∀ ds μ Q, sp_Way_can c ds μ Q → ds.length = 3 := by
  rintro ds μ Q ⟨w, a, b, rfl, _⟩
  rfl
noncomputable def w_Way_can_t1 (K : PySem.W.Frag) (c : Cs) : WS := wRet (wMeth c.Way "lets" (sp_Way_lets c) [] (wVar 0) (wACons (wVar 1) (wACons (wVar 2) (wACons (wLc (wiRng1 (wACons (wCB oLen (wACons (wVar 1) (wANil))) (wANil))) (wgName 3) (wB (wOp oNe (wIx (wVar 1) (wVar 3)) (wIx (wVar 2) (wVar 3)))) (wVar 3) [3]) (wANil)))))
noncomputable def w_Way_can (K : PySem.W.Frag) (c : Cs) : WS := wSeq (wDrop (wCall (sp_need_stick c) [] (wACons (wVar 1) (wANil)))) (wSeq (wDrop (wCall (sp_need_stick c) [] (wACons (wVar 2) (wANil)))) (wSeq (wIfS (wB (wOp oNe (wCB oLen (wACons (wVar 1) (wANil))) (wCB oLen (wACons (wVar 2) (wANil))))) (wRet (wC (.bl false))) (wNext)) (w_Way_can_t1 K c)))
section
variable {P : Program} {w : World} {K : PySem.W.Frag} {mg : Str → Option Value} {base : Heap} {c : Cs}
theorem dv_Way_can (T : Txt K mg c) {f : Addr} (cdv : Value) (A : Around) (outer : List PySem.Env) (s : Shared) (H : Hp) (E : XK) (hr : Room 2 (A.deeper (PyProof.Rows.envOfC "Way.can" (defScope s_Way_can) s.heap.objs.size f cdv))) : DSs (cxOf CX0 P w K mg base N_Way_can "Way.can" (defScope s_Way_can) f cdv A outer s H E).nox (defBody s_Way_can) (w_Way_can K c) := by
  have ND := sc_Way_can.nd
  have hu := hu_of hr
  have hu64 := hr.units
  have hu65 := units65 hr
  exact dss_cons (ds_expr (de_cal (cal_need_stick T) hr (by decide) rfl (da_cons (de_var (pv 1)) (da_nil)))) (dss_cons (ds_expr (de_cal (cal_need_stick T) hr (by decide) rfl (da_cons (de_var (pv 2)) (da_nil)))) (dss_cons (ds_if (dt_cmp (os_ne hu64) (de_callB cs_len rfl T.b_len (by decide +kernel) (da_cons (de_var (pv 1)) (da_nil))) (de_callB cs_len rfl T.b_len (by decide +kernel) (da_cons (de_var (pv 2)) (da_nil))) (nomark _)) (dss_one (ds_ret (de_bl))) (dss_nil)) (dss_one (ds_ret (de_met (met_Way_lets_4 T) hr (by decide) (de_var (pv 0)) (da_cons (de_var (pv 1)) (da_cons (de_var (pv 2)) (da_cons (de_lc (own := [("at", 3)]) (g := gName 3) rfl ND (di_range1 rfl T.b_range (da_cons (de_callB cs_len rfl T.b_len (by decide +kernel) (da_cons (de_var (pv 1)) (da_nil))) (da_nil))) (blkOk_by (own := [("at", 3)]) (N := N_Way_can) (sc := defScope s_Way_can) (by decide +kernel)) (gp_name (by decide)) (fun _ _ _ _ _ => pg_name (i := 3) ND rfl (by first | exact Or.inl rfl | exact Or.inr rfl)) (fun _ _ _ _ _ => dts_one (dt_cmp (os_ne hu64) (de_ix hu (de_var (pv 1)) (de_var (pv 3)) (fun _ _ => rfl)) (de_ix hu (de_var (pv 2)) (de_var (pv 3)) (fun _ _ => rfl)) (nomark _))) (fun _ _ _ _ _ => de_var (pv 3))) (da_nil)))))))))
theorem rd_Way_can (K : PySem.W.Frag) (c : Cs) : ∀ ds μ Q, sp_Way_can c ds μ Q → w_Way_can K c { nx := fun _ μ' => ∃ μ2, Sub μ2 μ' ∧ Q .non μ2, rt := Q } (startD N_Way_can ds) μ := by
  rintro ds μ Q ⟨w, a, b, rfl, hne, hneb, hz, hzb, k⟩
  show w_Way_can K c _ [some (wayD c.Way w), some (.str (stk a)), some (.str (stk b)), none] μ
  unfold canW at k
  unfold w_Way_can
  walk_at "dx"
  refine ⟨a, rfl, hne, by omega, b, rfl, hneb, by omega, ?_⟩
  walk_at "dx"
  rw [stk_len, stk_len]
  refine ⟨le_line (by omega), le_line (by omega), ?_⟩
  by_cases hl : a.length = b.length
  · rw [decide_eq_true hl] at k
    rw [if_neg (by omega)]
    unfold w_Way_can_t1
    simp only [wRet, wMeth, wVar, getD_z, getD_s, wayD, insD]
    refine ⟨trivial, lk_lets, ?_⟩
    walk_at "dx"
    have el : ((a.length : Int)).toNat = a.length := by omega
    rw [stk_len, el]
    have hzl : (rng 0 a.length).length ≤ sizeLine := by rw [rng_length]; exact le_line (by omega)
    refine ⟨le_line (by omega), ⟨by omega, by omega⟩, lc_fmap (difF a b) hzl ?_ ?_⟩
    · intro j d μ' R R' hd _ hR hR'
      obtain ⟨hj, rfl⟩ := rng_inv hd
      obtain ⟨x, hx⟩ : ∃ x, a[j]? = some x := ⟨a[j], List.getElem?_eq_getElem hj⟩
      obtain ⟨y, hy⟩ : ∃ y, b[j]? = some y := ⟨b[j]'(by omega), List.getElem?_eq_getElem (by omega)⟩
      walk_at "dx"
      rw [zero_add_nat, stk_at hx, stk_at hy]
      have e : difF a b (D.int (j : Nat)) = if (!decide (a[j]? = b[j]?)) = true then some (D.int (j : Nat)) else none := rfl
      rw [zero_add_nat] at hR hR'
      rw [hx, hy] at e
      refine ⟨by rw [stk_len]; exact le_line (by omega), by rw [stk_len]; exact le_line (by omega), ?_⟩
      rw [one_stk, one_stk, stk_beq]
      by_cases q : x = y
      · subst q
        simpa using hR' (by simpa using e)
      · have q2 : ¬ ([x] = [y]) := by simpa using q
        have q3 : decide ([x] = [y]) = false := decide_eq_false q2
        rw [q3]
        exact hR _ (by rw [e]; simp [q])
    · intro L hL
      rw [delS_setS hL, dif_pick]
      refine ⟨w, a, b, dif a b, rfl, fun i hi => ?_, by omega, by omega, ?_, ret_eq k⟩
      · have : i < a.length := by simpa using (List.mem_filter.mp hi).1
        omega
      · have := List.length_filter_le (fun i => !decide (a[i]? = b[i]?)) (List.range a.length)
        rw [List.length_range] at this
        exact Nat.le_trans this hz
  · rw [decide_eq_false hl] at k
    rw [if_pos (by omega)]
    exact ret_eq k
theorem met_Way_can_3 (T : Txt K mg c) : DMet P w K mg base 3 c.Way "can" (sp_Way_can c) [] := by
  have D := T.f_Way_can
  exact D.met T.k_Way.cl sc_Way_can (len_Way_can c) (fun cdv A outer s H E hr => dv_Way_can T cdv A outer s H E hr) (rd_Way_can K c) (fun F => F.binds0 (ps := ["self", "one", "other"]) fun _ _ _ _ _ _ us hl => match us, hl with | [_, _, _], _ => rfl) (dvs := []) (.nil) (fun _ => .nil)
end
noncomputable def sp_origins (c : Cs) : DSp := fun ds μ Q => ∃ (es : List Ent) (w : W3) (s : List Bool), ds = [bkD c.Book es, .str (stk s), wayD c.Way w] ∧ Good es ∧ s ≠ [] ∧ s.length ≤ 1000 ∧ Q (.tup ((orgs es w s).map eNat.enc)) μ
theorem len_origins (c : Cs) : ∀ ds μ Q, sp_origins c ds μ Q → ds.length = 3 := by
  rintro ds μ Q ⟨es, w, s, rfl, _⟩
  rfl
noncomputable def w_origins (K : PySem.W.Frag) (c : Cs) : WS := wSeq (wDrop (wCall (sp_need_stick c) [] (wACons (wVar 1) (wANil)))) (wRet (wCB oTuple (wACons (wLc (wiSeq (wFld K "entries" (wVar 0))) (wgTup 2 (wgCons (wgName 3) (wgCons (wgName 4) (wgNil)))) (wTrv (wMeth c.Way "can" (sp_Way_can c) [] (wVar 2) (wACons (wVar 4) (wACons (wVar 1) (wANil))))) (wVar 3) [3, 4]) (wANil))))
section
variable {P : Program} {w : World} {K : PySem.W.Frag} {mg : Str → Option Value} {base : Heap} {c : Cs}
theorem dv_origins (T : Txt K mg c) {f : Addr} (cdv : Value) (A : Around) (outer : List PySem.Env) (s : Shared) (H : Hp) (E : XK) (hr : Room 3 (A.deeper (PyProof.Rows.envOfC "origins" (defScope s_origins) s.heap.objs.size f cdv))) : DSs (cxOf CX0 P w K mg base N_origins "origins" (defScope s_origins) f cdv A outer s H E).nox (defBody s_origins) (w_origins K c) := by
  have ND := sc_origins.nd
  have hu := hu_of hr
  have hu64 := hr.units
  have hu65 := units65 hr
  exact dss_cons (ds_expr (de_cal (cal_need_stick T) hr (by decide) rfl (da_cons (de_var (pv 1)) (da_nil)))) (dss_one (ds_ret (de_callTy cs_tuple rfl T.b_tuple (by decide +kernel) (da_cons (de_lc (own := [("number", 3), ("first", 4)]) (g := gTup K 2 (gCons (gName 3) (gCons (gName 4) (gNil)))) rfl ND (di_seq (de_fld (de_var (pv 0)) rfl)) (blkOk_by (own := [("number", 3), ("first", 4)]) (N := N_origins) (sc := defScope s_origins) (by decide +kernel)) (gp_tup (gp_cons (gp_name (by decide)) (gp_cons (gp_name (by decide)) (gp_nil)))) (fun _ _ _ _ _ => pg_tup rfl (pgs_cons (pg_name (i := 3) ND rfl (by first | exact Or.inl rfl | exact Or.inr rfl)) (pgs_cons (pg_name (i := 4) ND rfl (by first | exact Or.inl rfl | exact Or.inr rfl)) (pgs_nil)))) (fun _ _ _ _ _ => dts_one (dt_tru (de_met (met_Way_can_3 T) hr (by decide) (de_var (pv 2)) (da_cons (de_var (pv 4)) (da_cons (de_var (pv 1)) (da_nil)))) (fun _ => rfl))) (fun _ _ _ _ _ => de_var (pv 3))) (da_nil)))))
theorem rd_origins (K : PySem.W.Frag) (c : Cs) (kf : Kf K c) : ∀ ds μ Q, sp_origins c ds μ Q → w_origins K c { nx := fun _ μ' => ∃ μ2, Sub μ2 μ' ∧ Q .non μ2, rt := Q } (startD N_origins ds) μ := by
  rintro ds μ Q ⟨es, w, s, rfl, ok, hs, hz, k⟩
  show w_origins K c _ [some (bkD c.Book es), some (.str (stk s)), some (wayD c.Way w), none, none] μ
  have hsz := ok.sz
  unfold w_origins
  walk_at "dz"
  refine ⟨s, rfl, hs, by omega, ?_⟩
  unfold bkD bkF
  walk_at "dz"
  rw [lk_ent]
  refine ⟨kf.o_Book_entries, ?_⟩
  walk_at "dz"
  refine lc_ty (enc := entD) (fun b => (if canW w b.2 s = true then some b.1 else none).map eNat.enc) (le_line (by omega)) ?_ ?_
  · intro j b μ2 R R' hb _ hR hR'
    obtain ⟨hj, hmb⟩ := getS hb
    obtain ⟨hneb, hzb⟩ := ok.st b hmb
    unfold entD wayD
    walk_at "dz"
    refine ⟨rfl, lk_can, w, b.2, s, rfl, hneb, hs, by omega, by omega, ?_⟩
    walk_at "dz"
    cases hc : canW w b.2 s with
    | true =>
      rw [if_pos rfl]
      exact hR _ (by rw [if_pos hc]; rfl)
    | false =>
      rw [if_neg (by simp)]
      exact hR' (by rw [if_neg (fun q => by rw [hc] at q; exact Bool.false_ne_true q)]; rfl)
  · intro L hL
    have hfm : es.filterMap (fun b => (if canW w b.2 s = true then some b.1 else none).map eNat.enc) = (orgs es w s).map eNat.enc := by
      unfold orgs
      rw [List.map_filterMap]
    rw [delS_setS hL, hfm]
    exact ret_eq k
theorem cal_origins (T : Txt K mg c) : DCal P w K mg base 4 "origins" (sp_origins c) [] := T.f_origins.cal (ps := ["book", "stick", "way"]) sc_origins (len_origins c) (fun cdv A outer s H E hr => dv_origins T cdv A outer s H E hr) (rd_origins K c T.kf) fun _ _ _ _ _ _ us hl => match us, hl with | [_, _, _], _ => rfl
end
noncomputable def sp_told_sums (c : Cs) : DSp := fun ds μ Q => ∃ (es : List Ent) (w : W3) (s : List Bool), ds = [bkD c.Book es, .str (stk s), wayD c.Way w] ∧ Good es ∧ s ≠ [] ∧ s.length ≤ 1000 ∧ Q (endsD (orgs es w s)) μ
theorem len_told_sums (c : Cs) : ∀ ds μ Q, sp_told_sums c ds μ Q → ds.length = 3 := by
  rintro ds μ Q ⟨es, w, s, rfl, _⟩
  rfl
noncomputable def w_told_sums (K : PySem.W.Frag) (c : Cs) : WS := wSeq (wAsg (wCall (sp_origins c) [] (wACons (wVar 0) (wACons (wVar 1) (wACons (wVar 2) (wANil))))) (wgName 3)) (wRet (wIf (wB (wOp oGt (wCB oLen (wACons (wVar 3) (wANil))) (wC (.int 0)))) (wTup (wACons (wIx (wVar 3) (wC (.int 0))) (wACons (wIx (wVar 3) (wNeg (wC (.int 1)))) (wANil)))) (wC .non)))
section
variable {P : Program} {w : World} {K : PySem.W.Frag} {mg : Str → Option Value} {base : Heap} {c : Cs}
theorem dv_told_sums (T : Txt K mg c) {f : Addr} (cdv : Value) (A : Around) (outer : List PySem.Env) (s : Shared) (H : Hp) (E : XK) (hr : Room 4 (A.deeper (PyProof.Rows.envOfC "told_sums" (defScope s_told_sums) s.heap.objs.size f cdv))) : DSs (cxOf CX0 P w K mg base N_told_sums "told_sums" (defScope s_told_sums) f cdv A outer s H E).nox (defBody s_told_sums) (w_told_sums K c) := by
  have ND := sc_told_sums.nd
  have hu := hu_of hr
  have hu64 := hr.units
  have hu65 := units65 hr
  exact dss_cons (ds_set (i := 3) ND rfl (Or.inl rfl) (de_cal (cal_origins T) hr (by decide) rfl (da_cons (de_var (pv 0)) (da_cons (de_var (pv 1)) (da_cons (de_var (pv 2)) (da_nil)))))) (dss_one (ds_ret (de_if (dt_cmp os_gt (de_callB cs_len rfl T.b_len (by decide +kernel) (da_cons (de_var (pv 3)) (da_nil))) (de_int) (nomark _)) (de_tup (da_cons (de_ix hu (de_var (pv 3)) (de_int) (fun _ _ => rfl)) (da_cons (de_ix hu (de_var (pv 3)) (de_neg (de_int)) (fun _ _ => rfl)) (da_nil)))) (de_non))))
theorem rd_told_sums (K : PySem.W.Frag) (c : Cs) : ∀ ds μ Q, sp_told_sums c ds μ Q → w_told_sums K c { nx := fun _ μ' => ∃ μ2, Sub μ2 μ' ∧ Q .non μ2, rt := Q } (startD N_told_sums ds) μ := by
  rintro ds μ Q ⟨es, w, s, rfl, ok, hs, hz, k⟩
  show w_told_sums K c _ [some (bkD c.Book es), some (.str (stk s)), some (wayD c.Way w), none] μ
  unfold w_told_sums
  walk_at "dz"
  refine ⟨es, w, s, rfl, ok, hs, hz, ?_⟩
  walk_at "dz"
  cases h : orgs es w s with
  | nil =>
    rw [h] at k
    rw [if_neg (by simp)]
    exact ret_eq k
  | cons a r =>
    rw [h] at k
    rw [if_pos (by simp)]
    walk_at "dz"
    rw [List.map_cons, atI_hd]
    walk_at "dz"
    rw [← List.map_cons, last_map (a :: r) (by simp)]
    exact ⟨le_line (Nat.le_of_ble_eq_true rfl), ret_eq k⟩
theorem cal_told_sums (T : Txt K mg c) : DCal P w K mg base 5 "told_sums" (sp_told_sums c) [] := T.f_told_sums.cal (ps := ["book", "stick", "way"]) sc_told_sums (len_told_sums c) (fun cdv A outer s H E hr => dv_told_sums T cdv A outer s H E hr) (rd_told_sums K c) fun _ _ _ _ _ _ us hl => match us, hl with | [_, _, _], _ => rfl
end
noncomputable def sp_Book_sum_of (c : Cs) : DSp := fun ds μ Q => ∃ (es : List Ent) (s : List Bool), ds = [bkD c.Book es, .str (stk s)] ∧ Good es ∧ s.length ≤ 1000 ∧ ((∃ e ∈ es, e.2 = s ∧ Q (.int (e.1 : Nat)) μ) ∨ (s ∉ es.map (·.2) ∧ Q .non μ))
theorem len_Book_sum_of (c : Cs) : ∀ ds μ Q, sp_Book_sum_of c ds μ Q → ds.length = 2 := by
  rintro ds μ Q ⟨es, s, rfl, _⟩
  rfl
noncomputable def w_Book_sum_of_b1 (K : PySem.W.Frag) (c : Cs) : WS := wIfS (wAnd (wTrv (wCB oIsi (wACons (wVar 1) (wACons (wC (.ty "str")) (wANil))))) (wB (wOp oEq (wVar 3) (wVar 1)))) (wRet (wVar 2)) (wNext)
noncomputable def w_Book_sum_of (K : PySem.W.Frag) (c : Cs) : WS := wSeq (wFor (wiSeq (wFld K "entries" (wVar 0))) (wgTup 2 (wgCons (wgName 2) (wgCons (wgName 3) (wgNil)))) (w_Book_sum_of_b1 K c)) (wRet (wC .non))
section
variable {P : Program} {w : World} {K : PySem.W.Frag} {mg : Str → Option Value} {base : Heap} {c : Cs}
theorem dv_Book_sum_of (T : Txt K mg c) {f : Addr} (cdv : Value) (A : Around) (outer : List PySem.Env) (s : Shared) (H : Hp) (E : XK) (hr : Room 0 (A.deeper (PyProof.Rows.envOfC "Book.sum_of" (defScope s_Book_sum_of) s.heap.objs.size f cdv))) : DSs (cxOf CX0 P w K mg base N_Book_sum_of "Book.sum_of" (defScope s_Book_sum_of) f cdv A outer s H E).nox (defBody s_Book_sum_of) (w_Book_sum_of K c) := by
  have ND := sc_Book_sum_of.nd
  have hu := hu_of hr
  have hu64 := hr.units
  have hu65 := units65 hr
  exact dss_cons (ds_for PassesOwn.never rfl (di_seq (de_fld (de_var (pv 0)) rfl)) (dg_pat (vs := [2, 3]) (g := gTup K 2 (gCons (gName 2) (gCons (gName 3) (gNil)))) (pg_tup rfl (pgs_cons (pg_name (i := 2) ND rfl (by first | exact Or.inl rfl | exact Or.inr rfl)) (pgs_cons (pg_name (i := 3) ND rfl (by first | exact Or.inl rfl | exact Or.inr rfl)) (pgs_nil)))) (gp_tup (gp_cons (gp_name (by decide)) (gp_cons (gp_name (by decide)) (gp_nil))))) (dss_one (ds_if (dt_w (dw_and (dt_tru (de_callB cs_isi rfl T.b_isinstance (by decide +kernel) (da_cons (de_var (pv 1)) (da_cons (de_ty (n := "str") rfl T.b_str (by decide +kernel)) (da_nil)))) (fun _ => rfl)) (dw_and1 (dt_cmp (os_eq hu64) (de_var (pv 3)) (de_var (pv 1)) (nomark _))))) (dss_one (ds_ret (de_var (pv 2)))) (dss_nil)))) (dss_one (ds_ret (de_non)))
theorem rd_Book_sum_of (K : PySem.W.Frag) (c : Cs) (kf : Kf K c) : ∀ ds μ Q, sp_Book_sum_of c ds μ Q → w_Book_sum_of K c { nx := fun _ μ' => ∃ μ2, Sub μ2 μ' ∧ Q .non μ2, rt := Q } (startD N_Book_sum_of ds) μ := by
  rintro ds μ Q ⟨es, s, rfl, ok, hz, k⟩
  show w_Book_sum_of K c _ [some (bkD c.Book es), some (.str (stk s)), none, none] μ
  unfold w_Book_sum_of bkD bkF
  walk_at "dz"
  rw [lk_ent]
  refine ⟨kf.o_Book_entries, ?_⟩
  walk_at "dz"
  refine for_ty (enc := entD) (fun i ρ μ' => μ' = μ ∧ s ∉ (es.take i).map (·.2) ∧ ∃ a b, ρ = [some _, some (.str (stk s)), a, b]) ⟨rfl, by simp, _, _, rfl⟩ ?_ ?_
  · rintro i x ρ μ' hx ⟨rfl, hn, a, b, rfl⟩
    obtain ⟨hi, hm⟩ := getS hx
    unfold entD
    walk_at "dz"
    refine ⟨rfl, ?_⟩
    unfold w_Book_sum_of_b1
    walk_at "dz"
    rw [stk_beq]
    by_cases h1 : x.2 = s
    · rw [if_pos (decide_eq_true h1)]
      rcases k with ⟨e, he, hes, k⟩ | ⟨hn2, _⟩
      · have := nodup_snd ok.ns hm he (h1.trans hes.symm)
        subst this
        exact ret_eq k
      · exact absurd (List.mem_map.mpr ⟨x, hm, h1⟩) hn2
    · rw [decide_eq_false h1, if_neg Bool.false_ne_true]
      refine ⟨?_, _, _, rfl⟩
      rw [List.take_add_one, hx, List.map_append]
      intro q
      rcases List.mem_append.mp q with q | q
      · exact hn q
      · simp at q; exact h1 q.symm
  · rintro ρ μ' ⟨rfl, hn, a, b, rfl⟩
    rw [List.take_length] at hn
    walk_at "dz"
    rcases k with ⟨e, he, hes, _⟩ | ⟨_, k⟩
    · exact absurd (List.mem_map.mpr ⟨e, he, hes⟩) hn
    · exact ret_eq k
theorem met_Book_sum_of_2 (T : Txt K mg c) : DMet P w K mg base 1 c.Book "sum_of" (sp_Book_sum_of c) [] := by
  have D := T.f_Book_sum_of
  exact D.met T.k_Book.cl sc_Book_sum_of (len_Book_sum_of c) (fun cdv A outer s H E hr => dv_Book_sum_of T cdv A outer s H E hr) (rd_Book_sum_of K c T.kf) (fun F => F.binds0 (ps := ["self", "value"]) fun _ _ _ _ _ _ us hl => match us, hl with | [_, _], _ => rfl) (dvs := []) (.nil) (fun _ => .nil)
end
noncomputable def sp_Ledger_show (c : Cs) : DSp := fun ds μ Q => ∃ (x : Addr) (es : List Ent) (past : List (List (List Bool))) (ss : List (List Bool)) (r : List (Str × D)), ds = [.ref x, skD ss] ∧ Good es ∧ AllOk es ss ∧ (r = [] ∨ ∃ a b d, r = ldR a b d) ∧ μ x = some (.ins c.Ledger (ldH c.Book es past r)) ∧ Q .non (setS μ x (.ins c.Ledger (ldF c.Book es past ss)))
theorem len_Ledger_show (c : Cs) : ∀ ds μ Q, sp_Ledger_show c ds μ Q → ds.length = 2 := by
  rintro ds μ Q ⟨x, es, past, ss, r, rfl, _⟩
  rfl
noncomputable def w_Ledger_show (K : PySem.W.Frag) (c : Cs) : WS := wSeq (wSetF K "sticks" (wVar 0) (wVar 1)) (wSeq (wSetF K "sums" (wVar 0) (wCB oTuple (wACons (wLc (wiSeq (wVar 1)) (wgName 3) (wYes) (wMeth c.Book "sum_of" (sp_Book_sum_of c) [] (wFld K "book" (wVar 0)) (wACons (wVar 3) (wANil))) [3]) (wANil)))) (wSeq (wAsg (wLc (wiSeq (wVar 1)) (wgName 3) (wYes) (wCall (sp_told_sums c) [] (wACons (wFld K "book" (wVar 0)) (wACons (wVar 3) (wACons (wMake c.Way (sp_Way_xinit c) [.str "add", .non, .non] (wANil)) (wANil))))) [3]) (wgName 2)) (wSetF K "totals" (wVar 0) (wTup (wACons (wCB oSum (wACons (wLc (wiSeq (wVar 2)) (wgName 4) (wYes) (wIx (wVar 4) (wC (.int 0))) [4]) (wANil))) (wACons (wCB oSum (wACons (wLc (wiSeq (wVar 2)) (wgName 4) (wYes) (wIx (wVar 4) (wC (.int 1))) [4]) (wANil))) (wANil)))))))
section
variable {P : Program} {w : World} {K : PySem.W.Frag} {mg : Str → Option Value} {base : Heap} {c : Cs}
theorem dv_Ledger_show (T : Txt K mg c) {f : Addr} (cdv : Value) (A : Around) (outer : List PySem.Env) (s : Shared) (H : Hp) (E : XK) (hr : Room 5 (A.deeper (PyProof.Rows.envOfC "Ledger.show" (defScope s_Ledger_show) s.heap.objs.size f cdv))) : DSs (cxOf CX0 P w K mg base N_Ledger_show "Ledger.show" (defScope s_Ledger_show) f cdv A outer s H E).nox (defBody s_Ledger_show) (w_Ledger_show K c) := by
  have ND := sc_Ledger_show.nd
  have hu := hu_of hr
  have hu64 := hr.units
  have hu65 := units65 hr
  exact dss_cons (ds_fld (de_var (pv 0)) (de_var (pv 1))) (dss_cons (ds_fld (de_var (pv 0)) (de_callTy cs_tuple rfl T.b_tuple (by decide +kernel) (da_cons (de_lc (own := [("stick", 3)]) (g := gName 3) rfl ND (di_seq (de_var (pv 1))) (blkOk_by (own := [("stick", 3)]) (N := N_Ledger_show) (sc := defScope s_Ledger_show) (by decide +kernel)) (gp_name (by decide)) (fun _ _ _ _ _ => pg_name (i := 3) ND rfl (by first | exact Or.inl rfl | exact Or.inr rfl)) (fun _ _ _ _ _ => dts_nil) (fun _ _ _ _ _ => de_met (met_Book_sum_of_2 T) hr (by decide) (de_fld (de_var (pv 0)) rfl) (da_cons (de_var (pv 3)) (da_nil)))) (da_nil)))) (dss_cons (ds_setLc (i := 2) (own := [("stick", 3)]) (g := gName 3) rfl ND rfl rfl (sw_true rfl rfl rfl (by decide +kernel)) (di_seq (de_var (pv 1))) (blkOk_by (own := [("stick", 3)]) (N := N_Ledger_show) (sc := defScope s_Ledger_show) (by decide +kernel)) (gp_name (by decide)) (fun _ _ _ _ _ => pg_name (i := 3) ND rfl (by first | exact Or.inl rfl | exact Or.inr rfl)) (fun _ _ _ _ _ => dts_nil) (fun _ _ _ _ _ => de_cal (cal_told_sums T) hr (by decide) rfl (da_cons (de_fld (de_var (pv 0)) rfl) (da_cons (de_var (pv 3)) (da_cons (de_mak0 (mak_Way_xinit_1 T) hr (by decide) rfl) (da_nil)))))) (dss_one (ds_fld (de_var (pv 0)) (de_tup (da_cons (de_callB (cs_sum rfl) rfl T.b_sum (by decide +kernel) (da_cons (de_lc (own := [("pair", 4)]) (g := gName 4) rfl ND (di_seq (de_var (pv 2))) (blkOk_by (own := [("pair", 4)]) (N := N_Ledger_show) (sc := defScope s_Ledger_show) (by decide +kernel)) (gp_name (by decide)) (fun _ _ _ _ _ => pg_name (i := 4) ND rfl (by first | exact Or.inl rfl | exact Or.inr rfl)) (fun _ _ _ _ _ => dts_nil) (fun _ _ _ _ _ => de_ix hu (de_var (pv 4)) (de_int) (fun _ _ => rfl))) (da_nil))) (da_cons (de_callB (cs_sum rfl) rfl T.b_sum (by decide +kernel) (da_cons (de_lc (own := [("pair", 4)]) (g := gName 4) rfl ND (di_seq (de_var (pv 2))) (blkOk_by (own := [("pair", 4)]) (N := N_Ledger_show) (sc := defScope s_Ledger_show) (by decide +kernel)) (gp_name (by decide)) (fun _ _ _ _ _ => pg_name (i := 4) ND rfl (by first | exact Or.inl rfl | exact Or.inr rfl)) (fun _ _ _ _ _ => dts_nil) (fun _ _ _ _ _ => de_ix hu (de_var (pv 4)) (de_int) (fun _ _ => rfl))) (da_nil))) (da_nil))))))))
theorem rd_Ledger_show (K : PySem.W.Frag) (c : Cs) (kf : Kf K c) : ∀ ds μ Q, sp_Ledger_show c ds μ Q → w_Ledger_show K c { nx := fun _ μ' => ∃ μ2, Sub μ2 μ' ∧ Q .non μ2, rt := Q } (startD N_Ledger_show ds) μ := by
  rintro ds μ Q ⟨x, es, past, ss, r, rfl, ok, hss, hr, hx, k⟩
  show w_Ledger_show K c _ [some (.ref x), some (skD ss), none, none, none] μ
  have hlen : (ldH c.Book es past r).length < 1000 := by rcases hr with rfl | ⟨a, b, d, rfl⟩ <;> exact Nat.le_of_ble_eq_true rfl
  have e1 : ∃ b : List (Str × D), put (ldH c.Book es past r) "sticks" (skD ss) = ldH c.Book es past (("sticks", skD ss) :: b) ∧ (b = [] ∨ ∃ y z, b = ldT y z) := by
    rcases hr with rfl | ⟨a, b, d, rfl⟩
    · exact ⟨[], rfl, .inl rfl⟩
    · exact ⟨ldT b d, rfl, .inr ⟨b, d, rfl⟩⟩
  obtain ⟨b, e1, hb⟩ := e1
  have hlen2 : (ldH c.Book es past (("sticks", skD ss) :: b)).length < 1000 := by rcases hb with rfl | ⟨y, z, rfl⟩ <;> exact Nat.le_of_ble_eq_true rfl
  have e2 : ∃ d : List (Str × D), put (ldH c.Book es past (("sticks", skD ss) :: b)) "sums" (sumsD es ss) = ldH c.Book es past (("sticks", skD ss) :: ("sums", sumsD es ss) :: d) ∧ (d = [] ∨ ∃ z, d = ldU z) := by
    rcases hb with rfl | ⟨y, z, rfl⟩
    · exact ⟨[], rfl, .inl rfl⟩
    · exact ⟨ldU z, rfl, .inr ⟨z, rfl⟩⟩
  obtain ⟨d, e2, hd⟩ := e2
  have hlen3 : (ldH c.Book es past (("sticks", skD ss) :: ("sums", sumsD es ss) :: d)).length < 1000 := by rcases hd with rfl | ⟨z, rfl⟩ <;> exact Nat.le_of_ble_eq_true rfl
  have e3 : put (ldH c.Book es past (("sticks", skD ss) :: ("sums", sumsD es ss) :: d)) "totals" (totD es ss) = ldF c.Book es past ss := by
    rcases hd with rfl | ⟨z, rfl⟩ <;> rfl
  unfold w_Ledger_show
  walk_at "dz"
  rw [stf_ref hx, e1]
  refine ⟨kf.o_Ledger_sticks, hlen, ?_⟩
  unfold skD
  walk_at "dz"
  refine lc_tm (enc := sD) (fun s => sumD (sumO es s)) (le_line (Nat.le_trans hss.1 (by decide))) ?_ ?_
  · intro i s μ' R hs sb hR
    obtain ⟨hs1, hs2, hs3, hs4⟩ := hss.2 s (getS hs).2
    unfold sD
    walk_at "dz"
    rw [fld_ref (sb _ _ setS_same), lkl_b]
    refine ⟨kf.o_Ledger_book, ?_⟩
    unfold bkD
    walk_at "dz"
    refine ⟨by rfl, es, s, rfl, ok, hs2, ?_⟩
    by_cases hin : s ∈ es.map (·.2)
    · obtain ⟨e, he, rfl⟩ := List.mem_map.mp hin
      rw [sumO_in ok he] at hR
      exact .inl ⟨e, he, rfl, hR⟩
    · rw [sumO_out hin] at hR
      exact .inr ⟨hin, hR⟩
  · intro L hL
    rw [delS_setS hL]
    walk_at "dz"
    rw [stf_ref setS_same]
    rw [show put (ldH c.Book es past (("sticks", D.tup (ss.map sD)) :: b)) "sums" (.tup (ss.map fun s => sumD (sumO es s))) = ldH c.Book es past (("sticks", skD ss) :: ("sums", sumsD es ss) :: d) from e2, setS_setS]
    refine ⟨kf.o_Ledger_sums, hlen2, ?_⟩
    refine lc_tm (enc := sD) (fun s => .tup [.int (loO es s), .int (hiO es s)]) (le_line (Nat.le_trans hss.1 (by decide))) ?_ ?_
    · intro i s μ' R hs sb hR
      have hsk := hss.2 s (getS hs).2
      unfold sD
      walk_at "dz"
      rw [fld_ref (sb _ _ setS_same), lkl_b]
      refine ⟨kf.o_Ledger_book, ?_⟩
      walk_at "dz"
      intro xw hxw
      refine ⟨xw, .add, none, none, rfl, (fun l e => by cases e), setS_same, rfl, _, setS_same, ?_⟩
      rw [setS_setS, delS_setS hxw]
      refine ⟨es, W0, s, rfl, ok, hsk.1, hsk.2.1, ?_⟩
      rw [ends_of hsk]
      exact hR
    · intro L2 hL2
      rw [delS_setS hL2]
      walk_at "dz"
      refine lc_tm (enc := fun s => D.tup [.int (loO es s), .int (hiO es s)]) (fun s => .int (loO es s)) (le_line (Nat.le_trans hss.1 (by decide))) ?_ ?_
      · intro i s μ' R hs sb hR
        walk_at "dz"
        exact hR
      · intro L3 hL3
        rw [delS_setS hL3]
        walk_at "dz"
        rw [Option.bind_some, show intsD (ss.map fun s => D.int (loO es s)) = some (ss.map (loO es)) by
          have q := intsD_map (ss.map (loO es)); rw [List.map_map] at q; exact q]
        walk_at "dz"
        refine lc_tm (enc := fun s => D.tup [.int (loO es s), .int (hiO es s)]) (fun s => .int (hiO es s)) (le_line (Nat.le_trans hss.1 (by decide))) ?_ ?_
        · intro i s μ' R hs sb hR
          walk_at "dz"
          exact hR
        · intro L4 hL4
          rw [delS_setS hL4]
          walk_at "dz"
          rw [Option.bind_some, show intsD (ss.map fun s => D.int (hiO es s)) = some (ss.map (hiO es)) by
            have q := intsD_map (ss.map (hiO es)); rw [List.map_map] at q; exact q]
          walk_at "dz"
          rw [stf_ref setS_same]
          rw [show put (ldH c.Book es past (("sticks", skD ss) :: ("sums", sumsD es ss) :: d)) "totals" (.tup [.int (ss.map (loO es)).sum, .int (ss.map (hiO es)).sum]) = ldF c.Book es past ss from e3, setS_setS]
          exact ⟨le_line (Nat.le_of_ble_eq_true rfl), kf.o_Ledger_totals, hlen3, end_eq k⟩
theorem met_Ledger_show_2 (T : Txt K mg c) : DMet P w K mg base 6 c.Ledger "show" (sp_Ledger_show c) [] := by
  have D := T.f_Ledger_show
  exact D.met T.k_Ledger.cl sc_Ledger_show (len_Ledger_show c) (fun cdv A outer s H E hr => dv_Ledger_show T cdv A outer s H E hr) (rd_Ledger_show K c T.kf) (fun F => F.binds0 (ps := ["self", "sticks"]) fun _ _ _ _ _ _ us hl => match us, hl with | [_, _], _ => rfl) (dvs := []) (.nil) (fun _ => .nil)
end
noncomputable def sp_Ledger_xinit (c : Cs) : DSp := fun ds μ Q => ∃ (x : Addr) (es : List Ent), ds = [.ref x, bkD c.Book es] ∧ Good es ∧ μ x = some (.ins c.Ledger []) ∧ Q .non (setS μ x (.ins c.Ledger (ldF c.Book es [] [])))
theorem len_Ledger_xinit (c : Cs) : ∀ ds μ Q, sp_Ledger_xinit c ds μ Q → ds.length = 2 := by
  rintro ds μ Q ⟨x, es, rfl, _⟩
  rfl
noncomputable def w_Ledger_xinit (K : PySem.W.Frag) (c : Cs) : WS := wSeq (wSetF K "book" (wVar 0) (wVar 1)) (wSeq (wSetF K "past" (wVar 0) (wTup (wANil))) (wDrop (wMeth c.Ledger "show" (sp_Ledger_show c) [] (wVar 0) (wACons (wTup (wANil)) (wANil)))))
section
variable {P : Program} {w : World} {K : PySem.W.Frag} {mg : Str → Option Value} {base : Heap} {c : Cs}
theorem dv_Ledger_xinit (T : Txt K mg c) {f : Addr} (cdv : Value) (A : Around) (outer : List PySem.Env) (s : Shared) (H : Hp) (E : XK) (hr : Room 6 (A.deeper (PyProof.Rows.envOfC "Ledger.__init__" (defScope s_Ledger_xinit) s.heap.objs.size f cdv))) : DSs (cxOf CX0 P w K mg base N_Ledger_xinit "Ledger.__init__" (defScope s_Ledger_xinit) f cdv A outer s H E).nox (defBody s_Ledger_xinit) (w_Ledger_xinit K c) := by
  have ND := sc_Ledger_xinit.nd
  have hu := hu_of hr
  have hu64 := hr.units
  have hu65 := units65 hr
  exact dss_cons (ds_fld (de_var (pv 0)) (de_var (pv 1))) (dss_cons (ds_fld (de_var (pv 0)) (de_tup (da_nil))) (dss_one (ds_expr (de_met (met_Ledger_show_2 T) hr (by decide) (de_var (pv 0)) (da_cons (de_tup (da_nil)) (da_nil))))))
theorem rd_Ledger_xinit (K : PySem.W.Frag) (c : Cs) (kf : Kf K c) : ∀ ds μ Q, sp_Ledger_xinit c ds μ Q → w_Ledger_xinit K c { nx := fun _ μ' => ∃ μ2, Sub μ2 μ' ∧ Q .non μ2, rt := Q } (startD N_Ledger_xinit ds) μ := by
  rintro ds μ Q ⟨x, es, rfl, ok, hx, k⟩
  show w_Ledger_xinit K c _ [some (.ref x), some (bkD c.Book es)] μ
  unfold w_Ledger_xinit
  walk_at "dz"
  rw [stf_ref hx]
  refine ⟨kf.o_Ledger_book, Nat.le_of_ble_eq_true rfl, ?_⟩
  rw [stf_ref setS_same, setS_setS]
  refine ⟨le_line (Nat.le_of_ble_eq_true rfl), kf.o_Ledger_past, Nat.le_of_ble_eq_true rfl, ?_⟩
  rw [show put (put ([] : List (Str × D)) "book" (bkD c.Book es)) "past" (.tup []) = ldH c.Book es [] [] from rfl]
  rw [mth_ref setS_same]
  refine ⟨rfl, rfl, le_line (Nat.le_of_ble_eq_true rfl), x, es, [], [], [], rfl, ok, ⟨by decide, by simp⟩, .inl rfl, setS_same, ?_⟩
  rw [setS_setS]
  exact end_eq k
theorem mak_Ledger_xinit_2 (T : Txt K mg c) : DMak P w K mg base 7 "Ledger" c.Ledger (sp_Ledger_xinit c) [] := by
  have D := T.f_Ledger_xinit
  exact D.mak T.k_Ledger sc_Ledger_xinit (len_Ledger_xinit c) (fun cdv A outer s H E hr => dv_Ledger_xinit T cdv A outer s H E hr) (rd_Ledger_xinit K c T.kf) (fun F => F.binds0 (ps := ["self", "book"]) fun _ _ _ _ _ _ us hl => match us, hl with | [_, _], _ => rfl) (dvs := []) (.nil) (fun _ => .nil)
end
noncomputable def sp_Desk_xinit (c : Cs) : DSp := fun ds μ Q => ∃ x : Addr, ds = [.ref x] ∧ μ x = some (.ins c.Desk []) ∧ ∀ y μ', μ y = none → DkAt c.Ledger c.Book c.Desk μ' x y [] [bkFr []] → Kps x [] μ μ' → Q .non μ'
theorem len_Desk_xinit (c : Cs) : ∀ ds μ Q, sp_Desk_xinit c ds μ Q → ds.length = 1 := by
  rintro ds μ Q ⟨x, rfl, _⟩
  rfl
noncomputable def w_Desk_xinit (K : PySem.W.Frag) (c : Cs) : WS := wSeq (wSetF K "going" (wVar 0) (wMakeM c.Ledger (sp_Ledger_xinit c) [] (wACons (wMake c.Book (sp_Book_xinit c) [.tup []] (wANil)) (wANil)))) (wSeq (wSetF K "elders" (wVar 0) (wTup (wANil))) (wSetF K "deeds" (wVar 0) (wTup (wANil))))
section
variable {P : Program} {w : World} {K : PySem.W.Frag} {mg : Str → Option Value} {base : Heap} {c : Cs}
theorem dv_Desk_xinit (T : Txt K mg c) {f : Addr} (cdv : Value) (A : Around) (outer : List PySem.Env) (s : Shared) (H : Hp) (E : XK) (hr : Room 8 (A.deeper (PyProof.Rows.envOfC "Desk.__init__" (defScope s_Desk_xinit) s.heap.objs.size f cdv))) : DSs (cxOf CX0 P w K mg base N_Desk_xinit "Desk.__init__" (defScope s_Desk_xinit) f cdv A outer s H E).nox (defBody s_Desk_xinit) (w_Desk_xinit K c) := by
  have ND := sc_Desk_xinit.nd
  have hu := hu_of hr
  have hu64 := hr.units
  have hu65 := units65 hr
  exact dss_cons (ds_fld (de_var (pv 0)) (de_makM (mak_Ledger_xinit_2 T) hr (by decide) rfl (da_cons (de_mak0 (mak_Book_xinit_1 T) hr (by decide) rfl) (da_nil)))) (dss_cons (ds_fld (de_var (pv 0)) (de_tup (da_nil))) (dss_one (ds_fld (de_var (pv 0)) (de_tup (da_nil)))))
theorem rd_Desk_xinit (K : PySem.W.Frag) (c : Cs) (kf : Kf K c) : ∀ ds μ Q, sp_Desk_xinit c ds μ Q → w_Desk_xinit K c { nx := fun _ μ' => ∃ μ2, Sub μ2 μ' ∧ Q .non μ2, rt := Q } (startD N_Desk_xinit ds) μ := by
  rintro ds μ Q ⟨x, rfl, hx, k⟩
  show w_Desk_xinit K c _ [some (.ref x)] μ
  unfold w_Desk_xinit
  walk_at "dz"
  intro xb hxb
  refine ⟨xb, .tup [], [], rfl, rfl, Good.nil, setS_same, rfl, _, setS_same, ?_⟩
  rw [setS_setS, delS_setS hxb]
  intro y hy
  have hxy : x ≠ y := by rintro rfl; rw [hx] at hy; cases hy
  refine ⟨y, [], rfl, Good.nil, setS_same, rfl, ?_⟩
  rw [setS_setS, stf_ref (by rw [setS_ne hxy]; exact hx)]
  refine ⟨kf.o_Desk_going, Nat.le_of_ble_eq_true rfl, le_line (Nat.le_of_ble_eq_true rfl), ?_⟩
  rw [stf_ref setS_same, setS_setS]
  refine ⟨kf.o_Desk_elders, Nat.le_of_ble_eq_true rfl, le_line (Nat.le_of_ble_eq_true rfl), ?_⟩
  rw [stf_ref setS_same, setS_setS]
  refine ⟨kf.o_Desk_deeds, Nat.le_of_ble_eq_true rfl, end_eq ?_⟩
  obtain ⟨h1, h2⟩ := dk_init (L := c.Ledger) (B := c.Book) (T := c.Desk) hxy hy
  exact k y _ hy h1 h2
theorem mak_Desk_xinit_1 (T : Txt K mg c) : DMak P w K mg base 9 "Desk" c.Desk (sp_Desk_xinit c) [] := by
  have D := T.f_Desk_xinit
  exact D.mak T.k_Desk sc_Desk_xinit (len_Desk_xinit c) (fun cdv A outer s H E hr => dv_Desk_xinit T cdv A outer s H E hr) (rd_Desk_xinit K c T.kf) (fun F => F.binds0 (ps := ["self"]) fun _ _ _ _ _ _ us hl => match us, hl with | [_], _ => rfl) (dvs := []) (.nil) (fun _ => .nil)
end
noncomputable def sp_law_box (c : Cs) : DSp := fun ds μ Q => ∃ (ns : List Int) (k own : Int), ds = [.scr (ns.map .int), .int k, .int own] ∧ (0 ≤ k ∧ k < 1000) ∧ (0 ≤ own ∧ own < 1000) ∧ ∀ p d, μ p = none → BoxV d → Q (.ref p) (setS μ p (.lst d))
theorem len_law_box (c : Cs) : ∀ ds μ Q, sp_law_box c ds μ Q → ds.length = 3 := by
  rintro ds μ Q ⟨ns, k, own, rfl, _⟩
  rfl
noncomputable def w_law_box_t1 (K : PySem.W.Frag) (c : Cs) : WS := wRet (wLstM (wACons (wIf (wB (wOp oGe (wVar 3) (wOp oPow (wC (.int 10)) (wC (.int 18))))) (wVar 3) (wC (.int 0))) (wACons (wOp oAdd (wVar 4) (wC (.int 1))) (wANil))))
noncomputable def w_law_box_b1 (K : PySem.W.Frag) (c : Cs) : WS := wAsg (wOp oMod (wCB oInt (wACons (wOp oAdd (wOp oAdd (wOp oMul (wVar 4) (wC (.int 16807))) (wOp oMod (wCB oAbs (wACons (wVar 5) (wANil))) (wC (.int 2147483629)))) (wVar 1)) (wANil))) (wC (.int 2147483647))) (wgName 4)
noncomputable def w_law_box_t2 (K : PySem.W.Frag) (c : Cs) : WS := wSeq (wAsg (wOp oAdd (wOp oAdd (wOp oMul (wC (.int 100237)) (wVar 2)) (wOp oMul (wC (.int 7727)) (wVar 1))) (wC (.int 37))) (wgName 4)) (wSeq (wFor (wiSeq (wSl (wVar 0) (wNoP) (wPart (wC (.int 40))))) (wgName 5) (w_law_box_b1 K c)) (w_law_box_t1 K c))
noncomputable def w_law_box (K : PySem.W.Frag) (c : Cs) : WS := wSeq (wAsg (wIf (wB (wOp oLt (wVar 1) (wCB oLen (wACons (wVar 0) (wANil))))) (wCB oAbs (wACons (wIx (wVar 0) (wVar 1)) (wANil))) (wC (.int 0))) (wgName 3)) (w_law_box_t2 K c)
section
variable {P : Program} {w : World} {K : PySem.W.Frag} {mg : Str → Option Value} {base : Heap} {c : Cs}
theorem dv_law_box (T : Txt K mg c) {f : Addr} (cdv : Value) (A : Around) (outer : List PySem.Env) (s : Shared) (H : Hp) (E : XK) (hr : Room 0 (A.deeper (PyProof.Rows.envOfC "_law_box" (defScope s_law_box) s.heap.objs.size f cdv))) : DSs (cxOf CX0 P w K mg base N_law_box "_law_box" (defScope s_law_box) f cdv A outer s H E).nox (defBody s_law_box) (w_law_box K c) := by
  have ND := sc_law_box.nd
  have hu := hu_of hr
  have hu64 := hr.units
  have hu65 := units65 hr
  exact dss_cons (ds_set (i := 3) ND rfl (Or.inl rfl) (de_if (dt_cmp os_lt (de_var (pv 1)) (de_callB cs_len rfl T.b_len (by decide +kernel) (da_cons (de_var (pv 0)) (da_nil))) (nomark _)) (de_callB cs_abs rfl T.b_abs (by decide +kernel) (da_cons (de_ix hu (de_var (pv 0)) (de_var (pv 1)) (fun _ _ => rfl)) (da_nil))) (de_int))) (dss_cons (ds_set (i := 4) ND rfl (Or.inl rfl) (de_op os_add (de_op os_add (de_op os_mul (de_int) (de_var (pv 2))) (de_op os_mul (de_int) (de_var (pv 1)))) (de_int))) (dss_cons (ds_for PassesOwn.never rfl (di_seq (de_sl (de_var (pv 0)) (dp_none) (dp_some (de_int)))) (dg_pat (vs := [5]) (g := gName 5) (pg_name (i := 5) ND rfl (by first | exact Or.inl rfl | exact Or.inr rfl)) (gp_name (by decide))) (dss_one (ds_set (i := 4) ND rfl (Or.inl rfl) (de_op os_mod (de_callTy cs_int rfl T.b_int (by decide +kernel) (da_cons (de_op os_add (de_op os_add (de_op os_mul (de_var (pv 4)) (de_int)) (de_op os_mod (de_callB cs_abs rfl T.b_abs (by decide +kernel) (da_cons (de_var (pv 5)) (da_nil))) (de_int))) (de_var (pv 1))) (da_nil))) (de_int))))) (dss_one (ds_ret (de_lstM (da_cons (de_if (dt_cmp os_ge (de_var (pv 3)) (de_op os_pow (de_int) (de_int)) (nomark _)) (de_var (pv 3)) (de_int)) (da_cons (de_op os_add (de_var (pv 4)) (de_int)) (da_nil))))))))
theorem rd_law_box_t1 {K : PySem.W.Frag} {c : Cs} {μ : Store} {Q : D → Store → Prop} {R : Dl.Env → Store → Prop} {cell seed : Int} {x0 x1 x2 x5 : Option D} (q : ∀ p d, μ p = none → BoxV d → Q (.ref p) (setS μ p (.lst d))) (hc : 0 ≤ cell) (hs : 0 ≤ seed ∧ seed < 4294967000) :
    w_law_box_t1 K c { nx := R, rt := Q } [x0, x1, x2, some (.int cell), some (.int seed), x5] μ := by
  unfold w_law_box_t1
  walk_at "dx"
  refine ⟨by decide, ?_⟩
  by_cases h : (10 : Int) ^ (18 : Int).toNat ≤ cell
  · rw [if_pos h]
    exact ⟨le_line (Nat.le_of_ble_eq_true rfl), fun p hp => ret_eq (q p _ hp ⟨cell, seed + 1, rfl, hc, ⟨by omega, by omega⟩⟩)⟩
  · rw [if_neg h]
    exact ⟨le_line (Nat.le_of_ble_eq_true rfl), fun p hp => ret_eq (q p _ hp ⟨0, seed + 1, rfl, by omega, ⟨by omega, by omega⟩⟩)⟩
theorem rd_law_box_t2 {K : PySem.W.Frag} {c : Cs} {μ : Store} {Q : D → Store → Prop} {R : Dl.Env → Store → Prop} {ns : List Int} {cell k own : Int} {x4 x5 : Option D} (q : ∀ p d, μ p = none → BoxV d → Q (.ref p) (setS μ p (.lst d))) (hc : 0 ≤ cell) (hk : 0 ≤ k ∧ k < 1000) (ho : 0 ≤ own ∧ own < 1000) :
    w_law_box_t2 K c { nx := R, rt := Q } [some (.scr (ns.map .int)), some (.int k), some (.int own), some (.int cell), x4, x5] μ := by
  obtain ⟨ms, hms, hml⟩ := cut_ints2 ns none (some 40)
  unfold w_law_box_t2
  walk_at "dx"
  try rw [sl_scr2]
  rw [hms]
  refine ⟨.inl (by decide), .inl (by decide), ?_⟩
  refine for_ty (enc := D.int) (fun i ρ μ' => μ' = μ ∧ ∃ s y5, (0 ≤ s ∧ s < 4294967000) ∧ ρ = [some (.scr (ns.map .int)), some (.int k), some (.int own), some (.int cell), some (.int s), y5]) ⟨rfl, _, _, ⟨by omega, by omega⟩, rfl⟩ ?_ ?_
  · rintro i z ρ μ' hz ⟨rfl, s, y5, hs, rfl⟩
    walk_at "dx"
    unfold w_law_box_b1
    walk_at "dx"
    have h2 := em_lo (a := s * 16807 + (if z < 0 then -z else z) % 2147483629 + k) (b := 2147483647) (by decide)
    have h3 := em_hi (a := s * 16807 + (if z < 0 then -z else z) % 2147483629 + k) (b := 2147483647) (by decide)
    generalize (s * 16807 + (if z < 0 then -z else z) % 2147483629 + k) % 2147483647 = y at h2 h3 ⊢
    exact ⟨.inr (by decide), by decide, by decide, _, _, ⟨h2, by omega⟩, rfl⟩
  · rintro ρ μ' ⟨rfl, s, y5, hs, rfl⟩
    exact rd_law_box_t1 (K := K) (c := c) q hc hs
theorem rd_law_box (K : PySem.W.Frag) (c : Cs) : ∀ ds μ Q, sp_law_box c ds μ Q → w_law_box K c { nx := fun _ μ' => ∃ μ2, Sub μ2 μ' ∧ Q .non μ2, rt := Q } (startD N_law_box ds) μ := by
  rintro ds μ Q ⟨ns, k, own, rfl, hk, ho, q⟩
  show w_law_box K c _ [some _, some _, some _, none, none, none] μ
  unfold w_law_box
  walk_at "dx"
  rw [List.length_map]
  split
  · rename_i h
    obtain ⟨z, hz⟩ := atI_ints (ns := ns) hk.1 h
    rw [hz]
    exact rd_law_box_t2 (K := K) (c := c) q (by split <;> omega) hk ho
  · exact rd_law_box_t2 (K := K) (c := c) q (by omega) hk ho
theorem cal_law_box (T : Txt K mg c) : DCal P w K mg base 1 "_law_box" (sp_law_box c) [] := T.f_law_box.cal (ps := ["_law_script", "_law_k", "_law_own"]) sc_law_box (len_law_box c) (fun cdv A outer s H E hr => dv_law_box T cdv A outer s H E hr) (rd_law_box K c) fun _ _ _ _ _ _ us hl => match us, hl with | [_, _, _], _ => rfl
end
noncomputable def sp_law_sum (c : Cs) : DSp := fun ds μ Q => ∃ (es : List Ent) (s : List Bool), ds = [.lst (es.map entD), .str (stk s)] ∧ Good es ∧ Q (sumD (sumO es s)) μ
theorem len_law_sum (c : Cs) : ∀ ds μ Q, sp_law_sum c ds μ Q → ds.length = 2 := by
  rintro ds μ Q ⟨es, s, rfl, _⟩
  rfl
noncomputable def w_law_sum (K : PySem.W.Frag) (c : Cs) : WS := wSeq (wAsg (wLc (wiSeq (wVar 0)) (wgTup 2 (wgCons (wgName 3) (wgCons (wgName 4) (wgNil)))) (wB (wOp oEq (wVar 4) (wVar 1))) (wVar 3) [3, 4]) (wgName 2)) (wRet (wIf (wB (wOp oNe (wVar 2) (wLst (wANil)))) (wIx (wVar 2) (wC (.int 0))) (wC .non)))
section
variable {P : Program} {w : World} {K : PySem.W.Frag} {mg : Str → Option Value} {base : Heap} {c : Cs}
theorem dv_law_sum (T : Txt K mg c) {f : Addr} (cdv : Value) (A : Around) (outer : List PySem.Env) (s : Shared) (H : Hp) (E : XK) (hr : Room 0 (A.deeper (PyProof.Rows.envOfC "_law_sum" (defScope s_law_sum) s.heap.objs.size f cdv))) : DSs (cxOf CX0 P w K mg base N_law_sum "_law_sum" (defScope s_law_sum) f cdv A outer s H E).nox (defBody s_law_sum) (w_law_sum K c) := by
  have ND := sc_law_sum.nd
  have hu := hu_of hr
  have hu64 := hr.units
  have hu65 := units65 hr
  exact dss_cons (ds_setLc (i := 2) (own := [("_law_number", 3), ("_law_one", 4)]) (g := gTup K 2 (gCons (gName 3) (gCons (gName 4) (gNil)))) rfl ND rfl rfl (sw_true rfl rfl rfl (by decide +kernel)) (di_seq (de_var (pv 0))) (blkOk_by (own := [("_law_number", 3), ("_law_one", 4)]) (N := N_law_sum) (sc := defScope s_law_sum) (by decide +kernel)) (gp_tup (gp_cons (gp_name (by decide)) (gp_cons (gp_name (by decide)) (gp_nil)))) (fun _ _ _ _ _ => pg_tup rfl (pgs_cons (pg_name (i := 3) ND rfl (by first | exact Or.inl rfl | exact Or.inr rfl)) (pgs_cons (pg_name (i := 4) ND rfl (by first | exact Or.inl rfl | exact Or.inr rfl)) (pgs_nil)))) (fun _ _ _ _ _ => dts_one (dt_cmp (os_eq hu64) (de_var (pv 4)) (de_var (pv 1)) (nomark _))) (fun _ _ _ _ _ => de_var (pv 3))) (dss_one (ds_ret (de_if (dt_cmp (os_ne hu64) (de_var (pv 2)) (de_lst (da_nil)) (nomark _)) (de_ix hu (de_var (pv 2)) (de_int) (fun _ _ => rfl)) (de_non))))
theorem rd_law_sum (K : PySem.W.Frag) (c : Cs) : ∀ ds μ Q, sp_law_sum c ds μ Q → w_law_sum K c { nx := fun _ μ' => ∃ μ2, Sub μ2 μ' ∧ Q .non μ2, rt := Q } (startD N_law_sum ds) μ := by
  rintro ds μ Q ⟨es, s, rfl, ok, k⟩
  show w_law_sum K c _ [some (.lst (es.map entD)), some (.str (stk s)), none, none, none] μ
  have hsz := ok.sz
  unfold w_law_sum
  walk_at "dz"
  refine lc_ty (enc := entD) (fun e => if decide (e.2 = s) = true then some (eNat.enc e.1) else none) (le_line (by omega)) ?_ ?_
  · intro i e μ' R R' he _ hR hR'
    unfold entD
    walk_at "dz"
    refine ⟨rfl, ?_⟩
    rw [stk_beq]
    by_cases q : e.2 = s
    · rw [if_pos (decide_eq_true q)] at hR
      rw [if_pos (decide_eq_true q)]
      exact hR _ rfl
    · rw [if_neg (by simpa using q)] at hR'
      rw [if_neg (by simpa using q)]
      exact hR' rfl
  · intro L hL
    rw [delS_setS hL, fm_if]
    walk_at "dz"
    refine ⟨le_line (Nat.le_of_ble_eq_true rfl), ?_⟩
    rw [show ((es.filter fun e => decide (e.2 = s)).map fun e => eNat.enc e.1) = ((es.filter fun e => decide (e.2 = s)).map (·.1)).map eNat.enc by rw [List.map_map]; rfl, nNil, oNe_lst eNat (by decide)]
    walk_at "dz"
    unfold sumO at k
    rw [← List.head?_filter] at k
    cases q : es.filter fun e => decide (e.2 = s) with
    | nil =>
      rw [q] at k
      rw [if_neg (by simp)]
      exact ret_eq k
    | cons e r =>
      rw [q] at k
      rw [if_pos (by simp)]
      rw [show atI (((e :: r).map (·.1)).map eNat.enc) 0 = some (.int (e.1 : Nat)) from atI_nat (j := 0) rfl]
      exact ret_eq k
theorem cal_law_sum (T : Txt K mg c) : DCal P w K mg base 1 "_law_sum" (sp_law_sum c) [] := T.f_law_sum.cal (ps := ["_law_entries", "_law_stick"]) sc_law_sum (len_law_sum c) (fun cdv A outer s H E hr => dv_law_sum T cdv A outer s H E hr) (rd_law_sum K c) fun _ _ _ _ _ _ us hl => match us, hl with | [_, _], _ => rfl
end
noncomputable def sp_law_is_within (c : Cs) : DSp := fun ds μ Q => ∃ a b : List Bool, ds = [.str (stk a), .str (stk b)] ∧ a.length = b.length ∧ a.length ≤ 1000 ∧ Q (.bl (subB a b)) μ
theorem len_law_is_within (c : Cs) : ∀ ds μ Q, sp_law_is_within c ds μ Q → ds.length = 2 := by
  rintro ds μ Q ⟨a, b, rfl, _⟩
  rfl
noncomputable def w_law_is_within (K : PySem.W.Frag) (c : Cs) : WS := wRet (wOp oEq (wLc (wiZipS (wACons (wVar 0) (wACons (wVar 1) (wANil)))) (wgTup 2 (wgCons (wgName 2) (wgCons (wgName 3) (wgNil)))) (wAnd (wB (wOp oEq (wVar 2) (wC (.str "x")))) (wB (wOp oEq (wVar 3) (wC (.str "."))))) (wC (.int 1)) [2, 3]) (wLst (wANil)))
section
variable {P : Program} {w : World} {K : PySem.W.Frag} {mg : Str → Option Value} {base : Heap} {c : Cs}
theorem dv_law_is_within (T : Txt K mg c) {f : Addr} (cdv : Value) (A : Around) (outer : List PySem.Env) (s : Shared) (H : Hp) (E : XK) (hr : Room 0 (A.deeper (PyProof.Rows.envOfC "_law_is_within" (defScope s_law_is_within) s.heap.objs.size f cdv))) : DSs (cxOf CX0 P w K mg base N_law_is_within "_law_is_within" (defScope s_law_is_within) f cdv A outer s H E).nox (defBody s_law_is_within) (w_law_is_within K c) := by
  have ND := sc_law_is_within.nd
  have hu := hu_of hr
  have hu64 := hr.units
  have hu65 := units65 hr
  exact dss_one (ds_ret (de_cmp (os_eq hu64) (de_lc (own := [("_law_here", 2), ("_law_there", 3)]) (g := gTup K 2 (gCons (gName 2) (gCons (gName 3) (gNil)))) rfl ND (di_zipS rfl T.b_zip (da_cons (de_var (pv 0)) (da_cons (de_var (pv 1)) (da_nil)))) (blkOk_by (own := [("_law_here", 2), ("_law_there", 3)]) (N := N_law_is_within) (sc := defScope s_law_is_within) (by decide +kernel)) (gp_tup (gp_cons (gp_name (by decide)) (gp_cons (gp_name (by decide)) (gp_nil)))) (fun _ _ _ _ _ => pg_tup rfl (pgs_cons (pg_name (i := 2) ND rfl (by first | exact Or.inl rfl | exact Or.inr rfl)) (pgs_cons (pg_name (i := 3) ND rfl (by first | exact Or.inl rfl | exact Or.inr rfl)) (pgs_nil)))) (fun _ _ _ _ _ => dts_one (dt_w (dw_and (dt_cmp (os_eq hu64) (de_var (pv 2)) (de_str) (nomark _)) (dw_and1 (dt_cmp (os_eq hu64) (de_var (pv 3)) (de_str) (nomark _)))))) (fun _ _ _ _ _ => de_int)) (de_lst (da_nil)) (nomark _)))
theorem rd_law_is_within (K : PySem.W.Frag) (c : Cs) : ∀ ds μ Q, sp_law_is_within c ds μ Q → w_law_is_within K c { nx := fun _ μ' => ∃ μ2, Sub μ2 μ' ∧ Q .non μ2, rt := Q } (startD N_law_is_within ds) μ := by
  rintro ds μ Q ⟨a, b, rfl, hl, hz, k⟩
  show w_law_is_within K c _ [some (.str (stk a)), some (.str (stk b)), none, none] μ
  unfold w_law_is_within
  walk_at "dz"
  rw [zip_stk a b hl]
  refine lc_ty (enc := fun p : Bool × Bool => .tup [.str (stk [p.1]), .str (stk [p.2])]) (fun p => if (p.1 && !p.2) = true then some (eNat.enc 1) else none) (le_line (by rw [List.length_zip]; omega)) ?_ ?_
  · rintro i ⟨x, y⟩ μ' R R' _ _ hR hR'
    walk_at "dz"
    rw [show (Str.ofString "x" : Str) = stk [true] from stk_x, show (Str.ofString "." : Str) = stk [false] from stk_p]
    simp only [stk_beq]
    cases x <;> cases y <;> simp at hR hR' ⊢ <;> first | exact hR | exact hR'
  · intro L hL
    rw [delS_setS hL, fm_if]
    refine ⟨le_line (Nat.le_of_ble_eq_true rfl), ?_⟩
    rw [show (((a.zip b).filter fun p => p.1 && !p.2).map fun _ => eNat.enc 1) = (((a.zip b).filter fun p => p.1 && !p.2).map fun _ => 1).map eNat.enc by rw [List.map_map]; rfl, nNil, oEq_lst eNat (by decide)]
    rw [show decide (((a.zip b).filter fun p => p.1 && !p.2).map (fun _ => 1) = []) = subB a b by
      rw [Bool.eq_iff_iff, decide_eq_true_eq, List.map_eq_nil_iff, subB_zip a b hl]]
    exact ret_eq k
theorem cal_law_is_within (T : Txt K mg c) : DCal P w K mg base 1 "_law_is_within" (sp_law_is_within c) [] := T.f_law_is_within.cal (ps := ["_law_one", "_law_other"]) sc_law_is_within (len_law_is_within c) (fun cdv A outer s H E hr => dv_law_is_within T cdv A outer s H E hr) (rd_law_is_within K c) fun _ _ _ _ _ _ us hl => match us, hl with | [_, _], _ => rfl
end
noncomputable def sp_law_totals (c : Cs) : DSp := fun ds μ Q => ∃ (es : List Ent) (ss : List (List Bool)), ds = [.lst (es.map entD), skD ss] ∧ Good es ∧ Asc es ∧ AllOk es ss ∧ Q (totD es ss) μ
theorem len_law_totals (c : Cs) : ∀ ds μ Q, sp_law_totals c ds μ Q → ds.length = 2 := by
  rintro ds μ Q ⟨es, ss, rfl, _⟩
  rfl
noncomputable def w_law_totals_t1 (K : PySem.W.Frag) (c : Cs) : WS := wRet (wTup (wACons (wVar 3) (wACons (wVar 4) (wANil))))
noncomputable def w_law_totals_b1 (K : PySem.W.Frag) (c : Cs) : WS := wSeq (wAsg (wLc (wiSeq (wVar 0)) (wgTup 2 (wgCons (wgName 6) (wgCons (wgName 7) (wgNil)))) (wTrv (wCall (sp_law_is_within c) [] (wACons (wVar 7) (wACons (wVar 2) (wANil))))) (wCB oInt (wACons (wVar 6) (wANil))) [6, 7]) (wgName 5)) (wPar 3 4 (wACons (wOp oAdd (wVar 3) (wCB oMin (wACons (wVar 5) (wANil)))) (wACons (wOp oAdd (wVar 4) (wCB oMax (wACons (wVar 5) (wANil)))) (wANil))))
noncomputable def w_law_totals (K : PySem.W.Frag) (c : Cs) : WS := wSeq (wAsg (wTup (wACons (wC (.int 0)) (wACons (wC (.int 0)) (wANil)))) (wgTup 2 (wgCons (wgName 3) (wgCons (wgName 4) (wgNil))))) (wSeq (wFor (wiSeq (wVar 1)) (wgName 2) (w_law_totals_b1 K c)) (w_law_totals_t1 K c))
section
variable {P : Program} {w : World} {K : PySem.W.Frag} {mg : Str → Option Value} {base : Heap} {c : Cs}
theorem dv_law_totals (T : Txt K mg c) {f : Addr} (cdv : Value) (A : Around) (outer : List PySem.Env) (s : Shared) (H : Hp) (E : XK) (hr : Room 1 (A.deeper (PyProof.Rows.envOfC "_law_totals" (defScope s_law_totals) s.heap.objs.size f cdv))) : DSs (cxOf CX0 P w K mg base N_law_totals "_law_totals" (defScope s_law_totals) f cdv A outer s H E).nox (defBody s_law_totals) (w_law_totals K c) := by
  have ND := sc_law_totals.nd
  have hu := hu_of hr
  have hu64 := hr.units
  have hu65 := units65 hr
  exact dss_cons (ds_asg (de_tup (da_cons (de_int) (da_cons (de_int) (da_nil)))) (dg_pat (vs := [3, 4]) (g := gTup K 2 (gCons (gName 3) (gCons (gName 4) (gNil)))) (pg_tup rfl (pgs_cons (pg_name (i := 3) ND rfl (by first | exact Or.inl rfl | exact Or.inr rfl)) (pgs_cons (pg_name (i := 4) ND rfl (by first | exact Or.inl rfl | exact Or.inr rfl)) (pgs_nil)))) (gp_tup (gp_cons (gp_name (by decide)) (gp_cons (gp_name (by decide)) (gp_nil)))))) (dss_cons (ds_for PassesOwn.never rfl (di_seq (de_var (pv 1))) (dg_pat (vs := [2]) (g := gName 2) (pg_name (i := 2) ND rfl (by first | exact Or.inl rfl | exact Or.inr rfl)) (gp_name (by decide))) (dss_cons (ds_setLc (i := 5) (own := [("_law_number", 6), ("_law_one", 7)]) (g := gTup K 2 (gCons (gName 6) (gCons (gName 7) (gNil)))) rfl ND rfl rfl (sw_true rfl rfl rfl (by decide +kernel)) (di_seq (de_var (pv 0))) (blkOk_by (own := [("_law_number", 6), ("_law_one", 7)]) (N := N_law_totals) (sc := defScope s_law_totals) (by decide +kernel)) (gp_tup (gp_cons (gp_name (by decide)) (gp_cons (gp_name (by decide)) (gp_nil)))) (fun _ _ _ _ _ => pg_tup rfl (pgs_cons (pg_name (i := 6) ND rfl (by first | exact Or.inl rfl | exact Or.inr rfl)) (pgs_cons (pg_name (i := 7) ND rfl (by first | exact Or.inl rfl | exact Or.inr rfl)) (pgs_nil)))) (fun _ _ _ _ _ => dts_one (dt_tru (de_cal (cal_law_is_within T) hr (by decide) rfl (da_cons (de_var (pv 7)) (da_cons (de_var (pv 2)) (da_nil)))) (fun _ => rfl))) (fun _ _ _ _ _ => de_callTy cs_int rfl T.b_int (by decide +kernel) (da_cons (de_var (pv 6)) (da_nil)))) (dss_one (ds_par (i := 3) (j := 4) rfl ND rfl rfl (by decide) rfl rfl (da_cons (de_op os_add (de_var (pv 3)) (de_callB (cs_min rfl) rfl T.b_min (by decide +kernel) (da_cons (de_var (pv 5)) (da_nil)))) (da_cons (de_op os_add (de_var (pv 4)) (de_callB (cs_max rfl) rfl T.b_max (by decide +kernel) (da_cons (de_var (pv 5)) (da_nil)))) (da_nil))) (by rfl))))) (dss_one (ds_ret (de_tup (da_cons (de_var (pv 3)) (da_cons (de_var (pv 4)) (da_nil)))))))
theorem rd_law_totals (K : PySem.W.Frag) (c : Cs) : ∀ ds μ Q, sp_law_totals c ds μ Q → w_law_totals K c { nx := fun _ μ' => ∃ μ2, Sub μ2 μ' ∧ Q .non μ2, rt := Q } (startD N_law_totals ds) μ := by
  rintro ds μ Q ⟨es, ss, rfl, ok, asc, hss, k⟩
  show w_law_totals K c _ [some (.lst (es.map entD)), some (skD ss), none, none, none, none, none, none] μ
  have hsz := ok.sz
  unfold w_law_totals skD
  walk_at "dz"
  refine ⟨le_line (Nat.le_of_ble_eq_true rfl), rfl, ?_⟩
  refine for_ty (enc := sD) (fun i ρ μ' => μ' = μ ∧ ∃ x2 x5 x6 x7, ρ = [some (.lst (es.map entD)), some (.tup (ss.map sD)), x2, some (.int ((ss.take i).map (loO es)).sum), some (.int ((ss.take i).map (hiO es)).sum), x5, x6, x7]) ⟨rfl, _, _, _, _, rfl⟩ ?_ ?_
  · rintro i s ρ μ' hs ⟨rfl, y2, y5, y6, y7, rfl⟩
    obtain ⟨s1, s2, s3, s4⟩ := hss.2 s (getS hs).2
    have et : ∀ f : List Bool → Int, ((ss.take (i + 1)).map f).sum = ((ss.take i).map f).sum + f s := fun f => by
      rw [List.take_add_one, hs, List.map_append, List.sum_append]
      simp
    unfold sD
    walk_at "dz"
    unfold w_law_totals_b1
    walk_at "dz"
    refine lc_ty (enc := entD) (fun e => if canW W0 e.2 s = true then some (eNat.enc e.1) else none) (le_line (by omega)) ?_ ?_
    · intro j e μ2 R R' he _ hR hR'
      have hm := (getS he).2
      have hle := (len_mem ok hm).trans s3.symm
      unfold entD
      walk_at "dz"
      refine ⟨rfl, e.2, s, rfl, hle, (ok.st e hm).2, ?_⟩
      unfold W0 at hR hR'
      rw [canW_add, decide_eq_true hle, Bool.true_and] at hR hR'
      walk_at "dz"
      by_cases q : subB e.2 s = true
      · rw [if_pos q] at hR
        first | (rw [if_pos q]; exact hR _ rfl) | (rw [q]; walk_at "dz"; exact hR _ rfl)
      · rw [if_neg q] at hR'
        first | (rw [if_neg q]; exact hR' rfl) | (rw [Bool.not_eq_true] at q; rw [q]; walk_at "dz"; exact hR' rfl)
    · intro L hL
      rw [delS_setS hL, fm_if]
      have e1 : ((es.filter fun e => canW W0 e.2 s).map fun e => eNat.enc e.1) = ((orgs es W0 s).map fun n : Nat => (n : Int)).map D.int := by
        rw [orgs_filter, List.map_map, List.map_map]; rfl
      rw [e1]
      walk_at "dz"
      rw [dz_minL, intsD_map]
      have hne : 0 < ((orgs es W0 s).map fun n : Nat => (n : Int)).length := by rw [List.length_map]; exact List.length_pos_iff.mpr s4
      refine ⟨hne, fun m hm hmin => ?_⟩
      have hp := orgs_asc asc s
      have e2 : m = loO es s := by
        obtain ⟨a, ha, rfl⟩ := List.mem_map.mp hm
        unfold loO
        cases q : orgs es W0 s with
        | nil => exact absurd q s4
        | cons b r =>
          have h1 := hmin (b : Int) (by rw [q]; simp)
          rw [q] at ha hp
          show ((a : Nat) : Int) = ((b : Nat) : Int)
          rcases List.mem_cons.mp ha with z | z
          · rw [z]
          · have := (List.pairwise_cons.mp hp).1 _ z; omega
      subst e2
      walk_at "dz"
      try rw [intsD_map]
      refine ⟨hne, fun m hm hmax => ?_⟩
      have e3 : m = hiO es s := by
        obtain ⟨a, ha, rfl⟩ := List.mem_map.mp hm
        have h1 := lastN_max hp a ha
        have h2 := hmax _ (List.mem_map.mpr ⟨_, lastN_mem s4, rfl⟩)
        unfold hiO
        omega
      subst e3
      walk_at "dz"
      rw [et, et]
      exact ⟨_, _, _, _, rfl⟩
  · rintro ρ μ' ⟨rfl, y2, y5, y6, y7, rfl⟩
    unfold w_law_totals_t1
    walk_at "dz"
    rw [List.take_length]
    exact ⟨le_line (Nat.le_of_ble_eq_true rfl), ret_eq k⟩
theorem cal_law_totals (T : Txt K mg c) : DCal P w K mg base 2 "_law_totals" (sp_law_totals c) [] := T.f_law_totals.cal (ps := ["_law_entries", "_law_sticks"]) sc_law_totals (len_law_totals c) (fun cdv A outer s H E hr => dv_law_totals T cdv A outer s H E hr) (rd_law_totals K c) fun _ _ _ _ _ _ us hl => match us, hl with | [_, _], _ => rfl
end
noncomputable def sp_law_spoken (c : Cs) : DSp := fun ds μ Q => ∃ (es : List Ent) (ss : List (List Bool)), ds = [.lst (es.map entD), skD ss] ∧ Good es ∧ Asc es ∧ AllOk es ss ∧ ss.length ≤ 100 ∧ Q (.lst ([spk (sumsW es ss), jw (totW es ss)].map .str)) μ
theorem len_law_spoken (c : Cs) : ∀ ds μ Q, sp_law_spoken c ds μ Q → ds.length = 2 := by
  rintro ds μ Q ⟨es, ss, rfl, _⟩
  rfl
noncomputable def w_law_spoken_t1 (K : PySem.W.Frag) (c : Cs) : WS := wRet (wLst (wACons (wVar 3) (wACons (wBM "str" oJoin (wC (.str " ")) (wACons (wLc (wiSeq (wCall (sp_law_totals c) [] (wACons (wVar 0) (wACons (wVar 1) (wANil))))) (wgName 6) (wYes) (wCB oStr (wACons (wVar 6) (wANil))) [6]) (wANil))) (wANil))))
noncomputable def w_law_spoken (K : PySem.W.Frag) (c : Cs) : WS := wSeq (wAsg (wLc (wiSeq (wVar 1)) (wgName 4) (wYes) (wCall (sp_law_sum c) [] (wACons (wVar 0) (wACons (wVar 4) (wANil)))) [4]) (wgName 2)) (wSeq (wAsg (wIf (wB (wOp oNe (wVar 2) (wLst (wANil)))) (wBM "str" oJoin (wC (.str " ")) (wACons (wLc (wiSeq (wVar 2)) (wgName 5) (wYes) (wIf (wB (wOp oIs (wVar 5) (wC .non))) (wC (.str "?")) (wCB oStr (wACons (wVar 5) (wANil)))) [5]) (wANil))) (wC (.str "none"))) (wgName 3)) (w_law_spoken_t1 K c))
section
variable {P : Program} {w : World} {K : PySem.W.Frag} {mg : Str → Option Value} {base : Heap} {c : Cs}
theorem dv_law_spoken (T : Txt K mg c) {f : Addr} (cdv : Value) (A : Around) (outer : List PySem.Env) (s : Shared) (H : Hp) (E : XK) (hr : Room 2 (A.deeper (PyProof.Rows.envOfC "_law_spoken" (defScope s_law_spoken) s.heap.objs.size f cdv))) : DSs (cxOf CX0 P w K mg base N_law_spoken "_law_spoken" (defScope s_law_spoken) f cdv A outer s H E).nox (defBody s_law_spoken) (w_law_spoken K c) := by
  have ND := sc_law_spoken.nd
  have hu := hu_of hr
  have hu64 := hr.units
  have hu65 := units65 hr
  exact dss_cons (ds_setLc (i := 2) (own := [("_law_stick", 4)]) (g := gName 4) rfl ND rfl rfl (sw_true rfl rfl rfl (by decide +kernel)) (di_seq (de_var (pv 1))) (blkOk_by (own := [("_law_stick", 4)]) (N := N_law_spoken) (sc := defScope s_law_spoken) (by decide +kernel)) (gp_name (by decide)) (fun _ _ _ _ _ => pg_name (i := 4) ND rfl (by first | exact Or.inl rfl | exact Or.inr rfl)) (fun _ _ _ _ _ => dts_nil) (fun _ _ _ _ _ => de_cal (cal_law_sum T) hr (by decide) rfl (da_cons (de_var (pv 0)) (da_cons (de_var (pv 4)) (da_nil))))) (dss_cons (ds_set (i := 3) ND rfl (Or.inl rfl) (de_if (dt_cmp (os_ne hu64) (de_var (pv 2)) (de_lst (da_nil)) (nomark _)) (de_bm bm_join (de_str) (da_cons (de_lc (own := [("_law_one", 5)]) (g := gName 5) rfl ND (di_seq (de_var (pv 2))) (blkOk_by (own := [("_law_one", 5)]) (N := N_law_spoken) (sc := defScope s_law_spoken) (by decide +kernel)) (gp_name (by decide)) (fun _ _ _ _ _ => pg_name (i := 5) ND rfl (by first | exact Or.inl rfl | exact Or.inr rfl)) (fun _ _ _ _ _ => dts_nil) (fun _ _ _ _ _ => de_if (dt_cmp os_is (de_var (pv 5)) (de_non) (nomark _)) (de_str) (de_callTy cs_str rfl T.b_str (by decide +kernel) (da_cons (de_var (pv 5)) (da_nil))))) (da_nil))) (de_str))) (dss_one (ds_ret (de_lst (da_cons (de_var (pv 3)) (da_cons (de_bm bm_join (de_str) (da_cons (de_lc (own := [("_law_total", 6)]) (g := gName 6) rfl ND (di_seq (de_cal (cal_law_totals T) hr (by decide) rfl (da_cons (de_var (pv 0)) (da_cons (de_var (pv 1)) (da_nil))))) (blkOk_by (own := [("_law_total", 6)]) (N := N_law_spoken) (sc := defScope s_law_spoken) (by decide +kernel)) (gp_name (by decide)) (fun _ _ _ _ _ => pg_name (i := 6) ND rfl (by first | exact Or.inl rfl | exact Or.inr rfl)) (fun _ _ _ _ _ => dts_nil) (fun _ _ _ _ _ => de_callTy cs_str rfl T.b_str (by decide +kernel) (da_cons (de_var (pv 6)) (da_nil)))) (da_nil))) (da_nil)))))))
theorem rd_law_spoken (K : PySem.W.Frag) (c : Cs) : ∀ ds μ Q, sp_law_spoken c ds μ Q → w_law_spoken K c { nx := fun _ μ' => ∃ μ2, Sub μ2 μ' ∧ Q .non μ2, rt := Q } (startD N_law_spoken ds) μ := by
  rintro ds μ Q ⟨es, ss, rfl, ok, asc, hss, h100, k⟩
  show w_law_spoken K c _ [some (.lst (es.map entD)), some (skD ss), none, none, none, none, none] μ
  have hlen : ∀ o ∈ ss.map (sumO es), ∀ n, o = some n → n < 10000000 := fun o ho n hn => by
    obtain ⟨s, _, rfl⟩ := List.mem_map.mp ho
    unfold sumO at hn
    cases q : es.find? fun e => decide (e.2 = s) with
    | none => rw [q] at hn; cases hn
    | some e => rw [q] at hn; cases hn; exact ok.num e (List.mem_of_find?_eq_some q)
  unfold w_law_spoken skD
  walk_at "dz"
  refine lc_tm (enc := sD) (fun s => sumD (sumO es s)) (le_line (by omega)) ?_ ?_
  · intro i s μ' R hs _ hR
    unfold sD
    walk_at "dz"
    exact ⟨es, s, rfl, ok, hR⟩
  · intro L hL
    rw [delS_setS hL, show (ss.map fun s => sumD (sumO es s)) = (ss.map (sumO es)).map sumD by rw [List.map_map]; rfl]
    walk_at "dz"
    refine ⟨le_line (Nat.le_of_ble_eq_true rfl), ?_⟩
    rw [show D.lst [] = .lst (([] : List (Option Nat)).map eSum.enc) from rfl, show (ss.map (sumO es)).map sumD = (ss.map (sumO es)).map eSum.enc from rfl, oNe_lst eSum (by decide)]
    walk_at "dz"
    have b1 := sum_bd (l := ss.map (loO es)) fun x hx => by obtain ⟨s, hs, rfl⟩ := List.mem_map.mp hx; exact (lo_bd ok (hss.2 s hs)).1
    have b2 := sum_bd (l := ss.map (hiO es)) fun x hx => by obtain ⟨s, hs, rfl⟩ := List.mem_map.mp hx; exact (lo_bd ok (hss.2 s hs)).2
    rw [List.length_map] at b1 b2
    have c1 := itx_ok (i := (ss.map (loO es)).sum) b1.1 (by omega)
    have c2 := itx_ok (i := (ss.map (hiO es)).sum) b2.1 (by omega)
    have e1 : (Str.ofString " ").length = 1 := by decide +kernel
    have fin : ∀ (x2 : Option D), w_law_spoken_t1 K c { nx := fun _ μ' => ∃ μ2, Sub μ2 μ' ∧ Q .non μ2, rt := Q } [some (.lst (es.map entD)), some (.tup (ss.map sD)), x2, some (.str (spk (sumsW es ss))), none, none, none] μ := fun x2 => by
      unfold w_law_spoken_t1
      walk_at "dz"
      refine ⟨es, ss, rfl, ok, asc, hss, ?_⟩
      unfold totD
      walk_at "dz"
      refine lc_tm (enc := D.int) (xs := [(ss.map (loO es)).sum, (ss.map (hiO es)).sum]) (fun i => .str (itx i)) (le_line (Nat.le_of_ble_eq_true rfl)) ?_ ?_
      · intro i z μ' R hz _ hR
        have hz2 : 0 ≤ z ∧ z < 1000000000000000000 := by
          have := (getS hz).2
          simp only [List.mem_cons, List.not_mem_nil, or_false] at this
          rcases this with rfl | rfl <;> omega
        walk_at "dz"
        exact ⟨log_big hz2.1 hz2.2, hR⟩
      · intro L hL
        rw [delS_setS hL, show ([(ss.map (loO es)).sum, (ss.map (hiO es)).sum].map fun i => D.str (itx i)) = (totW es ss).map .str from rfl, oJoin_txts, e1]
        refine ⟨?_, le_line (Nat.le_of_ble_eq_true rfl), ret_eq k⟩
        unfold totW
        simp only [List.map_cons, List.map_nil, List.sum_cons, List.sum_nil, List.length_cons, List.length_nil]
        omega
    by_cases h0 : ss.map (sumO es) = []
    · rw [if_neg (fun q => q h0)]
      have : spk (sumsW es ss) = Str.ofString "none" := by
        unfold spk sumsW
        rw [if_pos (by rw [List.map_eq_nil_iff] at h0 ⊢; exact h0)]
      rw [← this]
      exact fin _
    · rw [if_pos h0]
      refine lc_tm (enc := eSum.enc) (fun o => .str (sumT o)) (le_line (by rw [List.length_map]; omega)) ?_ ?_
      · intro i o μ' R ho _ hR
        have hb := hlen o (getS ho).2
        cases o with
        | none =>
          rw [show eSum.enc none = D.non from rfl]
          walk_at "dz"
          exact hR
        | some n =>
          rw [show eSum.enc (some n) = D.int (n : Nat) from rfl]
          walk_at "dz"
          exact ⟨log_small (hb n rfl), hR⟩
      · intro L hL
        rw [delS_setS hL, show ((ss.map (sumO es)).map fun o => D.str (sumT o)) = (sumsW es ss).map .str by unfold sumsW; rw [List.map_map, List.map_map]; rfl, oJoin_txts, e1]
        have hw : ∀ w ∈ sumsW es ss, w.length ≤ 7 := fun w hw => by
          obtain ⟨s, hs, rfl⟩ := List.mem_map.mp hw
          have hb := hlen (sumO es s) (List.mem_map.mpr ⟨s, hs, rfl⟩)
          cases q : sumO es s with
          | none => rw [show sumT none = Str.ofString "?" from rfl]; decide +kernel
          | some n => exact dig_len (hb n q)
        have hs := sum_len hw
        have hl2 : (sumsW es ss).length = ss.length := by unfold sumsW; rw [List.length_map]
        have : Txt.join (Str.ofString " ") (sumsW es ss) = spk (sumsW es ss) := by
          unfold spk
          rw [if_neg (fun q => h0 (by unfold sumsW at q; rw [List.map_eq_nil_iff] at q ⊢; exact q))]
          rfl
        rw [this]
        exact ⟨by omega, fin _⟩
theorem cal_law_spoken (T : Txt K mg c) : DCal P w K mg base 3 "_law_spoken" (sp_law_spoken c) [] := T.f_law_spoken.cal (ps := ["_law_entries", "_law_sticks"]) sc_law_spoken (len_law_spoken c) (fun cdv A outer s H E hr => dv_law_spoken T cdv A outer s H E hr) (rd_law_spoken K c) fun _ _ _ _ _ _ us hl => match us, hl with | [_, _], _ => rfl
end
noncomputable def sp_law_take (c : Cs) : DSp := fun ds μ Q => ∃ (p : Addr) (n : Int) (d : List D), ds = [.ref p, .int n] ∧ μ p = some (.lst d) ∧ BoxV d ∧ (0 < n ∧ n < 1073741824) ∧ ∀ r d', 0 ≤ r → r < n → BoxV d' → Q (.int r) (setS μ p (.lst d'))
theorem len_law_take (c : Cs) : ∀ ds μ Q, sp_law_take c ds μ Q → ds.length = 2 := by
  rintro ds μ Q ⟨p, n, d, rfl, _⟩
  rfl
noncomputable def w_law_take_t1 (K : PySem.W.Frag) (c : Cs) : WS := wSeq (wAsg (wOp oMod (wCB oInt (wACons (wOp oAdd (wOp oMul (wIx (wVar 0) (wC (.int 1))) (wC (.int 48271))) (wC (.int 40031))) (wANil))) (wC (.int 2147483647))) (wgSub oSet (wVar 0) (wC (.int 1)))) (wRet (wOp oMod (wCB oInt (wACons (wOp oFdiv (wIx (wVar 0) (wC (.int 1))) (wC (.int 64))) (wANil))) (wVar 1)))
noncomputable def w_law_take (K : PySem.W.Frag) (c : Cs) : WS := wSeq (wIfS (wB (wOp oGt (wIx (wVar 0) (wC (.int 0))) (wC (.int 0)))) (wSeq (wAsg (wOp oMod (wCB oInt (wACons (wIx (wVar 0) (wC (.int 0))) (wANil))) (wVar 1)) (wgName 2)) (wSeq (wAsg (wOp oFdiv (wIx (wVar 0) (wC (.int 0))) (wVar 1)) (wgSub oSet (wVar 0) (wC (.int 0)))) (wRet (wVar 2)))) (wNext)) (w_law_take_t1 K c)
section
variable {P : Program} {w : World} {K : PySem.W.Frag} {mg : Str → Option Value} {base : Heap} {c : Cs}
theorem dv_law_take (T : Txt K mg c) {f : Addr} (cdv : Value) (A : Around) (outer : List PySem.Env) (s : Shared) (H : Hp) (E : XK) (hr : Room 0 (A.deeper (PyProof.Rows.envOfC "_law_take" (defScope s_law_take) s.heap.objs.size f cdv))) : DSs (cxOf CX0 P w K mg base N_law_take "_law_take" (defScope s_law_take) f cdv A outer s H E).nox (defBody s_law_take) (w_law_take K c) := by
  have ND := sc_law_take.nd
  have hu := hu_of hr
  have hu64 := hr.units
  have hu65 := units65 hr
  exact dss_cons (ds_if (dt_cmp os_gt (de_ix hu (de_var (pv 0)) (de_int) (fun _ _ => rfl)) (de_int) (nomark _)) (dss_cons (ds_set (i := 2) ND rfl (Or.inl rfl) (de_op os_mod (de_callTy cs_int rfl T.b_int (by decide +kernel) (da_cons (de_ix hu (de_var (pv 0)) (de_int) (fun _ _ => rfl)) (da_nil))) (de_var (pv 1)))) (dss_cons (ds_asg (de_op os_fdiv (de_ix hu (de_var (pv 0)) (de_int) (fun _ _ => rfl)) (de_var (pv 1))) (dg_sub (os_set hu) (de_var (pv 0)) (de_int))) (dss_one (ds_ret (de_var (pv 2)))))) (dss_nil)) (dss_cons (ds_asg (de_op os_mod (de_callTy cs_int rfl T.b_int (by decide +kernel) (da_cons (de_op os_add (de_op os_mul (de_ix hu (de_var (pv 0)) (de_int) (fun _ _ => rfl)) (de_int)) (de_int)) (da_nil))) (de_int)) (dg_sub (os_set hu) (de_var (pv 0)) (de_int))) (dss_one (ds_ret (de_op os_mod (de_callTy cs_int rfl T.b_int (by decide +kernel) (da_cons (de_op os_fdiv (de_ix hu (de_var (pv 0)) (de_int) (fun _ _ => rfl)) (de_int)) (da_nil))) (de_var (pv 1))))))
theorem rd_law_take_t1 {K : PySem.W.Frag} {c : Cs} {μ : Store} {Q : D → Store → Prop} {R : Dl.Env → Store → Prop} {p : Addr} {n a s : Int} (hp : μ p = some (.lst [.int a, .int s])) (ha : 0 ≤ a) (hs : 0 ≤ s ∧ s < 4294967296) (hn : 0 < n ∧ n < 1073741824)
    (q : ∀ r d', 0 ≤ r → r < n → BoxV d' → Q (.int r) (setS μ p (.lst d'))) : w_law_take_t1 K c { nx := R, rt := Q } [some (.ref p), some (.int n), none] μ := by
  unfold w_law_take_t1
  walk_at "dx"
  simp only [hp, oAdd_int, at2_1, at2_0, List.length_cons, List.length_nil, Nat.zero_add, Nat.reduceAdd, ix2_1, ix2_0, setS_same, List.set_cons_succ, List.set_cons_zero, setS_setS]
  have h3 := em_lo (a := s * 48271 + 40031) (b := 2147483647) (by decide)
  have h4 := em_hi (a := s * 48271 + 40031) (b := 2147483647) (by decide)
  generalize (s * 48271 + 40031) % 2147483647 = s2 at h3 h4 ⊢
  exact ⟨.inr (by decide), by decide, by decide, hn.1, ret_eq (q _ _ (em_lo hn.1) (em_hi hn.1) ⟨a, s2, rfl, ha, ⟨by omega, by omega⟩⟩)⟩
theorem rd_law_take (K : PySem.W.Frag) (c : Cs) : ∀ ds μ Q, sp_law_take c ds μ Q → w_law_take K c { nx := fun _ μ' => ∃ μ2, Sub μ2 μ' ∧ Q .non μ2, rt := Q } (startD N_law_take ds) μ := by
  rintro ds μ Q ⟨p, n, d, rfl, hp, ⟨a, s, rfl, ha, hs⟩, hn, q⟩
  show w_law_take K c _ [some _, some _, none] μ
  unfold w_law_take
  walk_at "dx"
  simp only [hp, at2_0, List.length_cons, List.length_nil, Nat.zero_add, Nat.reduceAdd, ix2_0, setS_same, List.set_cons_succ, List.set_cons_zero]
  split
  · exact ⟨hn.1, hn, ret_eq (q _ _ (em_lo hn.1) (em_hi hn.1) ⟨a / n, s, rfl, Int.ediv_nonneg ha (by omega), hs⟩)⟩
  · exact rd_law_take_t1 (K := K) (c := c) hp ha hs hn q
theorem cal_law_take (T : Txt K mg c) : DCal P w K mg base 1 "_law_take" (sp_law_take c) [] := T.f_law_take.cal (ps := ["_law_box_here", "_law_limit"]) sc_law_take (len_law_take c) (fun cdv A outer s H E hr => dv_law_take T cdv A outer s H E hr) (rd_law_take K c) fun _ _ _ _ _ _ us hl => match us, hl with | [_, _], _ => rfl
end
noncomputable def sp_law_pick (c : Cs) : DSp := fun ds μ Q => ∃ (p : Addr) (xs : List D) (d : List D), ds = [.ref p, .lst xs] ∧ μ p = some (.lst d) ∧ BoxV d ∧ (0 < xs.length ∧ xs.length < 1000000) ∧ ∀ x d', x ∈ xs → BoxV d' → Q x (setS μ p (.lst d'))
theorem len_law_pick (c : Cs) : ∀ ds μ Q, sp_law_pick c ds μ Q → ds.length = 2 := by
  rintro ds μ Q ⟨p, xs, d, rfl, _⟩
  rfl
noncomputable def w_law_pick (K : PySem.W.Frag) (c : Cs) : WS := wRet (wIx (wVar 1) (wCall (sp_law_take c) [] (wACons (wVar 0) (wACons (wCB oLen (wACons (wVar 1) (wANil))) (wANil)))))
section
variable {P : Program} {w : World} {K : PySem.W.Frag} {mg : Str → Option Value} {base : Heap} {c : Cs}
theorem dv_law_pick (T : Txt K mg c) {f : Addr} (cdv : Value) (A : Around) (outer : List PySem.Env) (s : Shared) (H : Hp) (E : XK) (hr : Room 1 (A.deeper (PyProof.Rows.envOfC "_law_pick" (defScope s_law_pick) s.heap.objs.size f cdv))) : DSs (cxOf CX0 P w K mg base N_law_pick "_law_pick" (defScope s_law_pick) f cdv A outer s H E).nox (defBody s_law_pick) (w_law_pick K c) := by
  have ND := sc_law_pick.nd
  have hu := hu_of hr
  have hu64 := hr.units
  have hu65 := units65 hr
  exact dss_one (ds_ret (de_ix hu (de_var (pv 1)) (de_cal (cal_law_take T) hr (by decide) rfl (da_cons (de_var (pv 0)) (da_cons (de_callB cs_len rfl T.b_len (by decide +kernel) (da_cons (de_var (pv 1)) (da_nil))) (da_nil)))) (fun _ _ => rfl)))
theorem rd_law_pick (K : PySem.W.Frag) (c : Cs) : ∀ ds μ Q, sp_law_pick c ds μ Q → w_law_pick K c { nx := fun _ μ' => ∃ μ2, Sub μ2 μ' ∧ Q .non μ2, rt := Q } (startD N_law_pick ds) μ := by
  rintro ds μ Q ⟨p, xs, d, rfl, hp, hb, hl, q⟩
  show w_law_pick K c _ [some (.ref p), some (.lst xs)] μ
  unfold w_law_pick
  walk_at "dx"
  refine ⟨p, _, d, rfl, hp, hb, ⟨by omega, by omega⟩, fun r d' h1 h2 hb' => ?_⟩
  obtain ⟨j, rfl⟩ : ∃ j : Nat, r = (j : Int) := ⟨r.toNat, by omega⟩
  have hj : j < xs.length := by omega
  walk_at "dx"
  rw [atI_nat (List.getElem?_eq_getElem hj)]
  exact ret_eq (q _ _ (List.getElem_mem hj) hb')
theorem cal_law_pick (T : Txt K mg c) : DCal P w K mg base 2 "_law_pick" (sp_law_pick c) [] := T.f_law_pick.cal (ps := ["_law_box_here", "_law_some"]) sc_law_pick (len_law_pick c) (fun cdv A outer s H E hr => dv_law_pick T cdv A outer s H E hr) (rd_law_pick K c) fun _ _ _ _ _ _ us hl => match us, hl with | [_, _], _ => rfl
end
noncomputable def sp_law_any_stick (c : Cs) : DSp := fun ds μ Q => ∃ (p : Addr) (l : Nat) (xs : List Bool), ds = [.ref p, .int (l : Nat), .lst (xs.map fun b => .str (stk [b]))] ∧ l ≤ 100000 ∧ (0 < xs.length ∧ xs.length < 1000) ∧ BxAt μ p ∧ ∀ bs μ', bs.length = l → BxAt μ' p → Mut p μ μ' → Q (.str (stk bs)) μ'
theorem len_law_any_stick (c : Cs) : ∀ ds μ Q, sp_law_any_stick c ds μ Q → ds.length = 3 := by
  rintro ds μ Q ⟨p, l, xs, rfl, _⟩
  rfl
noncomputable def w_law_any_stick (K : PySem.W.Frag) (c : Cs) : WS := wRet (wBM "str" oJoin (wC (.str "")) (wACons (wLc (wiRng1 (wACons (wVar 1) (wANil))) (wgName 3) (wYes) (wCall (sp_law_pick c) [] (wACons (wVar 0) (wACons (wVar 2) (wANil)))) [3]) (wANil)))
section
variable {P : Program} {w : World} {K : PySem.W.Frag} {mg : Str → Option Value} {base : Heap} {c : Cs}
theorem dv_law_any_stick (T : Txt K mg c) {f : Addr} (cdv : Value) (A : Around) (outer : List PySem.Env) (s : Shared) (H : Hp) (E : XK) (hr : Room 2 (A.deeper (PyProof.Rows.envOfC "_law_any_stick" (defScope s_law_any_stick) s.heap.objs.size f cdv))) : DSs (cxOf CX0 P w K mg base N_law_any_stick "_law_any_stick" (defScope s_law_any_stick) f cdv A outer s H E).nox (defBody s_law_any_stick) (w_law_any_stick K c) := by
  have ND := sc_law_any_stick.nd
  have hu := hu_of hr
  have hu64 := hr.units
  have hu65 := units65 hr
  exact dss_one (ds_ret (de_bm bm_join (de_str) (da_cons (de_lc (own := [("_law_turn", 3)]) (g := gName 3) rfl ND (di_range1 rfl T.b_range (da_cons (de_var (pv 1)) (da_nil))) (blkOk_by (own := [("_law_turn", 3)]) (N := N_law_any_stick) (sc := defScope s_law_any_stick) (by decide +kernel)) (gp_name (by decide)) (fun _ _ _ _ _ => pg_name (i := 3) ND rfl (by first | exact Or.inl rfl | exact Or.inr rfl)) (fun _ _ _ _ _ => dts_nil) (fun _ _ _ _ _ => de_cal (cal_law_pick T) hr (by decide) rfl (da_cons (de_var (pv 0)) (da_cons (de_var (pv 2)) (da_nil))))) (da_nil))))
theorem rd_law_any_stick (K : PySem.W.Frag) (c : Cs) : ∀ ds μ Q, sp_law_any_stick c ds μ Q → w_law_any_stick K c { nx := fun _ μ' => ∃ μ2, Sub μ2 μ' ∧ Q .non μ2, rt := Q } (startD N_law_any_stick ds) μ := by
  rintro ds μ Q ⟨p, l, xs, rfl, hl, hxs, ⟨d, hp, hb⟩, q⟩
  show w_law_any_stick K c _ [some (.ref p), some (.int l), some (.lst (xs.map fun b => .str (stk [b]))), none] μ
  unfold w_law_any_stick
  walk_at "dx"
  have el : ((l : Int)).toNat = l := by omega
  simp only [stk_nil, stk_p, stk_x, tyM_str, true_and, el]
  refine ⟨by omega, by rw [rng_length]; exact le_line (by omega), fun A hA => ⟨fun i acc μ' => ∃ (bs : List Bool) (d' : List D), bs.length = i ∧ acc = (bs.map fun b => D.str (stk [b])) ∧ BoxV d' ∧ μ' p = some (.lst d') ∧ ∀ a z, a ≠ p → a ≠ A → μ a = some z → μ' a = some z, ?_, ?_, ?_⟩⟩
  · have hne : p ≠ A := by rintro rfl; rw [hp] at hA; cases hA
    exact ⟨[], d, rfl, rfl, hb, by rw [setS_ne hne]; exact hp, fun a z h1 h2 h3 => by rw [setS_ne h2]; exact h3⟩
  · rintro i e acc μ' he hA' ⟨bs, d', rfl, rfl, hb', hp', hk⟩
    have hne : p ≠ A := by rintro rfl; rw [hp] at hA; cases hA
    obtain ⟨hi, rfl⟩ := rng_inv he
    walk_at "dx"
    refine ⟨p, _, d', rfl, hp', hb', ⟨by rw [List.length_map]; omega, by rw [List.length_map]; omega⟩, fun x d2 hx hb2 => ?_⟩
    obtain ⟨b, hbx, rfl⟩ := List.mem_map.mp hx
    refine ⟨by rw [setS_ne (Ne.symm hne)]; exact hA', bs ++ [b], d2, by simp, by simp, hb2, by rw [setS_ne hne, setS_same], fun a z h1 h2 h3 => by rw [setS_ne h2, setS_ne h1]; exact hk a z h1 h2 h3⟩
  · rintro acc μ' hz hA' ⟨bs, d', hbl, rfl, hb', hp', hk⟩
    rw [rng_length] at hbl
    have hne : p ≠ A := by rintro rfl; rw [hp] at hA; cases hA
    refine ⟨_, strs_one bs, ?_, ?_⟩
    · rw [lens_one, List.length_map, stk_len, List.length_nil, Nat.mul_zero]; omega
    · rw [join_one]
      refine ret_eq (q bs _ hbl ⟨d', by rw [delS_ne hne]; exact hp', hb'⟩ fun a z h1 h2 => ?_)
      have h3 : a ≠ A := by rintro rfl; rw [hA] at h2; cases h2
      rw [delS_ne h3]
      exact hk a z h1 h3 h2
theorem cal_law_any_stick (T : Txt K mg c) : DCal P w K mg base 3 "_law_any_stick" (sp_law_any_stick c) [] := T.f_law_any_stick.cal (ps := ["_law_box_here", "_law_places", "_law_signs"]) sc_law_any_stick (len_law_any_stick c) (fun cdv A outer s H E hr => dv_law_any_stick T cdv A outer s H E hr) (rd_law_any_stick K c) fun _ _ _ _ _ _ us hl => match us, hl with | [_, _, _], _ => rfl
end
noncomputable def sp_law_near_stick (c : Cs) : DSp := fun ds μ Q => ∃ (p : Addr) (s : List Bool), ds = [.ref p, .str (stk s)] ∧ (0 < s.length ∧ s.length ≤ 1000) ∧ BxAt μ p ∧ ∀ t μ', t.length = s.length → BxAt μ' p → Mut p μ μ' → Q (.str (stk t)) μ'
theorem len_law_near_stick (c : Cs) : ∀ ds μ Q, sp_law_near_stick c ds μ Q → ds.length = 2 := by
  rintro ds μ Q ⟨p, s, rfl, _⟩
  rfl
noncomputable def w_law_near_stick (K : PySem.W.Frag) (c : Cs) : WS := wSeq (wAsg (wCall (sp_law_take c) [] (wACons (wVar 0) (wACons (wCB oLen (wACons (wVar 1) (wANil))) (wANil)))) (wgName 2)) (wRet (wOp oAdd (wOp oAdd (wSl (wVar 1) (wNoP) (wPart (wVar 2))) (wIx (wC (.str ".x")) (wCB oInt (wACons (wOp oEq (wIx (wVar 1) (wVar 2)) (wC (.str "."))) (wANil))))) (wSl (wVar 1) (wPart (wOp oAdd (wVar 2) (wC (.int 1)))) (wNoP))))
section
variable {P : Program} {w : World} {K : PySem.W.Frag} {mg : Str → Option Value} {base : Heap} {c : Cs}
theorem dv_law_near_stick (T : Txt K mg c) {f : Addr} (cdv : Value) (A : Around) (outer : List PySem.Env) (s : Shared) (H : Hp) (E : XK) (hr : Room 1 (A.deeper (PyProof.Rows.envOfC "_law_near_stick" (defScope s_law_near_stick) s.heap.objs.size f cdv))) : DSs (cxOf CX0 P w K mg base N_law_near_stick "_law_near_stick" (defScope s_law_near_stick) f cdv A outer s H E).nox (defBody s_law_near_stick) (w_law_near_stick K c) := by
  have ND := sc_law_near_stick.nd
  have hu := hu_of hr
  have hu64 := hr.units
  have hu65 := units65 hr
  exact dss_cons (ds_set (i := 2) ND rfl (Or.inl rfl) (de_cal (cal_law_take T) hr (by decide) rfl (da_cons (de_var (pv 0)) (da_cons (de_callB cs_len rfl T.b_len (by decide +kernel) (da_cons (de_var (pv 1)) (da_nil))) (da_nil))))) (dss_one (ds_ret (de_op os_add (de_op os_add (de_sl (de_var (pv 1)) (dp_none) (dp_some (de_var (pv 2)))) (de_ix hu (de_str) (de_callTy cs_int rfl T.b_int (by decide +kernel) (da_cons (de_cmp (os_eq hu64) (de_ix hu (de_var (pv 1)) (de_var (pv 2)) (fun _ _ => rfl)) (de_str) (nomark _)) (da_nil))) (fun _ _ => rfl))) (de_sl (de_var (pv 1)) (dp_some (de_op os_add (de_var (pv 2)) (de_int))) (dp_none)))))
theorem rd_law_near_stick (K : PySem.W.Frag) (c : Cs) : ∀ ds μ Q, sp_law_near_stick c ds μ Q → w_law_near_stick K c { nx := fun _ μ' => ∃ μ2, Sub μ2 μ' ∧ Q .non μ2, rt := Q } (startD N_law_near_stick ds) μ := by
  rintro ds μ Q ⟨p, s, rfl, hs, ⟨d, hp, hb⟩, k⟩
  show w_law_near_stick K c _ [some (.ref p), some (.str (stk s)), none] μ
  unfold w_law_near_stick
  walk_at "dz"
  rw [stk_len]
  refine ⟨le_line (by omega), p, _, d, rfl, hp, hb, ⟨by omega, by omega⟩, fun r d' h1 h2 hb' => ?_⟩
  obtain ⟨j, rfl⟩ : ∃ j : Nat, r = (j : Int) := ⟨r.toNat, by omega⟩
  have hj : j < s.length := by omega
  have hsj : s[j]? = some s[j] := List.getElem?_eq_getElem hj
  have e3 : ∀ b : Bool, (stk (s.take j) ++ stk [b]) ++ stk (s.drop (j + 1)) = stk (s.take j ++ [b] ++ s.drop (j + 1)) := fun b => by rw [stk_app, stk_app]
  have h3 : (s.take j).length = j := by rw [List.length_take]; omega
  have h4 : (s.drop (j + 1)).length = s.length - (j + 1) := List.length_drop
  have fin : ∀ b : Bool, Q (.str (stk (s.take j ++ [b] ++ s.drop (j + 1)))) (setS μ p (.lst d')) := fun b => k _ _ (by rw [List.length_append, List.length_append, List.length_singleton, h3, h4]; omega) (BxAt.set hb') Mut.set
  have e1 : ((j : Int) + 1) = ((j + 1 : Nat) : Int) := by omega
  walk_at "dz"
  refine ⟨le_line (by omega), ?_⟩
  rw [stk_at hsj]
  walk_at "dz"
  rw [e1, cut_any, cutd_any, stk_len]
  have fin2 : ∀ b : Bool, ((stk (s.take j)).length + (stk [b]).length ≤ sizeLine ∧ s.length ≤ sizeLine ∧ (stk (s.take j) ++ stk [b]).length + (stk (s.drop (j + 1))).length ≤ sizeLine ∧ ∃ d1 μ1, Fz (D.str (stk (s.take j) ++ stk [b] ++ stk (s.drop (j + 1)))) (setS μ p (.lst d')) d1 μ1 ∧ Q d1 μ1) := fun b => by
    rw [e3 b, stk_app, stk_len, stk_len, stk_len, stk_len, List.length_append, List.length_singleton, h3, h4]
    exact ⟨le_line (by omega), le_line (by omega), le_line (by omega), ret_eq (fin b)⟩
  cases q : s[j] with
  | false =>
    rw [show atI (Str.ofString ".x").cps.toList (if (({ cps := #[sg false] } : Str) == Str.ofString ".") = true then 1 else 0) = some (sg true) by decide +kernel]
    exact ⟨le_line (by omega), le_line (by decide +kernel), fin2 true⟩
  | true =>
    rw [show atI (Str.ofString ".x").cps.toList (if (({ cps := #[sg true] } : Str) == Str.ofString ".") = true then 1 else 0) = some (sg false) by decide +kernel]
    exact ⟨le_line (by omega), le_line (by decide +kernel), fin2 false⟩
theorem cal_law_near_stick (T : Txt K mg c) : DCal P w K mg base 2 "_law_near_stick" (sp_law_near_stick c) [] := T.f_law_near_stick.cal (ps := ["_law_box_here", "_law_one"]) sc_law_near_stick (len_law_near_stick c) (fun cdv A outer s H E hr => dv_law_near_stick T cdv A outer s H E hr) (rd_law_near_stick K c) fun _ _ _ _ _ _ us hl => match us, hl with | [_, _], _ => rfl
end
noncomputable def sp_law_book (c : Cs) : DSp := fun ds μ Q => ∃ (p : Addr) (l most : Nat), ds = [.ref p, .int (l : Nat), .int (most : Nat)] ∧ (0 < l ∧ l ≤ 1000) ∧ (0 < most ∧ most ≤ 100) ∧ BxAt μ p ∧ ∀ (es : List Ent) μ', Good es → Asc es → es ≠ [] → es.length ≤ most → (∀ e ∈ es, e.2.length = l ∧ e.1 ≤ 1000000) → BxAt μ' p → Mut p μ μ' → Q (.lst (es.map entD)) μ'
theorem len_law_book (c : Cs) : ∀ ds μ Q, sp_law_book c ds μ Q → ds.length = 3 := by
  rintro ds μ Q ⟨p, l, most, rfl, _⟩
  rfl
noncomputable def w_law_book_t1 (K : PySem.W.Frag) (c : Cs) : WS := wSeq (wAsg (wCB oSorted (wACons (wLcR (wVar 4) (wgTup 2 (wgCons (wgName 9) (wgCons (wgName 10) (wgNil)))) (wYes) (wCB oInt (wACons (wVar 9) (wANil))) [9, 10]) (wANil))) (wgName 5)) (wRet (wLc (wiSeq (wVar 5)) (wgName 9) (wYes) (wIx (wLcR (wVar 4) (wgName 11) (wB (wOp oEq (wIx (wVar 11) (wC (.int 0))) (wVar 9))) (wVar 11) [11]) (wC (.int 0))) [9]))
noncomputable def w_law_book_b1 (K : PySem.W.Frag) (c : Cs) : WS := wDrop (wBM "list" oExtend (wVar 4) (wACons (wIf (wB (wOp oNotIn (wVar 9) (wLcR (wVar 4) (wgTup 2 (wgCons (wgName 12) (wgCons (wgName 13) (wgNil)))) (wYes) (wVar 12) [12, 13]))) (wLst (wACons (wTup (wACons (wVar 9) (wACons (wVar 10) (wANil)))) (wANil))) (wLst (wANil))) (wANil)))
noncomputable def w_law_book_t2 (K : PySem.W.Frag) (c : Cs) : WS := wSeq (wAsg (wLstM (wANil)) (wgName 4)) (wSeq (wForR (wVar 6) (wgTup 2 (wgCons (wgName 9) (wgCons (wgName 10) (wgNil)))) (w_law_book_b1 K c)) (w_law_book_t1 K c))
noncomputable def w_law_book_t3 (K : PySem.W.Frag) (c : Cs) : WS := wIfS (wB (wOp oNotIn (wVar 7) (wLcR (wVar 6) (wgTup 2 (wgCons (wgName 9) (wgCons (wgName 10) (wgNil)))) (wYes) (wVar 10) [9, 10]))) (wDrop (wBM "list" oAppend (wVar 6) (wACons (wTup (wACons (wIf (wB (wOp oEq (wCall (sp_law_take c) [] (wACons (wVar 0) (wACons (wC (.int 9)) (wANil)))) (wC (.int 0)))) (wOp oSub (wOp oPow (wC (.int 10)) (wC (.int 6))) (wCall (sp_law_take c) [] (wACons (wVar 0) (wACons (wC (.int 30)) (wANil))))) (wCall (sp_law_take c) [] (wACons (wVar 0) (wACons (wC (.int 60)) (wANil))))) (wACons (wVar 7) (wANil)))) (wANil)))) (wNext)
noncomputable def w_law_book_b2 (K : PySem.W.Frag) (c : Cs) : WS := wSeq (wAsg (wCall (sp_law_take c) [] (wACons (wVar 0) (wACons (wC (.int 4)) (wANil)))) (wgName 8)) (wSeq (wAsg (wIf (wB (wOp oLt (wVar 8) (wC (.int 3)))) (wCall (sp_law_near_stick c) [] (wACons (wVar 0) (wACons (wVar 7) (wANil)))) (wCall (sp_law_any_stick c) [] (wACons (wVar 0) (wACons (wVar 1) (wACons (wLst (wACons (wC (.str "x")) (wACons (wC (.str ".")) (wANil)))) (wANil)))))) (wgName 7)) (w_law_book_t3 K c))
noncomputable def w_law_book (K : PySem.W.Frag) (c : Cs) : WS := wSeq (wPar 6 7 (wACons (wLstM (wANil)) (wACons (wCall (sp_law_any_stick c) [] (wACons (wVar 0) (wACons (wVar 1) (wACons (wLst (wACons (wC (.str "x")) (wACons (wC (.str ".")) (wACons (wC (.str ".")) (wANil))))) (wANil))))) (wANil)))) (wSeq (wFor (wiRng1 (wACons (wVar 2) (wANil))) (wgName 3) (w_law_book_b2 K c)) (w_law_book_t2 K c))
section
variable {P : Program} {w : World} {K : PySem.W.Frag} {mg : Str → Option Value} {base : Heap} {c : Cs}
theorem dv_law_book (T : Txt K mg c) {f : Addr} (cdv : Value) (A : Around) (outer : List PySem.Env) (s : Shared) (H : Hp) (E : XK) (hr : Room 3 (A.deeper (PyProof.Rows.envOfC "_law_book" (defScope s_law_book) s.heap.objs.size f cdv))) : DSs (cxOf CX0 P w K mg base N_law_book "_law_book" (defScope s_law_book) f cdv A outer s H E).nox (defBody s_law_book) (w_law_book K c) := by
  have ND := sc_law_book.nd
  have hu := hu_of hr
  have hu64 := hr.units
  have hu65 := units65 hr
  exact dss_cons (ds_par (i := 6) (j := 7) rfl ND rfl rfl (by decide) rfl rfl (da_cons (de_lstM (da_nil)) (da_cons (de_cal (cal_law_any_stick T) hr (by decide) rfl (da_cons (de_var (pv 0)) (da_cons (de_var (pv 1)) (da_cons (de_lst (da_cons (de_str) (da_cons (de_str) (da_cons (de_str) (da_nil))))) (da_nil))))) (da_nil))) (by rfl)) (dss_cons (ds_for PassesOwn.never rfl (di_range1 rfl T.b_range (da_cons (de_var (pv 2)) (da_nil))) (dg_pat (vs := [3]) (g := gName 3) (pg_name (i := 3) ND rfl (by first | exact Or.inl rfl | exact Or.inr rfl)) (gp_name (by decide))) (dss_cons (ds_set (i := 8) ND rfl (Or.inl rfl) (de_cal (cal_law_take T) hr (by decide) rfl (da_cons (de_var (pv 0)) (da_cons (de_int) (da_nil))))) (dss_cons (ds_set (i := 7) ND rfl (Or.inl rfl) (de_if (dt_cmp os_lt (de_var (pv 8)) (de_int) (nomark _)) (de_cal (cal_law_near_stick T) hr (by decide) rfl (da_cons (de_var (pv 0)) (da_cons (de_var (pv 7)) (da_nil)))) (de_cal (cal_law_any_stick T) hr (by decide) rfl (da_cons (de_var (pv 0)) (da_cons (de_var (pv 1)) (da_cons (de_lst (da_cons (de_str) (da_cons (de_str) (da_nil)))) (da_nil))))))) (dss_one (ds_if (dt_cmp os_notIn (de_var (pv 7)) (de_lcR (own := [("_law_number", 9), ("_law_stick", 10)]) (g := gTup K 2 (gCons (gName 9) (gCons (gName 10) (gNil)))) rfl ND (de_var (pv 6)) (blkOk_by (own := [("_law_number", 9), ("_law_stick", 10)]) (N := N_law_book) (sc := defScope s_law_book) (by decide +kernel)) (gp_tup (gp_cons (gp_name (by decide)) (gp_cons (gp_name (by decide)) (gp_nil)))) (fun _ _ _ _ _ => pg_tup rfl (pgs_cons (pg_name (i := 9) ND rfl (by first | exact Or.inl rfl | exact Or.inr rfl)) (pgs_cons (pg_name (i := 10) ND rfl (by first | exact Or.inl rfl | exact Or.inr rfl)) (pgs_nil)))) (fun _ _ _ _ _ => dts_nil) (fun _ _ _ _ _ => de_var (pv 10))) (by rfl)) (dss_one (ds_expr (de_bm bm_append (de_var (pv 6)) (da_cons (de_tup (da_cons (de_if (dt_cmp (os_eq hu64) (de_cal (cal_law_take T) hr (by decide) rfl (da_cons (de_var (pv 0)) (da_cons (de_int) (da_nil)))) (de_int) (nomark _)) (de_op os_sub (de_op os_pow (de_int) (de_int)) (de_cal (cal_law_take T) hr (by decide) rfl (da_cons (de_var (pv 0)) (da_cons (de_int) (da_nil))))) (de_cal (cal_law_take T) hr (by decide) rfl (da_cons (de_var (pv 0)) (da_cons (de_int) (da_nil))))) (da_cons (de_var (pv 7)) (da_nil)))) (da_nil))))) (dss_nil)))))) (dss_cons (ds_set (i := 4) ND rfl (Or.inr rfl) (de_lstM (da_nil))) (dss_cons (ds_forR PassesOwn.never rfl (de_var (pv 6)) (dg_pat (vs := [9, 10]) (g := gTup K 2 (gCons (gName 9) (gCons (gName 10) (gNil)))) (pg_tup rfl (pgs_cons (pg_name (i := 9) ND rfl (by first | exact Or.inl rfl | exact Or.inr rfl)) (pgs_cons (pg_name (i := 10) ND rfl (by first | exact Or.inl rfl | exact Or.inr rfl)) (pgs_nil)))) (gp_tup (gp_cons (gp_name (by decide)) (gp_cons (gp_name (by decide)) (gp_nil))))) (dss_one (ds_expr (de_bm bm_extend (de_var (pv 4)) (da_cons (de_if (dt_cmp os_notIn (de_var (pv 9)) (de_lcR (own := [("_law_other", 12), ("_law_more", 13)]) (g := gTup K 2 (gCons (gName 12) (gCons (gName 13) (gNil)))) rfl ND (de_var (pv 4)) (blkOk_by (own := [("_law_other", 12), ("_law_more", 13)]) (N := N_law_book) (sc := defScope s_law_book) (by decide +kernel)) (gp_tup (gp_cons (gp_name (by decide)) (gp_cons (gp_name (by decide)) (gp_nil)))) (fun _ _ _ _ _ => pg_tup rfl (pgs_cons (pg_name (i := 12) ND rfl (by first | exact Or.inl rfl | exact Or.inr rfl)) (pgs_cons (pg_name (i := 13) ND rfl (by first | exact Or.inl rfl | exact Or.inr rfl)) (pgs_nil)))) (fun _ _ _ _ _ => dts_nil) (fun _ _ _ _ _ => de_var (pv 12))) (by rfl)) (de_lst (da_cons (de_tup (da_cons (de_var (pv 9)) (da_cons (de_var (pv 10)) (da_nil)))) (da_nil))) (de_lst (da_nil))) (da_nil)))))) (dss_cons (ds_set (i := 5) ND rfl (Or.inl rfl) (de_callB cs_sorted rfl T.b_sorted (by decide +kernel) (da_cons (de_lcR (own := [("_law_number", 9), ("_law_stick", 10)]) (g := gTup K 2 (gCons (gName 9) (gCons (gName 10) (gNil)))) rfl ND (de_var (pv 4)) (blkOk_by (own := [("_law_number", 9), ("_law_stick", 10)]) (N := N_law_book) (sc := defScope s_law_book) (by decide +kernel)) (gp_tup (gp_cons (gp_name (by decide)) (gp_cons (gp_name (by decide)) (gp_nil)))) (fun _ _ _ _ _ => pg_tup rfl (pgs_cons (pg_name (i := 9) ND rfl (by first | exact Or.inl rfl | exact Or.inr rfl)) (pgs_cons (pg_name (i := 10) ND rfl (by first | exact Or.inl rfl | exact Or.inr rfl)) (pgs_nil)))) (fun _ _ _ _ _ => dts_nil) (fun _ _ _ _ _ => de_callTy cs_int rfl T.b_int (by decide +kernel) (da_cons (de_var (pv 9)) (da_nil)))) (da_nil)))) (dss_one (ds_ret (de_lc (own := [("_law_number", 9)]) (g := gName 9) rfl ND (di_seq (de_var (pv 5))) (blkOk_by (own := [("_law_number", 9)]) (N := N_law_book) (sc := defScope s_law_book) (by decide +kernel)) (gp_name (by decide)) (fun _ _ _ _ _ => pg_name (i := 9) ND rfl (by first | exact Or.inl rfl | exact Or.inr rfl)) (fun _ _ _ _ _ => dts_nil) (fun _ _ _ _ _ => de_ix hu (de_lcR (own := [("_law_pair", 11)]) (g := gName 11) rfl ND (de_var (pv 4)) (blk_relabel (blkOk_by (own := [("_law_pair", 11)]) (N := N_law_book) (sc := { kind := ScopeKind.function, names := [(Str.ofString ".0", NameKind.local), (Str.ofString "_law_number", NameKind.cell), (Str.ofString "_law_kept", NameKind.free)], isGenerator := false, isCoroutine := false }) (by decide +kernel))) (gp_name (by decide)) (fun _ _ _ _ _ => pg_name (i := 11) ND rfl (by first | exact Or.inl rfl | exact Or.inr rfl)) (fun _ _ _ _ _ => dts_one (dt_cmp (os_eq hu64) (de_ix hu (de_var (pv 11)) (de_int) (fun _ _ => rfl)) (de_var (pv 9)) (nomark _))) (fun _ _ _ _ _ => de_var (pv 11))) (de_int) (fun _ _ => rfl)))))))))
theorem rd_law_book_t1 {K : PySem.W.Frag} {c : Cs} {W : WEnds} {μ : Store} {g : Addr} {ks : List Ent} {x0 x1 x2 x3 x5 x6 x7 x8 x9 x10 x11 x12 x13 : Option D} (ok : Good ks) (hg : μ g = some (.lst (ks.map entD))) (k : W.rt (.lst ((srtE ks).map entD)) μ) :
    w_law_book_t1 K c W [x0, x1, x2, x3, some (.ref g), x5, x6, x7, x8, x9, x10, x11, x12, x13] μ := by
  have hz : ks.length ≤ sizeLine := le_line (by have := ok.sz; omega)
  have hz' : (srtE ks).length ≤ sizeLine := by rw [(srtE_perm ks).length_eq]; exact hz
  unfold w_law_book_t1
  walk_at "dz"
  refine ⟨g, _, rfl, hg, lcR_tm hg (fun e : Ent => .int (e.1 : Nat)) hz ?_ ?_⟩
  · intro i e μ' R _ _ hR
    unfold entD
    walk_at "dz"
    exact ⟨rfl, hR⟩
  · intro L hL
    rw [delS_setS hL]
    refine sorted_nums ks _ _ ?_
    walk_at "dz"
    refine lc_tm (enc := fun e : Ent => D.int (e.1 : Nat)) entD hz' ?_ ?_
    · intro i e μ' R he sb hR
      have hm : e ∈ ks := (srtE_perm ks).mem_iff.mp (getS he).2
      walk_at "dz"
      refine ⟨g, _, rfl, sb _ _ hg, lcR_ty (sb _ _ hg) (fun x : Ent => if decide (x.1 = e.1) = true then some (entD x) else none) hz ?_ ?_⟩
      · intro j x μ2 R2 R2' _ _ h1 h2
        unfold entD
        walk_at "dz"
        by_cases q : x.1 = e.1
        · rw [if_pos (by omega)]
          exact h1 _ (by rw [if_pos (decide_eq_true q)]; rfl)
        · rw [if_neg (by omega)]
          exact h2 (by rw [if_neg (by simpa using q)])
      · intro L2 hL2
        rw [delS_setS hL2, fm_if]
        have e2 : ∃ r, (ks.filter fun x => decide (x.1 = e.1)).map entD = entD e :: r := by
          cases q : ks.filter fun x => decide (x.1 = e.1) with
          | nil =>
            have := List.filter_eq_nil_iff.mp q e hm
            simp at this
          | cons x r =>
            have hx : x ∈ ks.filter fun x => decide (x.1 = e.1) := by rw [q]; exact List.mem_cons_self
            have hx2 := List.mem_filter.mp hx
            have : x = e := nodup_fst ok.nn hx2.1 hm (of_decide_eq_true hx2.2)
            subst this
            exact ⟨_, rfl⟩
        obtain ⟨r, e2⟩ := e2
        rw [e2]
        walk_at "dz"
        rw [show atI (entD e :: r) 0 = some (entD e) from atI_nat (j := 0) rfl]
        exact hR
    · intro L3 hL3
      rw [delS_setS hL3]
      exact ret_eq k
theorem rd_law_book_b1 {K : PySem.W.Frag} {c : Cs} {W : WEnds} {μ : Store} {g : Addr} {ks : List Ent} {e : Ent} {l : Nat} {x0 x1 x2 x3 x5 x6 x7 x8 x11 x12 x13 : Option D} (ok : Good ks) (hz0 : ks.length < 300) (hl : 0 < l ∧ l ≤ 1000) (hks : ∀ x ∈ ks, x.2.length = l) (he : e.2.length = l ∧ e.1 ≤ 1000000) (hs : e.2 ∉ ks.map (·.2)) (hg : μ g = some (.lst (ks.map entD)))
    (k : ∀ x12 x13 ks', Good ks' → (ks' = ks ∧ ks ≠ [] ∨ ks' = ks ++ [e]) → W.nx [x0, x1, x2, x3, some (.ref g), x5, x6, x7, x8, some (.int (e.1 : Nat)), some (.str (stk e.2)), x11, x12, x13] (setS μ g (.lst (ks'.map entD)))) :
    w_law_book_b1 K c W [x0, x1, x2, x3, some (.ref g), x5, x6, x7, x8, some (.int (e.1 : Nat)), some (.str (stk e.2)), x11, x12, x13] μ := by
  have hz : ks.length ≤ sizeLine := le_line (by omega)
  unfold w_law_book_b1
  walk_at "dz"
  refine ⟨tyM_lref hg, g, _, rfl, hg, lcR_tm hg (fun e : Ent => eNat.enc e.1) hz ?_ ?_⟩
  · intro j x μ' R _ _ hR
    unfold entD
    walk_at "dz"
    exact ⟨rfl, hR⟩
  · intro L2 hL2
    rw [delS_setS hL2]
    walk_at "dz"
    rw [show (ks.map fun e : Ent => eNat.enc e.1) = (ks.map (·.1)).map eNat.enc by rw [List.map_map]; rfl, in_nats]
    refine ⟨rfl, flat_nats _, ?_⟩
    walk_at "dz"
    by_cases h2 : e.1 ∈ ks.map (·.1)
    · rw [if_neg (fun q => q h2)]
      refine ⟨le_line (Nat.le_of_ble_eq_true rfl), ?_⟩
      rw [ext_ref hg, List.append_nil]
      refine ⟨le_line (by rw [List.length_map, List.length_nil]; omega), k _ _ ks ok (.inl ⟨rfl, fun q => by rw [q] at h2; cases h2⟩)⟩
    · rw [if_pos h2]
      refine ⟨le_line (Nat.le_of_ble_eq_true rfl), le_line (Nat.le_of_ble_eq_true rfl), ?_⟩
      rw [ext_ref hg, show ks.map entD ++ [D.tup [.int (e.1 : Nat), .str (stk e.2)]] = (ks ++ [e]).map entD by rw [List.map_append]; rfl]
      refine ⟨le_line (by rw [List.length_map]; simp; omega), k _ _ _ (Good.snoc ok (by omega) (by omega) he.1 hl hks h2 hs) (.inr rfl)⟩
theorem rd_law_book_t2 {K : PySem.W.Frag} {c : Cs} {W : WEnds} {μ : Store} {f : Addr} {fs : List Ent} {l : Nat} {x0 x1 x2 x3 x4 x5 x7 x8 x9 x10 x11 x12 x13 : Option D} (hF : Fnd l fs) (h0 : fs ≠ []) (hz0 : fs.length ≤ 200) (hl : 0 < l ∧ l ≤ 1000) (hf : μ f = some (.lst (fs.map entD)))
    (k : ∀ ks μ', Good ks → ks ≠ [] → ks.length ≤ fs.length → (∀ e ∈ ks, e ∈ fs) → Dl.Sub μ μ' → W.rt (.lst ((srtE ks).map entD)) μ') :
    w_law_book_t2 K c W [x0, x1, x2, x3, x4, x5, some (.ref f), x7, x8, x9, x10, x11, x12, x13] μ := by
  unfold w_law_book_t2
  walk_at "dz"
  refine ⟨le_line (Nat.le_of_ble_eq_true rfl), fun g hg => ?_⟩
  have fg : f ≠ g := by rintro rfl; rw [hf] at hg; cases hg
  refine ⟨f, _, rfl, by rw [setS_ne fg]; exact hf, forR_ty (enc := entD) (nrJ μ f g l fs x0 x1 x2 x3 x5 x7 x8) ⟨[], Good.nil, Nat.le_refl _, by simp, by simp, by rw [setS_ne fg]; exact hf, setS_same, fun a d h1 h2 => by rw [setS_ne h1]; exact h2, _, _, _, _, _, rfl⟩ ?_ ?_ ?_⟩
  · rintro i ρ μ' ⟨ks, _, _, _, _, hf', _⟩
    exact hf'
  · rintro i e ρ μ' he ⟨ks, ok, hkl, hk0, hkm, hf', hg', hsub, y9, y10, y11, y12, y13, rfl⟩
    have hm := (getS he).2
    have hi := (getS he).1
    unfold entD
    walk_at "dz"
    refine ⟨rfl, ?_⟩
    have hnot : e.2 ∉ ks.map (·.2) := by
      intro q
      obtain ⟨x, hx, hxe⟩ := List.mem_map.mp q
      have hx2 := hkm x hx
      have : x = e := nodup_snd hF.ns (List.mem_of_mem_take hx2) hm hxe
      subst this
      obtain ⟨j, hj, hje⟩ := List.getElem_of_mem hx2
      rw [List.length_take] at hj
      rw [List.getElem_take] at hje
      have n1 : (fs.map (·.2)).Nodup := hF.ns
      have a1 : fs[j]? = some x := by rw [List.getElem?_eq_getElem (by omega), hje]
      have b1 : (fs.map (·.2))[j]? = some x.2 := by rw [List.getElem?_map, a1]; rfl
      have b2 : (fs.map (·.2))[i]? = some x.2 := by rw [List.getElem?_map, he]; rfl
      have := (List.getElem?_inj (by rw [List.length_map]; omega) n1).mp (b1.trans b2.symm)
      omega
    refine rd_law_book_b1 (e := e) ok (by omega) hl (fun x hx => (hF.ok x (List.mem_of_mem_take (hkm x hx))).1) (hF.ok e hm) hnot hg' fun z12 z13 ks' ok' hk' => ?_
    refine ⟨ks', ok', ?_, ?_, ?_, by rw [setS_ne fg]; exact hf', setS_same, fun a d h1 h2 => by rw [setS_ne h1]; exact hsub a d h1 h2, _, _, _, _, _, rfl⟩
    · rcases hk' with ⟨rfl, _⟩ | rfl
      · omega
      · rw [List.length_append, List.length_singleton]; omega
    · intro _
      rcases hk' with ⟨rfl, q⟩ | rfl
      · exact q
      · simp
    · intro x hx
      rw [List.take_add_one, he]
      rcases hk' with ⟨rfl, _⟩ | rfl
      · exact List.mem_append_left _ (hkm x hx)
      · rcases List.mem_append.mp hx with q | q
        · exact List.mem_append_left _ (hkm x q)
        · rw [List.mem_singleton.mp q]; exact List.mem_append_right _ (by simp)
  · rintro ρ μ' ⟨ks, ok, hkl, hk0, hkm, hf', hg', hsub, y9, y10, y11, y12, y13, rfl⟩
    refine rd_law_book_t1 (K := K) (c := c) ok hg' (k ks _ ok (hk0 (List.length_pos_iff.mpr h0)) hkl (fun e he => List.mem_of_mem_take (hkm e he)) fun a d h => hsub a d (fun q => by rw [q, hg] at h; cases h) h)
theorem rd_law_book_t3 {K : PySem.W.Frag} {c : Cs} {W : WEnds} {μ μ1 : Store} {p f : Addr} {l most i : Nat} {fs : List Ent} {s : List Bool} {x3 x4 x5 x8 x9 x10 x11 x12 x13 : Option D} (fp : f ≠ p) (hF : Fnd l fs) (hi : i < 100) (hfl : fs.length ≤ i) (hs : s.length = l) (hb : BxAt μ1 p) (hf : μ1 f = some (.lst (fs.map entD)))
    (hk : ∀ a d, a ≠ p → a ≠ f → μ a = some d → μ1 a = some d) (hx : ∀ ρ μ', nrI μ p f l most (i + 1) ρ μ' → W.nx ρ μ') :
    w_law_book_t3 K c W [some (.ref p), some (.int (l : Nat)), some (.int (most : Nat)), x3, x4, x5, some (.ref f), some (.str (stk s)), x8, x9, x10, x11, x12, x13] μ1 := by
  have hz : fs.length ≤ sizeLine := le_line (by omega)
  unfold w_law_book_t3
  walk_at "dz"
  refine ⟨f, _, rfl, hf, lcR_tm hf (fun e : Ent => sD e.2) hz ?_ ?_⟩
  · intro j e μ' R _ _ hR
    unfold entD
    walk_at "dz"
    exact ⟨rfl, hR⟩
  · intro L hL
    rw [delS_setS hL]
    walk_at "dz"
    rw [show (fs.map fun e : Ent => sD e.2) = (fs.map (·.2)).map sD by rw [List.map_map]; rfl, in_sticks]
    refine ⟨rfl, flat_sticks _, ?_⟩
    walk_at "dz"
    by_cases h1 : s ∈ fs.map (·.2)
    · rw [if_neg (fun q => q h1)]
      exact hx _ _ ⟨fs, s, hF, by omega, (fun _ q => by rw [q] at h1; cases h1), hs, hb, hf, hk, _, _, _, _, _, _, _, _, _, rfl⟩
    · rw [if_pos h1]
      obtain ⟨d, hp, hd⟩ := hb
      refine ⟨tyM_lref hf, p, _, d, rfl, hp, hd, by decide, fun r d' r1 r2 hd' => ?_⟩
      have fin : ∀ (n : Nat) (d2 : List D), n ≤ 1000000 → BoxV d2 → (2 ≤ sizeLine ∧ oAppend (.ref f) [.tup [.int (n : Nat), .str (stk s)]] (setS μ1 p (.lst d2)) fun d μ' => W.nx [some (.ref p), some (.int (l : Nat)), some (.int (most : Nat)), x3, x4, x5, some (.ref f), some (.str (stk s)), x8, x9, x10, x11, x12, x13] μ') := fun n d2 hn hd2 => by
        have hf2 : setS μ1 p (.lst d2) f = some (.lst (fs.map entD)) := by rw [setS_ne fp]; exact hf
        rw [app_ref hf2]
        refine ⟨le_line (by omega), Nat.lt_of_lt_of_le (m := 300) (by rw [List.length_map]; omega) (le_line (by decide)), ?_⟩
        refine hx _ _ ⟨fs ++ [(n, s)], s, hF.snoc hs hn h1, by rw [List.length_append, List.length_singleton]; omega, (fun _ q => by simp at q), hs, BxAt.other ⟨d2, setS_same, hd2⟩ fp, ?_, fun a z h3 h4 h5 => by rw [setS_ne h4, setS_ne h3]; exact hk a z h3 h4 h5, _, _, _, _, _, _, _, _, _, rfl⟩
        rw [setS_same, List.map_append]
        rfl
      walk_at "dz"
      by_cases h2 : r = 0
      · rw [if_pos h2]
        refine ⟨by decide, p, _, d', rfl, setS_same, hd', by decide, fun r2 d2 s1 s2 hd2 => ?_⟩
        rw [setS_setS]
        walk_at "dz"
        obtain ⟨n, hn⟩ : ∃ n : Nat, (10 : Int) ^ (6 : Int).toNat - r2 = (n : Int) := ⟨(1000000 - r2).toNat, by rw [show (10 : Int) ^ (6 : Int).toNat = 1000000 by decide]; omega⟩
        rw [hn]
        exact fin n d2 (by rw [show (10 : Int) ^ (6 : Int).toNat = 1000000 by decide] at hn; omega) hd2
      · rw [if_neg h2]
        refine ⟨p, _, d', rfl, setS_same, hd', by decide, fun r2 d2 s1 s2 hd2 => ?_⟩
        rw [setS_setS]
        walk_at "dz"
        obtain ⟨n, rfl⟩ : ∃ n : Nat, r2 = (n : Int) := ⟨r2.toNat, by omega⟩
        exact fin n d2 (by omega) hd2
theorem rd_law_book (K : PySem.W.Frag) (c : Cs) : ∀ ds μ Q, sp_law_book c ds μ Q → w_law_book K c { nx := fun _ μ' => ∃ μ2, Sub μ2 μ' ∧ Q .non μ2, rt := Q } (startD N_law_book ds) μ := by
  rintro ds μ Q ⟨p, l, most, rfl, hl, hm, hb, k⟩
  show w_law_book K c _ [some (.ref p), some (.int (l : Nat)), some (.int (most : Nat)), none, none, none, none, none, none, none, none, none, none, none] μ
  unfold w_law_book
  walk_at "dz"
  refine ⟨le_line (Nat.le_of_ble_eq_true rfl), fun f hf => ?_⟩
  have fp := hb.ne hf
  refine ⟨le_line (Nat.le_of_ble_eq_true rfl), p, l, [true, false, false], ?_, by omega, by decide, hb.other fp, fun s μ1 hs hb1 hm1 => ?_⟩
  · rw [show (Str.ofString "x" : Str) = stk [true] from stk_x, show (Str.ofString "." : Str) = stk [false] from stk_p]; rfl
  walk_at "dz"
  refine ⟨by omega, ?_⟩
  rw [show ((most : Int)).toNat = most by omega]
  refine for_rng (nrI μ p f l most) ?_ ?_ ?_
  · exact ⟨[], s, Fnd.nil l, Nat.le_refl _, by simp, hs, hb1, hm1 _ _ fp setS_same, fun a d h1 h2 h3 => hm1 _ _ h1 (by rw [setS_ne h2]; exact h3), _, _, _, _, _, _, _, _, _, rfl⟩
  · rintro i ρ μ3 hi ⟨fs, s, hF, hfl, hf0, hs, hb2, hf2, hk2, x3, x4, x5, x8, x9, x10, x11, x12, x13, rfl⟩
    walk_at "dz"
    unfold w_law_book_b2
    walk_at "dz"
    obtain ⟨d, hp, hd⟩ := hb2
    refine ⟨p, _, d, rfl, hp, hd, by decide, fun r d' r1 r2 hd' => ?_⟩
    walk_at "dz"
    have hf3 : setS μ3 p (.lst d') f = some (.lst (fs.map entD)) := by rw [setS_ne fp]; exact hf2
    have hk3 : ∀ a z, a ≠ p → a ≠ f → μ a = some z → setS μ3 p (.lst d') a = some z := fun a z h1 h2 h3 => by rw [setS_ne h1]; exact hk2 a z h1 h2 h3
    by_cases h3 : r < 3
    · rw [if_pos h3]
      refine ⟨p, s, rfl, by omega, ⟨d', setS_same, hd'⟩, fun t μ4 ht hb4 hm4 => ?_⟩
      walk_at "dz"
      exact rd_law_book_t3 fp hF (by omega) hfl (ht.trans hs) hb4 (hm4 _ _ fp hf3) (fun a z h1 h2 h3 => hm4 _ _ h1 (hk3 a z h1 h2 h3)) fun ρ μ' h => h
    · rw [if_neg h3]
      refine ⟨le_line (Nat.le_of_ble_eq_true rfl), p, l, [true, false], ?_, by omega, by decide, ⟨d', setS_same, hd'⟩, fun t μ4 ht hb4 hm4 => ?_⟩
      · rw [show (Str.ofString "x" : Str) = stk [true] from stk_x, show (Str.ofString "." : Str) = stk [false] from stk_p]; rfl
      walk_at "dz"
      exact rd_law_book_t3 fp hF (by omega) hfl ht hb4 (hm4 _ _ fp hf3) (fun a z h1 h2 h3 => hm4 _ _ h1 (hk3 a z h1 h2 h3)) fun ρ μ' h => h
  · rintro ρ μ3 ⟨fs, s, hF, hfl, hf0, hs, hb2, hf2, hk2, x3, x4, x5, x8, x9, x10, x11, x12, x13, rfl⟩
    refine rd_law_book_t2 hF (hf0 (by omega)) (by omega) hl hf2 fun ks μ4 ok h0 hkl hkm hsub => ?_
    have hperm := srtE_perm ks
    obtain ⟨d, hp, hd⟩ := hb2
    exact k (srtE ks) μ4 (srtE_good ok) (srtE_asc ok.nn) (fun q => h0 (by have := hperm.length_eq; rw [q] at this; exact List.length_eq_zero_iff.mp this.symm)) (by rw [hperm.length_eq]; omega) (fun e he => hF.ok e (hkm e (hperm.mem_iff.mp he))) ⟨d, hsub _ _ hp, hd⟩ fun a z h1 h2 => hsub _ _ (hk2 a z h1 (fun q => by rw [q, hf] at h2; cases h2) h2)
theorem cal_law_book (T : Txt K mg c) : DCal P w K mg base 4 "_law_book" (sp_law_book c) [] := T.f_law_book.cal (ps := ["_law_box_here", "_law_places", "_law_most"]) sc_law_book (len_law_book c) (fun cdv A outer s H E hr => dv_law_book T cdv A outer s H E hr) (rd_law_book K c) fun _ _ _ _ _ _ us hl => match us, hl with | [_, _, _], _ => rfl
end
noncomputable def sp_law_pairs (c : Cs) : DSp := fun ds μ Q => ∃ es : List Ent, ds = [.lst (es.map entD)] ∧ Good es ∧ Q (.lst ((frs es W0).map prD)) μ
theorem len_law_pairs (c : Cs) : ∀ ds μ Q, sp_law_pairs c ds μ Q → ds.length = 1 := by
  rintro ds μ Q ⟨es, rfl, _⟩
  rfl
noncomputable def w_law_pairs_b1 (K : PySem.W.Frag) (c : Cs) : WS := wDrop (wBM "list" oExtend (wVar 1) (wACons (wLc (wiSeq (wVar 0)) (wgTup 2 (wgCons (wgName 4) (wgCons (wgName 5) (wgNil)))) (wAnd (wB (wOp oNe (wVar 4) (wVar 2))) (wTrv (wCall (sp_law_is_within c) [] (wACons (wVar 3) (wACons (wVar 5) (wANil)))))) (wTup (wACons (wVar 2) (wACons (wVar 4) (wANil)))) [4, 5]) (wANil)))
noncomputable def w_law_pairs (K : PySem.W.Frag) (c : Cs) : WS := wSeq (wAsg (wLstM (wANil)) (wgName 1)) (wSeq (wFor (wiSeq (wVar 0)) (wgTup 2 (wgCons (wgName 2) (wgCons (wgName 3) (wgNil)))) (w_law_pairs_b1 K c)) (wRet (wVar 1)))
section
variable {P : Program} {w : World} {K : PySem.W.Frag} {mg : Str → Option Value} {base : Heap} {c : Cs}
theorem dv_law_pairs (T : Txt K mg c) {f : Addr} (cdv : Value) (A : Around) (outer : List PySem.Env) (s : Shared) (H : Hp) (E : XK) (hr : Room 1 (A.deeper (PyProof.Rows.envOfC "_law_pairs" (defScope s_law_pairs) s.heap.objs.size f cdv))) : DSs (cxOf CX0 P w K mg base N_law_pairs "_law_pairs" (defScope s_law_pairs) f cdv A outer s H E).nox (defBody s_law_pairs) (w_law_pairs K c) := by
  have ND := sc_law_pairs.nd
  have hu := hu_of hr
  have hu64 := hr.units
  have hu65 := units65 hr
  exact dss_cons (ds_set (i := 1) ND rfl (Or.inl rfl) (de_lstM (da_nil))) (dss_cons (ds_for PassesOwn.never rfl (di_seq (de_var (pv 0))) (dg_pat (vs := [2, 3]) (g := gTup K 2 (gCons (gName 2) (gCons (gName 3) (gNil)))) (pg_tup rfl (pgs_cons (pg_name (i := 2) ND rfl (by first | exact Or.inl rfl | exact Or.inr rfl)) (pgs_cons (pg_name (i := 3) ND rfl (by first | exact Or.inl rfl | exact Or.inr rfl)) (pgs_nil)))) (gp_tup (gp_cons (gp_name (by decide)) (gp_cons (gp_name (by decide)) (gp_nil))))) (dss_one (ds_expr (de_bm bm_extend (de_var (pv 1)) (da_cons (de_lc (own := [("_law_other", 4), ("_law_more", 5)]) (g := gTup K 2 (gCons (gName 4) (gCons (gName 5) (gNil)))) rfl ND (di_seq (de_var (pv 0))) (blkOk_by (own := [("_law_other", 4), ("_law_more", 5)]) (N := N_law_pairs) (sc := defScope s_law_pairs) (by decide +kernel)) (gp_tup (gp_cons (gp_name (by decide)) (gp_cons (gp_name (by decide)) (gp_nil)))) (fun _ _ _ _ _ => pg_tup rfl (pgs_cons (pg_name (i := 4) ND rfl (by first | exact Or.inl rfl | exact Or.inr rfl)) (pgs_cons (pg_name (i := 5) ND rfl (by first | exact Or.inl rfl | exact Or.inr rfl)) (pgs_nil)))) (fun _ _ _ _ _ => dts_one (dt_w (dw_and (dt_cmp (os_ne hu64) (de_var (pv 4)) (de_var (pv 2)) (nomark _)) (dw_and1 (dt_tru (de_cal (cal_law_is_within T) hr (by decide) rfl (da_cons (de_var (pv 3)) (da_cons (de_var (pv 5)) (da_nil)))) (fun _ => rfl)))))) (fun _ _ _ _ _ => de_tup (da_cons (de_var (pv 2)) (da_cons (de_var (pv 4)) (da_nil))))) (da_nil)))))) (dss_one (ds_ret (de_var (pv 1)))))
theorem rd_law_pairs (K : PySem.W.Frag) (c : Cs) : ∀ ds μ Q, sp_law_pairs c ds μ Q → w_law_pairs K c { nx := fun _ μ' => ∃ μ2, Sub μ2 μ' ∧ Q .non μ2, rt := Q } (startD N_law_pairs ds) μ := by
  rintro ds μ Q ⟨es, rfl, ok, k⟩
  show w_law_pairs K c _ [some (.lst (es.map entD)), none, none, none, none, none] μ
  have hsz := ok.sz
  unfold w_law_pairs
  walk_at "dz"
  refine ⟨le_line (Nat.le_of_ble_eq_true rfl), fun f hf => ?_⟩
  refine for_ty (enc := entD) (fun i ρ μ' => μ' = setS μ f (.lst (((es.take i).flatMap (frOf es W0)).map prD)) ∧ ∃ x2 x3 x4 x5, ρ = [some (.lst (es.map entD)), some (.ref f), x2, x3, x4, x5]) ⟨rfl, _, _, _, _, rfl⟩ ?_ ?_
  · rintro i a ρ μ' hi ⟨rfl, y2, y3, y4, y5, rfl⟩
    have ham := (getS hi).2
    generalize hES : D.lst (es.map entD) = ES
    unfold entD
    walk_at "dz"
    unfold w_law_pairs_b1
    refine ⟨rfl, ?_⟩
    walk_at "dz"
    refine ⟨tyM_lref setS_same, ?_⟩
    rw [← hES]
    walk_at "dz"
    refine lc_ty (enc := entD) (fun b => (if a.1 ≠ b.1 ∧ canW W0 a.2 b.2 = true then some (a.1, b.1) else none).map prD) (le_line (by omega)) ?_ ?_
    · intro j b μ2 R R' hb _ hR hR'
      have hbm := (getS hb).2
      unfold entD
      walk_at "dz"
      refine ⟨rfl, ?_⟩
      by_cases z : a.1 = b.1
      · rw [if_neg (by omega)]
        exact hR' (by rw [if_neg (fun q => q.1 z)]; rfl)
      · rw [if_pos (by omega)]
        refine ⟨a.2, b.2, rfl, ok.ln a ham b hbm, (ok.st a ham).2, ?_⟩
        walk_at "dz"
        by_cases y : subB a.2 b.2 = true
        · rw [if_pos y]
          exact ⟨le_line (Nat.le_of_ble_eq_true rfl), hR _ (by rw [if_pos ⟨z, by rw [frO_sub ok ham hbm]; exact y⟩]; rfl)⟩
        · rw [if_neg y]
          exact hR' (by rw [if_neg (fun q => y (by rw [← frO_sub ok ham hbm]; exact q.2))]; rfl)
    · intro L hL
      have em : (es.filterMap fun b => (if a.1 ≠ b.1 ∧ canW W0 a.2 b.2 = true then some (a.1, b.1) else none).map prD) = (frOf es W0 a).map prD := by unfold frOf; rw [List.map_filterMap]
      rw [delS_setS hL, em, ext_ref setS_same, ← List.map_append]
      have h1 := frs_lenT es W0 i
      have h2 : (frOf es W0 a).length ≤ es.length := List.length_filterMap_le _ _
      have h3 : es.length * es.length ≤ 300 * 300 := Nat.mul_le_mul ok.sz ok.sz
      refine ⟨le_line (by rw [List.length_map, List.length_map]; omega), by rw [setS_setS, List.take_add_one, hi, List.flatMap_append]; simp, _, _, _, _, rfl⟩
  · rintro ρ μ' ⟨rfl, y2, y3, y4, y5, rfl⟩
    rw [List.take_length]
    walk_at "dz"
    exact ⟨_, μ, .lst setS_same (fun a d h => by rw [delS_setS hf]; exact h), k⟩
theorem cal_law_pairs (T : Txt K mg c) : DCal P w K mg base 2 "_law_pairs" (sp_law_pairs c) [] := T.f_law_pairs.cal (ps := ["_law_entries"]) sc_law_pairs (len_law_pairs c) (fun cdv A outer s H E hr => dv_law_pairs T cdv A outer s H E hr) (rd_law_pairs K c) fun _ _ _ _ _ _ us hl => match us, hl with | [_], _ => rfl
end
noncomputable def sp_law_frauds (c : Cs) : DSp := fun ds μ Q => ∃ es : List Ent, ds = [.lst (es.map entD)] ∧ Good es ∧ es.length ≤ 16 ∧ Q (.str (frdT es)) μ
theorem len_law_frauds (c : Cs) : ∀ ds μ Q, sp_law_frauds c ds μ Q → ds.length = 1 := by
  rintro ds μ Q ⟨es, rfl, _⟩
  rfl
noncomputable def w_law_frauds (K : PySem.W.Frag) (c : Cs) : WS := wSeq (wAsg (wLc (wiSeq (wCall (sp_law_pairs c) [] (wACons (wVar 0) (wANil)))) (wgTup 2 (wgCons (wgName 2) (wgCons (wgName 3) (wgNil)))) (wYes) (wOp oAdd (wOp oAdd (wCB oStr (wACons (wVar 2) (wANil))) (wC (.str ">"))) (wCB oStr (wACons (wVar 3) (wANil)))) [2, 3]) (wgName 1)) (wRet (wIf (wB (wOp oNe (wVar 1) (wLst (wANil)))) (wBM "str" oJoin (wC (.str " ")) (wACons (wVar 1) (wANil))) (wC (.str "none"))))
section
variable {P : Program} {w : World} {K : PySem.W.Frag} {mg : Str → Option Value} {base : Heap} {c : Cs}
theorem dv_law_frauds (T : Txt K mg c) {f : Addr} (cdv : Value) (A : Around) (outer : List PySem.Env) (s : Shared) (H : Hp) (E : XK) (hr : Room 2 (A.deeper (PyProof.Rows.envOfC "_law_frauds" (defScope s_law_frauds) s.heap.objs.size f cdv))) : DSs (cxOf CX0 P w K mg base N_law_frauds "_law_frauds" (defScope s_law_frauds) f cdv A outer s H E).nox (defBody s_law_frauds) (w_law_frauds K c) := by
  have ND := sc_law_frauds.nd
  have hu := hu_of hr
  have hu64 := hr.units
  have hu65 := units65 hr
  exact dss_cons (ds_setLc (i := 1) (own := [("_law_one", 2), ("_law_other", 3)]) (g := gTup K 2 (gCons (gName 2) (gCons (gName 3) (gNil)))) rfl ND rfl rfl (sw_true rfl rfl rfl (by decide +kernel)) (di_seq (de_cal (cal_law_pairs T) hr (by decide) rfl (da_cons (de_var (pv 0)) (da_nil)))) (blkOk_by (own := [("_law_one", 2), ("_law_other", 3)]) (N := N_law_frauds) (sc := defScope s_law_frauds) (by decide +kernel)) (gp_tup (gp_cons (gp_name (by decide)) (gp_cons (gp_name (by decide)) (gp_nil)))) (fun _ _ _ _ _ => pg_tup rfl (pgs_cons (pg_name (i := 2) ND rfl (by first | exact Or.inl rfl | exact Or.inr rfl)) (pgs_cons (pg_name (i := 3) ND rfl (by first | exact Or.inl rfl | exact Or.inr rfl)) (pgs_nil)))) (fun _ _ _ _ _ => dts_nil) (fun _ _ _ _ _ => de_op os_add (de_op os_add (de_callTy cs_str rfl T.b_str (by decide +kernel) (da_cons (de_var (pv 2)) (da_nil))) (de_str)) (de_callTy cs_str rfl T.b_str (by decide +kernel) (da_cons (de_var (pv 3)) (da_nil))))) (dss_one (ds_ret (de_if (dt_cmp (os_ne hu64) (de_var (pv 1)) (de_lst (da_nil)) (nomark _)) (de_bm bm_join (de_str) (da_cons (de_var (pv 1)) (da_nil))) (de_str))))
theorem rd_law_frauds (K : PySem.W.Frag) (c : Cs) : ∀ ds μ Q, sp_law_frauds c ds μ Q → w_law_frauds K c { nx := fun _ μ' => ∃ μ2, Sub μ2 μ' ∧ Q .non μ2, rt := Q } (startD N_law_frauds ds) μ := by
  rintro ds μ Q ⟨es, rfl, ok, h16, k⟩
  show w_law_frauds K c _ [some (.lst (es.map entD)), none, none, none] μ
  have hfl := frs_len es W0
  have h256 : es.length * es.length ≤ 16 * 16 := Nat.mul_le_mul h16 h16
  have hz : (frdL es).length ≤ 256 := by unfold frdL; rw [List.length_map]; omega
  unfold w_law_frauds
  walk_at "dz"
  refine ⟨es, rfl, ok, ?_⟩
  walk_at "dz"
  refine lc_tm (enc := prD) (fun p => .str (dig p.1 ++ Str.ofString ">" ++ dig p.2)) (le_line (by omega)) ?_ ?_
  · intro i p μ' R hp _ hR
    obtain ⟨a, ha, b, hb, _, _, rfl⟩ := frs_mem.mp (getS hp).2
    have h1 := ok.num a ha
    have h2 := ok.num b hb
    have h3 := dig_len h1
    have h4 := dig_len h2
    have e1 : (Str.ofString ">").length = 1 := by decide +kernel
    unfold prD
    walk_at "dz"
    dsimp only at hR
    rw [show Str.ofString (toString ((a.1 : Nat) : Int)) = dig a.1 from rfl, show Str.ofString (toString ((b.1 : Nat) : Int)) = dig b.1 from rfl]
    simp only [str_app_len, e1]
    refine ⟨rfl, log_small h1, le_line (by omega), log_small h2, le_line (by omega), hR⟩
  · intro L hL
    rw [delS_setS hL, show ((frs es W0).map fun p => D.str (dig p.1 ++ Str.ofString ">" ++ dig p.2)) = (frdL es).map .str by unfold frdL; rw [List.map_map]; rfl]
    walk_at "dz"
    refine ⟨le_line (Nat.le_of_ble_eq_true rfl), ?_⟩
    rw [oNe_nilT fun x hx => (frdL_ok ok x hx).1.ok]
    walk_at "dz"
    have kk : frdT es = spk (frdL es) := rfl
    rw [kk] at k
    unfold spk at k
    by_cases h0 : frdL es = []
    · rw [if_pos h0] at k
      rw [if_neg (fun q => q h0)]
      exact ret_eq k
    · rw [if_neg h0] at k
      rw [if_pos h0, oJoin_txts]
      have := sum_len fun x hx => (frdL_ok ok x hx).2
      have e1 : (Str.ofString " ").length = 1 := by decide +kernel
      rw [e1]
      exact ⟨by omega, ret_eq k⟩
theorem cal_law_frauds (T : Txt K mg c) : DCal P w K mg base 3 "_law_frauds" (sp_law_frauds c) [] := T.f_law_frauds.cal (ps := ["_law_entries"]) sc_law_frauds (len_law_frauds c) (fun cdv A outer s H E hr => dv_law_frauds T cdv A outer s H E hr) (rd_law_frauds K c) fun _ _ _ _ _ _ us hl => match us, hl with | [_], _ => rfl
end
noncomputable def sp_law_notched (c : Cs) : DSp := fun ds μ Q => ∃ (ss : List (List Bool)) (at' i : Nat) (s : List Bool), ds = [.tup (ss.map sD), .int (at' : Nat), .int (i : Nat)] ∧ ss[at']? = some s ∧ s.length ≤ 1000 ∧ ss.length ≤ 1000 ∧ i < s.length ∧ Q (.tup ((ss.set at' (s.set i true)).map sD)) μ
theorem len_law_notched (c : Cs) : ∀ ds μ Q, sp_law_notched c ds μ Q → ds.length = 3 := by
  rintro ds μ Q ⟨ss, at', i, s, rfl, _⟩
  rfl
noncomputable def w_law_notched (K : PySem.W.Frag) (c : Cs) : WS := wSeq (wAsg (wIx (wVar 0) (wVar 1)) (wgName 3)) (wRet (wOp oAdd (wOp oAdd (wSl (wVar 0) (wNoP) (wPart (wVar 1))) (wTup (wACons (wOp oAdd (wOp oAdd (wSl (wVar 3) (wNoP) (wPart (wVar 2))) (wC (.str "x"))) (wSl (wVar 3) (wPart (wOp oAdd (wVar 2) (wC (.int 1)))) (wNoP))) (wANil)))) (wSl (wVar 0) (wPart (wOp oAdd (wVar 1) (wC (.int 1)))) (wNoP))))
section
variable {P : Program} {w : World} {K : PySem.W.Frag} {mg : Str → Option Value} {base : Heap} {c : Cs}
theorem dv_law_notched (T : Txt K mg c) {f : Addr} (cdv : Value) (A : Around) (outer : List PySem.Env) (s : Shared) (H : Hp) (E : XK) (hr : Room 0 (A.deeper (PyProof.Rows.envOfC "_law_notched" (defScope s_law_notched) s.heap.objs.size f cdv))) : DSs (cxOf CX0 P w K mg base N_law_notched "_law_notched" (defScope s_law_notched) f cdv A outer s H E).nox (defBody s_law_notched) (w_law_notched K c) := by
  have ND := sc_law_notched.nd
  have hu := hu_of hr
  have hu64 := hr.units
  have hu65 := units65 hr
  exact dss_cons (ds_set (i := 3) ND rfl (Or.inl rfl) (de_ix hu (de_var (pv 0)) (de_var (pv 1)) (fun _ _ => rfl))) (dss_one (ds_ret (de_op os_add (de_op os_add (de_sl (de_var (pv 0)) (dp_none) (dp_some (de_var (pv 1)))) (de_tup (da_cons (de_op os_add (de_op os_add (de_sl (de_var (pv 3)) (dp_none) (dp_some (de_var (pv 2)))) (de_str)) (de_sl (de_var (pv 3)) (dp_some (de_op os_add (de_var (pv 2)) (de_int))) (dp_none))) (da_nil)))) (de_sl (de_var (pv 0)) (dp_some (de_op os_add (de_var (pv 1)) (de_int))) (dp_none)))))
theorem rd_law_notched (K : PySem.W.Frag) (c : Cs) : ∀ ds μ Q, sp_law_notched c ds μ Q → w_law_notched K c { nx := fun _ μ' => ∃ μ2, Sub μ2 μ' ∧ Q .non μ2, rt := Q } (startD N_law_notched ds) μ := by
  rintro ds μ Q ⟨ss, at', i, s, rfl, hat, hs, hss, hi, k⟩
  show w_law_notched K c _ [some (.tup (ss.map sD)), some (.int (at' : Nat)), some (.int (i : Nat)), none] μ
  obtain ⟨hal, hae⟩ := List.getElem?_eq_some_iff.mp hat
  unfold w_law_notched
  walk_at "dz"
  rw [show atI (ss.map sD) ((at' : Nat) : Int) = some (.str (stk s)) by refine atI_nat (j := at') ?_; rw [List.getElem?_map, hat]; rfl]
  walk_at "dz"
  have e1 : ((i : Int) + 1) = ((i + 1 : Nat) : Int) := by omega
  have e2 : s.take i ++ [true] ++ s.drop (i + 1) = s.set i true := by rw [List.append_assoc]; exact set_parts s i true hi
  have e3 : ((at' : Int) + 1) = ((at' + 1 : Nat) : Int) := by omega
  have h1 : (s.take i).length ≤ s.length := List.length_take_le' i s
  have h2 : (s.drop (i + 1)).length ≤ s.length := by rw [List.length_drop]; omega
  rw [e1, cut_any, cutd_any, show (Str.ofString "x" : Str) = stk [true] from stk_x, stk_app, stk_app, e2, e3, cutD_drop]
  simp only [stk_len]
  have e4 : (ss.map sD).take at' ++ [D.str (stk (s.set i true))] ++ ((ss.map sD).drop (at' + 1)) = (ss.set at' (s.set i true)).map sD := by
    rw [← List.map_take, ← List.map_drop, ← set_parts ss at' (s.set i true) hal, List.map_append, List.map_cons, List.append_assoc]
    rfl
  rw [e4]
  have h5 : ((ss.map sD).take at').length ≤ ss.length := by have := List.length_take_le' at' (ss.map sD); rw [List.length_map] at this; exact this
  have h6 : ((ss.map sD).drop (at' + 1)).length ≤ ss.length := by rw [List.length_drop, List.length_map]; omega
  exact ⟨le_line (by omega), le_line (by rw [List.length_singleton]; omega), le_line (by omega), le_line (by rw [List.length_append, List.length_singleton]; omega), le_line (Nat.le_of_ble_eq_true rfl), le_line (by rw [List.length_singleton]; omega), le_line (by rw [List.length_append, List.length_singleton]; omega), ret_eq k⟩
theorem cal_law_notched (T : Txt K mg c) : DCal P w K mg base 1 "_law_notched" (sp_law_notched c) [] := T.f_law_notched.cal (ps := ["_law_sticks", "_law_at", "_law_place"]) sc_law_notched (len_law_notched c) (fun cdv A outer s H E hr => dv_law_notched T cdv A outer s H E hr) (rd_law_notched K c) fun _ _ _ _ _ _ us hl => match us, hl with | [_, _, _], _ => rfl
end
noncomputable def sp_law_plain (c : Cs) : DSp := fun ds μ Q => ∃ s : List Bool, ds = [.str (stk s)] ∧ s.length ≤ 100000 ∧ Q (.lst ((plI s).map eNat.enc)) μ
theorem len_law_plain (c : Cs) : ∀ ds μ Q, sp_law_plain c ds μ Q → ds.length = 1 := by
  rintro ds μ Q ⟨s, rfl, _⟩
  rfl
noncomputable def w_law_plain (K : PySem.W.Frag) (c : Cs) : WS := wRet (wLc (wiEnum (wVar 0)) (wgTup 2 (wgCons (wgName 1) (wgCons (wgName 2) (wgNil)))) (wB (wOp oEq (wVar 2) (wC (.str ".")))) (wVar 1) [1, 2])
section
variable {P : Program} {w : World} {K : PySem.W.Frag} {mg : Str → Option Value} {base : Heap} {c : Cs}
theorem dv_law_plain (T : Txt K mg c) {f : Addr} (cdv : Value) (A : Around) (outer : List PySem.Env) (s : Shared) (H : Hp) (E : XK) (hr : Room 0 (A.deeper (PyProof.Rows.envOfC "_law_plain" (defScope s_law_plain) s.heap.objs.size f cdv))) : DSs (cxOf CX0 P w K mg base N_law_plain "_law_plain" (defScope s_law_plain) f cdv A outer s H E).nox (defBody s_law_plain) (w_law_plain K c) := by
  have ND := sc_law_plain.nd
  have hu := hu_of hr
  have hu64 := hr.units
  have hu65 := units65 hr
  exact dss_one (ds_ret (de_lc (own := [("_law_at", 1), ("_law_sign", 2)]) (g := gTup K 2 (gCons (gName 1) (gCons (gName 2) (gNil)))) rfl ND (di_enum rfl T.b_enumerate (de_var (pv 0))) (blkOk_by (own := [("_law_at", 1), ("_law_sign", 2)]) (N := N_law_plain) (sc := defScope s_law_plain) (by decide +kernel)) (gp_tup (gp_cons (gp_name (by decide)) (gp_cons (gp_name (by decide)) (gp_nil)))) (fun _ _ _ _ _ => pg_tup rfl (pgs_cons (pg_name (i := 1) ND rfl (by first | exact Or.inl rfl | exact Or.inr rfl)) (pgs_cons (pg_name (i := 2) ND rfl (by first | exact Or.inl rfl | exact Or.inr rfl)) (pgs_nil)))) (fun _ _ _ _ _ => dts_one (dt_cmp (os_eq hu64) (de_var (pv 2)) (de_str) (nomark _))) (fun _ _ _ _ _ => de_var (pv 1))))
theorem rd_law_plain (K : PySem.W.Frag) (c : Cs) : ∀ ds μ Q, sp_law_plain c ds μ Q → w_law_plain K c { nx := fun _ μ' => ∃ μ2, Sub μ2 μ' ∧ Q .non μ2, rt := Q } (startD N_law_plain ds) μ := by
  rintro ds μ Q ⟨bs, rfl, hz, q⟩
  show w_law_plain K c _ [some (.str (stk bs)), none, none] μ
  unfold w_law_plain
  walk_at "dx"
  simp only [stk_p]
  have hz2 : (enumD (chars (stk bs))).length ≤ sizeLine := by rw [enumD_length, chars_stk, List.length_map]; exact le_line (by omega)
  refine lc_fmap oPick hz2 ?_ ?_
  · intro i d μ' R R' hd _ hR hR'
    obtain ⟨b, hb, rfl⟩ := enum_at hd
    walk_at "dx"
    refine ⟨rfl, ?_⟩
    rw [stk_beq]
    cases b with
    | false =>
      have e : oPick (D.tup [.int (i : Nat), .str (stk [false])]) = some (.int (i : Nat)) := by simp [oPick]
      simpa using hR _ e
    | true =>
      have e : oPick (D.tup [.int (i : Nat), .str (stk [true])]) = none := by
        have : ¬ (stk [true] = stk [false]) := fun h => by have := stk_inj h; simp at this
        simp [oPick, this]
      simpa using hR' e
  · intro L hL
    rw [delS_setS hL, enum_stk]
    have e := enum_pickO 0 bs
    simp only [e]
    exact ret_eq q
theorem cal_law_plain (T : Txt K mg c) : DCal P w K mg base 1 "_law_plain" (sp_law_plain c) [] := T.f_law_plain.cal (ps := ["_law_stick"]) sc_law_plain (len_law_plain c) (fun cdv A outer s H E hr => dv_law_plain T cdv A outer s H E hr) (rd_law_plain K c) fun _ _ _ _ _ _ us hl => match us, hl with | [_], _ => rfl
end
noncomputable def sp_law_shuffled (c : Cs) : DSp := fun ds μ Q => ∃ (p : Addr) (xs d : List D), ds = [.ref p, .lst xs] ∧ μ p = some (.lst d) ∧ BoxV d ∧ xs.length ≤ 100000 ∧ ∀ ys d' μ', ys.Perm xs → BoxV d' → μ' p = some (.lst d') → Mut p μ μ' → Q (.lst ys) μ'
theorem len_law_shuffled (c : Cs) : ∀ ds μ Q, sp_law_shuffled c ds μ Q → ds.length = 2 := by
  rintro ds μ Q ⟨p, xs, d, rfl, _⟩
  rfl
theorem erase_perm {xs : List D} : ∀ {k : Nat} {y : D}, xs[k]? = some y → (y :: xs.eraseIdx k).Perm xs := by
  induction xs with
  | nil => intro k y h; simp at h
  | cons x r ih =>
    intro k y h
    cases k with
    | zero => simp at h; subst h; exact List.Perm.refl _
    | succ k =>
      have h' : r[k]? = some y := by simpa using h
      show (y :: x :: r.eraseIdx k).Perm (x :: r)
      exact (List.Perm.swap _ _ _).trans ((ih h').cons x)
noncomputable def w_law_shuffled_b1 (K : PySem.W.Frag) (c : Cs) : WS := wDrop (wBM "list" oAppend (wVar 4) (wACons (wBM "list" oPopAt (wVar 3) (wACons (wCall (sp_law_take c) [] (wACons (wVar 0) (wACons (wCB oLen (wACons (wVar 3) (wANil))) (wANil)))) (wANil))) (wANil)))
noncomputable def w_law_shuffled (K : PySem.W.Frag) (c : Cs) : WS := wSeq (wPar 3 4 (wACons (wCB oListM (wACons (wVar 1) (wANil))) (wACons (wLstM (wANil)) (wANil)))) (wSeq (wFor (wiRng1 (wACons (wCB oLen (wACons (wVar 3) (wANil))) (wANil))) (wgName 2) (w_law_shuffled_b1 K c)) (wRet (wVar 4)))
section
variable {P : Program} {w : World} {K : PySem.W.Frag} {mg : Str → Option Value} {base : Heap} {c : Cs}
theorem dv_law_shuffled (T : Txt K mg c) {f : Addr} (cdv : Value) (A : Around) (outer : List PySem.Env) (s : Shared) (H : Hp) (E : XK) (hr : Room 1 (A.deeper (PyProof.Rows.envOfC "_law_shuffled" (defScope s_law_shuffled) s.heap.objs.size f cdv))) : DSs (cxOf CX0 P w K mg base N_law_shuffled "_law_shuffled" (defScope s_law_shuffled) f cdv A outer s H E).nox (defBody s_law_shuffled) (w_law_shuffled K c) := by
  have ND := sc_law_shuffled.nd
  have hu := hu_of hr
  have hu64 := hr.units
  have hu65 := units65 hr
  exact dss_cons (ds_par (i := 3) (j := 4) rfl ND rfl rfl (by decide) rfl rfl (da_cons (de_callTy cs_listM rfl T.b_list (by decide +kernel) (da_cons (de_var (pv 1)) (da_nil))) (da_cons (de_lstM (da_nil)) (da_nil))) (by rfl)) (dss_cons (ds_for PassesOwn.never rfl (di_range1 rfl T.b_range (da_cons (de_callB cs_len rfl T.b_len (by decide +kernel) (da_cons (de_var (pv 3)) (da_nil))) (da_nil))) (dg_pat (vs := [2]) (g := gName 2) (pg_name (i := 2) ND rfl (by first | exact Or.inl rfl | exact Or.inr rfl)) (gp_name (by decide))) (dss_one (ds_expr (de_bm bm_append (de_var (pv 4)) (da_cons (de_bm bm_popat (de_var (pv 3)) (da_cons (de_cal (cal_law_take T) hr (by decide) rfl (da_cons (de_var (pv 0)) (da_cons (de_callB cs_len rfl T.b_len (by decide +kernel) (da_cons (de_var (pv 3)) (da_nil))) (da_nil)))) (da_nil))) (da_nil)))))) (dss_one (ds_ret (de_var (pv 4)))))
theorem rd_law_shuffled (K : PySem.W.Frag) (c : Cs) : ∀ ds μ Q, sp_law_shuffled c ds μ Q → w_law_shuffled K c { nx := fun _ μ' => ∃ μ2, Sub μ2 μ' ∧ Q .non μ2, rt := Q } (startD N_law_shuffled ds) μ := by
  rintro ds μ Q ⟨p, xs, d, rfl, hp, hb, hl, q⟩
  show w_law_shuffled K c _ [some (.ref p), some (.lst xs), none, none, none] μ
  unfold w_law_shuffled
  walk_at "dx"
  intro A hA
  refine ⟨le_line (Nat.le_of_ble_eq_true rfl), fun B hB => ?_⟩
  have hAp : p ≠ A := by rintro rfl; rw [hp] at hA; cases hA
  have hBA : B ≠ A := by rintro rfl; rw [setS_same] at hB; cases hB
  have hBp : p ≠ B := by rintro rfl; rw [setS_ne hAp, hp] at hB; cases hB
  have hB0 : μ B = none := by rw [setS_ne hBA] at hB; exact hB
  walk_at "dx"
  simp only [setS_ne (Ne.symm hBA), setS_same]
  refine ⟨by omega, for_rng (fun i ρ μ' => i ≤ xs.length ∧ ∃ left found d' z, ρ = [some (.ref p), some (.lst xs), z, some (.ref A), some (.ref B)] ∧ μ' A = some (.lst left) ∧ μ' B = some (.lst found) ∧ μ' p = some (.lst d') ∧ BoxV d' ∧ (found ++ left).Perm xs ∧ found.length = i ∧ ∀ a c, a ≠ p → a ≠ A → a ≠ B → μ a = some c → μ' a = some c)
    ⟨Nat.zero_le _, xs, [], d, none, rfl, by rw [setS_ne (Ne.symm hBA), setS_same], setS_same, by rw [setS_ne hBp, setS_ne hAp]; exact hp, hb, List.Perm.refl _, rfl, fun a c h1 h2 h3 h4 => by rw [setS_ne h3, setS_ne h2]; exact h4⟩ ?_ ?_⟩
  · rintro i ρ μ' hi ⟨hin, left, found, d', z, rfl, hA', hB', hp', hb', hperm, hfl, hk⟩
    have hll := hperm.length_eq
    rw [List.length_append, hfl] at hll
    have hi2 : i < xs.length := by omega
    have hlp : 0 < left.length := by omega
    unfold w_law_shuffled_b1
    walk_at "dx"
    simp only [hA']
    refine ⟨.inr (.inl ⟨rfl, found, by rw [seqL, hB']⟩), .inr (.inl ⟨rfl, left, by rw [seqL, hA']⟩), p, _, d', rfl, hp', hb', ⟨by omega, by omega⟩, fun r d2 h1 h2 hb2 => ?_⟩
    obtain ⟨j, rfl⟩ : ∃ j : Nat, r = (j : Int) := ⟨r.toNat, by omega⟩
    have hj : j < left.length := by omega
    walk_at "dx"
    simp only [setS_ne (Ne.symm hAp), hA']
    refine ⟨⟨by omega, by omega⟩, j, left[j], ?_, List.getElem?_eq_getElem hj, ?_⟩
    · unfold seqIndex?
      simp
      omega
    · simp only [setS_ne hBA, setS_ne (Ne.symm hBp), hB']
      refine ⟨le_line (by omega), by omega, left.eraseIdx j, found ++ [left[j]], d2, some (.int (0 + (i : Int))), rfl, ?_, rfl, ?_, hb2, ?_, ?_, ?_⟩
      · rw [setS_ne (Ne.symm hBA), setS_same]
      · rw [setS_ne hBp, setS_ne hAp, setS_same]
      · rw [List.append_assoc]
        exact (List.Perm.append_left found (erase_perm (List.getElem?_eq_getElem hj))).trans hperm
      · simp [hfl]
      · intro a c h1 h2 h3 h4
        rw [setS_ne h3, setS_ne h2, setS_ne h1]
        exact hk a c h1 h2 h3 h4
  · rintro ρ μ' ⟨hin, left, found, d', z, rfl, hA', hB', hp', hb', hperm, hfl, hk⟩
    walk_at "dx"
    have hll := hperm.length_eq
    rw [List.length_append, hfl] at hll
    have e : ((xs.length : Int)).toNat = xs.length := by omega
    rw [e] at hll
    have h0 : left = [] := List.length_eq_zero_iff.mp (by omega)
    subst h0
    rw [List.append_nil] at hperm
    refine ⟨.lst found, delS (delS μ' B) A, .lst hB' (fun a c h => ?_), q found d' _ hperm hb' ?_ ?_⟩
    · by_cases h1 : a = A
      · subst h1; rw [delS_same] at h; cases h
      · rw [delS_ne h1] at h; exact h
    · rw [delS_ne hAp, delS_ne hBp]; exact hp'
    · intro a c h1 h4
      have h2 : a ≠ A := by rintro rfl; rw [hA] at h4; cases h4
      have h3 : a ≠ B := by rintro rfl; rw [hB0] at h4; cases h4
      rw [delS_ne h2, delS_ne h3]
      exact hk a c h1 h2 h3 h4
theorem cal_law_shuffled (T : Txt K mg c) : DCal P w K mg base 2 "_law_shuffled" (sp_law_shuffled c) [] := T.f_law_shuffled.cal (ps := ["_law_box_here", "_law_some"]) sc_law_shuffled (len_law_shuffled c) (fun cdv A outer s H E hr => dv_law_shuffled T cdv A outer s H E hr) (rd_law_shuffled K c) fun _ _ _ _ _ _ us hl => match us, hl with | [_, _], _ => rfl
end
noncomputable def sp_law_text (c : Cs) : DSp := fun ds μ Q => ∃ es : List Ent, ds = [.lst (es.map entD)] ∧ Good es ∧ Q (.str (txtE es)) μ
theorem len_law_text (c : Cs) : ∀ ds μ Q, sp_law_text c ds μ Q → ds.length = 1 := by
  rintro ds μ Q ⟨es, rfl, _⟩
  rfl
noncomputable def w_law_text (K : PySem.W.Frag) (c : Cs) : WS := wRet (wBM "str" oJoin (wC (.str "\n")) (wACons (wLc (wiSeq (wVar 0)) (wgTup 2 (wgCons (wgName 1) (wgCons (wgName 2) (wgNil)))) (wYes) (wOp oAdd (wOp oAdd (wCB oStr (wACons (wVar 1) (wANil))) (wC (.str " "))) (wVar 2)) [1, 2]) (wANil)))
section
variable {P : Program} {w : World} {K : PySem.W.Frag} {mg : Str → Option Value} {base : Heap} {c : Cs}
theorem dv_law_text (T : Txt K mg c) {f : Addr} (cdv : Value) (A : Around) (outer : List PySem.Env) (s : Shared) (H : Hp) (E : XK) (hr : Room 0 (A.deeper (PyProof.Rows.envOfC "_law_text" (defScope s_law_text) s.heap.objs.size f cdv))) : DSs (cxOf CX0 P w K mg base N_law_text "_law_text" (defScope s_law_text) f cdv A outer s H E).nox (defBody s_law_text) (w_law_text K c) := by
  have ND := sc_law_text.nd
  have hu := hu_of hr
  have hu64 := hr.units
  have hu65 := units65 hr
  exact dss_one (ds_ret (de_bm bm_join (de_str) (da_cons (de_lc (own := [("_law_number", 1), ("_law_stick", 2)]) (g := gTup K 2 (gCons (gName 1) (gCons (gName 2) (gNil)))) rfl ND (di_seq (de_var (pv 0))) (blkOk_by (own := [("_law_number", 1), ("_law_stick", 2)]) (N := N_law_text) (sc := defScope s_law_text) (by decide +kernel)) (gp_tup (gp_cons (gp_name (by decide)) (gp_cons (gp_name (by decide)) (gp_nil)))) (fun _ _ _ _ _ => pg_tup rfl (pgs_cons (pg_name (i := 1) ND rfl (by first | exact Or.inl rfl | exact Or.inr rfl)) (pgs_cons (pg_name (i := 2) ND rfl (by first | exact Or.inl rfl | exact Or.inr rfl)) (pgs_nil)))) (fun _ _ _ _ _ => dts_nil) (fun _ _ _ _ _ => de_op os_add (de_op os_add (de_callTy cs_str rfl T.b_str (by decide +kernel) (da_cons (de_var (pv 1)) (da_nil))) (de_str)) (de_var (pv 2)))) (da_nil))))
theorem rd_law_text (K : PySem.W.Frag) (c : Cs) : ∀ ds μ Q, sp_law_text c ds μ Q → w_law_text K c { nx := fun _ μ' => ∃ μ2, Sub μ2 μ' ∧ Q .non μ2, rt := Q } (startD N_law_text ds) μ := by
  rintro ds μ Q ⟨es, rfl, hg, k⟩
  show w_law_text K c _ [some (.lst (es.map entD)), none, none] μ
  unfold w_law_text
  walk_at "dz"
  refine lc_tm (enc := entD) (fun e => .str (lineE e)) (le_line (by have := hg.sz; omega)) ?_ ?_
  · intro i e μ' R he _ hR
    have hm := (getS he).2
    have hn := hg.num e hm
    have h2 := (hg.st e hm).2
    have hdg := dig_len hn
    have e1 : (" " : Str).length = 1 := by decide +kernel
    unfold entD
    walk_at "dz"
    rw [show Str.ofString (toString ((e.1 : Nat) : Int)) = dig e.1 from rfl]
    simp only [str_app_len, stk_len, e1]
    refine ⟨rfl, by rw [Int.natAbs_natCast]; exact log_small hn, le_line (by omega), le_line (by omega), hR⟩
  · intro L hL
    rw [delS_setS hL]
    refine ⟨_, strs_lines _, ?_, ?_⟩
    · have e1 : ("\n" : Str).length = 1 := by decide +kernel
      rw [e1]
      exact Nat.le_trans (lines_len hg) (by decide)
    · exact ret_eq k
theorem cal_law_text (T : Txt K mg c) : DCal P w K mg base 1 "_law_text" (sp_law_text c) [] := T.f_law_text.cal (ps := ["_law_entries"]) sc_law_text (len_law_text c) (fun cdv A outer s H E hr => dv_law_text T cdv A outer s H E hr) (rd_law_text K c) fun _ _ _ _ _ _ us hl => match us, hl with | [_], _ => rfl
end
noncomputable def sp_law_widest_lot (c : Cs) : DSp := fun ds μ Q => ∃ es : List Ent, ds = [.lst (es.map entD)] ∧ Good es ∧ es.length ≤ 8 ∧ Q (.int (mxL (lotsW es es.reverse) : Nat)) μ
theorem len_law_widest_lot (c : Cs) : ∀ ds μ Q, sp_law_widest_lot c ds μ Q → ds.length = 1 := by
  rintro ds μ Q ⟨es, rfl, _⟩
  rfl
noncomputable def w_law_widest_lot_b1 (K : PySem.W.Frag) (c : Cs) : WS := wAsg (wCB oMax (wACons (wCB oInt (wACons (wVar 4) (wANil))) (wACons (wCB oLen (wACons (wVar 1) (wANil))) (wANil)))) (wgName 4)
noncomputable def w_law_widest_lot_t1 (K : PySem.W.Frag) (c : Cs) : WS := wSeq (wFor (wiSeq (wVar 3)) (wgName 1) (w_law_widest_lot_b1 K c)) (wRet (wVar 4))
noncomputable def w_law_widest_lot_b2 (K : PySem.W.Frag) (c : Cs) : WS := wSeq (wAsg (wOp oAdd (wLc (wiSeq (wVar 2)) (wgTup 2 (wgCons (wgName 8) (wgCons (wgName 9) (wgNil)))) (wB (wOp oEq (wVar 9) (wVar 5))) (wVar 8) [8, 9]) (wLc (wiSeq (wVar 2)) (wgTup 2 (wgCons (wgName 8) (wgCons (wgName 9) (wgNil)))) (wB (wOp oEq (wVar 8) (wVar 5))) (wVar 9) [8, 9])) (wgName 7)) (wAsg (wOp oAdd (wVar 3) (wLc (wiSeq (wVar 3)) (wgName 1) (wB (wOp oEq (wLc (wiSeq (wVar 1)) (wgName 8) (wB (wOp oIn (wVar 8) (wVar 7))) (wVar 8) [8]) (wLst (wANil)))) (wOp oAdd (wVar 1) (wLst (wACons (wVar 5) (wANil)))) [1])) (wgName 3))
noncomputable def w_law_widest_lot (K : PySem.W.Frag) (c : Cs) : WS := wSeq (wPar3 2 3 4 (wACons (wCall (sp_law_pairs c) [] (wACons (wVar 0) (wANil))) (wACons (wLst (wACons (wLst (wANil)) (wANil))) (wACons (wC (.int 0)) (wANil))))) (wSeq (wFor (wiSeq (wVar 0)) (wgTup 2 (wgCons (wgName 5) (wgCons (wgName 6) (wgNil)))) (w_law_widest_lot_b2 K c)) (w_law_widest_lot_t1 K c))
section
variable {P : Program} {w : World} {K : PySem.W.Frag} {mg : Str → Option Value} {base : Heap} {c : Cs}
theorem dv_law_widest_lot (T : Txt K mg c) {f : Addr} (cdv : Value) (A : Around) (outer : List PySem.Env) (s : Shared) (H : Hp) (E : XK) (hr : Room 2 (A.deeper (PyProof.Rows.envOfC "_law_widest_lot" (defScope s_law_widest_lot) s.heap.objs.size f cdv))) : DSs (cxOf CX0 P w K mg base N_law_widest_lot "_law_widest_lot" (defScope s_law_widest_lot) f cdv A outer s H E).nox (defBody s_law_widest_lot) (w_law_widest_lot K c) := by
  have ND := sc_law_widest_lot.nd
  have hu := hu_of hr
  have hu64 := hr.units
  have hu65 := units65 hr
  exact dss_cons (ds_par3 (i := 2) (j := 3) (l := 4) rfl ND rfl rfl rfl (by decide) (by decide) (by decide) rfl rfl rfl (da_cons (de_cal (cal_law_pairs T) hr (by decide) rfl (da_cons (de_var (pv 0)) (da_nil))) (da_cons (de_lst (da_cons (de_lst (da_nil)) (da_nil))) (da_cons (de_int) (da_nil)))) (by rfl)) (dss_cons (ds_for PassesOwn.never rfl (di_seq (de_var (pv 0))) (dg_pat (vs := [5, 6]) (g := gTup K 2 (gCons (gName 5) (gCons (gName 6) (gNil)))) (pg_tup rfl (pgs_cons (pg_name (i := 5) ND rfl (by first | exact Or.inl rfl | exact Or.inr rfl)) (pgs_cons (pg_name (i := 6) ND rfl (by first | exact Or.inl rfl | exact Or.inr rfl)) (pgs_nil)))) (gp_tup (gp_cons (gp_name (by decide)) (gp_cons (gp_name (by decide)) (gp_nil))))) (dss_cons (ds_set (i := 7) ND rfl (Or.inr rfl) (de_op os_add (de_lc (own := [("_law_one", 8), ("_law_other", 9)]) (g := gTup K 2 (gCons (gName 8) (gCons (gName 9) (gNil)))) rfl ND (di_seq (de_var (pv 2))) (blkOk_by (own := [("_law_one", 8), ("_law_other", 9)]) (N := N_law_widest_lot) (sc := defScope s_law_widest_lot) (by decide +kernel)) (gp_tup (gp_cons (gp_name (by decide)) (gp_cons (gp_name (by decide)) (gp_nil)))) (fun _ _ _ _ _ => pg_tup rfl (pgs_cons (pg_name (i := 8) ND rfl (by first | exact Or.inl rfl | exact Or.inr rfl)) (pgs_cons (pg_name (i := 9) ND rfl (by first | exact Or.inl rfl | exact Or.inr rfl)) (pgs_nil)))) (fun _ _ _ _ _ => dts_one (dt_cmp (os_eq hu64) (de_var (pv 9)) (de_var (pv 5)) (nomark _))) (fun _ _ _ _ _ => de_var (pv 8))) (de_lc (own := [("_law_one", 8), ("_law_other", 9)]) (g := gTup K 2 (gCons (gName 8) (gCons (gName 9) (gNil)))) rfl ND (di_seq (de_var (pv 2))) (blkOk_by (own := [("_law_one", 8), ("_law_other", 9)]) (N := N_law_widest_lot) (sc := defScope s_law_widest_lot) (by decide +kernel)) (gp_tup (gp_cons (gp_name (by decide)) (gp_cons (gp_name (by decide)) (gp_nil)))) (fun _ _ _ _ _ => pg_tup rfl (pgs_cons (pg_name (i := 8) ND rfl (by first | exact Or.inl rfl | exact Or.inr rfl)) (pgs_cons (pg_name (i := 9) ND rfl (by first | exact Or.inl rfl | exact Or.inr rfl)) (pgs_nil)))) (fun _ _ _ _ _ => dts_one (dt_cmp (os_eq hu64) (de_var (pv 8)) (de_var (pv 5)) (nomark _))) (fun _ _ _ _ _ => de_var (pv 9))))) (dss_one (ds_set (i := 3) ND rfl (Or.inl rfl) (de_op os_add (de_var (pv 3)) (de_lc (own := [("_law_lot", 1)]) (g := gName 1) rfl ND (di_seq (de_var (pv 3))) (blkOk_by (own := [("_law_lot", 1)]) (N := N_law_widest_lot) (sc := defScope s_law_widest_lot) (by decide +kernel)) (gp_name (by decide)) (fun _ _ _ _ _ => pg_name (i := 1) ND rfl (by first | exact Or.inl rfl | exact Or.inr rfl)) (fun _ _ _ _ _ => dts_one (dt_cmp (os_eq hu64) (de_lc (own := [("_law_one", 8)]) (g := gName 8) rfl ND (di_seq (de_var (pv 1))) (blk_relabel (blkOk_by (own := [("_law_one", 8)]) (N := N_law_widest_lot) (sc := { kind := ScopeKind.function, names := [(Str.ofString ".0", NameKind.local), (Str.ofString "_law_lot", NameKind.local), (Str.ofString "_law_near", NameKind.free), (Str.ofString "_law_number", NameKind.free)], isGenerator := false, isCoroutine := false }) (by decide +kernel))) (gp_name (by decide)) (fun _ _ _ _ _ => pg_name (i := 8) ND rfl (by first | exact Or.inl rfl | exact Or.inr rfl)) (fun _ _ _ _ _ => dts_one (dt_cmp os_in (de_var (pv 8)) (de_var (pv 7)) (by rfl))) (fun _ _ _ _ _ => de_var (pv 8))) (de_lst (da_nil)) (nomark _))) (fun _ _ _ _ _ => de_op os_add (de_var (pv 1)) (de_lst (da_cons (de_var (pv 5)) (da_nil)))))))))) (dss_cons (ds_for PassesOwn.never rfl (di_seq (de_var (pv 3))) (dg_pat (vs := [1]) (g := gName 1) (pg_name (i := 1) ND rfl (by first | exact Or.inl rfl | exact Or.inr rfl)) (gp_name (by decide))) (dss_one (ds_set (i := 4) ND rfl (Or.inl rfl) (de_callB (cs_max rfl) rfl T.b_max (by decide +kernel) (da_cons (de_callTy cs_int rfl T.b_int (by decide +kernel) (da_cons (de_var (pv 4)) (da_nil))) (da_cons (de_callB cs_len rfl T.b_len (by decide +kernel) (da_cons (de_var (pv 1)) (da_nil))) (da_nil))))))) (dss_one (ds_ret (de_var (pv 4))))))
theorem rd_law_widest_lot (K : PySem.W.Frag) (c : Cs) : ∀ ds μ Q, sp_law_widest_lot c ds μ Q → w_law_widest_lot K c { nx := fun _ μ' => ∃ μ2, Sub μ2 μ' ∧ Q .non μ2, rt := Q } (startD N_law_widest_lot ds) μ := by
  rintro ds μ Q ⟨es, rfl, ok, h8, k⟩
  show w_law_widest_lot K c _ [some (.lst (es.map entD)), none, none, none, none, none, none, none, none, none] μ
  have hfl := frs_len es W0
  have h64 : es.length * es.length ≤ 8 * 8 := Nat.mul_le_mul h8 h8
  unfold w_law_widest_lot
  walk_at "dz"
  refine ⟨es, rfl, ok, le_line (Nat.le_of_ble_eq_true rfl), le_line (Nat.le_of_ble_eq_true rfl), ?_⟩
  have hsm : ∀ i : Nat, i ≤ es.length → (lotsW es (es.take i).reverse).length ≤ 256 ∧ ∀ l ∈ lotsW es (es.take i).reverse, l.length ≤ 8 := fun i hi => by
    refine ⟨Nat.le_trans (lotsW_len es _) ?_, fun l hl => ?_⟩
    · rw [List.length_reverse, List.length_take]
      exact Nat.le_trans (Nat.pow_le_pow_right (by decide) (show min i es.length ≤ 8 by omega)) (by decide)
    · obtain ⟨h1, h2, _⟩ := lotsW_sound ok (r := (es.take i).reverse) (by rw [List.map_reverse]; exact (List.reverse_perm _).nodup_iff.mpr ((List.take_sublist i es).map _ |>.nodup ok.nn)) (fun e he => List.mem_of_mem_take (List.mem_reverse.mp he)) l hl
      have h3 := nodup_len h1 h2
      rw [List.length_map, List.length_reverse, List.length_take] at h3
      omega
  refine for_ty (enc := entD) (fun i ρ μ' => i ≤ es.length ∧ μ' = μ ∧ ∃ x1 x5 x6 x7 x8 x9, ρ = [some (.lst (es.map entD)), x1, some (.lst ((frs es W0).map prD)), some (.lst ((lotsW es (es.take i).reverse).map lotD)), some (.int 0), x5, x6, x7, x8, x9]) ⟨Nat.zero_le _, rfl, _, _, _, _, _, _, rfl⟩ ?_ ?_
  · rintro i e ρ μ' he ⟨hi, rfl, y1, y5, y6, y7, y8, y9, rfl⟩
    obtain ⟨hil, hm⟩ := getS he
    obtain ⟨hs1, hs2⟩ := hsm i hi
    have et : (es.take (i + 1)).reverse = e :: (es.take i).reverse := by rw [List.take_add_one, he]; simp
    generalize hES : D.lst (es.map entD) = ES
    unfold entD
    walk_at "dz"
    refine ⟨rfl, ?_⟩
    unfold w_law_widest_lot_b2
    walk_at "dz"
    refine lc_ty (enc := prD) (fun p => if decide (p.2 = e.1) = true then some (eNat.enc p.1) else none) (le_line (by omega)) ?_ ?_
    · intro j p μ2 R R' hp _ hR hR'
      unfold prD
      walk_at "dz"
      refine ⟨rfl, ?_⟩
      by_cases q : p.2 = e.1
      · rw [if_pos (by omega)]
        exact hR _ (by rw [if_pos (decide_eq_true q)]; rfl)
      · rw [if_neg (by omega)]
        exact hR' (by rw [if_neg (by simpa using q)])
    · intro L hL
      rw [delS_setS hL, fm_if]
      refine lc_ty (enc := prD) (fun p => if decide (p.1 = e.1) = true then some (eNat.enc p.2) else none) (le_line (by omega)) ?_ ?_
      · intro j p μ2 R R' hp _ hR hR'
        unfold prD
        walk_at "dz"
        refine ⟨rfl, ?_⟩
        by_cases q : p.1 = e.1
        · rw [if_pos (by omega)]
          exact hR _ (by rw [if_pos (decide_eq_true q)]; rfl)
        · rw [if_neg (by omega)]
          exact hR' (by rw [if_neg (by simpa using q)])
      · intro L2 hL2
        rw [delS_setS hL2, fm_if]
        walk_at "dz"
        have en : (((frs es W0).filter fun p => decide (p.2 = e.1)).map fun p => eNat.enc p.1) ++ (((frs es W0).filter fun p => decide (p.1 = e.1)).map fun p => eNat.enc p.2) = (nearW es e.1).map eNat.enc := by
          unfold nearW
          rw [List.map_append, List.map_map, List.map_map]
          rfl
        have hnl : (nearW es e.1).length ≤ 128 := by
          unfold nearW
          rw [List.length_append, List.length_map, List.length_map]
          have h1 := List.length_filter_le (fun p : Nat × Nat => decide (p.2 = e.1)) (frs es W0)
          have h2 := List.length_filter_le (fun p : Nat × Nat => decide (p.1 = e.1)) (frs es W0)
          omega
        rw [en]
        refine ⟨by rw [← List.length_append, en, List.length_map]; exact le_line (by omega), ?_⟩
        refine lc_ty (enc := lotD) (fun l => if decide ((l.filter fun a => decide (a ∈ nearW es e.1)) = []) = true then some (lotD (l ++ [e.1])) else none) (le_line (by omega)) ?_ ?_
        · intro j l μ2 R R' hl _ hR hR'
          have hll := hs2 l (getS hl).2
          unfold lotD at hR ⊢
          walk_at "dz"
          refine lc_ty (enc := eNat.enc) (fun a => if decide (a ∈ nearW es e.1) = true then some (eNat.enc a) else none) (le_line (by omega)) ?_ ?_
          · intro j2 a μ3 R2 R2' ha _ hR2 hR2'
            walk_at "dz"
            rw [show eNat.enc a = D.int (a : Nat) from rfl, in_nats]
            refine ⟨rfl, flat_nats _, ?_⟩
            walk_at "dz"
            by_cases q : a ∈ nearW es e.1
            · rw [if_pos q]
              exact hR2 _ (by rw [if_pos (decide_eq_true q)]; rfl)
            · rw [if_neg q]
              exact hR2' (by rw [if_neg (by simpa using q)])
          · intro L3 hL3
            rw [delS_setS hL3, fm_if]
            walk_at "dz"
            rw [show ((l.filter fun a => decide (a ∈ nearW es e.1)).map fun a => eNat.enc a) = (l.filter fun a => decide (a ∈ nearW es e.1)).map eNat.enc from rfl, nNil, oEq_lst eNat (by decide)]
            refine ⟨le_line (Nat.le_of_ble_eq_true rfl), ?_⟩
            walk_at "dz"
            by_cases q : (l.filter fun a => decide (a ∈ nearW es e.1)) = []
            · rw [if_pos q]
              refine ⟨le_line (Nat.le_of_ble_eq_true rfl), le_line (by rw [List.length_map]; simp only [List.length_cons, List.length_nil]; omega), hR _ ?_⟩
              rw [if_pos (decide_eq_true q), List.map_append]
              rfl
            · rw [if_neg q]
              exact hR' (by rw [if_neg (by simpa using q)])
        · intro L3 hL3
          rw [delS_setS hL3, fm_if]
          have e3 : ((lotsW es (es.take i).reverse).map lotD) ++ (((lotsW es (es.take i).reverse).filter fun l => decide ((l.filter fun a => decide (a ∈ nearW es e.1)) = [])).map fun l => lotD (l ++ [e.1])) = (lotsW es (es.take (i + 1)).reverse).map lotD := by
            rw [et]
            show _ = (lotsW es (es.take i).reverse ++ _).map lotD
            rw [List.map_append, List.map_map]
            rfl
          have h4 := hsm (i + 1) (by omega)
          walk_at "dz"
          rw [e3]
          refine ⟨?_, by omega, _, _, _, _, _, _, rfl⟩
          rw [← List.length_append, e3, List.length_map]
          exact le_line (by omega)
  · rintro ρ μ' ⟨_, rfl, y1, y5, y6, y7, y8, y9, rfl⟩
    rw [List.take_length]
    have hs := hsm es.length (Nat.le_refl _)
    rw [List.take_length] at hs
    unfold w_law_widest_lot_t1
    walk_at "dz"
    generalize hL : lotsW es es.reverse = L at k hs ⊢
    refine for_ty (enc := lotD) (fun i ρ μ2 => μ2 = μ' ∧ ∃ x1, ρ = [some (.lst (es.map entD)), x1, some (.lst ((frs es W0).map prD)), some (.lst (L.map lotD)), some (.int (mxL (L.take i).reverse : Nat)), y5, y6, y7, y8, y9]) ⟨rfl, _, rfl⟩ ?_ ?_
    · rintro i l ρ μ2 hl ⟨rfl, z1, rfl⟩
      have et : (L.take (i + 1)).reverse = l :: (L.take i).reverse := by rw [List.take_add_one, hl]; simp
      unfold lotD
      walk_at "dz"
      unfold w_law_widest_lot_b1
      walk_at "dz"
      refine ⟨some (.lst (l.map eNat.enc)), ?_⟩
      rw [et, List.length_map, show (if ((l.length : Nat) : Int) > ((mxL (L.take i).reverse : Nat) : Int) then ((l.length : Nat) : Int) else ((mxL (L.take i).reverse : Nat) : Int)) = ((mxL (l :: (L.take i).reverse) : Nat) : Int) by rw [show mxL (l :: (L.take i).reverse) = max (mxL (L.take i).reverse) l.length from rfl]; split <;> omega]
    · rintro ρ μ2 ⟨rfl, z1, rfl⟩
      walk_at "dz"
      rw [List.take_length, show mxL L.reverse = mxL L from Nat.le_antisymm (mxL_le fun l hl => mxL_ge (List.mem_reverse.mp hl)) (mxL_le fun l hl => mxL_ge (List.mem_reverse.mpr hl))]
      exact ret_eq k
theorem cal_law_widest_lot (T : Txt K mg c) : DCal P w K mg base 3 "_law_widest_lot" (sp_law_widest_lot c) [] := T.f_law_widest_lot.cal (ps := ["_law_entries"]) sc_law_widest_lot (len_law_widest_lot c) (fun cdv A outer s H E hr => dv_law_widest_lot T cdv A outer s H E hr) (rd_law_widest_lot K c) fun _ _ _ _ _ _ us hl => match us, hl with | [_], _ => rfl
end
noncomputable def sp_number_in (c : Cs) : DSp := fun ds μ Q => ∃ n : Nat, ds = [.str (dig n)] ∧ n < 10000000 ∧ Q (.int (n : Nat)) μ
theorem len_number_in (c : Cs) : ∀ ds μ Q, sp_number_in c ds μ Q → ds.length = 1 := by
  rintro ds μ Q ⟨n, rfl, _⟩
  rfl
noncomputable def w_number_in_t1 (K : PySem.W.Frag) (c : Cs) : WS := wRet (wIf (wOr (wB (wOp oEq (wVar 0) (wC (.str "0")))) (wB (wOp oNe (wIx (wVar 0) (wC (.int 0))) (wC (.str "0"))))) (wCB oInt (wACons (wVar 0) (wANil))) (wC .non))
noncomputable def w_number_in (K : PySem.W.Frag) (c : Cs) : WS := wSeq (wIfS (wOr (wNt (wB (wChain oLe oLe (wC (.int 1)) (wCB oLen (wACons (wVar 0) (wANil))) (wC (.int 7))))) (wNt (wTrv (wCB oAll (wACons (wLc (wiSeq (wVar 0)) (wgName 1) (wYes) (wOp oInC (wVar 1) (wC (.str "0123456789"))) [1]) (wANil)))))) (wRet (wC .non)) (wNext)) (w_number_in_t1 K c)
section
variable {P : Program} {w : World} {K : PySem.W.Frag} {mg : Str → Option Value} {base : Heap} {c : Cs}
theorem dv_number_in (T : Txt K mg c) {f : Addr} (cdv : Value) (A : Around) (outer : List PySem.Env) (s : Shared) (H : Hp) (E : XK) (hr : Room 0 (A.deeper (PyProof.Rows.envOfC "number_in" (defScope s_number_in) s.heap.objs.size f cdv))) : DSs (cxOf CX0 P w K mg base N_number_in "number_in" (defScope s_number_in) f cdv A outer s H E).nox (defBody s_number_in) (w_number_in K c) := by
  have ND := sc_number_in.nd
  have hu := hu_of hr
  have hu64 := hr.units
  have hu65 := units65 hr
  exact dss_cons (ds_if (dt_w (dw_or (dt_not (dt_chain os_le os_le (de_int) (de_callB cs_len rfl T.b_len (by decide +kernel) (da_cons (de_var (pv 0)) (da_nil))) (de_int) (by rfl))) (dw_or1 (dt_not (dt_tru (de_callB (cs_all rfl) rfl T.b_all (by decide +kernel) (da_cons (de_lc (own := [("sign", 1)]) (g := gName 1) rfl ND (di_seq (de_var (pv 0))) (blkOk_by (own := [("sign", 1)]) (N := N_number_in) (sc := defScope s_number_in) (by decide +kernel)) (gp_name (by decide)) (fun _ _ _ _ _ => pg_name (i := 1) ND rfl (by first | exact Or.inl rfl | exact Or.inr rfl)) (fun _ _ _ _ _ => dts_nil) (fun _ _ _ _ _ => de_cmp os_inC (de_var (pv 1)) (de_str) (by rfl))) (da_nil))) (fun _ => rfl)))))) (dss_one (ds_ret (de_non))) (dss_nil)) (dss_one (ds_ret (de_if (dt_w (dw_or (dt_cmp (os_eq hu64) (de_var (pv 0)) (de_str) (nomark _)) (dw_or1 (dt_cmp (os_ne hu64) (de_ix hu (de_var (pv 0)) (de_int) (fun _ _ => rfl)) (de_str) (nomark _))))) (de_callTy cs_int rfl T.b_int (by decide +kernel) (da_cons (de_var (pv 0)) (da_nil))) (de_non))))
theorem rd_number_in (K : PySem.W.Frag) (c : Cs) : ∀ ds μ Q, sp_number_in c ds μ Q → w_number_in K c { nx := fun _ μ' => ∃ μ2, Sub μ2 μ' ∧ Q .non μ2, rt := Q } (startD N_number_in ds) μ := by
  rintro ds μ Q ⟨n, rfl, hn, k⟩
  show w_number_in K c _ [some (.str (dig n)), none] μ
  have hl := dig_len hn
  have hne := TL.numL_ne n
  have hl0 : 0 < (dig n).length := by rw [str_ln, dig_tl]; exact List.length_pos_iff.mpr hne
  have h1 : decide ((1 : Int) ≤ ((dig n).length : Int)) = true := decide_eq_true (by omega)
  unfold w_number_in
  walk_at "dy"
  rw [h1]
  refine ⟨le_line (by omega), ?_⟩
  dsimp only
  rw [if_neg (by omega)]
  refine lc_tm (enc := fun c => .str ⟨#[c]⟩) (fun _ => .bl true) (by rw [← str_ln]; exact le_line (by omega)) ?_ ?_
  · intro j a μ' R ha _ hR
    have hm := (getS ha).2
    rw [dig_tl] at hm
    have hd := TL.numL_digits n a hm
    walk_at "dy"
    refine ⟨a, _, rfl, rfl, ?_⟩
    have h10 : a = 48 ∨ a = 49 ∨ a = 50 ∨ a = 51 ∨ a = 52 ∨ a = 53 ∨ a = 54 ∨ a = 55 ∨ a = 56 ∨ a = 57 := by omega
    have e : decide (a ∈ (Str.ofString "0123456789").cps.toList) = true := by rcases h10 with rfl | rfl | rfl | rfl | rfl | rfl | rfl | rfl | rfl | rfl <;> decide +kernel
    rw [e]
    exact hR
  · intro L hL
    rw [delS_setS hL, oAll_map, show ((dig n).cps.toList.all fun _ => true) = true by simp]
    walk_at "dy"
    unfold w_number_in_t1
    walk_at "dy"
    have hi : PySem.intText? (dig n) = some (n : Int) := TL.int_num (by rw [← dig_tl, ← str_ln]; omega)
    rw [hi]
    by_cases h0 : n = 0
    · subst h0
      rw [show (dig 0 == ("0" : Str)) = true by decide +kernel]
      simp only [if_true]
      exact ⟨by omega, ret_eq k⟩
    · obtain ⟨a, r, e, ha⟩ := numL_head (Nat.pos_of_ne_zero h0)
      have hat : atI (dig n).cps.toList 0 = some a := atI_nat (j := 0) (by rw [dig_tl, e]; rfl)
      rw [hat]
      have e2 : (dig n == ("0" : Str)) = false := by
        rw [beq_eq_false_iff_ne]
        intro q
        have := congrArg (fun x : Str => x.cps.toList) q
        rw [dig_tl, e] at this
        have h48 : ("0" : Str).cps.toList = [48] := by decide +kernel
        rw [h48] at this
        exact ha (by simpa using (List.cons.inj this).1)
      have e3 : ((⟨#[a]⟩ : Str) == ("0" : Str)) = false := by
        rw [beq_eq_false_iff_ne]
        intro q
        have := congrArg (fun x : Str => x.cps.toList) q
        have h48 : ("0" : Str).cps.toList = [48] := by decide +kernel
        rw [h48] at this
        exact ha (by simpa using this)
      simp only [e2, e3, Bool.false_eq_true, if_false, Bool.not_false, if_true]
      exact ⟨le_line (by omega), by omega, ret_eq k⟩
theorem cal_number_in (T : Txt K mg c) : DCal P w K mg base 1 "number_in" (sp_number_in c) [] := T.f_number_in.cal (ps := ["word"]) sc_number_in (len_number_in c) (fun cdv A outer s H E hr => dv_number_in T cdv A outer s H E hr) (rd_number_in K c) fun _ _ _ _ _ _ us hl => match us, hl with | [_], _ => rfl
end
noncomputable def sp_numbers_told (c : Cs) : DSp := fun ds μ Q => ∃ ns : List Nat, ds = [.lst (ns.map fun n => .str (dig n))] ∧ (∀ n ∈ ns, n < 10000000) ∧ ns.length ≤ 100 ∧ Q (.lst (ns.map fun n => .int (n : Nat))) μ
theorem len_numbers_told (c : Cs) : ∀ ds μ Q, sp_numbers_told c ds μ Q → ds.length = 1 := by
  rintro ds μ Q ⟨ns, rfl, _⟩
  rfl
noncomputable def w_numbers_told (K : PySem.W.Frag) (c : Cs) : WS := wSeq (wAsg (wLc (wiSeq (wVar 0)) (wgName 2) (wYes) (wCall (sp_number_in c) [] (wACons (wVar 2) (wANil))) [2]) (wgName 1)) (wSeq (wIfS (wB (wOp oIn (wC .non) (wVar 1))) (wNever) (wNext)) (wRet (wVar 1)))
section
variable {P : Program} {w : World} {K : PySem.W.Frag} {mg : Str → Option Value} {base : Heap} {c : Cs}
theorem dv_numbers_told (T : Txt K mg c) {f : Addr} (cdv : Value) (A : Around) (outer : List PySem.Env) (s : Shared) (H : Hp) (E : XK) (hr : Room 1 (A.deeper (PyProof.Rows.envOfC "numbers_told" (defScope s_numbers_told) s.heap.objs.size f cdv))) : DSs (cxOf CX0 P w K mg base N_numbers_told "numbers_told" (defScope s_numbers_told) f cdv A outer s H E).nox (defBody s_numbers_told) (w_numbers_told K c) := by
  have ND := sc_numbers_told.nd
  have hu := hu_of hr
  have hu64 := hr.units
  have hu65 := units65 hr
  exact dss_cons (ds_setLc (i := 1) (own := [("word", 2)]) (g := gName 2) rfl ND rfl rfl (sw_true rfl rfl rfl (by decide +kernel)) (di_seq (de_var (pv 0))) (blkOk_by (own := [("word", 2)]) (N := N_numbers_told) (sc := defScope s_numbers_told) (by decide +kernel)) (gp_name (by decide)) (fun _ _ _ _ _ => pg_name (i := 2) ND rfl (by first | exact Or.inl rfl | exact Or.inr rfl)) (fun _ _ _ _ _ => dts_nil) (fun _ _ _ _ _ => de_cal (cal_number_in T) hr (by decide) rfl (da_cons (de_var (pv 2)) (da_nil)))) (dss_cons (ds_if (dt_cmp os_in (de_non) (de_var (pv 1)) (by rfl)) (dss_one (ds_never)) (dss_nil)) (dss_one (ds_ret (de_var (pv 1)))))
theorem rd_numbers_told (K : PySem.W.Frag) (c : Cs) : ∀ ds μ Q, sp_numbers_told c ds μ Q → w_numbers_told K c { nx := fun _ μ' => ∃ μ2, Sub μ2 μ' ∧ Q .non μ2, rt := Q } (startD N_numbers_told ds) μ := by
  rintro ds μ Q ⟨ns, rfl, hn, hz, k⟩
  show w_numbers_told K c _ [some (.lst (ns.map fun n => .str (dig n))), none, none] μ
  unfold w_numbers_told
  walk_at "dz"
  refine lc_tm (enc := fun n => D.str (dig n)) (fun n : Nat => D.int (n : Nat)) (le_line (by omega)) ?_ ?_
  · intro i n μ' R hs sb hR
    walk_at "dz"
    exact ⟨n, rfl, hn n (getS hs).2, hR⟩
  · intro L hL
    rw [delS_setS hL]
    walk_at "dz"
    refine ⟨rfl, by simp [flatD], ?_⟩
    rw [show inD .non (ns.map fun n : Nat => D.int (n : Nat)) = false by
      unfold inD
      rw [List.map_map]
      exact non_out ns]
    walk_at "dz"
    exact ret_eq k
theorem cal_numbers_told (T : Txt K mg c) : DCal P w K mg base 2 "numbers_told" (sp_numbers_told c) [] := T.f_numbers_told.cal (ps := ["words"]) sc_numbers_told (len_numbers_told c) (fun cdv A outer s H E hr => dv_numbers_told T cdv A outer s H E hr) (rd_numbers_told K c) fun _ _ _ _ _ _ us hl => match us, hl with | [_], _ => rfl
end
noncomputable def sp_words_of (c : Cs) : DSp := fun ds μ Q => ∃ x : Str, ds = [.str x] ∧ x.length ≤ 100000 ∧ (10 : Nat) ∉ x.cps.toList ∧ inD (.str (Str.ofString "")) ((Txt.split x (Str.ofString " ")).map .str) = false ∧ Q (.lst ((Txt.split x (Str.ofString " ")).map .str)) μ
theorem len_words_of (c : Cs) : ∀ ds μ Q, sp_words_of c ds μ Q → ds.length = 1 := by
  rintro ds μ Q ⟨x, rfl, _⟩
  rfl
noncomputable def w_words_of_t1 (K : PySem.W.Frag) (c : Cs) : WS := wRet (wBM "str" oSplit (wVar 0) (wACons (wC (.str " ")) (wANil)))
noncomputable def w_words_of (K : PySem.W.Frag) (c : Cs) : WS := wSeq (wIfS (wOr (wNt (wTrv (wCB oIsi (wACons (wVar 0) (wACons (wC (.ty "str")) (wANil)))))) (wOr (wB (wOp oInC (wC (.str "\n")) (wVar 0))) (wB (wOp oIn (wC (.str "")) (wBM "str" oSplit (wVar 0) (wACons (wC (.str " ")) (wANil))))))) (wNever) (wNext)) (w_words_of_t1 K c)
section
variable {P : Program} {w : World} {K : PySem.W.Frag} {mg : Str → Option Value} {base : Heap} {c : Cs}
theorem dv_words_of (T : Txt K mg c) {f : Addr} (cdv : Value) (A : Around) (outer : List PySem.Env) (s : Shared) (H : Hp) (E : XK) (hr : Room 0 (A.deeper (PyProof.Rows.envOfC "words_of" (defScope s_words_of) s.heap.objs.size f cdv))) : DSs (cxOf CX0 P w K mg base N_words_of "words_of" (defScope s_words_of) f cdv A outer s H E).nox (defBody s_words_of) (w_words_of K c) := by
  have ND := sc_words_of.nd
  have hu := hu_of hr
  have hu64 := hr.units
  have hu65 := units65 hr
  exact dss_cons (ds_if (dt_w (dw_or (dt_not (dt_tru (de_callB cs_isi rfl T.b_isinstance (by decide +kernel) (da_cons (de_var (pv 0)) (da_cons (de_ty (n := "str") rfl T.b_str (by decide +kernel)) (da_nil)))) (fun _ => rfl))) (dw_or (dt_cmp os_inC (de_str) (de_var (pv 0)) (by rfl)) (dw_or1 (dt_cmp os_in (de_str) (de_bm bm_split (de_var (pv 0)) (da_cons (de_str) (da_nil))) (by rfl)))))) (dss_one (ds_never)) (dss_nil)) (dss_one (ds_ret (de_bm bm_split (de_var (pv 0)) (da_cons (de_str) (da_nil)))))
theorem rd_words_of (K : PySem.W.Frag) (c : Cs) : ∀ ds μ Q, sp_words_of c ds μ Q → w_words_of K c { nx := fun _ μ' => ∃ μ2, Sub μ2 μ' ∧ Q .non μ2, rt := Q } (startD N_words_of ds) μ := by
  rintro ds μ Q ⟨x, rfl, hz, h10, he, k⟩
  show w_words_of K c _ [some (.str x)] μ
  unfold w_words_of
  walk_at "dz"
  refine ⟨(10 : Nat), x, rfl, rfl, ?_⟩
  rw [decide_eq_false h10]
  walk_at "dz"
  refine ⟨by decide +kernel, le_line (by omega), ?_⟩
  walk_at "dz"
  refine ⟨rfl, by simp [flatD], ?_⟩
  rw [he]
  walk_at "dz"
  unfold w_words_of_t1
  walk_at "dz"
  exact ⟨by decide +kernel, le_line (by omega), ret_eq k⟩
theorem cal_words_of (T : Txt K mg c) : DCal P w K mg base 1 "words_of" (sp_words_of c) [] := T.f_words_of.cal (ps := ["command"]) sc_words_of (len_words_of c) (fun cdv A outer s H E hr => dv_words_of T cdv A outer s H E hr) (rd_words_of K c) fun _ _ _ _ _ _ us hl => match us, hl with | [_], _ => rfl
end
noncomputable def sp_Book_read (c : Cs) : DSp := fun ds μ Q => ∃ es : List Ent, ds = [.ref c.Book, .str (txtE es)] ∧ Good es ∧ Q (bkD c.Book (srtE es)) μ
theorem len_Book_read (c : Cs) : ∀ ds μ Q, sp_Book_read c ds μ Q → ds.length = 2 := by
  rintro ds μ Q ⟨es, rfl, _⟩
  rfl
noncomputable def w_Book_read_t1 (K : PySem.W.Frag) (c : Cs) : WS := wRet (wMakeL 0 c.Book (sp_Book_xinit c) [] (wACons (wFzE (wVar 2)) (wANil)))
noncomputable def w_Book_read_t2 (K : PySem.W.Frag) (c : Cs) : WS := wDrop (wBM "list" oAppend (wVar 2) (wACons (wTup (wACons (wCall (sp_number_in c) [] (wACons (wIx (wVar 5) (wC (.int 0))) (wANil))) (wACons (wIx (wVar 5) (wC (.int 1))) (wANil)))) (wANil)))
noncomputable def w_Book_read_b1 (K : PySem.W.Frag) (c : Cs) : WS := wSeq (wAsg (wBM "str" oSplit (wVar 4) (wACons (wC (.str " ")) (wANil))) (wgName 5)) (wSeq (wIfS (wOr (wB (wOp oNe (wCB oLen (wACons (wVar 5) (wANil))) (wC (.int 2)))) (wOr (wB (wOp oIs (wCall (sp_number_in c) [] (wACons (wIx (wVar 5) (wC (.int 0))) (wANil))) (wC .non))) (wNt (wTrv (wCall (sp_is_stick c) [] (wACons (wIx (wVar 5) (wC (.int 1))) (wANil))))))) (wNever) (wNext)) (w_Book_read_t2 K c))
noncomputable def w_Book_read_t3 (K : PySem.W.Frag) (c : Cs) : WS := wSeq (wAsg (wLstM (wANil)) (wgName 2)) (wSeq (wFor (wiEnum (wIf (wB (wOp oNe (wVar 1) (wC (.str "")))) (wBM "str" oSplit (wVar 1) (wACons (wC (.str "\n")) (wANil))) (wLst (wANil)))) (wgTup 2 (wgCons (wgName 3) (wgCons (wgName 4) (wgNil)))) (w_Book_read_b1 K c)) (w_Book_read_t1 K c))
noncomputable def w_Book_read (K : PySem.W.Frag) (c : Cs) : WS := wSeq (wIfS (wNt (wTrv (wCB oIsi (wACons (wVar 1) (wACons (wC (.ty "str")) (wANil)))))) (wNever) (wNext)) (w_Book_read_t3 K c)
section
variable {P : Program} {w : World} {K : PySem.W.Frag} {mg : Str → Option Value} {base : Heap} {c : Cs}
theorem dv_Book_read (T : Txt K mg c) {f : Addr} (cdv : Value) (A : Around) (outer : List PySem.Env) (s : Shared) (H : Hp) (E : XK) (hr : Room 5 (A.deeper (PyProof.Rows.envOfC "Book.read" (defScope s_Book_read) s.heap.objs.size f cdv))) : DSs (cxOf CX0 P w K mg base N_Book_read "Book.read" (defScope s_Book_read) f cdv A outer s H E).nox (defBody s_Book_read) (w_Book_read K c) := by
  have ND := sc_Book_read.nd
  have hu := hu_of hr
  have hu64 := hr.units
  have hu65 := units65 hr
  exact dss_cons (ds_if (dt_not (dt_tru (de_callB cs_isi rfl T.b_isinstance (by decide +kernel) (da_cons (de_var (pv 1)) (da_cons (de_ty (n := "str") rfl T.b_str (by decide +kernel)) (da_nil)))) (fun _ => rfl))) (dss_one (ds_never)) (dss_nil)) (dss_cons (ds_set (i := 2) ND rfl (Or.inl rfl) (de_lstM (da_nil))) (dss_cons (ds_for PassesOwn.never rfl (di_enum rfl T.b_enumerate (de_if (dt_cmp (os_ne hu64) (de_var (pv 1)) (de_str) (nomark _)) (de_bm bm_split (de_var (pv 1)) (da_cons (de_str) (da_nil))) (de_lst (da_nil)))) (dg_pat (vs := [3, 4]) (g := gTup K 2 (gCons (gName 3) (gCons (gName 4) (gNil)))) (pg_tup rfl (pgs_cons (pg_name (i := 3) ND rfl (by first | exact Or.inl rfl | exact Or.inr rfl)) (pgs_cons (pg_name (i := 4) ND rfl (by first | exact Or.inl rfl | exact Or.inr rfl)) (pgs_nil)))) (gp_tup (gp_cons (gp_name (by decide)) (gp_cons (gp_name (by decide)) (gp_nil))))) (dss_cons (ds_set (i := 5) ND rfl (Or.inl rfl) (de_bm bm_split (de_var (pv 4)) (da_cons (de_str) (da_nil)))) (dss_cons (ds_if (dt_w (dw_or (dt_cmp (os_ne hu64) (de_callB cs_len rfl T.b_len (by decide +kernel) (da_cons (de_var (pv 5)) (da_nil))) (de_gi T.c_PAIR) (nomark _)) (dw_or (dt_cmp os_is (de_cal (cal_number_in T) hr (by decide) rfl (da_cons (de_ix hu (de_var (pv 5)) (de_int) (fun _ _ => rfl)) (da_nil))) (de_non) (nomark _)) (dw_or1 (dt_not (dt_tru (de_cal (cal_is_stick T) hr (by decide) rfl (da_cons (de_ix hu (de_var (pv 5)) (de_int) (fun _ _ => rfl)) (da_nil))) (fun _ => rfl))))))) (dss_one (ds_never)) (dss_nil)) (dss_one (ds_expr (de_bm bm_append (de_var (pv 2)) (da_cons (de_tup (da_cons (de_cal (cal_number_in T) hr (by decide) rfl (da_cons (de_ix hu (de_var (pv 5)) (de_int) (fun _ _ => rfl)) (da_nil))) (da_cons (de_ix hu (de_var (pv 5)) (de_int) (fun _ _ => rfl)) (da_nil)))) (da_nil)))))))) (dss_one (ds_ret (de_makL 0 (mak_Book_xinit_2 T) hr (by decide) rfl (by first | exact Or.inl rfl | exact Or.inr (Or.inl rfl) | exact Or.inr (Or.inr rfl)) (da_cons (de_fzE (de_var (pv 2))) (da_nil)))))))
theorem rd_Book_read (K : PySem.W.Frag) (c : Cs) : ∀ ds μ Q, sp_Book_read c ds μ Q → w_Book_read K c { nx := fun _ μ' => ∃ μ2, Sub μ2 μ' ∧ Q .non μ2, rt := Q } (startD N_Book_read ds) μ := by
  rintro ds μ Q ⟨es, rfl, ok, k⟩
  show w_Book_read K c _ [some (.ref c.Book), some (.str (txtE es)), none, none, none, none] μ
  unfold w_Book_read
  walk_at "dz"
  unfold w_Book_read_t3
  walk_at "dz"
  refine ⟨by decide, fun p hp => ?_⟩
  have fin : ∀ a b d : Option D, w_Book_read_t1 K c { nx := fun x μ' => ∃ μ2, Dl.Sub μ2 μ' ∧ Q .non μ2, rt := Q } [some (.ref c.Book), some (.str (txtE es)), some (.ref p), a, b, d] (setS μ p (.lst (es.map entD))) := by
    intro a b d
    unfold w_Book_read_t1
    walk_at "dz"
    refine ⟨.lst (es.map entD), μ, .lst setS_same (by rw [delS_setS hp]; exact Dl.Sub.refl _), ?_⟩
    intro x hx
    refine ⟨x, _, es, rfl, rfl, ok, setS_same, rfl, _, setS_same, ?_⟩
    rw [setS_setS, delS_setS hx]
    exact ret_eq k
  walk_at "dz"
  by_cases h0 : es = []
  · subst h0
    rw [show (txtE [] == Str.ofString "") = true by rw [txt_nil]; decide +kernel, if_neg (by simp)]
    refine ⟨by simp, for_by (fun i ρ μ' => i = 0 ∧ μ' = setS μ p (.lst ([].map entD)) ∧ ∃ a b d, ρ = [some (.ref c.Book), some (.str (txtE [])), some (.ref p), a, b, d]) ⟨rfl, rfl, _, _, _, rfl⟩ ?_ ?_⟩
    · rintro i d ρ μ' hd
      simp [enumD] at hd
    · rintro ρ μ' ⟨_, rfl, a, b, d, rfl⟩
      exact fin _ _ _
  · have hne : (txtE es == Str.ofString "") = false := by
      rw [beq_eq_false_iff_ne]
      intro q
      exact txt_ne h0 (q.trans (by decide +kernel))
    rw [hne, if_pos rfl]
    have hsm := txt_small ok
    walk_at "dz"
    refine ⟨by decide +kernel, le_line (by omega), ?_⟩
    walk_at "dz"
    rw [show ("\n" : Str) = Str.ofString "\n" from rfl, split_txt h0, List.map_map]
    refine for_en (enc := D.str ∘ lineE) (fun i ρ μ' => μ' = setS μ p (.lst ((es.take i).map entD)) ∧ ∃ a b d, ρ = [some (.ref c.Book), some (.str (txtE es)), some (.ref p), a, b, d]) ⟨rfl, _, _, _, rfl⟩ ?_ ?_
    · rintro i e ρ μ' he ⟨rfl, a, b, d, rfl⟩
      obtain ⟨hi, hm⟩ := getS he
      obtain ⟨hene, hez⟩ := ok.st e hm
      have hen := ok.num e hm
      have hll := line_len hen hez
      walk_at "dz"
      refine ⟨rfl, ?_⟩
      unfold w_Book_read_b1
      walk_at "dz"
      show tyM "str" _ (.str (lineE e)) ∧ _
      walk_at "dz"
      show oSplit (.str (lineE e)) _ _ _
      walk_at "dz"
      refine ⟨by decide +kernel, le_line (by omega), ?_⟩
      rw [split_line]
      simp only [List.map_cons, List.map_nil]
      walk_at "dz"
      rw [if_neg (by simp)]
      refine ⟨e.1, rfl, hen, ?_⟩
      walk_at "dz"
      refine ⟨e.2, rfl, hene, by omega, ?_⟩
      walk_at "dz"
      unfold w_Book_read_t2
      walk_at "dz"
      refine ⟨tyM_lref setS_same, e.1, rfl, hen, ?_⟩
      walk_at "dz"
      refine ⟨le_line (Nat.le_of_ble_eq_true rfl), ?_⟩
      rw [app_ref setS_same, setS_setS]
      have et : (es.take (i + 1)).map entD = (es.take i).map entD ++ [entD e] := by rw [List.take_add_one, he, List.map_append]; rfl
      rw [et]
      refine ⟨Nat.lt_of_le_of_lt (m := 300) (by rw [List.length_map, List.length_take]; have := ok.sz; omega) (Nat.lt_of_lt_of_le (by decide : 300 < 301) (le_line (by decide))), rfl, _, _, _, rfl⟩
    · rintro ρ μ' ⟨rfl, a, b, d, rfl⟩
      rw [List.take_length]
      exact fin _ _ _
theorem cme_Book_read_2 (T : Txt K mg c) : DCme P w K mg base 6 c.Book "read" (sp_Book_read c) [] := by
  have D := T.f_Book_read
  exact D.cme sc_Book_read (len_Book_read c) (fun cdv A outer s H E hr => dv_Book_read T cdv A outer s H E hr) (rd_Book_read K c) (fun F => F.binds0 (ps := ["cls", "text"]) fun _ _ _ _ _ _ us hl => match us, hl with | [_, _], _ => rfl) (dvs := []) (.nil) (fun _ => .nil)
end
noncomputable def sp_frauds (c : Cs) : DSp := fun ds μ Q => ∃ (es : List Ent) (w : W3), ds = [bkD c.Book es, wayD c.Way w] ∧ Good es ∧ Q (.tup ((frs es w).map prD)) μ
theorem len_frauds (c : Cs) : ∀ ds μ Q, sp_frauds c ds μ Q → ds.length = 2 := by
  rintro ds μ Q ⟨es, w, rfl, _⟩
  rfl
noncomputable def w_frauds_t1 (K : PySem.W.Frag) (c : Cs) : WS := wRet (wCB oTuple (wACons (wVar 2) (wANil)))
noncomputable def w_frauds_b1 (K : PySem.W.Frag) (c : Cs) : WS := wDrop (wBM "list" oExtend (wVar 2) (wACons (wLc (wiSeq (wFld K "entries" (wVar 0))) (wgTup 2 (wgCons (wgName 5) (wgCons (wgName 6) (wgNil)))) (wAnd (wB (wOp oNe (wVar 3) (wVar 5))) (wTrv (wMeth c.Way "can" (sp_Way_can c) [] (wVar 1) (wACons (wVar 4) (wACons (wVar 6) (wANil)))))) (wTup (wACons (wVar 3) (wACons (wVar 5) (wANil)))) [5, 6]) (wANil)))
noncomputable def w_frauds (K : PySem.W.Frag) (c : Cs) : WS := wSeq (wAsg (wLstM (wANil)) (wgName 2)) (wSeq (wFor (wiSeq (wFld K "entries" (wVar 0))) (wgTup 2 (wgCons (wgName 3) (wgCons (wgName 4) (wgNil)))) (w_frauds_b1 K c)) (w_frauds_t1 K c))
section
variable {P : Program} {w : World} {K : PySem.W.Frag} {mg : Str → Option Value} {base : Heap} {c : Cs}
theorem dv_frauds (T : Txt K mg c) {f : Addr} (cdv : Value) (A : Around) (outer : List PySem.Env) (s : Shared) (H : Hp) (E : XK) (hr : Room 3 (A.deeper (PyProof.Rows.envOfC "frauds" (defScope s_frauds) s.heap.objs.size f cdv))) : DSs (cxOf CX0 P w K mg base N_frauds "frauds" (defScope s_frauds) f cdv A outer s H E).nox (defBody s_frauds) (w_frauds K c) := by
  have ND := sc_frauds.nd
  have hu := hu_of hr
  have hu64 := hr.units
  have hu65 := units65 hr
  exact dss_cons (ds_set (i := 2) ND rfl (Or.inl rfl) (de_lstM (da_nil))) (dss_cons (ds_for PassesOwn.never rfl (di_seq (de_fld (de_var (pv 0)) rfl)) (dg_pat (vs := [3, 4]) (g := gTup K 2 (gCons (gName 3) (gCons (gName 4) (gNil)))) (pg_tup rfl (pgs_cons (pg_name (i := 3) ND rfl (by first | exact Or.inl rfl | exact Or.inr rfl)) (pgs_cons (pg_name (i := 4) ND rfl (by first | exact Or.inl rfl | exact Or.inr rfl)) (pgs_nil)))) (gp_tup (gp_cons (gp_name (by decide)) (gp_cons (gp_name (by decide)) (gp_nil))))) (dss_one (ds_expr (de_bm bm_extend (de_var (pv 2)) (da_cons (de_lc (own := [("other", 5), ("later", 6)]) (g := gTup K 2 (gCons (gName 5) (gCons (gName 6) (gNil)))) rfl ND (di_seq (de_fld (de_var (pv 0)) rfl)) (blkOk_by (own := [("other", 5), ("later", 6)]) (N := N_frauds) (sc := defScope s_frauds) (by decide +kernel)) (gp_tup (gp_cons (gp_name (by decide)) (gp_cons (gp_name (by decide)) (gp_nil)))) (fun _ _ _ _ _ => pg_tup rfl (pgs_cons (pg_name (i := 5) ND rfl (by first | exact Or.inl rfl | exact Or.inr rfl)) (pgs_cons (pg_name (i := 6) ND rfl (by first | exact Or.inl rfl | exact Or.inr rfl)) (pgs_nil)))) (fun _ _ _ _ _ => dts_one (dt_w (dw_and (dt_cmp (os_ne hu64) (de_var (pv 3)) (de_var (pv 5)) (nomark _)) (dw_and1 (dt_tru (de_met (met_Way_can_3 T) hr (by decide) (de_var (pv 1)) (da_cons (de_var (pv 4)) (da_cons (de_var (pv 6)) (da_nil)))) (fun _ => rfl)))))) (fun _ _ _ _ _ => de_tup (da_cons (de_var (pv 3)) (da_cons (de_var (pv 5)) (da_nil))))) (da_nil)))))) (dss_one (ds_ret (de_callTy cs_tuple rfl T.b_tuple (by decide +kernel) (da_cons (de_var (pv 2)) (da_nil))))))
theorem rd_frauds (K : PySem.W.Frag) (c : Cs) (kf : Kf K c) : ∀ ds μ Q, sp_frauds c ds μ Q → w_frauds K c { nx := fun _ μ' => ∃ μ2, Sub μ2 μ' ∧ Q .non μ2, rt := Q } (startD N_frauds ds) μ := by
  rintro ds μ Q ⟨es, w, rfl, ok, k⟩
  show w_frauds K c _ [some (bkD c.Book es), some (wayD c.Way w), none, none, none, none, none] μ
  have hsz := ok.sz
  have hzz : es.length * es.length ≤ 90000 := Nat.mul_le_mul hsz hsz
  unfold w_frauds
  walk_at "dz"
  refine ⟨by decide, fun p hp => ?_⟩
  walk_at "dz"
  unfold bkD bkF
  walk_at "dz"
  rw [lk_ent]
  refine ⟨kf.o_Book_entries, ?_⟩
  walk_at "dz"
  refine for_ty (fun i ρ μ' => μ' = setS μ p (.lst (((es.take i).flatMap (frOf es w)).map prD)) ∧ ∃ a b d e, ρ = [some _, some (wayD c.Way w), some (.ref p), a, b, d, e]) ⟨rfl, _, _, _, _, rfl⟩ ?_ ?_
  · rintro i a ρ μ' ha ⟨rfl, x1, x2, x3, x4, rfl⟩
    obtain ⟨hi, hm⟩ := getS ha
    obtain ⟨hne, hz⟩ := ok.st a hm
    unfold entD
    walk_at "dz"
    refine ⟨rfl, ?_⟩
    unfold w_frauds_b1
    walk_at "dz"
    refine ⟨tyM_lref setS_same, ?_⟩
    rw [lk_ent]
    refine ⟨kf.o_Book_entries, ?_⟩
    walk_at "dz"
    refine lc_ty (enc := fun e : Ent => D.tup [.int (e.1 : Nat), .str (stk e.2)]) (fun b => (if a.1 ≠ b.1 ∧ canW w a.2 b.2 = true then some (a.1, b.1) else none).map prD) (le_line (by omega)) ?_ ?_
    · intro j b μ2 R R' hb _ hR hR'
      obtain ⟨hj, hmb⟩ := getS hb
      obtain ⟨hneb, hzb⟩ := ok.st b hmb
      walk_at "dz"
      refine ⟨rfl, ?_⟩
      by_cases h1 : a.1 = b.1
      · rw [if_neg (by omega)]
        exact hR' (by rw [if_neg (fun q => q.1 h1)]; rfl)
      · rw [if_pos (by omega)]
        unfold wayD
        walk_at "dz"
        refine ⟨lk_can, w, a.2, b.2, rfl, hne, hneb, by omega, by omega, ?_⟩
        walk_at "dz"
        cases hc : canW w a.2 b.2 with
        | true =>
          rw [if_pos rfl]
          exact ⟨le_line (Nat.le_of_ble_eq_true rfl), hR _ (by rw [if_pos ⟨h1, hc⟩]; rfl)⟩
        | false =>
          rw [if_neg (by simp)]
          exact hR' (by rw [if_neg (fun q => by rw [hc] at q; exact Bool.false_ne_true q.2)]; rfl)
    · intro L hL
      have hLp : L ≠ p := by rintro rfl; rw [setS_same] at hL; cases hL
      have hfm : es.filterMap (fun b => (if a.1 ≠ b.1 ∧ canW w a.2 b.2 = true then some (a.1, b.1) else none).map prD) = (frOf es w a).map prD := by
        unfold frOf
        rw [List.map_filterMap]
      rw [delS_setS hL, hfm]
      walk_at "dz"
      rw [ext_ref setS_same, setS_setS]
      have et : ((es.take (i + 1)).flatMap (frOf es w)).map prD = ((es.take i).flatMap (frOf es w)).map prD ++ (frOf es w a).map prD := by
        rw [List.take_add_one, ha, List.flatMap_append, List.map_append]
        simp
      rw [et]
      refine ⟨le_line ?_, rfl, _, _, _, _, rfl⟩
      rw [← List.length_append, ← et, List.length_map]
      have := frs_lenT es w (i + 1)
      omega
  · rintro ρ μ' ⟨rfl, x1, x2, x3, x4, rfl⟩
    unfold w_frauds_t1
    walk_at "dz"
    rw [sqA_ref setS_same, List.take_length]
    walk_at "dz"
    exact ret_in (Dl.Sub.set hp) k
theorem cal_frauds (T : Txt K mg c) : DCal P w K mg base 4 "frauds" (sp_frauds c) [] := T.f_frauds.cal (ps := ["book", "way"]) sc_frauds (len_frauds c) (fun cdv A outer s H E hr => dv_frauds T cdv A outer s H E hr) (rd_frauds K c T.kf) fun _ _ _ _ _ _ us hl => match us, hl with | [_, _], _ => rfl
end
noncomputable def sp_notches (c : Cs) : DSp := fun ds μ Q => ∃ bs : List Bool, ds = [.str (stk bs)] ∧ bs.length ≤ 100000 ∧ Q (.tup ((idxFrom 0 bs).map fun i => .int (i : Nat))) μ
theorem len_notches (c : Cs) : ∀ ds μ Q, sp_notches c ds μ Q → ds.length = 1 := by
  rintro ds μ Q ⟨bs, rfl, _⟩
  rfl
noncomputable def w_notches (K : PySem.W.Frag) (c : Cs) : WS := wRet (wCB oTuple (wACons (wLc (wiEnum (wVar 0)) (wgTup 2 (wgCons (wgName 1) (wgCons (wgName 2) (wgNil)))) (wB (wOp oEq (wVar 2) (wC (.str "x")))) (wVar 1) [1, 2]) (wANil)))
section
variable {P : Program} {w : World} {K : PySem.W.Frag} {mg : Str → Option Value} {base : Heap} {c : Cs}
theorem dv_notches (T : Txt K mg c) {f : Addr} (cdv : Value) (A : Around) (outer : List PySem.Env) (s : Shared) (H : Hp) (E : XK) (hr : Room 0 (A.deeper (PyProof.Rows.envOfC "notches" (defScope s_notches) s.heap.objs.size f cdv))) : DSs (cxOf CX0 P w K mg base N_notches "notches" (defScope s_notches) f cdv A outer s H E).nox (defBody s_notches) (w_notches K c) := by
  have ND := sc_notches.nd
  have hu := hu_of hr
  have hu64 := hr.units
  have hu65 := units65 hr
  exact dss_one (ds_ret (de_callTy cs_tuple rfl T.b_tuple (by decide +kernel) (da_cons (de_lc (own := [("at", 1), ("sign", 2)]) (g := gTup K 2 (gCons (gName 1) (gCons (gName 2) (gNil)))) rfl ND (di_enum rfl T.b_enumerate (de_var (pv 0))) (blkOk_by (own := [("at", 1), ("sign", 2)]) (N := N_notches) (sc := defScope s_notches) (by decide +kernel)) (gp_tup (gp_cons (gp_name (by decide)) (gp_cons (gp_name (by decide)) (gp_nil)))) (fun _ _ _ _ _ => pg_tup rfl (pgs_cons (pg_name (i := 1) ND rfl (by first | exact Or.inl rfl | exact Or.inr rfl)) (pgs_cons (pg_name (i := 2) ND rfl (by first | exact Or.inl rfl | exact Or.inr rfl)) (pgs_nil)))) (fun _ _ _ _ _ => dts_one (dt_cmp (os_eq hu64) (de_var (pv 2)) (de_gs T.c_NOTCHED) (nomark _))) (fun _ _ _ _ _ => de_var (pv 1))) (da_nil))))
theorem rd_notches (K : PySem.W.Frag) (c : Cs) : ∀ ds μ Q, sp_notches c ds μ Q → w_notches K c { nx := fun _ μ' => ∃ μ2, Sub μ2 μ' ∧ Q .non μ2, rt := Q } (startD N_notches ds) μ := by
  rintro ds μ Q ⟨bs, rfl, hz, q⟩
  show w_notches K c _ [some (.str (stk bs)), none, none] μ
  unfold w_notches
  walk_at "dx"
  simp only [stk_x]
  have hz2 : (enumD (chars (stk bs))).length ≤ sizeLine := by rw [enumD_length, chars_stk, List.length_map]; exact le_line (by omega)
  refine lc_fmap xPick hz2 ?_ ?_
  · intro i d μ' R R' hd _ hR hR'
    obtain ⟨b, hb, rfl⟩ := enum_at hd
    walk_at "dx"
    refine ⟨rfl, ?_⟩
    rw [stk_beq]
    cases b with
    | true =>
      have e : xPick (D.tup [.int (i : Nat), .str (stk [true])]) = some (.int (i : Nat)) := by simp [xPick]
      simpa using hR _ e
    | false =>
      have e : xPick (D.tup [.int (i : Nat), .str (stk [false])]) = none := by
        have : ¬ (stk [false] = stk [true]) := fun h => by have := stk_inj h; simp at this
        simp [xPick, this]
      simpa using hR' e
  · intro L hL
    rw [delS_setS hL, enum_stk]
    have e := enum_pick 0 bs
    simp only [e]
    exact ret_eq q
theorem cal_notches (T : Txt K mg c) : DCal P w K mg base 1 "notches" (sp_notches c) [] := T.f_notches.cal (ps := ["stick"]) sc_notches (len_notches c) (fun cdv A outer s H E hr => dv_notches T cdv A outer s H E hr) (rd_notches K c) fun _ _ _ _ _ _ us hl => match us, hl with | [_], _ => rfl
end
noncomputable def sp_is_within (c : Cs) : DSp := fun ds μ Q => ∃ a b : List Bool, ds = [.str (stk a), .str (stk b)] ∧ a.length = b.length ∧ a.length ≤ 1000 ∧ Q (.bl (subB a b)) μ
theorem len_is_within (c : Cs) : ∀ ds μ Q, sp_is_within c ds μ Q → ds.length = 2 := by
  rintro ds μ Q ⟨a, b, rfl, _⟩
  rfl
noncomputable def w_is_within (K : PySem.W.Frag) (c : Cs) : WS := wRet (wAndV (wOp oEq (wCB oLen (wACons (wVar 0) (wANil))) (wCB oLen (wACons (wVar 1) (wANil)))) (wCB oAll (wACons (wLc (wiSeq (wCall (sp_notches c) [] (wACons (wVar 0) (wANil)))) (wgName 2) (wYes) (wOp oEq (wIx (wVar 1) (wVar 2)) (wC (.str "x"))) [2]) (wANil))))
section
variable {P : Program} {w : World} {K : PySem.W.Frag} {mg : Str → Option Value} {base : Heap} {c : Cs}
theorem dv_is_within (T : Txt K mg c) {f : Addr} (cdv : Value) (A : Around) (outer : List PySem.Env) (s : Shared) (H : Hp) (E : XK) (hr : Room 1 (A.deeper (PyProof.Rows.envOfC "is_within" (defScope s_is_within) s.heap.objs.size f cdv))) : DSs (cxOf CX0 P w K mg base N_is_within "is_within" (defScope s_is_within) f cdv A outer s H E).nox (defBody s_is_within) (w_is_within K c) := by
  have ND := sc_is_within.nd
  have hu := hu_of hr
  have hu64 := hr.units
  have hu65 := units65 hr
  exact dss_one (ds_ret (de_and (de_cmp (os_eq hu64) (de_callB cs_len rfl T.b_len (by decide +kernel) (da_cons (de_var (pv 0)) (da_nil))) (de_callB cs_len rfl T.b_len (by decide +kernel) (da_cons (de_var (pv 1)) (da_nil))) (nomark _)) (de_one (de_callB (cs_all rfl) rfl T.b_all (by decide +kernel) (da_cons (de_lc (own := [("at", 2)]) (g := gName 2) rfl ND (di_seq (de_cal (cal_notches T) hr (by decide) rfl (da_cons (de_var (pv 0)) (da_nil)))) (blkOk_by (own := [("at", 2)]) (N := N_is_within) (sc := defScope s_is_within) (by decide +kernel)) (gp_name (by decide)) (fun _ _ _ _ _ => pg_name (i := 2) ND rfl (by first | exact Or.inl rfl | exact Or.inr rfl)) (fun _ _ _ _ _ => dts_nil) (fun _ _ _ _ _ => de_cmp (os_eq hu64) (de_ix hu (de_var (pv 1)) (de_var (pv 2)) (fun _ _ => rfl)) (de_gs T.c_NOTCHED) (nomark _))) (da_nil))))))
theorem rd_is_within (K : PySem.W.Frag) (c : Cs) : ∀ ds μ Q, sp_is_within c ds μ Q → w_is_within K c { nx := fun _ μ' => ∃ μ2, Sub μ2 μ' ∧ Q .non μ2, rt := Q } (startD N_is_within ds) μ := by
  rintro ds μ Q ⟨a, b, rfl, hl, hz, k⟩
  show w_is_within K c _ [some (.str (stk a)), some (.str (stk b)), none] μ
  unfold w_is_within
  walk_at "dx"
  rw [stk_len, stk_len, hl]
  simp only [decide_true]
  refine ⟨le_line (by omega), le_line (by omega), a, rfl, by omega, ?_⟩
  walk_at "dx"
  simp only [stk_x]
  have hzl : ((idxFrom 0 a).map fun i => D.int (i : Nat)).length ≤ sizeLine := by rw [List.length_map, idx_length]; have := cnt_le a; exact le_line (by omega)
  refine lc_map (fun d => match d with | .int i => .bl (decide (b[i.toNat]? = some true)) | d => d) hzl ?_ ?_
  · intro j d μ' R hd _ hR
    rw [List.getElem?_map] at hd
    cases h : (idxFrom 0 a)[j]? with
    | none => rw [h] at hd; cases hd
    | some i =>
      rw [h] at hd
      cases hd
      have hib : i < b.length := by have := idx_lt (List.mem_of_getElem? h); omega
      obtain ⟨y, hy⟩ : ∃ y, b[i]? = some y := ⟨b[i], List.getElem?_eq_getElem hib⟩
      walk_at "dx"
      rw [stk_at hy]
      refine ⟨by rw [stk_len]; exact le_line (by omega), ?_⟩
      rw [one_stk]
      have hR2 : R (.bl (decide (b[i]? = some true))) μ' := hR
      rw [hy] at hR2
      rw [stk_beq]
      cases y <;> exact hR2
  · intro L hL
    rw [delS_setS hL]
    have e : (((idxFrom 0 a).map fun i => D.int (i : Nat)).map fun d => match d with | .int i => .bl (decide (b[i.toNat]? = some true)) | d => d) = ((idxFrom 0 a).map fun i => decide (b[i]? = some true)).map D.bl := by
      rw [List.map_map, List.map_map]
      rfl
    rw [e]
    simp only [Option.bind_some, blsD_map]
    rw [List.all_map]
    have e2 := idx_all (k := 0) (a := a) (b := b) (p := []) rfl hl
    rw [List.nil_append] at e2
    rw [show (id ∘ fun i => decide (b[i]? = some true)) = fun i => decide (b[i]? = some true) from rfl, e2]
    exact ret_eq k
theorem cal_is_within (T : Txt K mg c) : DCal P w K mg base 2 "is_within" (sp_is_within c) [] := T.f_is_within.cal (ps := ["one", "other"]) sc_is_within (len_is_within c) (fun cdv A outer s H E hr => dv_is_within T cdv A outer s H E hr) (rd_is_within K c) fun _ _ _ _ _ _ us hl => match us, hl with | [_, _], _ => rfl
end
noncomputable def sp_Book_stick_of (c : Cs) : DSp := fun ds μ Q => ∃ (es : List Ent) (e : Ent), ds = [bkD c.Book es, .int (e.1 : Nat)] ∧ Good es ∧ e ∈ es ∧ Q (.str (stk e.2)) μ
theorem len_Book_stick_of (c : Cs) : ∀ ds μ Q, sp_Book_stick_of c ds μ Q → ds.length = 2 := by
  rintro ds μ Q ⟨es, e, rfl, _⟩
  rfl
noncomputable def w_Book_stick_of_b1 (K : PySem.W.Frag) (c : Cs) : WS := wIfS (wAnd (wTrv (wCall (sp_is_integer c) [] (wACons (wVar 1) (wANil)))) (wB (wOp oEq (wVar 2) (wVar 1)))) (wRet (wVar 3)) (wNext)
noncomputable def w_Book_stick_of (K : PySem.W.Frag) (c : Cs) : WS := wSeq (wFor (wiSeq (wFld K "entries" (wVar 0))) (wgTup 2 (wgCons (wgName 2) (wgCons (wgName 3) (wgNil)))) (w_Book_stick_of_b1 K c)) (wNever)
section
variable {P : Program} {w : World} {K : PySem.W.Frag} {mg : Str → Option Value} {base : Heap} {c : Cs}
theorem dv_Book_stick_of (T : Txt K mg c) {f : Addr} (cdv : Value) (A : Around) (outer : List PySem.Env) (s : Shared) (H : Hp) (E : XK) (hr : Room 1 (A.deeper (PyProof.Rows.envOfC "Book.stick_of" (defScope s_Book_stick_of) s.heap.objs.size f cdv))) : DSs (cxOf CX0 P w K mg base N_Book_stick_of "Book.stick_of" (defScope s_Book_stick_of) f cdv A outer s H E).nox (defBody s_Book_stick_of) (w_Book_stick_of K c) := by
  have ND := sc_Book_stick_of.nd
  have hu := hu_of hr
  have hu64 := hr.units
  have hu65 := units65 hr
  exact dss_cons (ds_for PassesOwn.never rfl (di_seq (de_fld (de_var (pv 0)) rfl)) (dg_pat (vs := [2, 3]) (g := gTup K 2 (gCons (gName 2) (gCons (gName 3) (gNil)))) (pg_tup rfl (pgs_cons (pg_name (i := 2) ND rfl (by first | exact Or.inl rfl | exact Or.inr rfl)) (pgs_cons (pg_name (i := 3) ND rfl (by first | exact Or.inl rfl | exact Or.inr rfl)) (pgs_nil)))) (gp_tup (gp_cons (gp_name (by decide)) (gp_cons (gp_name (by decide)) (gp_nil))))) (dss_one (ds_if (dt_w (dw_and (dt_tru (de_cal (cal_is_integer T) hr (by decide) rfl (da_cons (de_var (pv 1)) (da_nil))) (fun _ => rfl)) (dw_and1 (dt_cmp (os_eq hu64) (de_var (pv 2)) (de_var (pv 1)) (nomark _))))) (dss_one (ds_ret (de_var (pv 3)))) (dss_nil)))) (dss_one (ds_never))
theorem rd_Book_stick_of (K : PySem.W.Frag) (c : Cs) (kf : Kf K c) : ∀ ds μ Q, sp_Book_stick_of c ds μ Q → w_Book_stick_of K c { nx := fun _ μ' => ∃ μ2, Sub μ2 μ' ∧ Q .non μ2, rt := Q } (startD N_Book_stick_of ds) μ := by
  rintro ds μ Q ⟨es, e, rfl, ok, he, k⟩
  show w_Book_stick_of K c _ [some (bkD c.Book es), some (.int (e.1 : Nat)), none, none] μ
  unfold w_Book_stick_of bkD bkF
  walk_at "dz"
  rw [lk_ent]
  refine ⟨kf.o_Book_entries, ?_⟩
  walk_at "dz"
  refine for_ty (enc := entD) (fun i ρ μ' => μ' = μ ∧ e ∉ es.take i ∧ ∃ a b, ρ = [some _, some (.int (e.1 : Nat)), a, b]) ⟨rfl, by simp, _, _, rfl⟩ ?_ ?_
  · rintro i x ρ μ' hx ⟨rfl, hn, a, b, rfl⟩
    obtain ⟨hi, hm⟩ := getS hx
    unfold entD
    walk_at "dz"
    refine ⟨rfl, ?_⟩
    unfold w_Book_stick_of_b1
    walk_at "dz"
    refine ⟨_, rfl, ?_⟩
    walk_at "dz"
    by_cases h1 : x.1 = e.1
    · rw [if_pos (by omega)]
      have := nodup_fst ok.nn hm he h1
      subst this
      exact ret_eq k
    · rw [if_neg (by omega)]
      refine ⟨?_, _, _, rfl⟩
      rw [List.take_add_one, hx]
      intro q
      rcases List.mem_append.mp q with q | q
      · exact hn q
      · simp at q; exact h1 (by rw [q])
  · rintro ρ μ' ⟨rfl, hn, a, b, rfl⟩
    rw [List.take_length] at hn
    exact absurd he hn
theorem met_Book_stick_of_2 (T : Txt K mg c) : DMet P w K mg base 2 c.Book "stick_of" (sp_Book_stick_of c) [] := by
  have D := T.f_Book_stick_of
  exact D.met T.k_Book.cl sc_Book_stick_of (len_Book_stick_of c) (fun cdv A outer s H E hr => dv_Book_stick_of T cdv A outer s H E hr) (rd_Book_stick_of K c T.kf) (fun F => F.binds0 (ps := ["self", "value"]) fun _ _ _ _ _ _ us hl => match us, hl with | [_, _], _ => rfl) (dvs := []) (.nil) (fun _ => .nil)
end
noncomputable def sp_lies_within (c : Cs) : DSp := fun ds μ Q => ∃ (es : List Ent) (x y : Ent), ds = [bkD c.Book es, .int (x.1 : Nat), .int (y.1 : Nat)] ∧ Good es ∧ x ∈ es ∧ y ∈ es ∧ Q (.bl (lwB x y)) μ
theorem len_lies_within (c : Cs) : ∀ ds μ Q, sp_lies_within c ds μ Q → ds.length = 3 := by
  rintro ds μ Q ⟨es, x, y, rfl, _⟩
  rfl
noncomputable def w_lies_within (K : PySem.W.Frag) (c : Cs) : WS := wRet (wAndV (wOp oNe (wVar 1) (wVar 2)) (wCall (sp_is_within c) [] (wACons (wMeth c.Book "stick_of" (sp_Book_stick_of c) [] (wVar 0) (wACons (wVar 1) (wANil))) (wACons (wMeth c.Book "stick_of" (sp_Book_stick_of c) [] (wVar 0) (wACons (wVar 2) (wANil))) (wANil)))))
section
variable {P : Program} {w : World} {K : PySem.W.Frag} {mg : Str → Option Value} {base : Heap} {c : Cs}
theorem dv_lies_within (T : Txt K mg c) {f : Addr} (cdv : Value) (A : Around) (outer : List PySem.Env) (s : Shared) (H : Hp) (E : XK) (hr : Room 2 (A.deeper (PyProof.Rows.envOfC "lies_within" (defScope s_lies_within) s.heap.objs.size f cdv))) : DSs (cxOf CX0 P w K mg base N_lies_within "lies_within" (defScope s_lies_within) f cdv A outer s H E).nox (defBody s_lies_within) (w_lies_within K c) := by
  have ND := sc_lies_within.nd
  have hu := hu_of hr
  have hu64 := hr.units
  have hu65 := units65 hr
  exact dss_one (ds_ret (de_and (de_cmp (os_ne hu64) (de_var (pv 1)) (de_var (pv 2)) (nomark _)) (de_one (de_cal (cal_is_within T) hr (by decide) rfl (da_cons (de_met (met_Book_stick_of_2 T) hr (by decide) (de_var (pv 0)) (da_cons (de_var (pv 1)) (da_nil))) (da_cons (de_met (met_Book_stick_of_2 T) hr (by decide) (de_var (pv 0)) (da_cons (de_var (pv 2)) (da_nil))) (da_nil)))))))
theorem rd_lies_within (K : PySem.W.Frag) (c : Cs) : ∀ ds μ Q, sp_lies_within c ds μ Q → w_lies_within K c { nx := fun _ μ' => ∃ μ2, Sub μ2 μ' ∧ Q .non μ2, rt := Q } (startD N_lies_within ds) μ := by
  rintro ds μ Q ⟨es, x, y, rfl, ok, hx, hy, k⟩
  show w_lies_within K c _ [some (bkD c.Book es), some (.int (x.1 : Nat)), some (.int (y.1 : Nat))] μ
  unfold lwB at k
  unfold w_lies_within
  walk_at "dz"
  unfold bkD
  walk_at "dz"
  by_cases h : x.1 = y.1
  · rw [decide_eq_false (fun q => q h)] at k
    rw [if_neg (by omega)]
    exact ret_eq k
  · rw [decide_eq_true h] at k
    rw [if_pos (by omega)]
    have hln := ok.ln x hx y hy
    have hz := (ok.st x hx).2
    exact ⟨by rfl, es, x, rfl, ok, hx, by rfl, es, y, rfl, ok, hy, x.2, y.2, rfl, hln, hz, ret_eq k⟩
theorem cal_lies_within (T : Txt K mg c) : DCal P w K mg base 3 "lies_within" (sp_lies_within c) [] := T.f_lies_within.cal (ps := ["book", "one", "other"]) sc_lies_within (len_lies_within c) (fun cdv A outer s H E hr => dv_lies_within T cdv A outer s H E hr) (rd_lies_within K c) fun _ _ _ _ _ _ us hl => match us, hl with | [_, _, _], _ => rfl
end
noncomputable def sp_sums_of (c : Cs) : DSp := fun ds μ Q => ∃ es : List Ent, ds = [bkD c.Book es] ∧ Good es ∧ Q (.lst (es.map fun e => .int (e.1 : Nat))) μ
theorem len_sums_of (c : Cs) : ∀ ds μ Q, sp_sums_of c ds μ Q → ds.length = 1 := by
  rintro ds μ Q ⟨es, rfl, _⟩
  rfl
noncomputable def w_sums_of (K : PySem.W.Frag) (c : Cs) : WS := wRet (wLc (wiSeq (wFld K "entries" (wVar 0))) (wgTup 2 (wgCons (wgName 1) (wgCons (wgName 2) (wgNil)))) (wYes) (wVar 1) [1, 2])
section
variable {P : Program} {w : World} {K : PySem.W.Frag} {mg : Str → Option Value} {base : Heap} {c : Cs}
theorem dv_sums_of (T : Txt K mg c) {f : Addr} (cdv : Value) (A : Around) (outer : List PySem.Env) (s : Shared) (H : Hp) (E : XK) (hr : Room 0 (A.deeper (PyProof.Rows.envOfC "sums_of" (defScope s_sums_of) s.heap.objs.size f cdv))) : DSs (cxOf CX0 P w K mg base N_sums_of "sums_of" (defScope s_sums_of) f cdv A outer s H E).nox (defBody s_sums_of) (w_sums_of K c) := by
  have ND := sc_sums_of.nd
  have hu := hu_of hr
  have hu64 := hr.units
  have hu65 := units65 hr
  exact dss_one (ds_ret (de_lc (own := [("number", 1), ("stick", 2)]) (g := gTup K 2 (gCons (gName 1) (gCons (gName 2) (gNil)))) rfl ND (di_seq (de_fld (de_var (pv 0)) rfl)) (blkOk_by (own := [("number", 1), ("stick", 2)]) (N := N_sums_of) (sc := defScope s_sums_of) (by decide +kernel)) (gp_tup (gp_cons (gp_name (by decide)) (gp_cons (gp_name (by decide)) (gp_nil)))) (fun _ _ _ _ _ => pg_tup rfl (pgs_cons (pg_name (i := 1) ND rfl (by first | exact Or.inl rfl | exact Or.inr rfl)) (pgs_cons (pg_name (i := 2) ND rfl (by first | exact Or.inl rfl | exact Or.inr rfl)) (pgs_nil)))) (fun _ _ _ _ _ => dts_nil) (fun _ _ _ _ _ => de_var (pv 1))))
theorem rd_sums_of (K : PySem.W.Frag) (c : Cs) (kf : Kf K c) : ∀ ds μ Q, sp_sums_of c ds μ Q → w_sums_of K c { nx := fun _ μ' => ∃ μ2, Sub μ2 μ' ∧ Q .non μ2, rt := Q } (startD N_sums_of ds) μ := by
  rintro ds μ Q ⟨es, rfl, ok, k⟩
  show w_sums_of K c _ [some (bkD c.Book es), none, none] μ
  unfold w_sums_of bkD bkF
  walk_at "dz"
  rw [lk_ent]
  refine ⟨kf.o_Book_entries, ?_⟩
  walk_at "dz"
  refine lc_tm (enc := entD) (fun e => .int (e.1 : Nat)) (le_line (by have := ok.sz; omega)) ?_ ?_
  · intro i e μ' R _ _ hR
    unfold entD
    walk_at "dz"
    exact ⟨rfl, hR⟩
  · intro L hL
    rw [delS_setS hL]
    exact ret_eq k
theorem cal_sums_of (T : Txt K mg c) : DCal P w K mg base 1 "sums_of" (sp_sums_of c) [] := T.f_sums_of.cal (ps := ["book"]) sc_sums_of (len_sums_of c) (fun cdv A outer s H E hr => dv_sums_of T cdv A outer s H E hr) (rd_sums_of K c T.kf) fun _ _ _ _ _ _ us hl => match us, hl with | [_], _ => rfl
end
noncomputable def sp_Pairing_follow_n (n : Nat) (c : Cs) : DSp := fun ds μ Q => ∃ (x pm p1 p2 p3 : Addr) (V : List Nat) (ab : Nat → List Nat) (nx fr : Mp) (met : List Nat) (one : Nat) (kvm : List (Key × D)), ds = [.ref x, .int (one : Nat), .ref pm] ∧
  μ x = some (.ins c.Pairing (paF V p1 p2 p3)) ∧ PairS V ab μ p1 p2 p3 nx fr ∧ μ pm = some (.dct kvm) ∧ DM V (mtD met) kvm ∧ pm ≠ p1 ∧ pm ≠ p2 ∧ pm ≠ p3 ∧ V.length ≤ 300 ∧ met.Nodup ∧ (∀ b ∈ met, b ∈ V) ∧ V.length < met.length + n ∧ one ∈ V ∧
  (∀ a, ∀ b ∈ ab a, b ∈ V) ∧ Mat ab nx fr ∧ Own nx met one ∧ (∀ a b, nx a = some b → a ∈ V) ∧
  ∀ res nx' fr' met' μ' kvm', folF ab n nx fr met one = (res, nx', fr', met') → Fol ab nx fr met one res nx' fr' met' → PairS V ab μ' p1 p2 p3 nx' fr' → μ' pm = some (.dct kvm') → DM V (mtD met') kvm' → met'.Nodup → (∀ b ∈ met', b ∈ V) → (∀ a b, nx' a = some b → a ∈ V) → Kp [p2, p3, pm] μ μ' → Q (.bl res) μ'
noncomputable abbrev sp_Pairing_follow (c : Cs) : DSp := sp_Pairing_follow_n 18 c
theorem len_Pairing_follow (n : Nat) (c : Cs) : ∀ ds μ Q, sp_Pairing_follow_n n c ds μ Q → ds.length = 3 := by
  rintro ds μ Q ⟨_, _, _, _, _, _, _, _, _, _, _, _, rfl, _⟩
  rfl
theorem no_Pairing_follow (c : Cs) : ∀ ds μ Q, ¬ sp_Pairing_follow_n 0 c ds μ Q := by
  rintro ds μ Q ⟨_, _, _, _, _, _, _, _, _, _, _, _, _, _, _, _, _, _, _, _, _, h1, h2, h3, _⟩
  have := nodup_len h1 h2
  omega
noncomputable def w_Pairing_follow_b1 (n : Nat) (K : PySem.W.Frag) (c : Cs) : WS := wIfS (wB (wOp oNotInD (wVar 3) (wVar 2))) (wSeq (wAsg (wC (.bl true)) (wgSub oSet (wVar 2) (wVar 3))) (wIfS (wOr (wB (wOp oNotInD (wVar 3) (wFld K "from_of" (wVar 0)))) (wTrv (wMeth c.Pairing "follow" (sp_Pairing_follow_n n c) [] (wVar 0) (wACons (wIx (wFld K "from_of" (wVar 0)) (wVar 3)) (wACons (wVar 2) (wANil)))))) (wSeq (wAsg (wVar 3) (wgSub oSet (wFld K "next_of" (wVar 0)) (wVar 1))) (wSeq (wAsg (wVar 1) (wgSub oSet (wFld K "from_of" (wVar 0)) (wVar 3))) (wRet (wC (.bl true))))) (wNext))) (wNext)
noncomputable def w_Pairing_follow (n : Nat) (K : PySem.W.Frag) (c : Cs) : WS := wSeq (wFor (wiSeq (wIx (wFld K "above" (wVar 0)) (wVar 1))) (wgName 3) (w_Pairing_follow_b1 n K c)) (wRet (wC (.bl false)))
section
variable {P : Program} {w : World} {K : PySem.W.Frag} {mg : Str → Option Value} {base : Heap} {c : Cs}
theorem dv_Pairing_follow (T : Txt K mg c) (n : Nat) (C : DMet P w K mg base (1 + n) c.Pairing "follow" (sp_Pairing_follow_n n c) []) {f : Addr} (cdv : Value) (A : Around) (outer : List PySem.Env) (s : Shared) (H : Hp) (E : XK) (hr : Room (1 + n) (A.deeper (PyProof.Rows.envOfC "Pairing.follow" (defScope s_Pairing_follow) s.heap.objs.size f cdv))) : DSs (cxOf CX0 P w K mg base N_Pairing_follow "Pairing.follow" (defScope s_Pairing_follow) f cdv A outer s H E).nox (defBody s_Pairing_follow) (w_Pairing_follow n K c) := by
  have ND := sc_Pairing_follow.nd
  have hu := hu_of hr
  have hu64 := hr.units
  have hu65 := units65 hr
  exact dss_cons (ds_for PassesOwn.never rfl (di_seq (de_ix hu (de_fld (de_var (pv 0)) rfl) (de_var (pv 1)) (fun _ _ => rfl))) (dg_pat (vs := [3]) (g := gName 3) (pg_name (i := 3) ND rfl (by first | exact Or.inl rfl | exact Or.inr rfl)) (gp_name (by decide))) (dss_one (ds_if (dt_cmp (os_notInD hu) (de_var (pv 3)) (de_var (pv 2)) (by rfl)) (dss_cons (ds_asg (de_bl) (dg_sub (os_set hu) (de_var (pv 2)) (de_var (pv 3)))) (dss_one (ds_if (dt_w (dw_or (dt_cmp (os_notInD hu) (de_var (pv 3)) (de_fld (de_var (pv 0)) rfl) (by rfl)) (dw_or1 (dt_tru (de_met C hr (Nat.le_refl _) (de_var (pv 0)) (da_cons (de_ix hu (de_fld (de_var (pv 0)) rfl) (de_var (pv 3)) (fun _ _ => rfl)) (da_cons (de_var (pv 2)) (da_nil)))) (fun _ => rfl))))) (dss_cons (ds_asg (de_var (pv 3)) (dg_sub (os_set hu) (de_fld (de_var (pv 0)) rfl) (de_var (pv 1)))) (dss_cons (ds_asg (de_var (pv 1)) (dg_sub (os_set hu) (de_fld (de_var (pv 0)) rfl) (de_var (pv 3)))) (dss_one (ds_ret (de_bl))))) (dss_nil)))) (dss_nil)))) (dss_one (ds_ret (de_bl)))
theorem rd_Pairing_follow (n : Nat) (K : PySem.W.Frag) (c : Cs) (kf : Kf K c) : ∀ ds μ Q, sp_Pairing_follow_n (n + 1) c ds μ Q → w_Pairing_follow n K c { nx := fun _ μ' => ∃ μ2, Sub μ2 μ' ∧ Q .non μ2, rt := Q } (startD N_Pairing_follow ds) μ := by
  rintro ds μ Q ⟨x, pm, p1, p2, p3, V, ab, nx, fr, met, one, kvm, rfl, hx, S, hm, Dm, m1, m2, m3, hV, mn, mV, hn, hone, hab, M, ow, dom, k⟩
  show w_Pairing_follow n K c _ [some (.ref x), some (.int (one : Nat)), some (.ref pm), none] μ
  have ⟨kv1, e1, D1⟩ := S.c1
  have ⟨kv2, e2, D2⟩ := S.c2
  have ⟨kv3, e3, D3⟩ := S.c3
  have x2 : x ≠ p2 := fun q => by rw [q, e2] at hx; cases hx
  have x3 : x ≠ p3 := fun q => by rw [q, e3] at hx; cases hx
  have xm : x ≠ pm := fun q => by rw [q, hm] at hx; cases hx
  have xn : x ∉ [p2, p3, pm] := by simp only [List.mem_cons, List.not_mem_nil, or_false, not_or]; exact ⟨x2, x3, xm⟩
  have p1n : p1 ∉ [p2, p3, pm] := by simp only [List.mem_cons, List.not_mem_nil, or_false, not_or]; exact ⟨S.n12, S.n13, fun q => m1 q.symm⟩
  have h3z : V.length < sizeLine := Nat.lt_of_le_of_lt hV (by decide)
  unfold w_Pairing_follow
  walk_at "dz"
  rw [fld_ref hx, lkp_a]
  refine ⟨kf.o_Pairing_above, ?_⟩
  walk_at "dz"
  rw [ix_refD e1]
  rw [show (keyD (.int (one : Nat))).bind (look kv1) = some (.lst ((ab one).map eNat.enc)) from (D1.lk one).trans (if_pos hone)]
  walk_at "dz"
  refine for_ty (enc := eNat.enc) (fun i ρ μ' => ∃ mi kvi z, FolI ab fr met ((ab one).take i) mi ∧ loopF (folF ab n) nx fr one ((ab one).drop i) mi = folF ab (n + 1) nx fr met one ∧ PairS V ab μ' p1 p2 p3 nx fr ∧ μ' pm = some (.dct kvi) ∧ DM V (mtD mi) kvi ∧ mi.Nodup ∧ (∀ b ∈ mi, b ∈ V) ∧ Kp [p2, p3, pm] μ μ' ∧ ρ = [some (.ref x), some (.int (one : Nat)), some (.ref pm), z])
    ⟨met, kvm, _, by rw [List.take_zero]; exact FolI.start, rfl, S, hm, Dm, mn, mV, Kp.refl, rfl⟩ ?_ ?_
  · rintro i o ρ μ' ho ⟨mi, kvi, z, hF, hL, S', hm', Dm', mn', mV', kp, rfl⟩
    have hoA : o ∈ ab one := (getS ho).2
    have hoV : o ∈ V := hab one o hoA
    have hx' : μ' x = some (.ins c.Pairing (paF V p1 p2 p3)) := kp _ _ xn hx
    rw [drop_get ho, loopF] at hL
    have et : (ab one).take (i + 1) = (ab one).take i ++ [o] := by rw [List.take_add_one, ho]; rfl
    rw [show eNat.enc o = D.int (o : Nat) from rfl]
    walk_at "dz"
    unfold w_Pairing_follow_b1
    walk_at "dz"
    rw [notInD_ref hm', show look kvi (.inl (o : Int)) = mtD mi o from Dm'.lk o, mt_some]
    walk_at "dz"
    by_cases hom : o ∈ mi
    · rw [if_neg (fun q => q hom)]
      rw [if_pos hom] at hL
      exact ⟨mi, kvi, _, by rw [et]; exact hF.skip hom, hL, S', hm', Dm', mn', mV', kp, rfl⟩
    · rw [if_pos hom]
      rw [if_neg hom] at hL
      rw [set_ref hm']
      refine ⟨Nat.lt_of_le_of_lt Dm'.len h3z, ?_⟩
      have Dm2 : DM V (mtD (mi ++ [o])) (putD kvi (.inl (o : Int)) (.bl true)) := by rw [← up_mt]; exact Dm'.put hoV
      generalize putD kvi (.inl (o : Int)) (.bl true) = kvj at Dm2
      generalize hμ2 : setS μ' pm (.dct kvj) = μ2
      have hm2 : μ2 pm = some (.dct kvj) := by rw [← hμ2]; exact setS_same
      have kp2 : Kp [p2, p3, pm] μ μ2 := by rw [← hμ2]; exact kp.set (by simp)
      have S2 : PairS V ab μ2 p1 p2 p3 nx fr := by
        obtain ⟨⟨k1, f1, E1⟩, ⟨k2, f2, E2⟩, ⟨k3, f3, E3⟩, n1, n2, n3⟩ := S'
        rw [← hμ2]
        exact ⟨⟨k1, by rw [setS_ne (fun q => m1 q.symm)]; exact f1, E1⟩, ⟨k2, by rw [setS_ne (fun q => m2 q.symm)]; exact f2, E2⟩, ⟨k3, by rw [setS_ne (fun q => m3 q.symm)]; exact f3, E3⟩, n1, n2, n3⟩
      have mn2 : (mi ++ [o]).Nodup := by
        rw [List.nodup_append]
        refine ⟨mn', by simp, fun a ha b hb e => ?_⟩
        simp only [List.mem_singleton] at hb
        subst e; subst hb; exact hom ha
      have mV2 : ∀ b ∈ mi ++ [o], b ∈ V := fun b hb => by
        rcases List.mem_append.mp hb with h | h
        · exact mV' b h
        · simp only [List.mem_singleton] at h; subst h; exact hoV
      have hx2 : μ2 x = some (.ins c.Pairing (paF V p1 p2 p3)) := kp2 _ _ xn hx
      have ⟨kw1, f1, E1⟩ := S2.c1
      have ⟨kw2, f2, E2⟩ := S2.c2
      have ⟨kw3, f3, E3⟩ := S2.c3
      walk_at "dz"
      rw [fld_ref hx2, lkp_f]
      refine ⟨kf.o_Pairing_from_of, ?_⟩
      walk_at "dz"
      rw [notInD_ref f3, show look kw3 (.inl (o : Int)) = mpD fr o from E3.lk o, mp_some]
      walk_at "dz"
      cases hfo : fr o with
      | none =>
        rw [hfo] at hL
        simp only [Option.isSome_none, Bool.not_false]
        walk_at "dz"
        have hxL : μ2 x = some (.ins c.Pairing (paF V p1 p2 p3)) := kp2 _ _ xn hx
        have ⟨kw1, g1, G1⟩ := S2.c1
        have ⟨kw2, g2, G2⟩ := S2.c2
        have ⟨kw3, g3, G3⟩ := S2.c3
        rw [fld_ref hxL, lkp_n]
        refine ⟨kf.o_Pairing_next_of, ?_⟩
        walk_at "dz"
        rw [set_ref g2]
        refine ⟨Nat.lt_of_le_of_lt G2.len h3z, ?_⟩
        rw [fld_ref (by rw [setS_ne x2]; exact hxL), lkp_f]
        refine ⟨kf.o_Pairing_from_of, ?_⟩
        walk_at "dz"
        rw [set_ref (by rw [setS_ne (fun q => S.n23 q.symm)]; exact g3)]
        refine ⟨Nat.lt_of_le_of_lt G3.len h3z, ?_⟩
        have G2' : DM V (mpD (upM nx one o)) (putD kw2 (.inl (one : Int)) (.int (o : Nat))) := by rw [← up_mp]; exact G2.put hone
        have G3' : DM V (mpD (upM fr o one)) (putD kw3 (.inl (o : Int)) (.int (one : Nat))) := by rw [← up_mp]; exact G3.put hoV
        refine ret_eq (k true (upM nx one o) (upM fr o one) (mi ++ [o]) _ kvj hL.symm (hF.free M ow hoA hom hfo) ⟨⟨kw1, by rw [setS_ne S.n13, setS_ne S.n12]; exact g1, G1⟩, ⟨_, by rw [setS_ne S.n23]; exact setS_same, G2'⟩, ⟨_, setS_same, G3'⟩, S.n12, S.n13, S.n23⟩
          (by rw [setS_ne m3, setS_ne m2]; exact hm2) Dm2 mn2 mV2 (fun a b q => ?_) ((kp2.set (p := p2) (by simp)).set (p := p3) (by simp)))
        by_cases qa : a = one
        · subst qa; exact hone
        · rw [upM_ne qa] at q; exact dom a b q
      | some a1 =>
        rw [hfo] at hL
        dsimp only at hL
        simp only [Option.isSome_some, Bool.not_true]
        walk_at "dz"
        rw [mth_ref hx2]
        refine ⟨rfl, lkp_follow, ?_⟩
        rw [fld_ref hx2, lkp_f]
        refine ⟨kf.o_Pairing_from_of, ?_⟩
        walk_at "dz"
        rw [ix_refD f3, show (keyD (.int (o : Nat))).bind (look kw3) = mpD fr o from E3.lk o]
        rw [show mpD fr o = some (.int (a1 : Nat)) by unfold mpD; rw [hfo]; rfl]
        walk_at "dz"
        have ha1 : nx a1 = some o := M.bw a1 o hfo
        have hgl := nodup_len mn fun b hb => hF.grow b hb
        refine ⟨x, pm, p1, p2, p3, V, ab, nx, fr, mi ++ [o], a1, kvj, rfl, hx2, S2, hm2, Dm2, m1, m2, m3, hV, mn2, mV2, by rw [List.length_append, List.length_singleton]; omega, dom a1 o ha1, hab, M, fun b hb => ?_, dom, ?_⟩
        · rw [ha1] at hb
          cases hb
          exact List.mem_append_right _ (by simp)
        · intro res nx3 fr3 m3' μ3 kv3m hR f S3 hm3 Dm3 mn3 mV3 dom3 kp3'
          rw [hR] at hL
          have kp3 : Kp [p2, p3, pm] μ μ3 := kp2.trans kp3'
          cases res with
          | true =>
            walk_at "dz"
            have hxL : μ3 x = some (.ins c.Pairing (paF V p1 p2 p3)) := kp3 _ _ xn hx
            have ⟨kw1, g1, G1⟩ := S3.c1
            have ⟨kw2, g2, G2⟩ := S3.c2
            have ⟨kw3, g3, G3⟩ := S3.c3
            rw [fld_ref hxL, lkp_n]
            refine ⟨kf.o_Pairing_next_of, ?_⟩
            walk_at "dz"
            rw [set_ref g2]
            refine ⟨Nat.lt_of_le_of_lt G2.len h3z, ?_⟩
            rw [fld_ref (by rw [setS_ne x2]; exact hxL), lkp_f]
            refine ⟨kf.o_Pairing_from_of, ?_⟩
            walk_at "dz"
            rw [set_ref (by rw [setS_ne (fun q => S.n23 q.symm)]; exact g3)]
            refine ⟨Nat.lt_of_le_of_lt G3.len h3z, ?_⟩
            have G2' : DM V (mpD (upM nx3 one o)) (putD kw2 (.inl (one : Int)) (.int (o : Nat))) := by rw [← up_mp]; exact G2.put hone
            have G3' : DM V (mpD (upM fr3 o one)) (putD kw3 (.inl (o : Int)) (.int (one : Nat))) := by rw [← up_mp]; exact G3.put hoV
            refine ret_eq (k true (upM nx3 one o) (upM fr3 o one) m3' _ kv3m hL.symm (hF.led M ow hoA hom hfo f) ⟨⟨kw1, by rw [setS_ne S.n13, setS_ne S.n12]; exact g1, G1⟩, ⟨_, by rw [setS_ne S.n23]; exact setS_same, G2'⟩, ⟨_, setS_same, G3'⟩, S.n12, S.n13, S.n23⟩
              (by rw [setS_ne m3, setS_ne m2]; exact hm3) Dm3 mn3 mV3 (fun a b q => ?_) ((kp3.set (p := p2) (by simp)).set (p := p3) (by simp)))
            by_cases qa : a = one
            · subst qa; exact hone
            · rw [upM_ne qa] at q; exact dom3 a b q
          | false =>
            walk_at "dz"
            obtain ⟨rfl, rfl, _, _⟩ := f.fail rfl
            exact ⟨m3', kv3m, _, by rw [et]; exact hF.lost hfo f, hL, S3, hm3, Dm3, mn3, mV3, kp3, rfl⟩
  · rintro ρ μ' ⟨mi, kvi, z, hF, hL, S', hm', Dm', mn', mV', kp, rfl⟩
    rw [List.take_length] at hF
    rw [List.drop_length] at hL
    walk_at "dz"
    exact ret_eq (k false nx fr mi μ' kvi hL.symm hF.done S' hm' Dm' mn' mV' dom kp)
theorem metn_Pairing_follow (T : Txt K mg c) : ∀ n, DMet P w K mg base (1 + n) c.Pairing "follow" (sp_Pairing_follow_n n c) []
  | 0 => T.f_Pairing_follow.met0 (k := 0) T.k_Pairing.cl sc_Pairing_follow (no_Pairing_follow c) (fun F => F.binds0 (ps := ["self", "one", "met"]) fun _ _ _ _ _ _ us hl => match us, hl with | [_, _, _], _ => rfl)
  | n + 1 => T.f_Pairing_follow.met (k := 1 + n) T.k_Pairing.cl sc_Pairing_follow (len_Pairing_follow (n + 1) c) (fun cdv A outer s H E hr => dv_Pairing_follow T n (metn_Pairing_follow T n) cdv A outer s H E hr) (rd_Pairing_follow n K c T.kf) (fun F => F.binds0 (ps := ["self", "one", "met"]) fun _ _ _ _ _ _ us hl => match us, hl with | [_, _, _], _ => rfl) (dvs := []) .nil (fun _ => .nil)
theorem met_Pairing_follow_3 (T : Txt K mg c) : DMet P w K mg base 19 c.Pairing "follow" (sp_Pairing_follow c) [] := metn_Pairing_follow T 18
end
noncomputable def sp_Pairing_xinit (c : Cs) : DSp := fun ds μ Q => ∃ (x : Addr) (es : List Ent), ds = [.ref x, bkD c.Book es] ∧ Good es ∧ es.length ≤ 16 ∧ μ x = some (.ins c.Pairing []) ∧
  ∀ p1 p2 p3 μ', PairS (nmV es) (abE es) μ' p1 p2 p3 (pairF es).1 (pairF es).2 → Prg (abE es) (pairF es).1 (pairF es).2 (nmV es) → μ' x = some (.ins c.Pairing (paF (nmV es) p1 p2 p3)) → Kp [x] μ μ' → Q .non μ'
theorem len_Pairing_xinit (c : Cs) : ∀ ds μ Q, sp_Pairing_xinit c ds μ Q → ds.length = 2 := by
  rintro ds μ Q ⟨x, es, rfl, _⟩
  rfl
noncomputable def w_Pairing_xinit_b1 (K : PySem.W.Frag) (c : Cs) : WS := wDrop (wMeth c.Pairing "follow" (sp_Pairing_follow c) [] (wVar 0) (wACons (wVar 2) (wACons (wDctM) (wANil))))
noncomputable def w_Pairing_xinit_t1 (K : PySem.W.Frag) (c : Cs) : WS := wSeq (wSetF K "next_of" (wVar 0) (wDctM)) (wSeq (wSetF K "from_of" (wVar 0) (wDctM)) (wFor (wiSeq (wFld K "sums" (wVar 0))) (wgName 2) (w_Pairing_xinit_b1 K c)))
noncomputable def w_Pairing_xinit_b2 (K : PySem.W.Frag) (c : Cs) : WS := wAsg (wLc (wiSeq (wFld K "sums" (wVar 0))) (wgName 3) (wTrv (wCall (sp_lies_within c) [] (wACons (wVar 1) (wACons (wVar 2) (wACons (wVar 3) (wANil)))))) (wVar 3) [3]) (wgSub oSet (wFld K "above" (wVar 0)) (wVar 2))
noncomputable def w_Pairing_xinit (K : PySem.W.Frag) (c : Cs) : WS := wSeq (wSetF K "sums" (wVar 0) (wCall (sp_sums_of c) [] (wACons (wVar 1) (wANil)))) (wSeq (wSetF K "above" (wVar 0) (wDctM)) (wSeq (wFor (wiSeq (wFld K "sums" (wVar 0))) (wgName 2) (w_Pairing_xinit_b2 K c)) (w_Pairing_xinit_t1 K c)))
section
variable {P : Program} {w : World} {K : PySem.W.Frag} {mg : Str → Option Value} {base : Heap} {c : Cs}
theorem dv_Pairing_xinit (T : Txt K mg c) {f : Addr} (cdv : Value) (A : Around) (outer : List PySem.Env) (s : Shared) (H : Hp) (E : XK) (hr : Room 19 (A.deeper (PyProof.Rows.envOfC "Pairing.__init__" (defScope s_Pairing_xinit) s.heap.objs.size f cdv))) : DSs (cxOf CX0 P w K mg base N_Pairing_xinit "Pairing.__init__" (defScope s_Pairing_xinit) f cdv A outer s H E).nox (defBody s_Pairing_xinit) (w_Pairing_xinit K c) := by
  have ND := sc_Pairing_xinit.nd
  have hu := hu_of hr
  have hu64 := hr.units
  have hu65 := units65 hr
  exact dss_cons (ds_fld (de_var (pv 0)) (de_cal (cal_sums_of T) hr (by decide) rfl (da_cons (de_var (pv 1)) (da_nil)))) (dss_cons (ds_fld (de_var (pv 0)) (de_dctM)) (dss_cons (ds_for PassesOwn.never rfl (di_seq (de_fld (de_var (pv 0)) rfl)) (dg_pat (vs := [2]) (g := gName 2) (pg_name (i := 2) ND rfl (by first | exact Or.inl rfl | exact Or.inr rfl)) (gp_name (by decide))) (dss_one (ds_asg (de_lc (own := [("other", 3)]) (g := gName 3) rfl ND (di_seq (de_fld (de_var (pv 0)) rfl)) (blkOk_by (own := [("other", 3)]) (N := N_Pairing_xinit) (sc := defScope s_Pairing_xinit) (by decide +kernel)) (gp_name (by decide)) (fun _ _ _ _ _ => pg_name (i := 3) ND rfl (by first | exact Or.inl rfl | exact Or.inr rfl)) (fun _ _ _ _ _ => dts_one (dt_tru (de_cal (cal_lies_within T) hr (by decide) rfl (da_cons (de_var (pv 1)) (da_cons (de_var (pv 2)) (da_cons (de_var (pv 3)) (da_nil))))) (fun _ => rfl))) (fun _ _ _ _ _ => de_var (pv 3))) (dg_sub (os_set hu) (de_fld (de_var (pv 0)) rfl) (de_var (pv 2)))))) (dss_cons (ds_fld (de_var (pv 0)) (de_dctM)) (dss_cons (ds_fld (de_var (pv 0)) (de_dctM)) (dss_one (ds_for PassesOwn.never rfl (di_seq (de_fld (de_var (pv 0)) rfl)) (dg_pat (vs := [2]) (g := gName 2) (pg_name (i := 2) ND rfl (by first | exact Or.inl rfl | exact Or.inr rfl)) (gp_name (by decide))) (dss_one (ds_expr (de_met (met_Pairing_follow_3 T) hr (by decide) (de_var (pv 0)) (da_cons (de_var (pv 2)) (da_cons (de_dctM) (da_nil))))))))))))
theorem rd_Pairing_xinit (K : PySem.W.Frag) (c : Cs) (kf : Kf K c) : ∀ ds μ Q, sp_Pairing_xinit c ds μ Q → w_Pairing_xinit K c { nx := fun _ μ' => ∃ μ2, Sub μ2 μ' ∧ Q .non μ2, rt := Q } (startD N_Pairing_xinit ds) μ := by
  rintro ds μ Q ⟨x, es, rfl, ok, h16, hx, k⟩
  show w_Pairing_xinit K c _ [some (.ref x), some (bkD c.Book es), none, none] μ
  unfold w_Pairing_xinit
  walk_at "dz"
  refine ⟨es, rfl, ok, ?_⟩
  rw [nm_enc2]
  walk_at "dz"
  rw [stf_ref hx]
  refine ⟨kf.o_Pairing_sums, Nat.le_of_ble_eq_true rfl, ?_⟩
  rw [show put ([] : List (Str × D)) "sums" (.lst ((nmV es).map eNat.enc)) = (pf1 (nmV es)) from rfl]
  generalize hμ1 : setS μ x (.ins c.Pairing (pf1 (nmV es))) = μ1
  have kp1 : Kp [x] μ μ1 := by rw [← hμ1]; exact Kp.refl.set (by simp)
  have hx1 : μ1 x = some (.ins c.Pairing (pf1 (nmV es))) := by rw [← hμ1]; exact setS_same
  clear hμ1
  intro p1 hp1
  have x1 : x ≠ p1 := fun q => by rw [q, hp1] at hx1; cases hx1
  rw [stf_ref (by rw [setS_ne x1]; exact hx1)]
  refine ⟨kf.o_Pairing_above, Nat.le_of_ble_eq_true rfl, ?_⟩
  rw [show put (pf1 (nmV es)) "above" (.ref p1) = (pf2 (nmV es) p1) from rfl]
  generalize hμ2 : setS (setS μ1 p1 (.dct [])) x (.ins c.Pairing (pf2 (nmV es) p1)) = μ2
  have kp2 : Kp [x] μ μ2 := by rw [← hμ2]; exact (kp1.new hp1).set (by simp)
  have n1 : μ p1 = none := kp1.nn (by simpa using x1.symm) hp1
  have hx2 : μ2 x = some (.ins c.Pairing (pf2 (nmV es) p1)) := by rw [← hμ2]; exact setS_same
  have e1 : μ2 p1 = some (.dct []) := by rw [← hμ2, setS_ne x1.symm]; exact setS_same
  clear hμ2
  have hV16 := len17 h16
  have h3z : (nmV es).length < sizeLine := Nat.lt_of_le_of_lt hV16 (by decide)
  rw [fld_ref hx2, show look (pf2 (nmV es) p1) "sums" = some (.lst ((nmV es).map eNat.enc)) from rfl]
  refine ⟨kf.o_Pairing_sums, ?_⟩
  walk_at "dz"
  rw [← nm_enc2]
  refine for_ty (enc := fun e : Ent => D.int (e.1 : Nat)) (fun i ρ μ' => ∃ kv z w, μ' p1 = some (.dct kv) ∧ DM (nmV es) (abD ((nmV es).take i) (abE es)) kv ∧ Kp [x] μ μ' ∧ μ' x = some (.ins c.Pairing (pf2 (nmV es) p1)) ∧ ρ = [some (.ref x), some (bkD c.Book es), z, w])
    ⟨[], _, _, e1, by rw [List.take_zero, ab_nil]; exact DM.nil, kp2, hx2, rfl⟩ ?_ ?_
  · rintro i e ρ μ' he ⟨kv, z, w, hq1, hD, kp, hx', rfl⟩
    have heS := (getS he).2
    walk_at "dz"
    unfold w_Pairing_xinit_b2
    walk_at "dz"
    rw [fld_ref hx', show look (pf2 (nmV es) p1) "sums" = some (.lst ((nmV es).map eNat.enc)) from rfl]
    refine ⟨kf.o_Pairing_sums, ?_⟩
    walk_at "dz"
    rw [← nm_enc2]
    refine lc_ty (enc := fun e : Ent => D.int (e.1 : Nat)) (fun y => if lwB e y = true then some (D.int (y.1 : Nat)) else none) (by unfold nmV at h3z; rw [List.length_map] at h3z; omega) ?_ ?_
    · intro j y μ3 R R' hy _ hR hR'
      walk_at "dz"
      refine ⟨es, e, y, rfl, ok, heS, (getS hy).2, ?_⟩
      walk_at "dz"
      cases hl : lwB e y with
      | true => rw [if_pos rfl]; exact hR _ (by rw [if_pos hl])
      | false => rw [if_neg Bool.false_ne_true]; exact hR' (by rw [hl]; rfl)
    · intro L hL
      rw [delS_setS hL, fm_if]
      walk_at "dz"
      rw [fld_ref hx', show look (pf2 (nmV es) p1) "above" = some (.ref p1) from rfl]
      refine ⟨kf.o_Pairing_above, ?_⟩
      walk_at "dz"
      rw [set_ref hq1]
      refine ⟨Nat.lt_of_le_of_lt hD.len h3z, putD kv (.inl (e.1 : Int)) (.lst ((es.filter fun y => lwB e y).map fun y => D.int (y.1 : Nat))), _, _, setS_same, ?_, ?_, ?_, rfl⟩
      · have e2 : (es.filter fun y => lwB e y).map (fun y => D.int (y.1 : Nat)) = (abE es e.1).map eNat.enc := by rw [abE_at ok.nn heS, List.map_map]; rfl
        have e3 : (nmV es).take (i + 1) = (nmV es).take i ++ [e.1] := by
          rw [List.take_add_one]
          unfold nmV
          rw [List.getElem?_map, he]; rfl
        rw [e2, e3, ← up_ab]
        exact hD.put (List.mem_map.mpr ⟨e, heS, rfl⟩)
      · exact kp.also (ys := [p1]) (Kp.refl.set (by simp)) (fun y hy => by simp only [List.mem_singleton] at hy; subst hy; exact .inr n1)
      · rw [setS_ne x1]; exact hx'
  · rintro ρ μ' ⟨kv, z, w, hq1, hD, kp, hx', rfl⟩
    rw [show es.length = (nmV es).length by unfold nmV; rw [List.length_map], List.take_length] at hD
    unfold w_Pairing_xinit_t1
    walk_at "dz"
    intro p2 hp2
    have n2 : μ p2 = none := kp.nn (by intro q; simp only [List.mem_singleton] at q; rw [q, hx'] at hp2; cases hp2) hp2
    have x2 : x ≠ p2 := fun q => by rw [q, hp2] at hx'; cases hx'
    have p12 : p1 ≠ p2 := fun q => by rw [q, hp2] at hq1; cases hq1
    rw [stf_ref (by rw [setS_ne x2]; exact hx')]
    refine ⟨kf.o_Pairing_next_of, Nat.le_of_ble_eq_true rfl, ?_⟩
    rw [show put (pf2 (nmV es) p1) "next_of" (.ref p2) = (pf3 (nmV es) p1 p2) from rfl]
    intro p3 hp3
    have x3 : x ≠ p3 := fun q => by rw [q, setS_same] at hp3; cases hp3
    have p23 : p2 ≠ p3 := fun q => by rw [← q, setS_ne x2.symm, setS_same] at hp3; cases hp3
    have p13 : p1 ≠ p3 := fun q => by rw [← q, setS_ne x1.symm, setS_ne p12, hq1] at hp3; cases hp3
    have n3 : μ p3 = none := kp.nn (by simpa using x3.symm) (by rw [setS_ne x3.symm, setS_ne p23.symm] at hp3; exact hp3)
    rw [stf_ref (by rw [setS_ne x3]; exact setS_same)]
    refine ⟨kf.o_Pairing_from_of, Nat.le_of_ble_eq_true rfl, ?_⟩
    rw [show put (pf3 (nmV es) p1 p2) "from_of" (.ref p3) = paF (nmV es) p1 p2 p3 from rfl]
    generalize hμ4 : setS (setS (setS (setS μ' p2 (.dct [])) x (.ins c.Pairing (pf3 (nmV es) p1 p2))) p3 (.dct [])) x (.ins c.Pairing (paF (nmV es) p1 p2 p3)) = μ4
    have hx4 : μ4 x = some (.ins c.Pairing (paF (nmV es) p1 p2 p3)) := by rw [← hμ4]; exact setS_same
    have g1 : μ4 p1 = some (.dct kv) := by rw [← hμ4, setS_ne x1.symm, setS_ne p13, setS_ne x1.symm, setS_ne p12]; exact hq1
    have g2 : μ4 p2 = some (.dct []) := by rw [← hμ4, setS_ne x2.symm, setS_ne p23, setS_ne x2.symm]; exact setS_same
    have g3 : μ4 p3 = some (.dct []) := by rw [← hμ4, setS_ne x3.symm]; exact setS_same
    have kp4 : Kp [x] μ μ4 := by rw [← hμ4]; exact (((kp.new hp2).set (by simp)).new hp3).set (by simp)
    clear hμ4
    rw [fld_ref hx4, lkp_s]
    refine ⟨kf.o_Pairing_sums, ?_⟩
    walk_at "dz"
    refine for_ty (enc := eNat.enc) (fun i ρ μ' => ∃ st z w, ((nmV es).take i).foldl (pairStep es) (fun _ => none, fun _ => none) = st ∧ Prg (abE es) st.1 st.2 ((nmV es).take i) ∧ PairS (nmV es) (abE es) μ' p1 p2 p3 st.1 st.2 ∧ Kp [x] μ μ' ∧ μ' x = some (.ins c.Pairing (paF (nmV es) p1 p2 p3)) ∧ ρ = [some (.ref x), some (bkD c.Book es), z, w])
      ⟨_, _, _, rfl, by rw [List.take_zero]; exact Prg.start, ⟨⟨kv, g1, hD⟩, ⟨[], g2, DM.nil⟩, ⟨[], g3, DM.nil⟩, p12, p13, p23⟩, kp4, hx4, rfl⟩ ?_ ?_
    · rintro i one ρ μ5 ho ⟨st, z, w, hst, hP, hS, kp5, hx5, rfl⟩
      have hoV := (getS ho).2
      have et : (nmV es).take (i + 1) = (nmV es).take i ++ [one] := by rw [List.take_add_one, ho]; rfl
      have hnt : one ∉ (nmV es).take i := by
        have hnd : ((nmV es).take (i + 1)).Nodup := ok.nn.sublist (List.take_sublist _ _)
        rw [et, List.nodup_append] at hnd
        exact fun q => hnd.2.2 one q one (by simp) rfl
      have h0 := hP.none hnt
      rw [show eNat.enc one = D.int (one : Nat) from rfl]
      walk_at "dz"
      unfold w_Pairing_xinit_b1
      walk_at "dz"
      rw [mth_ref hx5]
      refine ⟨rfl, lkp_follow, fun pm hpm => ?_⟩
      have ⟨kw1, f1, E1⟩ := hS.c1
      have ⟨kw2, f2, E2⟩ := hS.c2
      have ⟨kw3, f3, E3⟩ := hS.c3
      have m1 : pm ≠ p1 := fun q => by rw [← q, hpm] at f1; cases f1
      have m2 : pm ≠ p2 := fun q => by rw [← q, hpm] at f2; cases f2
      have m3 : pm ≠ p3 := fun q => by rw [← q, hpm] at f3; cases f3
      have xm : x ≠ pm := fun q => by rw [q, hpm] at hx5; cases hx5
      have dV : ∀ a b, st.1 a = some b → a ∈ nmV es := fun a b q => (List.take_sublist _ _).subset (hP.dom a (by rw [q]; rfl))
      refine ⟨x, pm, p1, p2, p3, nmV es, abE es, st.1, st.2, [], one, [], rfl, by rw [setS_ne xm]; exact hx5,
        ⟨⟨kw1, by rw [setS_ne m1.symm]; exact f1, E1⟩, ⟨kw2, by rw [setS_ne m2.symm]; exact f2, E2⟩, ⟨kw3, by rw [setS_ne m3.symm]; exact f3, E3⟩, hS.n12, hS.n13, hS.n23⟩,
        setS_same, by rw [mt_nil]; exact DM.nil, m1, m2, m3, by omega, List.nodup_nil, (fun _ h => nomatch h), by rw [List.length_nil]; omega, hoV, (fun a b h => abE_V h), hP.mat, (fun b q => by rw [h0] at q; cases q), dV, ?_⟩
      intro res nx' fr' met' μ6 kvm' hr hF S6 hm6 Dm6 mn6 mV6 dom6 kp6
      walk_at "dz"
      have kpm : Kp [x] μ (setS μ5 pm (.dct [])) := kp5.new hpm
      have nm : μ pm = none := kp5.nn (by simpa using xm.symm) hpm
      refine ⟨(nx', fr'), _, _, ?_, ?_, S6, kpm.also kp6 ?_, kp6 x _ ?_ (by rw [setS_ne xm]; exact hx5), rfl⟩
      · rw [et, List.foldl_append, hst]
        show pairStep es st one = _
        unfold pairStep
        rw [hr]
      · rw [et]; exact hP.step hnt hF
      · intro y hy
        simp only [List.mem_cons, List.not_mem_nil, or_false] at hy
        rcases hy with rfl | rfl | rfl
        · exact .inr n2
        · exact .inr n3
        · exact .inr nm
      · simp only [List.mem_cons, List.not_mem_nil, or_false, not_or]; exact ⟨x2, x3, xm⟩
    · rintro ρ μ5 ⟨st, z, w, hst, hP, hS, kp5, hx5, rfl⟩
      rw [List.take_length] at hst hP
      have e : pairF es = st := hst
      subst e
      exact end_eq (k p1 p2 p3 μ5 hS hP hx5 kp5)
theorem mak_Pairing_xinit_2 (T : Txt K mg c) : DMak P w K mg base 20 "Pairing" c.Pairing (sp_Pairing_xinit c) [] := by
  have D := T.f_Pairing_xinit
  exact D.mak T.k_Pairing sc_Pairing_xinit (len_Pairing_xinit c) (fun cdv A outer s H E hr => dv_Pairing_xinit T cdv A outer s H E hr) (rd_Pairing_xinit K c T.kf) (fun F => F.binds0 (ps := ["self", "book"]) fun _ _ _ _ _ _ us hl => match us, hl with | [_, _], _ => rfl) (dvs := []) (.nil) (fun _ => .nil)
end
noncomputable def sp_Pairing_apart (c : Cs) : DSp := fun ds μ Q => ∃ (es : List Ent) (p1 p2 p3 : Addr), ds = [.obj c.Pairing (paF (nmV es) p1 p2 p3)] ∧ Good es ∧ es.length ≤ 16 ∧ PairS (nmV es) (abE es) μ p1 p2 p3 (pairF es).1 (pairF es).2 ∧ Prg (abE es) (pairF es).1 (pairF es).2 (nmV es) ∧ Q (.tup ((apE es).map eNat.enc)) μ
theorem len_Pairing_apart (c : Cs) : ∀ ds μ Q, sp_Pairing_apart c ds μ Q → ds.length = 1 := by
  rintro ds μ Q ⟨es, p1, p2, p3, rfl, _⟩
  rfl
noncomputable def w_Pairing_apart_t1 (K : PySem.W.Frag) (c : Cs) : WS := wRet (wCB oTuple (wACons (wLc (wiSeq (wFld K "sums" (wVar 0))) (wgName 4) (wAnd (wB (wOp oInD (wVar 4) (wVar 2))) (wB (wOp oNotInD (wVar 4) (wVar 3)))) (wVar 4) [4]) (wANil)))
noncomputable def w_Pairing_apart_b1 (K : PySem.W.Frag) (c : Cs) : WS := wSeq (wAsg (wC (.bl true)) (wgSub oSet (wVar 3) (wVar 5))) (wDrop (wBM "list" oAppend (wVar 1) (wACons (wIx (wFld K "from_of" (wVar 0)) (wVar 5)) (wANil))))
noncomputable def w_Pairing_apart_b2 (K : PySem.W.Frag) (c : Cs) : WS := wSeq (wAsg (wBM "list" oPop (wVar 1) wANil) (wgName 4)) (wIfS (wB (wOp oNotInD (wVar 4) (wVar 2))) (wSeq (wAsg (wC (.bl true)) (wgSub oSet (wVar 2) (wVar 4))) (wFor (wiSeq (wIx (wFld K "above" (wVar 0)) (wVar 4))) (wgName 5) (w_Pairing_apart_b1 K c))) (wNext))
noncomputable def w_Pairing_apart (K : PySem.W.Frag) (c : Cs) : WS := wSeq (wAsg (wTup (wACons (wDctM) (wACons (wDctM) (wANil)))) (wgTup 2 (wgCons (wgName 2) (wgCons (wgName 3) (wgNil))))) (wSeq (wAsg (wLcM (wiSeq (wFld K "sums" (wVar 0))) (wgName 4) (wB (wOp oNotInD (wVar 4) (wFld K "next_of" (wVar 0)))) (wVar 4) [4]) (wgName 1)) (wSeq (wWhile (wB (wOp oGt (wCB oLen (wACons (wVar 1) (wANil))) (wC (.int 0)))) (w_Pairing_apart_b2 K c)) (w_Pairing_apart_t1 K c)))
section
variable {P : Program} {w : World} {K : PySem.W.Frag} {mg : Str → Option Value} {base : Heap} {c : Cs}
theorem dv_Pairing_apart (T : Txt K mg c) {f : Addr} (cdv : Value) (A : Around) (outer : List PySem.Env) (s : Shared) (H : Hp) (E : XK) (hr : Room 0 (A.deeper (PyProof.Rows.envOfC "Pairing.apart" (defScope s_Pairing_apart) s.heap.objs.size f cdv))) : DSs (cxOf CX0 P w K mg base N_Pairing_apart "Pairing.apart" (defScope s_Pairing_apart) f cdv A outer s H E).nox (defBody s_Pairing_apart) (w_Pairing_apart K c) := by
  have ND := sc_Pairing_apart.nd
  have hu := hu_of hr
  have hu64 := hr.units
  have hu65 := units65 hr
  exact dss_cons (ds_asg (de_tup (da_cons (de_dctM) (da_cons (de_dctM) (da_nil)))) (dg_pat (vs := [2, 3]) (g := gTup K 2 (gCons (gName 2) (gCons (gName 3) (gNil)))) (pg_tup rfl (pgs_cons (pg_name (i := 2) ND rfl (by first | exact Or.inl rfl | exact Or.inr rfl)) (pgs_cons (pg_name (i := 3) ND rfl (by first | exact Or.inl rfl | exact Or.inr rfl)) (pgs_nil)))) (gp_tup (gp_cons (gp_name (by decide)) (gp_cons (gp_name (by decide)) (gp_nil)))))) (dss_cons (ds_setLcM (i := 1) (own := [("one", 4)]) (g := gName 4) rfl ND rfl rfl (sw_true rfl rfl rfl (by decide +kernel)) (di_seq (de_fld (de_var (pv 0)) rfl)) (blkOk_by (own := [("one", 4)]) (N := N_Pairing_apart) (sc := defScope s_Pairing_apart) (by decide +kernel)) (gp_name (by decide)) (fun _ _ _ _ _ => pg_name (i := 4) ND rfl (by first | exact Or.inl rfl | exact Or.inr rfl)) (fun _ _ _ _ _ => dts_one (dt_cmp (os_notInD hu) (de_var (pv 4)) (de_fld (de_var (pv 0)) rfl) (by rfl))) (fun _ _ _ _ _ => de_var (pv 4))) (dss_cons (ds_while PassesOwn.never (dt_cmp os_gt (de_callB cs_len rfl T.b_len (by decide +kernel) (da_cons (de_var (pv 1)) (da_nil))) (de_int) (nomark _)) (dss_cons (ds_set (i := 4) ND rfl (Or.inl rfl) (de_bm0 bm_pop (de_var (pv 1)))) (dss_one (ds_if (dt_cmp (os_notInD hu) (de_var (pv 4)) (de_var (pv 2)) (by rfl)) (dss_cons (ds_asg (de_bl) (dg_sub (os_set hu) (de_var (pv 2)) (de_var (pv 4)))) (dss_one (ds_for PassesOwn.never rfl (di_seq (de_ix hu (de_fld (de_var (pv 0)) rfl) (de_var (pv 4)) (fun _ _ => rfl))) (dg_pat (vs := [5]) (g := gName 5) (pg_name (i := 5) ND rfl (by first | exact Or.inl rfl | exact Or.inr rfl)) (gp_name (by decide))) (dss_cons (ds_asg (de_bl) (dg_sub (os_set hu) (de_var (pv 3)) (de_var (pv 5)))) (dss_one (ds_expr (de_bm bm_append (de_var (pv 1)) (da_cons (de_ix hu (de_fld (de_var (pv 0)) rfl) (de_var (pv 5)) (fun _ _ => rfl)) (da_nil))))))))) (dss_nil))))) (dss_one (ds_ret (de_callTy cs_tuple rfl T.b_tuple (by decide +kernel) (da_cons (de_lc (own := [("one", 4)]) (g := gName 4) rfl ND (di_seq (de_fld (de_var (pv 0)) rfl)) (blkOk_by (own := [("one", 4)]) (N := N_Pairing_apart) (sc := defScope s_Pairing_apart) (by decide +kernel)) (gp_name (by decide)) (fun _ _ _ _ _ => pg_name (i := 4) ND rfl (by first | exact Or.inl rfl | exact Or.inr rfl)) (fun _ _ _ _ _ => dts_one (dt_w (dw_and (dt_cmp (os_inD hu) (de_var (pv 4)) (de_var (pv 2)) (by rfl)) (dw_and1 (dt_cmp (os_notInD hu) (de_var (pv 4)) (de_var (pv 3)) (by rfl)))))) (fun _ _ _ _ _ => de_var (pv 4))) (da_nil)))))))
theorem rd_Pairing_apart (K : PySem.W.Frag) (c : Cs) (kf : Kf K c) : ∀ ds μ Q, sp_Pairing_apart c ds μ Q → w_Pairing_apart K c { nx := fun _ μ' => ∃ μ2, Sub μ2 μ' ∧ Q .non μ2, rt := Q } (startD N_Pairing_apart ds) μ := by
  rintro ds μ Q ⟨es, p1, p2, p3, rfl, ok, h16, S, Pr, k⟩
  show w_Pairing_apart K c _ [some (.obj c.Pairing (paF (nmV es) p1 p2 p3)), none, none, none, none, none] μ
  have hV16 := len17 h16
  have h3z : (nmV es).length < sizeLine := Nat.lt_of_le_of_lt hV16 (by decide)
  unfold w_Pairing_apart
  walk_at "dz"
  intro pf hpf pb hpb
  refine ⟨le_line (Nat.le_of_ble_eq_true rfl), rfl, ?_⟩
  unfold apE apR at k
  generalize hRR : apLoop (abE es) (pairF es).2 700 (unM (pairF es).1 (nmV es)) [] [] = RR at k
  generalize (pairF es).1 = nx at S Pr hRR
  generalize (pairF es).2 = fr at S Pr hRR
  have hfb : pf ≠ pb := fun q => by rw [← q, setS_same] at hpb; cases hpb
  obtain ⟨f1, f2, f3⟩ := S.nne hpf
  have hpb0 : μ pb = none := by rw [setS_ne hfb.symm] at hpb; exact hpb
  obtain ⟨b1, b2, b3⟩ := S.nne hpb0
  have S1 : PairS (nmV es) (abE es) (setS (setS μ pf (.dct [])) pb (.dct [])) p1 p2 p3 nx fr := (S.set f1 f2 f3).set b1 b2 b3
  have hf1 : (setS (setS μ pf (.dct [])) pb (.dct [])) pf = some (.dct []) := by rw [setS_ne hfb]; exact setS_same
  have hb1 : (setS (setS μ pf (.dct [])) pb (.dct [])) pb = some (.dct []) := setS_same
  have kp1 : Kp [] μ (setS (setS μ pf (.dct [])) pb (.dct [])) := (Kp.refl.new hpf).new hpb
  generalize (setS (setS μ pf (.dct [])) pb (.dct [])) = μ1 at S1 hf1 hb1 kp1 ⊢
  rw [lkp_s]
  refine ⟨kf.o_Pairing_sums, ?_⟩
  walk_at "dz"
  have ⟨kw1, q1, E1⟩ := S1.c1
  have ⟨kw2, q2, E2⟩ := S1.c2
  have ⟨kw3, q3, E3⟩ := S1.c3
  refine lc_ty (enc := eNat.enc) (fun a => if (!(nx a).isSome) = true then some (eNat.enc a) else none) (Nat.le_of_lt h3z) ?_ ?_
  · intro i a μ' R R' ha sb hR hR'
    rw [show eNat.enc a = D.int (a : Nat) from rfl]
    walk_at "dz"
    rw [lkp_n]
    refine ⟨kf.o_Pairing_next_of, ?_⟩
    walk_at "dz"
    rw [notInD_ref (sb _ _ q2), show look kw2 (.inl (a : Int)) = mpD nx a from E2.lk a, mp_some]
    walk_at "dz"
    cases hn : nx a with
    | none =>
      simp only [Option.isSome_none, Bool.not_false, if_true]
      exact hR _ (by rw [hn]; rfl)
    | some b =>
      simp only [Option.isSome_some, Bool.not_true, Bool.false_eq_true, if_false]
      exact hR' (by rw [hn]; rfl)
  · intro pw hpw
    rw [fm_if, show (nmV es).filter (fun a => !(nx a).isSome) = unM nx (nmV es) from rfl]
    obtain ⟨w1, w2, w3⟩ := S1.nne hpw
    have hfw : pf ≠ pw := fun q => by rw [q, hpw] at hf1; cases hf1
    have hbw : pb ≠ pw := fun q => by rw [q, hpw] at hb1; cases hb1
    refine ⟨fun m ρ μ' => ∃ W F B kF kB z4 z5, m ≤ 700 ∧ apLoop (abE es) fr m W F B = RR ∧ ApI (abE es) nx fr (nmV es) W F B ∧ ApM m (nmV es) W F ∧ PairS (nmV es) (abE es) μ' p1 p2 p3 nx fr ∧ μ' pw = some (.lst (W.map eNat.enc)) ∧ μ' pf = some (.dct kF) ∧ DM (nmV es) (mtD F) kF ∧ μ' pb = some (.dct kB) ∧ DM (nmV es) (mtD B) kB ∧ Kp [] μ μ' ∧
      ρ = [some (.obj c.Pairing (paF (nmV es) p1 p2 p3)), some (.ref pw), some (.ref pf), some (.ref pb), z4, z5],
      ⟨700, unM nx (nmV es), [], [], [], [], _, _, Nat.le_refl _, hRR, ApI.start Pr, ApM.start hV16, S1.set w1 w2 w3, setS_same, by rw [setS_ne hfw]; exact hf1, by rw [mt_nil]; exact DM.nil, by rw [setS_ne hbw]; exact hb1, by rw [mt_nil]; exact DM.nil, kp1.new hpw, rfl⟩, ?_⟩
    rintro m ρ μ' ⟨W, F, B, kF, kB, z4, z5, h700, hA, hI, hM, S', hw, hf, DF, hb, DB, kp, rfl⟩
    walk_at "dz"
    rw [len_ref hw]
    walk_at "dz"
    rcases List.eq_nil_or_concat W with rfl | ⟨W', w, rfl⟩
    · rw [if_neg (by simp)]
      have hA2 : RR = (F, B) := by
        rw [← hA]
        cases m <;> rfl
      subst hA2
      unfold w_Pairing_apart_t1
      walk_at "dz"
      rw [lkp_s]
      refine ⟨kf.o_Pairing_sums, ?_⟩
      walk_at "dz"
      refine lc_ty (enc := eNat.enc) (fun a => if (decide (a ∈ F) && !decide (a ∈ B)) = true then some (eNat.enc a) else none) (Nat.le_of_lt h3z) ?_ ?_
      · intro i a μ3 R R' ha sb hR hR'
        rw [show eNat.enc a = D.int (a : Nat) from rfl]
        walk_at "dz"
        rw [inD_ref (sb _ _ hf), show look kF (.inl (a : Int)) = mtD F a from DF.lk a, mt_some]
        walk_at "dz"
        by_cases h1 : a ∈ F
        · rw [if_pos h1]
          rw [notInD_ref (sb _ _ hb), show look kB (.inl (a : Int)) = mtD B a from DB.lk a, mt_some]
          walk_at "dz"
          by_cases h2 : a ∈ B
          · rw [if_neg (fun q => q h2)]
            exact hR' (by simp [h1, h2])
          · rw [if_pos h2]
            exact hR _ (by simp only [h1, h2, decide_true, decide_false, Bool.not_false, Bool.and_self, if_true]; rfl)
        · rw [if_neg h1]
          first | exact hR' (by simp [h1]) | (walk_at "dz"; exact hR' (by simp [h1]))
      · intro L hL
        rw [delS_setS hL, fm_if]
        walk_at "dz"
        exact ret_in (kp.sub (by simp)) k
    · rw [if_pos (by simp)]
      rw [List.concat_eq_append] at hw hA hI hM
      have hwV := (hI.wv w (List.mem_append_right _ (by simp))).1
      have hsh := (hI.wv w (List.mem_append_right _ (by simp))).2
      obtain ⟨m0, hM'⟩ := hM.skip
      obtain ⟨m', rfl⟩ : ∃ m', m = m' + 1 := ⟨m - 1, by omega⟩
      rw [apLoop, getLast_cat, dropLast_cat] at hA
      dsimp only at hA
      unfold w_Pairing_apart_b2
      walk_at "dz"
      have hw2 : μ' pw = some (.lst (W'.map eNat.enc ++ [eNat.enc w])) := by rw [hw, List.map_append]; rfl
      refine ⟨tyM_lref hw2, ?_⟩
      rw [pop_ref hw2, show eNat.enc w = D.int (w : Nat) from rfl]
      generalize hμ2 : setS μ' pw (.lst (W'.map eNat.enc)) = μ2
      have S2 : PairS (nmV es) (abE es) μ2 p1 p2 p3 nx fr := by rw [← hμ2]; exact S'.set w1 w2 w3
      have hf2 : μ2 pf = some (.dct kF) := by rw [← hμ2, setS_ne hfw]; exact hf
      have hb2 : μ2 pb = some (.dct kB) := by rw [← hμ2, setS_ne hbw]; exact hb
      have hw3 : μ2 pw = some (.lst (W'.map eNat.enc)) := by rw [← hμ2]; exact setS_same
      have nw0 : μ pw = none := by
        cases q : μ pw with
        | none => rfl
        | some c0 => rw [kp1 pw c0 (by simp) q] at hpw; cases hpw
      have kp2 : Kp [] μ μ2 := by rw [← hμ2]; exact kp.also (ys := [pw]) (Kp.refl.set (by simp)) (fun y hy => by simp only [List.mem_singleton] at hy; subst hy; exact .inr nw0)
      clear hμ2
      walk_at "dz"
      rw [notInD_ref hf2, show look kF (.inl (w : Int)) = mtD F w from DF.lk w, mt_some]
      walk_at "dz"
      by_cases hwF : w ∈ F
      · rw [if_neg (fun q => q hwF)]
        rw [if_pos hwF] at hA
        exact ⟨m', by omega, W', F, B, kF, kB, _, _, by omega, hA, hI.skip hwF, hM', S2, hw3, hf2, DF, hb2, DB, kp2, rfl⟩
      · rw [if_pos hwF]
        rw [if_neg hwF] at hA
        have hI' := hI.step Pr (fun _ _ h => abE_V h) hwF
        have hFl := nodup_len hI'.fn hI'.fv
        rw [List.length_append, List.length_singleton] at hFl
        have hMs := hM.step (ab := abE es) (fr := fr) hFl hV16 (abE_len h16 w)
        rw [set_ref hf2]
        refine ⟨Nat.lt_of_le_of_lt DF.len h3z, ?_⟩
        have DF2 : DM (nmV es) (mtD (F ++ [w])) (putD kF (.inl (w : Int)) (.bl true)) := by rw [← up_mt]; exact DF.put hwV
        generalize putD kF (.inl (w : Int)) (.bl true) = kF2 at DF2 ⊢
        generalize hμ3 : setS μ2 pf (.dct kF2) = μ3
        have S3 : PairS (nmV es) (abE es) μ3 p1 p2 p3 nx fr := by rw [← hμ3]; exact S2.set f1 f2 f3
        have hf3 : μ3 pf = some (.dct kF2) := by rw [← hμ3]; exact setS_same
        have hb3 : μ3 pb = some (.dct kB) := by rw [← hμ3, setS_ne hfb.symm]; exact hb2
        have hw4 : μ3 pw = some (.lst (W'.map eNat.enc)) := by rw [← hμ3, setS_ne hfw.symm]; exact hw3
        have kp3 : Kp [] μ μ3 := by rw [← hμ3]; exact kp2.also (ys := [pf]) (Kp.refl.set (by simp)) (fun y hy => by simp only [List.mem_singleton] at hy; subst hy; exact .inr hpf)
        clear hμ3
        have ⟨kv1, g1, G1⟩ := S3.c1
        rw [lkp_a]
        refine ⟨kf.o_Pairing_above, ?_⟩
        walk_at "dz"
        rw [ix_refD g1, show (keyD (.int (w : Nat))).bind (look kv1) = some (.lst ((abE es w).map eNat.enc)) from (G1.lk w).trans (if_pos hwV)]
        walk_at "dz"
        refine for_ty (enc := eNat.enc) (fun j ρ μ' => ∃ kB' z, PairS (nmV es) (abE es) μ' p1 p2 p3 nx fr ∧ μ' pf = some (.dct kF2) ∧ μ' pb = some (.dct kB') ∧ DM (nmV es) (mtD (((abE es w).take j).foldl addL B)) kB' ∧ μ' pw = some (.lst ((W' ++ ((abE es w).take j).filterMap fr).map eNat.enc)) ∧ Kp [] μ μ' ∧
          ρ = [some (.obj c.Pairing (paF (nmV es) p1 p2 p3)), some (.ref pw), some (.ref pf), some (.ref pb), some (.int (w : Nat)), z]) ⟨kB, _, S3, hf3, hb3, by rw [List.take_zero]; exact DB, by rw [List.take_zero, List.filterMap_nil, List.append_nil]; exact hw4, kp3, rfl⟩ ?_ ?_
        · rintro j b ρ μ4 hb0 ⟨kB', z, S4, hf4, hb4, DB4, hw5, kp4, rfl⟩
          have hbA := (getS hb0).2
          have hbV := abE_V hbA
          obtain ⟨a', hfr, hsa⟩ := hsh.next hbA
          have et : (abE es w).take (j + 1) = (abE es w).take j ++ [b] := by rw [List.take_add_one, hb0]; rfl
          rw [show eNat.enc b = D.int (b : Nat) from rfl]
          walk_at "dz"
          unfold w_Pairing_apart_b1
          walk_at "dz"
          rw [set_ref hb4]
          refine ⟨Nat.lt_of_le_of_lt DB4.len h3z, ?_⟩
          have DB5 : DM (nmV es) (mtD (((abE es w).take (j + 1)).foldl addL B)) (putD kB' (.inl (b : Int)) (.bl true)) := by
            rw [et, List.foldl_append]
            show DM (nmV es) (mtD (addL _ b)) _
            rw [← up_add]; exact DB4.put hbV
          generalize putD kB' (.inl (b : Int)) (.bl true) = kB5 at DB5 ⊢
          generalize hμ5 : setS μ4 pb (.dct kB5) = μ5
          have S5 : PairS (nmV es) (abE es) μ5 p1 p2 p3 nx fr := by rw [← hμ5]; exact S4.set b1 b2 b3
          have hf5 : μ5 pf = some (.dct kF2) := by rw [← hμ5, setS_ne hfb]; exact hf4
          have hb5 : μ5 pb = some (.dct kB5) := by rw [← hμ5]; exact setS_same
          have hw6 : μ5 pw = some (.lst ((W' ++ ((abE es w).take j).filterMap fr).map eNat.enc)) := by rw [← hμ5, setS_ne hbw.symm]; exact hw5
          have kp5 : Kp [] μ μ5 := by rw [← hμ5]; exact kp4.also (ys := [pb]) (Kp.refl.set (by simp)) (fun y hy => by simp only [List.mem_singleton] at hy; subst hy; exact .inr hpb0)
          clear hμ5
          have ⟨kv3, g3, G3⟩ := S5.c3
          rw [lkp_f]
          refine ⟨tyM_lref hw6, kf.o_Pairing_from_of, ?_⟩
          walk_at "dz"
          rw [ix_refD g3, show (keyD (.int (b : Nat))).bind (look kv3) = mpD fr b from G3.lk b, show mpD fr b = some (.int (a' : Nat)) by unfold mpD; rw [hfr]; rfl]
          walk_at "dz"
          rw [app_ref hw6]
          have hlen : ((W' ++ ((abE es w).take j).filterMap fr).map eNat.enc).length < sizeLine := by
            unfold ApM at hM
            rw [List.length_append, List.length_singleton] at hM
            have h1 := List.length_filterMap_le fr ((abE es w).take j)
            have h2 := List.length_take_le' j (abE es w)
            have h3 := abE_len h16 w
            rw [List.length_map, List.length_append]
            exact Nat.lt_of_lt_of_le (m := 1000) (by omega) (le_line (by decide))
          refine ⟨hlen, kB5, _, S5.set w1 w2 w3, by rw [setS_ne hfw]; exact hf5, by rw [setS_ne hbw]; exact hb5, DB5, ?_, kp5.also (ys := [pw]) (Kp.refl.set (by simp)) (fun y hy => by simp only [List.mem_singleton] at hy; subst hy; exact .inr nw0), rfl⟩
          rw [setS_same, et, List.filterMap_append, ← List.append_assoc, List.map_append (l₁ := W' ++ _)]
          simp [hfr]
          rfl
        · rintro ρ μ4 ⟨kB', z, S4, hf4, hb4, DB4, hw5, kp4, rfl⟩
          rw [List.take_length] at DB4 hw5
          exact ⟨m', by omega, _, _, _, kF2, kB', _, _, by omega, hA, hI', by simpa using hMs, S4, hw5, hf4, DF2, hb4, DB4, kp4, rfl⟩
theorem met_Pairing_apart_1 (T : Txt K mg c) : DMet P w K mg base 1 c.Pairing "apart" (sp_Pairing_apart c) [] := by
  have D := T.f_Pairing_apart
  exact D.met T.k_Pairing.cl sc_Pairing_apart (len_Pairing_apart c) (fun cdv A outer s H E hr => dv_Pairing_apart T cdv A outer s H E hr) (rd_Pairing_apart K c T.kf) (fun F => F.binds0 (ps := ["self"]) fun _ _ _ _ _ _ us hl => match us, hl with | [_], _ => rfl) (dvs := []) (.nil) (fun _ => .nil)
end
noncomputable def sp_greatest_safe (c : Cs) : DSp := fun ds μ Q => ∃ es : List Ent, ds = [bkD c.Book es] ∧ Good es ∧ es.length ≤ 16 ∧ (Prg (abE es) (pairF es).1 (pairF es).2 (nmV es) → Q (.tup ((apE es).map eNat.enc)) μ)
theorem len_greatest_safe (c : Cs) : ∀ ds μ Q, sp_greatest_safe c ds μ Q → ds.length = 1 := by
  rintro ds μ Q ⟨es, rfl, _⟩
  rfl
noncomputable def w_greatest_safe (K : PySem.W.Frag) (c : Cs) : WS := wRet (wMeth c.Pairing "apart" (sp_Pairing_apart c) [] (wMake c.Pairing (sp_Pairing_xinit c) [] (wACons (wVar 0) (wANil))) (wANil))
section
variable {P : Program} {w : World} {K : PySem.W.Frag} {mg : Str → Option Value} {base : Heap} {c : Cs}
theorem dv_greatest_safe (T : Txt K mg c) {f : Addr} (cdv : Value) (A : Around) (outer : List PySem.Env) (s : Shared) (H : Hp) (E : XK) (hr : Room 21 (A.deeper (PyProof.Rows.envOfC "greatest_safe" (defScope s_greatest_safe) s.heap.objs.size f cdv))) : DSs (cxOf CX0 P w K mg base N_greatest_safe "greatest_safe" (defScope s_greatest_safe) f cdv A outer s H E).nox (defBody s_greatest_safe) (w_greatest_safe K c) := by
  have ND := sc_greatest_safe.nd
  have hu := hu_of hr
  have hu64 := hr.units
  have hu65 := units65 hr
  exact dss_one (ds_ret (de_met0 (met_Pairing_apart_1 T) hr (by decide) (de_mak (mak_Pairing_xinit_2 T) hr (by decide) rfl (da_cons (de_var (pv 0)) (da_nil)))))
theorem rd_greatest_safe (K : PySem.W.Frag) (c : Cs) : ∀ ds μ Q, sp_greatest_safe c ds μ Q → w_greatest_safe K c { nx := fun _ μ' => ∃ μ2, Sub μ2 μ' ∧ Q .non μ2, rt := Q } (startD N_greatest_safe ds) μ := by
  rintro ds μ Q ⟨es, rfl, ok, h16, k⟩
  show w_greatest_safe K c _ [some (bkD c.Book es)] μ
  unfold w_greatest_safe
  walk_at "dz"
  intro x hx
  refine ⟨x, es, rfl, ok, h16, setS_same, fun p1 p2 p3 μ' S Pr hx' kp => ⟨rfl, _, hx', ?_⟩⟩
  walk_at "dz"
  have kp' : Kp [x] μ μ' := fun a cc na e => kp a cc na (by rw [setS_ne (by simpa using na)]; exact e)
  have hxp := fun p (q : μ' p = μ' p) => q
  have nd : ∀ p kv, μ' p = some (.dct kv) → p ≠ x := fun p kv q r => by rw [r, hx'] at q; cases q
  have S' : PairS (nmV es) (abE es) (delS μ' x) p1 p2 p3 (pairF es).1 (pairF es).2 := by
    obtain ⟨⟨k1, f1, E1⟩, ⟨k2, f2, E2⟩, ⟨k3, f3, E3⟩, m1, m2, m3⟩ := S
    exact ⟨⟨k1, by rw [delS_ne (nd _ _ f1)]; exact f1, E1⟩, ⟨k2, by rw [delS_ne (nd _ _ f2)]; exact f2, E2⟩, ⟨k3, by rw [delS_ne (nd _ _ f3)]; exact f3, E3⟩, m1, m2, m3⟩
  refine ⟨lkp_apart, es, p1, p2, p3, rfl, ok, h16, S', Pr, ret_in (fun a cc e => ?_) (k Pr)⟩
  have na : a ≠ x := fun q => by rw [q, hx] at e; cases e
  rw [delS_ne na]
  exact kp' a cc (by simpa using na) e
theorem cal_greatest_safe (T : Txt K mg c) : DCal P w K mg base 22 "greatest_safe" (sp_greatest_safe c) [] := T.f_greatest_safe.cal (ps := ["book"]) sc_greatest_safe (len_greatest_safe c) (fun cdv A outer s H E hr => dv_greatest_safe T cdv A outer s H E hr) (rd_greatest_safe K c) fun _ _ _ _ _ _ us hl => match us, hl with | [_], _ => rfl
end
noncomputable def sp_joined (c : Cs) : DSp := fun ds μ Q => ∃ ys : List Str, ds = [.lst (ys.map .str)] ∧ (∀ y ∈ ys, 0 < y.length ∧ y.length ≤ 2000) ∧ ys.length ≤ 400 ∧ Q (.str (if ys = [] then Str.ofString "none" else jw ys)) μ
theorem len_joined (c : Cs) : ∀ ds μ Q, sp_joined c ds μ Q → ds.length = 1 := by
  rintro ds μ Q ⟨ys, rfl, _⟩
  rfl
noncomputable def w_joined_t1 (K : PySem.W.Frag) (c : Cs) : WS := wRet (wIf (wB (wOp oEq (wVar 1) (wC (.str "")))) (wC (.str "none")) (wVar 1))
noncomputable def w_joined_b1 (K : PySem.W.Frag) (c : Cs) : WS := wAsg (wIf (wB (wOp oEq (wVar 1) (wC (.str "")))) (wVar 2) (wJoin [wFmt (wVar 1), wC (.str " "), wFmt (wVar 2)])) (wgName 1)
noncomputable def w_joined (K : PySem.W.Frag) (c : Cs) : WS := wSeq (wAsg (wC (.str "")) (wgName 1)) (wSeq (wFor (wiSeq (wVar 0)) (wgName 2) (w_joined_b1 K c)) (w_joined_t1 K c))
section
variable {P : Program} {w : World} {K : PySem.W.Frag} {mg : Str → Option Value} {base : Heap} {c : Cs}
theorem dv_joined (T : Txt K mg c) {f : Addr} (cdv : Value) (A : Around) (outer : List PySem.Env) (s : Shared) (H : Hp) (E : XK) (hr : Room 0 (A.deeper (PyProof.Rows.envOfC "joined" (defScope s_joined) s.heap.objs.size f cdv))) : DSs (cxOf CX0 P w K mg base N_joined "joined" (defScope s_joined) f cdv A outer s H E).nox (defBody s_joined) (w_joined K c) := by
  have ND := sc_joined.nd
  have hu := hu_of hr
  have hu64 := hr.units
  have hu65 := units65 hr
  exact dss_cons (ds_set (i := 1) ND rfl (Or.inl rfl) (de_str)) (dss_cons (ds_for PassesOwn.never rfl (di_seq (de_var (pv 0))) (dg_pat (vs := [2]) (g := gName 2) (pg_name (i := 2) ND rfl (by first | exact Or.inl rfl | exact Or.inr rfl)) (gp_name (by decide))) (dss_one (ds_set (i := 1) ND rfl (Or.inl rfl) (de_if (dt_cmp (os_eq hu64) (de_var (pv 1)) (de_str) (nomark _)) (de_var (pv 2)) (de_joined (.cons (de_fmt (de_var (pv 1))) (.cons (de_str) (.cons (de_fmt (de_var (pv 2))) (.nil))))))))) (dss_one (ds_ret (de_if (dt_cmp (os_eq hu64) (de_var (pv 1)) (de_str) (nomark _)) (de_str) (de_var (pv 1))))))
theorem rd_joined (K : PySem.W.Frag) (c : Cs) : ∀ ds μ Q, sp_joined c ds μ Q → w_joined K c { nx := fun _ μ' => ∃ μ2, Sub μ2 μ' ∧ Q .non μ2, rt := Q } (startD N_joined ds) μ := by
  rintro ds μ Q ⟨ys, rfl, hy, hz, k⟩
  show w_joined K c _ [some (.lst (ys.map .str)), none, none] μ
  unfold w_joined
  walk_at "dz"
  have e0 : (Str.ofString "" : Str) = jw (ys.take 0) := by rw [List.take_zero]; decide +kernel
  refine for_ty (enc := D.str) (fun i ρ μ' => μ' = μ ∧ ∃ a, ρ = [some (.lst (ys.map .str)), some (.str (jw (ys.take i))), a]) ⟨rfl, _, by rw [← e0]⟩ ?_ ?_
  · rintro i y ρ μ' he ⟨rfl, a, rfl⟩
    obtain ⟨hi, hm⟩ := getS he
    have et : ys.take (i + 1) = ys.take i ++ [y] := by rw [List.take_add_one, he]; rfl
    have hsub : ∀ z ∈ ys.take i, z ∈ ys := fun z hz => List.mem_of_mem_take hz
    walk_at "dz"
    unfold w_joined_b1
    walk_at "dz"
    by_cases h0 : i = 0
    · subst h0
      rw [show (jw (ys.take 0) == Str.ofString "") = true by rw [← e0]; decide +kernel]
      walk_at "dz"
      rw [et, List.take_zero, List.nil_append]
      exact ⟨_, by rw [show jw [y] = y by unfold jw; rw [join_eqS]; rfl]⟩
    · have hne : ys.take i ≠ [] := by intro q; have := congrArg List.length q; rw [List.length_take, List.length_nil] at this; omega
      have hp := jw_pos hne fun z hz => (hy z (hsub z hz)).1
      have hl := jw_len (ys := ys.take i) (fun z hz => (hy z (hsub z hz)).2) (by rw [List.length_take]; omega)
      have hyl := (hy y hm).2
      have h1 : (Str.ofString " ").length = 1 := by decide +kernel
      rw [show (jw (ys.take i) == Str.ofString "") = false by
        rw [beq_eq_false_iff_ne]
        intro q
        rw [q] at hp
        exact absurd hp (by decide +kernel)]
      walk_at "dz"
      simp only [str_emp, str_app_len, h1]
      refine ⟨le_line (by omega), le_line (by omega), le_line (by omega), le_line (by omega), le_line (by omega), some (.str y), ?_⟩
      rw [et, jw_snoc hne]
  · rintro ρ μ' ⟨rfl, a, rfl⟩
    walk_at "dz"
    unfold w_joined_t1
    walk_at "dz"
    rw [List.take_length]
    by_cases h0 : ys = []
    · subst h0
      rw [show (jw [] == Str.ofString "") = true by decide +kernel, if_pos rfl]
      rw [if_pos rfl] at k
      exact ret_eq k
    · have hp := jw_pos h0 fun z hz => (hy z hz).1
      rw [show (jw ys == Str.ofString "") = false by
        rw [beq_eq_false_iff_ne]
        intro q
        rw [q] at hp
        exact absurd hp (by decide +kernel), if_neg Bool.false_ne_true]
      rw [if_neg h0] at k
      exact ret_eq k
theorem cal_joined (T : Txt K mg c) : DCal P w K mg base 1 "joined" (sp_joined c) [] := T.f_joined.cal (ps := ["words"]) sc_joined (len_joined c) (fun cdv A outer s H E hr => dv_joined T cdv A outer s H E hr) (rd_joined K c) fun _ _ _ _ _ _ us hl => match us, hl with | [_], _ => rfl
end
noncomputable def sp_Ledger_undo (c : Cs) : DSp := fun ds μ Q => ∃ (x : Addr) (es : List Ent) (past : List (List (List Bool))) (ss : List (List Bool)), ds = [.ref x] ∧ Good es ∧ past.length ≤ 1000 ∧ μ x = some (.ins c.Ledger (ldF c.Book es past ss)) ∧ ((past = [] ∧ Q (.bl false) μ) ∨ ∃ p q, past = p ++ [q] ∧ AllOk es q ∧ Q (.bl true) (setS μ x (.ins c.Ledger (ldF c.Book es p q))))
theorem len_Ledger_undo (c : Cs) : ∀ ds μ Q, sp_Ledger_undo c ds μ Q → ds.length = 1 := by
  rintro ds μ Q ⟨x, es, past, ss, rfl, _⟩
  rfl
noncomputable def w_Ledger_undo_t1 (K : PySem.W.Frag) (c : Cs) : WS := wSeq (wAsg (wIx (wFld K "past" (wVar 0)) (wNeg (wC (.int 1)))) (wgName 1)) (wSeq (wSetF K "past" (wVar 0) (wSl (wFld K "past" (wVar 0)) (wNoP) (wPart (wNeg (wC (.int 1)))))) (wSeq (wDrop (wMeth c.Ledger "show" (sp_Ledger_show c) [] (wVar 0) (wACons (wVar 1) (wANil)))) (wRet (wC (.bl true)))))
noncomputable def w_Ledger_undo (K : PySem.W.Frag) (c : Cs) : WS := wSeq (wIfS (wB (wOp oEq (wCB oLen (wACons (wFld K "past" (wVar 0)) (wANil))) (wC (.int 0)))) (wRet (wC (.bl false))) (wNext)) (w_Ledger_undo_t1 K c)
section
variable {P : Program} {w : World} {K : PySem.W.Frag} {mg : Str → Option Value} {base : Heap} {c : Cs}
theorem dv_Ledger_undo (T : Txt K mg c) {f : Addr} (cdv : Value) (A : Around) (outer : List PySem.Env) (s : Shared) (H : Hp) (E : XK) (hr : Room 6 (A.deeper (PyProof.Rows.envOfC "Ledger.undo" (defScope s_Ledger_undo) s.heap.objs.size f cdv))) : DSs (cxOf CX0 P w K mg base N_Ledger_undo "Ledger.undo" (defScope s_Ledger_undo) f cdv A outer s H E).nox (defBody s_Ledger_undo) (w_Ledger_undo K c) := by
  have ND := sc_Ledger_undo.nd
  have hu := hu_of hr
  have hu64 := hr.units
  have hu65 := units65 hr
  exact dss_cons (ds_if (dt_cmp (os_eq hu64) (de_callB cs_len rfl T.b_len (by decide +kernel) (da_cons (de_fld (de_var (pv 0)) rfl) (da_nil))) (de_int) (nomark _)) (dss_one (ds_ret (de_bl))) (dss_nil)) (dss_cons (ds_set (i := 1) ND rfl (Or.inl rfl) (de_ix hu (de_fld (de_var (pv 0)) rfl) (de_neg (de_int)) (fun _ _ => rfl))) (dss_cons (ds_fld (de_var (pv 0)) (de_sl (de_fld (de_var (pv 0)) rfl) (dp_none) (dp_some (de_neg (de_int))))) (dss_cons (ds_expr (de_met (met_Ledger_show_2 T) hr (by decide) (de_var (pv 0)) (da_cons (de_var (pv 1)) (da_nil)))) (dss_one (ds_ret (de_bl))))))
theorem rd_Ledger_undo (K : PySem.W.Frag) (c : Cs) (kf : Kf K c) : ∀ ds μ Q, sp_Ledger_undo c ds μ Q → w_Ledger_undo K c { nx := fun _ μ' => ∃ μ2, Sub μ2 μ' ∧ Q .non μ2, rt := Q } (startD N_Ledger_undo ds) μ := by
  rintro ds μ Q ⟨x, es, past, ss, rfl, ok, h1, hx, k⟩
  show w_Ledger_undo K c _ [some (.ref x), none] μ
  unfold w_Ledger_undo
  walk_at "dz"
  rw [fld_ref hx, lkl_fp]
  refine ⟨kf.o_Ledger_past, ?_⟩
  unfold paL
  walk_at "dz"
  rw [List.length_map]
  rcases k with ⟨rfl, k⟩ | ⟨p, q, rfl, hq, k⟩
  · split
    · exact ret_eq k
    · rename_i h; exact absurd rfl h
  · rw [if_neg (by rw [List.length_append, List.length_singleton]; omega)]
    unfold w_Ledger_undo_t1
    walk_at "dz"
    rw [fld_ref hx, lkl_fp]
    refine ⟨kf.o_Ledger_past, ?_⟩
    unfold paL
    walk_at "dz"
    rw [show atI ((p ++ [q]).map skD) (-1) = some (skD q) by rw [atI_last (by simp)]; simp [List.getLast_map]]
    walk_at "dz"
    rw [fld_ref hx, lkl_fp]
    refine ⟨kf.o_Ledger_past, ?_⟩
    unfold paL
    walk_at "dz"
    rw [stf_ref hx, show (p ++ [q]).map skD = p.map skD ++ [skD q] by rw [List.map_append]; rfl, cutD_last]
    rw [show put (ldF c.Book es (p ++ [q]) ss) "past" (.tup (p.map skD)) = ldF c.Book es p ss from rfl]
    refine ⟨kf.o_Ledger_past, Nat.le_of_ble_eq_true rfl, ?_⟩
    rw [mth_ref setS_same]
    refine ⟨rfl, lkl_no (.inl rfl), x, es, p, q, _, rfl, ok, hq, .inr ⟨_, _, _, rfl⟩, setS_same, ?_⟩
    rw [setS_setS]
    exact ret_eq k
theorem met_Ledger_undo_1 (T : Txt K mg c) : DMet P w K mg base 7 c.Ledger "undo" (sp_Ledger_undo c) [] := by
  have D := T.f_Ledger_undo
  exact D.met T.k_Ledger.cl sc_Ledger_undo (len_Ledger_undo c) (fun cdv A outer s H E hr => dv_Ledger_undo T cdv A outer s H E hr) (rd_Ledger_undo K c T.kf) (fun F => F.binds0 (ps := ["self"]) fun _ _ _ _ _ _ us hl => match us, hl with | [_], _ => rfl) (dvs := []) (.nil) (fun _ => .nil)
end
noncomputable def sp_Desk_take_back (c : Cs) : DSp := fun ds μ Q => ∃ (a y : Addr) (r : List Addr) (S : List Fr), ds = [.ref a] ∧ DkAt c.Ledger c.Book c.Desk μ a y r S ∧ S.length ≤ 200 ∧ ((undoS S = none ∧ Q (.bl false) μ) ∨ ∃ S', undoS S = some S' ∧ ∀ y' r' μ', DkAt c.Ledger c.Book c.Desk μ' a y' r' S' → (∀ z ∈ y' :: r', z ∈ y :: r) → Kps a (y :: r) μ μ' → Q (.bl true) μ')
theorem len_Desk_take_back (c : Cs) : ∀ ds μ Q, sp_Desk_take_back c ds μ Q → ds.length = 1 := by
  rintro ds μ Q ⟨a, y, r, S, rfl, _⟩
  rfl
noncomputable def w_Desk_take_back_t1 (K : PySem.W.Frag) (c : Cs) : WS := wSeq (wSetF K "deeds" (wVar 0) (wSl (wFld K "deeds" (wVar 0)) (wNoP) (wPart (wNeg (wC (.int 1)))))) (wRet (wC (.bl true)))
noncomputable def w_Desk_take_back_t2 (K : PySem.W.Frag) (c : Cs) : WS := wSeq (wIfS (wB (wOp oEq (wIx (wFld K "deeds" (wVar 0)) (wNeg (wC (.int 1)))) (wC (.str "book")))) (wSeq (wSetF K "going" (wVar 0) (wIx (wFld K "elders" (wVar 0)) (wNeg (wC (.int 1))))) (wSetF K "elders" (wVar 0) (wSl (wFld K "elders" (wVar 0)) (wNoP) (wPart (wNeg (wC (.int 1))))))) (wDrop (wMeth c.Ledger "undo" (sp_Ledger_undo c) [] (wFld K "going" (wVar 0)) (wANil)))) (w_Desk_take_back_t1 K c)
noncomputable def w_Desk_take_back (K : PySem.W.Frag) (c : Cs) : WS := wSeq (wIfS (wB (wOp oEq (wCB oLen (wACons (wFld K "deeds" (wVar 0)) (wANil))) (wC (.int 0)))) (wRet (wC (.bl false))) (wNext)) (w_Desk_take_back_t2 K c)
section
variable {P : Program} {w : World} {K : PySem.W.Frag} {mg : Str → Option Value} {base : Heap} {c : Cs}
theorem dv_Desk_take_back (T : Txt K mg c) {f : Addr} (cdv : Value) (A : Around) (outer : List PySem.Env) (s : Shared) (H : Hp) (E : XK) (hr : Room 7 (A.deeper (PyProof.Rows.envOfC "Desk.take_back" (defScope s_Desk_take_back) s.heap.objs.size f cdv))) : DSs (cxOf CX0 P w K mg base N_Desk_take_back "Desk.take_back" (defScope s_Desk_take_back) f cdv A outer s H E).nox (defBody s_Desk_take_back) (w_Desk_take_back K c) := by
  have ND := sc_Desk_take_back.nd
  have hu := hu_of hr
  have hu64 := hr.units
  have hu65 := units65 hr
  exact dss_cons (ds_if (dt_cmp (os_eq hu64) (de_callB cs_len rfl T.b_len (by decide +kernel) (da_cons (de_fld (de_var (pv 0)) rfl) (da_nil))) (de_int) (nomark _)) (dss_one (ds_ret (de_bl))) (dss_nil)) (dss_cons (ds_if (dt_cmp (os_eq hu64) (de_ix hu (de_fld (de_var (pv 0)) rfl) (de_neg (de_int)) (fun _ _ => rfl)) (de_str) (nomark _)) (dss_cons (ds_fld (de_var (pv 0)) (de_ix hu (de_fld (de_var (pv 0)) rfl) (de_neg (de_int)) (fun _ _ => rfl))) (dss_one (ds_fld (de_var (pv 0)) (de_sl (de_fld (de_var (pv 0)) rfl) (dp_none) (dp_some (de_neg (de_int))))))) (dss_one (ds_expr (de_met0 (met_Ledger_undo_1 T) hr (by decide) (de_fld (de_var (pv 0)) rfl))))) (dss_cons (ds_fld (de_var (pv 0)) (de_sl (de_fld (de_var (pv 0)) rfl) (dp_none) (dp_some (de_neg (de_int))))) (dss_one (ds_ret (de_bl)))))
theorem rd_Desk_take_back (K : PySem.W.Frag) (c : Cs) (kf : Kf K c) : ∀ ds μ Q, sp_Desk_take_back c ds μ Q → w_Desk_take_back K c { nx := fun _ μ' => ∃ μ2, Sub μ2 μ' ∧ Q .non μ2, rt := Q } (startD N_Desk_take_back ds) μ := by
  rintro ds μ Q ⟨a, y, r, S, rfl, h, hS, k⟩
  show w_Desk_take_back K c _ [some (.ref a)] μ
  unfold w_Desk_take_back
  walk_at "dz"
  obtain ⟨f, S, rfl⟩ : ∃ f S', S = f :: S' := by cases S with | nil => exact h.led.elim | cons g S => exact ⟨g, S, rfl⟩
  have hf := h.ok f List.mem_cons_self
  rw [fld_ref h.at_, lkd_d]
  refine ⟨kf.o_Desk_deeds, ?_⟩
  walk_at "dz"
  rw [List.length_map]
  rcases tb_cases (S0 := S) hf with ⟨e1, e2⟩ | ⟨g, S, rfl, e1, e2⟩ | ⟨p, q, w, ep, e1, hw, e2⟩
  · rw [e1]
    rcases k with ⟨_, k⟩ | ⟨S', q, _⟩
    · walk_at "dz"
      exact ret_eq k
    · rw [e2] at q; cases q
  · rcases k with ⟨q, _⟩ | ⟨S', q, k⟩
    · rw [e2] at q; cases q
    rw [e2] at q
    cases q
    obtain ⟨z, r, rfl⟩ : ∃ z r', r = z :: r' := by cases r with | nil => exact h.led.2.2.elim | cons z r => exact ⟨z, r, rfl⟩
    have hat := h.at_
    rw [e1] at hat
    rw [e1, if_neg (by rw [List.length_append, List.length_singleton]; omega)]
    unfold w_Desk_take_back_t2
    walk_at "dz"
    rw [fld_ref hat, lkd_d]
    refine ⟨kf.o_Desk_deeds, ?_⟩
    walk_at "dz"
    rw [map_app1, atI_app1]
    walk_at "dz"
    rw [show (Str.ofString "book" : Str) = sBook from rfl, BEq.rfl, if_pos rfl, fld_ref hat, lkd_e]
    refine ⟨kf.o_Desk_elders, ?_⟩
    rw [List.reverse_cons, map_app1]
    walk_at "dz"
    rw [atI_app1]
    walk_at "dz"
    rw [stf_ref hat]
    refine ⟨kf.o_Desk_going, Nat.le_of_ble_eq_true rfl, ?_⟩
    rw [fld_ref setS_same]
    refine ⟨kf.o_Desk_elders, ?_⟩
    rw [show look (put (dkF y (z :: r).reverse (deedsS (g :: S) ++ [sBook])) "going" (.ref z)) "elders" = some (.tup ((z :: r).reverse.map .ref)) from rfl, List.reverse_cons, map_app1]
    walk_at "dz"
    rw [stf_ref setS_same, setS_setS, cutD_last]
    refine ⟨kf.o_Desk_elders, Nat.le_of_ble_eq_true rfl, ?_⟩
    unfold w_Desk_take_back_t1
    walk_at "dz"
    rw [fld_ref setS_same]
    refine ⟨kf.o_Desk_deeds, ?_⟩
    rw [show look (put (put (dkF y (r.reverse ++ [z]) (deedsS (g :: S) ++ [sBook])) "going" (.ref z)) "elders" (.tup (r.reverse.map .ref))) "deeds" = some (.tup ((deedsS (g :: S) ++ [sBook]).map .str)) from rfl, map_app1]
    walk_at "dz"
    rw [stf_ref setS_same, setS_setS, cutD_last]
    refine ⟨kf.o_Desk_deeds, Nat.le_of_ble_eq_true rfl, ret_eq ?_⟩
    obtain ⟨h1, h2⟩ := dk_pop h
    exact k z r _ h1 (fun x hx => List.mem_cons_of_mem _ hx) (h2.mono (by simp))
  · rcases k with ⟨z, _⟩ | ⟨S', z, k⟩
    · rw [e2] at z; cases z
    rw [e2] at z
    cases z
    have hat := h.at_
    rw [e1] at hat
    rw [e1, if_neg (by rw [List.length_append, List.length_singleton]; omega)]
    unfold w_Desk_take_back_t2
    walk_at "dz"
    rw [fld_ref hat, lkd_d]
    refine ⟨kf.o_Desk_deeds, ?_⟩
    walk_at "dz"
    have hled := h.led.1
    rw [map_app1, atI_app1]
    walk_at "dz"
    rw [show (Str.ofString "book" : Str) = sBook from rfl, hw, if_neg (by simp), fld_ref hat, lkd_g]
    refine ⟨kf.o_Desk_going, ?_⟩
    walk_at "dz"
    unfold FLd at hled
    rw [mth_ref hled]
    refine ⟨rfl, lkl_no (.inr (.inr (.inr (.inr (.inl rfl))))), y, f.es, f.past, f.ss, rfl, hf.good, by have := hf.pl; omega, hled, .inr ⟨p, q, ep, (hf.old q (by rw [ep]; simp)).1, ?_⟩⟩
    have hya : a ≠ y := fun e => h.out (by rw [e]; exact List.mem_cons_self)
    have hat2 : ∀ X : Cell, setS μ y X a = some (.ins c.Desk (dkF y r.reverse (deedsS (unF f p q :: S) ++ [w]))) := fun X => by rw [setS_ne hya]; exact hat
    unfold w_Desk_take_back_t1
    walk_at "dz"
    rw [fld_ref (hat2 _), lkd_d, map_app1]
    refine ⟨kf.o_Desk_deeds, ?_⟩
    walk_at "dz"
    rw [stf_ref (hat2 _), cutD_last]
    refine ⟨kf.o_Desk_deeds, Nat.le_of_ble_eq_true rfl, ret_eq ?_⟩
    obtain ⟨h1, h2⟩ := dk_front h (un_ok hf ep)
    exact k y r _ h1 (fun x hx => hx) (h2.mono (by simp))
theorem met_Desk_take_back_1 (T : Txt K mg c) : DMet P w K mg base 8 c.Desk "take_back" (sp_Desk_take_back c) [] := by
  have D := T.f_Desk_take_back
  exact D.met T.k_Desk.cl sc_Desk_take_back (len_Desk_take_back c) (fun cdv A outer s H E hr => dv_Desk_take_back T cdv A outer s H E hr) (rd_Desk_take_back K c T.kf) (fun F => F.binds0 (ps := ["self"]) fun _ _ _ _ _ _ us hl => match us, hl with | [_], _ => rfl) (dvs := []) (.nil) (fun _ => .nil)
end
noncomputable def sp_Desk_alone (c : Cs) : DSp := fun ds μ Q => ∃ (a y : Addr) (r : List Addr) (f : Fr) (S : List Fr) (w : Str), ds = [.ref a, .str w] ∧ DkAt c.Ledger c.Book c.Desk μ a y r (f :: S) ∧ S.length < 200 ∧ AlD c.Ledger c.Book c.Desk a y r f S w μ Q
theorem len_Desk_alone (c : Cs) : ∀ ds μ Q, sp_Desk_alone c ds μ Q → ds.length = 2 := by
  rintro ds μ Q ⟨a, y, r, f, S, w, rfl, _⟩
  rfl
noncomputable def w_Desk_alone (K : PySem.W.Frag) (c : Cs) : WS := wSeq (wMatch (wVar 1) (mCase "sums" (wRet (wCall (sp_joined c) [] (wACons (wLc (wiSeq (wFld K "sums" (wFld K "going" (wVar 0)))) (wgName 2) (wYes) (wIf (wB (wOp oIs (wVar 2) (wC .non))) (wC (.str "?")) (wCB oStr (wACons (wVar 2) (wANil)))) [2]) (wANil)))) ((mCase "totals" (wRet (wCall (sp_joined c) [] (wACons (wLc (wiSeq (wFld K "totals" (wFld K "going" (wVar 0)))) (wgName 3) (wYes) (wCB oStr (wACons (wVar 3) (wANil))) [3]) (wANil)))) ((mCase "frauds" (wRet (wCall (sp_joined c) [] (wACons (wLc (wiSeq (wCall (sp_frauds c) [] (wACons (wFld K "book" (wFld K "going" (wVar 0))) (wACons (wMake c.Way (sp_Way_xinit c) [.str "add", .non, .non] (wANil)) (wANil))))) (wgTup 2 (wgCons (wgName 4) (wgCons (wgName 5) (wgNil)))) (wYes) (wJoin [wFmt (wVar 4), wC (.str ">"), wFmt (wVar 5)]) [4, 5]) (wANil)))) ((mCase "safe" (wRet (wCB oStr (wACons (wCB oLen (wACons (wCall (sp_greatest_safe c) [] (wACons (wFld K "book" (wFld K "going" (wVar 0))) (wANil))) (wANil))) (wANil)))) ((mCase "undo" (wRet (wIf (wTrv (wMeth c.Desk "take_back" (sp_Desk_take_back c) [] (wVar 0) (wANil))) (wC (.str "undone")) (wC (.str "nothing")))) ((fun _ => wNext)))))))))))) (wNever)
section
variable {P : Program} {w : World} {K : PySem.W.Frag} {mg : Str → Option Value} {base : Heap} {c : Cs}
theorem dv_Desk_alone (T : Txt K mg c) {f : Addr} (cdv : Value) (A : Around) (outer : List PySem.Env) (s : Shared) (H : Hp) (E : XK) (hr : Room 22 (A.deeper (PyProof.Rows.envOfC "Desk.alone" (defScope s_Desk_alone) s.heap.objs.size f cdv))) : DSs (cxOf CX0 P w K mg base N_Desk_alone "Desk.alone" (defScope s_Desk_alone) f cdv A outer s H E).nox (defBody s_Desk_alone) (w_Desk_alone K c) := by
  have ND := sc_Desk_alone.nd
  have hu := hu_of hr
  have hu64 := hr.units
  have hu65 := units65 hr
  exact dss_cons (ds_match (de_var (pv 1)) (dms_case (dss_one (ds_ret (de_cal (cal_joined T) hr (by decide) rfl (da_cons (de_lc (own := [("number", 2)]) (g := gName 2) rfl ND (di_seq (de_fld (de_fld (de_var (pv 0)) rfl) rfl)) (blkOk_by (own := [("number", 2)]) (N := N_Desk_alone) (sc := defScope s_Desk_alone) (by decide +kernel)) (gp_name (by decide)) (fun _ _ _ _ _ => pg_name (i := 2) ND rfl (by first | exact Or.inl rfl | exact Or.inr rfl)) (fun _ _ _ _ _ => dts_nil) (fun _ _ _ _ _ => de_if (dt_cmp os_is (de_var (pv 2)) (de_non) (nomark _)) (de_str) (de_callTy cs_str rfl T.b_str (by decide +kernel) (da_cons (de_var (pv 2)) (da_nil))))) (da_nil))))) (dms_case (dss_one (ds_ret (de_cal (cal_joined T) hr (by decide) rfl (da_cons (de_lc (own := [("total", 3)]) (g := gName 3) rfl ND (di_seq (de_fld (de_fld (de_var (pv 0)) rfl) rfl)) (blkOk_by (own := [("total", 3)]) (N := N_Desk_alone) (sc := defScope s_Desk_alone) (by decide +kernel)) (gp_name (by decide)) (fun _ _ _ _ _ => pg_name (i := 3) ND rfl (by first | exact Or.inl rfl | exact Or.inr rfl)) (fun _ _ _ _ _ => dts_nil) (fun _ _ _ _ _ => de_callTy cs_str rfl T.b_str (by decide +kernel) (da_cons (de_var (pv 3)) (da_nil)))) (da_nil))))) (dms_case (dss_one (ds_ret (de_cal (cal_joined T) hr (by decide) rfl (da_cons (de_lc (own := [("a", 4), ("b", 5)]) (g := gTup K 2 (gCons (gName 4) (gCons (gName 5) (gNil)))) rfl ND (di_seq (de_cal (cal_frauds T) hr (by decide) rfl (da_cons (de_fld (de_fld (de_var (pv 0)) rfl) rfl) (da_cons (de_mak0 (mak_Way_xinit_1 T) hr (by decide) rfl) (da_nil))))) (blkOk_by (own := [("a", 4), ("b", 5)]) (N := N_Desk_alone) (sc := defScope s_Desk_alone) (by decide +kernel)) (gp_tup (gp_cons (gp_name (by decide)) (gp_cons (gp_name (by decide)) (gp_nil)))) (fun _ _ _ _ _ => pg_tup rfl (pgs_cons (pg_name (i := 4) ND rfl (by first | exact Or.inl rfl | exact Or.inr rfl)) (pgs_cons (pg_name (i := 5) ND rfl (by first | exact Or.inl rfl | exact Or.inr rfl)) (pgs_nil)))) (fun _ _ _ _ _ => dts_nil) (fun _ _ _ _ _ => de_joined (.cons (de_fmt (de_var (pv 4))) (.cons (de_str) (.cons (de_fmt (de_var (pv 5))) (.nil)))))) (da_nil))))) (dms_case (dss_one (ds_ret (de_callTy cs_str rfl T.b_str (by decide +kernel) (da_cons (de_callB cs_len rfl T.b_len (by decide +kernel) (da_cons (de_cal (cal_greatest_safe T) hr (by decide) rfl (da_cons (de_fld (de_fld (de_var (pv 0)) rfl) rfl) (da_nil))) (da_nil))) (da_nil))))) (dms_case (dss_one (ds_ret (de_if (dt_tru (de_met0 (met_Desk_take_back_1 T) hr (by decide) (de_var (pv 0))) (fun _ => rfl)) (de_str) (de_str)))) (dms_nil))))))) (dss_one (ds_never))
theorem rd_Desk_alone (K : PySem.W.Frag) (c : Cs) (kf : Kf K c) : ∀ ds μ Q, sp_Desk_alone c ds μ Q → w_Desk_alone K c { nx := fun _ μ' => ∃ μ2, Sub μ2 μ' ∧ Q .non μ2, rt := Q } (startD N_Desk_alone ds) μ := by
  rintro ds μ Q ⟨a, y, r, f, S, w, rfl, h, hS, k⟩
  show w_Desk_alone K c _ [some (.ref a), some (.str w), none, none, none, none] μ
  have hf := h.ok f List.mem_cons_self
  unfold w_Desk_alone wMatch
  walk_at "dz"
  refine ⟨_, rfl, ?_⟩
  unfold mCase
  have hled := h.led.1
  unfold FLd at hled
  have spk_of : ∀ {ys : List Str} {μ : Store} {R : D → Store → Prop}, R (.str (spk ys)) μ → R (.str (if ys = [] then Str.ofString "none" else jw ys)) μ := fun z => z
  have ssn : f.ss.length ≤ 200 := hf.now
  have sn : ∀ s, ∀ n, sumO f.es s = some n → n < 10000000 := fun s n e => by
    unfold sumO at e
    cases q : f.es.find? fun e => decide (e.2 = s) with
    | none => rw [q] at e; cases e
    | some x => rw [q] at e; cases e; exact hf.good.num x (List.mem_of_find?_eq_some q)
  have dg : ∀ n, n < 10000000 → 0 < (dig n).length ∧ (dig n).length ≤ 2000 := fun n hn => by
    have := dig_len hn
    refine ⟨?_, by omega⟩
    rw [str_ln, dig_tl]
    exact List.length_pos_iff.mpr (TL.numL_ne n)
  rcases k with ⟨rfl, k⟩ | ⟨rfl, k⟩ | ⟨rfl, k⟩ | ⟨rfl, k⟩ | ⟨rfl, k⟩
  · rw [if_pos rfl]
    walk_at "dz"
    rw [fld_ref h.at_, lkd_g]
    refine ⟨kf.o_Desk_going, ?_⟩
    walk_at "dz"
    rw [fld_ref hled, lkl_u]
    refine ⟨kf.o_Ledger_sums, ?_⟩
    unfold sumsD
    walk_at "dz"
    refine lc_tm (enc := fun s => sumD (sumO f.es s)) (fun s => .str (sumT (sumO f.es s))) (le_line (by omega)) ?_ ?_
    · intro i s μ' R hs sb hR
      cases q : sumO f.es s with
      | none =>
        rw [q] at hR
        unfold sumD
        walk_at "dz"
        exact hR
      | some n =>
        rw [q] at hR
        unfold sumD
        walk_at "dz"
        exact ⟨log_small (sn s n q), hR⟩
    · intro L hL
      rw [delS_setS hL]
      refine ⟨f.ss.map fun s => sumT (sumO f.es s), by rw [List.map_map]; rfl, fun y hy => ?_, by rw [List.length_map]; omega, ret_eq k⟩
      obtain ⟨s, _, rfl⟩ := List.mem_map.mp hy
      cases q : sumO f.es s with
      | none => exact ⟨by decide +kernel, by decide +kernel⟩
      | some n => exact dg n (sn s n q)
  · rw [if_neg (by decide +kernel), if_pos rfl]
    walk_at "dz"
    rw [fld_ref h.at_, lkd_g]
    refine ⟨kf.o_Desk_going, ?_⟩
    walk_at "dz"
    rw [fld_ref hled, lkl_t]
    refine ⟨kf.o_Ledger_totals, ?_⟩
    unfold totD
    walk_at "dz"
    have hb : ∀ g : List Ent → List Bool → Int, (∀ s, 0 ≤ g f.es s ∧ g f.es s < 10000000) → ∀ l : List (List Bool), l.length ≤ 200 → 0 ≤ (l.map (g f.es)).sum ∧ (l.map (g f.es)).sum ≤ l.length * 10000000 := fun g hg l => by
      induction l with
      | nil => intro _; simp
      | cons s l ih =>
        intro hl
        simp only [List.length_cons] at hl
        have h1 := ih (by omega)
        have h2 := hg s
        simp only [List.map_cons, List.sum_cons, List.length_cons]
        omega
    have hor : ∀ s, ∀ n ∈ orgs f.es W0 s, n < 10000000 := fun s n hn => by
      obtain ⟨e, he, _, rfl⟩ := orgs_mem.mp hn
      exact hf.good.num e he
    have hlo := hb loO (fun s => by
      unfold loO
      cases q : orgs f.es W0 s with
      | nil => exact ⟨by decide, by decide⟩
      | cons a r =>
        have := hor s a (by rw [q]; exact List.mem_cons_self)
        show 0 ≤ ((a : Nat) : Int) ∧ ((a : Nat) : Int) < _
        omega) f.ss ssn
    have hhi := hb hiO (fun s => by
      unfold hiO
      by_cases q : orgs f.es W0 s = []
      · rw [q]; exact ⟨by decide, by decide⟩
      · have := hor s _ (lastN_mem q)
        omega) f.ss ssn
    have itx_ok : ∀ i : Int, 0 ≤ i → i ≤ 200 * 10000000 → i.natAbs.log2 < 1920 ∧ 0 < (itx i).length ∧ (itx i).length ≤ 2000 := fun i h0 h1 => by
      obtain ⟨n, rfl⟩ := Int.eq_ofNat_of_zero_le h0
      refine ⟨?_, ?_, ?_⟩
      · rw [Int.natAbs_natCast]
        by_cases q : n = 0
        · subst q; decide
        · exact (Nat.log2_lt q).mpr (Nat.lt_of_lt_of_le (by omega : n < 4294967296) (Nat.le_trans (by decide : 4294967296 ≤ 2 ^ 32) (Nat.pow_le_pow_right (by decide) (by decide))))
      · show 0 < (dig n).length
        rw [str_ln, dig_tl]
        exact List.length_pos_iff.mpr (TL.numL_ne n)
      · show (dig n).length ≤ 2000
        rw [str_ln, dig_tl]
        exact Nat.le_trans (TL.numL_len (k := 10) (by decide) (by omega)) (by decide)
    have i1 := itx_ok (f.ss.map (loO f.es)).sum hlo.1 (by omega)
    have i2 := itx_ok (f.ss.map (hiO f.es)).sum hhi.1 (by omega)
    rw [show [D.int (f.ss.map (loO f.es)).sum, D.int (f.ss.map (hiO f.es)).sum] = [(f.ss.map (loO f.es)).sum, (f.ss.map (hiO f.es)).sum].map D.int from rfl]
    refine lc_tm (enc := D.int) (fun i => .str (itx i)) (le_line (by simp)) ?_ ?_
    · intro j i μ' R hs sb hR
      walk_at "dz"
      have hm := (getS hs).2
      simp only [List.mem_cons, List.not_mem_nil, or_false] at hm
      rcases hm with rfl | rfl
      · exact ⟨i1.1, hR⟩
      · exact ⟨i2.1, hR⟩
    · intro L hL
      rw [delS_setS hL]
      refine ⟨[itx (f.ss.map (loO f.es)).sum, itx (f.ss.map (hiO f.es)).sum], rfl, fun y hy => ?_, by simp, ret_eq ?_⟩
      · simp only [List.mem_cons, List.not_mem_nil, or_false] at hy
        rcases hy with rfl | rfl
        · exact i1.2
        · exact i2.2
      · rw [if_neg (by simp)]
        exact k
  · rw [if_neg (by decide +kernel), if_neg (by decide +kernel), if_pos rfl]
    walk_at "dz"
    rw [fld_ref h.at_, lkd_g]
    refine ⟨kf.o_Desk_going, ?_⟩
    walk_at "dz"
    rw [fld_ref hled, lkl_fb]
    refine ⟨kf.o_Ledger_book, ?_⟩
    walk_at "dz"
    intro xw hxw
    refine ⟨xw, .add, none, none, rfl, (fun l e => by cases e), setS_same, rfl, _, setS_same, ?_⟩
    rw [setS_setS, delS_setS hxw]
    refine ⟨f.es, W0, rfl, hf.good, ?_⟩
    walk_at "dz"
    have hfl := frs_len f.es W0
    have h256 := Nat.mul_le_mul hf.es16 hf.es16
    have hsm := frs_small hf.good (w := W0)
    refine lc_tm (enc := prD) (fun p => .str (dig p.1 ++ Str.ofString ">" ++ dig p.2)) (le_line (by omega)) ?_ ?_
    · intro i p μ' R hs sb hR
      obtain ⟨p1, p2⟩ := hsm p (getS hs).2
      have d1 := dg p.1 p1
      have d2 := dg p.2 p2
      have hl : (Str.ofString ">").length = 1 := by decide +kernel
      unfold prD
      walk_at "dz"
      have e1 : (Str.ofString (toString ((p.1 : Nat) : Int))) = dig p.1 := rfl
      have e2 : (Str.ofString (toString ((p.2 : Nat) : Int))) = dig p.2 := rfl
      simp only [e1, e2, str_emp, str_app_len, hl]
      refine ⟨rfl, log_small p1, ?_⟩
      repeat (first | exact hR | refine ⟨by first | exact log_small p2 | exact le_line (by omega), ?_⟩)
    · intro L hL
      rw [delS_setS hL]
      refine ⟨(frs f.es W0).map fun p => dig p.1 ++ Str.ofString ">" ++ dig p.2, by rw [List.map_map]; rfl, fun y hy => ?_, by rw [List.length_map]; omega, ?_⟩
      rotate_left
      · unfold frdT spk at k
        exact ret_eq k
      obtain ⟨p, hp, rfl⟩ := List.mem_map.mp hy
      obtain ⟨p1, p2⟩ := hsm p hp
      have d1 := dig_len p1
      have d2 := dig_len p2
      have hl : (Str.ofString ">").length = 1 := by decide +kernel
      simp only [str_app_len, hl]
      omega
  · rw [if_neg (by decide +kernel), if_neg (by decide +kernel), if_neg (by decide +kernel), if_pos rfl]
    walk_at "dz"
    rw [fld_ref h.at_, lkd_g]
    refine ⟨kf.o_Desk_going, ?_⟩
    walk_at "dz"
    rw [fld_ref hled, lkl_fb]
    refine ⟨kf.o_Ledger_book, ?_⟩
    walk_at "dz"
    refine ⟨f.es, rfl, hf.good, hf.es16, fun P => ?_⟩
    walk_at "dz"
    have h1 := (apE_sub (es := f.es)).length_le
    have h2 := hf.es16
    have h3 : (nmV f.es).length = f.es.length := by unfold nmV; rw [List.length_map]
    rw [List.length_map]
    exact ⟨log_small (by omega), ret_eq (k P)⟩
  · rw [if_neg (by decide +kernel), if_neg (by decide +kernel), if_neg (by decide +kernel), if_neg (by decide +kernel), if_pos rfl]
    walk_at "dz"
    rw [mth_ref h.at_]
    refine ⟨rfl, lkd_no (.inr (.inr (.inr (.inl rfl)))), a, y, r, f :: S, rfl, h, by rw [List.length_cons]; omega, ?_⟩
    rcases k with ⟨e, k⟩ | ⟨S', e, k⟩
    · refine .inl ⟨e, ?_⟩
      walk_at "dz"
      exact ret_eq k
    · refine .inr ⟨S', e, fun y' r' μ' hD hz hk => ?_⟩
      walk_at "dz"
      exact ret_eq (k y' r' μ' hD hz hk)
theorem met_Desk_alone_2 (T : Txt K mg c) : DMet P w K mg base 23 c.Desk "alone" (sp_Desk_alone c) [] := by
  have D := T.f_Desk_alone
  exact D.met T.k_Desk.cl sc_Desk_alone (len_Desk_alone c) (fun cdv A outer s H E hr => dv_Desk_alone T cdv A outer s H E hr) (rd_Desk_alone K c T.kf) (fun F => F.binds0 (ps := ["self", "word"]) fun _ _ _ _ _ _ us hl => match us, hl with | [_, _], _ => rfl) (dvs := []) (.nil) (fun _ => .nil)
end
noncomputable def sp_Book_xlen (c : Cs) : DSp := fun ds μ Q => ∃ es : List Ent, ds = [bkD c.Book es] ∧ Good es ∧ Q (.int (es.length : Nat)) μ
theorem len_Book_xlen (c : Cs) : ∀ ds μ Q, sp_Book_xlen c ds μ Q → ds.length = 1 := by
  rintro ds μ Q ⟨es, rfl, _⟩
  rfl
noncomputable def w_Book_xlen (K : PySem.W.Frag) (c : Cs) : WS := wRet (wCB oLen (wACons (wFld K "entries" (wVar 0)) (wANil)))
section
variable {P : Program} {w : World} {K : PySem.W.Frag} {mg : Str → Option Value} {base : Heap} {c : Cs}
theorem dv_Book_xlen (T : Txt K mg c) {f : Addr} (cdv : Value) (A : Around) (outer : List PySem.Env) (s : Shared) (H : Hp) (E : XK) (hr : Room 0 (A.deeper (PyProof.Rows.envOfC "Book.__len__" (defScope s_Book_xlen) s.heap.objs.size f cdv))) : DSs (cxOf CX0 P w K mg base N_Book_xlen "Book.__len__" (defScope s_Book_xlen) f cdv A outer s H E).nox (defBody s_Book_xlen) (w_Book_xlen K c) := by
  have ND := sc_Book_xlen.nd
  have hu := hu_of hr
  have hu64 := hr.units
  have hu65 := units65 hr
  exact dss_one (ds_ret (de_callB cs_len rfl T.b_len (by decide +kernel) (da_cons (de_fld (de_var (pv 0)) rfl) (da_nil))))
theorem rd_Book_xlen (K : PySem.W.Frag) (c : Cs) (kf : Kf K c) : ∀ ds μ Q, sp_Book_xlen c ds μ Q → w_Book_xlen K c { nx := fun _ μ' => ∃ μ2, Sub μ2 μ' ∧ Q .non μ2, rt := Q } (startD N_Book_xlen ds) μ := by
  rintro ds μ Q ⟨es, rfl, ok, k⟩
  show w_Book_xlen K c _ [some (bkD c.Book es)] μ
  unfold w_Book_xlen bkD bkF
  walk_at "dz"
  rw [lk_ent]
  refine ⟨kf.o_Book_entries, ?_⟩
  walk_at "dz"
  rw [List.length_map]
  exact ret_eq k
theorem met_Book_xlen_1 (T : Txt K mg c) : DMet P w K mg base 1 c.Book "__len__" (sp_Book_xlen c) [] := by
  have D := T.f_Book_xlen
  exact D.met T.k_Book.cl sc_Book_xlen (len_Book_xlen c) (fun cdv A outer s H E hr => dv_Book_xlen T cdv A outer s H E hr) (rd_Book_xlen K c T.kf) (fun F => F.binds0 (ps := ["self"]) fun _ _ _ _ _ _ us hl => match us, hl with | [_], _ => rfl) (dvs := []) (.nil) (fun _ => .nil)
end
noncomputable def sp_Desk_begin (c : Cs) : DSp := fun ds μ Q => ∃ (a y : Addr) (r : List Addr) (S : List Fr) (es : List Ent), ds = [.ref a, bkD c.Book es] ∧ DkAt c.Ledger c.Book c.Desk μ a y r S ∧ S.length ≤ 200 ∧ Good es ∧ Asc es ∧ es.length ≤ 16 ∧ ∀ y' μ', μ y' = none → DkAt c.Ledger c.Book c.Desk μ' a y' (y :: r) (bkFr es :: S) → Kps a [] μ μ' → Q (.str (dig es.length)) μ'
theorem len_Desk_begin (c : Cs) : ∀ ds μ Q, sp_Desk_begin c ds μ Q → ds.length = 2 := by
  rintro ds μ Q ⟨a, y, r, S, es, rfl, _⟩
  rfl
noncomputable def w_Desk_begin (K : PySem.W.Frag) (c : Cs) : WS := wSeq (wSetF K "elders" (wVar 0) (wTup (wAStar (wFld K "elders" (wVar 0)) (wACons (wFld K "going" (wVar 0)) (wANil))))) (wSeq (wSetF K "going" (wVar 0) (wMakeM c.Ledger (sp_Ledger_xinit c) [] (wACons (wVar 1) (wANil)))) (wSeq (wSetF K "deeds" (wVar 0) (wTup (wAStar (wFld K "deeds" (wVar 0)) (wACons (wC (.str "book")) (wANil))))) (wRet (wCB oStr (wACons (wCB (oLenOwn c.Book (sp_Book_xlen c)) (wACons (wVar 1) (wANil))) (wANil))))))
section
variable {P : Program} {w : World} {K : PySem.W.Frag} {mg : Str → Option Value} {base : Heap} {c : Cs}
theorem dv_Desk_begin (T : Txt K mg c) {f : Addr} (cdv : Value) (A : Around) (outer : List PySem.Env) (s : Shared) (H : Hp) (E : XK) (hr : Room 8 (A.deeper (PyProof.Rows.envOfC "Desk.begin" (defScope s_Desk_begin) s.heap.objs.size f cdv))) : DSs (cxOf CX0 P w K mg base N_Desk_begin "Desk.begin" (defScope s_Desk_begin) f cdv A outer s H E).nox (defBody s_Desk_begin) (w_Desk_begin K c) := by
  have ND := sc_Desk_begin.nd
  have hu := hu_of hr
  have hu64 := hr.units
  have hu65 := units65 hr
  exact dss_cons (ds_fld (de_var (pv 0)) (de_tup (da_star (de_fld (de_var (pv 0)) rfl) (da_cons (de_fld (de_var (pv 0)) rfl) (da_nil))))) (dss_cons (ds_fld (de_var (pv 0)) (de_makM (mak_Ledger_xinit_2 T) hr (by decide) rfl (da_cons (de_var (pv 1)) (da_nil)))) (dss_cons (ds_fld (de_var (pv 0)) (de_tup (da_star (de_fld (de_var (pv 0)) rfl) (da_cons (de_str) (da_nil))))) (dss_one (ds_ret (de_callTy cs_str rfl T.b_str (by decide +kernel) (da_cons (de_callB (cs_lenOwn (met_Book_xlen_1 T) hr (by decide)) rfl T.b_len (by decide +kernel) (da_cons (de_var (pv 1)) (da_nil))) (da_nil)))))))
theorem rd_Desk_begin (K : PySem.W.Frag) (c : Cs) (kf : Kf K c) : ∀ ds μ Q, sp_Desk_begin c ds μ Q → w_Desk_begin K c { nx := fun _ μ' => ∃ μ2, Sub μ2 μ' ∧ Q .non μ2, rt := Q } (startD N_Desk_begin ds) μ := by
  rintro ds μ Q ⟨a, y, r, S, es, rfl, h, hS, ok, asc, h16, k⟩
  show w_Desk_begin K c _ [some (.ref a), some (bkD c.Book es)] μ
  unfold w_Desk_begin
  walk_at "dz"
  have hS0 : S ≠ [] := by rintro rfl; exact h.led
  have hlen := h.led.len
  have hdl := deeds_le h.ok
  simp only [List.length_cons] at hlen
  rw [fld_ref h.at_, lkd_e]
  refine ⟨kf.o_Desk_elders, ?_⟩
  walk_at "dz"
  rw [fld_ref h.at_, lkd_g]
  refine ⟨kf.o_Desk_going, ?_⟩
  walk_at "dz"
  rw [stf_ref h.at_]
  refine ⟨le_line (by rw [List.length_append, List.length_map, List.length_reverse]; simp only [List.length_singleton]; omega), kf.o_Desk_elders, Nat.le_of_ble_eq_true rfl, ?_⟩
  intro x hx
  have hxa : x ≠ a := by rintro rfl; rw [setS_same] at hx; cases hx
  rw [setS_ne hxa] at hx
  refine ⟨x, es, rfl, ok, setS_same, rfl, ?_⟩
  rw [setS_setS, stf_ref (by rw [setS_ne (Ne.symm hxa)]; exact setS_same), setS_aba]
  refine ⟨kf.o_Desk_going, Nat.le_of_ble_eq_true rfl, ?_⟩
  rw [fld_ref setS_same]
  refine ⟨kf.o_Desk_deeds, ?_⟩
  rw [show look (put (put (dkF y r.reverse (deedsS S)) "elders" (.tup (r.reverse.map .ref ++ [.ref y]))) "going" (.ref x)) "deeds" = some (.tup ((deedsS S).map .str)) from rfl]
  walk_at "dz"
  rw [stf_ref setS_same, setS_setS]
  refine ⟨le_line (by rw [List.length_append, List.length_map]; simp only [List.length_singleton]; omega), kf.o_Desk_deeds, Nat.le_of_ble_eq_true rfl, ?_⟩
  have e1 : put (put (put (dkF y r.reverse (deedsS S)) "elders" (.tup (r.reverse.map .ref ++ [.ref y]))) "going" (.ref x)) "deeds" (.tup ((deedsS S).map .str ++ [.str (Str.ofString "book")])) = dkF x (y :: r).reverse (deedsS (bkFr es :: S)) := by
    obtain ⟨g, S, rfl⟩ : ∃ g S', S = g :: S' := by cases S with | nil => exact absurd rfl hS0 | cons g S => exact ⟨g, S, rfl⟩
    rw [deeds_book]
    unfold dkF
    rw [List.reverse_cons, List.map_append, List.map_append]
    rfl
  refine ⟨bkD c.Book es, _, rfl, rfl, es, rfl, ok, ((es.length : Nat) : Int), rfl, ⟨by omega, by omega⟩, ?_⟩
  walk_at "dz"
  refine ⟨log_small (by omega), ret_eq ?_⟩
  have e1' := congrArg (fun z => setS (setS μ x (.ins c.Ledger (ldF c.Book es [] []))) a (.ins c.Desk z)) e1
  refine (congrArg (fun z => Q (.str (dig es.length)) z) e1').mpr ?_
  obtain ⟨h1, h2⟩ := dk_begin h hx (bk_ok ok asc h16)
  exact k x _ hx h1 h2
theorem met_Desk_begin_2 (T : Txt K mg c) : DMet P w K mg base 9 c.Desk "begin" (sp_Desk_begin c) [] := by
  have D := T.f_Desk_begin
  exact D.met T.k_Desk.cl sc_Desk_begin (len_Desk_begin c) (fun cdv A outer s H E hr => dv_Desk_begin T cdv A outer s H E hr) (rd_Desk_begin K c T.kf) (fun F => F.binds0 (ps := ["self", "book"]) fun _ _ _ _ _ _ us hl => match us, hl with | [_, _], _ => rfl) (dvs := []) (.nil) (fun _ => .nil)
end
noncomputable def sp_with_notch (c : Cs) : DSp := fun ds μ Q => ∃ (s : List Bool) (i : Nat), ds = [.str (stk s), .int (i : Nat)] ∧ s.length ≤ 1000 ∧ i < s.length ∧ Q (.str (stk (s.set i true))) μ
theorem len_with_notch (c : Cs) : ∀ ds μ Q, sp_with_notch c ds μ Q → ds.length = 2 := by
  rintro ds μ Q ⟨s, i, rfl, _⟩
  rfl
noncomputable def w_with_notch (K : PySem.W.Frag) (c : Cs) : WS := wRet (wJoin [wFmt (wSl (wVar 0) (wNoP) (wPart (wVar 1))), wFmt (wC (.str "x")), wFmt (wSl (wVar 0) (wPart (wOp oAdd (wVar 1) (wC (.int 1)))) (wNoP))])
section
variable {P : Program} {w : World} {K : PySem.W.Frag} {mg : Str → Option Value} {base : Heap} {c : Cs}
theorem dv_with_notch (T : Txt K mg c) {f : Addr} (cdv : Value) (A : Around) (outer : List PySem.Env) (s : Shared) (H : Hp) (E : XK) (hr : Room 0 (A.deeper (PyProof.Rows.envOfC "with_notch" (defScope s_with_notch) s.heap.objs.size f cdv))) : DSs (cxOf CX0 P w K mg base N_with_notch "with_notch" (defScope s_with_notch) f cdv A outer s H E).nox (defBody s_with_notch) (w_with_notch K c) := by
  have ND := sc_with_notch.nd
  have hu := hu_of hr
  have hu64 := hr.units
  have hu65 := units65 hr
  exact dss_one (ds_ret (de_joined (.cons (de_fmt (de_sl (de_var (pv 0)) (dp_none) (dp_some (de_var (pv 1))))) (.cons (de_fmt (de_gs T.c_NOTCHED)) (.cons (de_fmt (de_sl (de_var (pv 0)) (dp_some (de_op os_add (de_var (pv 1)) (de_int))) (dp_none))) (.nil))))))
theorem rd_with_notch (K : PySem.W.Frag) (c : Cs) : ∀ ds μ Q, sp_with_notch c ds μ Q → w_with_notch K c { nx := fun _ μ' => ∃ μ2, Sub μ2 μ' ∧ Q .non μ2, rt := Q } (startD N_with_notch ds) μ := by
  rintro ds μ Q ⟨s, i, rfl, hs, hi, k⟩
  show w_with_notch K c _ [some (.str (stk s)), some (.int (i : Nat))] μ
  unfold w_with_notch
  walk_at "dz"
  have e0 : (Str.empty : Str) = stk [] := rfl
  have e1 : ((i : Int) + 1) = ((i + 1 : Nat) : Int) := by omega
  have e2 : s.take i ++ [true] ++ s.drop (i + 1) = s.set i true := by rw [List.append_assoc]; exact set_parts s i true hi
  rw [e1, cut_any, cutd_any, show (Str.ofString "x" : Str) = stk [true] from stk_x, e0, stk_app, stk_app, stk_app, List.nil_append, e2]
  simp only [stk_len]
  have h1 : (s.take i).length ≤ s.length := List.length_take_le' i s
  have h2 : (s.drop (i + 1)).length ≤ s.length := by rw [List.length_drop]; omega
  refine ⟨le_line (by omega), le_line (by omega), le_line (by omega), le_line (by decide), le_line (by rw [List.length_append, List.length_singleton]; omega), le_line (by omega), le_line (by omega), le_line (by rw [List.length_set]; omega), ret_eq k⟩
theorem cal_with_notch (T : Txt K mg c) : DCal P w K mg base 1 "with_notch" (sp_with_notch c) [] := T.f_with_notch.cal (ps := ["stick", "place"]) sc_with_notch (len_with_notch c) (fun cdv A outer s H E hr => dv_with_notch T cdv A outer s H E hr) (rd_with_notch K c) fun _ _ _ _ _ _ us hl => match us, hl with | [_, _], _ => rfl
end
noncomputable def sp_Ledger_go_on (c : Cs) : DSp := fun ds μ Q => ∃ (x : Addr) (es : List Ent) (past : List (List (List Bool))) (ss ss' : List (List Bool)), ds = [.ref x, skD ss'] ∧ Good es ∧ AllOk es ss' ∧ past.length ≤ 1000 ∧ μ x = some (.ins c.Ledger (ldF c.Book es past ss)) ∧ Q .non (setS μ x (.ins c.Ledger (ldF c.Book es (past ++ [ss]) ss')))
theorem len_Ledger_go_on (c : Cs) : ∀ ds μ Q, sp_Ledger_go_on c ds μ Q → ds.length = 2 := by
  rintro ds μ Q ⟨x, es, past, ss, ss', rfl, _⟩
  rfl
noncomputable def w_Ledger_go_on (K : PySem.W.Frag) (c : Cs) : WS := wSeq (wSetF K "past" (wVar 0) (wTup (wAStar (wFld K "past" (wVar 0)) (wACons (wFld K "sticks" (wVar 0)) (wANil))))) (wDrop (wMeth c.Ledger "show" (sp_Ledger_show c) [] (wVar 0) (wACons (wVar 1) (wANil))))
section
variable {P : Program} {w : World} {K : PySem.W.Frag} {mg : Str → Option Value} {base : Heap} {c : Cs}
theorem dv_Ledger_go_on (T : Txt K mg c) {f : Addr} (cdv : Value) (A : Around) (outer : List PySem.Env) (s : Shared) (H : Hp) (E : XK) (hr : Room 6 (A.deeper (PyProof.Rows.envOfC "Ledger.go_on" (defScope s_Ledger_go_on) s.heap.objs.size f cdv))) : DSs (cxOf CX0 P w K mg base N_Ledger_go_on "Ledger.go_on" (defScope s_Ledger_go_on) f cdv A outer s H E).nox (defBody s_Ledger_go_on) (w_Ledger_go_on K c) := by
  have ND := sc_Ledger_go_on.nd
  have hu := hu_of hr
  have hu64 := hr.units
  have hu65 := units65 hr
  exact dss_cons (ds_fld (de_var (pv 0)) (de_tup (da_star (de_fld (de_var (pv 0)) rfl) (da_cons (de_fld (de_var (pv 0)) rfl) (da_nil))))) (dss_one (ds_expr (de_met (met_Ledger_show_2 T) hr (by decide) (de_var (pv 0)) (da_cons (de_var (pv 1)) (da_nil)))))
theorem rd_Ledger_go_on (K : PySem.W.Frag) (c : Cs) (kf : Kf K c) : ∀ ds μ Q, sp_Ledger_go_on c ds μ Q → w_Ledger_go_on K c { nx := fun _ μ' => ∃ μ2, Sub μ2 μ' ∧ Q .non μ2, rt := Q } (startD N_Ledger_go_on ds) μ := by
  rintro ds μ Q ⟨x, es, past, ss, ss', rfl, ok, hss, hp, hx, k⟩
  show w_Ledger_go_on K c _ [some (.ref x), some (skD ss')] μ
  unfold w_Ledger_go_on
  walk_at "dz"
  rw [fld_ref hx, lkl_fp]
  refine ⟨kf.o_Ledger_past, ?_⟩
  unfold paL
  walk_at "dz"
  rw [fld_ref hx, lkl_s]
  refine ⟨kf.o_Ledger_sticks, ?_⟩
  walk_at "dz"
  rw [stf_ref hx, show (past.map skD ++ [skD ss]) = (past ++ [ss]).map skD by rw [List.map_append]; rfl]
  refine ⟨le_line (by rw [List.length_map, List.length_append, List.length_singleton]; omega), kf.o_Ledger_past, Nat.le_of_ble_eq_true rfl, ?_⟩
  rw [show put (ldF c.Book es past ss) "past" (.tup ((past ++ [ss]).map skD)) = ldF c.Book es (past ++ [ss]) ss from rfl]
  rw [mth_ref setS_same]
  refine ⟨rfl, lkl_no (.inl rfl), x, es, past ++ [ss], ss', _, rfl, ok, hss, .inr ⟨_, _, _, rfl⟩, setS_same, ?_⟩
  rw [setS_setS]
  exact end_eq k
theorem met_Ledger_go_on_2 (T : Txt K mg c) : DMet P w K mg base 7 c.Ledger "go_on" (sp_Ledger_go_on c) [] := by
  have D := T.f_Ledger_go_on
  exact D.met T.k_Ledger.cl sc_Ledger_go_on (len_Ledger_go_on c) (fun cdv A outer s H E hr => dv_Ledger_go_on T cdv A outer s H E hr) (rd_Ledger_go_on K c T.kf) (fun F => F.binds0 (ps := ["self", "sticks"]) fun _ _ _ _ _ _ us hl => match us, hl with | [_, _], _ => rfl) (dvs := []) (.nil) (fun _ => .nil)
end
noncomputable def sp_Ledger_notch (c : Cs) : DSp := fun ds μ Q => ∃ (x : Addr) (es : List Ent) (past : List (List (List Bool))) (ss : List (List Bool)) (at' i : Nat) (s : List Bool), ds = [.ref x, .int (at' : Nat), .int (i : Nat)] ∧ Good es ∧ AllOk es ss ∧ past.length ≤ 1000 ∧ ss[at']? = some s ∧ s[i]? = some false ∧ μ x = some (.ins c.Ledger (ldF c.Book es past ss)) ∧ Q .non (setS μ x (.ins c.Ledger (ldF c.Book es (past ++ [ss]) (ss.set at' (s.set i true)))))
theorem len_Ledger_notch (c : Cs) : ∀ ds μ Q, sp_Ledger_notch c ds μ Q → ds.length = 3 := by
  rintro ds μ Q ⟨x, es, past, ss, at', i, s, rfl, _⟩
  rfl
noncomputable def w_Ledger_notch_t1 (K : PySem.W.Frag) (c : Cs) : WS := wDrop (wMeth c.Ledger "go_on" (sp_Ledger_go_on c) [] (wVar 0) (wACons (wTup (wAStar (wSl (wFld K "sticks" (wVar 0)) (wNoP) (wPart (wVar 1))) (wACons (wCall (sp_with_notch c) [] (wACons (wVar 3) (wACons (wVar 2) (wANil)))) (wAStar (wSl (wFld K "sticks" (wVar 0)) (wPart (wOp oAdd (wVar 1) (wC (.int 1)))) (wNoP)) (wANil))))) (wANil)))
noncomputable def w_Ledger_notch_t2 (K : PySem.W.Frag) (c : Cs) : WS := wSeq (wAsg (wIx (wFld K "sticks" (wVar 0)) (wVar 1)) (wgName 3)) (wSeq (wIfS (wOr (wNt (wTrv (wCall (sp_is_integer c) [] (wACons (wVar 2) (wANil))))) (wOr (wNt (wB (wChain oLe oLt (wC (.int 0)) (wVar 2) (wCB oLen (wACons (wVar 3) (wANil)))))) (wB (wOp oNe (wIx (wVar 3) (wVar 2)) (wC (.str ".")))))) (wNever) (wNext)) (w_Ledger_notch_t1 K c))
noncomputable def w_Ledger_notch (K : PySem.W.Frag) (c : Cs) : WS := wSeq (wIfS (wOr (wNt (wTrv (wCall (sp_is_integer c) [] (wACons (wVar 1) (wANil))))) (wNt (wB (wChain oLe oLt (wC (.int 0)) (wVar 1) (wCB oLen (wACons (wFld K "sticks" (wVar 0)) (wANil))))))) (wNever) (wNext)) (w_Ledger_notch_t2 K c)
section
variable {P : Program} {w : World} {K : PySem.W.Frag} {mg : Str → Option Value} {base : Heap} {c : Cs}
theorem dv_Ledger_notch (T : Txt K mg c) {f : Addr} (cdv : Value) (A : Around) (outer : List PySem.Env) (s : Shared) (H : Hp) (E : XK) (hr : Room 7 (A.deeper (PyProof.Rows.envOfC "Ledger.notch" (defScope s_Ledger_notch) s.heap.objs.size f cdv))) : DSs (cxOf CX0 P w K mg base N_Ledger_notch "Ledger.notch" (defScope s_Ledger_notch) f cdv A outer s H E).nox (defBody s_Ledger_notch) (w_Ledger_notch K c) := by
  have ND := sc_Ledger_notch.nd
  have hu := hu_of hr
  have hu64 := hr.units
  have hu65 := units65 hr
  exact dss_cons (ds_if (dt_w (dw_or (dt_not (dt_tru (de_cal (cal_is_integer T) hr (by decide) rfl (da_cons (de_var (pv 1)) (da_nil))) (fun _ => rfl))) (dw_or1 (dt_not (dt_chain os_le os_lt (de_int) (de_var (pv 1)) (de_callB cs_len rfl T.b_len (by decide +kernel) (da_cons (de_fld (de_var (pv 0)) rfl) (da_nil))) (by rfl)))))) (dss_one (ds_never)) (dss_nil)) (dss_cons (ds_set (i := 3) ND rfl (Or.inl rfl) (de_ix hu (de_fld (de_var (pv 0)) rfl) (de_var (pv 1)) (fun _ _ => rfl))) (dss_cons (ds_if (dt_w (dw_or (dt_not (dt_tru (de_cal (cal_is_integer T) hr (by decide) rfl (da_cons (de_var (pv 2)) (da_nil))) (fun _ => rfl))) (dw_or (dt_not (dt_chain os_le os_lt (de_int) (de_var (pv 2)) (de_callB cs_len rfl T.b_len (by decide +kernel) (da_cons (de_var (pv 3)) (da_nil))) (by rfl))) (dw_or1 (dt_cmp (os_ne hu64) (de_ix hu (de_var (pv 3)) (de_var (pv 2)) (fun _ _ => rfl)) (de_gs T.c_PLAIN) (nomark _)))))) (dss_one (ds_never)) (dss_nil)) (dss_one (ds_expr (de_met (met_Ledger_go_on_2 T) hr (by decide) (de_var (pv 0)) (da_cons (de_tup (da_star (de_sl (de_fld (de_var (pv 0)) rfl) (dp_none) (dp_some (de_var (pv 1)))) (da_cons (de_cal (cal_with_notch T) hr (by decide) rfl (da_cons (de_var (pv 3)) (da_cons (de_var (pv 2)) (da_nil)))) (da_star (de_sl (de_fld (de_var (pv 0)) rfl) (dp_some (de_op os_add (de_var (pv 1)) (de_int))) (dp_none)) (da_nil))))) (da_nil)))))))
theorem rd_Ledger_notch (K : PySem.W.Frag) (c : Cs) (kf : Kf K c) : ∀ ds μ Q, sp_Ledger_notch c ds μ Q → w_Ledger_notch K c { nx := fun _ μ' => ∃ μ2, Sub μ2 μ' ∧ Q .non μ2, rt := Q } (startD N_Ledger_notch ds) μ := by
  rintro ds μ Q ⟨x, es, past, ss, at', i, s, rfl, ok, hss, hp, hat, hi, hx, k⟩
  show w_Ledger_notch K c _ [some (.ref x), some (.int (at' : Nat)), some (.int (i : Nat)), none] μ
  obtain ⟨hal, hae⟩ := List.getElem?_eq_some_iff.mp hat
  obtain ⟨hil, hie⟩ := List.getElem?_eq_some_iff.mp hi
  have hsk := hss.2 s (List.mem_of_getElem? hat)
  unfold w_Ledger_notch
  walk_at "dz"
  refine ⟨_, rfl, ?_⟩
  walk_at "dz"
  rw [fld_ref hx, lkl_s]
  refine ⟨kf.o_Ledger_sticks, ?_⟩
  unfold skD
  walk_at "dz"
  rw [List.length_map, if_neg (fun q => q (by omega))]
  unfold w_Ledger_notch_t2
  walk_at "dz"
  rw [fld_ref hx, lkl_s]
  refine ⟨kf.o_Ledger_sticks, ?_⟩
  unfold skD
  walk_at "dz"
  rw [show atI (ss.map sD) ((at' : Nat) : Int) = some (.str (stk s)) by refine atI_nat (j := at') ?_; rw [List.getElem?_map, hat]; rfl]
  walk_at "dz"
  refine ⟨_, rfl, ?_⟩
  walk_at "dz"
  rw [stk_len]
  refine ⟨le_line (by have := hsk.2.1; omega), ?_⟩
  rw [if_neg (fun q => q (by omega))]
  rw [stk_at hi]
  refine ⟨le_line (by have := hsk.2.1; omega), ?_⟩
  rw [if_neg (by decide +kernel)]
  unfold w_Ledger_notch_t1
  walk_at "dz"
  rw [mth_ref hx, fld_ref hx, lkl_s]
  refine ⟨rfl, lkl_no (.inr (.inl rfl)), kf.o_Ledger_sticks, ?_⟩
  unfold skD
  walk_at "dz"
  refine ⟨s, i, rfl, hsk.2.1, hil, ?_⟩
  walk_at "dz"
  rw [fld_ref hx, lkl_s]
  refine ⟨kf.o_Ledger_sticks, ?_⟩
  unfold skD
  walk_at "dz"
  have e1 : ((at' : Int) + 1) = ((at' + 1 : Nat) : Int) := by omega
  rw [e1]
  try rw [sl_tup]
  rw [cutD_drop]
  walk_at "dz"
  have e2 : (ss.map sD).take at' ++ D.str (stk (s.set i true)) :: ((ss.map sD).drop (at' + 1) ++ []) = (ss.set at' (s.set i true)).map sD := by
    rw [List.append_nil, ← List.map_take, ← List.map_drop, ← set_parts ss at' (s.set i true) hal, List.map_append, List.map_cons]
    rfl
  rw [e2]
  refine ⟨le_line (by rw [List.length_map, List.length_set]; have := hss.1; omega), x, es, past, ss, _, rfl, ok, ⟨by rw [List.length_set]; exact hss.1, fun t ht => ?_⟩, hp, hx, end_eq k⟩
  rcases List.mem_or_eq_of_mem_set ht with q | rfl
  · exact hss.2 t q
  · exact sok_set ok hsk i
theorem met_Ledger_notch_3 (T : Txt K mg c) : DMet P w K mg base 8 c.Ledger "notch" (sp_Ledger_notch c) [] := by
  have D := T.f_Ledger_notch
  exact D.met T.k_Ledger.cl sc_Ledger_notch (len_Ledger_notch c) (fun cdv A outer s H E hr => dv_Ledger_notch T cdv A outer s H E hr) (rd_Ledger_notch K c T.kf) (fun F => F.binds0 (ps := ["self", "at", "place"]) fun _ _ _ _ _ _ us hl => match us, hl with | [_, _, _], _ => rfl) (dvs := []) (.nil) (fun _ => .nil)
end
noncomputable def sp_Ledger_write (c : Cs) : DSp := fun ds μ Q => ∃ (x : Addr) (es : List Ent) (past : List (List (List Bool))) (ss : List (List Bool)) (e : Ent), ds = [.ref x, .int (e.1 : Nat)] ∧ Good es ∧ e ∈ es ∧ AllOk es ss ∧ ss.length ≤ 900 ∧ past.length ≤ 1000 ∧ μ x = some (.ins c.Ledger (ldF c.Book es past ss)) ∧ Q .non (setS μ x (.ins c.Ledger (ldF c.Book es (past ++ [ss]) (ss ++ [e.2]))))
theorem len_Ledger_write (c : Cs) : ∀ ds μ Q, sp_Ledger_write c ds μ Q → ds.length = 2 := by
  rintro ds μ Q ⟨x, es, past, ss, e, rfl, _⟩
  rfl
noncomputable def w_Ledger_write (K : PySem.W.Frag) (c : Cs) : WS := wDrop (wMeth c.Ledger "go_on" (sp_Ledger_go_on c) [] (wVar 0) (wACons (wTup (wAStar (wFld K "sticks" (wVar 0)) (wACons (wMeth c.Book "stick_of" (sp_Book_stick_of c) [] (wFld K "book" (wVar 0)) (wACons (wVar 1) (wANil))) (wANil)))) (wANil)))
section
variable {P : Program} {w : World} {K : PySem.W.Frag} {mg : Str → Option Value} {base : Heap} {c : Cs}
theorem dv_Ledger_write (T : Txt K mg c) {f : Addr} (cdv : Value) (A : Around) (outer : List PySem.Env) (s : Shared) (H : Hp) (E : XK) (hr : Room 7 (A.deeper (PyProof.Rows.envOfC "Ledger.write" (defScope s_Ledger_write) s.heap.objs.size f cdv))) : DSs (cxOf CX0 P w K mg base N_Ledger_write "Ledger.write" (defScope s_Ledger_write) f cdv A outer s H E).nox (defBody s_Ledger_write) (w_Ledger_write K c) := by
  have ND := sc_Ledger_write.nd
  have hu := hu_of hr
  have hu64 := hr.units
  have hu65 := units65 hr
  exact dss_one (ds_expr (de_met (met_Ledger_go_on_2 T) hr (by decide) (de_var (pv 0)) (da_cons (de_tup (da_star (de_fld (de_var (pv 0)) rfl) (da_cons (de_met (met_Book_stick_of_2 T) hr (by decide) (de_fld (de_var (pv 0)) rfl) (da_cons (de_var (pv 1)) (da_nil))) (da_nil)))) (da_nil))))
theorem rd_Ledger_write (K : PySem.W.Frag) (c : Cs) (kf : Kf K c) : ∀ ds μ Q, sp_Ledger_write c ds μ Q → w_Ledger_write K c { nx := fun _ μ' => ∃ μ2, Sub μ2 μ' ∧ Q .non μ2, rt := Q } (startD N_Ledger_write ds) μ := by
  rintro ds μ Q ⟨x, es, past, ss, e, rfl, ok, he, hss, h9, hp, hx, k⟩
  show w_Ledger_write K c _ [some (.ref x), some (.int (e.1 : Nat))] μ
  unfold w_Ledger_write
  walk_at "dz"
  rw [mth_ref hx, fld_ref hx, lkl_s]
  refine ⟨rfl, lkl_no (.inr (.inl rfl)), kf.o_Ledger_sticks, ?_⟩
  unfold skD
  walk_at "dz"
  rw [fld_ref hx, lkl_fb]
  refine ⟨kf.o_Ledger_book, ?_⟩
  unfold bkD
  walk_at "dz"
  refine ⟨by rfl, es, e, rfl, ok, he, ?_⟩
  walk_at "dz"
  rw [show (ss.map sD ++ [D.str (stk e.2)]) = (ss ++ [e.2]).map sD by rw [List.map_append]; rfl]
  refine ⟨le_line (by rw [List.length_map, List.length_append, List.length_singleton]; omega), x, es, past, ss, ss ++ [e.2], rfl, ok, ⟨by rw [List.length_append, List.length_singleton]; omega, fun s hs => ?_⟩, hp, hx, end_eq k⟩
  rcases List.mem_append.mp hs with q | q
  · exact hss.2 s q
  · simp only [List.mem_singleton] at q
    subst q
    exact sok_in ok he
theorem met_Ledger_write_2 (T : Txt K mg c) : DMet P w K mg base 8 c.Ledger "write" (sp_Ledger_write c) [] := by
  have D := T.f_Ledger_write
  exact D.met T.k_Ledger.cl sc_Ledger_write (len_Ledger_write c) (fun cdv A outer s H E hr => dv_Ledger_write T cdv A outer s H E hr) (rd_Ledger_write K c T.kf) (fun F => F.binds0 (ps := ["self", "value"]) fun _ _ _ _ _ _ us hl => match us, hl with | [_, _], _ => rfl) (dvs := []) (.nil) (fun _ => .nil)
end
noncomputable def sp_Desk_say (c : Cs) : DSp := fun ds μ Q => ∃ (a y : Addr) (r : List Addr) (f : Fr) (S : List Fr) (ws : List Str), ds = [.ref a, .str (jw ws)] ∧ DkAt c.Ledger c.Book c.Desk μ a y r (f :: S) ∧ S.length < 199 ∧ Wds ws ∧ (jw ws).length ≤ 100000 ∧ SayD c.Ledger c.Book c.Desk a y r f S ws μ Q
theorem len_Desk_say (c : Cs) : ∀ ds μ Q, sp_Desk_say c ds μ Q → ds.length = 2 := by
  rintro ds μ Q ⟨a, y, r, f, S, ws, rfl, _⟩
  rfl
noncomputable def w_Desk_say_t1 (K : PySem.W.Frag) (c : Cs) : WS := wRet (wMeth c.Desk "alone" (sp_Desk_alone c) [] (wVar 0) (wACons (wVar 2) (wANil)))
noncomputable def w_Desk_say_t2 (K : PySem.W.Frag) (c : Cs) : WS := wSeq (wIfS (wB (wOp oGt (wCB oLen (wACons (wVar 3) (wANil))) (wC (.int 0)))) (wNever) (wNext)) (w_Desk_say_t1 K c)
noncomputable def w_Desk_say (K : PySem.W.Frag) (c : Cs) : WS := wSeq (wAsg (wCall (sp_words_of c) [] (wACons (wVar 1) (wANil))) (wgStar1 2 3)) (wSeq (wMatch (wVar 2) (mGuard "book" (wB (wOp oGt (wCB oLen (wACons (wVar 3) (wANil))) (wC (.int 0)))) (wRet (wMeth c.Desk "begin" (sp_Desk_begin c) [] (wVar 0) (wACons (wCMe c.Book (sp_Book_read c) [] (wC (.ref c.Book)) (wACons (wReplC (wBM "str" oJoin (wC (.str " ")) (wACons (wVar 3) (wANil))) " ; " "\n") (wANil))) (wANil)))) ((mGuard "write" (wB (wOp oEq (wCB oLen (wACons (wVar 3) (wANil))) (wC (.int 1)))) (wSeq (wDrop (wMeth c.Ledger "write" (sp_Ledger_write c) [] (wFld K "going" (wVar 0)) (wACons (wIx (wCall (sp_numbers_told c) [] (wACons (wVar 3) (wANil))) (wC (.int 0))) (wANil)))) (wSeq (wSetF K "deeds" (wVar 0) (wTup (wAStar (wFld K "deeds" (wVar 0)) (wACons (wC (.str "write")) (wANil))))) (wRet (wFmt (wIx (wFld K "sticks" (wFld K "going" (wVar 0))) (wNeg (wC (.int 1)))))))) ((mGuard "notch" (wB (wOp oEq (wCB oLen (wACons (wVar 3) (wANil))) (wC (.int 2)))) (wSeq (wAsg (wCall (sp_numbers_told c) [] (wACons (wVar 3) (wANil))) (wgLst 2 (wgCons (wgName 4) (wgCons (wgName 5) (wgNil))))) (wSeq (wDrop (wMeth c.Ledger "notch" (sp_Ledger_notch c) [] (wFld K "going" (wVar 0)) (wACons (wVar 4) (wACons (wVar 5) (wANil))))) (wSeq (wSetF K "deeds" (wVar 0) (wTup (wAStar (wFld K "deeds" (wVar 0)) (wACons (wC (.str "notch")) (wANil))))) (wRet (wFmt (wIx (wFld K "sticks" (wFld K "going" (wVar 0))) (wVar 4))))))) ((fun _ => wNext)))))))) (w_Desk_say_t2 K c))
section
variable {P : Program} {w : World} {K : PySem.W.Frag} {mg : Str → Option Value} {base : Heap} {c : Cs}
theorem dv_Desk_say (T : Txt K mg c) {f : Addr} (cdv : Value) (A : Around) (outer : List PySem.Env) (s : Shared) (H : Hp) (E : XK) (hr : Room 23 (A.deeper (PyProof.Rows.envOfC "Desk.say" (defScope s_Desk_say) s.heap.objs.size f cdv))) : DSs (cxOf CX0 P w K mg base N_Desk_say "Desk.say" (defScope s_Desk_say) f cdv A outer s H E).nox (defBody s_Desk_say) (w_Desk_say K c) := by
  have ND := sc_Desk_say.nd
  have hu := hu_of hr
  have hu64 := hr.units
  have hu65 := units65 hr
  exact dss_cons (ds_asg (de_cal (cal_words_of T) hr (by decide) rfl (da_cons (de_var (pv 1)) (da_nil))) (dg_star1 (i := 2) (j := 3) rfl ND rfl rfl (Or.inl rfl) (Or.inl rfl))) (dss_cons (ds_match (de_var (pv 2)) (dms_guard (dt_cmp os_gt (de_callB cs_len rfl T.b_len (by decide +kernel) (da_cons (de_var (pv 3)) (da_nil))) (de_int) (nomark _)) (dss_one (ds_ret (de_met (met_Desk_begin_2 T) hr (by decide) (de_var (pv 0)) (da_cons (de_cme (cme_Book_read_2 T) hr (by decide) (de_cls T.k_Book) (da_cons (de_replB (deb_bm bm_join (deb_str) (da_cons (de_var (pv 3)) (da_nil))) (by decide +kernel)) (da_nil))) (da_nil))))) (dms_guard (dt_cmp (os_eq hu64) (de_callB cs_len rfl T.b_len (by decide +kernel) (da_cons (de_var (pv 3)) (da_nil))) (de_int) (nomark _)) (dss_cons (ds_expr (de_met (met_Ledger_write_2 T) hr (by decide) (de_fld (de_var (pv 0)) rfl) (da_cons (de_ix hu (de_cal (cal_numbers_told T) hr (by decide) rfl (da_cons (de_var (pv 3)) (da_nil))) (de_int) (fun _ _ => rfl)) (da_nil)))) (dss_cons (ds_fld (de_var (pv 0)) (de_tup (da_star (de_fld (de_var (pv 0)) rfl) (da_cons (de_str) (da_nil))))) (dss_one (ds_ret (de_joined1 (de_fmt (de_ix hu (de_fld (de_fld (de_var (pv 0)) rfl) rfl) (de_neg (de_int)) (fun _ _ => rfl)))))))) (dms_guard (dt_cmp (os_eq hu64) (de_callB cs_len rfl T.b_len (by decide +kernel) (da_cons (de_var (pv 3)) (da_nil))) (de_int) (nomark _)) (dss_cons (ds_asg (de_cal (cal_numbers_told T) hr (by decide) rfl (da_cons (de_var (pv 3)) (da_nil))) (dg_pat (vs := [4, 5]) (g := gLst K 2 (gCons (gName 4) (gCons (gName 5) (gNil)))) (pg_lst rfl (pgs_cons (pg_name (i := 4) ND rfl (by first | exact Or.inl rfl | exact Or.inr rfl)) (pgs_cons (pg_name (i := 5) ND rfl (by first | exact Or.inl rfl | exact Or.inr rfl)) (pgs_nil)))) (gp_lst (gp_cons (gp_name (by decide)) (gp_cons (gp_name (by decide)) (gp_nil)))))) (dss_cons (ds_expr (de_met (met_Ledger_notch_3 T) hr (by decide) (de_fld (de_var (pv 0)) rfl) (da_cons (de_var (pv 4)) (da_cons (de_var (pv 5)) (da_nil))))) (dss_cons (ds_fld (de_var (pv 0)) (de_tup (da_star (de_fld (de_var (pv 0)) rfl) (da_cons (de_str) (da_nil))))) (dss_one (ds_ret (de_joined1 (de_fmt (de_ix hu (de_fld (de_fld (de_var (pv 0)) rfl) rfl) (de_var (pv 4)) (fun _ _ => rfl))))))))) (dms_nil))))) (dss_cons (ds_if (dt_cmp os_gt (de_callB cs_len rfl T.b_len (by decide +kernel) (da_cons (de_var (pv 3)) (da_nil))) (de_int) (nomark _)) (dss_one (ds_never)) (dss_nil)) (dss_one (ds_ret (de_met (met_Desk_alone_2 T) hr (by decide) (de_var (pv 0)) (da_cons (de_var (pv 2)) (da_nil)))))))
theorem rd_Desk_say (K : PySem.W.Frag) (c : Cs) (kf : Kf K c) : ∀ ds μ Q, sp_Desk_say c ds μ Q → w_Desk_say K c { nx := fun _ μ' => ∃ μ2, Sub μ2 μ' ∧ Q .non μ2, rt := Q } (startD N_Desk_say ds) μ := by
  rintro ds μ Q ⟨a, y, r, f, S, ws, rfl, h, hS, hw, hl, k⟩
  show w_Desk_say K c _ [some (.ref a), some (.str (jw ws)), none, none, none, none] μ
  have hf := h.ok f List.mem_cons_self
  unfold w_Desk_say
  walk_at "dz"
  have hled := h.led.1
  unfold FLd at hled
  refine ⟨_, rfl, hl, hw.line, ?_, ?_⟩
  · rw [hw.split]; exact hw.empty
  rw [hw.split]
  rcases k with ⟨w, rfl, k⟩ | ⟨es, rfl, hne, hg, h16, k⟩ | ⟨e, he, rfl, h1, h2, k⟩ | ⟨j, i, s, rfl, hj, hi, h2, k⟩
  · refine ⟨.str w, [], rfl, ?_⟩
    have fin : w_Desk_say_t2 K c { nx := fun x μ' => ∃ μ2, Dl.Sub μ2 μ' ∧ Q D.non μ2, rt := Q } [some (.ref a), some (.str (jw [w])), some (.str w), some (.lst []), none, none] μ := by
      unfold w_Desk_say_t2
      walk_at "dz"
      unfold w_Desk_say_t1
      walk_at "dz"
      rw [mth_ref h.at_]
      refine ⟨rfl, lkd_no (.inr (.inr (.inl rfl))), a, y, r, f, S, w, rfl, h, by omega, ?_⟩
      have tl : ∀ {d : D} {μ' : Store}, Q d μ' → ∃ d' μ2, Fz d μ' d' μ2 ∧ Q d' μ2 := fun z => ret_eq z
      rcases k with ⟨e, k⟩ | ⟨e, k⟩ | ⟨e, k⟩ | ⟨e, k⟩ | ⟨e, k⟩
      · exact .inl ⟨e, tl k⟩
      · exact .inr (.inl ⟨e, tl k⟩)
      · exact .inr (.inr (.inl ⟨e, tl k⟩))
      · exact .inr (.inr (.inr (.inl ⟨e, fun P => tl (k P)⟩)))
      · refine .inr (.inr (.inr (.inr ⟨e, ?_⟩)))
        rcases k with ⟨q, k⟩ | ⟨S', q, k⟩
        · exact .inl ⟨q, tl k⟩
        · exact .inr ⟨S', q, fun y' r' μ' x1 x2 x3 => tl (k y' r' μ' x1 x2 x3)⟩
    have nb : (w ≠ Str.ofString "book" ∧ w ≠ Str.ofString "write") ∧ w ≠ Str.ofString "notch" := by
      rcases k with ⟨rfl, _⟩ | ⟨rfl, _⟩ | ⟨rfl, _⟩ | ⟨rfl, _⟩ | ⟨rfl, _⟩ <;> decide +kernel
    walk_at "dz"
    unfold wMatch
    walk_at "dz"
    refine ⟨w, rfl, ?_⟩
    unfold mGuard
    rw [if_neg nb.1.1, if_neg nb.1.2, if_neg nb.2]
    exact fin
  · refine ⟨.str sBook, (wdsE es).map .str, rfl, ?_⟩
    walk_at "dz"
    unfold wMatch
    walk_at "dz"
    refine ⟨sBook, rfl, ?_⟩
    unfold mGuard
    have hpos : 0 < (wdsE es).length := List.length_pos_iff.mpr (wds_ne hne)
    rw [if_pos (show sBook = Str.ofString "book" from rfl)]
    walk_at "dz"
    rw [List.length_map, if_pos (by omega), mth_ref h.at_]
    refine ⟨rfl, lkd_no (.inr (.inl rfl)), ?_⟩
    unfold wReplC
    walk_at "dz"
    have esx : Str.ofString " ; " = (" ; " : Str) := rfl
    have hjl : (jw (wdsE es)).length ≤ 100000 := by
      obtain ⟨u, v, e⟩ : ∃ u v, wdsE es = u :: v := by
        cases q : wdsE es with
        | nil => exact absurd q (wds_ne hne)
        | cons u v => exact ⟨u, v, rfl⟩
      rw [e, jw_cons, str_app_len, str_app_len, ← e] at hl
      omega
    have hrl : (Str.ofString "\n").length = 1 := by decide +kernel
    have hrep : Txt.replace (jw (wdsE es)) (Str.ofString " ; ") (Str.ofString "\n") = txtE es := by
      rw [jw_wds hne]
      refine repl_semi (by simpa using hne) fun p hp => ?_
      obtain ⟨e, he, rfl⟩ := List.mem_map.mp hp
      unfold lineE
      rw [app_cps, app_cps]
      simp only [Array.toList_append, List.mem_append, not_or]
      exact ⟨⟨dig_cp (by omega), by decide +kernel⟩, stk_cp (by omega)⟩
    rw [oJoin_txts]
    refine ⟨by have := jw_sum (wds_ne hne); have h1 : (Str.ofString " ").length = 1 := by decide +kernel
               rw [h1]; omega, _, rfl, ?_, es, ?_, hg, a, y, r, f :: S, srtE es, rfl, h, by rw [List.length_cons]; omega, srtE_good hg, srtE_asc hg.nn, by rw [(srtE_perm es).length_eq]; exact h16, fun y' μ' hy hD hk => ?_⟩
    · rw [show Txt.join (Str.ofString " ") (wdsE es) = jw (wdsE es) from rfl, hrl]
      omega
    · rw [show Txt.join (Str.ofString " ") (wdsE es) = jw (wdsE es) from rfl, hrep]
    · rw [(srtE_perm es).length_eq]
      exact ret_eq (k y' μ' hy hD hk)
  · refine ⟨.str (Str.ofString "write"), [.str (dig e.1)], rfl, ?_⟩
    walk_at "dz"
    unfold wMatch
    walk_at "dz"
    refine ⟨_, rfl, ?_⟩
    unfold mGuard
    rw [if_neg (by decide +kernel), if_pos rfl]
    walk_at "dz"
    have hen := hf.good.num e he
    rw [if_pos (show ((([D.str (dig e.1)] : List D).length : Nat) : Int) = 1 from rfl), fld_ref h.at_, lkd_g]
    refine ⟨kf.o_Desk_going, ?_⟩
    walk_at "dz"
    rw [mth_ref hled]
    refine ⟨rfl, lkl_no (.inr (.inr (.inl rfl))), [e.1], rfl, ?_, by simp, ?_⟩
    · intro n hn
      simp only [List.mem_singleton] at hn
      subst hn
      exact hen
    walk_at "dz"
    refine ⟨y, f.es, f.past, f.ss, e, rfl, hf.good, he, hf.all, by omega, by omega, hled, ?_⟩
    have hya : a ≠ y := fun e => h.out (by rw [e]; exact List.mem_cons_self)
    have hat2 : ∀ X : Cell, setS μ y X a = some (.ins c.Desk (dkF y r.reverse (deedsS (f :: S)))) := fun X => by rw [setS_ne hya]; exact h.at_
    have hdl := deeds_le h.ok
    have hled2 : ∀ X Y : Cell, setS (setS μ y X) a Y y = some X := fun X Y => by rw [setS_ne (Ne.symm hya)]; exact setS_same
    dsimp only
    rw [fld_ref (hat2 _), lkd_d]
    refine ⟨kf.o_Desk_deeds, ?_⟩
    walk_at "dz"
    rw [stf_ref (hat2 _)]
    refine ⟨le_line (by rw [List.length_append, List.length_map]; simp only [List.length_singleton, List.length_cons, List.length_nil] at hdl ⊢; omega), kf.o_Desk_deeds, Nat.le_of_ble_eq_true rfl, ?_⟩
    rw [fld_ref setS_same]
    refine ⟨kf.o_Desk_going, ?_⟩
    rw [show look (put (dkF y r.reverse (deedsS (f :: S))) "deeds" (.tup ((deedsS (f :: S)).map .str ++ [.str (Str.ofString "write")]))) "going" = some (.ref y) from rfl]
    walk_at "dz"
    rw [fld_ref (hled2 _ _), lkl_s]
    refine ⟨kf.o_Ledger_sticks, ?_⟩
    unfold skD
    rw [map_app1]
    walk_at "dz"
    rw [atI_app1]
    unfold sD
    walk_at "dz"
    refine ⟨le_line (by rw [stk_len]; have := (hf.good.st e he).2; omega), ret_eq ?_⟩
    obtain ⟨h1, h2⟩ := dk_front h (wr_ok hf he h1 h2)
    rw [show deedsS (wrF f e :: S) = deedsS (f :: S) ++ [Str.ofString "write"] from deeds_app] at h1 h2
    unfold dkF at h1 h2
    rw [map_app1] at h1 h2
    exact k _ h1 h2
  · refine ⟨.str (Str.ofString "notch"), [.str (dig j), .str (dig i)], rfl, ?_⟩
    walk_at "dz"
    unfold wMatch
    walk_at "dz"
    refine ⟨_, rfl, ?_⟩
    unfold mGuard
    rw [if_neg (by decide +kernel), if_neg (by decide +kernel), if_pos rfl]
    walk_at "dz"
    have hjl := (List.getElem?_eq_some_iff.mp hj).1
    have hil := (List.getElem?_eq_some_iff.mp hi).1
    have hsm := hf.all.2 s (List.mem_of_getElem? hj)
    have hss := hf.now
    rw [if_pos (show ((([D.str (dig j), D.str (dig i)] : List D).length : Nat) : Int) = 2 from rfl)]
    refine ⟨[j, i], rfl, ?_, by simp, ?_⟩
    · intro n hn
      simp only [List.mem_cons, List.not_mem_nil, or_false] at hn
      have := hsm.2.1
      rcases hn with rfl | rfl <;> omega
    walk_at "dz"
    refine ⟨rfl, ?_⟩
    simp only [List.map_cons, List.map_nil]
    refine ⟨trivial, ?_⟩
    rw [fld_ref h.at_, lkd_g]
    refine ⟨kf.o_Desk_going, ?_⟩
    walk_at "dz"
    rw [mth_ref hled]
    refine ⟨rfl, lkl_no (.inr (.inr (.inr (.inl rfl)))), y, f.es, f.past, f.ss, j, i, s, rfl, hf.good, hf.all, by omega, hj, hi, hled, ?_⟩
    have hya : a ≠ y := fun e => h.out (by rw [e]; exact List.mem_cons_self)
    have hat2 : ∀ X : Cell, setS μ y X a = some (.ins c.Desk (dkF y r.reverse (deedsS (f :: S)))) := fun X => by rw [setS_ne hya]; exact h.at_
    have hdl := deeds_le h.ok
    have hled2 : ∀ X Y : Cell, setS (setS μ y X) a Y y = some X := fun X Y => by rw [setS_ne (Ne.symm hya)]; exact setS_same
    dsimp only
    rw [fld_ref (hat2 _), lkd_d]
    refine ⟨kf.o_Desk_deeds, ?_⟩
    walk_at "dz"
    rw [stf_ref (hat2 _)]
    refine ⟨le_line (by rw [List.length_append, List.length_map]; simp only [List.length_singleton, List.length_cons, List.length_nil] at hdl ⊢; omega), kf.o_Desk_deeds, Nat.le_of_ble_eq_true rfl, ?_⟩
    rw [fld_ref setS_same]
    refine ⟨kf.o_Desk_going, ?_⟩
    rw [show look (put (dkF y r.reverse (deedsS (f :: S))) "deeds" (.tup ((deedsS (f :: S)).map .str ++ [.str (Str.ofString "notch")]))) "going" = some (.ref y) from rfl]
    walk_at "dz"
    rw [fld_ref (hled2 _ _), lkl_s]
    refine ⟨kf.o_Ledger_sticks, ?_⟩
    unfold skD
    walk_at "dz"
    rw [show atI ((f.ss.set j (s.set i true)).map sD) ((j : Nat) : Int) = some (sD (s.set i true)) by
      refine atI_nat (j := j) ?_
      rw [List.getElem?_map, List.getElem?_set_self hjl]
      rfl]
    unfold sD
    walk_at "dz"
    refine ⟨le_line (by rw [stk_len, List.length_set]; have := hsm.2.1; omega), ret_eq ?_⟩
    obtain ⟨h1, h2⟩ := dk_front h (nt_ok (i := i) hf hj h2)
    rw [show deedsS (ntF f j i s :: S) = deedsS (f :: S) ++ [Str.ofString "notch"] from deeds_app] at h1 h2
    unfold dkF at h1 h2
    rw [map_app1] at h1 h2
    exact k _ h1 h2
theorem met_Desk_say_2 (T : Txt K mg c) : DMet P w K mg base 24 c.Desk "say" (sp_Desk_say c) [] := by
  have D := T.f_Desk_say
  exact D.met T.k_Desk.cl sc_Desk_say (len_Desk_say c) (fun cdv A outer s H E hr => dv_Desk_say T cdv A outer s H E hr) (rd_Desk_say K c T.kf) (fun F => F.binds0 (ps := ["self", "command"]) fun _ _ _ _ _ _ us hl => match us, hl with | [_, _], _ => rfl) (dvs := []) (.nil) (fun _ => .nil)
end
noncomputable def sp_law_told_right (c : Cs) : DSp := fun ds μ Q => ∃ (p a q y : Addr) (r : List Addr) (S : List Fr) (n : Nat), ds = [.ref p, .ref a, .ref q] ∧ n ≤ 40 ∧ TI c.Ledger c.Book c.Desk μ p a q y r S n ∧ ∀ y' r' S' μ', TI c.Ledger c.Book c.Desk μ' p a q y' r' S' (n + 1) → Q (.bl true) μ'
theorem len_law_told_right (c : Cs) : ∀ ds μ Q, sp_law_told_right c ds μ Q → ds.length = 3 := by
  rintro ds μ Q ⟨p, a, q, y, r, S, n, rfl, _⟩
  rfl
noncomputable def w_law_told_right_t1 (K : PySem.W.Frag) (c : Cs) : WS := wSeq (wAsg (wCall (sp_law_pick c) [] (wACons (wVar 0) (wACons (wVar 8) (wANil)))) (wgName 3)) (wSeq (wAsg (wCall (sp_law_pick c) [] (wACons (wVar 0) (wACons (wCall (sp_law_plain c) [] (wACons (wIx (wVar 6) (wVar 3)) (wANil))) (wANil)))) (wgName 4)) (wSeq (wDrop (wBM "list" oAppend (wVar 2) (wACons (wTup (wACons (wVar 5) (wACons (wCall (sp_law_notched c) [] (wACons (wVar 6) (wACons (wVar 3) (wACons (wVar 4) (wANil))))) (wANil)))) (wANil)))) (wRet (wOp oEq (wMeth c.Desk "say" (sp_Desk_say c) [] (wVar 1) (wACons (wOp oAdd (wOp oAdd (wOp oAdd (wC (.str "notch ")) (wCB oStr (wACons (wVar 3) (wANil)))) (wC (.str " "))) (wCB oStr (wACons (wVar 4) (wANil)))) (wANil))) (wIx (wIx (wIx (wVar 2) (wNeg (wC (.int 1)))) (wC (.int 1))) (wVar 3))))))
noncomputable def w_law_told_right_t2 (K : PySem.W.Frag) (c : Cs) : WS := wSeq (wIfS (wOr (wB (wOp oLt (wVar 7) (wC (.int 6)))) (wB (wOp oEq (wVar 8) (wLst (wANil))))) (wSeq (wAsg (wCall (sp_law_pick c) [] (wACons (wVar 0) (wACons (wVar 5) (wANil)))) (wgTup 2 (wgCons (wgName 10) (wgCons (wgName 11) (wgNil))))) (wSeq (wDrop (wBM "list" oAppend (wVar 2) (wACons (wTup (wACons (wVar 5) (wACons (wOp oAdd (wVar 6) (wTup (wACons (wVar 11) (wANil)))) (wANil)))) (wANil)))) (wRet (wOp oEq (wMeth c.Desk "say" (sp_Desk_say c) [] (wVar 1) (wACons (wOp oAdd (wC (.str "write ")) (wCB oStr (wACons (wVar 10) (wANil)))) (wANil))) (wVar 11))))) (wNext)) (w_law_told_right_t1 K c)
noncomputable def w_law_told_right_t3 (K : PySem.W.Frag) (c : Cs) : WS := wSeq (wIfS (wB (wOp oEq (wVar 7) (wC (.int 2)))) (wRet (wAndV (wOp oEq (wMeth c.Desk "say" (sp_Desk_say c) [] (wVar 1) (wACons (wC (.str "frauds")) (wANil))) (wCall (sp_law_frauds c) [] (wACons (wVar 5) (wANil)))) (wOp oEq (wMeth c.Desk "say" (sp_Desk_say c) [] (wVar 1) (wACons (wC (.str "safe")) (wANil))) (wCB oStr (wACons (wCall (sp_law_widest_lot c) [] (wACons (wVar 5) (wANil))) (wANil)))))) (wNext)) (w_law_told_right_t2 K c)
noncomputable def w_law_told_right_t4 (K : PySem.W.Frag) (c : Cs) : WS := wSeq (wDrop (wBM "list" oPop (wVar 2) wANil)) (wRet (wOp oEq (wMeth c.Desk "say" (sp_Desk_say c) [] (wVar 1) (wACons (wC (.str "undo")) (wANil))) (wC (.str "undone"))))
noncomputable def w_law_told_right_t5 (K : PySem.W.Frag) (c : Cs) : WS := wSeq (wIfS (wB (wOp oEq (wVar 7) (wC (.int 1)))) (wSeq (wIfS (wB (wOp oEq (wCB oLen (wACons (wVar 2) (wANil))) (wC (.int 1)))) (wRet (wOp oEq (wMeth c.Desk "say" (sp_Desk_say c) [] (wVar 1) (wACons (wC (.str "undo")) (wANil))) (wC (.str "nothing")))) (wNext)) (w_law_told_right_t4 K c)) (wNext)) (w_law_told_right_t3 K c)
noncomputable def w_law_told_right (K : PySem.W.Frag) (c : Cs) : WS := wSeq (wAsg (wIx (wVar 2) (wNeg (wC (.int 1)))) (wgTup 2 (wgCons (wgName 5) (wgCons (wgName 6) (wgNil))))) (wSeq (wPar 7 8 (wACons (wCall (sp_law_take c) [] (wACons (wVar 0) (wACons (wC (.int 9)) (wANil)))) (wACons (wLc (wiRng1 (wACons (wCB oLen (wACons (wVar 6) (wANil))) (wANil))) (wgName 3) (wB (wOp oInC (wC (.str ".")) (wIx (wVar 6) (wVar 3)))) (wVar 3) [3]) (wANil)))) (wSeq (wIfS (wOr (wB (wOp oEq (wVar 7) (wC (.int 0)))) (wB (wOp oEq (wVar 5) (wLst (wANil))))) (wSeq (wAsg (wCall (sp_law_book c) [] (wACons (wVar 0) (wACons (wOp oAdd (wC (.int 1)) (wCall (sp_law_take c) [] (wACons (wVar 0) (wACons (wC (.int 5)) (wANil))))) (wACons (wC (.int 8)) (wANil))))) (wgName 9)) (wSeq (wDrop (wBM "list" oAppend (wVar 2) (wACons (wTup (wACons (wVar 9) (wACons (wTup (wANil)) (wANil)))) (wANil)))) (wRet (wOp oEq (wMeth c.Desk "say" (sp_Desk_say c) [] (wVar 1) (wACons (wOp oAdd (wC (.str "book ")) (wReplC (wCall (sp_law_text c) [] (wACons (wCall (sp_law_shuffled c) [] (wACons (wVar 0) (wACons (wVar 9) (wANil)))) (wANil))) "\n" " ; ")) (wANil))) (wCB oStr (wACons (wCB oLen (wACons (wVar 9) (wANil))) (wANil))))))) (wNext)) (w_law_told_right_t5 K c)))
section
variable {P : Program} {w : World} {K : PySem.W.Frag} {mg : Str → Option Value} {base : Heap} {c : Cs}
theorem dv_law_told_right (T : Txt K mg c) {f : Addr} (cdv : Value) (A : Around) (outer : List PySem.Env) (s : Shared) (H : Hp) (E : XK) (hr : Room 24 (A.deeper (PyProof.Rows.envOfC "_law_told_right" (defScope s_law_told_right) s.heap.objs.size f cdv))) : DSs (cxOf CX0 P w K mg base N_law_told_right "_law_told_right" (defScope s_law_told_right) f cdv A outer s H E).nox (defBody s_law_told_right) (w_law_told_right K c) := by
  have ND := sc_law_told_right.nd
  have hu := hu_of hr
  have hu64 := hr.units
  have hu65 := units65 hr
  exact dss_cons (ds_asg (de_ix hu (de_var (pv 2)) (de_neg (de_int)) (fun _ _ => rfl)) (dg_pat (vs := [5, 6]) (g := gTup K 2 (gCons (gName 5) (gCons (gName 6) (gNil)))) (pg_tup rfl (pgs_cons (pg_name (i := 5) ND rfl (by first | exact Or.inl rfl | exact Or.inr rfl)) (pgs_cons (pg_name (i := 6) ND rfl (by first | exact Or.inl rfl | exact Or.inr rfl)) (pgs_nil)))) (gp_tup (gp_cons (gp_name (by decide)) (gp_cons (gp_name (by decide)) (gp_nil)))))) (dss_cons (ds_par (i := 7) (j := 8) rfl ND rfl rfl (by decide) rfl rfl (da_cons (de_cal (cal_law_take T) hr (by decide) rfl (da_cons (de_var (pv 0)) (da_cons (de_int) (da_nil)))) (da_cons (de_lc (own := [("_law_at", 3)]) (g := gName 3) rfl ND (di_range1 rfl T.b_range (da_cons (de_callB cs_len rfl T.b_len (by decide +kernel) (da_cons (de_var (pv 6)) (da_nil))) (da_nil))) (blkOk_by (own := [("_law_at", 3)]) (N := N_law_told_right) (sc := defScope s_law_told_right) (by decide +kernel)) (gp_name (by decide)) (fun _ _ _ _ _ => pg_name (i := 3) ND rfl (by first | exact Or.inl rfl | exact Or.inr rfl)) (fun _ _ _ _ _ => dts_one (dt_cmp os_inC (de_str) (de_ix hu (de_var (pv 6)) (de_var (pv 3)) (fun _ _ => rfl)) (by rfl))) (fun _ _ _ _ _ => de_var (pv 3))) (da_nil))) (by rfl)) (dss_cons (ds_if (dt_w (dw_or (dt_cmp (os_eq hu64) (de_var (pv 7)) (de_int) (nomark _)) (dw_or1 (dt_cmp (os_eq hu64) (de_var (pv 5)) (de_lst (da_nil)) (nomark _))))) (dss_cons (ds_set (i := 9) ND rfl (Or.inl rfl) (de_cal (cal_law_book T) hr (by decide) rfl (da_cons (de_var (pv 0)) (da_cons (de_op os_add (de_int) (de_cal (cal_law_take T) hr (by decide) rfl (da_cons (de_var (pv 0)) (da_cons (de_int) (da_nil))))) (da_cons (de_int) (da_nil)))))) (dss_cons (ds_expr (de_bm bm_append (de_var (pv 2)) (da_cons (de_tup (da_cons (de_var (pv 9)) (da_cons (de_tup (da_nil)) (da_nil)))) (da_nil)))) (dss_one (ds_ret (de_cmp (os_eq hu64) (de_met (met_Desk_say_2 T) hr (by decide) (de_var (pv 1)) (da_cons (de_opB os_add (deb_str) (det_repl (det_of (de_cal (cal_law_text T) hr (by decide) rfl (da_cons (de_cal (cal_law_shuffled T) hr (by decide) rfl (da_cons (de_var (pv 0)) (da_cons (de_var (pv 9)) (da_nil)))) (da_nil)))) (by decide +kernel))) (da_nil))) (de_callTy cs_str rfl T.b_str (by decide +kernel) (da_cons (de_callB cs_len rfl T.b_len (by decide +kernel) (da_cons (de_var (pv 9)) (da_nil))) (da_nil))) (nomark _)))))) (dss_nil)) (dss_cons (ds_if (dt_cmp (os_eq hu64) (de_var (pv 7)) (de_int) (nomark _)) (dss_cons (ds_if (dt_cmp (os_eq hu64) (de_callB cs_len rfl T.b_len (by decide +kernel) (da_cons (de_var (pv 2)) (da_nil))) (de_int) (nomark _)) (dss_one (ds_ret (de_cmp (os_eq hu64) (de_met (met_Desk_say_2 T) hr (by decide) (de_var (pv 1)) (da_cons (de_str) (da_nil))) (de_str) (nomark _)))) (dss_nil)) (dss_cons (ds_expr (de_bm0 bm_pop (de_var (pv 2)))) (dss_one (ds_ret (de_cmp (os_eq hu64) (de_met (met_Desk_say_2 T) hr (by decide) (de_var (pv 1)) (da_cons (de_str) (da_nil))) (de_str) (nomark _)))))) (dss_nil)) (dss_cons (ds_if (dt_cmp (os_eq hu64) (de_var (pv 7)) (de_int) (nomark _)) (dss_one (ds_ret (de_and (de_cmp (os_eq hu64) (de_met (met_Desk_say_2 T) hr (by decide) (de_var (pv 1)) (da_cons (de_str) (da_nil))) (de_cal (cal_law_frauds T) hr (by decide) rfl (da_cons (de_var (pv 5)) (da_nil))) (nomark _)) (de_one (de_cmp (os_eq hu64) (de_met (met_Desk_say_2 T) hr (by decide) (de_var (pv 1)) (da_cons (de_str) (da_nil))) (de_callTy cs_str rfl T.b_str (by decide +kernel) (da_cons (de_cal (cal_law_widest_lot T) hr (by decide) rfl (da_cons (de_var (pv 5)) (da_nil))) (da_nil))) (nomark _)))))) (dss_nil)) (dss_cons (ds_if (dt_w (dw_or (dt_cmp os_lt (de_var (pv 7)) (de_int) (nomark _)) (dw_or1 (dt_cmp (os_eq hu64) (de_var (pv 8)) (de_lst (da_nil)) (nomark _))))) (dss_cons (ds_asg (de_cal (cal_law_pick T) hr (by decide) rfl (da_cons (de_var (pv 0)) (da_cons (de_var (pv 5)) (da_nil)))) (dg_pat (vs := [10, 11]) (g := gTup K 2 (gCons (gName 10) (gCons (gName 11) (gNil)))) (pg_tup rfl (pgs_cons (pg_name (i := 10) ND rfl (by first | exact Or.inl rfl | exact Or.inr rfl)) (pgs_cons (pg_name (i := 11) ND rfl (by first | exact Or.inl rfl | exact Or.inr rfl)) (pgs_nil)))) (gp_tup (gp_cons (gp_name (by decide)) (gp_cons (gp_name (by decide)) (gp_nil)))))) (dss_cons (ds_expr (de_bm bm_append (de_var (pv 2)) (da_cons (de_tup (da_cons (de_var (pv 5)) (da_cons (de_op os_add (de_var (pv 6)) (de_tup (da_cons (de_var (pv 11)) (da_nil)))) (da_nil)))) (da_nil)))) (dss_one (ds_ret (de_cmp (os_eq hu64) (de_met (met_Desk_say_2 T) hr (by decide) (de_var (pv 1)) (da_cons (de_op os_add (de_str) (de_callTy cs_str rfl T.b_str (by decide +kernel) (da_cons (de_var (pv 10)) (da_nil)))) (da_nil))) (de_var (pv 11)) (nomark _)))))) (dss_nil)) (dss_cons (ds_set (i := 3) ND rfl (Or.inl rfl) (de_cal (cal_law_pick T) hr (by decide) rfl (da_cons (de_var (pv 0)) (da_cons (de_var (pv 8)) (da_nil))))) (dss_cons (ds_set (i := 4) ND rfl (Or.inl rfl) (de_cal (cal_law_pick T) hr (by decide) rfl (da_cons (de_var (pv 0)) (da_cons (de_cal (cal_law_plain T) hr (by decide) rfl (da_cons (de_ix hu (de_var (pv 6)) (de_var (pv 3)) (fun _ _ => rfl)) (da_nil))) (da_nil))))) (dss_cons (ds_expr (de_bm bm_append (de_var (pv 2)) (da_cons (de_tup (da_cons (de_var (pv 5)) (da_cons (de_cal (cal_law_notched T) hr (by decide) rfl (da_cons (de_var (pv 6)) (da_cons (de_var (pv 3)) (da_cons (de_var (pv 4)) (da_nil))))) (da_nil)))) (da_nil)))) (dss_one (ds_ret (de_cmp (os_eq hu64) (de_met (met_Desk_say_2 T) hr (by decide) (de_var (pv 1)) (da_cons (de_op os_add (de_op os_add (de_op os_add (de_str) (de_callTy cs_str rfl T.b_str (by decide +kernel) (da_cons (de_var (pv 3)) (da_nil)))) (de_str)) (de_callTy cs_str rfl T.b_str (by decide +kernel) (da_cons (de_var (pv 4)) (da_nil)))) (da_nil))) (de_ix hu (de_ix hu (de_ix hu (de_var (pv 2)) (de_neg (de_int)) (fun _ _ => rfl)) (de_int) (fun _ _ => rfl)) (de_var (pv 3)) (fun _ _ => rfl)) (nomark _))))))))))))
theorem rd_law_told_right (K : PySem.W.Frag) (c : Cs) : ∀ ds μ Q, sp_law_told_right c ds μ Q → w_law_told_right K c { nx := fun _ μ' => ∃ μ2, Sub μ2 μ' ∧ Q .non μ2, rt := Q } (startD N_law_told_right ds) μ := by
  rintro ds μ Q ⟨p, a, q, y, r, S, n, rfl, hn, I, k⟩
  show w_law_told_right K c _ [some (.ref p), some (.ref a), some (.ref q), none, none, none, none, none, none, none, none, none] μ
  obtain ⟨f, S, rfl⟩ : ∃ f S', S = f :: S' := by cases S with | nil => exact I.dk.led.elim | cons f S => exact ⟨f, S, rfl⟩
  have hf := I.dk.ok f List.mem_cons_self
  obtain ⟨o1, o2, o3⟩ := I.ok (f.es, f.ss) (by show _ ∈ hist S ++ (f.past.map fun q => (f.es, q)) ++ [(f.es, f.ss)]; simp)
  dsimp only at o1 o2 o3
  have hSl : S.length < 199 := by have := hist_ge (f :: S); have := I.ln; simp only [List.length_cons] at *; omega
  have hpl : f.past.length < 200 := by
    have := I.ln
    rw [hist_len, List.map_cons, List.sum_cons] at this
    omega
  obtain ⟨d0, hp0, hd0⟩ := I.bx
  have pa := lst_out I.dk hp0
  have qa := lst_out I.dk I.st
  have pq : p ≠ q := fun e => by
    subst e
    have h := hp0.symm.trans I.st
    obtain ⟨b1, b2, rfl, _⟩ := hd0
    have h := Cell.lst.inj (Option.some.inj h)
    have h2 := congrArg List.head? h
    cases q2 : hist (f :: S) with
    | nil => rw [q2] at h2; cases h2
    | cons s t => rw [q2] at h2; cases h2
  have dkp : ∀ {μ1 : Store} {X : Cell}, DkAt c.Ledger c.Book c.Desk μ1 a y r (f :: S) → DkAt c.Ledger c.Book c.Desk (setS μ1 p X) a y r (f :: S) := fun h => h.mono (setS_ne (Ne.symm pa.1)) fun z hz => setS_ne (fun e => pa.2 (e ▸ hz))
  have dkq : ∀ {μ1 : Store} {X : Cell}, DkAt c.Ledger c.Book c.Desk μ1 a y r (f :: S) → DkAt c.Ledger c.Book c.Desk (setS μ1 q X) a y r (f :: S) := fun h => h.mono (setS_ne (Ne.symm qa.1)) fun z hz => setS_ne (fun e => qa.2 (e ▸ hz))
  have dkM : ∀ {μb μ1 : Store}, DkAt c.Ledger c.Book c.Desk μb a y r (f :: S) → Mut p μb μ1 → DkAt c.Ledger c.Book c.Desk μ1 a y r (f :: S) := fun {μb μ1} D h => D.mono ((h a _ (Ne.symm pa.1) D.at_).trans D.at_.symm) fun z hz => by
    obtain ⟨g, hg⟩ := D.led.some z hz
    exact (h z _ (fun e => pa.2 (e ▸ hz)) hg).trans hg.symm
  have okn : ∀ s ∈ hist (f :: S), s.2.length ≤ n + 1 ∧ s.1.length ≤ 8 ∧ lenB s.1 ≤ 5 := fun s hs => by have := I.ok s hs; omega
  have hln := I.ln
  have hH : hist (f :: S) = (hist S ++ f.past.map fun q => (f.es, q)) ++ [(f.es, f.ss)] := rfl
  have hHl : (hist (f :: S)).length ≤ 41 := by have := I.ln; omega
  unfold w_law_told_right
  walk_at "dz"
  rw [ix_ref I.st, hH, List.map_append, List.map_cons, List.map_nil, atI_app1]
  unfold stD
  walk_at "dz"
  refine ⟨rfl, p, 9, d0, rfl, hp0, hd0, by decide, fun z d1 z1 z2 hd1 => ?_⟩
  unfold skD
  walk_at "dz"
  rw [List.length_map, show (((f.ss.length : Nat) : Int)).toNat = f.ss.length by omega, show rng 0 f.ss.length = (List.range f.ss.length).map fun i => D.int (0 + (i : Nat)) from rfl]
  refine ⟨by omega, ?_⟩
  refine lc_ty (enc := fun i : Nat => D.int (0 + (i : Nat))) (fun j => if decide (false ∈ f.ss.getD j []) = true then some (eNat.enc j) else none) (le_line (by rw [List.length_range]; omega)) ?_ ?_
  · intro i a μ' R R' ha sb hR hR'
    obtain ⟨hi, rfl⟩ : i < f.ss.length ∧ a = i := by
      obtain ⟨h1, h2⟩ := List.getElem?_eq_some_iff.mp ha
      rw [List.length_range] at h1
      rw [List.getElem_range] at h2
      exact ⟨h1, h2.symm⟩
    have hs : f.ss[a]? = some f.ss[a] := List.getElem?_eq_getElem hi
    walk_at "dz"
    rw [show (0 : Int) + (a : Nat) = ((a : Nat) : Int) by omega] at *
    rw [show atI (f.ss.map sD) ((a : Nat) : Int) = some (.str (stk f.ss[a])) by refine atI_nat (j := a) ?_; rw [List.getElem?_map, hs]; rfl]
    walk_at "dz"
    refine ⟨46, stk f.ss[a], by rfl, rfl, ?_⟩
    have e4 : decide (46 ∈ (stk f.ss[a]).cps.toList) = decide (false ∈ f.ss.getD a []) := by
      rw [List.getD_eq_getElem?_getD, hs]
      refine decide_eq_decide.mpr ⟨fun h => ?_, fun h => ?_⟩
      · obtain ⟨b, hb2, hb3⟩ := List.mem_map.mp (show 46 ∈ f.ss[a].map sg by simpa [stk] using h)
        cases b with
        | false => exact hb2
        | true => exact absurd hb3 (by decide)
      · have : 46 ∈ f.ss[a].map sg := List.mem_map.mpr ⟨false, h, rfl⟩
        simpa [stk] using this
    rw [e4]
    walk_at "dz"
    by_cases q : false ∈ f.ss.getD a []
    · rw [if_pos (decide_eq_true q)] at hR
      rw [if_pos q]
      exact hR _ rfl
    · rw [if_neg (by simpa using q)] at hR'
      rw [if_neg q]
      exact hR' rfl
  intro L hL
  rw [delS_setS hL, fm_if, show ((List.range f.ss.length).filter fun j => decide (false ∈ f.ss.getD j [])).map (fun j => eNat.enc j) = (freS f.ss).map eNat.enc from rfl]
  walk_at "dz"
  by_cases hz0 : z = 0
  · rw [if_pos hz0]
    refine ⟨p, 5, d1, rfl, setS_same, hd1, by decide, fun r1 d2 y1 y2 hd2 => ?_⟩
    rw [setS_setS]
    obtain ⟨l, hl⟩ : ∃ l : Nat, (1 : Int) + r1 = (l : Int) := ⟨(1 + r1).toNat, by omega⟩
    walk_at "dz"
    rw [hl]
    refine ⟨p, l, 8, rfl, by omega, by decide, BxAt.set hd2, fun es μ3 ok asc h0 hes hel hb3 hm3 => ?_⟩
    have hm : Mut p μ μ3 := fun b z h1 h2 => hm3 b z h1 (by rw [setS_ne h1]; exact h2)
    have dk3 := dkM I.dk hm
    have st3 := hm q _ (Ne.symm pq) I.st
    refine ⟨tyM_lref st3, le_line (Nat.le_of_ble_eq_true rfl), le_line (Nat.le_of_ble_eq_true rfl), ?_⟩
    rw [app_ref st3]
    refine ⟨Nat.lt_of_lt_of_le (m := 100) (by rw [List.length_map]; omega) (le_line (by decide)), ?_⟩
    rw [mth_ref (dkq dk3).at_]
    refine ⟨rfl, lkd_no (.inl rfl), ?_⟩
    unfold wReplC
    walk_at "dz"
    obtain ⟨d3, hp3, hd3⟩ := hb3
    refine ⟨p, es.map entD, d3, rfl, by rw [setS_ne pq]; exact hp3, hd3, by rw [List.length_map]; omega, fun ys d4 μ4 hperm hd4 hp4 hm4 => ?_⟩
    obtain ⟨fs, rfl, hpf⟩ := perm_map_inv hperm
    refine ⟨fs, rfl, ok.perm hpf, ?_⟩
    have hfl := hpf.length_eq
    have hes2 : srtE fs = es := (srtE_eq ok hpf).trans (srtE_of asc)
    have fok := ok.perm hpf
    have h0f : fs ≠ [] := fun e => h0 (by rw [e] at hfl; exact List.length_eq_zero_iff.mp hfl.symm)
    have hwd := wd_book fok h0f (by omega)
    have htl := txt_len fok
    have e1 : (Str.ofString " ; ").length = 3 := by decide +kernel
    have dk4 := dkM (dkq (X := .lst ((hist (f :: S)).map stD ++ [.tup [.lst (es.map entD), .tup []]])) dk3) hm4
    have hB : lenB es = l := by
      cases es with
      | nil => exact absurd rfl h0
      | cons e r => exact (hel e List.mem_cons_self).1
    have hh : hist (bkFr (srtE fs) :: f :: S) = hist (f :: S) ++ [(es, [])] := by rw [hes2]; exact hist_bk
    refine ⟨_, rfl, by rw [e1]; omega, ?_⟩
    walk_at "dz"
    rw [bk_text h0f]
    refine ⟨le_line (by rw [← str_app_len, bk_text h0f]; omega), a, y, r, f, S, cwd (.book fs), rfl, dk4, hSl, hwd.1, hwd.2, told (q := q) (S' := bkFr (srtE fs) :: f :: S) (x := dig fs.length) (n := n + 1) (by unfold doC; dsimp only; rw [if_pos (fok.gdB h0f (by omega))]) ⟨d4, hp4, hd4⟩ dk4 ?_ (by rw [hh, List.length_append, List.length_singleton]; omega) (fun s hs => ?_) fun y' r' μ' I' => ?_⟩
    · rw [hm4 q _ (Ne.symm pq) setS_same, hh, List.map_append]
      rfl
    · rw [hh] at hs
      rcases List.mem_append.mp hs with hs | hs
      · exact okn s hs
      · simp only [List.mem_singleton] at hs
        subst hs
        refine ⟨Nat.zero_le _, hes, ?_⟩
        show lenB es ≤ 5
        omega
    · walk_at "dz"
      rw [List.length_map]
      refine ⟨log_small (by omega), ?_⟩
      rw [hfl]
      rw [show (dig es.length == Str.ofString (toString ((es.length : Nat) : Int))) = true from beq_self_eq_true _]
      exact ret_eq (k _ _ _ _ I')
  rw [if_neg hz0]
  refine ⟨le_line (Nat.le_of_ble_eq_true rfl), ?_⟩
  rw [show D.lst [] = .lst (([] : List Ent).map eEnt.enc) from rfl, show f.es.map entD = f.es.map eEnt.enc from rfl, oEq_lst eEnt (by decide)]
  walk_at "dz"
  by_cases he0 : f.es = []
  · rw [if_pos he0]
    refine ⟨p, 5, d1, rfl, setS_same, hd1, by decide, fun r1 d2 y1 y2 hd2 => ?_⟩
    rw [setS_setS]
    obtain ⟨l, hl⟩ : ∃ l : Nat, (1 : Int) + r1 = (l : Int) := ⟨(1 + r1).toNat, by omega⟩
    walk_at "dz"
    rw [hl]
    refine ⟨p, l, 8, rfl, by omega, by decide, BxAt.set hd2, fun es μ3 ok asc h0 hes hel hb3 hm3 => ?_⟩
    have hm : Mut p μ μ3 := fun b z h1 h2 => hm3 b z h1 (by rw [setS_ne h1]; exact h2)
    have dk3 := dkM I.dk hm
    have st3 := hm q _ (Ne.symm pq) I.st
    refine ⟨tyM_lref st3, le_line (Nat.le_of_ble_eq_true rfl), le_line (Nat.le_of_ble_eq_true rfl), ?_⟩
    rw [app_ref st3]
    refine ⟨Nat.lt_of_lt_of_le (m := 100) (by rw [List.length_map]; omega) (le_line (by decide)), ?_⟩
    rw [mth_ref (dkq dk3).at_]
    refine ⟨rfl, lkd_no (.inl rfl), ?_⟩
    unfold wReplC
    walk_at "dz"
    obtain ⟨d3, hp3, hd3⟩ := hb3
    refine ⟨p, es.map entD, d3, rfl, by rw [setS_ne pq]; exact hp3, hd3, by rw [List.length_map]; omega, fun ys d4 μ4 hperm hd4 hp4 hm4 => ?_⟩
    obtain ⟨fs, rfl, hpf⟩ := perm_map_inv hperm
    refine ⟨fs, rfl, ok.perm hpf, ?_⟩
    have hfl := hpf.length_eq
    have hes2 : srtE fs = es := (srtE_eq ok hpf).trans (srtE_of asc)
    have fok := ok.perm hpf
    have h0f : fs ≠ [] := fun e => h0 (by rw [e] at hfl; exact List.length_eq_zero_iff.mp hfl.symm)
    have hwd := wd_book fok h0f (by omega)
    have htl := txt_len fok
    have e1 : (Str.ofString " ; ").length = 3 := by decide +kernel
    have dk4 := dkM (dkq (X := .lst ((hist (f :: S)).map stD ++ [.tup [.lst (es.map entD), .tup []]])) dk3) hm4
    have hB : lenB es = l := by
      cases es with
      | nil => exact absurd rfl h0
      | cons e r => exact (hel e List.mem_cons_self).1
    have hh : hist (bkFr (srtE fs) :: f :: S) = hist (f :: S) ++ [(es, [])] := by rw [hes2]; exact hist_bk
    refine ⟨_, rfl, by rw [e1]; omega, ?_⟩
    walk_at "dz"
    rw [bk_text h0f]
    refine ⟨le_line (by rw [← str_app_len, bk_text h0f]; omega), a, y, r, f, S, cwd (.book fs), rfl, dk4, hSl, hwd.1, hwd.2, told (q := q) (S' := bkFr (srtE fs) :: f :: S) (x := dig fs.length) (n := n + 1) (by unfold doC; dsimp only; rw [if_pos (fok.gdB h0f (by omega))]) ⟨d4, hp4, hd4⟩ dk4 ?_ (by rw [hh, List.length_append, List.length_singleton]; omega) (fun s hs => ?_) fun y' r' μ' I' => ?_⟩
    · rw [hm4 q _ (Ne.symm pq) setS_same, hh, List.map_append]
      rfl
    · rw [hh] at hs
      rcases List.mem_append.mp hs with hs | hs
      · exact okn s hs
      · simp only [List.mem_singleton] at hs
        subst hs
        refine ⟨Nat.zero_le _, hes, ?_⟩
        show lenB es ≤ 5
        omega
    · walk_at "dz"
      rw [List.length_map]
      refine ⟨log_small (by omega), ?_⟩
      rw [hfl]
      rw [show (dig es.length == Str.ofString (toString ((es.length : Nat) : Int))) = true from beq_self_eq_true _]
      exact ret_eq (k _ _ _ _ I')
  rw [if_neg he0]
  have dk5 := dkp (X := .lst d1) I.dk
  have st5 : setS μ p (.lst d1) q = some (.lst ((hist (f :: S)).map stD)) := by rw [setS_ne (Ne.symm pq)]; exact I.st
  have bx5 : BxAt (setS μ p (.lst d1)) p := BxAt.set hd1
  have one : ∀ (m : Cmd) {w : Str}, cwd m = [w] → w ≠ Str.ofString "" → (32 : Nat) ∉ w.cps.toList → (10 : Nat) ∉ w.cps.toList → w.length ≤ 100 → Str.ofString "x" ++ w = Str.ofString "x" ++ jw (cwd m) ∧ w = jw (cwd m) ∧ Wds (cwd m) ∧ (jw (cwd m)).length ≤ 100000 := fun m {w} e h1 h2 h3 h4 => by
    rw [e, jw_one]
    refine ⟨rfl, rfl, ⟨by simp, fun p hp => ?_⟩, by omega⟩
    simp only [List.mem_singleton] at hp
    subst hp
    exact ⟨h1, h2, h3⟩
  unfold w_law_told_right_t5
  walk_at "dz"
  by_cases hz1 : z = 1
  · rw [if_pos hz1, len_ref st5]
    obtain ⟨_, u1, u2, u3⟩ := one .undo (w := Str.ofString "undo") rfl (by decide +kernel) (by decide +kernel) (by decide +kernel) (by decide +kernel)
    walk_at "dz"
    rw [List.length_map]
    rcases undo_hist (f := f) (S := S) with ⟨h1, h2⟩ | ⟨S', h1, h2, h3⟩
    · rw [if_pos (by omega), mth_ref dk5.at_]
      refine ⟨rfl, lkd_no (.inl rfl), a, y, r, f, S, cwd .undo, by rw [← u1], dk5, hSl, u2, u3, told (S' := f :: S) (x := Str.ofString "nothing") (n := n + 1) (by unfold doC; dsimp only; rw [h1]) bx5 dk5 st5 (by omega) okn fun y' r' μ' I' => ?_⟩
      walk_at "dz"
      exact ret_eq (k _ _ _ _ I')
    · have h4 := congrArg List.length h2
      rw [List.length_append, List.length_singleton] at h4
      have h5 := List.length_pos_iff.mpr h3
      rw [if_neg (by omega)]
      unfold w_law_told_right_t4
      walk_at "dz"
      refine ⟨tyM_lref st5, ?_⟩
      rw [pop_ref (xs := (hist S').map stD) (y := stD (f.es, f.ss)) (by rw [st5, h2, List.map_append]; rfl)]
      have dk6 := dkq (X := .lst ((hist S').map stD)) dk5
      rw [mth_ref dk6.at_]
      refine ⟨rfl, lkd_no (.inl rfl), a, y, r, f, S, cwd .undo, by rw [← u1], dk6, hSl, u2, u3, told (S' := S') (x := Str.ofString "undone") (n := n + 1) (by unfold doC; dsimp only; rw [h1]) (BxAt.other bx5 (Ne.symm pq)) dk6 setS_same (by omega) (fun s hs => okn s (by rw [h2]; exact List.mem_append_left _ hs)) fun y' r' μ' I' => ?_⟩
      walk_at "dz"
      exact ret_eq (k _ _ _ _ I')
  rw [if_neg hz1]
  unfold w_law_told_right_t3
  walk_at "dz"
  by_cases hz2 : z = 2
  · rw [if_pos hz2, mth_ref dk5.at_]
    obtain ⟨_, u1, u2, u3⟩ := one .frauds (w := Str.ofString "frauds") rfl (by decide +kernel) (by decide +kernel) (by decide +kernel) (by decide +kernel)
    obtain ⟨_, v1, v2, v3⟩ := one .safe (w := Str.ofString "safe") rfl (by decide +kernel) (by decide +kernel) (by decide +kernel) (by decide +kernel)
    refine ⟨rfl, lkd_no (.inl rfl), a, y, r, f, S, cwd .frauds, by rw [← u1], dk5, hSl, u2, u3, told (S' := f :: S) (x := frdT f.es) (n := n + 1) rfl bx5 dk5 st5 (by omega) okn fun y' r' μ' I' => ?_⟩
    refine ⟨f.es, rfl, hf.good, by omega, ?_⟩
    walk_at "dz"
    rw [mth_ref I'.dk.at_]
    refine ⟨rfl, lkd_no (.inl rfl), a, y', r', f, S, cwd .safe, by rw [← v1], I'.dk, hSl, v2, v3, ?_⟩
    refine .inl ⟨_, rfl, .inr (.inr (.inr (.inl ⟨rfl, fun P => ?_⟩)))⟩
    refine ⟨f.es, rfl, hf.good, by omega, ?_⟩
    walk_at "dz"
    rw [lots_ap hf.good (by omega) P]
    refine ⟨log_small (by have := (apE_sub (es := f.es)).length_le; unfold nmV at this; rw [List.length_map] at this; omega), ?_⟩
    rw [show (dig (apE f.es).length == Str.ofString (toString (((apE f.es).length : Nat) : Int))) = true from beq_self_eq_true _]
    exact ret_eq (k _ _ _ _ I')
  rw [if_neg hz2]
  unfold w_law_told_right_t2
  walk_at "dz"
  have hpos : 0 < f.es.length := List.length_pos_iff.mpr he0
  by_cases hz6 : z < 6
  · rw [if_pos hz6]
    refine ⟨p, _, d1, rfl, setS_same, hd1, ⟨by rw [List.length_map]; exact hpos, by rw [List.length_map]; omega⟩, fun x d2 hx hd2 => ?_⟩
    rw [setS_setS]
    obtain ⟨e, he, rfl⟩ := List.mem_map.mp hx
    have hen := hf.good.num e he
    have dk6 := dkp (X := .lst d2) I.dk
    have st6 : setS μ p (.lst d2) q = some (.lst ((hist (f :: S)).map stD)) := by rw [setS_ne (Ne.symm pq)]; exact I.st
    obtain ⟨w1, w2, w3⟩ := wd_write hen
    rw [show eEnt.enc e = D.tup [.int (e.1 : Nat), .str (stk e.2)] from rfl]
    dsimp only
    refine ⟨rfl, rfl, tyM_lref st6, le_line (Nat.le_of_ble_eq_true rfl), le_line (by rw [List.length_map]; simp only [List.length_cons, List.length_nil]; omega), le_line (Nat.le_of_ble_eq_true rfl), ?_⟩
    rw [app_ref st6]
    refine ⟨Nat.lt_of_lt_of_le (m := 100) (by rw [List.length_map]; omega) (le_line (by decide)), ?_⟩
    have dk7 := dkq (X := .lst ((hist (f :: S)).map stD ++ [.tup [.lst (f.es.map eEnt.enc), .tup (f.ss.map sD ++ [.str (stk e.2)])]])) dk6
    rw [mth_ref dk7.at_]
    refine ⟨rfl, lkd_no (.inl rfl), ?_⟩
    walk_at "dz"
    rw [show Str.ofString (toString ((e.1 : Nat) : Int)) = dig e.1 from rfl]
    rw [show (Str.ofString "write " ++ dig e.1) = jw (cwd (.write e)) from w3]
    refine ⟨log_small hen, le_line (by rw [← str_app_len, show (Str.ofString "write " ++ dig e.1) = jw (cwd (.write e)) from w3]; omega), a, y, r, f, S, cwd (.write e), rfl, dk7, hSl, w1, w2, told (q := q) (S' := wrF f e :: S) (x := stk e.2) (n := n + 1) (by unfold doC; dsimp only; rw [if_pos ⟨he, by omega, hpl⟩]) (BxAt.other (BxAt.set hd2) (Ne.symm pq)) dk7 ?_ (by rw [hist_wr, List.length_append, List.length_singleton]; omega) (fun s hs => ?_) fun y' r' μ' I' => ?_⟩
    · rw [setS_same, hist_wr, List.map_append]
      unfold stD skD
      rw [List.map_cons, List.map_nil, List.map_append]
      rfl
    · rw [hist_wr] at hs
      rcases List.mem_append.mp hs with hs | hs
      · exact okn s hs
      · simp only [List.mem_singleton] at hs
        subst hs
        exact ⟨by show (f.ss ++ [e.2]).length ≤ n + 1; rw [List.length_append, List.length_singleton]; omega, o2, o3⟩
    · walk_at "dz"
      exact ret_eq (k _ _ _ _ I')
  rw [if_neg hz6, nNil, oEq_lst eNat (by decide)]
  refine ⟨le_line (Nat.le_of_ble_eq_true rfl), ?_⟩
  walk_at "dz"
  by_cases hfr : freS f.ss = []
  · rw [if_pos hfr]
    refine ⟨p, _, d1, rfl, setS_same, hd1, ⟨by rw [List.length_map]; exact hpos, by rw [List.length_map]; omega⟩, fun x d2 hx hd2 => ?_⟩
    rw [setS_setS]
    obtain ⟨e, he, rfl⟩ := List.mem_map.mp hx
    have hen := hf.good.num e he
    have dk6 := dkp (X := .lst d2) I.dk
    have st6 : setS μ p (.lst d2) q = some (.lst ((hist (f :: S)).map stD)) := by rw [setS_ne (Ne.symm pq)]; exact I.st
    obtain ⟨w1, w2, w3⟩ := wd_write hen
    rw [show eEnt.enc e = D.tup [.int (e.1 : Nat), .str (stk e.2)] from rfl]
    dsimp only
    refine ⟨rfl, rfl, tyM_lref st6, le_line (Nat.le_of_ble_eq_true rfl), le_line (by rw [List.length_map]; simp only [List.length_cons, List.length_nil]; omega), le_line (Nat.le_of_ble_eq_true rfl), ?_⟩
    rw [app_ref st6]
    refine ⟨Nat.lt_of_lt_of_le (m := 100) (by rw [List.length_map]; omega) (le_line (by decide)), ?_⟩
    have dk7 := dkq (X := .lst ((hist (f :: S)).map stD ++ [.tup [.lst (f.es.map eEnt.enc), .tup (f.ss.map sD ++ [.str (stk e.2)])]])) dk6
    rw [mth_ref dk7.at_]
    refine ⟨rfl, lkd_no (.inl rfl), ?_⟩
    walk_at "dz"
    rw [show Str.ofString (toString ((e.1 : Nat) : Int)) = dig e.1 from rfl]
    rw [show (Str.ofString "write " ++ dig e.1) = jw (cwd (.write e)) from w3]
    refine ⟨log_small hen, le_line (by rw [← str_app_len, show (Str.ofString "write " ++ dig e.1) = jw (cwd (.write e)) from w3]; omega), a, y, r, f, S, cwd (.write e), rfl, dk7, hSl, w1, w2, told (q := q) (S' := wrF f e :: S) (x := stk e.2) (n := n + 1) (by unfold doC; dsimp only; rw [if_pos ⟨he, by omega, hpl⟩]) (BxAt.other (BxAt.set hd2) (Ne.symm pq)) dk7 ?_ (by rw [hist_wr, List.length_append, List.length_singleton]; omega) (fun s hs => ?_) fun y' r' μ' I' => ?_⟩
    · rw [setS_same, hist_wr, List.map_append]
      unfold stD skD
      rw [List.map_cons, List.map_nil, List.map_append]
      rfl
    · rw [hist_wr] at hs
      rcases List.mem_append.mp hs with hs | hs
      · exact okn s hs
      · simp only [List.mem_singleton] at hs
        subst hs
        exact ⟨by show (f.ss ++ [e.2]).length ≤ n + 1; rw [List.length_append, List.length_singleton]; omega, o2, o3⟩
    · walk_at "dz"
      exact ret_eq (k _ _ _ _ I')
  rw [if_neg hfr]
  unfold w_law_told_right_t1
  walk_at "dz"
  refine ⟨p, _, d1, rfl, setS_same, hd1, ⟨by rw [List.length_map]; exact List.length_pos_iff.mpr hfr, by rw [List.length_map]; have := List.length_filter_le (fun j => decide (false ∈ f.ss.getD j [])) (List.range f.ss.length); rw [List.length_range] at this; show (freS f.ss).length < _; unfold freS; omega⟩, fun x d2 hx hd2 => ?_⟩
  rw [setS_setS]
  obtain ⟨j, hj, rfl⟩ := List.mem_map.mp hx
  obtain ⟨s, hs, hps⟩ := fre_mem hj
  have hsk := hf.all.2 s (List.mem_of_getElem? hs)
  have hjl := (List.getElem?_eq_some_iff.mp hs).1
  rw [show eNat.enc j = D.int (j : Nat) from rfl]
  walk_at "dz"
  rw [show atI (f.ss.map sD) ((j : Nat) : Int) = some (.str (stk s)) by refine atI_nat (j := j) ?_; rw [List.getElem?_map, hs]; rfl]
  walk_at "dz"
  refine ⟨s, rfl, by have := hsk.2.1; omega, ?_⟩
  have hpl2 := plI_len s
  refine ⟨p, _, d2, rfl, setS_same, hd2, ⟨by rw [List.length_map]; exact List.length_pos_iff.mpr hps, by rw [List.length_map]; have := hsk.2.1; omega⟩, fun x2 d3 hx2 hd3 => ?_⟩
  rw [setS_setS]
  obtain ⟨i, hi, rfl⟩ := List.mem_map.mp hx2
  have hif := plI_iff.mp hi
  have hil := (List.getElem?_eq_some_iff.mp hif).1
  have dk6 := dkp (X := .lst d3) I.dk
  have st6 : setS μ p (.lst d3) q = some (.lst ((hist (f :: S)).map stD)) := by rw [setS_ne (Ne.symm pq)]; exact I.st
  obtain ⟨w1, w2, w3⟩ := wd_notch (j := j) (i := i) (by omega) (by have := hsk.2.1; omega)
  rw [show eNat.enc i = D.int (i : Nat) from rfl]
  refine ⟨tyM_lref st6, f.ss, j, i, s, rfl, hs, hsk.2.1, by omega, hil, ?_⟩
  walk_at "dz"
  refine ⟨le_line (Nat.le_of_ble_eq_true rfl), ?_⟩
  rw [app_ref st6]
  refine ⟨Nat.lt_of_lt_of_le (m := 100) (by rw [List.length_map]; omega) (le_line (by decide)), ?_⟩
  have dk7 := dkq (X := .lst ((hist (f :: S)).map stD ++ [.tup [.lst (f.es.map eEnt.enc), .tup ((f.ss.set j (s.set i true)).map sD)]])) dk6
  rw [mth_ref dk7.at_]
  refine ⟨rfl, lkd_no (.inl rfl), ?_⟩
  walk_at "dz"
  have hj7 := dig_len (show j < 10000000 by omega)
  have hi7 := dig_len (show i < 10000000 by have := hsk.2.1; omega)
  have e1 : (Str.ofString "notch ").length = 6 := by decide +kernel
  have e2 : (Str.ofString " ").length = 1 := by decide +kernel
  rw [show Str.ofString (toString ((j : Nat) : Int)) = dig j from rfl, show Str.ofString (toString ((i : Nat) : Int)) = dig i from rfl]
  refine ⟨log_small (by omega), le_line (by omega), le_line (by rw [str_app_len]; omega), log_small (by have := hsk.2.1; omega), le_line (by rw [str_app_len, str_app_len]; omega), a, y, r, f, S, cwd (.notch j i), by rw [← w3], dk7, hSl, w1, w2, told (q := q) (S' := ntF f j i s :: S) (x := stk (s.set i true)) (n := n + 1) (by unfold doC; dsimp only; rw [hs]; dsimp only; rw [if_pos ⟨hif, hpl⟩]) (BxAt.other (BxAt.set hd3) (Ne.symm pq)) dk7 ?_ (by rw [hist_nt, List.length_append, List.length_singleton]; omega) (fun s' hs' => ?_) fun y' r' μ' I' => ?_⟩
  · rw [setS_same, hist_nt, List.map_append]
    rfl
  · rw [hist_nt] at hs'
    rcases List.mem_append.mp hs' with hs' | hs'
    · exact okn s' hs'
    · simp only [List.mem_singleton] at hs'
      subst hs'
      exact ⟨by show (f.ss.set j (s.set i true)).length ≤ n + 1; rw [List.length_set]; omega, o2, o3⟩
  · rw [ix_ref I'.st, hist_nt, List.map_append, List.map_cons, List.map_nil, atI_app1]
    unfold stD skD
    walk_at "dz"
    rw [show atI ((f.ss.set j (s.set i true)).map sD) ((j : Nat) : Int) = some (.str (stk (s.set i true))) by
      refine atI_nat (j := j) ?_
      rw [List.getElem?_map, List.getElem?_set_self hjl]
      rfl]
    walk_at "dz"
    exact ret_eq (k _ _ _ _ I')
theorem cal_law_told_right (T : Txt K mg c) : DCal P w K mg base 25 "_law_told_right" (sp_law_told_right c) [] := T.f_law_told_right.cal (ps := ["_law_box_here", "_law_desk", "_law_states"]) sc_law_told_right (len_law_told_right c) (fun cdv A outer s H E hr => dv_law_told_right T cdv A outer s H E hr) (rd_law_told_right K c) fun _ _ _ _ _ _ us hl => match us, hl with | [_, _, _], _ => rfl
end
noncomputable def sp_Desk_xlen (c : Cs) : DSp := fun ds μ Q => ∃ (a y : Addr) (r : List Addr) (S : List Fr), ds = [.ref a] ∧ DkAt c.Ledger c.Book c.Desk μ a y r S ∧ Q (.int ((deedsS S).length : Nat)) μ
theorem len_Desk_xlen (c : Cs) : ∀ ds μ Q, sp_Desk_xlen c ds μ Q → ds.length = 1 := by
  rintro ds μ Q ⟨a, y, r, S, rfl, _⟩
  rfl
noncomputable def w_Desk_xlen (K : PySem.W.Frag) (c : Cs) : WS := wRet (wCB oLen (wACons (wFld K "deeds" (wVar 0)) (wANil)))
section
variable {P : Program} {w : World} {K : PySem.W.Frag} {mg : Str → Option Value} {base : Heap} {c : Cs}
theorem dv_Desk_xlen (T : Txt K mg c) {f : Addr} (cdv : Value) (A : Around) (outer : List PySem.Env) (s : Shared) (H : Hp) (E : XK) (hr : Room 0 (A.deeper (PyProof.Rows.envOfC "Desk.__len__" (defScope s_Desk_xlen) s.heap.objs.size f cdv))) : DSs (cxOf CX0 P w K mg base N_Desk_xlen "Desk.__len__" (defScope s_Desk_xlen) f cdv A outer s H E).nox (defBody s_Desk_xlen) (w_Desk_xlen K c) := by
  have ND := sc_Desk_xlen.nd
  have hu := hu_of hr
  have hu64 := hr.units
  have hu65 := units65 hr
  exact dss_one (ds_ret (de_callB cs_len rfl T.b_len (by decide +kernel) (da_cons (de_fld (de_var (pv 0)) rfl) (da_nil))))
theorem rd_Desk_xlen (K : PySem.W.Frag) (c : Cs) (kf : Kf K c) : ∀ ds μ Q, sp_Desk_xlen c ds μ Q → w_Desk_xlen K c { nx := fun _ μ' => ∃ μ2, Sub μ2 μ' ∧ Q .non μ2, rt := Q } (startD N_Desk_xlen ds) μ := by
  rintro ds μ Q ⟨a, y, r, S, rfl, h, k⟩
  show w_Desk_xlen K c _ [some (.ref a)] μ
  unfold w_Desk_xlen
  walk_at "dz"
  rw [fld_ref h.at_, lkd_d]
  refine ⟨kf.o_Desk_deeds, ?_⟩
  walk_at "dz"
  rw [List.length_map]
  exact ret_eq k
theorem met_Desk_xlen_1 (T : Txt K mg c) : DMet P w K mg base 1 c.Desk "__len__" (sp_Desk_xlen c) [] := by
  have D := T.f_Desk_xlen
  exact D.met T.k_Desk.cl sc_Desk_xlen (len_Desk_xlen c) (fun cdv A outer s H E hr => dv_Desk_xlen T cdv A outer s H E hr) (rd_Desk_xlen K c T.kf) (fun F => F.binds0 (ps := ["self"]) fun _ _ _ _ _ _ us hl => match us, hl with | [_], _ => rfl) (dvs := []) (.nil) (fun _ => .nil)
end
noncomputable def w_law_t1 (K : PySem.W.Frag) (c : Cs) : WS := wIfS (wB (wOp oNe (wLst (wACons (wMeth c.Desk "say" (sp_Desk_say c) [] (wVar 4) (wACons (wC (.str "sums")) (wANil))) (wACons (wMeth c.Desk "say" (sp_Desk_say c) [] (wVar 4) (wACons (wC (.str "totals")) (wANil))) (wANil)))) (wCall (sp_law_spoken c) [] (wACons (wIx (wIx (wVar 5) (wNeg (wC (.int 1)))) (wC (.int 0))) (wACons (wIx (wIx (wVar 5) (wNeg (wC (.int 1)))) (wC (.int 1))) (wANil)))))) (wRet (wC (.bl false))) (wNext)
noncomputable def w_law_b1 (K : PySem.W.Frag) (c : Cs) : WS := wSeq (wIfS (wOr (wNt (wTrv (wCall (sp_law_told_right c) [] (wACons (wVar 2) (wACons (wVar 4) (wACons (wVar 5) (wANil))))))) (wB (wOp oNe (wCB (oLenOwn c.Desk (sp_Desk_xlen c)) (wACons (wVar 4) (wANil))) (wOp oSub (wCB oLen (wACons (wVar 5) (wANil))) (wC (.int 1)))))) (wRet (wC (.bl false))) (wNext)) (w_law_t1 K c)
noncomputable def w_law_b2 (K : PySem.W.Frag) (c : Cs) : WS := wSeq (wAsg (wCall (sp_law_box c) [] (wACons (wVar 0) (wACons (wVar 1) (wACons (wC (.int 53)) (wANil))))) (wgName 2)) (wSeq (wPar 4 5 (wACons (wMakeM c.Desk (sp_Desk_xinit c) [] (wANil)) (wACons (wLstM (wACons (wTup (wACons (wLst (wANil)) (wACons (wTup (wANil)) (wANil)))) (wANil))) (wANil)))) (wFor (wiRng1 (wACons (wC (.int 30)) (wANil))) (wgName 3) (w_law_b1 K c)))
noncomputable def w_law (K : PySem.W.Frag) (c : Cs) : WS := wSeq (wFor (wiRng1 (wACons (wCB oMax (wACons (wC (.int 1)) (wACons (wCB oMin (wACons (wC (.int 3)) (wACons (wCB oLen (wACons (wVar 0) (wANil))) (wANil)))) (wANil)))) (wANil))) (wgName 1) (w_law_b2 K c)) (wRet (wC (.bl true)))
section
variable {P : Program} {w : World} {K : PySem.W.Frag} {mg : Str → Option Value} {base : Heap} {c : Cs}
theorem dv_law (T : Txt K mg c) {f : Addr} (cdv : Value) (A : Around) (outer : List PySem.Env) (s : Shared) (H : Hp) (E : XK) (hr : Room 25 (A.deeper (PyProof.Rows.envOfC "law" (defScope s_law) s.heap.objs.size f cdv))) : DSs (cxOf CX0 P w K mg base N_law "law" (defScope s_law) f cdv A outer s H E).nox (defBody s_law) (w_law K c) := by
  have ND := sc_law.nd
  have hu := hu_of hr
  have hu64 := hr.units
  have hu65 := units65 hr
  exact dss_cons (ds_for PassesOwn.never rfl (di_range1 rfl T.b_range (da_cons (de_callB (cs_max rfl) rfl T.b_max (by decide +kernel) (da_cons (de_int) (da_cons (de_callB (cs_min rfl) rfl T.b_min (by decide +kernel) (da_cons (de_int) (da_cons (de_callB cs_len rfl T.b_len (by decide +kernel) (da_cons (de_var (pv 0)) (da_nil))) (da_nil)))) (da_nil)))) (da_nil))) (dg_pat (vs := [1]) (g := gName 1) (pg_name (i := 1) ND rfl (by first | exact Or.inl rfl | exact Or.inr rfl)) (gp_name (by decide))) (dss_cons (ds_set (i := 2) ND rfl (Or.inl rfl) (de_cal (cal_law_box T) hr (by decide) rfl (da_cons (de_var (pv 0)) (da_cons (de_var (pv 1)) (da_cons (de_int) (da_nil)))))) (dss_cons (ds_par (i := 4) (j := 5) rfl ND rfl rfl (by decide) rfl rfl (da_cons (de_mak0M (mak_Desk_xinit_1 T) hr (by decide) rfl) (da_cons (de_lstM (da_cons (de_tup (da_cons (de_lst (da_nil)) (da_cons (de_tup (da_nil)) (da_nil)))) (da_nil))) (da_nil))) (by rfl)) (dss_one (ds_for PassesOwn.never rfl (di_range1 rfl T.b_range (da_cons (de_int) (da_nil))) (dg_pat (vs := [3]) (g := gName 3) (pg_name (i := 3) ND rfl (by first | exact Or.inl rfl | exact Or.inr rfl)) (gp_name (by decide))) (dss_cons (ds_if (dt_w (dw_or (dt_not (dt_tru (de_cal (cal_law_told_right T) hr (by decide) rfl (da_cons (de_var (pv 2)) (da_cons (de_var (pv 4)) (da_cons (de_var (pv 5)) (da_nil))))) (fun _ => rfl))) (dw_or1 (dt_cmp (os_ne hu64) (de_callB (cs_lenOwn (met_Desk_xlen_1 T) hr (by decide)) rfl T.b_len (by decide +kernel) (da_cons (de_var (pv 4)) (da_nil))) (de_op os_sub (de_callB cs_len rfl T.b_len (by decide +kernel) (da_cons (de_var (pv 5)) (da_nil))) (de_int)) (nomark _))))) (dss_one (ds_ret (de_bl))) (dss_nil)) (dss_one (ds_if (dt_cmp (os_ne hu64) (de_lst (da_cons (de_met (met_Desk_say_2 T) hr (by decide) (de_var (pv 4)) (da_cons (de_str) (da_nil))) (da_cons (de_met (met_Desk_say_2 T) hr (by decide) (de_var (pv 4)) (da_cons (de_str) (da_nil))) (da_nil)))) (de_cal (cal_law_spoken T) hr (by decide) rfl (da_cons (de_ix hu (de_ix hu (de_var (pv 5)) (de_neg (de_int)) (fun _ _ => rfl)) (de_int) (fun _ _ => rfl)) (da_cons (de_ix hu (de_ix hu (de_var (pv 5)) (de_neg (de_int)) (fun _ _ => rfl)) (de_int) (fun _ _ => rfl)) (da_nil)))) (nomark _)) (dss_one (ds_ret (de_bl))) (dss_nil))))))))) (dss_one (ds_ret (de_bl)))
theorem rd_law (K : PySem.W.Frag) (c : Cs) (kf : Kf K c) : ∀ ds μ Q, spL ds μ Q → w_law K c { nx := fun _ μ' => ∃ μ2, Sub μ2 μ' ∧ Q .non μ2, rt := Q } (startD N_law ds) μ := by
  rintro ds μ Q ⟨ns, rfl, hl, k⟩
  show w_law K c _ [some (.scr (ns.map .int)), none, none, none, none, none] μ
  unfold w_law
  walk_at "dz"
  rw [List.length_map]
  refine ⟨by omega, for_rng (fun i ρ μ' => ∃ x1 x2 x3 x4 x5, ρ = [some (.scr (ns.map .int)), x1, x2, x3, x4, x5]) ⟨_, _, _, _, _, rfl⟩ ?_ ?_⟩
  · rintro i ρ μ' hi ⟨x1, x2, x3, x4, x5, rfl⟩
    walk_at "dz"
    unfold w_law_b2
    walk_at "dz"
    refine ⟨ns, _, _, rfl, ⟨by omega, by omega⟩, by decide, fun p dd hp hd => ?_⟩
    walk_at "dz"
    intro a ha
    have hpa : p ≠ a := by rintro rfl; rw [setS_same] at ha; cases ha
    refine ⟨a, rfl, setS_same, fun y μ1 hy hD hk => ⟨rfl, le_line (Nat.le_of_ble_eq_true rfl), le_line (Nat.le_of_ble_eq_true rfl), le_line (Nat.le_of_ble_eq_true rfl), le_line (Nat.le_of_ble_eq_true rfl), fun q hq => ?_⟩⟩
    have hp1 : μ1 p = some (.lst dd) := by rw [hk p hpa (by simp) (by rw [setS_ne hpa, setS_same]; simp), setS_ne hpa, setS_same]
    have hqp : q ≠ p := by rintro rfl; rw [hp1] at hq; cases hq
    refine ⟨by decide, for_rng (fun j ρ μ2 => ∃ y' r' S' z3, TI c.Ledger c.Book c.Desk μ2 p a q y' r' S' j ∧ ρ = [some (.scr (ns.map .int)), some (.int (0 + (i : Nat))), some (.ref p), z3, some (.ref a), some (.ref q)]) ⟨y, [], [bkFr []], _, ?_, rfl⟩ ?_ ?_⟩
    · refine ⟨⟨dd, by rw [setS_ne (Ne.symm hqp)]; exact hp1, hd⟩, hD.mono (setS_ne (fun e => ?_)) fun z hz => setS_ne (fun e => ?_), setS_same, by decide, fun s hs => ?_⟩
      · rw [← e, hD.at_] at hq; cases hq
      · exact hD.ne z hz (e ▸ hq)
      · have : s = ([], []) := by simpa [hist, bkFr] using hs
        subst this
        exact ⟨Nat.le_refl _, by simp, by decide⟩
    · rintro j ρ μ2 hj ⟨y', r', S', z3, I, rfl⟩
      walk_at "dz"
      unfold w_law_b1
      walk_at "dz"
      refine ⟨p, a, q, y', r', S', j, rfl, by omega, I, fun y2 r2 S2 μ3 I2 => ?_⟩
      obtain ⟨f, S2, rfl⟩ : ∃ f S', S2 = f :: S' := by cases S2 with | nil => exact I2.dk.led.elim | cons f S => exact ⟨f, S, rfl⟩
      have hdl := deeds_len I2.dk.ok (by simp)
      rw [← hist_len] at hdl
      have hf := I2.dk.ok f List.mem_cons_self
      obtain ⟨o1, o2, o3⟩ := I2.ok (f.es, f.ss) (by show _ ∈ hist S2 ++ (f.past.map fun q => (f.es, q)) ++ [(f.es, f.ss)]; simp)
      dsimp only at o1 o2 o3
      have hSl : S2.length < 199 := by have := hist_ge (f :: S2); have := I2.ln; simp only [List.length_cons] at *; omega
      walk_at "dz"
      unfold oLenOwn
      refine ⟨_, _, rfl, insD_ref I2.dk.at_, a, y2, r2, f :: S2, rfl, I2.dk, _, rfl, ⟨by have := I2.ln; omega, by have := I2.ln; omega⟩, ?_⟩
      dsimp only
      rw [len_ref I2.st]
      walk_at "dz"
      rw [List.length_map, if_neg (by omega)]
      unfold w_law_t1
      walk_at "dz"
      have one : ∀ (m : Cmd) {w : Str}, cwd m = [w] → w ≠ Str.ofString "" → (32 : Nat) ∉ w.cps.toList → (10 : Nat) ∉ w.cps.toList → w.length ≤ 100 → w = jw (cwd m) ∧ Wds (cwd m) ∧ (jw (cwd m)).length ≤ 100000 := fun m {w} e h1 h2 h3 h4 => by
        rw [e, jw_one]
        refine ⟨rfl, ⟨by simp, fun p hp => ?_⟩, by omega⟩
        simp only [List.mem_singleton] at hp
        subst hp
        exact ⟨h1, h2, h3⟩
      obtain ⟨u1, u2, u3⟩ := one .sums (w := Str.ofString "sums") rfl (by decide +kernel) (by decide +kernel) (by decide +kernel) (by decide +kernel)
      obtain ⟨v1, v2, v3⟩ := one .totals (w := Str.ofString "totals") rfl (by decide +kernel) (by decide +kernel) (by decide +kernel) (by decide +kernel)
      rw [mth_ref I2.dk.at_]
      refine ⟨rfl, lkd_no (.inl rfl), a, y2, r2, f, S2, cwd .sums, by rw [← u1], I2.dk, hSl, u2, u3, told (q := q) (S' := f :: S2) (x := sumsT f) (n := j + 1) rfl I2.bx I2.dk I2.st I2.ln I2.ok fun y4 r4 μ4 I4 => ?_⟩
      rw [mth_ref I4.dk.at_]
      refine ⟨rfl, lkd_no (.inl rfl), a, y4, r4, f, S2, cwd .totals, by rw [← v1], I4.dk, hSl, v2, v3, told (q := q) (S' := f :: S2) (x := totT f) (n := j + 1) rfl I4.bx I4.dk I4.st I4.ln I4.ok fun y5 r5 μ5 I5 => ?_⟩
      refine ⟨le_line (Nat.le_of_ble_eq_true rfl), ?_⟩
      rw [ix_ref I5.st, show (hist (f :: S2)).map stD = ((hist S2 ++ f.past.map fun q => (f.es, q)).map stD) ++ [stD (f.es, f.ss)] by rw [show hist (f :: S2) = (hist S2 ++ f.past.map fun q => (f.es, q)) ++ [(f.es, f.ss)] from rfl, List.map_append]; rfl, atI_app1]
      unfold stD
      walk_at "dz"
      rw [ix_ref I5.st, show (hist (f :: S2)).map stD = ((hist S2 ++ f.past.map fun q => (f.es, q)).map stD) ++ [stD (f.es, f.ss)] by rw [show hist (f :: S2) = (hist S2 ++ f.past.map fun q => (f.es, q)) ++ [(f.es, f.ss)] from rfl, List.map_append]; rfl, atI_app1]
      unfold stD
      walk_at "dz"
      refine ⟨f.es, f.ss, rfl, hf.good, hf.asc, hf.all, by omega, ?_⟩
      have hok : ∀ x ∈ [spk (sumsW f.es f.ss), jw (totW f.es f.ss)], PyData.strOk x = true := by
        have b1 := sum_bd (l := f.ss.map (loO f.es)) fun x hx => by obtain ⟨s, hs, rfl⟩ := List.mem_map.mp hx; exact (lo_bd hf.good (hf.all.2 s hs)).1
        have b2 := sum_bd (l := f.ss.map (hiO f.es)) fun x hx => by obtain ⟨s, hs, rfl⟩ := List.mem_map.mp hx; exact (lo_bd hf.good (hf.all.2 s hs)).2
        rw [List.length_map] at b1 b2
        intro x hx
        simp only [List.mem_cons, List.not_mem_nil, or_false] at hx
        rcases hx with rfl | rfl
        · refine (sm_spk fun w hw => ?_).ok
          obtain ⟨s, hs, rfl⟩ := List.mem_map.mp hw
          cases sumO f.es s with
          | none => show Sm8 (Str.ofString "?"); unfold Sm8; decide +kernel
          | some n => exact sm_dig n
        · refine (sm_jw fun w hw => ?_).ok
          simp only [totW, List.mem_cons, List.not_mem_nil, or_false] at hw
          rcases hw with rfl | rfl
          · exact (itx_ok b1.1 (by omega)).2
          · exact (itx_ok b2.1 (by omega)).2
      dsimp only
      rw [show D.lst [.str (sumsT f), .str (totT f)] = .lst ([spk (sumsW f.es f.ss), jw (totW f.es f.ss)].map .str) from rfl, oNe_txts hok]
      walk_at "dz"
      exact ⟨y5, r5, f :: S2, _, I5, rfl⟩
    · rintro ρ μ2 ⟨y', r', S', z3, I, rfl⟩
      exact ⟨_, _, _, _, _, rfl⟩
  · rintro ρ μ' ⟨x1, x2, x3, x4, x5, rfl⟩
    walk_at "dz"
    exact ret_eq (k _)
end
theorem all_mk {l : PySem.W.OpenLaw} {w : World} {K : PySem.W.Frag} {h : Heap} {mg : Str → Option Value} {fa : Addr} (X : K.In h) (G : h.Ns mainGlobals mg) (hfa : mg "law" = some (.ref fa))
    {Tq_HOWS : Addr} {ddq_HOWS : Option Addr} {nq_HOWS : Nat} {slq_HOWS : Array (Option Value)} {tq_HOWS_0 : Tok} {tq_HOWS_1 : Tok} {tq_HOWS_2 : Tok}
    {tq_NOTCHED : Tok}
    {tq_PAIR : Tok}
    {tq_PLAIN : Tok}
    {A_Book : Addr}
    {A_Way : Addr}
    {A_Trial : Addr}
    {A_Ledger : Addr}
    {A_Pairing : Addr}
    {A_Desk : Addr}
    {f0 : Addr} {od0 an0 : Option Addr} {sl0 : Array (Option Value)} {oc0 kV0 dc0 pm0 cd0 ct0 : Value}
    {f1 : Addr} {od1 an1 : Option Addr} {sl1 : Array (Option Value)} {oc1 kV1 dc1 pm1 cd1 ct1 : Value}
    {f2 : Addr} {od2 an2 : Option Addr} {sl2 : Array (Option Value)} {oc2 kV2 dc2 pm2 cd2 ct2 : Value}
    {f3 : Addr} {od3 an3 : Option Addr} {sl3 : Array (Option Value)} {oc3 kV3 dc3 pm3 cd3 ct3 : Value}
    {f4 : Addr} {od4 an4 : Option Addr} {sl4 : Array (Option Value)} {oc4 kV4 dc4 pm4 cd4 ct4 : Value}
    {f5 : Addr} {od5 an5 : Option Addr} {sl5 : Array (Option Value)} {oc5 kV5 dc5 pm5 cd5 ct5 : Value}
    {f6 : Addr} {od6 an6 : Option Addr} {sl6 : Array (Option Value)} {oc6 kV6 dc6 pm6 cd6 ct6 : Value}
    {T6 : Addr} {tc6 : Value} {td6 : Option Addr} {tn6 : Nat} {tsl6 : Array (Option Value)} 
    {d6e0 : Addr} {x6e0d : Option Addr} {x6e0n : Nat} {x6e0s : Array (Option Value)}
    {f7 : Addr} {od7 an7 : Option Addr} {sl7 : Array (Option Value)} {oc7 kV7 dc7 pm7 cd7 ct7 : Value}
    {f8 : Addr} {od8 an8 : Option Addr} {sl8 : Array (Option Value)} {oc8 kV8 dc8 pm8 cd8 ct8 : Value}
    {T8 : Addr} {tc8 : Value} {td8 : Option Addr} {tn8 : Nat} {tsl8 : Array (Option Value)} {d8t0 : Tok}
    {f9 : Addr} {od9 an9 : Option Addr} {sl9 : Array (Option Value)} {oc9 kV9 dc9 pm9 cd9 ct9 : Value}
    {f10 : Addr} {od10 an10 : Option Addr} {sl10 : Array (Option Value)} {oc10 kV10 dc10 pm10 cd10 ct10 : Value}
    {f11 : Addr} {od11 an11 : Option Addr} {sl11 : Array (Option Value)} {oc11 kV11 dc11 pm11 cd11 ct11 : Value}
    {f12 : Addr} {od12 an12 : Option Addr} {sl12 : Array (Option Value)} {oc12 kV12 dc12 pm12 cd12 ct12 : Value}
    {f13 : Addr} {od13 an13 : Option Addr} {sl13 : Array (Option Value)} {oc13 kV13 dc13 pm13 cd13 ct13 : Value}
    {f14 : Addr} {od14 an14 : Option Addr} {sl14 : Array (Option Value)} {oc14 kV14 dc14 pm14 cd14 ct14 : Value}
    {f15 : Addr} {od15 an15 : Option Addr} {sl15 : Array (Option Value)} {oc15 kV15 dc15 pm15 cd15 ct15 : Value}
    {f16 : Addr} {od16 an16 : Option Addr} {sl16 : Array (Option Value)} {oc16 kV16 dc16 pm16 cd16 ct16 : Value}
    {f17 : Addr} {od17 an17 : Option Addr} {sl17 : Array (Option Value)} {oc17 kV17 dc17 pm17 cd17 ct17 : Value}
    {f18 : Addr} {od18 an18 : Option Addr} {sl18 : Array (Option Value)} {oc18 kV18 dc18 pm18 cd18 ct18 : Value}
    {f19 : Addr} {od19 an19 : Option Addr} {sl19 : Array (Option Value)} {oc19 kV19 dc19 pm19 cd19 ct19 : Value}
    {f20 : Addr} {od20 an20 : Option Addr} {sl20 : Array (Option Value)} {oc20 kV20 dc20 pm20 cd20 ct20 : Value}
    {f21 : Addr} {od21 an21 : Option Addr} {sl21 : Array (Option Value)} {oc21 kV21 dc21 pm21 cd21 ct21 : Value}
    {f22 : Addr} {od22 an22 : Option Addr} {sl22 : Array (Option Value)} {oc22 kV22 dc22 pm22 cd22 ct22 : Value}
    {f23 : Addr} {od23 an23 : Option Addr} {sl23 : Array (Option Value)} {oc23 kV23 dc23 pm23 cd23 ct23 : Value}
    {f24 : Addr} {od24 an24 : Option Addr} {sl24 : Array (Option Value)} {oc24 kV24 dc24 pm24 cd24 ct24 : Value}
    {f25 : Addr} {od25 an25 : Option Addr} {sl25 : Array (Option Value)} {oc25 kV25 dc25 pm25 cd25 ct25 : Value}
    {f26 : Addr} {od26 an26 : Option Addr} {sl26 : Array (Option Value)} {oc26 kV26 dc26 pm26 cd26 ct26 : Value}
    {f27 : Addr} {od27 an27 : Option Addr} {sl27 : Array (Option Value)} {oc27 kV27 dc27 pm27 cd27 ct27 : Value}
    {f28 : Addr} {od28 an28 : Option Addr} {sl28 : Array (Option Value)} {oc28 kV28 dc28 pm28 cd28 ct28 : Value}
    {f29 : Addr} {od29 an29 : Option Addr} {sl29 : Array (Option Value)} {oc29 kV29 dc29 pm29 cd29 ct29 : Value}
    {f30 : Addr} {od30 an30 : Option Addr} {sl30 : Array (Option Value)} {oc30 kV30 dc30 pm30 cd30 ct30 : Value}
    {f31 : Addr} {od31 an31 : Option Addr} {sl31 : Array (Option Value)} {oc31 kV31 dc31 pm31 cd31 ct31 : Value}
    {f32 : Addr} {od32 an32 : Option Addr} {sl32 : Array (Option Value)} {oc32 kV32 dc32 pm32 cd32 ct32 : Value}
    {f33 : Addr} {od33 an33 : Option Addr} {sl33 : Array (Option Value)} {oc33 kV33 dc33 pm33 cd33 ct33 : Value}
    {f34 : Addr} {od34 an34 : Option Addr} {sl34 : Array (Option Value)} {oc34 kV34 dc34 pm34 cd34 ct34 : Value}
    {f35 : Addr} {od35 an35 : Option Addr} {sl35 : Array (Option Value)} {oc35 kV35 dc35 pm35 cd35 ct35 : Value}
    {f36 : Addr} {od36 an36 : Option Addr} {sl36 : Array (Option Value)} {oc36 kV36 dc36 pm36 cd36 ct36 : Value}
    {f37 : Addr} {od37 an37 : Option Addr} {sl37 : Array (Option Value)} {oc37 kV37 dc37 pm37 cd37 ct37 : Value}
    {f38 : Addr} {od38 an38 : Option Addr} {sl38 : Array (Option Value)} {oc38 kV38 dc38 pm38 cd38 ct38 : Value}
    {p38 : Addr} {rs38 : List Value}
    {f39 : Addr} {od39 an39 : Option Addr} {sl39 : Array (Option Value)} {oc39 kV39 dc39 pm39 cd39 ct39 : Value}
    {f40 : Addr} {od40 an40 : Option Addr} {sl40 : Array (Option Value)} {oc40 kV40 dc40 pm40 cd40 ct40 : Value}
    {f41 : Addr} {od41 an41 : Option Addr} {sl41 : Array (Option Value)} {oc41 kV41 dc41 pm41 cd41 ct41 : Value}
    {f42 : Addr} {od42 an42 : Option Addr} {sl42 : Array (Option Value)} {oc42 kV42 dc42 pm42 cd42 ct42 : Value}
    {f43 : Addr} {od43 an43 : Option Addr} {sl43 : Array (Option Value)} {oc43 kV43 dc43 pm43 cd43 ct43 : Value}
    {f44 : Addr} {od44 an44 : Option Addr} {sl44 : Array (Option Value)} {oc44 kV44 dc44 pm44 cd44 ct44 : Value}
    {f45 : Addr} {od45 an45 : Option Addr} {sl45 : Array (Option Value)} {oc45 kV45 dc45 pm45 cd45 ct45 : Value}
    {f46 : Addr} {od46 an46 : Option Addr} {sl46 : Array (Option Value)} {oc46 kV46 dc46 pm46 cd46 ct46 : Value}
    {f47 : Addr} {od47 an47 : Option Addr} {sl47 : Array (Option Value)} {oc47 kV47 dc47 pm47 cd47 ct47 : Value}
    {f48 : Addr} {od48 an48 : Option Addr} {sl48 : Array (Option Value)} {oc48 kV48 dc48 pm48 cd48 ct48 : Value}
    {f49 : Addr} {od49 an49 : Option Addr} {sl49 : Array (Option Value)} {oc49 kV49 dc49 pm49 cd49 ct49 : Value}
    {f50 : Addr} {od50 an50 : Option Addr} {sl50 : Array (Option Value)} {oc50 kV50 dc50 pm50 cd50 ct50 : Value}
    {f51 : Addr} {od51 an51 : Option Addr} {sl51 : Array (Option Value)} {oc51 kV51 dc51 pm51 cd51 ct51 : Value}
    {f52 : Addr} {od52 an52 : Option Addr} {sl52 : Array (Option Value)} {oc52 kV52 dc52 pm52 cd52 ct52 : Value}
    {f53 : Addr} {od53 an53 : Option Addr} {sl53 : Array (Option Value)} {oc53 kV53 dc53 pm53 cd53 ct53 : Value}
    {f54 : Addr} {od54 an54 : Option Addr} {sl54 : Array (Option Value)} {oc54 kV54 dc54 pm54 cd54 ct54 : Value}
    {f55 : Addr} {od55 an55 : Option Addr} {sl55 : Array (Option Value)} {oc55 kV55 dc55 pm55 cd55 ct55 : Value}
    {f56 : Addr} {od56 an56 : Option Addr} {sl56 : Array (Option Value)} {oc56 kV56 dc56 pm56 cd56 ct56 : Value}
    {f57 : Addr} {od57 an57 : Option Addr} {sl57 : Array (Option Value)} {oc57 kV57 dc57 pm57 cd57 ct57 : Value}
    {f58 : Addr} {od58 an58 : Option Addr} {sl58 : Array (Option Value)} {oc58 kV58 dc58 pm58 cd58 ct58 : Value}
    {f59 : Addr} {od59 an59 : Option Addr} {sl59 : Array (Option Value)} {oc59 kV59 dc59 pm59 cd59 ct59 : Value}
    {f60 : Addr} {od60 an60 : Option Addr} {sl60 : Array (Option Value)} {oc60 kV60 dc60 pm60 cd60 ct60 : Value}
    {f61 : Addr} {od61 an61 : Option Addr} {sl61 : Array (Option Value)} {oc61 kV61 dc61 pm61 cd61 ct61 : Value}
    {f62 : Addr} {od62 an62 : Option Addr} {sl62 : Array (Option Value)} {oc62 kV62 dc62 pm62 cd62 ct62 : Value}
    (z_abs : PySem.W.nsIn K mainGlobals "abs" = some none)
    (z_all : PySem.W.nsIn K mainGlobals "all" = some none)
    (z_any : PySem.W.nsIn K mainGlobals "any" = some none)
    (z_bool : PySem.W.nsIn K mainGlobals "bool" = some none)
    (z_enumerate : PySem.W.nsIn K mainGlobals "enumerate" = some none)
    (z_int : PySem.W.nsIn K mainGlobals "int" = some none)
    (z_isinstance : PySem.W.nsIn K mainGlobals "isinstance" = some none)
    (z_len : PySem.W.nsIn K mainGlobals "len" = some none)
    (z_list : PySem.W.nsIn K mainGlobals "list" = some none)
    (z_max : PySem.W.nsIn K mainGlobals "max" = some none)
    (z_min : PySem.W.nsIn K mainGlobals "min" = some none)
    (z_range : PySem.W.nsIn K mainGlobals "range" = some none)
    (z_sorted : PySem.W.nsIn K mainGlobals "sorted" = some none)
    (z_str : PySem.W.nsIn K mainGlobals "str" = some none)
    (z_sum : PySem.W.nsIn K mainGlobals "sum" = some none)
    (z_tuple : PySem.W.nsIn K mainGlobals "tuple" = some none)
    (z_zip : PySem.W.nsIn K mainGlobals "zip" = some none)
    (q_HOWS : PySem.W.nsIn K mainGlobals "HOWS" = some (some (.ref Tq_HOWS))) (lq_HOWS : K.lookup Tq_HOWS = some ⟨.type "tuple", ddq_HOWS, .seq #[.str "add" tq_HOWS_0, .str "lose" tq_HOWS_1, .str "mixed" tq_HOWS_2] nq_HOWS, slq_HOWS⟩)
    (q_NOTCHED : PySem.W.nsIn K mainGlobals "NOTCHED" = some (some (.str "x" tq_NOTCHED)))
    (q_PAIR : PySem.W.nsIn K mainGlobals "PAIR" = some (some (.int 2 tq_PAIR)))
    (q_PLAIN : PySem.W.nsIn K mainGlobals "PLAIN" = some (some (.str "." tq_PLAIN)))
    (aC_Book : PySem.W.nsIn K mainGlobals "Book" = some (some (.ref A_Book)))
    (pg_Book : PySem.W.plainGet K A_Book Str.empty = true)
    (hd_Book : PySem.W.hasDictIn K A_Book = true)
    (po_Book : PySem.W.plainOver K A_Book = true)
    (sa_Book : PySem.W.findIn K (.ref A_Book) "__setattr__" = some (some (.builtin "object.__setattr__")))
    (mk_Book : PySem.W.makesIn K A_Book = true)
    (kc_Book : PySem.W.keepIn K (.ref A_Book) = true)
    (nf_Book_entries : PySem.W.findIn K (.ref A_Book) "entries" = some none)
    (nf_Book_length : PySem.W.findIn K (.ref A_Book) "length" = some none)
    (nf_Book_text : PySem.W.findIn K (.ref A_Book) "text" = some none)
    (aC_Way : PySem.W.nsIn K mainGlobals "Way" = some (some (.ref A_Way)))
    (pg_Way : PySem.W.plainGet K A_Way Str.empty = true)
    (hd_Way : PySem.W.hasDictIn K A_Way = true)
    (po_Way : PySem.W.plainOver K A_Way = true)
    (sa_Way : PySem.W.findIn K (.ref A_Way) "__setattr__" = some (some (.builtin "object.__setattr__")))
    (mk_Way : PySem.W.makesIn K A_Way = true)
    (kc_Way : PySem.W.keepIn K (.ref A_Way) = true)
    (nf_Way_how : PySem.W.findIn K (.ref A_Way) "how" = some none)
    (nf_Way_most : PySem.W.findIn K (.ref A_Way) "most" = some none)
    (nf_Way_part : PySem.W.findIn K (.ref A_Way) "part" = some none)
    (aC_Trial : PySem.W.nsIn K mainGlobals "Trial" = some (some (.ref A_Trial)))
    (pg_Trial : PySem.W.plainGet K A_Trial Str.empty = true)
    (hd_Trial : PySem.W.hasDictIn K A_Trial = true)
    (po_Trial : PySem.W.plainOver K A_Trial = true)
    (sa_Trial : PySem.W.findIn K (.ref A_Trial) "__setattr__" = some (some (.builtin "object.__setattr__")))
    (mk_Trial : PySem.W.makesIn K A_Trial = true)
    (kc_Trial : PySem.W.keepIn K (.ref A_Trial) = true)
    (nf_Trial_held_ledger : PySem.W.findIn K (.ref A_Trial) "held_ledger" = some none)
    (nf_Trial_old_sticks : PySem.W.findIn K (.ref A_Trial) "old_sticks" = some none)
    (nf_Trial_old_sums : PySem.W.findIn K (.ref A_Trial) "old_sums" = some none)
    (nf_Trial_old_totals : PySem.W.findIn K (.ref A_Trial) "old_totals" = some none)
    (nf_Trial_old_past : PySem.W.findIn K (.ref A_Trial) "old_past" = some none)
    (aC_Ledger : PySem.W.nsIn K mainGlobals "Ledger" = some (some (.ref A_Ledger)))
    (pg_Ledger : PySem.W.plainGet K A_Ledger Str.empty = true)
    (hd_Ledger : PySem.W.hasDictIn K A_Ledger = true)
    (po_Ledger : PySem.W.plainOver K A_Ledger = true)
    (sa_Ledger : PySem.W.findIn K (.ref A_Ledger) "__setattr__" = some (some (.builtin "object.__setattr__")))
    (mk_Ledger : PySem.W.makesIn K A_Ledger = true)
    (kc_Ledger : PySem.W.keepIn K (.ref A_Ledger) = true)
    (nf_Ledger_book : PySem.W.findIn K (.ref A_Ledger) "book" = some none)
    (nf_Ledger_past : PySem.W.findIn K (.ref A_Ledger) "past" = some none)
    (nf_Ledger_sticks : PySem.W.findIn K (.ref A_Ledger) "sticks" = some none)
    (nf_Ledger_sums : PySem.W.findIn K (.ref A_Ledger) "sums" = some none)
    (nf_Ledger_totals : PySem.W.findIn K (.ref A_Ledger) "totals" = some none)
    (aC_Pairing : PySem.W.nsIn K mainGlobals "Pairing" = some (some (.ref A_Pairing)))
    (pg_Pairing : PySem.W.plainGet K A_Pairing Str.empty = true)
    (hd_Pairing : PySem.W.hasDictIn K A_Pairing = true)
    (po_Pairing : PySem.W.plainOver K A_Pairing = true)
    (sa_Pairing : PySem.W.findIn K (.ref A_Pairing) "__setattr__" = some (some (.builtin "object.__setattr__")))
    (mk_Pairing : PySem.W.makesIn K A_Pairing = true)
    (kc_Pairing : PySem.W.keepIn K (.ref A_Pairing) = true)
    (nf_Pairing_sums : PySem.W.findIn K (.ref A_Pairing) "sums" = some none)
    (nf_Pairing_above : PySem.W.findIn K (.ref A_Pairing) "above" = some none)
    (nf_Pairing_next_of : PySem.W.findIn K (.ref A_Pairing) "next_of" = some none)
    (nf_Pairing_from_of : PySem.W.findIn K (.ref A_Pairing) "from_of" = some none)
    (aC_Desk : PySem.W.nsIn K mainGlobals "Desk" = some (some (.ref A_Desk)))
    (pg_Desk : PySem.W.plainGet K A_Desk Str.empty = true)
    (hd_Desk : PySem.W.hasDictIn K A_Desk = true)
    (po_Desk : PySem.W.plainOver K A_Desk = true)
    (sa_Desk : PySem.W.findIn K (.ref A_Desk) "__setattr__" = some (some (.builtin "object.__setattr__")))
    (mk_Desk : PySem.W.makesIn K A_Desk = true)
    (kc_Desk : PySem.W.keepIn K (.ref A_Desk) = true)
    (nf_Desk_going : PySem.W.findIn K (.ref A_Desk) "going" = some none)
    (nf_Desk_elders : PySem.W.findIn K (.ref A_Desk) "elders" = some none)
    (nf_Desk_deeds : PySem.W.findIn K (.ref A_Desk) "deeds" = some none)
    (a0 : PySem.W.nsIn K mainGlobals "is_integer" = some (some (.ref f0)))
    (l0 : K.lookup f0 = some ⟨oc0, od0, .func (PySem.W.fnOf "is_integer" "is_integer" (defArgs s_is_integer) (defBody s_is_integer) (defScope s_is_integer) .none kV0 dc0 pm0 an0 cd0 ct0), sl0⟩) (c0 : PySem.W.codeIn K cd0 "is_integer" = true) (k0 : PySem.W.keepIn K (.ref f0) = true)
    (a1 : PySem.W.nsIn K mainGlobals "is_stick" = some (some (.ref f1)))
    (l1 : K.lookup f1 = some ⟨oc1, od1, .func (PySem.W.fnOf "is_stick" "is_stick" (defArgs s_is_stick) (defBody s_is_stick) (defScope s_is_stick) .none kV1 dc1 pm1 an1 cd1 ct1), sl1⟩) (c1 : PySem.W.codeIn K cd1 "is_stick" = true) (k1 : PySem.W.keepIn K (.ref f1) = true)
    (a2 : PySem.W.nsIn K mainGlobals "is_entry" = some (some (.ref f2)))
    (l2 : K.lookup f2 = some ⟨oc2, od2, .func (PySem.W.fnOf "is_entry" "is_entry" (defArgs s_is_entry) (defBody s_is_entry) (defScope s_is_entry) .none kV2 dc2 pm2 an2 cd2 ct2), sl2⟩) (c2 : PySem.W.codeIn K cd2 "is_entry" = true) (k2 : PySem.W.keepIn K (.ref f2) = true)
    (a3 : PySem.W.nsIn K mainGlobals "is_sequence" = some (some (.ref f3)))
    (l3 : K.lookup f3 = some ⟨oc3, od3, .func (PySem.W.fnOf "is_sequence" "is_sequence" (defArgs s_is_sequence) (defBody s_is_sequence) (defScope s_is_sequence) .none kV3 dc3 pm3 an3 cd3 ct3), sl3⟩) (c3 : PySem.W.codeIn K cd3 "is_sequence" = true) (k3 : PySem.W.keepIn K (.ref f3) = true)
    (a4 : PySem.W.nsIn K mainGlobals "need_entries" = some (some (.ref f4)))
    (l4 : K.lookup f4 = some ⟨oc4, od4, .func (PySem.W.fnOf "need_entries" "need_entries" (defArgs s_need_entries) (defBody s_need_entries) (defScope s_need_entries) .none kV4 dc4 pm4 an4 cd4 ct4), sl4⟩) (c4 : PySem.W.codeIn K cd4 "need_entries" = true) (k4 : PySem.W.keepIn K (.ref f4) = true)
    (a5 : PySem.W.nsIn K mainGlobals "text_of_entries" = some (some (.ref f5)))
    (l5 : K.lookup f5 = some ⟨oc5, od5, .func (PySem.W.fnOf "text_of_entries" "text_of_entries" (defArgs s_text_of_entries) (defBody s_text_of_entries) (defScope s_text_of_entries) .none kV5 dc5 pm5 an5 cd5 ct5), sl5⟩) (c5 : PySem.W.codeIn K cd5 "text_of_entries" = true) (k5 : PySem.W.keepIn K (.ref f5) = true)
    (a6 : PySem.W.findIn K (.ref A_Book) "__init__" = some (some (.ref f6))) (i6 : PySem.W.isFn K (.ref f6) = true)
    (l6 : K.lookup f6 = some ⟨oc6, od6, .func (PySem.W.fnOf "__init__" "Book.__init__" (defArgs s_Book_xinit) (defBody s_Book_xinit) (defScope s_Book_xinit) (.ref T6) kV6 dc6 pm6 an6 cd6 ct6), sl6⟩) (c6 : PySem.W.codeIn K cd6 "Book.__init__" = true) (k6 : PySem.W.keepIn K (.ref f6) = true)
    (d6 : K.lookup T6 = some ⟨tc6, td6, .seq #[.ref d6e0] tn6, tsl6⟩)
    (y6e0 : K.lookup d6e0 = some ⟨.type "tuple", x6e0d, .seq #[] x6e0n, x6e0s⟩)
    (a7 : PySem.W.nsIn K mainGlobals "is_from_zero" = some (some (.ref f7)))
    (l7 : K.lookup f7 = some ⟨oc7, od7, .func (PySem.W.fnOf "is_from_zero" "is_from_zero" (defArgs s_is_from_zero) (defBody s_is_from_zero) (defScope s_is_from_zero) .none kV7 dc7 pm7 an7 cd7 ct7), sl7⟩) (c7 : PySem.W.codeIn K cd7 "is_from_zero" = true) (k7 : PySem.W.keepIn K (.ref f7) = true)
    (a8 : PySem.W.findIn K (.ref A_Way) "__init__" = some (some (.ref f8))) (i8 : PySem.W.isFn K (.ref f8) = true)
    (l8 : K.lookup f8 = some ⟨oc8, od8, .func (PySem.W.fnOf "__init__" "Way.__init__" (defArgs s_Way_xinit) (defBody s_Way_xinit) (defScope s_Way_xinit) (.ref T8) kV8 dc8 pm8 an8 cd8 ct8), sl8⟩) (c8 : PySem.W.codeIn K cd8 "Way.__init__" = true) (k8 : PySem.W.keepIn K (.ref f8) = true)
    (d8 : K.lookup T8 = some ⟨tc8, td8, .seq #[.str "add" d8t0, .none, .none] tn8, tsl8⟩)
    (a9 : PySem.W.nsIn K mainGlobals "need_stick" = some (some (.ref f9)))
    (l9 : K.lookup f9 = some ⟨oc9, od9, .func (PySem.W.fnOf "need_stick" "need_stick" (defArgs s_need_stick) (defBody s_need_stick) (defScope s_need_stick) .none kV9 dc9 pm9 an9 cd9 ct9), sl9⟩) (c9 : PySem.W.codeIn K cd9 "need_stick" = true) (k9 : PySem.W.keepIn K (.ref f9) = true)
    (a10 : PySem.W.findIn K (.ref A_Way) "lets" = some (some (.ref f10))) (i10 : PySem.W.isFn K (.ref f10) = true)
    (l10 : K.lookup f10 = some ⟨oc10, od10, .func (PySem.W.fnOf "lets" "Way.lets" (defArgs s_Way_lets) (defBody s_Way_lets) (defScope s_Way_lets) .none kV10 dc10 pm10 an10 cd10 ct10), sl10⟩) (c10 : PySem.W.codeIn K cd10 "Way.lets" = true) (k10 : PySem.W.keepIn K (.ref f10) = true)
    (a11 : PySem.W.findIn K (.ref A_Way) "can" = some (some (.ref f11))) (i11 : PySem.W.isFn K (.ref f11) = true)
    (l11 : K.lookup f11 = some ⟨oc11, od11, .func (PySem.W.fnOf "can" "Way.can" (defArgs s_Way_can) (defBody s_Way_can) (defScope s_Way_can) .none kV11 dc11 pm11 an11 cd11 ct11), sl11⟩) (c11 : PySem.W.codeIn K cd11 "Way.can" = true) (k11 : PySem.W.keepIn K (.ref f11) = true)
    (a12 : PySem.W.nsIn K mainGlobals "origins" = some (some (.ref f12)))
    (l12 : K.lookup f12 = some ⟨oc12, od12, .func (PySem.W.fnOf "origins" "origins" (defArgs s_origins) (defBody s_origins) (defScope s_origins) .none kV12 dc12 pm12 an12 cd12 ct12), sl12⟩) (c12 : PySem.W.codeIn K cd12 "origins" = true) (k12 : PySem.W.keepIn K (.ref f12) = true)
    (a13 : PySem.W.nsIn K mainGlobals "told_sums" = some (some (.ref f13)))
    (l13 : K.lookup f13 = some ⟨oc13, od13, .func (PySem.W.fnOf "told_sums" "told_sums" (defArgs s_told_sums) (defBody s_told_sums) (defScope s_told_sums) .none kV13 dc13 pm13 an13 cd13 ct13), sl13⟩) (c13 : PySem.W.codeIn K cd13 "told_sums" = true) (k13 : PySem.W.keepIn K (.ref f13) = true)
    (a14 : PySem.W.findIn K (.ref A_Book) "sum_of" = some (some (.ref f14))) (i14 : PySem.W.isFn K (.ref f14) = true)
    (l14 : K.lookup f14 = some ⟨oc14, od14, .func (PySem.W.fnOf "sum_of" "Book.sum_of" (defArgs s_Book_sum_of) (defBody s_Book_sum_of) (defScope s_Book_sum_of) .none kV14 dc14 pm14 an14 cd14 ct14), sl14⟩) (c14 : PySem.W.codeIn K cd14 "Book.sum_of" = true) (k14 : PySem.W.keepIn K (.ref f14) = true)
    (a15 : PySem.W.findIn K (.ref A_Ledger) "show" = some (some (.ref f15))) (i15 : PySem.W.isFn K (.ref f15) = true)
    (l15 : K.lookup f15 = some ⟨oc15, od15, .func (PySem.W.fnOf "show" "Ledger.show" (defArgs s_Ledger_show) (defBody s_Ledger_show) (defScope s_Ledger_show) .none kV15 dc15 pm15 an15 cd15 ct15), sl15⟩) (c15 : PySem.W.codeIn K cd15 "Ledger.show" = true) (k15 : PySem.W.keepIn K (.ref f15) = true)
    (a16 : PySem.W.findIn K (.ref A_Ledger) "__init__" = some (some (.ref f16))) (i16 : PySem.W.isFn K (.ref f16) = true)
    (l16 : K.lookup f16 = some ⟨oc16, od16, .func (PySem.W.fnOf "__init__" "Ledger.__init__" (defArgs s_Ledger_xinit) (defBody s_Ledger_xinit) (defScope s_Ledger_xinit) .none kV16 dc16 pm16 an16 cd16 ct16), sl16⟩) (c16 : PySem.W.codeIn K cd16 "Ledger.__init__" = true) (k16 : PySem.W.keepIn K (.ref f16) = true)
    (a17 : PySem.W.findIn K (.ref A_Desk) "__init__" = some (some (.ref f17))) (i17 : PySem.W.isFn K (.ref f17) = true)
    (l17 : K.lookup f17 = some ⟨oc17, od17, .func (PySem.W.fnOf "__init__" "Desk.__init__" (defArgs s_Desk_xinit) (defBody s_Desk_xinit) (defScope s_Desk_xinit) .none kV17 dc17 pm17 an17 cd17 ct17), sl17⟩) (c17 : PySem.W.codeIn K cd17 "Desk.__init__" = true) (k17 : PySem.W.keepIn K (.ref f17) = true)
    (a18 : PySem.W.nsIn K mainGlobals "_law_box" = some (some (.ref f18)))
    (l18 : K.lookup f18 = some ⟨oc18, od18, .func (PySem.W.fnOf "_law_box" "_law_box" (defArgs s_law_box) (defBody s_law_box) (defScope s_law_box) .none kV18 dc18 pm18 an18 cd18 ct18), sl18⟩) (c18 : PySem.W.codeIn K cd18 "_law_box" = true) (k18 : PySem.W.keepIn K (.ref f18) = true)
    (a19 : PySem.W.nsIn K mainGlobals "_law_sum" = some (some (.ref f19)))
    (l19 : K.lookup f19 = some ⟨oc19, od19, .func (PySem.W.fnOf "_law_sum" "_law_sum" (defArgs s_law_sum) (defBody s_law_sum) (defScope s_law_sum) .none kV19 dc19 pm19 an19 cd19 ct19), sl19⟩) (c19 : PySem.W.codeIn K cd19 "_law_sum" = true) (k19 : PySem.W.keepIn K (.ref f19) = true)
    (a20 : PySem.W.nsIn K mainGlobals "_law_is_within" = some (some (.ref f20)))
    (l20 : K.lookup f20 = some ⟨oc20, od20, .func (PySem.W.fnOf "_law_is_within" "_law_is_within" (defArgs s_law_is_within) (defBody s_law_is_within) (defScope s_law_is_within) .none kV20 dc20 pm20 an20 cd20 ct20), sl20⟩) (c20 : PySem.W.codeIn K cd20 "_law_is_within" = true) (k20 : PySem.W.keepIn K (.ref f20) = true)
    (a21 : PySem.W.nsIn K mainGlobals "_law_totals" = some (some (.ref f21)))
    (l21 : K.lookup f21 = some ⟨oc21, od21, .func (PySem.W.fnOf "_law_totals" "_law_totals" (defArgs s_law_totals) (defBody s_law_totals) (defScope s_law_totals) .none kV21 dc21 pm21 an21 cd21 ct21), sl21⟩) (c21 : PySem.W.codeIn K cd21 "_law_totals" = true) (k21 : PySem.W.keepIn K (.ref f21) = true)
    (a22 : PySem.W.nsIn K mainGlobals "_law_spoken" = some (some (.ref f22)))
    (l22 : K.lookup f22 = some ⟨oc22, od22, .func (PySem.W.fnOf "_law_spoken" "_law_spoken" (defArgs s_law_spoken) (defBody s_law_spoken) (defScope s_law_spoken) .none kV22 dc22 pm22 an22 cd22 ct22), sl22⟩) (c22 : PySem.W.codeIn K cd22 "_law_spoken" = true) (k22 : PySem.W.keepIn K (.ref f22) = true)
    (a23 : PySem.W.nsIn K mainGlobals "_law_take" = some (some (.ref f23)))
    (l23 : K.lookup f23 = some ⟨oc23, od23, .func (PySem.W.fnOf "_law_take" "_law_take" (defArgs s_law_take) (defBody s_law_take) (defScope s_law_take) .none kV23 dc23 pm23 an23 cd23 ct23), sl23⟩) (c23 : PySem.W.codeIn K cd23 "_law_take" = true) (k23 : PySem.W.keepIn K (.ref f23) = true)
    (a24 : PySem.W.nsIn K mainGlobals "_law_pick" = some (some (.ref f24)))
    (l24 : K.lookup f24 = some ⟨oc24, od24, .func (PySem.W.fnOf "_law_pick" "_law_pick" (defArgs s_law_pick) (defBody s_law_pick) (defScope s_law_pick) .none kV24 dc24 pm24 an24 cd24 ct24), sl24⟩) (c24 : PySem.W.codeIn K cd24 "_law_pick" = true) (k24 : PySem.W.keepIn K (.ref f24) = true)
    (a25 : PySem.W.nsIn K mainGlobals "_law_any_stick" = some (some (.ref f25)))
    (l25 : K.lookup f25 = some ⟨oc25, od25, .func (PySem.W.fnOf "_law_any_stick" "_law_any_stick" (defArgs s_law_any_stick) (defBody s_law_any_stick) (defScope s_law_any_stick) .none kV25 dc25 pm25 an25 cd25 ct25), sl25⟩) (c25 : PySem.W.codeIn K cd25 "_law_any_stick" = true) (k25 : PySem.W.keepIn K (.ref f25) = true)
    (a26 : PySem.W.nsIn K mainGlobals "_law_near_stick" = some (some (.ref f26)))
    (l26 : K.lookup f26 = some ⟨oc26, od26, .func (PySem.W.fnOf "_law_near_stick" "_law_near_stick" (defArgs s_law_near_stick) (defBody s_law_near_stick) (defScope s_law_near_stick) .none kV26 dc26 pm26 an26 cd26 ct26), sl26⟩) (c26 : PySem.W.codeIn K cd26 "_law_near_stick" = true) (k26 : PySem.W.keepIn K (.ref f26) = true)
    (a27 : PySem.W.nsIn K mainGlobals "_law_book" = some (some (.ref f27)))
    (l27 : K.lookup f27 = some ⟨oc27, od27, .func (PySem.W.fnOf "_law_book" "_law_book" (defArgs s_law_book) (defBody s_law_book) (defScope s_law_book) .none kV27 dc27 pm27 an27 cd27 ct27), sl27⟩) (c27 : PySem.W.codeIn K cd27 "_law_book" = true) (k27 : PySem.W.keepIn K (.ref f27) = true)
    (a28 : PySem.W.nsIn K mainGlobals "_law_pairs" = some (some (.ref f28)))
    (l28 : K.lookup f28 = some ⟨oc28, od28, .func (PySem.W.fnOf "_law_pairs" "_law_pairs" (defArgs s_law_pairs) (defBody s_law_pairs) (defScope s_law_pairs) .none kV28 dc28 pm28 an28 cd28 ct28), sl28⟩) (c28 : PySem.W.codeIn K cd28 "_law_pairs" = true) (k28 : PySem.W.keepIn K (.ref f28) = true)
    (a29 : PySem.W.nsIn K mainGlobals "_law_frauds" = some (some (.ref f29)))
    (l29 : K.lookup f29 = some ⟨oc29, od29, .func (PySem.W.fnOf "_law_frauds" "_law_frauds" (defArgs s_law_frauds) (defBody s_law_frauds) (defScope s_law_frauds) .none kV29 dc29 pm29 an29 cd29 ct29), sl29⟩) (c29 : PySem.W.codeIn K cd29 "_law_frauds" = true) (k29 : PySem.W.keepIn K (.ref f29) = true)
    (a30 : PySem.W.nsIn K mainGlobals "_law_notched" = some (some (.ref f30)))
    (l30 : K.lookup f30 = some ⟨oc30, od30, .func (PySem.W.fnOf "_law_notched" "_law_notched" (defArgs s_law_notched) (defBody s_law_notched) (defScope s_law_notched) .none kV30 dc30 pm30 an30 cd30 ct30), sl30⟩) (c30 : PySem.W.codeIn K cd30 "_law_notched" = true) (k30 : PySem.W.keepIn K (.ref f30) = true)
    (a31 : PySem.W.nsIn K mainGlobals "_law_plain" = some (some (.ref f31)))
    (l31 : K.lookup f31 = some ⟨oc31, od31, .func (PySem.W.fnOf "_law_plain" "_law_plain" (defArgs s_law_plain) (defBody s_law_plain) (defScope s_law_plain) .none kV31 dc31 pm31 an31 cd31 ct31), sl31⟩) (c31 : PySem.W.codeIn K cd31 "_law_plain" = true) (k31 : PySem.W.keepIn K (.ref f31) = true)
    (a32 : PySem.W.nsIn K mainGlobals "_law_shuffled" = some (some (.ref f32)))
    (l32 : K.lookup f32 = some ⟨oc32, od32, .func (PySem.W.fnOf "_law_shuffled" "_law_shuffled" (defArgs s_law_shuffled) (defBody s_law_shuffled) (defScope s_law_shuffled) .none kV32 dc32 pm32 an32 cd32 ct32), sl32⟩) (c32 : PySem.W.codeIn K cd32 "_law_shuffled" = true) (k32 : PySem.W.keepIn K (.ref f32) = true)
    (a33 : PySem.W.nsIn K mainGlobals "_law_text" = some (some (.ref f33)))
    (l33 : K.lookup f33 = some ⟨oc33, od33, .func (PySem.W.fnOf "_law_text" "_law_text" (defArgs s_law_text) (defBody s_law_text) (defScope s_law_text) .none kV33 dc33 pm33 an33 cd33 ct33), sl33⟩) (c33 : PySem.W.codeIn K cd33 "_law_text" = true) (k33 : PySem.W.keepIn K (.ref f33) = true)
    (a34 : PySem.W.nsIn K mainGlobals "_law_widest_lot" = some (some (.ref f34)))
    (l34 : K.lookup f34 = some ⟨oc34, od34, .func (PySem.W.fnOf "_law_widest_lot" "_law_widest_lot" (defArgs s_law_widest_lot) (defBody s_law_widest_lot) (defScope s_law_widest_lot) .none kV34 dc34 pm34 an34 cd34 ct34), sl34⟩) (c34 : PySem.W.codeIn K cd34 "_law_widest_lot" = true) (k34 : PySem.W.keepIn K (.ref f34) = true)
    (a35 : PySem.W.nsIn K mainGlobals "number_in" = some (some (.ref f35)))
    (l35 : K.lookup f35 = some ⟨oc35, od35, .func (PySem.W.fnOf "number_in" "number_in" (defArgs s_number_in) (defBody s_number_in) (defScope s_number_in) .none kV35 dc35 pm35 an35 cd35 ct35), sl35⟩) (c35 : PySem.W.codeIn K cd35 "number_in" = true) (k35 : PySem.W.keepIn K (.ref f35) = true)
    (a36 : PySem.W.nsIn K mainGlobals "numbers_told" = some (some (.ref f36)))
    (l36 : K.lookup f36 = some ⟨oc36, od36, .func (PySem.W.fnOf "numbers_told" "numbers_told" (defArgs s_numbers_told) (defBody s_numbers_told) (defScope s_numbers_told) .none kV36 dc36 pm36 an36 cd36 ct36), sl36⟩) (c36 : PySem.W.codeIn K cd36 "numbers_told" = true) (k36 : PySem.W.keepIn K (.ref f36) = true)
    (a37 : PySem.W.nsIn K mainGlobals "words_of" = some (some (.ref f37)))
    (l37 : K.lookup f37 = some ⟨oc37, od37, .func (PySem.W.fnOf "words_of" "words_of" (defArgs s_words_of) (defBody s_words_of) (defScope s_words_of) .none kV37 dc37 pm37 an37 cd37 ct37), sl37⟩) (c37 : PySem.W.codeIn K cd37 "words_of" = true) (k37 : PySem.W.keepIn K (.ref f37) = true)
    (ra38 : PySem.W.specialIn K (.ref A_Book) "__getattribute__" = some (some (.builtin "type.__getattribute__"))) (rb38 : PySem.W.readsIn K A_Book (.type "type") = true) (ma38 : PySem.W.findCls K (.ref A_Book) (.type "type") "read" = some (.get (.builtin "classmethod.__get__") (.ref p38) .none (.ref A_Book))) (mb38 : PySem.W.recIn K p38 "classmethod" = some (.ref f38 :: rs38)) (mc38 : PySem.W.fnIn K f38 = true)
    (l38 : K.lookup f38 = some ⟨oc38, od38, .func (PySem.W.fnOf "read" "Book.read" (defArgs s_Book_read) (defBody s_Book_read) (defScope s_Book_read) .none kV38 dc38 pm38 an38 cd38 ct38), sl38⟩) (c38 : PySem.W.codeIn K cd38 "Book.read" = true) (k38 : PySem.W.keepIn K (.ref f38) = true)
    (a39 : PySem.W.nsIn K mainGlobals "frauds" = some (some (.ref f39)))
    (l39 : K.lookup f39 = some ⟨oc39, od39, .func (PySem.W.fnOf "frauds" "frauds" (defArgs s_frauds) (defBody s_frauds) (defScope s_frauds) .none kV39 dc39 pm39 an39 cd39 ct39), sl39⟩) (c39 : PySem.W.codeIn K cd39 "frauds" = true) (k39 : PySem.W.keepIn K (.ref f39) = true)
    (a40 : PySem.W.nsIn K mainGlobals "notches" = some (some (.ref f40)))
    (l40 : K.lookup f40 = some ⟨oc40, od40, .func (PySem.W.fnOf "notches" "notches" (defArgs s_notches) (defBody s_notches) (defScope s_notches) .none kV40 dc40 pm40 an40 cd40 ct40), sl40⟩) (c40 : PySem.W.codeIn K cd40 "notches" = true) (k40 : PySem.W.keepIn K (.ref f40) = true)
    (a41 : PySem.W.nsIn K mainGlobals "is_within" = some (some (.ref f41)))
    (l41 : K.lookup f41 = some ⟨oc41, od41, .func (PySem.W.fnOf "is_within" "is_within" (defArgs s_is_within) (defBody s_is_within) (defScope s_is_within) .none kV41 dc41 pm41 an41 cd41 ct41), sl41⟩) (c41 : PySem.W.codeIn K cd41 "is_within" = true) (k41 : PySem.W.keepIn K (.ref f41) = true)
    (a42 : PySem.W.findIn K (.ref A_Book) "stick_of" = some (some (.ref f42))) (i42 : PySem.W.isFn K (.ref f42) = true)
    (l42 : K.lookup f42 = some ⟨oc42, od42, .func (PySem.W.fnOf "stick_of" "Book.stick_of" (defArgs s_Book_stick_of) (defBody s_Book_stick_of) (defScope s_Book_stick_of) .none kV42 dc42 pm42 an42 cd42 ct42), sl42⟩) (c42 : PySem.W.codeIn K cd42 "Book.stick_of" = true) (k42 : PySem.W.keepIn K (.ref f42) = true)
    (a43 : PySem.W.nsIn K mainGlobals "lies_within" = some (some (.ref f43)))
    (l43 : K.lookup f43 = some ⟨oc43, od43, .func (PySem.W.fnOf "lies_within" "lies_within" (defArgs s_lies_within) (defBody s_lies_within) (defScope s_lies_within) .none kV43 dc43 pm43 an43 cd43 ct43), sl43⟩) (c43 : PySem.W.codeIn K cd43 "lies_within" = true) (k43 : PySem.W.keepIn K (.ref f43) = true)
    (a44 : PySem.W.nsIn K mainGlobals "sums_of" = some (some (.ref f44)))
    (l44 : K.lookup f44 = some ⟨oc44, od44, .func (PySem.W.fnOf "sums_of" "sums_of" (defArgs s_sums_of) (defBody s_sums_of) (defScope s_sums_of) .none kV44 dc44 pm44 an44 cd44 ct44), sl44⟩) (c44 : PySem.W.codeIn K cd44 "sums_of" = true) (k44 : PySem.W.keepIn K (.ref f44) = true)
    (a45 : PySem.W.findIn K (.ref A_Pairing) "follow" = some (some (.ref f45))) (i45 : PySem.W.isFn K (.ref f45) = true)
    (l45 : K.lookup f45 = some ⟨oc45, od45, .func (PySem.W.fnOf "follow" "Pairing.follow" (defArgs s_Pairing_follow) (defBody s_Pairing_follow) (defScope s_Pairing_follow) .none kV45 dc45 pm45 an45 cd45 ct45), sl45⟩) (c45 : PySem.W.codeIn K cd45 "Pairing.follow" = true) (k45 : PySem.W.keepIn K (.ref f45) = true)
    (a46 : PySem.W.findIn K (.ref A_Pairing) "__init__" = some (some (.ref f46))) (i46 : PySem.W.isFn K (.ref f46) = true)
    (l46 : K.lookup f46 = some ⟨oc46, od46, .func (PySem.W.fnOf "__init__" "Pairing.__init__" (defArgs s_Pairing_xinit) (defBody s_Pairing_xinit) (defScope s_Pairing_xinit) .none kV46 dc46 pm46 an46 cd46 ct46), sl46⟩) (c46 : PySem.W.codeIn K cd46 "Pairing.__init__" = true) (k46 : PySem.W.keepIn K (.ref f46) = true)
    (a47 : PySem.W.findIn K (.ref A_Pairing) "apart" = some (some (.ref f47))) (i47 : PySem.W.isFn K (.ref f47) = true)
    (l47 : K.lookup f47 = some ⟨oc47, od47, .func (PySem.W.fnOf "apart" "Pairing.apart" (defArgs s_Pairing_apart) (defBody s_Pairing_apart) (defScope s_Pairing_apart) .none kV47 dc47 pm47 an47 cd47 ct47), sl47⟩) (c47 : PySem.W.codeIn K cd47 "Pairing.apart" = true) (k47 : PySem.W.keepIn K (.ref f47) = true)
    (a48 : PySem.W.nsIn K mainGlobals "greatest_safe" = some (some (.ref f48)))
    (l48 : K.lookup f48 = some ⟨oc48, od48, .func (PySem.W.fnOf "greatest_safe" "greatest_safe" (defArgs s_greatest_safe) (defBody s_greatest_safe) (defScope s_greatest_safe) .none kV48 dc48 pm48 an48 cd48 ct48), sl48⟩) (c48 : PySem.W.codeIn K cd48 "greatest_safe" = true) (k48 : PySem.W.keepIn K (.ref f48) = true)
    (a49 : PySem.W.nsIn K mainGlobals "joined" = some (some (.ref f49)))
    (l49 : K.lookup f49 = some ⟨oc49, od49, .func (PySem.W.fnOf "joined" "joined" (defArgs s_joined) (defBody s_joined) (defScope s_joined) .none kV49 dc49 pm49 an49 cd49 ct49), sl49⟩) (c49 : PySem.W.codeIn K cd49 "joined" = true) (k49 : PySem.W.keepIn K (.ref f49) = true)
    (a50 : PySem.W.findIn K (.ref A_Ledger) "undo" = some (some (.ref f50))) (i50 : PySem.W.isFn K (.ref f50) = true)
    (l50 : K.lookup f50 = some ⟨oc50, od50, .func (PySem.W.fnOf "undo" "Ledger.undo" (defArgs s_Ledger_undo) (defBody s_Ledger_undo) (defScope s_Ledger_undo) .none kV50 dc50 pm50 an50 cd50 ct50), sl50⟩) (c50 : PySem.W.codeIn K cd50 "Ledger.undo" = true) (k50 : PySem.W.keepIn K (.ref f50) = true)
    (a51 : PySem.W.findIn K (.ref A_Desk) "take_back" = some (some (.ref f51))) (i51 : PySem.W.isFn K (.ref f51) = true)
    (l51 : K.lookup f51 = some ⟨oc51, od51, .func (PySem.W.fnOf "take_back" "Desk.take_back" (defArgs s_Desk_take_back) (defBody s_Desk_take_back) (defScope s_Desk_take_back) .none kV51 dc51 pm51 an51 cd51 ct51), sl51⟩) (c51 : PySem.W.codeIn K cd51 "Desk.take_back" = true) (k51 : PySem.W.keepIn K (.ref f51) = true)
    (a52 : PySem.W.findIn K (.ref A_Desk) "alone" = some (some (.ref f52))) (i52 : PySem.W.isFn K (.ref f52) = true)
    (l52 : K.lookup f52 = some ⟨oc52, od52, .func (PySem.W.fnOf "alone" "Desk.alone" (defArgs s_Desk_alone) (defBody s_Desk_alone) (defScope s_Desk_alone) .none kV52 dc52 pm52 an52 cd52 ct52), sl52⟩) (c52 : PySem.W.codeIn K cd52 "Desk.alone" = true) (k52 : PySem.W.keepIn K (.ref f52) = true)
    (a53 : PySem.W.findIn K (.ref A_Book) "__len__" = some (some (.ref f53))) (i53 : PySem.W.isFn K (.ref f53) = true)
    (l53 : K.lookup f53 = some ⟨oc53, od53, .func (PySem.W.fnOf "__len__" "Book.__len__" (defArgs s_Book_xlen) (defBody s_Book_xlen) (defScope s_Book_xlen) .none kV53 dc53 pm53 an53 cd53 ct53), sl53⟩) (c53 : PySem.W.codeIn K cd53 "Book.__len__" = true) (k53 : PySem.W.keepIn K (.ref f53) = true)
    (a54 : PySem.W.findIn K (.ref A_Desk) "begin" = some (some (.ref f54))) (i54 : PySem.W.isFn K (.ref f54) = true)
    (l54 : K.lookup f54 = some ⟨oc54, od54, .func (PySem.W.fnOf "begin" "Desk.begin" (defArgs s_Desk_begin) (defBody s_Desk_begin) (defScope s_Desk_begin) .none kV54 dc54 pm54 an54 cd54 ct54), sl54⟩) (c54 : PySem.W.codeIn K cd54 "Desk.begin" = true) (k54 : PySem.W.keepIn K (.ref f54) = true)
    (a55 : PySem.W.nsIn K mainGlobals "with_notch" = some (some (.ref f55)))
    (l55 : K.lookup f55 = some ⟨oc55, od55, .func (PySem.W.fnOf "with_notch" "with_notch" (defArgs s_with_notch) (defBody s_with_notch) (defScope s_with_notch) .none kV55 dc55 pm55 an55 cd55 ct55), sl55⟩) (c55 : PySem.W.codeIn K cd55 "with_notch" = true) (k55 : PySem.W.keepIn K (.ref f55) = true)
    (a56 : PySem.W.findIn K (.ref A_Ledger) "go_on" = some (some (.ref f56))) (i56 : PySem.W.isFn K (.ref f56) = true)
    (l56 : K.lookup f56 = some ⟨oc56, od56, .func (PySem.W.fnOf "go_on" "Ledger.go_on" (defArgs s_Ledger_go_on) (defBody s_Ledger_go_on) (defScope s_Ledger_go_on) .none kV56 dc56 pm56 an56 cd56 ct56), sl56⟩) (c56 : PySem.W.codeIn K cd56 "Ledger.go_on" = true) (k56 : PySem.W.keepIn K (.ref f56) = true)
    (a57 : PySem.W.findIn K (.ref A_Ledger) "notch" = some (some (.ref f57))) (i57 : PySem.W.isFn K (.ref f57) = true)
    (l57 : K.lookup f57 = some ⟨oc57, od57, .func (PySem.W.fnOf "notch" "Ledger.notch" (defArgs s_Ledger_notch) (defBody s_Ledger_notch) (defScope s_Ledger_notch) .none kV57 dc57 pm57 an57 cd57 ct57), sl57⟩) (c57 : PySem.W.codeIn K cd57 "Ledger.notch" = true) (k57 : PySem.W.keepIn K (.ref f57) = true)
    (a58 : PySem.W.findIn K (.ref A_Ledger) "write" = some (some (.ref f58))) (i58 : PySem.W.isFn K (.ref f58) = true)
    (l58 : K.lookup f58 = some ⟨oc58, od58, .func (PySem.W.fnOf "write" "Ledger.write" (defArgs s_Ledger_write) (defBody s_Ledger_write) (defScope s_Ledger_write) .none kV58 dc58 pm58 an58 cd58 ct58), sl58⟩) (c58 : PySem.W.codeIn K cd58 "Ledger.write" = true) (k58 : PySem.W.keepIn K (.ref f58) = true)
    (a59 : PySem.W.findIn K (.ref A_Desk) "say" = some (some (.ref f59))) (i59 : PySem.W.isFn K (.ref f59) = true)
    (l59 : K.lookup f59 = some ⟨oc59, od59, .func (PySem.W.fnOf "say" "Desk.say" (defArgs s_Desk_say) (defBody s_Desk_say) (defScope s_Desk_say) .none kV59 dc59 pm59 an59 cd59 ct59), sl59⟩) (c59 : PySem.W.codeIn K cd59 "Desk.say" = true) (k59 : PySem.W.keepIn K (.ref f59) = true)
    (a60 : PySem.W.nsIn K mainGlobals "_law_told_right" = some (some (.ref f60)))
    (l60 : K.lookup f60 = some ⟨oc60, od60, .func (PySem.W.fnOf "_law_told_right" "_law_told_right" (defArgs s_law_told_right) (defBody s_law_told_right) (defScope s_law_told_right) .none kV60 dc60 pm60 an60 cd60 ct60), sl60⟩) (c60 : PySem.W.codeIn K cd60 "_law_told_right" = true) (k60 : PySem.W.keepIn K (.ref f60) = true)
    (a61 : PySem.W.findIn K (.ref A_Desk) "__len__" = some (some (.ref f61))) (i61 : PySem.W.isFn K (.ref f61) = true)
    (l61 : K.lookup f61 = some ⟨oc61, od61, .func (PySem.W.fnOf "__len__" "Desk.__len__" (defArgs s_Desk_xlen) (defBody s_Desk_xlen) (defScope s_Desk_xlen) .none kV61 dc61 pm61 an61 cd61 ct61), sl61⟩) (c61 : PySem.W.codeIn K cd61 "Desk.__len__" = true) (k61 : PySem.W.keepIn K (.ref f61) = true)
    (a62 : PySem.W.nsIn K mainGlobals "law" = some (some (.ref f62)))
    (l62 : K.lookup f62 = some ⟨oc62, od62, .func (PySem.W.fnOf "law" "law" (defArgs s_law) (defBody s_law) (defScope s_law) .none kV62 dc62 pm62 an62 cd62 ct62), sl62⟩) (c62 : PySem.W.codeIn K cd62 "law" = true) (k62 : PySem.W.keepIn K (.ref f62) = true) :
    ∃ fd : FuncData, (∀ (s : Shared) (v : Value), BindsTo s fd ⟨[v], []⟩ [("_law_script", v)]) ∧ ∀ base : Heap, K.In base → base.Ns mainGlobals mg → FnOk l.prog w K mg base CX0 26 fa fd ["_law_script"] (LSp K spL) := by
  have e := hfa.symm.trans (PySem.W.mg_of X G a62)
  cases e
  have T : Txt K mg ⟨A_Book, A_Way, A_Trial, A_Ledger, A_Pairing, A_Desk⟩ := ⟨⟨⟨⟨pg_Book, hd_Book, po_Book, sa_Book⟩, nf_Book_entries⟩, ⟨⟨pg_Book, hd_Book, po_Book, sa_Book⟩, nf_Book_length⟩, ⟨⟨pg_Book, hd_Book, po_Book, sa_Book⟩, nf_Book_text⟩, ⟨⟨pg_Way, hd_Way, po_Way, sa_Way⟩, nf_Way_how⟩, ⟨⟨pg_Way, hd_Way, po_Way, sa_Way⟩, nf_Way_most⟩, ⟨⟨pg_Way, hd_Way, po_Way, sa_Way⟩, nf_Way_part⟩, ⟨⟨pg_Trial, hd_Trial, po_Trial, sa_Trial⟩, nf_Trial_held_ledger⟩, ⟨⟨pg_Trial, hd_Trial, po_Trial, sa_Trial⟩, nf_Trial_old_sticks⟩, ⟨⟨pg_Trial, hd_Trial, po_Trial, sa_Trial⟩, nf_Trial_old_sums⟩, ⟨⟨pg_Trial, hd_Trial, po_Trial, sa_Trial⟩, nf_Trial_old_totals⟩, ⟨⟨pg_Trial, hd_Trial, po_Trial, sa_Trial⟩, nf_Trial_old_past⟩, ⟨⟨pg_Ledger, hd_Ledger, po_Ledger, sa_Ledger⟩, nf_Ledger_book⟩, ⟨⟨pg_Ledger, hd_Ledger, po_Ledger, sa_Ledger⟩, nf_Ledger_past⟩, ⟨⟨pg_Ledger, hd_Ledger, po_Ledger, sa_Ledger⟩, nf_Ledger_sticks⟩, ⟨⟨pg_Ledger, hd_Ledger, po_Ledger, sa_Ledger⟩, nf_Ledger_sums⟩, ⟨⟨pg_Ledger, hd_Ledger, po_Ledger, sa_Ledger⟩, nf_Ledger_totals⟩, ⟨⟨pg_Pairing, hd_Pairing, po_Pairing, sa_Pairing⟩, nf_Pairing_sums⟩, ⟨⟨pg_Pairing, hd_Pairing, po_Pairing, sa_Pairing⟩, nf_Pairing_above⟩, ⟨⟨pg_Pairing, hd_Pairing, po_Pairing, sa_Pairing⟩, nf_Pairing_next_of⟩, ⟨⟨pg_Pairing, hd_Pairing, po_Pairing, sa_Pairing⟩, nf_Pairing_from_of⟩, ⟨⟨pg_Desk, hd_Desk, po_Desk, sa_Desk⟩, nf_Desk_going⟩, ⟨⟨pg_Desk, hd_Desk, po_Desk, sa_Desk⟩, nf_Desk_elders⟩, ⟨⟨pg_Desk, hd_Desk, po_Desk, sa_Desk⟩, nf_Desk_deeds⟩⟩,
    PySem.W.mg_none_of X G z_abs,
    PySem.W.mg_none_of X G z_all,
    PySem.W.mg_none_of X G z_any,
    PySem.W.mg_none_of X G z_bool,
    PySem.W.mg_none_of X G z_enumerate,
    PySem.W.mg_none_of X G z_int,
    PySem.W.mg_none_of X G z_isinstance,
    PySem.W.mg_none_of X G z_len,
    PySem.W.mg_none_of X G z_list,
    PySem.W.mg_none_of X G z_max,
    PySem.W.mg_none_of X G z_min,
    PySem.W.mg_none_of X G z_range,
    PySem.W.mg_none_of X G z_sorted,
    PySem.W.mg_none_of X G z_str,
    PySem.W.mg_none_of X G z_sum,
    PySem.W.mg_none_of X G z_tuple,
    PySem.W.mg_none_of X G z_zip,
    ⟨Tq_HOWS, _, _, [.str "add" tq_HOWS_0, .str "lose" tq_HOWS_1, .str "mixed" tq_HOWS_2], PySem.W.mg_of X G q_HOWS, lq_HOWS, rfl, rfl, .cons ⟨_, rfl⟩ (.cons ⟨_, rfl⟩ (.cons ⟨_, rfl⟩ (.nil))), le_line (Nat.le_of_ble_eq_true rfl)⟩,
    ⟨_, PySem.W.mg_of X G q_NOTCHED⟩,
    ⟨_, PySem.W.mg_of X G q_PAIR⟩,
    ⟨_, PySem.W.mg_of X G q_PLAIN⟩,
    ⟨⟨pg_Book, hd_Book, po_Book, sa_Book⟩, PySem.W.mg_of X G aC_Book, mk_Book, kc_Book⟩,
    ⟨⟨pg_Way, hd_Way, po_Way, sa_Way⟩, PySem.W.mg_of X G aC_Way, mk_Way, kc_Way⟩,
    ⟨⟨pg_Trial, hd_Trial, po_Trial, sa_Trial⟩, PySem.W.mg_of X G aC_Trial, mk_Trial, kc_Trial⟩,
    ⟨⟨pg_Ledger, hd_Ledger, po_Ledger, sa_Ledger⟩, PySem.W.mg_of X G aC_Ledger, mk_Ledger, kc_Ledger⟩,
    ⟨⟨pg_Pairing, hd_Pairing, po_Pairing, sa_Pairing⟩, PySem.W.mg_of X G aC_Pairing, mk_Pairing, kc_Pairing⟩,
    ⟨⟨pg_Desk, hd_Desk, po_Desk, sa_Desk⟩, PySem.W.mg_of X G aC_Desk, mk_Desk, kc_Desk⟩,
    ⟨_, _, fun_mk (st := s_is_integer) l0 c0 k0, PySem.W.mg_of X G a0⟩,
    ⟨_, _, fun_mk (st := s_is_stick) l1 c1 k1, PySem.W.mg_of X G a1⟩,
    ⟨_, _, fun_mk (st := s_is_entry) l2 c2 k2, PySem.W.mg_of X G a2⟩,
    ⟨_, _, fun_mk (st := s_is_sequence) l3 c3 k3, PySem.W.mg_of X G a3⟩,
    ⟨_, _, fun_mk (st := s_need_entries) l4 c4 k4, PySem.W.mg_of X G a4⟩,
    ⟨_, _, fun_mk (st := s_text_of_entries) l5 c5 k5, PySem.W.mg_of X G a5⟩,
    ⟨d6e0, ⟨_, _, y6e0, rfl, rfl⟩, ⟨_, _, ⟨a6, i6, k6⟩, FnAt.mkD (st := s_Book_xinit) l6 c6 d6 (by simp)⟩⟩,
    ⟨_, _, fun_mk (st := s_is_from_zero) l7 c7 k7, PySem.W.mg_of X G a7⟩,
    ⟨d8t0, ⟨_, _, ⟨a8, i8, k8⟩, FnAt.mkD (st := s_Way_xinit) l8 c8 d8 (by simp)⟩⟩,
    ⟨_, _, fun_mk (st := s_need_stick) l9 c9 k9, PySem.W.mg_of X G a9⟩,
    ⟨_, _, ⟨a10, i10, k10⟩, FnAt.mk0 (st := s_Way_lets) l10 c10⟩,
    ⟨_, _, ⟨a11, i11, k11⟩, FnAt.mk0 (st := s_Way_can) l11 c11⟩,
    ⟨_, _, fun_mk (st := s_origins) l12 c12 k12, PySem.W.mg_of X G a12⟩,
    ⟨_, _, fun_mk (st := s_told_sums) l13 c13 k13, PySem.W.mg_of X G a13⟩,
    ⟨_, _, ⟨a14, i14, k14⟩, FnAt.mk0 (st := s_Book_sum_of) l14 c14⟩,
    ⟨_, _, ⟨a15, i15, k15⟩, FnAt.mk0 (st := s_Ledger_show) l15 c15⟩,
    ⟨_, _, ⟨a16, i16, k16⟩, FnAt.mk0 (st := s_Ledger_xinit) l16 c16⟩,
    ⟨_, _, ⟨a17, i17, k17⟩, FnAt.mk0 (st := s_Desk_xinit) l17 c17⟩,
    ⟨_, _, fun_mk (st := s_law_box) l18 c18 k18, PySem.W.mg_of X G a18⟩,
    ⟨_, _, fun_mk (st := s_law_sum) l19 c19 k19, PySem.W.mg_of X G a19⟩,
    ⟨_, _, fun_mk (st := s_law_is_within) l20 c20 k20, PySem.W.mg_of X G a20⟩,
    ⟨_, _, fun_mk (st := s_law_totals) l21 c21 k21, PySem.W.mg_of X G a21⟩,
    ⟨_, _, fun_mk (st := s_law_spoken) l22 c22 k22, PySem.W.mg_of X G a22⟩,
    ⟨_, _, fun_mk (st := s_law_take) l23 c23 k23, PySem.W.mg_of X G a23⟩,
    ⟨_, _, fun_mk (st := s_law_pick) l24 c24 k24, PySem.W.mg_of X G a24⟩,
    ⟨_, _, fun_mk (st := s_law_any_stick) l25 c25 k25, PySem.W.mg_of X G a25⟩,
    ⟨_, _, fun_mk (st := s_law_near_stick) l26 c26 k26, PySem.W.mg_of X G a26⟩,
    ⟨_, _, fun_mk (st := s_law_book) l27 c27 k27, PySem.W.mg_of X G a27⟩,
    ⟨_, _, fun_mk (st := s_law_pairs) l28 c28 k28, PySem.W.mg_of X G a28⟩,
    ⟨_, _, fun_mk (st := s_law_frauds) l29 c29 k29, PySem.W.mg_of X G a29⟩,
    ⟨_, _, fun_mk (st := s_law_notched) l30 c30 k30, PySem.W.mg_of X G a30⟩,
    ⟨_, _, fun_mk (st := s_law_plain) l31 c31 k31, PySem.W.mg_of X G a31⟩,
    ⟨_, _, fun_mk (st := s_law_shuffled) l32 c32 k32, PySem.W.mg_of X G a32⟩,
    ⟨_, _, fun_mk (st := s_law_text) l33 c33 k33, PySem.W.mg_of X G a33⟩,
    ⟨_, _, fun_mk (st := s_law_widest_lot) l34 c34 k34, PySem.W.mg_of X G a34⟩,
    ⟨_, _, fun_mk (st := s_number_in) l35 c35 k35, PySem.W.mg_of X G a35⟩,
    ⟨_, _, fun_mk (st := s_numbers_told) l36 c36 k36, PySem.W.mg_of X G a36⟩,
    ⟨_, _, fun_mk (st := s_words_of) l37 c37 k37, PySem.W.mg_of X G a37⟩,
    ⟨_, p38, f38, _, ⟨rb38, ra38⟩, ⟨ma38, ⟨_, mb38⟩, mc38⟩, FnAt.mk0 (st := s_Book_read) l38 c38⟩,
    ⟨_, _, fun_mk (st := s_frauds) l39 c39 k39, PySem.W.mg_of X G a39⟩,
    ⟨_, _, fun_mk (st := s_notches) l40 c40 k40, PySem.W.mg_of X G a40⟩,
    ⟨_, _, fun_mk (st := s_is_within) l41 c41 k41, PySem.W.mg_of X G a41⟩,
    ⟨_, _, ⟨a42, i42, k42⟩, FnAt.mk0 (st := s_Book_stick_of) l42 c42⟩,
    ⟨_, _, fun_mk (st := s_lies_within) l43 c43 k43, PySem.W.mg_of X G a43⟩,
    ⟨_, _, fun_mk (st := s_sums_of) l44 c44 k44, PySem.W.mg_of X G a44⟩,
    ⟨_, _, ⟨a45, i45, k45⟩, FnAt.mk0 (st := s_Pairing_follow) l45 c45⟩,
    ⟨_, _, ⟨a46, i46, k46⟩, FnAt.mk0 (st := s_Pairing_xinit) l46 c46⟩,
    ⟨_, _, ⟨a47, i47, k47⟩, FnAt.mk0 (st := s_Pairing_apart) l47 c47⟩,
    ⟨_, _, fun_mk (st := s_greatest_safe) l48 c48 k48, PySem.W.mg_of X G a48⟩,
    ⟨_, _, fun_mk (st := s_joined) l49 c49 k49, PySem.W.mg_of X G a49⟩,
    ⟨_, _, ⟨a50, i50, k50⟩, FnAt.mk0 (st := s_Ledger_undo) l50 c50⟩,
    ⟨_, _, ⟨a51, i51, k51⟩, FnAt.mk0 (st := s_Desk_take_back) l51 c51⟩,
    ⟨_, _, ⟨a52, i52, k52⟩, FnAt.mk0 (st := s_Desk_alone) l52 c52⟩,
    ⟨_, _, ⟨a53, i53, k53⟩, FnAt.mk0 (st := s_Book_xlen) l53 c53⟩,
    ⟨_, _, ⟨a54, i54, k54⟩, FnAt.mk0 (st := s_Desk_begin) l54 c54⟩,
    ⟨_, _, fun_mk (st := s_with_notch) l55 c55 k55, PySem.W.mg_of X G a55⟩,
    ⟨_, _, ⟨a56, i56, k56⟩, FnAt.mk0 (st := s_Ledger_go_on) l56 c56⟩,
    ⟨_, _, ⟨a57, i57, k57⟩, FnAt.mk0 (st := s_Ledger_notch) l57 c57⟩,
    ⟨_, _, ⟨a58, i58, k58⟩, FnAt.mk0 (st := s_Ledger_write) l58 c58⟩,
    ⟨_, _, ⟨a59, i59, k59⟩, FnAt.mk0 (st := s_Desk_say) l59 c59⟩,
    ⟨_, _, fun_mk (st := s_law_told_right) l60 c60 k60, PySem.W.mg_of X G a60⟩,
    ⟨_, _, ⟨a61, i61, k61⟩, FnAt.mk0 (st := s_Desk_xlen) l61 c61⟩,
    ⟨_, _, fun_mk (st := s_law) l62 c62 k62, PySem.W.mg_of X G a62⟩⟩
  exact ⟨_, fun s v => .of_eq rfl, fun base _ _ => fn_d (fun_mk (st := s_law) l62 c62 k62) sc_law len_spL (fun cdv A outer s H E hr => dv_law T cdv A outer s H E hr) (rd_law K ⟨A_Book, A_Way, A_Trial, A_Ledger, A_Pairing, A_Desk⟩ T.kf)⟩
theorem walk {l : PySem.W.OpenLaw} {q : Program} {loose : List Str} {XP : (Str → Option Value) → Heap → Prop} {YP : World → Heap → Prop} {d : DefRec} {K : Params → PySem.W.Frag} (hn : l.most = some 63) (hdf : d.params.defaults = [])
    (hY : ∀ (w : World) (h : Heap), YP w h → (K w.params).In h)
    (F : ∀ (w : World) (mg : Str → Option Value) (fa : Addr) (h : Heap), (K w.params).In h → h.Ns mainGlobals mg → mg d.name = some (.ref fa) →
      ∃ fd : FuncData, (∀ (s : Shared) (u : Value), BindsTo s fd ⟨[u], []⟩ [("_law_script", u)]) ∧ ∀ base : Heap, (K w.params).In base → base.Ns mainGlobals mg → FnOk l.prog w (K w.params) mg base CX0 26 fa fd ["_law_script"] (LSp (K w.params) spL)) :
    PySem.W.WalkO q loose XP YP l.row.toRowW d [] (fun f vs => PySem.call f vs) :=
  L2.walk_of (n := 63) (k := 26) (x := "_law_script") (CX := fun _ => CX0) (sp := fun w => LSp (K w.params) spL) hn (by decide) hdf ⟨rfl, by decide, by decide⟩ hY F (fun _ _ a ns hl hO hS => lsp_law hl hO hS) fun _ _ _ _ _ z => z
end Lw
open PySem PySem.W PyProof.Rows
set_option maxRecDepth 100000 in
set_option maxHeartbeats 0 in
theorem PySem.Challenge.cw_notchsafe_k53_a_desk_answers_holds : PySem.Challenge.rw_notchsafe_k53_a_desk_answers.Holds := by
  refine Hd.head ?_
  k_fill
  refine Lw.walk (l := PySem.Challenge.rw_notchsafe_k53_a_desk_answers) rfl rfl (fun w h Y => PySem.W.kIn_of Y) ?F
  case F =>
    intro w mg fa h KX G hmg
    refine' Lw.all_mk KX G hmg ?z_abs ?z_all ?z_any ?z_bool ?z_enumerate ?z_int ?z_isinstance ?z_len ?z_list ?z_max ?z_min ?z_range ?z_sorted ?z_str ?z_sum ?z_tuple ?z_zip ?q_HOWS ?lq_HOWS ?q_NOTCHED ?q_PAIR ?q_PLAIN ?aC_Book ?pg_Book ?hd_Book ?po_Book ?sa_Book ?mk_Book ?kc_Book ?nf_Book_entries ?nf_Book_length ?nf_Book_text ?aC_Way ?pg_Way ?hd_Way ?po_Way ?sa_Way ?mk_Way ?kc_Way ?nf_Way_how ?nf_Way_most ?nf_Way_part ?aC_Trial ?pg_Trial ?hd_Trial ?po_Trial ?sa_Trial ?mk_Trial ?kc_Trial ?nf_Trial_held_ledger ?nf_Trial_old_sticks ?nf_Trial_old_sums ?nf_Trial_old_totals ?nf_Trial_old_past ?aC_Ledger ?pg_Ledger ?hd_Ledger ?po_Ledger ?sa_Ledger ?mk_Ledger ?kc_Ledger ?nf_Ledger_book ?nf_Ledger_past ?nf_Ledger_sticks ?nf_Ledger_sums ?nf_Ledger_totals ?aC_Pairing ?pg_Pairing ?hd_Pairing ?po_Pairing ?sa_Pairing ?mk_Pairing ?kc_Pairing ?nf_Pairing_sums ?nf_Pairing_above ?nf_Pairing_next_of ?nf_Pairing_from_of ?aC_Desk ?pg_Desk ?hd_Desk ?po_Desk ?sa_Desk ?mk_Desk ?kc_Desk ?nf_Desk_going ?nf_Desk_elders ?nf_Desk_deeds ?a0 ?l0 ?c0 ?k0 ?a1 ?l1 ?c1 ?k1 ?a2 ?l2 ?c2 ?k2 ?a3 ?l3 ?c3 ?k3 ?a4 ?l4 ?c4 ?k4 ?a5 ?l5 ?c5 ?k5 ?a6 ?i6 ?l6 ?c6 ?k6 ?d6 ?y6e0 ?a7 ?l7 ?c7 ?k7 ?a8 ?i8 ?l8 ?c8 ?k8 ?d8 ?a9 ?l9 ?c9 ?k9 ?a10 ?i10 ?l10 ?c10 ?k10 ?a11 ?i11 ?l11 ?c11 ?k11 ?a12 ?l12 ?c12 ?k12 ?a13 ?l13 ?c13 ?k13 ?a14 ?i14 ?l14 ?c14 ?k14 ?a15 ?i15 ?l15 ?c15 ?k15 ?a16 ?i16 ?l16 ?c16 ?k16 ?a17 ?i17 ?l17 ?c17 ?k17 ?a18 ?l18 ?c18 ?k18 ?a19 ?l19 ?c19 ?k19 ?a20 ?l20 ?c20 ?k20 ?a21 ?l21 ?c21 ?k21 ?a22 ?l22 ?c22 ?k22 ?a23 ?l23 ?c23 ?k23 ?a24 ?l24 ?c24 ?k24 ?a25 ?l25 ?c25 ?k25 ?a26 ?l26 ?c26 ?k26 ?a27 ?l27 ?c27 ?k27 ?a28 ?l28 ?c28 ?k28 ?a29 ?l29 ?c29 ?k29 ?a30 ?l30 ?c30 ?k30 ?a31 ?l31 ?c31 ?k31 ?a32 ?l32 ?c32 ?k32 ?a33 ?l33 ?c33 ?k33 ?a34 ?l34 ?c34 ?k34 ?a35 ?l35 ?c35 ?k35 ?a36 ?l36 ?c36 ?k36 ?a37 ?l37 ?c37 ?k37 ?ra38 ?rb38 ?ma38 ?mb38 ?mc38 ?l38 ?c38 ?k38 ?a39 ?l39 ?c39 ?k39 ?a40 ?l40 ?c40 ?k40 ?a41 ?l41 ?c41 ?k41 ?a42 ?i42 ?l42 ?c42 ?k42 ?a43 ?l43 ?c43 ?k43 ?a44 ?l44 ?c44 ?k44 ?a45 ?i45 ?l45 ?c45 ?k45 ?a46 ?i46 ?l46 ?c46 ?k46 ?a47 ?i47 ?l47 ?c47 ?k47 ?a48 ?l48 ?c48 ?k48 ?a49 ?l49 ?c49 ?k49 ?a50 ?i50 ?l50 ?c50 ?k50 ?a51 ?i51 ?l51 ?c51 ?k51 ?a52 ?i52 ?l52 ?c52 ?k52 ?a53 ?i53 ?l53 ?c53 ?k53 ?a54 ?i54 ?l54 ?c54 ?k54 ?a55 ?l55 ?c55 ?k55 ?a56 ?i56 ?l56 ?c56 ?k56 ?a57 ?i57 ?l57 ?c57 ?k57 ?a58 ?i58 ?l58 ?c58 ?k58 ?a59 ?i59 ?l59 ?c59 ?k59 ?a60 ?l60 ?c60 ?k60 ?a61 ?i61 ?l61 ?c61 ?k61 ?a62 ?l62 ?c62 ?k62
    (case z_abs => k_is)
    (case z_all => k_is)
    (case z_any => k_is)
    (case z_bool => k_is)
    (case z_enumerate => k_is)
    (case z_int => k_is)
    (case z_isinstance => k_is)
    (case z_len => k_is)
    (case z_list => k_is)
    (case z_max => k_is)
    (case z_min => k_is)
    (case z_range => k_is)
    (case z_sorted => k_is)
    (case z_str => k_is)
    (case z_sum => k_is)
    (case z_tuple => k_is)
    (case z_zip => k_is)
    (case q_HOWS => k_is)
    (case lq_HOWS => k_is)
    (case q_NOTCHED => k_is)
    (case q_PAIR => k_is)
    (case q_PLAIN => k_is)
    (case aC_Book => k_is)
    (case pg_Book => k_is)
    (case hd_Book => k_is)
    (case po_Book => k_is)
    (case sa_Book => k_is)
    (case mk_Book => k_is)
    (case kc_Book => k_is)
    (case nf_Book_entries => k_is)
    (case nf_Book_length => k_is)
    (case nf_Book_text => k_is)
    (case aC_Way => k_is)
    (case pg_Way => k_is)
    (case hd_Way => k_is)
    (case po_Way => k_is)
    (case sa_Way => k_is)
    (case mk_Way => k_is)
    (case kc_Way => k_is)
    (case nf_Way_how => k_is)
    (case nf_Way_most => k_is)
    (case nf_Way_part => k_is)
    (case aC_Trial => k_is)
    (case pg_Trial => k_is)
    (case hd_Trial => k_is)
    (case po_Trial => k_is)
    (case sa_Trial => k_is)
    (case mk_Trial => k_is)
    (case kc_Trial => k_is)
    (case nf_Trial_held_ledger => k_is)
    (case nf_Trial_old_sticks => k_is)
    (case nf_Trial_old_sums => k_is)
    (case nf_Trial_old_totals => k_is)
    (case nf_Trial_old_past => k_is)
    (case aC_Ledger => k_is)
    (case pg_Ledger => k_is)
    (case hd_Ledger => k_is)
    (case po_Ledger => k_is)
    (case sa_Ledger => k_is)
    (case mk_Ledger => k_is)
    (case kc_Ledger => k_is)
    (case nf_Ledger_book => k_is)
    (case nf_Ledger_past => k_is)
    (case nf_Ledger_sticks => k_is)
    (case nf_Ledger_sums => k_is)
    (case nf_Ledger_totals => k_is)
    (case aC_Pairing => k_is)
    (case pg_Pairing => k_is)
    (case hd_Pairing => k_is)
    (case po_Pairing => k_is)
    (case sa_Pairing => k_is)
    (case mk_Pairing => k_is)
    (case kc_Pairing => k_is)
    (case nf_Pairing_sums => k_is)
    (case nf_Pairing_above => k_is)
    (case nf_Pairing_next_of => k_is)
    (case nf_Pairing_from_of => k_is)
    (case aC_Desk => k_is)
    (case pg_Desk => k_is)
    (case hd_Desk => k_is)
    (case po_Desk => k_is)
    (case sa_Desk => k_is)
    (case mk_Desk => k_is)
    (case kc_Desk => k_is)
    (case nf_Desk_going => k_is)
    (case nf_Desk_elders => k_is)
    (case nf_Desk_deeds => k_is)
    (case a0 => k_is)
    (case l0 => k_is)
    (case c0 => k_is)
    (case k0 => k_is)
    (case a1 => k_is)
    (case l1 => k_is)
    (case c1 => k_is)
    (case k1 => k_is)
    (case a2 => k_is)
    (case l2 => k_is)
    (case c2 => k_is)
    (case k2 => k_is)
    (case a3 => k_is)
    (case l3 => k_is)
    (case c3 => k_is)
    (case k3 => k_is)
    (case a4 => k_is)
    (case l4 => k_is)
    (case c4 => k_is)
    (case k4 => k_is)
    (case a5 => k_is)
    (case l5 => k_is)
    (case c5 => k_is)
    (case k5 => k_is)
    (case a6 => k_is)
    (case i6 => k_is)
    (case l6 => k_is)
    (case c6 => k_is)
    (case k6 => k_is)
    (case d6 => k_is)
    (case y6e0 => k_is)
    (case a7 => k_is)
    (case l7 => k_is)
    (case c7 => k_is)
    (case k7 => k_is)
    (case a8 => k_is)
    (case i8 => k_is)
    (case l8 => k_is)
    (case c8 => k_is)
    (case k8 => k_is)
    (case d8 => k_is)
    (case a9 => k_is)
    (case l9 => k_is)
    (case c9 => k_is)
    (case k9 => k_is)
    (case a10 => k_is)
    (case i10 => k_is)
    (case l10 => k_is)
    (case c10 => k_is)
    (case k10 => k_is)
    (case a11 => k_is)
    (case i11 => k_is)
    (case l11 => k_is)
    (case c11 => k_is)
    (case k11 => k_is)
    (case a12 => k_is)
    (case l12 => k_is)
    (case c12 => k_is)
    (case k12 => k_is)
    (case a13 => k_is)
    (case l13 => k_is)
    (case c13 => k_is)
    (case k13 => k_is)
    (case a14 => k_is)
    (case i14 => k_is)
    (case l14 => k_is)
    (case c14 => k_is)
    (case k14 => k_is)
    (case a15 => k_is)
    (case i15 => k_is)
    (case l15 => k_is)
    (case c15 => k_is)
    (case k15 => k_is)
    (case a16 => k_is)
    (case i16 => k_is)
    (case l16 => k_is)
    (case c16 => k_is)
    (case k16 => k_is)
    (case a17 => k_is)
    (case i17 => k_is)
    (case l17 => k_is)
    (case c17 => k_is)
    (case k17 => k_is)
    (case a18 => k_is)
    (case l18 => k_is)
    (case c18 => k_is)
    (case k18 => k_is)
    (case a19 => k_is)
    (case l19 => k_is)
    (case c19 => k_is)
    (case k19 => k_is)
    (case a20 => k_is)
    (case l20 => k_is)
    (case c20 => k_is)
    (case k20 => k_is)
    (case a21 => k_is)
    (case l21 => k_is)
    (case c21 => k_is)
    (case k21 => k_is)
    (case a22 => k_is)
    (case l22 => k_is)
    (case c22 => k_is)
    (case k22 => k_is)
    (case a23 => k_is)
    (case l23 => k_is)
    (case c23 => k_is)
    (case k23 => k_is)
    (case a24 => k_is)
    (case l24 => k_is)
    (case c24 => k_is)
    (case k24 => k_is)
    (case a25 => k_is)
    (case l25 => k_is)
    (case c25 => k_is)
    (case k25 => k_is)
    (case a26 => k_is)
    (case l26 => k_is)
    (case c26 => k_is)
    (case k26 => k_is)
    (case a27 => k_is)
    (case l27 => k_is)
    (case c27 => k_is)
    (case k27 => k_is)
    (case a28 => k_is)
    (case l28 => k_is)
    (case c28 => k_is)
    (case k28 => k_is)
    (case a29 => k_is)
    (case l29 => k_is)
    (case c29 => k_is)
    (case k29 => k_is)
    (case a30 => k_is)
    (case l30 => k_is)
    (case c30 => k_is)
    (case k30 => k_is)
    (case a31 => k_is)
    (case l31 => k_is)
    (case c31 => k_is)
    (case k31 => k_is)
    (case a32 => k_is)
    (case l32 => k_is)
    (case c32 => k_is)
    (case k32 => k_is)
    (case a33 => k_is)
    (case l33 => k_is)
    (case c33 => k_is)
    (case k33 => k_is)
    (case a34 => k_is)
    (case l34 => k_is)
    (case c34 => k_is)
    (case k34 => k_is)
    (case a35 => k_is)
    (case l35 => k_is)
    (case c35 => k_is)
    (case k35 => k_is)
    (case a36 => k_is)
    (case l36 => k_is)
    (case c36 => k_is)
    (case k36 => k_is)
    (case a37 => k_is)
    (case l37 => k_is)
    (case c37 => k_is)
    (case k37 => k_is)
    (case ra38 => k_is)
    (case rb38 => k_is)
    (case ma38 => k_is)
    (case mb38 => k_is)
    (case mc38 => k_is)
    (case l38 => k_is)
    (case c38 => k_is)
    (case k38 => k_is)
    (case a39 => k_is)
    (case l39 => k_is)
    (case c39 => k_is)
    (case k39 => k_is)
    (case a40 => k_is)
    (case l40 => k_is)
    (case c40 => k_is)
    (case k40 => k_is)
    (case a41 => k_is)
    (case l41 => k_is)
    (case c41 => k_is)
    (case k41 => k_is)
    (case a42 => k_is)
    (case i42 => k_is)
    (case l42 => k_is)
    (case c42 => k_is)
    (case k42 => k_is)
    (case a43 => k_is)
    (case l43 => k_is)
    (case c43 => k_is)
    (case k43 => k_is)
    (case a44 => k_is)
    (case l44 => k_is)
    (case c44 => k_is)
    (case k44 => k_is)
    (case a45 => k_is)
    (case i45 => k_is)
    (case l45 => k_is)
    (case c45 => k_is)
    (case k45 => k_is)
    (case a46 => k_is)
    (case i46 => k_is)
    (case l46 => k_is)
    (case c46 => k_is)
    (case k46 => k_is)
    (case a47 => k_is)
    (case i47 => k_is)
    (case l47 => k_is)
    (case c47 => k_is)
    (case k47 => k_is)
    (case a48 => k_is)
    (case l48 => k_is)
    (case c48 => k_is)
    (case k48 => k_is)
    (case a49 => k_is)
    (case l49 => k_is)
    (case c49 => k_is)
    (case k49 => k_is)
    (case a50 => k_is)
    (case i50 => k_is)
    (case l50 => k_is)
    (case c50 => k_is)
    (case k50 => k_is)
    (case a51 => k_is)
    (case i51 => k_is)
    (case l51 => k_is)
    (case c51 => k_is)
    (case k51 => k_is)
    (case a52 => k_is)
    (case i52 => k_is)
    (case l52 => k_is)
    (case c52 => k_is)
    (case k52 => k_is)
    (case a53 => k_is)
    (case i53 => k_is)
    (case l53 => k_is)
    (case c53 => k_is)
    (case k53 => k_is)
    (case a54 => k_is)
    (case i54 => k_is)
    (case l54 => k_is)
    (case c54 => k_is)
    (case k54 => k_is)
    (case a55 => k_is)
    (case l55 => k_is)
    (case c55 => k_is)
    (case k55 => k_is)
    (case a56 => k_is)
    (case i56 => k_is)
    (case l56 => k_is)
    (case c56 => k_is)
    (case k56 => k_is)
    (case a57 => k_is)
    (case i57 => k_is)
    (case l57 => k_is)
    (case c57 => k_is)
    (case k57 => k_is)
    (case a58 => k_is)
    (case i58 => k_is)
    (case l58 => k_is)
    (case c58 => k_is)
    (case k58 => k_is)
    (case a59 => k_is)
    (case i59 => k_is)
    (case l59 => k_is)
    (case c59 => k_is)
    (case k59 => k_is)
    (case a60 => k_is)
    (case l60 => k_is)
    (case c60 => k_is)
    (case k60 => k_is)
    (case a61 => k_is)
    (case i61 => k_is)
    (case l61 => k_is)
    (case c61 => k_is)
    (case k61 => k_is)
    (case a62 => k_is)
    (case l62 => k_is)
    (case c62 => k_is)
    (case k62 => k_is)
